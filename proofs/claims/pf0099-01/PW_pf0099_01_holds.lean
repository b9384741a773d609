import PyProof.Rows.All
import Wide.All
import OpenK.AllK
import Wide.FinOn
import Lean
import PySem.Challenge.RW_pf0099_01
set_option Elab.async false

section
set_option autoImplicit false
set_option genSizeOf false
namespace Pf
open PySem (Operator CmpOp UnaryOp)

/-- an abstract value: a value of the machine without its token -/
inductive AVal where
  | int (i : Int)
  | bool (b : Bool)
  | none
  | ref (a : Nat)
  | cst (t : Bool) (a : Nat) (ns : List Int)

inductive AObj where
  | list (xs : List AVal)
  | tup (xs : List AVal)
  | inst (c d : Nat)
  | dict (fs : List (Nat × AVal))
  | range (lo hi st : Int)

noncomputable abbrev AHeap := Nat → Option AObj
noncomputable def put (σ : AHeap) (a : Nat) (o : AObj) : AHeap := fun b => if b = a then some o else σ b
noncomputable abbrev Loc := List (Option AVal)
noncomputable abbrev CW := Nat → List AVal → (AVal → AHeap → Prop) → AHeap → Prop

inductive Ex where
  | lit (v : AVal)
  | var (i : Nat)
  | bin (o : Operator) (l r : Ex)
  | una (o : UnaryOp) (e : Ex)
  | cmp (o : CmpOp) (l r : Ex)
  | cmp2 (o p : CmpOp) (l m r : Ex)
  | not (e : Ex)
  | and (es : List Ex)
  | or (es : List Ex)
  | ite (t a b : Ex)
  | attr (e : Ex) (f : Nat)
  | sub (e i : Ex)
  | tail (e i : Ex)
  | call (f : Nat) (as : List Ex)
  | new (c f : Nat) (as : List Ex)
  | len (e : Ex)
  | sum (e : Ex)
  | sorted (e : Ex)
  | range (as : List Ex)
  | mklist (e : Ex)
  | app (o e : Ex)
  | list (es : List Ex)
  | tup (es : List Ex)
  | comp (elt : Ex) (x : Nat) (iter : Ex) (ifs : List Ex)

inductive St where
  | asg (i : Nat) (e : Ex)
  | asgT (is : List Nat) (e : Ex)
  | asgA (o : Ex) (f : Nat) (e : Ex)
  | asgS (o i e : Ex)
  | augV (op : Operator) (i : Nat) (e : Ex)
  | augA (op : Operator) (o : Ex) (f : Nat) (e : Ex)
  | augS (op : Operator) (o i e : Ex)
  | ex (e : Ex)
  | ret (e : Ex)
  | iff (t : Ex) (a b : List St)
  | whl (t : Ex) (b : List St)
  | forV (i : Nat) (it : Ex) (b : List St)
  | forT (is : List Nat) (it : Ex) (b : List St)
  | cont
  | rais

inductive AFlow where
  | next
  | cont
  | ret (v : AVal)

noncomputable def zs (ns : List Int) : List AVal := ns.map .int
noncomputable def rangeN (lo hi st : Int) : Nat := if 0 < st then (hi - lo).toNat else (lo - hi).toNat
noncomputable def rangeL (lo hi st : Int) : List Int := (List.range (rangeN lo hi st)).map fun (k : Nat) => lo + (k : Int) * st

/-- what an object hands out, turn by turn -/
noncomputable def itemsOf : AObj → Option (List AVal)
  | .list xs => some xs
  | .tup xs => some xs
  | .range lo hi st => some (zs (rangeL lo hi st))
  | _ => none

noncomputable def varW (m : Loc) (i : Nat) (Q : AVal → AHeap → Prop) (σ : AHeap) : Prop := match m[i]? with
  | some (some v) => Q v σ
  | _ => False

noncomputable def small (a : Int) : Prop := -1152921504606846976 ≤ a ∧ a ≤ 1152921504606846976

noncomputable def binI (o : Operator) (a b : Int) (Q : AVal → AHeap → Prop) (σ : AHeap) : Prop := match o with
  | .Add => Q (.int (a + b)) σ
  | .Sub => Q (.int (a - b)) σ
  | .Mult => small a ∧ Q (.int (a * b)) σ
  | .FloorDiv => (0 < b ∧ b ≤ 1000000000) ∧ Q (.int (a / b)) σ
  | .Mod => 0 < b ∧ Q (.int (a % b)) σ
  | .Pow => (a = 2 ∧ 0 ≤ b ∧ b ≤ 64) ∧ Q (.int (2 ^ b.toNat)) σ
  | .LShift => (small a ∧ 0 ≤ b ∧ b ≤ 64) ∧ Q (.int (a * 2 ^ b.toNat)) σ
  | .RShift => (0 ≤ a ∧ 0 ≤ b) ∧ Q (.int (a / 2 ^ b.toNat)) σ
  | .BitAnd => Q (.int (PySem.Builtin.bitAnd a b)) σ
  | .BitOr => Q (.int (PySem.Builtin.bitOr a b)) σ
  | .BitXor => Q (.int (PySem.Builtin.bitXor a b)) σ
  | _ => False
noncomputable def binW (o : Operator) (x y : AVal) (Q : AVal → AHeap → Prop) (σ : AHeap) : Prop := match x, y with
  | .int a, .int b => binI o a b Q σ
  | .ref a, .ref b => (match o with
    | .Add => (match σ a, σ b with
      | some (.list xs), some (.list ys) => (xs.length ≤ 1000 ∧ ys.length ≤ 1000) ∧ ∀ c, σ c = none → Q (.ref c) (put σ c (.list (xs ++ ys)))
      | _, _ => False)
    | _ => False)
  | .ref a, .int n => (match o with
    | .Mult => (match σ a with
      | some (.list [x]) => (0 ≤ n ∧ n ≤ 1000) ∧ ∀ c, σ c = none → Q (.ref c) (put σ c (.list (List.replicate n.toNat x)))
      | _ => False)
    | _ => False)
  | _, _ => False

/-- an operation in place: a list's += keeps the list -/
noncomputable def augW (o : Operator) (x y : AVal) (Q : AVal → AHeap → Prop) (σ : AHeap) : Prop := match x, y with
  | .int a, .int b => binW o (.int a) (.int b) Q σ
  | .ref a, .ref b => (match o with
    | .Add => (match σ a, σ b with
      | some (.list xs), some (.list ys) => a ≠ b ∧ (xs.length ≤ 1000 ∧ ys.length ≤ 1000) ∧ Q (.ref a) (put σ a (.list (xs ++ ys)))
      | _, _ => False)
    | _ => False)
  | _, _ => False

noncomputable def unaW (o : UnaryOp) (x : AVal) (Q : AVal → AHeap → Prop) (σ : AHeap) : Prop := match o, x with
  | .USub, .int a => Q (.int (-a)) σ
  | .Invert, .int a => Q (.int (-a - 1)) σ
  | _, _ => False

noncomputable def icmp (o : CmpOp) (a b : Int) : Option Bool := match o with
  | .Eq => some (decide (a = b))
  | .NotEq => some (!decide (a = b))
  | .Lt => some (decide (a < b))
  | .LtE => some (decide (a ≤ b))
  | .Gt => some (decide (b < a))
  | .GtE => some (decide (b ≤ a))
  | _ => none

noncomputable def lcmp (o : CmpOp) (σ : AHeap) (a b : Nat) (Q : Bool → Prop) : Prop :=
  ∃ ns ms : List Int, ((σ a = some (.list (zs ns)) ∧ σ b = some (.list (zs ms))) ∨ (σ a = some (.tup (zs ns)) ∧ σ b = some (.tup (zs ms)))) ∧
    match o with
    | .Eq => Q (decide (ns = ms))
    | .NotEq => Q (!decide (ns = ms))
    | _ => False

noncomputable def cmpW (o : CmpOp) (x y : AVal) (Q : Bool → Prop) (σ : AHeap) : Prop := match x, y with
  | .int a, .int b => (match icmp o a b with | some c => Q c | none => False)
  | .ref a, .ref b => lcmp o σ a b Q
  | _, _ => False

noncomputable def truthW (x : AVal) (Q : Bool → Prop) : Prop := match x with
  | .int a => Q (!decide (a = 0))
  | .bool b => Q b
  | _ => False

noncomputable def attrW (x : AVal) (f : Nat) (Q : AVal → AHeap → Prop) (σ : AHeap) : Prop := match x with
  | .ref a => match σ a with
    | some (.inst _ d) => match σ d with
      | some (.dict fs) => match fs.lookup f with
        | some v => Q v σ
        | none => False
      | _ => False
    | _ => False
  | _ => False

noncomputable def putF (fs : List (Nat × AVal)) (f : Nat) (v : AVal) : List (Nat × AVal) := match fs with
  | [] => [(f, v)]
  | (g, w) :: r => if g = f then (g, v) :: r else (g, w) :: putF r f v

noncomputable def setAW (x : AVal) (f : Nat) (v : AVal) (Q : AHeap → Prop) (σ : AHeap) : Prop := match x with
  | .ref a => match σ a with
    | some (.inst _ d) => match σ d with
      | some (.dict fs) => fs.length ≤ 100 ∧ Q (put σ d (.dict (putF fs f v)))
      | _ => False
    | _ => False
  | _ => False

noncomputable def seqAt (σ : AHeap) : AVal → Option (List AVal)
  | .ref a => match σ a with
    | some (.list xs) => some xs
    | some (.tup xs) => some xs
    | _ => none
  | .cst _ _ ns => some (zs ns)
  | _ => none

noncomputable def subW (x i : AVal) (Q : AVal → AHeap → Prop) (σ : AHeap) : Prop := match i with
  | .int k => match seqAt σ x with
    | some xs => 0 ≤ k ∧ k < 1000000 ∧ (match xs[k.toNat]? with | some v => Q v σ | none => False)
    | none => False
  | _ => False

noncomputable def setSW (x i v : AVal) (Q : AHeap → Prop) (σ : AHeap) : Prop := match x, i with
  | .ref a, .int k => match σ a with
    | some (.list xs) => (0 ≤ k ∧ k.toNat < xs.length ∧ xs.length ≤ 1000000) ∧ Q (put σ a (.list (xs.set k.toNat v)))
    | _ => False
  | _, _ => False

noncomputable def tailW (x i : AVal) (Q : AVal → AHeap → Prop) (σ : AHeap) : Prop := match x, i with
  | .ref a, .int k => ∃ ns : List Int, σ a = some (.list (zs ns)) ∧ k = 1 ∧ ns.length ≤ 1000 ∧ ∀ c, σ c = none → Q (.ref c) (put σ c (.list (zs (ns.drop 1))))
  | _, _ => False

noncomputable def lenW (x : AVal) (Q : AVal → AHeap → Prop) (σ : AHeap) : Prop := match x with
  | .cst false _ ns => ns.length < 1000000000 ∧ Q (.int ns.length) σ
  | _ => False

noncomputable def sumW (x : AVal) (Q : AVal → AHeap → Prop) (σ : AHeap) : Prop := match x with
  | .ref a => ∃ ns : List Int, σ a = some (.list (zs ns)) ∧ (∀ n ∈ ns, 0 ≤ n) ∧ ns.sum ≤ 1152921504606846976 ∧ ns.length ≤ 1000 ∧ Q (.int ns.sum) σ
  | _ => False

noncomputable def sortedW (x : AVal) (Q : AVal → AHeap → Prop) (σ : AHeap) : Prop := match x with
  | .ref a => ∃ ns : List Int, σ a = some (.list (zs ns)) ∧ ns.length < 64 ∧
    ∀ ms : List Int, ms.Perm ns → ms.Pairwise (· ≤ ·) → ∀ c, σ c = none → Q (.ref c) (put σ c (.list (zs ms)))
  | _ => False

noncomputable def rangeW (as : List AVal) (Q : AVal → AHeap → Prop) (σ : AHeap) : Prop :=
  (∃ n, as = [.int n] ∧ small n ∧ ∀ c, σ c = none → Q (.ref c) (put σ c (.range 0 n 1))) ∨
  ∃ a b s, as = [.int a, .int b, .int s] ∧ (small a ∧ small b ∧ (s = 1 ∨ s = -1)) ∧ ∀ c, σ c = none → Q (.ref c) (put σ c (.range a b s))

noncomputable def mklistW (x : AVal) (Q : AVal → AHeap → Prop) (σ : AHeap) : Prop := match x with
  | .ref a => match σ a with
    | some (.range lo hi st) => rangeN lo hi st ≤ 1000 ∧ ∀ c, σ c = none → Q (.ref c) (put σ c (.list (zs (rangeL lo hi st))))
    | _ => False
  | _ => False

noncomputable def appW (x v : AVal) (Q : AVal → AHeap → Prop) (σ : AHeap) : Prop := match x with
  | .ref a => match σ a with
    | some (.list xs) => xs.length ≤ 1000000 ∧ Q .none (put σ a (.list (xs ++ [v])))
    | _ => False
  | _ => False

noncomputable def isList (σ : AHeap) (x : AVal) : Prop := match x with
  | .ref a => match σ a with
    | some (.list _) => True
    | _ => False
  | _ => False

noncomputable def unpackW (v : AVal) (is : List Nat) (Q : Loc → Prop) (m : Loc) (σ : AHeap) : Prop := match v with
  | .ref a => match σ a with
    | some (.tup xs) => xs.length = is.length ∧ Q ((is.zip xs).foldl (fun m p => m.set p.1 (some p.2)) m)
    | _ => False
  | _ => False

/-- a comprehension's turns: a | o the source, as it must stay; c the list that is made -/
noncomputable def compN (T : Loc → (Bool → AHeap → Prop) → AHeap → Prop) (B : Loc → (AVal → AHeap → Prop) → AHeap → Prop) (x : Nat) (m : Loc) (a : Nat) (o : AObj) (c : Nat)
    (Q : AVal → AHeap → Prop) : List AVal → List AVal → AHeap → Prop
  | [], acc, σ => Q (.ref c) σ ∧ σ c = some (.list acc)
  | i :: r, acc, σ => T (m.set x (some i)) (fun b σ1 => match b with
      | true => B (m.set x (some i)) (fun y σ2 => σ2 c = some (.list acc) ∧ acc.length ≤ 1000000 ∧ σ2 a = some o ∧ compN T B x m a o c Q r (acc ++ [y]) (put σ2 c (.list (acc ++ [y])))) σ1
      | false => σ1 c = some (.list acc) ∧ σ1 a = some o ∧ compN T B x m a o c Q r acc σ1) σ

noncomputable def forN (B : Loc → (AFlow → Loc → AHeap → Prop) → AHeap → Prop) (bind : AVal → (Loc → Prop) → Loc → AHeap → Prop) (a : Nat) (o : AObj)
    (Q : AFlow → Loc → AHeap → Prop) : List AVal → Loc → AHeap → Prop
  | [], m, σ => Q .next m σ
  | i :: r, m, σ => bind i (fun m1 => B m1 (fun f m2 σ2 => match f with
      | .ret w => Q (.ret w) m2 σ2
      | _ => σ2 a = some o ∧ forN B bind a o Q r m2 σ2) σ) m σ

noncomputable def whileN (T : Loc → (Bool → AHeap → Prop) → AHeap → Prop) (B : Loc → (AFlow → Loc → AHeap → Prop) → AHeap → Prop)
    (Q : AFlow → Loc → AHeap → Prop) : Nat → Loc → AHeap → Prop
  | 0, _, _ => False
  | n + 1, m, σ => T m (fun b σ1 => match b with
      | true => B m (fun f m2 σ2 => match f with
        | .ret w => Q (.ret w) m2 σ2
        | _ => whileN T B Q n m2 σ2) σ1
      | false => Q .next m σ1) σ

mutual
noncomputable def wpE (cw : CW) : Ex → Loc → (AVal → AHeap → Prop) → AHeap → Prop
  | .lit v, _, Q, σ => Q v σ
  | .var i, m, Q, σ => varW m i Q σ
  | .bin o l r, m, Q, σ => wpE cw l m (fun a σ1 => wpE cw r m (fun b σ2 => binW o a b Q σ2) σ1) σ
  | .una o e, m, Q, σ => wpE cw e m (fun a σ1 => unaW o a Q σ1) σ
  | .cmp o l r, m, Q, σ => wpE cw l m (fun a σ1 => wpE cw r m (fun b σ2 => cmpW o a b (fun c => Q (.bool c) σ2) σ2) σ1) σ
  | .cmp2 o p l x r, m, Q, σ => wpE cw l m (fun a σ1 => wpE cw x m (fun b σ2 => cmpW o a b (fun c => match c with
      | true => wpE cw r m (fun d σ3 => cmpW p b d (fun c => Q (.bool c) σ3) σ3) σ2
      | false => Q (.bool false) σ2) σ2) σ1) σ
  | .not e, m, Q, σ => wpE cw e m (fun a σ1 => truthW a fun b => Q (.bool !b) σ1) σ
  | .and es, m, Q, σ => wpB cw true es m Q σ
  | .or es, m, Q, σ => wpB cw false es m Q σ
  | .ite t a b, m, Q, σ => wpT cw t m (fun c σ1 => match c with | true => wpE cw a m Q σ1 | false => wpE cw b m Q σ1) σ
  | .attr e f, m, Q, σ => wpE cw e m (fun a σ1 => attrW a f Q σ1) σ
  | .sub e i, m, Q, σ => wpE cw e m (fun a σ1 => wpE cw i m (fun k σ2 => subW a k Q σ2) σ1) σ
  | .tail e i, m, Q, σ => wpE cw e m (fun a σ1 => wpE cw i m (fun k σ2 => tailW a k Q σ2) σ1) σ
  | .call f as, m, Q, σ => wpEs cw as m (fun vs σ1 => cw f vs Q σ1) σ
  | .new c f as, m, Q, σ => wpEs cw as m (fun vs σ1 => ∀ d x, σ1 d = none → σ1 x = none → d ≠ x →
      cw f (.ref x :: vs) (fun v σ2 => v = .none ∧ Q (.ref x) σ2) (put (put σ1 d (.dict [])) x (.inst c d))) σ
  | .len e, m, Q, σ => wpE cw e m (fun a σ1 => lenW a Q σ1) σ
  | .sum e, m, Q, σ => wpE cw e m (fun a σ1 => sumW a Q σ1) σ
  | .sorted e, m, Q, σ => wpE cw e m (fun a σ1 => sortedW a Q σ1) σ
  | .range as, m, Q, σ => wpEs cw as m (fun vs σ1 => rangeW vs Q σ1) σ
  | .mklist e, m, Q, σ => wpE cw e m (fun a σ1 => mklistW a Q σ1) σ
  | .app o e, m, Q, σ => wpE cw o m (fun a σ1 => isList σ1 a ∧ wpE cw e m (fun v σ2 => appW a v Q σ2) σ1) σ
  | .list es, m, Q, σ => wpEs cw es m (fun vs σ1 => vs.length ≤ 1000 ∧ ∀ c, σ1 c = none → Q (.ref c) (put σ1 c (.list vs))) σ
  | .tup es, m, Q, σ => wpEs cw es m (fun vs σ1 => vs.length ≤ 1000 ∧ ∀ c, σ1 c = none → Q (.ref c) (put σ1 c (.tup vs))) σ
  | .comp elt x it ifs, m, Q, σ => wpE cw it m (fun v σ1 => ∃ a o all, v = .ref a ∧ σ1 a = some o ∧ itemsOf o = some all ∧ all.length ≤ 1000000 ∧ ∀ c, σ1 c = none →
      compN (fun m Q σ => wpTs cw true ifs m Q σ) (fun m Q σ => wpE cw elt m Q σ) x m a o c Q all [] (put σ1 c (.list []))) σ
/-- truth of a test -/
noncomputable def wpT (cw : CW) : Ex → Loc → (Bool → AHeap → Prop) → AHeap → Prop
  | .not e, m, Q, σ => wpT cw e m (fun b σ1 => Q (!b) σ1) σ
  | .and es, m, Q, σ => wpTs cw true es m Q σ
  | .or es, m, Q, σ => wpTs cw false es m Q σ
  | .cmp o l r, m, Q, σ => wpE cw l m (fun a σ1 => wpE cw r m (fun b σ2 => cmpW o a b (fun c => Q c σ2) σ2) σ1) σ
  | .cmp2 o p l x r, m, Q, σ => wpE cw l m (fun a σ1 => wpE cw x m (fun b σ2 => cmpW o a b (fun c => match c with
      | true => wpE cw r m (fun d σ3 => cmpW p b d (fun c => Q c σ3) σ3) σ2
      | false => Q false σ2) σ2) σ1) σ
  | .ite _ _ _, _, _, _ => False
  | .lit v, _, Q, σ => truthW v fun b => Q b σ
  | .var i, m, Q, σ => varW m i (fun v σ1 => truthW v fun b => Q b σ1) σ
  | .bin o l r, m, Q, σ => wpE cw l m (fun a σ1 => wpE cw r m (fun b σ2 => binW o a b (fun v σ3 => truthW v fun b => Q b σ3) σ2) σ1) σ
  | .una o e, m, Q, σ => wpE cw e m (fun a σ1 => unaW o a (fun v σ3 => truthW v fun b => Q b σ3) σ1) σ
  | .attr e f, m, Q, σ => wpE cw e m (fun a σ1 => attrW a f (fun v σ3 => truthW v fun b => Q b σ3) σ1) σ
  | .call f as, m, Q, σ => wpEs cw as m (fun vs σ1 => cw f vs (fun v σ3 => truthW v fun b => Q b σ3) σ1) σ
  | _, _, _, _ => False
/-- arguments from left to right -/
noncomputable def wpEs (cw : CW) : List Ex → Loc → (List AVal → AHeap → Prop) → AHeap → Prop
  | [], _, Q, σ => Q [] σ
  | e :: r, m, Q, σ => wpE cw e m (fun v σ1 => wpEs cw r m (fun vs σ2 => Q (v :: vs) σ2) σ1) σ
/-- and | or as a value -/
noncomputable def wpB (cw : CW) (isAnd : Bool) : List Ex → Loc → (AVal → AHeap → Prop) → AHeap → Prop
  | [], _, _, _ => False
  | [e], m, Q, σ => wpE cw e m Q σ
  | e :: f :: r, m, Q, σ => wpE cw e m (fun v σ1 => truthW v fun b => if b = isAnd then wpB cw isAnd (f :: r) m Q σ1 else Q v σ1) σ
/-- and | or in a test -/
noncomputable def wpTs (cw : CW) (isAnd : Bool) : List Ex → Loc → (Bool → AHeap → Prop) → AHeap → Prop
  | [], _, Q, σ => Q isAnd σ
  | e :: r, m, Q, σ => wpT cw e m (fun b σ1 => if b = isAnd then wpTs cw isAnd r m Q σ1 else Q (!isAnd) σ1) σ
end

noncomputable def bindV (i : Nat) : AVal → (Loc → Prop) → Loc → AHeap → Prop := fun v Q m _ => Q (m.set i (some v))
noncomputable def bindT (is : List Nat) : AVal → (Loc → Prop) → Loc → AHeap → Prop := fun v Q m σ => unpackW v is Q m σ

mutual
noncomputable def wpS (cw : CW) : St → Loc → (AFlow → Loc → AHeap → Prop) → AHeap → Prop
  | .asg i e, m, Q, σ => wpE cw e m (fun v σ1 => Q .next (m.set i (some v)) σ1) σ
  | .asgT is e, m, Q, σ => wpE cw e m (fun v σ1 => unpackW v is (fun m1 => Q .next m1 σ1) m σ1) σ
  | .asgA o f e, m, Q, σ => wpE cw e m (fun v σ1 => wpE cw o m (fun a σ2 => setAW a f v (fun σ3 => Q .next m σ3) σ2) σ1) σ
  | .asgS o i e, m, Q, σ => wpE cw e m (fun v σ1 => wpE cw o m (fun a σ2 => wpE cw i m (fun k σ3 => setSW a k v (fun σ4 => Q .next m σ4) σ3) σ2) σ1) σ
  | .augV op i e, m, Q, σ => varW m i (fun a σ0 => wpE cw e m (fun v σ1 => augW op a v (fun r σ2 => Q .next (m.set i (some r)) σ2) σ1) σ0) σ
  | .augA op o f e, m, Q, σ => wpE cw o m (fun a σ1 => attrW a f (fun old σ2 => wpE cw e m (fun v σ3 => augW op old v (fun r σ4 => setAW a f r (fun σ5 => Q .next m σ5) σ4) σ3) σ2) σ1) σ
  | .augS op o i e, m, Q, σ => wpE cw o m (fun a σ1 => wpE cw i m (fun k σ2 => subW a k (fun old σ3 => wpE cw e m (fun v σ4 => augW op old v (fun r σ5 => setSW a k r (fun σ6 => Q .next m σ6) σ5) σ4) σ3) σ2) σ1) σ
  | .ex e, m, Q, σ => wpE cw e m (fun v σ1 => v = .none ∧ Q .next m σ1) σ
  | .ret e, m, Q, σ => wpE cw e m (fun v σ1 => Q (.ret v) m σ1) σ
  | .iff t a b, m, Q, σ => wpT cw t m (fun c σ1 => match c with | true => wpSs cw a m Q σ1 | false => wpSs cw b m Q σ1) σ
  | .whl t b, m, Q, σ => ∃ n, whileN (fun m Q σ => wpT cw t m Q σ) (fun m Q σ => wpSs cw b m Q σ) Q n m σ
  | .forV i it b, m, Q, σ => wpE cw it m (fun v σ1 => ∃ a o all, v = .ref a ∧ σ1 a = some o ∧ itemsOf o = some all ∧ forN (fun m Q σ => wpSs cw b m Q σ) (bindV i) a o Q all m σ1) σ
  | .forT is it b, m, Q, σ => wpE cw it m (fun v σ1 => ∃ a all, v = .ref a ∧ σ1 a = some (.list all) ∧ forN (fun m Q σ => wpSs cw b m Q σ) (bindT is) a (.list all) Q all m σ1) σ
  | .cont, m, Q, σ => Q .cont m σ
  | .rais, _, _, _ => False
noncomputable def wpSs (cw : CW) : List St → Loc → (AFlow → Loc → AHeap → Prop) → AHeap → Prop
  | [], m, Q, σ => Q .next m σ
  | s :: r, m, Q, σ => wpS cw s m (fun f m1 σ1 => match f with
      | .next => wpSs cw r m1 Q σ1
      | f => Q f m1 σ1) σ
end

structure Fn where
  np : Nat
  nl : Nat
  body : List St

noncomputable def retOf : AFlow → AVal
  | .ret v => v
  | _ => .none

noncomputable def callW (P : Nat → Option Fn) : Nat → CW
  | 0, _, _, _, _ => False
  | k + 1, f, vs, Q, σ => match P f with
    | some fn => vs.length = fn.np ∧ wpSs (callW P k) fn.body (vs.map some ++ List.replicate fn.nl none) (fun fl _ σ1 => Q (retOf fl) σ1) σ
    | none => False

end Pf
end

section
set_option autoImplicit false
set_option linter.unusedVariables false
namespace Pf
open PySem (Operator CmpOp UnaryOp)
theorem We1 {cw : CW} {v : AVal} {m : Loc} {Q : AVal → AHeap → Prop} {σ : AHeap} : wpE cw (.lit v) m Q σ = (Q v σ) := rfl
theorem We2 {cw : CW} {i : Nat} {m : Loc} {Q : AVal → AHeap → Prop} {σ : AHeap} : wpE cw (.var i) m Q σ = (varW m i Q σ) := rfl
theorem We3 {cw : CW} {o : Operator} {l : Ex} {r : Ex} {m : Loc} {Q : AVal → AHeap → Prop} {σ : AHeap} : wpE cw (.bin o l r) m Q σ = (wpE cw l m (fun a σ1 => wpE cw r m (fun b σ2 => binW o a b Q σ2) σ1) σ) := rfl
theorem We4 {cw : CW} {o : UnaryOp} {e : Ex} {m : Loc} {Q : AVal → AHeap → Prop} {σ : AHeap} : wpE cw (.una o e) m Q σ = (wpE cw e m (fun a σ1 => unaW o a Q σ1) σ) := rfl
theorem We5 {cw : CW} {o : CmpOp} {l : Ex} {r : Ex} {m : Loc} {Q : AVal → AHeap → Prop} {σ : AHeap} : wpE cw (.cmp o l r) m Q σ = (wpE cw l m (fun a σ1 => wpE cw r m (fun b σ2 => cmpW o a b (fun c => Q (.bool c) σ2) σ2) σ1) σ) := rfl
theorem We6 {cw : CW} {o : CmpOp} {p : CmpOp} {l : Ex} {x : Ex} {r : Ex} {m : Loc} {Q : AVal → AHeap → Prop} {σ : AHeap} : wpE cw (.cmp2 o p l x r) m Q σ = (wpE cw l m (fun a σ1 => wpE cw x m (fun b σ2 => cmpW o a b (fun c => match c with
      | true => wpE cw r m (fun d σ3 => cmpW p b d (fun c => Q (.bool c) σ3) σ3) σ2
      | false => Q (.bool false) σ2) σ2) σ1) σ) := rfl
theorem We7 {cw : CW} {e : Ex} {m : Loc} {Q : AVal → AHeap → Prop} {σ : AHeap} : wpE cw (.not e) m Q σ = (wpE cw e m (fun a σ1 => truthW a fun b => Q (.bool !b) σ1) σ) := rfl
theorem We8 {cw : CW} {es : List Ex} {m : Loc} {Q : AVal → AHeap → Prop} {σ : AHeap} : wpE cw (.and es) m Q σ = (wpB cw true es m Q σ) := rfl
theorem We9 {cw : CW} {es : List Ex} {m : Loc} {Q : AVal → AHeap → Prop} {σ : AHeap} : wpE cw (.or es) m Q σ = (wpB cw false es m Q σ) := rfl
theorem We10 {cw : CW} {t : Ex} {a : Ex} {b : Ex} {m : Loc} {Q : AVal → AHeap → Prop} {σ : AHeap} : wpE cw (.ite t a b) m Q σ = (wpT cw t m (fun c σ1 => match c with | true => wpE cw a m Q σ1 | false => wpE cw b m Q σ1) σ) := rfl
theorem We11 {cw : CW} {e : Ex} {f : Nat} {m : Loc} {Q : AVal → AHeap → Prop} {σ : AHeap} : wpE cw (.attr e f) m Q σ = (wpE cw e m (fun a σ1 => attrW a f Q σ1) σ) := rfl
theorem We12 {cw : CW} {e : Ex} {i : Ex} {m : Loc} {Q : AVal → AHeap → Prop} {σ : AHeap} : wpE cw (.sub e i) m Q σ = (wpE cw e m (fun a σ1 => wpE cw i m (fun k σ2 => subW a k Q σ2) σ1) σ) := rfl
theorem We13 {cw : CW} {e : Ex} {i : Ex} {m : Loc} {Q : AVal → AHeap → Prop} {σ : AHeap} : wpE cw (.tail e i) m Q σ = (wpE cw e m (fun a σ1 => wpE cw i m (fun k σ2 => tailW a k Q σ2) σ1) σ) := rfl
theorem We14 {cw : CW} {f : Nat} {as : List Ex} {m : Loc} {Q : AVal → AHeap → Prop} {σ : AHeap} : wpE cw (.call f as) m Q σ = (wpEs cw as m (fun vs σ1 => cw f vs Q σ1) σ) := rfl
theorem We15 {cw : CW} {c : Nat} {f : Nat} {as : List Ex} {m : Loc} {Q : AVal → AHeap → Prop} {σ : AHeap} : wpE cw (.new c f as) m Q σ = (wpEs cw as m (fun vs σ1 => ∀ d x, σ1 d = none → σ1 x = none → d ≠ x →
      cw f (.ref x :: vs) (fun v σ2 => v = .none ∧ Q (.ref x) σ2) (put (put σ1 d (.dict [])) x (.inst c d))) σ) := rfl
theorem We16 {cw : CW} {e : Ex} {m : Loc} {Q : AVal → AHeap → Prop} {σ : AHeap} : wpE cw (.len e) m Q σ = (wpE cw e m (fun a σ1 => lenW a Q σ1) σ) := rfl
theorem We17 {cw : CW} {e : Ex} {m : Loc} {Q : AVal → AHeap → Prop} {σ : AHeap} : wpE cw (.sum e) m Q σ = (wpE cw e m (fun a σ1 => sumW a Q σ1) σ) := rfl
theorem We18 {cw : CW} {e : Ex} {m : Loc} {Q : AVal → AHeap → Prop} {σ : AHeap} : wpE cw (.sorted e) m Q σ = (wpE cw e m (fun a σ1 => sortedW a Q σ1) σ) := rfl
theorem We19 {cw : CW} {as : List Ex} {m : Loc} {Q : AVal → AHeap → Prop} {σ : AHeap} : wpE cw (.range as) m Q σ = (wpEs cw as m (fun vs σ1 => rangeW vs Q σ1) σ) := rfl
theorem We20 {cw : CW} {e : Ex} {m : Loc} {Q : AVal → AHeap → Prop} {σ : AHeap} : wpE cw (.mklist e) m Q σ = (wpE cw e m (fun a σ1 => mklistW a Q σ1) σ) := rfl
theorem We21 {cw : CW} {o : Ex} {e : Ex} {m : Loc} {Q : AVal → AHeap → Prop} {σ : AHeap} : wpE cw (.app o e) m Q σ = (wpE cw o m (fun a σ1 => isList σ1 a ∧ wpE cw e m (fun v σ2 => appW a v Q σ2) σ1) σ) := rfl
theorem We22 {cw : CW} {es : List Ex} {m : Loc} {Q : AVal → AHeap → Prop} {σ : AHeap} : wpE cw (.list es) m Q σ = (wpEs cw es m (fun vs σ1 => vs.length ≤ 1000 ∧ ∀ c, σ1 c = none → Q (.ref c) (put σ1 c (.list vs))) σ) := rfl
theorem We23 {cw : CW} {es : List Ex} {m : Loc} {Q : AVal → AHeap → Prop} {σ : AHeap} : wpE cw (.tup es) m Q σ = (wpEs cw es m (fun vs σ1 => vs.length ≤ 1000 ∧ ∀ c, σ1 c = none → Q (.ref c) (put σ1 c (.tup vs))) σ) := rfl
theorem We24 {cw : CW} {elt : Ex} {x : Nat} {it : Ex} {ifs : List Ex} {m : Loc} {Q : AVal → AHeap → Prop} {σ : AHeap} : wpE cw (.comp elt x it ifs) m Q σ = (wpE cw it m (fun v σ1 => ∃ a o all, v = .ref a ∧ σ1 a = some o ∧ itemsOf o = some all ∧ all.length ≤ 1000000 ∧ ∀ c, σ1 c = none →
      compN (fun m Q σ => wpTs cw true ifs m Q σ) (fun m Q σ => wpE cw elt m Q σ) x m a o c Q all [] (put σ1 c (.list []))) σ) := rfl
theorem Wt1 {cw : CW} {e : Ex} {m : Loc} {Q : Bool → AHeap → Prop} {σ : AHeap} : wpT cw (.not e) m Q σ = (wpT cw e m (fun b σ1 => Q (!b) σ1) σ) := rfl
theorem Wt2 {cw : CW} {es : List Ex} {m : Loc} {Q : Bool → AHeap → Prop} {σ : AHeap} : wpT cw (.and es) m Q σ = (wpTs cw true es m Q σ) := rfl
theorem Wt3 {cw : CW} {es : List Ex} {m : Loc} {Q : Bool → AHeap → Prop} {σ : AHeap} : wpT cw (.or es) m Q σ = (wpTs cw false es m Q σ) := rfl
theorem Wt4 {cw : CW} {o : CmpOp} {l : Ex} {r : Ex} {m : Loc} {Q : Bool → AHeap → Prop} {σ : AHeap} : wpT cw (.cmp o l r) m Q σ = (wpE cw l m (fun a σ1 => wpE cw r m (fun b σ2 => cmpW o a b (fun c => Q c σ2) σ2) σ1) σ) := rfl
theorem Wt5 {cw : CW} {o : CmpOp} {p : CmpOp} {l : Ex} {x : Ex} {r : Ex} {m : Loc} {Q : Bool → AHeap → Prop} {σ : AHeap} : wpT cw (.cmp2 o p l x r) m Q σ = (wpE cw l m (fun a σ1 => wpE cw x m (fun b σ2 => cmpW o a b (fun c => match c with
      | true => wpE cw r m (fun d σ3 => cmpW p b d (fun c => Q c σ3) σ3) σ2
      | false => Q false σ2) σ2) σ1) σ) := rfl
theorem Wt6 {cw : CW} {y0 : Ex} {y1 : Ex} {y2 : Ex} {m : Loc} {Q : Bool → AHeap → Prop} {σ : AHeap} : wpT cw (.ite y0 y1 y2) m Q σ = (False) := rfl
theorem Wt7 {cw : CW} {v : AVal} {m : Loc} {Q : Bool → AHeap → Prop} {σ : AHeap} : wpT cw (.lit v) m Q σ = (truthW v fun b => Q b σ) := rfl
theorem Wt8 {cw : CW} {i : Nat} {m : Loc} {Q : Bool → AHeap → Prop} {σ : AHeap} : wpT cw (.var i) m Q σ = (varW m i (fun v σ1 => truthW v fun b => Q b σ1) σ) := rfl
theorem Wt9 {cw : CW} {o : Operator} {l : Ex} {r : Ex} {m : Loc} {Q : Bool → AHeap → Prop} {σ : AHeap} : wpT cw (.bin o l r) m Q σ = (wpE cw l m (fun a σ1 => wpE cw r m (fun b σ2 => binW o a b (fun v σ3 => truthW v fun b => Q b σ3) σ2) σ1) σ) := rfl
theorem Wt10 {cw : CW} {o : UnaryOp} {e : Ex} {m : Loc} {Q : Bool → AHeap → Prop} {σ : AHeap} : wpT cw (.una o e) m Q σ = (wpE cw e m (fun a σ1 => unaW o a (fun v σ3 => truthW v fun b => Q b σ3) σ1) σ) := rfl
theorem Wt11 {cw : CW} {e : Ex} {f : Nat} {m : Loc} {Q : Bool → AHeap → Prop} {σ : AHeap} : wpT cw (.attr e f) m Q σ = (wpE cw e m (fun a σ1 => attrW a f (fun v σ3 => truthW v fun b => Q b σ3) σ1) σ) := rfl
theorem Wt12 {cw : CW} {f : Nat} {as : List Ex} {m : Loc} {Q : Bool → AHeap → Prop} {σ : AHeap} : wpT cw (.call f as) m Q σ = (wpEs cw as m (fun vs σ1 => cw f vs (fun v σ3 => truthW v fun b => Q b σ3) σ1) σ) := rfl
theorem Wes1 {cw : CW} {m : Loc} {Q : List AVal → AHeap → Prop} {σ : AHeap} : wpEs cw [] m Q σ = (Q [] σ) := rfl
theorem Wes2 {cw : CW} {e : Ex} {r : List Ex} {m : Loc} {Q : List AVal → AHeap → Prop} {σ : AHeap} : wpEs cw (e :: r) m Q σ = (wpE cw e m (fun v σ1 => wpEs cw r m (fun vs σ2 => Q (v :: vs) σ2) σ1) σ) := rfl
theorem Wb1 {cw : CW} {isAnd : Bool} {m : Loc} {Q : AVal → AHeap → Prop} {σ : AHeap} : wpB cw isAnd [] m Q σ = (False) := rfl
theorem Wb2 {cw : CW} {isAnd : Bool} {e : Ex} {m : Loc} {Q : AVal → AHeap → Prop} {σ : AHeap} : wpB cw isAnd [e] m Q σ = (wpE cw e m Q σ) := rfl
theorem Wb3 {cw : CW} {isAnd : Bool} {e : Ex} {f : Ex} {r : List Ex} {m : Loc} {Q : AVal → AHeap → Prop} {σ : AHeap} : wpB cw isAnd (e :: f :: r) m Q σ = (wpE cw e m (fun v σ1 => truthW v fun b => if b = isAnd then wpB cw isAnd (f :: r) m Q σ1 else Q v σ1) σ) := rfl
theorem Wts1 {cw : CW} {isAnd : Bool} {m : Loc} {Q : Bool → AHeap → Prop} {σ : AHeap} : wpTs cw isAnd [] m Q σ = (Q isAnd σ) := rfl
theorem Wts2 {cw : CW} {isAnd : Bool} {e : Ex} {r : List Ex} {m : Loc} {Q : Bool → AHeap → Prop} {σ : AHeap} : wpTs cw isAnd (e :: r) m Q σ = (wpT cw e m (fun b σ1 => if b = isAnd then wpTs cw isAnd r m Q σ1 else Q (!isAnd) σ1) σ) := rfl
theorem Ws1 {cw : CW} {i : Nat} {e : Ex} {m : Loc} {Q : AFlow → Loc → AHeap → Prop} {σ : AHeap} : wpS cw (.asg i e) m Q σ = (wpE cw e m (fun v σ1 => Q .next (m.set i (some v)) σ1) σ) := rfl
theorem Ws2 {cw : CW} {is : List Nat} {e : Ex} {m : Loc} {Q : AFlow → Loc → AHeap → Prop} {σ : AHeap} : wpS cw (.asgT is e) m Q σ = (wpE cw e m (fun v σ1 => unpackW v is (fun m1 => Q .next m1 σ1) m σ1) σ) := rfl
theorem Ws3 {cw : CW} {o : Ex} {f : Nat} {e : Ex} {m : Loc} {Q : AFlow → Loc → AHeap → Prop} {σ : AHeap} : wpS cw (.asgA o f e) m Q σ = (wpE cw e m (fun v σ1 => wpE cw o m (fun a σ2 => setAW a f v (fun σ3 => Q .next m σ3) σ2) σ1) σ) := rfl
theorem Ws4 {cw : CW} {o : Ex} {i : Ex} {e : Ex} {m : Loc} {Q : AFlow → Loc → AHeap → Prop} {σ : AHeap} : wpS cw (.asgS o i e) m Q σ = (wpE cw e m (fun v σ1 => wpE cw o m (fun a σ2 => wpE cw i m (fun k σ3 => setSW a k v (fun σ4 => Q .next m σ4) σ3) σ2) σ1) σ) := rfl
theorem Ws5 {cw : CW} {op : Operator} {i : Nat} {e : Ex} {m : Loc} {Q : AFlow → Loc → AHeap → Prop} {σ : AHeap} : wpS cw (.augV op i e) m Q σ = (varW m i (fun a σ0 => wpE cw e m (fun v σ1 => augW op a v (fun r σ2 => Q .next (m.set i (some r)) σ2) σ1) σ0) σ) := rfl
theorem Ws6 {cw : CW} {op : Operator} {o : Ex} {f : Nat} {e : Ex} {m : Loc} {Q : AFlow → Loc → AHeap → Prop} {σ : AHeap} : wpS cw (.augA op o f e) m Q σ = (wpE cw o m (fun a σ1 => attrW a f (fun old σ2 => wpE cw e m (fun v σ3 => augW op old v (fun r σ4 => setAW a f r (fun σ5 => Q .next m σ5) σ4) σ3) σ2) σ1) σ) := rfl
theorem Ws7 {cw : CW} {op : Operator} {o : Ex} {i : Ex} {e : Ex} {m : Loc} {Q : AFlow → Loc → AHeap → Prop} {σ : AHeap} : wpS cw (.augS op o i e) m Q σ = (wpE cw o m (fun a σ1 => wpE cw i m (fun k σ2 => subW a k (fun old σ3 => wpE cw e m (fun v σ4 => augW op old v (fun r σ5 => setSW a k r (fun σ6 => Q .next m σ6) σ5) σ4) σ3) σ2) σ1) σ) := rfl
theorem Ws8 {cw : CW} {e : Ex} {m : Loc} {Q : AFlow → Loc → AHeap → Prop} {σ : AHeap} : wpS cw (.ex e) m Q σ = (wpE cw e m (fun v σ1 => v = .none ∧ Q .next m σ1) σ) := rfl
theorem Ws9 {cw : CW} {e : Ex} {m : Loc} {Q : AFlow → Loc → AHeap → Prop} {σ : AHeap} : wpS cw (.ret e) m Q σ = (wpE cw e m (fun v σ1 => Q (.ret v) m σ1) σ) := rfl
theorem Ws10 {cw : CW} {t : Ex} {a : List St} {b : List St} {m : Loc} {Q : AFlow → Loc → AHeap → Prop} {σ : AHeap} : wpS cw (.iff t a b) m Q σ = (wpT cw t m (fun c σ1 => match c with | true => wpSs cw a m Q σ1 | false => wpSs cw b m Q σ1) σ) := rfl
theorem Ws11 {cw : CW} {t : Ex} {b : List St} {m : Loc} {Q : AFlow → Loc → AHeap → Prop} {σ : AHeap} : wpS cw (.whl t b) m Q σ = (∃ n, whileN (fun m Q σ => wpT cw t m Q σ) (fun m Q σ => wpSs cw b m Q σ) Q n m σ) := rfl
theorem Ws12 {cw : CW} {i : Nat} {it : Ex} {b : List St} {m : Loc} {Q : AFlow → Loc → AHeap → Prop} {σ : AHeap} : wpS cw (.forV i it b) m Q σ = (wpE cw it m (fun v σ1 => ∃ a o all, v = .ref a ∧ σ1 a = some o ∧ itemsOf o = some all ∧ forN (fun m Q σ => wpSs cw b m Q σ) (bindV i) a o Q all m σ1) σ) := rfl
theorem Ws13 {cw : CW} {is : List Nat} {it : Ex} {b : List St} {m : Loc} {Q : AFlow → Loc → AHeap → Prop} {σ : AHeap} : wpS cw (.forT is it b) m Q σ = (wpE cw it m (fun v σ1 => ∃ a all, v = .ref a ∧ σ1 a = some (.list all) ∧ forN (fun m Q σ => wpSs cw b m Q σ) (bindT is) a (.list all) Q all m σ1) σ) := rfl
theorem Ws14 {cw : CW} {m : Loc} {Q : AFlow → Loc → AHeap → Prop} {σ : AHeap} : wpS cw .cont m Q σ = (Q .cont m σ) := rfl
theorem Ws15 {cw : CW} {m : Loc} {Q : AFlow → Loc → AHeap → Prop} {σ : AHeap} : wpS cw .rais m Q σ = (False) := rfl
theorem Wss1 {cw : CW} {m : Loc} {Q : AFlow → Loc → AHeap → Prop} {σ : AHeap} : wpSs cw [] m Q σ = (Q .next m σ) := rfl
theorem Wss2 {cw : CW} {s : St} {r : List St} {m : Loc} {Q : AFlow → Loc → AHeap → Prop} {σ : AHeap} : wpSs cw (s :: r) m Q σ = (wpS cw s m (fun f m1 σ1 => match f with
      | .next => wpSs cw r m1 Q σ1
      | f => Q f m1 σ1) σ) := rfl
theorem K1 {cw : CW} {i : Nat} {e : Ex} {rest : List St} {m : Loc} {Q0 : AFlow → Loc → AHeap → Prop} {σ : AHeap} (h : wpE cw e m (fun v σ1 => wpSs cw rest (m.set i (some v)) Q0 σ1) σ) : wpSs cw (.asg i e :: rest) m Q0 σ := h
theorem K2 {cw : CW} {is : List Nat} {e : Ex} {rest : List St} {m : Loc} {Q0 : AFlow → Loc → AHeap → Prop} {σ : AHeap} (h : wpE cw e m (fun v σ1 => unpackW v is (fun m1 => wpSs cw rest m1 Q0 σ1) m σ1) σ) : wpSs cw (.asgT is e :: rest) m Q0 σ := h
theorem K3 {cw : CW} {o : Ex} {f : Nat} {e : Ex} {rest : List St} {m : Loc} {Q0 : AFlow → Loc → AHeap → Prop} {σ : AHeap} (h : wpE cw e m (fun v σ1 => wpE cw o m (fun a σ2 => setAW a f v (fun σ3 => wpSs cw rest m Q0 σ3) σ2) σ1) σ) : wpSs cw (.asgA o f e :: rest) m Q0 σ := h
theorem K4 {cw : CW} {o : Ex} {i : Ex} {e : Ex} {rest : List St} {m : Loc} {Q0 : AFlow → Loc → AHeap → Prop} {σ : AHeap} (h : wpE cw e m (fun v σ1 => wpE cw o m (fun a σ2 => wpE cw i m (fun k σ3 => setSW a k v (fun σ4 => wpSs cw rest m Q0 σ4) σ3) σ2) σ1) σ) : wpSs cw (.asgS o i e :: rest) m Q0 σ := h
theorem K5 {cw : CW} {op : Operator} {i : Nat} {e : Ex} {rest : List St} {m : Loc} {Q0 : AFlow → Loc → AHeap → Prop} {σ : AHeap} (h : varW m i (fun a σ0 => wpE cw e m (fun v σ1 => augW op a v (fun r σ2 => wpSs cw rest (m.set i (some r)) Q0 σ2) σ1) σ0) σ) : wpSs cw (.augV op i e :: rest) m Q0 σ := h
theorem K6 {cw : CW} {op : Operator} {o : Ex} {f : Nat} {e : Ex} {rest : List St} {m : Loc} {Q0 : AFlow → Loc → AHeap → Prop} {σ : AHeap} (h : wpE cw o m (fun a σ1 => attrW a f (fun old σ2 => wpE cw e m (fun v σ3 => augW op old v (fun r σ4 => setAW a f r (fun σ5 => wpSs cw rest m Q0 σ5) σ4) σ3) σ2) σ1) σ) : wpSs cw (.augA op o f e :: rest) m Q0 σ := h
theorem K7 {cw : CW} {op : Operator} {o : Ex} {i : Ex} {e : Ex} {rest : List St} {m : Loc} {Q0 : AFlow → Loc → AHeap → Prop} {σ : AHeap} (h : wpE cw o m (fun a σ1 => wpE cw i m (fun k σ2 => subW a k (fun old σ3 => wpE cw e m (fun v σ4 => augW op old v (fun r σ5 => setSW a k r (fun σ6 => wpSs cw rest m Q0 σ6) σ5) σ4) σ3) σ2) σ1) σ) : wpSs cw (.augS op o i e :: rest) m Q0 σ := h
theorem K8 {cw : CW} {e : Ex} {rest : List St} {m : Loc} {Q0 : AFlow → Loc → AHeap → Prop} {σ : AHeap} (h : wpE cw e m (fun v σ1 => v = .none ∧ wpSs cw rest m Q0 σ1) σ) : wpSs cw (.ex e :: rest) m Q0 σ := h
theorem K9 {cw : CW} {e : Ex} {rest : List St} {m : Loc} {Q0 : AFlow → Loc → AHeap → Prop} {σ : AHeap} (h : wpE cw e m (fun v σ1 => Q0 (.ret v) m σ1) σ) : wpSs cw (.ret e :: rest) m Q0 σ := h
theorem K10 {cw : CW} {t : Ex} {a : List St} {b : List St} {rest : List St} {m : Loc} {Q0 : AFlow → Loc → AHeap → Prop} {σ : AHeap} (h : wpT cw t m (fun c σ1 => match c with | true => wpSs cw a m (fun f m1 σ1 => match f with | .next => wpSs cw rest m1 Q0 σ1 | f => Q0 f m1 σ1) σ1 | false => wpSs cw b m (fun f m1 σ1 => match f with | .next => wpSs cw rest m1 Q0 σ1 | f => Q0 f m1 σ1) σ1) σ) : wpSs cw (.iff t a b :: rest) m Q0 σ := h
theorem K11 {cw : CW} {t : Ex} {b : List St} {rest : List St} {m : Loc} {Q0 : AFlow → Loc → AHeap → Prop} {σ : AHeap} (h : ∃ n, whileN (fun m Q σ => wpT cw t m Q σ) (fun m Q σ => wpSs cw b m Q σ) (fun f m1 σ1 => match f with | .next => wpSs cw rest m1 Q0 σ1 | f => Q0 f m1 σ1) n m σ) : wpSs cw (.whl t b :: rest) m Q0 σ := h
theorem K12 {cw : CW} {i : Nat} {it : Ex} {b : List St} {rest : List St} {m : Loc} {Q0 : AFlow → Loc → AHeap → Prop} {σ : AHeap} (h : wpE cw it m (fun v σ1 => ∃ a o all, v = .ref a ∧ σ1 a = some o ∧ itemsOf o = some all ∧ forN (fun m Q σ => wpSs cw b m Q σ) (bindV i) a o (fun f m1 σ1 => match f with | .next => wpSs cw rest m1 Q0 σ1 | f => Q0 f m1 σ1) all m σ1) σ) : wpSs cw (.forV i it b :: rest) m Q0 σ := h
theorem K13 {cw : CW} {is : List Nat} {it : Ex} {b : List St} {rest : List St} {m : Loc} {Q0 : AFlow → Loc → AHeap → Prop} {σ : AHeap} (h : wpE cw it m (fun v σ1 => ∃ a all, v = .ref a ∧ σ1 a = some (.list all) ∧ forN (fun m Q σ => wpSs cw b m Q σ) (bindT is) a (.list all) (fun f m1 σ1 => match f with | .next => wpSs cw rest m1 Q0 σ1 | f => Q0 f m1 σ1) all m σ1) σ) : wpSs cw (.forT is it b :: rest) m Q0 σ := h
theorem K14 {cw : CW}  {rest : List St} {m : Loc} {Q0 : AFlow → Loc → AHeap → Prop} {σ : AHeap} (h : Q0 .cont m σ) : wpSs cw (.cont :: rest) m Q0 σ := h
theorem K15 {cw : CW}  {rest : List St} {m : Loc} {Q0 : AFlow → Loc → AHeap → Prop} {σ : AHeap} (h : False) : wpSs cw (.rais :: rest) m Q0 σ := h
theorem Bi1 {a b : Int} {Q : AVal → AHeap → Prop} {σ : AHeap} : binW .Add (.int a) (.int b) Q σ = (Q (.int (a + b)) σ) := rfl
theorem Bi2 {a b : Int} {Q : AVal → AHeap → Prop} {σ : AHeap} : binW .Sub (.int a) (.int b) Q σ = (Q (.int (a - b)) σ) := rfl
theorem Bi3 {a b : Int} {Q : AVal → AHeap → Prop} {σ : AHeap} : binW .Mult (.int a) (.int b) Q σ = (small a ∧ Q (.int (a * b)) σ) := rfl
theorem Bi4 {a b : Int} {Q : AVal → AHeap → Prop} {σ : AHeap} : binW .FloorDiv (.int a) (.int b) Q σ = ((0 < b ∧ b ≤ 1000000000) ∧ Q (.int (a / b)) σ) := rfl
theorem Bi5 {a b : Int} {Q : AVal → AHeap → Prop} {σ : AHeap} : binW .Mod (.int a) (.int b) Q σ = (0 < b ∧ Q (.int (a % b)) σ) := rfl
theorem Bi6 {a b : Int} {Q : AVal → AHeap → Prop} {σ : AHeap} : binW .Pow (.int a) (.int b) Q σ = ((a = 2 ∧ 0 ≤ b ∧ b ≤ 64) ∧ Q (.int (2 ^ b.toNat)) σ) := rfl
theorem Bi7 {a b : Int} {Q : AVal → AHeap → Prop} {σ : AHeap} : binW .LShift (.int a) (.int b) Q σ = ((small a ∧ 0 ≤ b ∧ b ≤ 64) ∧ Q (.int (a * 2 ^ b.toNat)) σ) := rfl
theorem Bi8 {a b : Int} {Q : AVal → AHeap → Prop} {σ : AHeap} : binW .RShift (.int a) (.int b) Q σ = ((0 ≤ a ∧ 0 ≤ b) ∧ Q (.int (a / 2 ^ b.toNat)) σ) := rfl
theorem Bi9 {a b : Int} {Q : AVal → AHeap → Prop} {σ : AHeap} : binW .BitAnd (.int a) (.int b) Q σ = (Q (.int (PySem.Builtin.bitAnd a b)) σ) := rfl
theorem Bi10 {a b : Int} {Q : AVal → AHeap → Prop} {σ : AHeap} : binW .BitOr (.int a) (.int b) Q σ = (Q (.int (PySem.Builtin.bitOr a b)) σ) := rfl
theorem Bi11 {a b : Int} {Q : AVal → AHeap → Prop} {σ : AHeap} : binW .BitXor (.int a) (.int b) Q σ = (Q (.int (PySem.Builtin.bitXor a b)) σ) := rfl
theorem Bi12 {a b : Nat} {Q : AVal → AHeap → Prop} {σ : AHeap} : binW .Add (.ref a) (.ref b) Q σ = (match σ a, σ b with
      | some (.list xs), some (.list ys) => (xs.length ≤ 1000 ∧ ys.length ≤ 1000) ∧ ∀ c, σ c = none → Q (.ref c) (put σ c (.list (xs ++ ys)))
      | _, _ => False) := rfl
theorem Bi13 {a : Nat} {n : Int} {Q : AVal → AHeap → Prop} {σ : AHeap} : binW .Mult (.ref a) (.int n) Q σ = (match σ a with
      | some (.list [x]) => (0 ≤ n ∧ n ≤ 1000) ∧ ∀ c, σ c = none → Q (.ref c) (put σ c (.list (List.replicate n.toNat x)))
      | _ => False) := rfl
theorem Rg1 {n : Int} {Q : AVal → AHeap → Prop} {σ : AHeap} (h : small n ∧ ∀ c, σ c = none → Q (.ref c) (put σ c (.range 0 n 1))) : rangeW [.int n] Q σ := .inl ⟨n, rfl, h⟩
theorem Rg3 {a b s : Int} {Q : AVal → AHeap → Prop} {σ : AHeap} (h : (small a ∧ small b ∧ (s = 1 ∨ s = -1)) ∧ ∀ c, σ c = none → Q (.ref c) (put σ c (.range a b s))) : rangeW [.int a, .int b, .int s] Q σ := .inr ⟨a, b, s, rfl, h⟩
end Pf
end

section
set_option autoImplicit false
namespace Pf
noncomputable abbrev STEP_FILES : AVal := .cst true 182 [0, 1, 0, -1, 1, 1, -1, -1]
noncomputable abbrev STEP_RANKS : AVal := .cst true 183 [1, 0, -1, 0, 1, -1, -1, 1]
-- 0 squares_of: 0 b, 1 out, 2 square
noncomputable def B_squares_of : List St := [(.asg 1 (.list [])), (.asg 2 (.lit (.int 0))), (.whl (.var 0) [(.whl (.not (.bin .BitAnd (.var 0) (.lit (.int 15)))) [(.augV .RShift 0 (.lit (.int 4))), (.augV .Add 2 (.lit (.int 4)))]), (.iff (.bin .BitAnd (.var 0) (.lit (.int 1))) [(.ex (.app (.var 1) (.var 2)))] []), (.augV .RShift 0 (.lit (.int 1))), (.augV .Add 2 (.lit (.int 1)))]), (.ret (.var 1))]
-- 1 side_of: 0 piece
noncomputable def B_side_of : List St := [(.ret (.bin .RShift (.var 0) (.lit (.int 3))))]
-- 2 kind_of: 0 piece
noncomputable def B_kind_of : List St := [(.ret (.bin .BitAnd (.var 0) (.lit (.int 7))))]
-- 3 pack_move: 0 origin, 1 to, 2 special, 3 promo, 4 field
noncomputable def B_pack_move : List St := [(.asg 4 (.lit (.int 0))), (.iff (.cmp .Eq (.var 2) (.lit (.int 1))) [(.asg 4 (.bin .Sub (.var 3) (.lit (.int 2))))] []), (.ret (.bin .BitOr (.bin .BitOr (.bin .BitOr (.var 1) (.bin .LShift (.var 0) (.lit (.int 6)))) (.bin .LShift (.var 4) (.lit (.int 12)))) (.bin .LShift (.var 2) (.lit (.int 14)))))]
-- 4 Position.__init__: 0 self, 1 geo, 2 zob
noncomputable def B_PositionInit : List St := [(.asgA (.var 0) 0 (.var 1)), (.asgA (.var 0) 1 (.var 2)), (.asgA (.var 0) 2 (.bin .Mult (.list [(.lit (.int 0))]) (.attr (.var 1) 3))), (.asgA (.var 0) 4 (.bin .Mult (.list [(.lit (.int 0))]) (.lit (.int 7)))), (.asgA (.var 0) 5 (.list [(.lit (.int 0)), (.lit (.int 0))])), (.asgA (.var 0) 6 (.lit (.int 0))), (.asgA (.var 0) 7 (.lit (.int 0))), (.asgA (.var 0) 8 (.una .USub (.lit (.int 1)))), (.asgA (.var 0) 9 (.lit (.int 0))), (.asgA (.var 0) 10 (.lit (.int 1))), (.asgA (.var 0) 11 (.lit (.int 0))), (.asgA (.var 0) 12 (.list []))]
-- 5 put_piece: 0 pos, 1 piece, 2 s, 3 bit
noncomputable def B_put_piece : List St := [(.asg 3 (.bin .LShift (.lit (.int 1)) (.var 2))), (.asgS (.attr (.var 0) 2) (.var 2) (.var 1)), (.augS .BitOr (.attr (.var 0) 4) (.call 2 [(.var 1)]) (.var 3)), (.augS .BitOr (.attr (.var 0) 5) (.call 1 [(.var 1)]) (.var 3)), (.augA .BitXor (.var 0) 11 (.sub (.sub (.attr (.attr (.var 0) 1) 13) (.var 1)) (.var 2)))]
-- 6 occupied: 0 pos
noncomputable def B_occupied : List St := [(.ret (.bin .BitOr (.sub (.attr (.var 0) 5) (.lit (.int 0))) (.sub (.attr (.var 0) 5) (.lit (.int 1)))))]
-- 7 pieces: 0 pos, 1 side, 2 kind
noncomputable def B_pieces : List St := [(.ret (.bin .BitAnd (.sub (.attr (.var 0) 5) (.var 1)) (.sub (.attr (.var 0) 4) (.var 2))))]
-- 8 push_step: 0 geo, 1 side
noncomputable def B_push_step : List St := [(.iff (.cmp .Eq (.var 1) (.lit (.int 0))) [(.ret (.attr (.var 0) 14))] []), (.ret (.una .USub (.attr (.var 0) 14)))]
-- 9 start_mask: 0 geo, 1 side
noncomputable def B_start_mask : List St := [(.iff (.cmp .Eq (.var 1) (.lit (.int 0))) [(.ret (.sub (.attr (.var 0) 15) (.lit (.int 1))))] []), (.ret (.sub (.attr (.var 0) 15) (.bin .Sub (.attr (.var 0) 16) (.lit (.int 2)))))]
-- 10 last_mask: 0 geo, 1 side
noncomputable def B_last_mask : List St := [(.iff (.cmp .Eq (.var 1) (.lit (.int 0))) [(.ret (.sub (.attr (.var 0) 15) (.bin .Sub (.attr (.var 0) 16) (.lit (.int 1)))))] []), (.ret (.sub (.attr (.var 0) 15) (.lit (.int 0))))]
-- 11 shift_push: 0 geo, 1 b, 2 side
noncomputable def B_shift_push : List St := [(.iff (.cmp .Eq (.var 2) (.lit (.int 0))) [(.ret (.bin .BitAnd (.bin .LShift (.var 1) (.attr (.var 0) 14)) (.attr (.var 0) 10)))] []), (.ret (.bin .RShift (.var 1) (.attr (.var 0) 14)))]
-- 12 shift_capture: 0 geo, 1 b, 2 side, 3 wing
noncomputable def B_shift_capture : List St := [(.iff (.cmp .Eq (.var 3) (.lit (.int 0))) [(.ret (.bin .LShift (.call 11 [(.var 0), (.bin .BitAnd (.var 1) (.una .Invert (.sub (.attr (.var 0) 17) (.bin .Sub (.attr (.var 0) 14) (.lit (.int 1)))))), (.var 2)]) (.lit (.int 1))))] []), (.ret (.bin .RShift (.call 11 [(.var 0), (.bin .BitAnd (.var 1) (.una .Invert (.sub (.attr (.var 0) 17) (.lit (.int 0))))), (.var 2)]) (.lit (.int 1))))]
-- 13 push_targets: 0 pos, 1 side, 2 geo, 3 empty, 4 pawns, 5 ones, 6 twos, 7 passed
noncomputable def B_push_targets : List St := [(.asg 2 (.attr (.var 0) 0)), (.asg 3 (.bin .BitAnd (.attr (.var 2) 10) (.una .Invert (.call 6 [(.var 0)])))), (.asg 4 (.call 7 [(.var 0), (.var 1), (.lit (.int 1))])), (.asg 5 (.bin .BitAnd (.call 11 [(.var 2), (.var 4), (.var 1)]) (.var 3))), (.asg 6 (.lit (.int 0))), (.iff (.attr (.var 2) 18) [(.asg 7 (.bin .BitAnd (.call 11 [(.var 2), (.bin .BitAnd (.var 4) (.call 9 [(.var 2), (.var 1)])), (.var 1)]) (.var 3))), (.asg 6 (.bin .BitAnd (.call 11 [(.var 2), (.var 7), (.var 1)]) (.var 3)))] []), (.ret (.tup [(.var 5), (.var 6)]))]
-- 14 add_promotions: 0 origin, 1 to, 2 stage, 3 is_capture, 4 out, 5 with_lesser, 6 kind
noncomputable def B_add_promotions : List St := [(.iff (.cmp .NotEq (.var 2) (.lit (.int 1))) [(.ex (.app (.var 4) (.call 3 [(.var 0), (.var 1), (.lit (.int 1)), (.lit (.int 5))])))] []), (.iff (.cmp .Eq (.var 2) (.lit (.int 0))) [(.asg 5 (.var 3))] [(.iff (.cmp .Eq (.var 2) (.lit (.int 1))) [(.asg 5 (.not (.var 3)))] [(.asg 5 (.lit (.bool true)))])]), (.iff (.var 5) [(.forV 6 (.list [(.lit (.int 4)), (.lit (.int 3)), (.lit (.int 2))]) [(.ex (.app (.var 4) (.call 3 [(.var 0), (.var 1), (.lit (.int 1)), (.var 6)])))])] [])]
-- 15 add_plain_pushes: 0 pos, 1 target, 2 out, 3 geo, 4 step, 5 ones, 6 twos, 7 goal
noncomputable def B_add_plain_pushes : List St := [(.asg 3 (.attr (.var 0) 0)), (.asg 4 (.call 8 [(.var 3), (.attr (.var 0) 6)])), (.asgT [5, 6] (.call 13 [(.var 0), (.attr (.var 0) 6)])), (.forV 7 (.call 0 [(.bin .BitAnd (.bin .BitAnd (.var 5) (.var 1)) (.una .Invert (.call 10 [(.var 3), (.attr (.var 0) 6)])))]) [(.ex (.app (.var 2) (.call 3 [(.bin .Sub (.var 7) (.var 4)), (.var 7), (.lit (.int 0)), (.lit (.int 0))])))]), (.forV 7 (.call 0 [(.bin .BitAnd (.var 6) (.var 1))]) [(.ex (.app (.var 2) (.call 3 [(.bin .Sub (.var 7) (.bin .Mult (.lit (.int 2)) (.var 4))), (.var 7), (.lit (.int 0)), (.lit (.int 0))])))])]
-- 16 add_push_promotions: 0 pos, 1 stage, 2 target, 3 out, 4 geo, 5 step, 6 ones, 7 goal
noncomputable def B_add_push_promotions : List St := [(.asg 4 (.attr (.var 0) 0)), (.asg 5 (.call 8 [(.var 4), (.attr (.var 0) 6)])), (.asg 6 (.sub (.call 13 [(.var 0), (.attr (.var 0) 6)]) (.lit (.int 0)))), (.forV 7 (.call 0 [(.bin .BitAnd (.bin .BitAnd (.var 6) (.var 2)) (.call 10 [(.var 4), (.attr (.var 0) 6)]))]) [(.ex (.call 14 [(.bin .Sub (.var 7) (.var 5)), (.var 7), (.var 1), (.lit (.bool false)), (.var 3)]))])]
-- 17 add_pawn_captures: 0 pos, 1 stage, 2 target, 3 out, 4 geo, 5 side, 6 last, 7 pawns, 8 hits, 9 wing, 10 step, 11 goal
noncomputable def B_add_pawn_captures : List St := [(.asg 4 (.attr (.var 0) 0)), (.asg 5 (.attr (.var 0) 6)), (.asg 6 (.call 10 [(.var 4), (.var 5)])), (.asg 7 (.call 7 [(.var 0), (.var 5), (.lit (.int 1))])), (.asg 8 (.bin .BitAnd (.var 2) (.sub (.attr (.var 0) 5) (.bin .Sub (.lit (.int 1)) (.var 5))))), (.forV 9 (.list [(.lit (.int 0)), (.lit (.int 1))]) [(.asg 10 (.bin .Sub (.bin .Add (.call 8 [(.var 4), (.var 5)]) (.lit (.int 1))) (.bin .Mult (.lit (.int 2)) (.var 9)))), (.forV 11 (.call 0 [(.bin .BitAnd (.call 12 [(.var 4), (.var 7), (.var 5), (.var 9)]) (.var 8))]) [(.iff (.bin .BitAnd (.var 6) (.bin .LShift (.lit (.int 1)) (.var 11))) [(.ex (.call 14 [(.bin .Sub (.var 11) (.var 10)), (.var 11), (.var 1), (.lit (.bool true)), (.var 3)]))] [(.ex (.app (.var 3) (.call 3 [(.bin .Sub (.var 11) (.var 10)), (.var 11), (.lit (.int 0)), (.lit (.int 0))])))])])])]
-- 18 add_pawn_moves: 0 pos, 1 stage, 2 target, 3 out
noncomputable def B_add_pawn_moves : List St := [(.iff (.cmp .NotEq (.var 1) (.lit (.int 0))) [(.ex (.call 15 [(.var 0), (.var 2), (.var 3)]))] []), (.ex (.call 16 [(.var 0), (.var 1), (.var 2), (.var 3)])), (.iff (.cmp .NotEq (.var 1) (.lit (.int 1))) [(.ex (.call 17 [(.var 0), (.var 1), (.var 2), (.var 3)]))] [])]
-- 19 Geometry.__init__: 0 self, 1 files, 2 ranks, 3 has_double, 4 has_castling
noncomputable def B_GeometryInit : List St := [(.asgA (.var 0) 14 (.var 1)), (.asgA (.var 0) 16 (.var 2)), (.asgA (.var 0) 3 (.bin .Mult (.var 1) (.var 2))), (.asgA (.var 0) 10 (.bin .Sub (.bin .LShift (.lit (.int 1)) (.bin .Mult (.var 1) (.var 2))) (.lit (.int 1)))), (.asgA (.var 0) 18 (.and [(.var 3), (.cmp .GtE (.var 2) (.lit (.int 5)))])), (.asgA (.var 0) 19 (.var 4)), (.asgA (.var 0) 17 (.list [])), (.asgA (.var 0) 15 (.list [])), (.asgA (.var 0) 20 (.list [])), (.asgA (.var 0) 21 (.list [])), (.asgA (.var 0) 22 (.list [])), (.asgA (.var 0) 23 (.list [(.list []), (.list [])])), (.asgA (.var 0) 24 (.list [])), (.asgA (.var 0) 25 (.list []))]
-- 20 is_growing: 0 d
noncomputable def B_is_growing : List St := [(.ret (.or [(.cmp .Gt (.sub (.lit STEP_RANKS) (.var 0)) (.lit (.int 0))), (.cmp .Eq (.var 0) (.lit (.int 1)))]))]
-- 21 add_masks: 0 geo, 1 row, 2 column, 3 r, 4 f
noncomputable def B_add_masks : List St := [(.asg 1 (.bin .Sub (.bin .LShift (.lit (.int 1)) (.attr (.var 0) 14)) (.lit (.int 1)))), (.asg 2 (.lit (.int 0))), (.forV 3 (.range [(.attr (.var 0) 16)]) [(.ex (.app (.attr (.var 0) 15) (.bin .LShift (.var 1) (.bin .Mult (.var 3) (.attr (.var 0) 14))))), (.augV .BitOr 2 (.bin .LShift (.lit (.int 1)) (.bin .Mult (.var 3) (.attr (.var 0) 14))))]), (.forV 4 (.range [(.attr (.var 0) 14)]) [(.ex (.app (.attr (.var 0) 17) (.bin .LShift (.var 2) (.var 4))))])]
-- 22 inner_squares: 0 geo, 1 d, 2 edge
noncomputable def B_inner_squares : List St := [(.asg 2 (.lit (.int 0))), (.iff (.cmp .Gt (.sub (.lit STEP_FILES) (.var 1)) (.lit (.int 0))) [(.augV .BitOr 2 (.sub (.attr (.var 0) 17) (.bin .Sub (.attr (.var 0) 14) (.lit (.int 1)))))] []), (.iff (.cmp .Lt (.sub (.lit STEP_FILES) (.var 1)) (.lit (.int 0))) [(.augV .BitOr 2 (.sub (.attr (.var 0) 17) (.lit (.int 0))))] []), (.iff (.cmp .Gt (.sub (.lit STEP_RANKS) (.var 1)) (.lit (.int 0))) [(.augV .BitOr 2 (.sub (.attr (.var 0) 15) (.bin .Sub (.attr (.var 0) 16) (.lit (.int 1)))))] []), (.iff (.cmp .Lt (.sub (.lit STEP_RANKS) (.var 1)) (.lit (.int 0))) [(.augV .BitOr 2 (.sub (.attr (.var 0) 15) (.lit (.int 0))))] []), (.ret (.bin .BitAnd (.attr (.var 0) 10) (.una .Invert (.var 2))))]
-- 23 add_rays: 0 geo, 1 d, 2 inner, 3 delta, 4 ray, 5 order, 6 square, 7 goal
noncomputable def B_add_rays : List St := [(.asgA (.var 0) 21 (.bin .Mult (.list [(.lit (.int 0))]) (.attr (.var 0) 3))), (.forV 1 (.range [(.lit (.int 8))]) [(.asg 2 (.call 22 [(.var 0), (.var 1)])), (.asg 3 (.bin .Add (.bin .Mult (.sub (.lit STEP_RANKS) (.var 1)) (.attr (.var 0) 14)) (.sub (.lit STEP_FILES) (.var 1)))), (.asg 4 (.bin .Mult (.list [(.lit (.int 0))]) (.attr (.var 0) 3))), (.asg 5 (.range [(.attr (.var 0) 3)])), (.iff (.call 20 [(.var 1)]) [(.asg 5 (.range [(.bin .Sub (.attr (.var 0) 3) (.lit (.int 1))), (.una .USub (.lit (.int 1))), (.una .USub (.lit (.int 1)))]))] []), (.forV 6 (.var 5) [(.iff (.bin .BitAnd (.bin .RShift (.var 2) (.var 6)) (.lit (.int 1))) [(.asg 7 (.bin .Add (.var 6) (.var 3))), (.asgS (.var 4) (.var 6) (.bin .BitOr (.sub (.var 4) (.var 7)) (.bin .LShift (.lit (.int 1)) (.var 7)))), (.augS .BitOr (.attr (.var 0) 21) (.var 6) (.bin .LShift (.lit (.int 1)) (.var 7)))] [])]), (.ex (.app (.attr (.var 0) 20) (.var 4)))])]
-- 24 add_pawns: 0 geo, 1 square
noncomputable def B_add_pawns : List St := [(.forV 1 (.range [(.attr (.var 0) 3)]) [(.ex (.app (.sub (.attr (.var 0) 23) (.lit (.int 0))) (.bin .BitAnd (.sub (.attr (.var 0) 21) (.var 1)) (.bin .BitOr (.sub (.sub (.attr (.var 0) 20) (.lit (.int 4))) (.var 1)) (.sub (.sub (.attr (.var 0) 20) (.lit (.int 7))) (.var 1)))))), (.ex (.app (.sub (.attr (.var 0) 23) (.lit (.int 1))) (.bin .BitAnd (.sub (.attr (.var 0) 21) (.var 1)) (.bin .BitOr (.sub (.sub (.attr (.var 0) 20) (.lit (.int 5))) (.var 1)) (.sub (.sub (.attr (.var 0) 20) (.lit (.int 6))) (.var 1))))))])]
-- 25 add_knights: 0 geo, 1 files, 2 not_first, 3 not_last, 4 not_first_two, 5 not_last_two, 6 square, 7 b, 8 near, 9 far, 10 found
noncomputable def B_add_knights : List St := [(.asg 1 (.attr (.var 0) 14)), (.asg 2 (.bin .BitAnd (.attr (.var 0) 10) (.una .Invert (.sub (.attr (.var 0) 17) (.lit (.int 0)))))), (.asg 3 (.bin .BitAnd (.attr (.var 0) 10) (.una .Invert (.sub (.attr (.var 0) 17) (.bin .Sub (.var 1) (.lit (.int 1))))))), (.asg 4 (.bin .BitAnd (.var 2) (.una .Invert (.sub (.attr (.var 0) 17) (.lit (.int 1)))))), (.asg 5 (.bin .BitAnd (.var 3) (.una .Invert (.sub (.attr (.var 0) 17) (.bin .Sub (.var 1) (.lit (.int 2))))))), (.forV 6 (.range [(.attr (.var 0) 3)]) [(.asg 7 (.bin .LShift (.lit (.int 1)) (.var 6))), (.asg 8 (.bin .BitOr (.bin .BitAnd (.bin .LShift (.var 7) (.lit (.int 1))) (.var 2)) (.bin .BitAnd (.bin .RShift (.var 7) (.lit (.int 1))) (.var 3)))), (.asg 9 (.bin .BitOr (.bin .BitAnd (.bin .LShift (.var 7) (.lit (.int 2))) (.var 4)) (.bin .BitAnd (.bin .RShift (.var 7) (.lit (.int 2))) (.var 5)))), (.asg 10 (.bin .BitOr (.bin .BitOr (.bin .BitOr (.bin .LShift (.var 8) (.bin .Mult (.lit (.int 2)) (.var 1))) (.bin .RShift (.var 8) (.bin .Mult (.lit (.int 2)) (.var 1)))) (.bin .LShift (.var 9) (.var 1))) (.bin .RShift (.var 9) (.var 1)))), (.ex (.app (.attr (.var 0) 22) (.bin .BitAnd (.var 10) (.attr (.var 0) 10))))])]
-- 26 add_castles: 0 geo, 1 start, 2 index, 3 base, 4 corner, 5 way, 6 goal
noncomputable def B_add_castles : List St := [(.asgA (.var 0) 25 (.bin .Mult (.list [(.lit (.int 0))]) (.attr (.var 0) 3))), (.asg 1 (.bin .FloorDiv (.attr (.var 0) 14) (.lit (.int 2)))), (.forV 2 (.range [(.lit (.int 4))]) [(.asg 3 (.bin .Mult (.bin .Mult (.bin .RShift (.var 2) (.lit (.int 1))) (.bin .Sub (.attr (.var 0) 16) (.lit (.int 1)))) (.attr (.var 0) 14))), (.asg 4 (.bin .Sub (.attr (.var 0) 14) (.lit (.int 1)))), (.asg 5 (.lit (.int 1))), (.iff (.bin .BitAnd (.var 2) (.lit (.int 1))) [(.asg 4 (.lit (.int 0))), (.asg 5 (.una .USub (.lit (.int 1))))] []), (.asg 6 (.bin .Add (.var 1) (.bin .Mult (.lit (.int 2)) (.var 5)))), (.iff (.and [(.attr (.var 0) 19), (.cmp .Gt (.bin .Mult (.bin .Sub (.var 4) (.var 6)) (.var 5)) (.lit (.int 0)))]) [(.ex (.app (.attr (.var 0) 24) (.tup [(.bin .Add (.var 3) (.var 1)), (.bin .Add (.var 3) (.var 6)), (.bin .Add (.var 3) (.var 4)), (.bin .Sub (.bin .Add (.var 3) (.var 6)) (.var 5))]))), (.augS .BitOr (.attr (.var 0) 25) (.bin .Add (.var 3) (.var 1)) (.bin .LShift (.lit (.int 1)) (.var 2))), (.augS .BitOr (.attr (.var 0) 25) (.bin .Add (.var 3) (.var 4)) (.bin .LShift (.lit (.int 1)) (.var 2)))] [(.ex (.app (.attr (.var 0) 24) (.lit .none)))])])]
-- 27 make_geometry: 0 files, 1 ranks, 2 has_double, 3 has_castling, 4 geo
noncomputable def B_make_geometry : List St := [(.iff (.or [(.cmp .Lt (.var 0) (.lit (.int 2))), (.cmp .Gt (.var 0) (.lit (.int 8))), (.cmp .Lt (.var 1) (.lit (.int 3))), (.cmp .Gt (.var 1) (.lit (.int 8)))]) [.rais] []), (.asg 4 (.new 200 19 [(.var 0), (.var 1), (.var 2), (.var 3)])), (.ex (.call 21 [(.var 4)])), (.ex (.call 23 [(.var 4)])), (.ex (.call 24 [(.var 4)])), (.ex (.call 25 [(.var 4)])), (.ex (.call 26 [(.var 4)])), (.ret (.var 4))]
-- 28 Zobrist.__init__: 0 self, 1 pieces, 2 ep, 3 rights, 4 side
noncomputable def B_ZobristInit : List St := [(.asgA (.var 0) 13 (.var 1)), (.asgA (.var 0) 8 (.var 2)), (.asgA (.var 0) 7 (.var 3)), (.asgA (.var 0) 6 (.var 4))]
-- 29 _law_boards: 
noncomputable def B_law_boards : List St := [(.ret (.list [(.tup [(.lit (.int 4)), (.lit (.int 5)), (.lit (.bool true))]), (.tup [(.lit (.int 3)), (.lit (.int 5)), (.lit (.bool true))]), (.tup [(.lit (.int 4)), (.lit (.int 4)), (.lit (.bool false))]), (.tup [(.lit (.int 3)), (.lit (.int 4)), (.lit (.bool false))]), (.tup [(.lit (.int 6)), (.lit (.int 3)), (.lit (.bool false))]), (.tup [(.lit (.int 5)), (.lit (.int 5)), (.lit (.bool true))]), (.tup [(.lit (.int 4)), (.lit (.int 6)), (.lit (.bool true))]), (.tup [(.lit (.int 8)), (.lit (.int 3)), (.lit (.bool false))])]))]
-- 30 _law_told: 0 script, 1 place
noncomputable def B_law_told : List St := [(.iff (.cmp .Lt (.var 1) (.len (.var 0))) [(.ret (.sub (.var 0) (.var 1)))] []), (.ret (.bin .Add (.bin .Mult (.lit (.int 9)) (.var 1)) (.lit (.int 4))))]
-- 31 _law_beside: 0 files, 1 ranks, 2 square, 3 across, 4 up, 5 column, 6 rank
noncomputable def B_law_beside : List St := [(.asg 5 (.bin .Add (.bin .Mod (.var 2) (.var 0)) (.var 3))), (.asg 6 (.bin .Add (.bin .FloorDiv (.var 2) (.var 0)) (.var 4))), (.iff (.and [(.cmp2 .LtE .Lt (.lit (.int 0)) (.var 5) (.var 0)), (.cmp2 .LtE .Lt (.lit (.int 0)) (.var 6) (.var 1))]) [(.ret (.bin .Add (.bin .Mult (.var 6) (.var 0)) (.var 5)))] []), (.ret (.una .USub (.lit (.int 1))))]
-- 32 _law_in_set: 0 number, 1 files, 2 ranks, 3 square
noncomputable def B_law_in_set : List St := [(.ret (.comp (.var 3) 3 (.range [(.bin .Mult (.var 1) (.var 2))]) [(.cmp .Eq (.bin .Mod (.bin .FloorDiv (.var 0) (.bin .Pow (.lit (.int 2)) (.var 3))) (.lit (.int 2))) (.lit (.int 1)))]))]
-- 33 _law_set: 0 spots, 1 spot
noncomputable def B_law_set : List St := [(.ret (.sum (.comp (.bin .Pow (.lit (.int 2)) (.var 1)) 1 (.var 0) [(.cmp .GtE (.var 1) (.lit (.int 0)))])))]
-- 34 _law_shifts_right: 0 geo, 1 files, 2 ranks, 3 number, 4 spots, 5 side, 6 up, 7 wing, 8 goals, 9 rows, 10 spot, 11 spot, 12 column, 13 column
noncomputable def B_law_shifts_right : List St := [(.asg 4 (.call 32 [(.var 3), (.var 1), (.var 2)])), (.forV 5 (.tup [(.lit (.int 0)), (.lit (.int 1))]) [(.asg 6 (.bin .Sub (.lit (.int 1)) (.bin .Mult (.lit (.int 2)) (.var 5)))), (.iff (.cmp .NotEq (.call 11 [(.var 0), (.var 3), (.var 5)]) (.call 33 [(.comp (.call 31 [(.var 1), (.var 2), (.var 10), (.lit (.int 0)), (.var 6)]) 10 (.var 4) [])])) [(.ret (.lit (.bool false)))] []), (.forV 7 (.tup [(.lit (.int 0)), (.lit (.int 1))]) [(.asg 8 (.comp (.call 31 [(.var 1), (.var 2), (.var 11), (.bin .Sub (.lit (.int 1)) (.bin .Mult (.lit (.int 2)) (.var 7))), (.var 6)]) 11 (.var 4) [])), (.iff (.cmp .NotEq (.call 12 [(.var 0), (.var 3), (.var 5), (.var 7)]) (.call 33 [(.var 8)])) [(.ret (.lit (.bool false)))] [])]), (.asg 9 (.ite (.cmp .Eq (.var 5) (.lit (.int 0))) (.list [(.bin .Sub (.var 2) (.lit (.int 1))), (.lit (.int 0))]) (.list [(.lit (.int 0)), (.bin .Sub (.var 2) (.lit (.int 1)))]))), (.iff (.cmp .NotEq (.call 10 [(.var 0), (.var 5)]) (.call 33 [(.comp (.bin .Add (.bin .Mult (.sub (.var 9) (.lit (.int 0))) (.var 1)) (.var 12)) 12 (.range [(.var 1)]) [])])) [(.ret (.lit (.bool false)))] []), (.iff (.cmp .NotEq (.call 9 [(.var 0), (.var 5)]) (.call 33 [(.comp (.bin .Add (.bin .Mult (.bin .Add (.sub (.var 9) (.lit (.int 1))) (.var 6)) (.var 1)) (.var 13)) 13 (.range [(.var 1)]) [])])) [(.ret (.lit (.bool false)))] []), (.iff (.cmp .NotEq (.call 8 [(.var 0), (.var 5)]) (.bin .Mult (.var 6) (.var 1))) [(.ret (.lit (.bool false)))] [])]), (.ret (.lit (.bool true)))]
-- 35 _law_steps: 0 board, 1 files, 2 ranks, 3 double, 4 side, 5 square, 6 up, 7 one, 8 first, 9 two
noncomputable def B_law_steps : List St := [(.asg 6 (.bin .Sub (.lit (.int 1)) (.bin .Mult (.lit (.int 2)) (.var 4)))), (.asg 7 (.call 31 [(.var 1), (.var 2), (.var 5), (.lit (.int 0)), (.var 6)])), (.iff (.cmp .NotEq (.sub (.var 0) (.var 7)) (.lit (.int 0))) [(.ret (.tup [(.una .USub (.lit (.int 1))), (.una .USub (.lit (.int 1)))]))] []), (.asg 8 (.ite (.cmp .Eq (.var 4) (.lit (.int 0))) (.lit (.int 1)) (.bin .Sub (.var 2) (.lit (.int 2))))), (.asg 9 (.call 31 [(.var 1), (.var 2), (.var 5), (.lit (.int 0)), (.bin .Mult (.lit (.int 2)) (.var 6))])), (.iff (.and [(.var 3), (.cmp .Eq (.bin .FloorDiv (.var 5) (.var 1)) (.var 8)), (.cmp .GtE (.var 9) (.lit (.int 0))), (.cmp .Eq (.sub (.var 0) (.var 9)) (.lit (.int 0)))]) [(.ret (.tup [(.var 7), (.var 9)]))] []), (.ret (.tup [(.var 7), (.una .USub (.lit (.int 1)))]))]
-- 36 _law_kinds: 0 stage, 1 is_capture, 2 lesser
noncomputable def B_law_kinds : List St := [(.asg 2 (.list [(.lit (.int 4)), (.lit (.int 3)), (.lit (.int 2))])), (.iff (.cmp .Eq (.var 0) (.lit (.int 0))) [(.ret (.bin .Add (.list [(.lit (.int 5))]) (.ite (.var 1) (.var 2) (.list []))))] []), (.iff (.cmp .Eq (.var 0) (.lit (.int 1))) [(.ret (.ite (.var 1) (.list []) (.var 2)))] []), (.ret (.bin .Add (.list [(.lit (.int 5))]) (.var 2)))]
-- 37 _law_moves: 0 board, 1 files, 2 ranks, 3 double, 4 side, 5 stage, 6 target, 7 found, 8 last, 9 square, 10 one, 11 two, 12 goals, 13 across, 14 goal, 15 is_capture, 16 kind
noncomputable def B_law_moves : List St := [(.asg 7 (.list [])), (.asg 8 (.ite (.cmp .Eq (.var 4) (.lit (.int 0))) (.bin .Sub (.var 2) (.lit (.int 1))) (.lit (.int 0)))), (.forV 9 (.range [(.bin .Mult (.var 1) (.var 2))]) [(.iff (.cmp .NotEq (.sub (.var 0) (.var 9)) (.bin .Add (.lit (.int 1)) (.bin .Mult (.lit (.int 8)) (.var 4)))) [.cont] []), (.asgT [10, 11] (.call 35 [(.var 0), (.var 1), (.var 2), (.var 3), (.var 4), (.var 9)])), (.asg 12 (.list [(.tup [(.var 10), (.lit (.bool false))]), (.tup [(.var 11), (.lit (.bool false))])])), (.forV 13 (.tup [(.una .USub (.lit (.int 1))), (.lit (.int 1))]) [(.asg 14 (.call 31 [(.var 1), (.var 2), (.var 9), (.var 13), (.bin .Sub (.lit (.int 1)) (.bin .Mult (.lit (.int 2)) (.var 4)))])), (.iff (.and [(.cmp .GtE (.var 14) (.lit (.int 0))), (.cmp .NotEq (.sub (.var 0) (.var 14)) (.lit (.int 0))), (.cmp .NotEq (.bin .FloorDiv (.sub (.var 0) (.var 14)) (.lit (.int 8))) (.var 4))]) [(.ex (.app (.var 12) (.tup [(.var 14), (.lit (.bool true))])))] [])]), (.forT [14, 15] (.var 12) [(.iff (.or [(.cmp .Lt (.var 14) (.lit (.int 0))), (.cmp .Eq (.bin .Mod (.bin .FloorDiv (.var 6) (.bin .Pow (.lit (.int 2)) (.var 14))) (.lit (.int 2))) (.lit (.int 0))), (.and [(.var 15), (.cmp .Eq (.var 5) (.lit (.int 1)))])]) [.cont] []), (.iff (.cmp .Eq (.bin .FloorDiv (.var 14) (.var 1)) (.var 8)) [(.augV .Add 7 (.comp (.call 3 [(.var 9), (.var 14), (.lit (.int 1)), (.var 16)]) 16 (.call 36 [(.var 5), (.var 15)]) []))] [(.iff (.or [(.var 15), (.cmp .NotEq (.var 5) (.lit (.int 0)))]) [(.ex (.app (.var 7) (.call 3 [(.var 9), (.var 14), (.lit (.int 0)), (.lit (.int 0))])))] [])])])]), (.ret (.sorted (.var 7)))]
-- 38 _law_position: 0 script, 1 geo, 2 files, 3 ranks, 4 rows, 5 pos, 6 cell, 7 man, 8 square, 9 man, 10 square, 11 k
noncomputable def B_law_position : List St := [(.asg 4 (.comp (.comp (.bin .Add (.bin .Mult (.lit (.int 90)) (.var 9)) (.var 10)) 10 (.range [(.bin .Mult (.var 2) (.var 3))]) []) 9 (.range [(.lit (.int 15))]) [])), (.asg 5 (.new 59 4 [(.var 1), (.new 277 28 [(.var 4), (.bin .Mult (.list [(.lit (.int 3))]) (.var 2)), (.mklist (.range [(.lit (.int 16))])), (.lit (.int 8))])])), (.forV 6 (.comp (.call 30 [(.var 0), (.bin .Add (.lit (.int 5)) (.var 11))]) 11 (.range [(.bin .Mod (.call 30 [(.var 0), (.lit (.int 4))]) (.lit (.int 10)))]) []) [(.asg 7 (.sub (.list [(.lit (.int 1)), (.lit (.int 9)), (.lit (.int 1)), (.lit (.int 9)), (.lit (.int 2)), (.lit (.int 10))]) (.bin .Mod (.var 6) (.lit (.int 6))))), (.asg 8 (.bin .Mod (.bin .FloorDiv (.var 6) (.lit (.int 6))) (.bin .Mult (.var 2) (.var 3)))), (.iff (.and [(.cmp .Eq (.sub (.attr (.var 5) 2) (.var 8)) (.lit (.int 0))), (.or [(.cmp .Eq (.bin .Mod (.var 7) (.lit (.int 8))) (.lit (.int 2))), (.cmp2 .Lt .Lt (.lit (.int 0)) (.bin .FloorDiv (.var 8) (.var 2)) (.bin .Sub (.var 3) (.lit (.int 1))))])]) [(.ex (.call 5 [(.var 5), (.var 7), (.var 8)]))] [])]), (.asgA (.var 5) 6 (.bin .Mod (.call 30 [(.var 0), (.lit (.int 3))]) (.lit (.int 2)))), (.ret (.var 5))]
-- 39 law: 0 script, 1 files, 2 ranks, 3 double, 4 geo, 5 whole, 6 pos, 7 side, 8 pairs, 9 target, 10 stage, 11 out, 12 is_capture, 13 square, 14 pair, 15 pair, 16 kind
noncomputable def B_law : List St := [(.asgT [1, 2, 3] (.sub (.call 29 []) (.bin .Mod (.call 30 [(.var 0), (.lit (.int 0))]) (.lit (.int 8))))), (.asg 4 (.call 27 [(.var 1), (.var 2), (.var 3), (.lit (.bool false))])), (.asg 5 (.bin .Pow (.lit (.int 2)) (.bin .Mult (.var 1) (.var 2)))), (.iff (.not (.call 34 [(.var 4), (.var 1), (.var 2), (.bin .Mod (.call 30 [(.var 0), (.lit (.int 1))]) (.var 5))])) [(.ret (.lit (.bool false)))] []), (.asg 6 (.call 38 [(.var 0), (.var 4), (.var 1), (.var 2)])), (.forV 7 (.tup [(.lit (.int 0)), (.lit (.int 1))]) [(.asg 8 (.comp (.call 35 [(.attr (.var 6) 2), (.var 1), (.var 2), (.var 3), (.var 7), (.var 13)]) 13 (.range [(.bin .Mult (.var 1) (.var 2))]) [(.cmp .Eq (.sub (.attr (.var 6) 2) (.var 13)) (.bin .Add (.lit (.int 1)) (.bin .Mult (.lit (.int 8)) (.var 7))))])), (.iff (.cmp .NotEq (.call 13 [(.var 6), (.var 7)]) (.tup [(.call 33 [(.comp (.sub (.var 14) (.lit (.int 0))) 14 (.var 8) [])]), (.call 33 [(.comp (.sub (.var 15) (.lit (.int 1))) 15 (.var 8) [])])])) [(.ret (.lit (.bool false)))] [])]), (.asg 9 (.bin .Mod (.call 30 [(.var 0), (.lit (.int 2))]) (.var 5))), (.forV 10 (.tup [(.lit (.int 0)), (.lit (.int 1)), (.lit (.int 3)), (.lit (.int 2))]) [(.asg 11 (.list [(.una .USub (.lit (.int 5)))])), (.ex (.call 18 [(.var 6), (.var 10), (.var 9), (.var 11)])), (.iff (.or [(.cmp .NotEq (.sub (.var 11) (.lit (.int 0))) (.una .USub (.lit (.int 5)))), (.cmp .NotEq (.sorted (.tail (.var 11) (.lit (.int 1)))) (.call 37 [(.attr (.var 6) 2), (.var 1), (.var 2), (.var 3), (.attr (.var 6) 6), (.var 10), (.var 9)]))]) [(.ret (.lit (.bool false)))] []), (.forV 12 (.tup [(.lit (.bool false)), (.lit (.bool true))]) [(.asg 11 (.list [])), (.ex (.call 14 [(.lit (.int 1)), (.lit (.int 2)), (.var 10), (.var 12), (.var 11)])), (.iff (.cmp .NotEq (.var 11) (.comp (.call 3 [(.lit (.int 1)), (.lit (.int 2)), (.lit (.int 1)), (.var 16)]) 16 (.call 36 [(.var 10), (.var 12)]) [])) [(.ret (.lit (.bool false)))] [])])]), (.ret (.lit (.bool true)))]
noncomputable def allFn : List Fn := [⟨1, 2, B_squares_of⟩,
  ⟨1, 0, B_side_of⟩,
  ⟨1, 0, B_kind_of⟩,
  ⟨4, 1, B_pack_move⟩,
  ⟨3, 0, B_PositionInit⟩,
  ⟨3, 1, B_put_piece⟩,
  ⟨1, 0, B_occupied⟩,
  ⟨3, 0, B_pieces⟩,
  ⟨2, 0, B_push_step⟩,
  ⟨2, 0, B_start_mask⟩,
  ⟨2, 0, B_last_mask⟩,
  ⟨3, 0, B_shift_push⟩,
  ⟨4, 0, B_shift_capture⟩,
  ⟨2, 6, B_push_targets⟩,
  ⟨5, 2, B_add_promotions⟩,
  ⟨3, 5, B_add_plain_pushes⟩,
  ⟨4, 4, B_add_push_promotions⟩,
  ⟨4, 8, B_add_pawn_captures⟩,
  ⟨4, 0, B_add_pawn_moves⟩,
  ⟨5, 0, B_GeometryInit⟩,
  ⟨1, 0, B_is_growing⟩,
  ⟨1, 4, B_add_masks⟩,
  ⟨2, 1, B_inner_squares⟩,
  ⟨1, 7, B_add_rays⟩,
  ⟨1, 1, B_add_pawns⟩,
  ⟨1, 10, B_add_knights⟩,
  ⟨1, 6, B_add_castles⟩,
  ⟨4, 1, B_make_geometry⟩,
  ⟨5, 0, B_ZobristInit⟩,
  ⟨0, 0, B_law_boards⟩,
  ⟨2, 0, B_law_told⟩,
  ⟨5, 2, B_law_beside⟩,
  ⟨3, 1, B_law_in_set⟩,
  ⟨1, 1, B_law_set⟩,
  ⟨4, 10, B_law_shifts_right⟩,
  ⟨6, 4, B_law_steps⟩,
  ⟨2, 1, B_law_kinds⟩,
  ⟨7, 10, B_law_moves⟩,
  ⟨4, 8, B_law_position⟩,
  ⟨1, 16, B_law⟩]
noncomputable def P (f : Nat) : Option Fn := allFn[f]?
noncomputable def namesOf (f : Nat) : List String := match f with
  | 0 => ["b", "out", "square"]
  | 1 => ["piece"]
  | 2 => ["piece"]
  | 3 => ["origin", "to", "special", "promo", "field"]
  | 4 => ["self", "geo", "zob"]
  | 5 => ["pos", "piece", "s", "bit"]
  | 6 => ["pos"]
  | 7 => ["pos", "side", "kind"]
  | 8 => ["geo", "side"]
  | 9 => ["geo", "side"]
  | 10 => ["geo", "side"]
  | 11 => ["geo", "b", "side"]
  | 12 => ["geo", "b", "side", "wing"]
  | 13 => ["pos", "side", "geo", "empty", "pawns", "ones", "twos", "passed"]
  | 14 => ["origin", "to", "stage", "is_capture", "out", "with_lesser", "kind"]
  | 15 => ["pos", "target", "out", "geo", "step", "ones", "twos", "goal"]
  | 16 => ["pos", "stage", "target", "out", "geo", "step", "ones", "goal"]
  | 17 => ["pos", "stage", "target", "out", "geo", "side", "last", "pawns", "hits", "wing", "step", "goal"]
  | 18 => ["pos", "stage", "target", "out"]
  | 19 => ["self", "files", "ranks", "has_double", "has_castling"]
  | 20 => ["d"]
  | 21 => ["geo", "row", "column", "r", "f"]
  | 22 => ["geo", "d", "edge"]
  | 23 => ["geo", "d", "inner", "delta", "ray", "order", "square", "goal"]
  | 24 => ["geo", "square"]
  | 25 => ["geo", "files", "not_first", "not_last", "not_first_two", "not_last_two", "square", "b", "near", "far", "found"]
  | 26 => ["geo", "start", "index", "base", "corner", "way", "goal"]
  | 27 => ["files", "ranks", "has_double", "has_castling", "geo"]
  | 28 => ["self", "pieces", "ep", "rights", "side"]
  | 29 => []
  | 30 => ["script", "place"]
  | 31 => ["files", "ranks", "square", "across", "up", "column", "rank"]
  | 32 => ["number", "files", "ranks", "square"]
  | 33 => ["spots", "spot"]
  | 34 => ["geo", "files", "ranks", "number", "spots", "side", "up", "wing", "goals", "rows", "spot", "spot", "column", "column"]
  | 35 => ["board", "files", "ranks", "double", "side", "square", "up", "one", "first", "two"]
  | 36 => ["stage", "is_capture", "lesser"]
  | 37 => ["board", "files", "ranks", "double", "side", "stage", "target", "found", "last", "square", "one", "two", "goals", "across", "goal", "is_capture", "kind"]
  | 38 => ["script", "geo", "files", "ranks", "rows", "pos", "cell", "man", "square", "man", "square", "k"]
  | 39 => ["script", "files", "ranks", "double", "geo", "whole", "pos", "side", "pairs", "target", "stage", "out", "is_capture", "square", "pair", "pair", "kind"]
  | _ => []
noncomputable def ownOf (f : Nat) : Nat := match f with
  | 0 => 3
  | 1 => 1
  | 2 => 1
  | 3 => 5
  | 4 => 3
  | 5 => 4
  | 6 => 1
  | 7 => 3
  | 8 => 2
  | 9 => 2
  | 10 => 2
  | 11 => 3
  | 12 => 4
  | 13 => 8
  | 14 => 7
  | 15 => 8
  | 16 => 8
  | 17 => 12
  | 18 => 4
  | 19 => 5
  | 20 => 1
  | 21 => 5
  | 22 => 3
  | 23 => 8
  | 24 => 2
  | 25 => 11
  | 26 => 7
  | 27 => 5
  | 28 => 5
  | 29 => 0
  | 30 => 2
  | 31 => 7
  | 32 => 3
  | 33 => 1
  | 34 => 10
  | 35 => 10
  | 36 => 3
  | 37 => 16
  | 38 => 9
  | 39 => 13
  | _ => 0
noncomputable def funName (f : Nat) : String := match f with
  | 0 => "squares_of"
  | 1 => "side_of"
  | 2 => "kind_of"
  | 3 => "pack_move"
  | 4 => "Position.__init__"
  | 5 => "put_piece"
  | 6 => "occupied"
  | 7 => "pieces"
  | 8 => "push_step"
  | 9 => "start_mask"
  | 10 => "last_mask"
  | 11 => "shift_push"
  | 12 => "shift_capture"
  | 13 => "push_targets"
  | 14 => "add_promotions"
  | 15 => "add_plain_pushes"
  | 16 => "add_push_promotions"
  | 17 => "add_pawn_captures"
  | 18 => "add_pawn_moves"
  | 19 => "Geometry.__init__"
  | 20 => "is_growing"
  | 21 => "add_masks"
  | 22 => "inner_squares"
  | 23 => "add_rays"
  | 24 => "add_pawns"
  | 25 => "add_knights"
  | 26 => "add_castles"
  | 27 => "make_geometry"
  | 28 => "Zobrist.__init__"
  | 29 => "_law_boards"
  | 30 => "_law_told"
  | 31 => "_law_beside"
  | 32 => "_law_in_set"
  | 33 => "_law_set"
  | 34 => "_law_shifts_right"
  | 35 => "_law_steps"
  | 36 => "_law_kinds"
  | 37 => "_law_moves"
  | 38 => "_law_position"
  | 39 => "law"
  | _ => ""
noncomputable def attrName (f : Nat) : String := match f with
  | 0 => "geo"
  | 1 => "zob"
  | 2 => "board"
  | 3 => "size"
  | 4 => "kinds"
  | 5 => "sides"
  | 6 => "side"
  | 7 => "rights"
  | 8 => "ep"
  | 9 => "half"
  | 10 => "full"
  | 11 => "key"
  | 12 => "history"
  | 13 => "pieces"
  | 14 => "files"
  | 15 => "rank_masks"
  | 16 => "ranks"
  | 17 => "file_masks"
  | 18 => "has_double"
  | 19 => "has_castling"
  | 20 => "rays"
  | 21 => "king"
  | 22 => "knight"
  | 23 => "pawn"
  | 24 => "castles"
  | 25 => "rights_lost"
  | _ => ""
end Pf
end

section
set_option autoImplicit false
set_option maxRecDepth 100000
namespace Pf
open PySem PySem.W PyProof.Rows PySem.Calls

noncomputable def VRel (base : Heap) : AVal → Value → Prop
  | .int i, v => ∃ t, v = .int i t
  | .bool b, v => v = .bool b
  | .none, v => v = .none
  | .ref a, v => v = .ref a
  | .cst t a ns, v => v = .ref a ∧ ∃ vs, IntsAre vs ns ∧ (match t with | true => base.IsTuple a vs.toArray | false => base.IsList a vs.toArray)

noncomputable def VRels (base : Heap) : List AVal → List Value → Prop
  | [], [] => True
  | v :: r, x :: s => VRel base v x ∧ VRels base r s
  | _, _ => False

theorem VRels.one {base : Heap} {x : AVal} {vs : List Value} (h : VRels base [x] vs) : ∃ v, vs = [v] ∧ VRel base x v := by
  cases vs with
  | nil => exact h.elim
  | cons v s =>
    cases s with
    | nil => exact ⟨v, rfl, h.1⟩
    | cons _ _ => exact h.2.elim
theorem VRels.cons' {base : Heap} {x : AVal} {r : List AVal} {vs : List Value} (h : VRels base (x :: r) vs) : ∃ v s, vs = v :: s ∧ VRel base x v ∧ VRels base r s := by
  cases vs with
  | nil => exact h.elim
  | cons v s => exact ⟨v, s, rfl, h⟩
noncomputable def EsRel (base : Heap) : List (Nat × AVal) → List DictEntry → Prop
  | [], [] => True
  | (f, v) :: r, e :: s => (f < 26 ∧ (∃ t, e.key = .str (Str.ofString (attrName f)) t) ∧ VRel base v e.val) ∧ EsRel base r s
  | _, _ => False

noncomputable def tupOf (its : Array Value) (n : Nat) : Obj := { cls := .type "tuple", data := .seq its n }
noncomputable def ORel (base : Heap) : AObj → Obj → Prop
  | .list xs, ob => ∃ its n, ob = listOf its n ∧ VRels base xs its.toList
  | .tup xs, ob => ∃ its n, ob = tupOf its n ∧ VRels base xs its.toList
  | .inst c d, ob => (c = 59 ∨ c = 200 ∨ c = 277) ∧ ob = instObj c d
  | .dict fs, ob => ∃ es n, ob = dictOf es n ∧ EsRel base fs es
  | .range lo hi st, ob => (small lo ∧ small hi ∧ (st = 1 ∨ st = -1)) ∧ ∃ t u v, ob = { cls := .type "range", data := .fields #[.int lo t, .int hi u, .int st v] }

structure Good (base : Heap) (σ : AHeap) (h : Heap) : Prop where
  keep : ∀ b o, base.get? b = some o → h.get? b = some o
  out : ∀ a, σ a ≠ none → base.get? a = none
  obj : ∀ a o, σ a = some o → ∃ ob, h.get? a = some ob ∧ ORel base o ob

structure Step (σ σ' : AHeap) (own : List Addr) (h h' : Heap) : Prop where
  keep : ∀ b ob, h.get? b = some ob → σ b = none → b ∉ own → h'.get? b = some ob
  fresh : ∀ b, σ b = none → σ' b ≠ none → h.get? b = none
  grow : ∀ b ob, h.get? b = some ob → ∃ ob', h'.get? b = some ob'

structure FR (env : Env) (nm : List (Option Str)) (m : Loc) (own : List Addr) (base : Heap) (σ : AHeap) (h : Heap) : Prop where
  kf : env.scope.kind = .function
  gl : env.globals = mainGlobals
  bl : env.builtins = builtinsNs
  loc : env.locals ∈ own
  ownOk : ∀ a ∈ own, σ a = none ∧ base.get? a = none ∧ ∃ o, h.get? a = some o
  ns : ∃ mm, h.Ns env.locals mm ∧ ∀ (i : Nat) n v, nm[i]? = some (some n) → m[i]? = some (some v) → env.kindOf n = some .local → ∃ val, mm n = some val ∧ VRel base v val
  cell : ∀ n, env.kindOf n = some .cell ∨ env.kindOf n = some .free → ∃ c v, env.cells.lookup n = some c ∧ h.IsCell c v ∧ σ c = none ∧ base.get? c = none ∧ c ≠ env.locals ∧
    (∀ (i : Nat) w, nm[i]? = some (some n) → m[i]? = some (some w) → ∃ val, v = some val ∧ VRel base w val)
  inj : ∀ n n' c, env.cells.lookup n = some c → env.cells.lookup n' = some c → n = n'
  nmi : ∀ (i j : Nat) n, nm[i]? = some (some n) → nm[j]? = some (some n) → i = j
  len : m.length = nm.length

section
variable {base h h' h'' : Heap} {σ σ' σ'' : AHeap} {own own' : List Addr} {env : Env} {nm : List (Option Str)} {m : Loc}

theorem Good.dom (G : Good base σ h) {a : Addr} (e : h.get? a = none) : σ a = none := by
  cases q : σ a with
  | none => rfl
  | some o => obtain ⟨ob, e', _⟩ := G.obj a o q; rw [e] at e'; cases e'

theorem Step.refl : Step σ σ own h h := ⟨fun _ _ e _ _ => e, fun _ a b => absurd a b, fun _ ob e => ⟨ob, e⟩⟩
theorem Step.trans (x : Step σ σ' own h h') (y : Step σ' σ'' own h' h'') : Step σ σ'' own h h'' := by
  refine ⟨fun b ob e hs ho => ?_, fun b hs hs' => ?_, fun b ob e => ?_⟩
  · refine y.keep b ob (x.keep b ob e hs ho) ?_ ho
    cases q : σ' b with
    | none => rfl
    | some o => have := x.fresh b hs (by rw [q]; exact Option.some_ne_none _); rw [this] at e; cases e
  · cases q : σ' b with
    | some o => exact x.fresh b hs (by rw [q]; exact Option.some_ne_none _)
    | none =>
      have z := y.fresh b q hs'
      cases e : h.get? b with
      | none => rfl
      | some ob => obtain ⟨ob', e'⟩ := x.grow b ob e; rw [z] at e'; cases e'
  · obtain ⟨o1, e1⟩ := x.grow b ob e
    exact y.grow b o1 e1
theorem Step.mono (x : Step σ σ' own h h') (k : ∀ a ∈ own, a ∈ own') : Step σ σ' own' h h' := ⟨fun b ob e hs ho => x.keep b ob e hs fun q => ho (k b q), x.fresh, x.grow⟩
theorem Step.of_nil (x : Step σ σ' [] h h') : Step σ σ' own h h' := x.mono fun _ q => nomatch q
theorem Step.none_of (x : Step σ σ' own h h') {b : Addr} {ob : Obj} (e : h.get? b = some ob) (hs : σ b = none) : σ' b = none := by
  cases q : σ' b with
  | none => rfl
  | some o => have := x.fresh b hs (by rw [q]; exact Option.some_ne_none _); rw [this] at e; cases e

/-- a frame that is not touched stays as it is -/
theorem FR.step0 (F : FR env nm m own base σ h) (keep : ∀ b ob, h.get? b = some ob → σ b = none → b ∉ own' → h'.get? b = some ob) (fresh : ∀ b, σ b = none → σ' b ≠ none → h.get? b = none) (dis : ∀ a ∈ own, a ∉ own') (disc : ∀ n c, (env.kindOf n = some .cell ∨ env.kindOf n = some .free) → env.cells.lookup n = some c → c ∉ own') : FR env nm m own base σ' h' := by
  have none_of : ∀ {b : Addr} {ob : Obj}, h.get? b = some ob → σ b = none → σ' b = none := fun {b ob} e hs => by
    cases q : σ' b with
    | none => rfl
    | some o => have := fresh b hs (by rw [q]; exact Option.some_ne_none _); rw [this] at e; cases e
  refine ⟨F.kf, F.gl, F.bl, F.loc, fun a ha => ?_, ?_, fun n hn => ?_, F.inj, F.nmi, F.len⟩
  · obtain ⟨h1, h2, o, h3⟩ := F.ownOk a ha
    exact ⟨none_of h3 h1, h2, o, keep a o h3 h1 (dis a ha)⟩
  · obtain ⟨mm, hn, hv⟩ := F.ns
    obtain ⟨h1, h2, o, h3⟩ := F.ownOk _ F.loc
    exact ⟨mm, hn.at' fun o' e => keep _ o' e h1 (dis _ F.loc), hv⟩
  · obtain ⟨c, v, hc, ⟨o, ho, hd⟩, hs, hb, hl, hv⟩ := F.cell n hn
    exact ⟨c, v, hc, ⟨o, keep c o ho hs (disc n c hn hc), hd⟩, none_of ho hs, hb, hl, hv⟩
theorem FR.step (F : FR env nm m own base σ h) (S : Step σ σ' own' h h') (dis : ∀ a ∈ own, a ∉ own') (disc : ∀ n c, (env.kindOf n = some .cell ∨ env.kindOf n = some .free) → env.cells.lookup n = some c → c ∉ own') : FR env nm m own base σ' h' :=
  F.step0 S.keep S.fresh dis disc
theorem FR.step_nil (F : FR env nm m own base σ h) (S : Step σ σ' [] h h') : FR env nm m own base σ' h' := F.step S (fun _ _ q => nomatch q) fun _ _ _ _ q => nomatch q

/-- the heap grows; what is written stays -/
theorem Good.ext (G : Good base σ h) (k : ∀ b o, h.get? b = some o → h'.get? b = some o) : Good base σ h' :=
  ⟨fun b o e => k b o (G.keep b o e), G.out, fun a o e => let ⟨ob, e1, e2⟩ := G.obj a o e; ⟨ob, k _ _ e1, e2⟩⟩
theorem Step.ext (k : ∀ b o, h.get? b = some o → h'.get? b = some o) : Step σ σ own h h' := ⟨fun b o e _ _ => k b o e, fun _ a b => absurd a b, fun b o e => ⟨o, k b o e⟩⟩

theorem put_self {a : Nat} {o : AObj} : put σ a o a = some o := by simp [put]
theorem put_ne {a b : Nat} {o : AObj} (q : b ≠ a) : put σ a o b = σ b := by simp [put, q]
theorem get_size (h : Heap) : h.get? h.objs.size = none := by
  cases e : h.get? h.objs.size with
  | none => rfl
  | some o => exact absurd (Heap.lt_size e) (Nat.lt_irrefl _)

/-- a new object at an address that was free -/
theorem Good.new {a : Addr} {o : AObj} {ob : Obj} (G : Good base σ h) (k : ∀ b o, h.get? b = some o → h'.get? b = some o) (fr : h.get? a = none) (e : h'.get? a = some ob) (r : ORel base o ob) : Good base (put σ a o) h' := by
  refine ⟨fun b o' q => k _ _ (G.keep b o' q), fun b hb => ?_, fun b o' q => ?_⟩
  · by_cases z : b = a
    · subst z
      cases q : base.get? b with
      | none => rfl
      | some o' => have := G.keep b o' q; rw [fr] at this; cases this
    · rw [put_ne z] at hb; exact G.out b hb
  · by_cases z : b = a
    · subst z; rw [put_self] at q; cases q; exact ⟨ob, e, r⟩
    · rw [put_ne z] at q
      obtain ⟨o1, e1, e2⟩ := G.obj b o' q
      exact ⟨o1, k _ _ e1, e2⟩
theorem Step.new {a : Addr} {o : AObj} (k : ∀ b o, h.get? b = some o → h'.get? b = some o) (fr : h.get? a = none) : Step σ (put σ a o) own h h' := by
  refine ⟨fun b o' e _ _ => k b o' e, fun b h1 h2 => ?_, fun b o' e => ⟨o', k b o' e⟩⟩
  by_cases z : b = a
  · subst z; exact fr
  · rw [put_ne z] at h2; exact absurd h1 h2

/-- an object turned -/
theorem Good.upd {a : Addr} {o o0 : AObj} {ob : Obj} (G : Good base σ h) (h0 : σ a = some o0) (k : ∀ b, b ≠ a → h'.get? b = h.get? b) (e : h'.get? a = some ob) (r : ORel base o ob) : Good base (put σ a o) h' := by
  have hb : base.get? a = none := G.out a (by rw [h0]; exact Option.some_ne_none _)
  refine ⟨fun b o' q => ?_, fun b hb' => ?_, fun b o' q => ?_⟩
  · have z : b ≠ a := fun z => by rw [z, hb] at q; cases q
    rw [k b z]; exact G.keep b o' q
  · by_cases z : b = a
    · rw [z]; exact hb
    · rw [put_ne z] at hb'; exact G.out b hb'
  · by_cases z : b = a
    · subst z; rw [put_self] at q; cases q; exact ⟨ob, e, r⟩
    · rw [put_ne z] at q
      obtain ⟨o1, e1, e2⟩ := G.obj b o' q
      exact ⟨o1, (k b z).trans e1, e2⟩
theorem Step.upd {a : Addr} {o o0 : AObj} {ob : Obj} (h0 : σ a = some o0) (k : ∀ b, b ≠ a → h'.get? b = h.get? b) (e : h'.get? a = some ob) : Step σ (put σ a o) own h h' := by
  refine ⟨fun b o' q hs _ => ?_, fun b h1 h2 => ?_, fun b o' q => ?_⟩
  · have z : b ≠ a := fun z => by rw [z, h0] at hs; cases hs
    rw [k b z]; exact q
  · by_cases z : b = a
    · rw [z, h0] at h1; cases h1
    · rw [put_ne z] at h2; exact absurd h1 h2
  · by_cases z : b = a
    · exact ⟨ob, z ▸ e⟩
    · exact ⟨o', (k b z).trans q⟩
end

/-- what is kept while a frame runs -/
structure Ok (env : Env) (nm : List (Option Str)) (m : Loc) (own : List Addr) (base : Heap) (σ : AHeap) (h : Heap) : Prop where
  good : Good base σ h
  fr : FR env nm m own base σ h

section
variable {base h h' : Heap} {σ σ' : AHeap} {own : List Addr} {env : Env} {nm : List (Option Str)} {m : Loc}
theorem Ok.ext (O : Ok env nm m own base σ h) (k : ∀ b o, h.get? b = some o → h'.get? b = some o) : Ok env nm m own base σ h' :=
  ⟨O.good.ext k, O.fr.step_nil (Step.ext k)⟩
theorem Ok.new {a : Addr} {o : AObj} {ob : Obj} (O : Ok env nm m own base σ h) (k : ∀ b o, h.get? b = some o → h'.get? b = some o) (fr : h.get? a = none) (e : h'.get? a = some ob) (r : ORel base o ob) : Ok env nm m own base (put σ a o) h' :=
  ⟨O.good.new k fr e r, O.fr.step_nil (Step.new k fr)⟩
theorem Ok.upd {a : Addr} {o o0 : AObj} {ob : Obj} (O : Ok env nm m own base σ h) (h0 : σ a = some o0) (k : ∀ b, b ≠ a → h'.get? b = h.get? b) (e : h'.get? a = some ob) (r : ORel base o ob) : Ok env nm m own base (put σ a o) h' :=
  ⟨O.good.upd h0 k e r, O.fr.step_nil (Step.upd h0 k e)⟩
theorem Ok.push {o : AObj} {ob : Obj} (O : Ok env nm m own base σ h) (hf : ob.isFreed = false) (r : ORel base o ob) : Ok env nm m own base (put σ h.objs.size o) (h.push ob) :=
  O.new (fun _ _ e => Heap.get?_push_of_some _ e) (get_size h) (Heap.get?_push_size _ hf) r
theorem Ok.free (O : Ok env nm m own base σ h) : σ h.objs.size = none := O.good.dom (get_size h)
end
theorem step_push {h : Heap} {σ : AHeap} {own : List Addr} {o : AObj} {ob : Obj} : Step σ (put σ h.objs.size o) own h (h.push ob) := Step.new (fun _ _ e => Heap.get?_push_of_some _ e) (get_size h)

/-! values -/
section
variable {base : Heap}
theorem VRels.length : ∀ {xs : List AVal} {vs : List Value}, VRels base xs vs → vs.length = xs.length
  | [], [], _ => rfl
  | _ :: _, _ :: _, x => congrArg (· + 1) (VRels.length x.2)
  | [], _ :: _, x => x.elim
  | _ :: _, [], x => x.elim
theorem VRels.get : ∀ {xs : List AVal} {vs : List Value} {i : Nat} {v : AVal}, VRels base xs vs → xs[i]? = some v → ∃ x, vs[i]? = some x ∧ VRel base v x
  | _ :: _, y :: _, 0, _, r, e => by cases e; exact ⟨y, rfl, r.1⟩
  | _ :: _, _ :: _, i + 1, _, r, e => by
    rw [List.getElem?_cons_succ] at e
    obtain ⟨x, e', r'⟩ := VRels.get r.2 e
    exact ⟨x, by rw [List.getElem?_cons_succ]; exact e', r'⟩
  | [], _, _, _, _, e => by simp at e
  | _ :: _, [], _, _, r, _ => r.elim
theorem VRels.append : ∀ {xs ys : List AVal} {vs ws : List Value}, VRels base xs vs → VRels base ys ws → VRels base (xs ++ ys) (vs ++ ws)
  | [], _, [], _, _, y => y
  | _ :: _, _, _ :: _, _, x, y => ⟨x.1, VRels.append x.2 y⟩
  | [], _, _ :: _, _, x, _ => x.elim
  | _ :: _, _, [], _, x, _ => x.elim
theorem VRels.snoc {xs : List AVal} {vs : List Value} {v : AVal} {x : Value} (r : VRels base xs vs) (q : VRel base v x) : VRels base (xs ++ [v]) (vs ++ [x]) := r.append ⟨q, trivial⟩
theorem VRels.set : ∀ {xs : List AVal} {vs : List Value} {i : Nat} {v : AVal} {x : Value}, VRels base xs vs → VRel base v x → VRels base (xs.set i v) (vs.set i x)
  | [], [], _, _, _, _, _ => trivial
  | _ :: _, _ :: _, 0, _, _, r, q => ⟨q, r.2⟩
  | _ :: _, _ :: _, _ + 1, _, _, r, q => ⟨r.1, VRels.set r.2 q⟩
  | [], _ :: _, _, _, _, r, _ => r.elim
  | _ :: _, [], _, _, _, r, _ => r.elim
theorem VRels.drop : ∀ {xs : List AVal} {vs : List Value} (n : Nat), VRels base xs vs → VRels base (xs.drop n) (vs.drop n)
  | _, _, 0, r => r
  | [], [], _ + 1, _ => trivial
  | _ :: _, _ :: _, n + 1, r => VRels.drop n r.2
  | [], _ :: _, _, r => r.elim
  | _ :: _, [], _, r => r.elim
theorem VRels.replicate {v : AVal} {x : Value} (q : VRel base v x) : ∀ n, VRels base (List.replicate n v) (List.replicate n x)
  | 0 => trivial
  | n + 1 => ⟨q, VRels.replicate q n⟩
theorem VRels.ints_of : ∀ {ns : List Int} {vs : List Value}, VRels base (zs ns) vs → IntsAre vs ns
  | [], [], _ => .nil
  | n :: r, v :: s, x => by
    obtain ⟨⟨t, rfl⟩, y⟩ := x
    exact .cons n t (VRels.ints_of y)
  | [], _ :: _, x => x.elim
  | _ :: _, [], x => x.elim
theorem VRels.of_ints : ∀ {ns : List Int} {vs : List Value}, IntsAre vs ns → VRels base (zs ns) vs
  | _, _, .nil => trivial
  | _, _, .cons _ t r => ⟨⟨t, rfl⟩, VRels.of_ints r⟩
end

end Pf
end

section
set_option autoImplicit false
namespace Pf
open PySem PySem.W PyProof.Rows PySem.Calls
theorem noT {a : Prop} (h : false = true) : a := Bool.noConfusion h
noncomputable def onName (e : PySem.Expr) (F : Str → Pos → Bool) : Bool := if q : e.ctorIdx = 23 then PySem.Expr.Name.elim (motive_1 := fun _ => Bool) e q F else false
theorem onName_i {e : PySem.Expr} {F : Str → Pos → Bool} (h : onName e F = true) : ∃ a0 a1, e = .Name a0 a1 ∧ F a0 a1 = true := by
  unfold onName at h
  by_cases q : e.ctorIdx = 23
  · rw [dif_pos q] at h
    exact PySem.Expr.Name.elim (motive_1 := fun e => ∀ q, PySem.Expr.Name.elim (motive_1 := fun _ => Bool) e q F = true → ∃ a0 a1, e = .Name a0 a1 ∧ F a0 a1 = true) e q (fun a0 a1 _ h => ⟨a0, a1, rfl, h⟩) q h
  · rw [dif_neg q] at h; exact noT h
noncomputable def onBinOp (e : PySem.Expr) (F : PySem.Expr → Operator → PySem.Expr → Pos → Bool) : Bool := if q : e.ctorIdx = 2 then PySem.Expr.BinOp.elim (motive_1 := fun _ => Bool) e q F else false
theorem onBinOp_i {e : PySem.Expr} {F : PySem.Expr → Operator → PySem.Expr → Pos → Bool} (h : onBinOp e F = true) : ∃ a0 a1 a2 a3, e = .BinOp a0 a1 a2 a3 ∧ F a0 a1 a2 a3 = true := by
  unfold onBinOp at h
  by_cases q : e.ctorIdx = 2
  · rw [dif_pos q] at h
    exact PySem.Expr.BinOp.elim (motive_1 := fun e => ∀ q, PySem.Expr.BinOp.elim (motive_1 := fun _ => Bool) e q F = true → ∃ a0 a1 a2 a3, e = .BinOp a0 a1 a2 a3 ∧ F a0 a1 a2 a3 = true) e q (fun a0 a1 a2 a3 _ h => ⟨a0, a1, a2, a3, rfl, h⟩) q h
  · rw [dif_neg q] at h; exact noT h
noncomputable def onUnaryOp (e : PySem.Expr) (F : UnaryOp → PySem.Expr → Pos → Bool) : Bool := if q : e.ctorIdx = 3 then PySem.Expr.UnaryOp.elim (motive_1 := fun _ => Bool) e q F else false
theorem onUnaryOp_i {e : PySem.Expr} {F : UnaryOp → PySem.Expr → Pos → Bool} (h : onUnaryOp e F = true) : ∃ a0 a1 a2, e = .UnaryOp a0 a1 a2 ∧ F a0 a1 a2 = true := by
  unfold onUnaryOp at h
  by_cases q : e.ctorIdx = 3
  · rw [dif_pos q] at h
    exact PySem.Expr.UnaryOp.elim (motive_1 := fun e => ∀ q, PySem.Expr.UnaryOp.elim (motive_1 := fun _ => Bool) e q F = true → ∃ a0 a1 a2, e = .UnaryOp a0 a1 a2 ∧ F a0 a1 a2 = true) e q (fun a0 a1 a2 _ h => ⟨a0, a1, a2, rfl, h⟩) q h
  · rw [dif_neg q] at h; exact noT h
noncomputable def onIfExp (e : PySem.Expr) (F : PySem.Expr → PySem.Expr → PySem.Expr → Pos → Bool) : Bool := if q : e.ctorIdx = 5 then PySem.Expr.IfExp.elim (motive_1 := fun _ => Bool) e q F else false
theorem onIfExp_i {e : PySem.Expr} {F : PySem.Expr → PySem.Expr → PySem.Expr → Pos → Bool} (h : onIfExp e F = true) : ∃ a0 a1 a2 a3, e = .IfExp a0 a1 a2 a3 ∧ F a0 a1 a2 a3 = true := by
  unfold onIfExp at h
  by_cases q : e.ctorIdx = 5
  · rw [dif_pos q] at h
    exact PySem.Expr.IfExp.elim (motive_1 := fun e => ∀ q, PySem.Expr.IfExp.elim (motive_1 := fun _ => Bool) e q F = true → ∃ a0 a1 a2 a3, e = .IfExp a0 a1 a2 a3 ∧ F a0 a1 a2 a3 = true) e q (fun a0 a1 a2 a3 _ h => ⟨a0, a1, a2, a3, rfl, h⟩) q h
  · rw [dif_neg q] at h; exact noT h
noncomputable def onAttribute (e : PySem.Expr) (F : PySem.Expr → Str → Pos → Bool) : Bool := if q : e.ctorIdx = 20 then PySem.Expr.Attribute.elim (motive_1 := fun _ => Bool) e q F else false
theorem onAttribute_i {e : PySem.Expr} {F : PySem.Expr → Str → Pos → Bool} (h : onAttribute e F = true) : ∃ a0 a1 a2, e = .Attribute a0 a1 a2 ∧ F a0 a1 a2 = true := by
  unfold onAttribute at h
  by_cases q : e.ctorIdx = 20
  · rw [dif_pos q] at h
    exact PySem.Expr.Attribute.elim (motive_1 := fun e => ∀ q, PySem.Expr.Attribute.elim (motive_1 := fun _ => Bool) e q F = true → ∃ a0 a1 a2, e = .Attribute a0 a1 a2 ∧ F a0 a1 a2 = true) e q (fun a0 a1 a2 _ h => ⟨a0, a1, a2, rfl, h⟩) q h
  · rw [dif_neg q] at h; exact noT h
noncomputable def onSubscript (e : PySem.Expr) (F : PySem.Expr → PySem.Expr → Pos → Bool) : Bool := if q : e.ctorIdx = 21 then PySem.Expr.Subscript.elim (motive_1 := fun _ => Bool) e q F else false
theorem onSubscript_i {e : PySem.Expr} {F : PySem.Expr → PySem.Expr → Pos → Bool} (h : onSubscript e F = true) : ∃ a0 a1 a2, e = .Subscript a0 a1 a2 ∧ F a0 a1 a2 = true := by
  unfold onSubscript at h
  by_cases q : e.ctorIdx = 21
  · rw [dif_pos q] at h
    exact PySem.Expr.Subscript.elim (motive_1 := fun e => ∀ q, PySem.Expr.Subscript.elim (motive_1 := fun _ => Bool) e q F = true → ∃ a0 a1 a2, e = .Subscript a0 a1 a2 ∧ F a0 a1 a2 = true) e q (fun a0 a1 a2 _ h => ⟨a0, a1, a2, rfl, h⟩) q h
  · rw [dif_neg q] at h; exact noT h
noncomputable def onList (e : PySem.Expr) (F : (List Expr) → Pos → Bool) : Bool := if q : e.ctorIdx = 24 then PySem.Expr.List.elim (motive_1 := fun _ => Bool) e q F else false
theorem onList_i {e : PySem.Expr} {F : (List Expr) → Pos → Bool} (h : onList e F = true) : ∃ a0 a1, e = .List a0 a1 ∧ F a0 a1 = true := by
  unfold onList at h
  by_cases q : e.ctorIdx = 24
  · rw [dif_pos q] at h
    exact PySem.Expr.List.elim (motive_1 := fun e => ∀ q, PySem.Expr.List.elim (motive_1 := fun _ => Bool) e q F = true → ∃ a0 a1, e = .List a0 a1 ∧ F a0 a1 = true) e q (fun a0 a1 _ h => ⟨a0, a1, rfl, h⟩) q h
  · rw [dif_neg q] at h; exact noT h
noncomputable def onTuple (e : PySem.Expr) (F : (List Expr) → Nat → Pos → Bool) : Bool := if q : e.ctorIdx = 25 then PySem.Expr.Tuple.elim (motive_1 := fun _ => Bool) e q F else false
theorem onTuple_i {e : PySem.Expr} {F : (List Expr) → Nat → Pos → Bool} (h : onTuple e F = true) : ∃ a0 a1 a2, e = .Tuple a0 a1 a2 ∧ F a0 a1 a2 = true := by
  unfold onTuple at h
  by_cases q : e.ctorIdx = 25
  · rw [dif_pos q] at h
    exact PySem.Expr.Tuple.elim (motive_1 := fun e => ∀ q, PySem.Expr.Tuple.elim (motive_1 := fun _ => Bool) e q F = true → ∃ a0 a1 a2, e = .Tuple a0 a1 a2 ∧ F a0 a1 a2 = true) e q (fun a0 a1 a2 _ h => ⟨a0, a1, a2, rfl, h⟩) q h
  · rw [dif_neg q] at h; exact noT h
noncomputable def onCompare (e : PySem.Expr) (F : PySem.Expr → (List CmpOp) → (List Expr) → Pos → Bool) : Bool := if q : e.ctorIdx = 15 then PySem.Expr.Compare.elim (motive_1 := fun _ => Bool) e q F else false
theorem onCompare_i {e : PySem.Expr} {F : PySem.Expr → (List CmpOp) → (List Expr) → Pos → Bool} (h : onCompare e F = true) : ∃ a0 a1 a2 a3, e = .Compare a0 a1 a2 a3 ∧ F a0 a1 a2 a3 = true := by
  unfold onCompare at h
  by_cases q : e.ctorIdx = 15
  · rw [dif_pos q] at h
    exact PySem.Expr.Compare.elim (motive_1 := fun e => ∀ q, PySem.Expr.Compare.elim (motive_1 := fun _ => Bool) e q F = true → ∃ a0 a1 a2 a3, e = .Compare a0 a1 a2 a3 ∧ F a0 a1 a2 a3 = true) e q (fun a0 a1 a2 a3 _ h => ⟨a0, a1, a2, a3, rfl, h⟩) q h
  · rw [dif_neg q] at h; exact noT h
noncomputable def onCall (e : PySem.Expr) (F : PySem.Expr → (List Expr) → (List Keyword) → Pos → Bool) : Bool := if q : e.ctorIdx = 16 then PySem.Expr.Call.elim (motive_1 := fun _ => Bool) e q F else false
theorem onCall_i {e : PySem.Expr} {F : PySem.Expr → (List Expr) → (List Keyword) → Pos → Bool} (h : onCall e F = true) : ∃ a0 a1 a2 a3, e = .Call a0 a1 a2 a3 ∧ F a0 a1 a2 a3 = true := by
  unfold onCall at h
  by_cases q : e.ctorIdx = 16
  · rw [dif_pos q] at h
    exact PySem.Expr.Call.elim (motive_1 := fun e => ∀ q, PySem.Expr.Call.elim (motive_1 := fun _ => Bool) e q F = true → ∃ a0 a1 a2 a3, e = .Call a0 a1 a2 a3 ∧ F a0 a1 a2 a3 = true) e q (fun a0 a1 a2 a3 _ h => ⟨a0, a1, a2, a3, rfl, h⟩) q h
  · rw [dif_neg q] at h; exact noT h
noncomputable def onBoolOp (e : PySem.Expr) (F : BoolOp → (List Expr) → Pos → Bool) : Bool := if q : e.ctorIdx = 0 then PySem.Expr.BoolOp.elim (motive_1 := fun _ => Bool) e q F else false
theorem onBoolOp_i {e : PySem.Expr} {F : BoolOp → (List Expr) → Pos → Bool} (h : onBoolOp e F = true) : ∃ a0 a1 a2, e = .BoolOp a0 a1 a2 ∧ F a0 a1 a2 = true := by
  unfold onBoolOp at h
  by_cases q : e.ctorIdx = 0
  · rw [dif_pos q] at h
    exact PySem.Expr.BoolOp.elim (motive_1 := fun e => ∀ q, PySem.Expr.BoolOp.elim (motive_1 := fun _ => Bool) e q F = true → ∃ a0 a1 a2, e = .BoolOp a0 a1 a2 ∧ F a0 a1 a2 = true) e q (fun a0 a1 a2 _ h => ⟨a0, a1, a2, rfl, h⟩) q h
  · rw [dif_neg q] at h; exact noT h
noncomputable def onConstant (e : PySem.Expr) (F : Const → Nat → Pos → Bool) : Bool := if q : e.ctorIdx = 19 then PySem.Expr.Constant.elim (motive_1 := fun _ => Bool) e q F else false
theorem onConstant_i {e : PySem.Expr} {F : Const → Nat → Pos → Bool} (h : onConstant e F = true) : ∃ a0 a1 a2, e = .Constant a0 a1 a2 ∧ F a0 a1 a2 = true := by
  unfold onConstant at h
  by_cases q : e.ctorIdx = 19
  · rw [dif_pos q] at h
    exact PySem.Expr.Constant.elim (motive_1 := fun e => ∀ q, PySem.Expr.Constant.elim (motive_1 := fun _ => Bool) e q F = true → ∃ a0 a1 a2, e = .Constant a0 a1 a2 ∧ F a0 a1 a2 = true) e q (fun a0 a1 a2 _ h => ⟨a0, a1, a2, rfl, h⟩) q h
  · rw [dif_neg q] at h; exact noT h
noncomputable def onSlice (e : PySem.Expr) (F : (Option Expr) → (Option Expr) → (Option Expr) → Pos → Bool) : Bool := if q : e.ctorIdx = 26 then PySem.Expr.Slice.elim (motive_1 := fun _ => Bool) e q F else false
theorem onSlice_i {e : PySem.Expr} {F : (Option Expr) → (Option Expr) → (Option Expr) → Pos → Bool} (h : onSlice e F = true) : ∃ a0 a1 a2 a3, e = .Slice a0 a1 a2 a3 ∧ F a0 a1 a2 a3 = true := by
  unfold onSlice at h
  by_cases q : e.ctorIdx = 26
  · rw [dif_pos q] at h
    exact PySem.Expr.Slice.elim (motive_1 := fun e => ∀ q, PySem.Expr.Slice.elim (motive_1 := fun _ => Bool) e q F = true → ∃ a0 a1 a2 a3, e = .Slice a0 a1 a2 a3 ∧ F a0 a1 a2 a3 = true) e q (fun a0 a1 a2 a3 _ h => ⟨a0, a1, a2, a3, rfl, h⟩) q h
  · rw [dif_neg q] at h; exact noT h
noncomputable def onListComp (e : PySem.Expr) (F : PySem.Expr → (List Comprehension) → Scope → Pos → Bool) : Bool := if q : e.ctorIdx = 8 then PySem.Expr.ListComp.elim (motive_1 := fun _ => Bool) e q F else false
theorem onListComp_i {e : PySem.Expr} {F : PySem.Expr → (List Comprehension) → Scope → Pos → Bool} (h : onListComp e F = true) : ∃ a0 a1 a2 a3, e = .ListComp a0 a1 a2 a3 ∧ F a0 a1 a2 a3 = true := by
  unfold onListComp at h
  by_cases q : e.ctorIdx = 8
  · rw [dif_pos q] at h
    exact PySem.Expr.ListComp.elim (motive_1 := fun e => ∀ q, PySem.Expr.ListComp.elim (motive_1 := fun _ => Bool) e q F = true → ∃ a0 a1 a2 a3, e = .ListComp a0 a1 a2 a3 ∧ F a0 a1 a2 a3 = true) e q (fun a0 a1 a2 a3 _ h => ⟨a0, a1, a2, a3, rfl, h⟩) q h
  · rw [dif_neg q] at h; exact noT h
noncomputable def stAssign (e : PySem.Stmt) (F : (List Expr) → PySem.Expr → Pos → Bool) : Bool := if q : e.ctorIdx = 5 then PySem.Stmt.Assign.elim (motive_2 := fun _ => Bool) e q F else false
theorem stAssign_i {e : PySem.Stmt} {F : (List Expr) → PySem.Expr → Pos → Bool} (h : stAssign e F = true) : ∃ a0 a1 a2, e = .Assign a0 a1 a2 ∧ F a0 a1 a2 = true := by
  unfold stAssign at h
  by_cases q : e.ctorIdx = 5
  · rw [dif_pos q] at h
    exact PySem.Stmt.Assign.elim (motive_2 := fun e => ∀ q, PySem.Stmt.Assign.elim (motive_2 := fun _ => Bool) e q F = true → ∃ a0 a1 a2, e = .Assign a0 a1 a2 ∧ F a0 a1 a2 = true) e q (fun a0 a1 a2 _ h => ⟨a0, a1, a2, rfl, h⟩) q h
  · rw [dif_neg q] at h; exact noT h
noncomputable def stAugAssign (e : PySem.Stmt) (F : PySem.Expr → Operator → PySem.Expr → Pos → Bool) : Bool := if q : e.ctorIdx = 7 then PySem.Stmt.AugAssign.elim (motive_2 := fun _ => Bool) e q F else false
theorem stAugAssign_i {e : PySem.Stmt} {F : PySem.Expr → Operator → PySem.Expr → Pos → Bool} (h : stAugAssign e F = true) : ∃ a0 a1 a2 a3, e = .AugAssign a0 a1 a2 a3 ∧ F a0 a1 a2 a3 = true := by
  unfold stAugAssign at h
  by_cases q : e.ctorIdx = 7
  · rw [dif_pos q] at h
    exact PySem.Stmt.AugAssign.elim (motive_2 := fun e => ∀ q, PySem.Stmt.AugAssign.elim (motive_2 := fun _ => Bool) e q F = true → ∃ a0 a1 a2 a3, e = .AugAssign a0 a1 a2 a3 ∧ F a0 a1 a2 a3 = true) e q (fun a0 a1 a2 a3 _ h => ⟨a0, a1, a2, a3, rfl, h⟩) q h
  · rw [dif_neg q] at h; exact noT h
noncomputable def stExpr (e : PySem.Stmt) (F : PySem.Expr → Pos → Bool) : Bool := if q : e.ctorIdx = 24 then PySem.Stmt.Expr.elim (motive_2 := fun _ => Bool) e q F else false
theorem stExpr_i {e : PySem.Stmt} {F : PySem.Expr → Pos → Bool} (h : stExpr e F = true) : ∃ a0 a1, e = .Expr a0 a1 ∧ F a0 a1 = true := by
  unfold stExpr at h
  by_cases q : e.ctorIdx = 24
  · rw [dif_pos q] at h
    exact PySem.Stmt.Expr.elim (motive_2 := fun e => ∀ q, PySem.Stmt.Expr.elim (motive_2 := fun _ => Bool) e q F = true → ∃ a0 a1, e = .Expr a0 a1 ∧ F a0 a1 = true) e q (fun a0 a1 _ h => ⟨a0, a1, rfl, h⟩) q h
  · rw [dif_neg q] at h; exact noT h
noncomputable def stReturn (e : PySem.Stmt) (F : (Option Expr) → Pos → Bool) : Bool := if q : e.ctorIdx = 3 then PySem.Stmt.Return.elim (motive_2 := fun _ => Bool) e q F else false
theorem stReturn_i {e : PySem.Stmt} {F : (Option Expr) → Pos → Bool} (h : stReturn e F = true) : ∃ a0 a1, e = .Return a0 a1 ∧ F a0 a1 = true := by
  unfold stReturn at h
  by_cases q : e.ctorIdx = 3
  · rw [dif_pos q] at h
    exact PySem.Stmt.Return.elim (motive_2 := fun e => ∀ q, PySem.Stmt.Return.elim (motive_2 := fun _ => Bool) e q F = true → ∃ a0 a1, e = .Return a0 a1 ∧ F a0 a1 = true) e q (fun a0 a1 _ h => ⟨a0, a1, rfl, h⟩) q h
  · rw [dif_neg q] at h; exact noT h
noncomputable def stIf (e : PySem.Stmt) (F : PySem.Expr → (List Stmt) → (List Stmt) → Pos → Bool) : Bool := if q : e.ctorIdx = 12 then PySem.Stmt.If.elim (motive_2 := fun _ => Bool) e q F else false
theorem stIf_i {e : PySem.Stmt} {F : PySem.Expr → (List Stmt) → (List Stmt) → Pos → Bool} (h : stIf e F = true) : ∃ a0 a1 a2 a3, e = .If a0 a1 a2 a3 ∧ F a0 a1 a2 a3 = true := by
  unfold stIf at h
  by_cases q : e.ctorIdx = 12
  · rw [dif_pos q] at h
    exact PySem.Stmt.If.elim (motive_2 := fun e => ∀ q, PySem.Stmt.If.elim (motive_2 := fun _ => Bool) e q F = true → ∃ a0 a1 a2 a3, e = .If a0 a1 a2 a3 ∧ F a0 a1 a2 a3 = true) e q (fun a0 a1 a2 a3 _ h => ⟨a0, a1, a2, a3, rfl, h⟩) q h
  · rw [dif_neg q] at h; exact noT h
noncomputable def stWhile (e : PySem.Stmt) (F : PySem.Expr → (List Stmt) → (List Stmt) → Pos → Bool) : Bool := if q : e.ctorIdx = 11 then PySem.Stmt.While.elim (motive_2 := fun _ => Bool) e q F else false
theorem stWhile_i {e : PySem.Stmt} {F : PySem.Expr → (List Stmt) → (List Stmt) → Pos → Bool} (h : stWhile e F = true) : ∃ a0 a1 a2 a3, e = .While a0 a1 a2 a3 ∧ F a0 a1 a2 a3 = true := by
  unfold stWhile at h
  by_cases q : e.ctorIdx = 11
  · rw [dif_pos q] at h
    exact PySem.Stmt.While.elim (motive_2 := fun e => ∀ q, PySem.Stmt.While.elim (motive_2 := fun _ => Bool) e q F = true → ∃ a0 a1 a2 a3, e = .While a0 a1 a2 a3 ∧ F a0 a1 a2 a3 = true) e q (fun a0 a1 a2 a3 _ h => ⟨a0, a1, a2, a3, rfl, h⟩) q h
  · rw [dif_neg q] at h; exact noT h
noncomputable def stFor (e : PySem.Stmt) (F : PySem.Expr → PySem.Expr → (List Stmt) → (List Stmt) → Pos → Bool) : Bool := if q : e.ctorIdx = 9 then PySem.Stmt.For.elim (motive_2 := fun _ => Bool) e q F else false
theorem stFor_i {e : PySem.Stmt} {F : PySem.Expr → PySem.Expr → (List Stmt) → (List Stmt) → Pos → Bool} (h : stFor e F = true) : ∃ a0 a1 a2 a3 a4, e = .For a0 a1 a2 a3 a4 ∧ F a0 a1 a2 a3 a4 = true := by
  unfold stFor at h
  by_cases q : e.ctorIdx = 9
  · rw [dif_pos q] at h
    exact PySem.Stmt.For.elim (motive_2 := fun e => ∀ q, PySem.Stmt.For.elim (motive_2 := fun _ => Bool) e q F = true → ∃ a0 a1 a2 a3 a4, e = .For a0 a1 a2 a3 a4 ∧ F a0 a1 a2 a3 a4 = true) e q (fun a0 a1 a2 a3 a4 _ h => ⟨a0, a1, a2, a3, a4, rfl, h⟩) q h
  · rw [dif_neg q] at h; exact noT h
noncomputable def stContinue (e : PySem.Stmt) (F : Pos → Bool) : Bool := if q : e.ctorIdx = 27 then PySem.Stmt.Continue.elim (motive_2 := fun _ => Bool) e q F else false
theorem stContinue_i {e : PySem.Stmt} {F : Pos → Bool} (h : stContinue e F = true) : ∃ a0, e = .Continue a0 ∧ F a0 = true := by
  unfold stContinue at h
  by_cases q : e.ctorIdx = 27
  · rw [dif_pos q] at h
    exact PySem.Stmt.Continue.elim (motive_2 := fun e => ∀ q, PySem.Stmt.Continue.elim (motive_2 := fun _ => Bool) e q F = true → ∃ a0, e = .Continue a0 ∧ F a0 = true) e q (fun a0 _ h => ⟨a0, rfl, h⟩) q h
  · rw [dif_neg q] at h; exact noT h
noncomputable def stRaise (e : PySem.Stmt) (F : (Option Expr) → (Option Expr) → Pos → Bool) : Bool := if q : e.ctorIdx = 16 then PySem.Stmt.Raise.elim (motive_2 := fun _ => Bool) e q F else false
theorem stRaise_i {e : PySem.Stmt} {F : (Option Expr) → (Option Expr) → Pos → Bool} (h : stRaise e F = true) : ∃ a0 a1 a2, e = .Raise a0 a1 a2 ∧ F a0 a1 a2 = true := by
  unfold stRaise at h
  by_cases q : e.ctorIdx = 16
  · rw [dif_pos q] at h
    exact PySem.Stmt.Raise.elim (motive_2 := fun e => ∀ q, PySem.Stmt.Raise.elim (motive_2 := fun _ => Bool) e q F = true → ∃ a0 a1 a2, e = .Raise a0 a1 a2 ∧ F a0 a1 a2 = true) e q (fun a0 a1 a2 _ h => ⟨a0, a1, a2, rfl, h⟩) q h
  · rw [dif_neg q] at h; exact noT h
noncomputable def on1 {α : Type} (l : List α) (F : α → Bool) : Bool := List.casesOn l false fun a r => List.casesOn r (F a) fun _ _ => false
theorem on1_i {α : Type} {l : List α} {F : α → Bool} (h : on1 l F = true) : ∃ a, l = [a] ∧ F a = true := by
  cases l with
  | nil => exact noT h
  | cons a r =>
    cases r with
    | nil => exact ⟨a, rfl, h⟩
    | cons _ _ => exact noT h
noncomputable def onC {α : Type} (l : List α) (F : α → List α → Bool) : Bool := List.casesOn l false F
theorem onC_i {α : Type} {l : List α} {F : α → List α → Bool} (h : onC l F = true) : ∃ a r, l = a :: r ∧ F a r = true := by
  cases l with
  | nil => exact noT h
  | cons a r => exact ⟨a, r, rfl, h⟩
noncomputable def onO {α : Type} (l : Option α) (F : α → Bool) : Bool := Option.casesOn l false F
theorem onO_i {α : Type} {l : Option α} {F : α → Bool} (h : onO l F = true) : ∃ a, l = some a ∧ F a = true := by
  cases l with
  | none => exact noT h
  | some a => exact ⟨a, rfl, h⟩
theorem emp_i {α : Type} {l : List α} (h : l.isEmpty = true) : l = [] := List.isEmpty_iff.mp h
theorem nn_i {α : Type} {l : Option α} (h : l.isNone = true) : l = none := Option.isNone_iff_eq_none.mp h
end Pf
end

section
set_option autoImplicit false
set_option maxRecDepth 100000
namespace Pf
open PySem PySem.W PyProof.Rows PySem.Calls

noncomputable def eqA : AVal → AVal → Bool
  | .int i, .int j => i == j
  | .bool a, .bool b => a == b
  | .none, .none => true
  | .cst t a ns, .cst u b ms => t == u && a == b && ns == ms
  | _, _ => false
theorem eqA_eq : ∀ {u v : AVal}, eqA u v = true → u = v := by
  intro u v h
  cases u with
  | int i =>
    cases v with
    | int j => rw [beq_iff_eq.mp (show (i == j) = true from h)]
    | _ => exact noT h
  | bool a =>
    cases v with
    | bool b => rw [beq_iff_eq.mp (show (a == b) = true from h)]
    | _ => exact noT h
  | none =>
    cases v with
    | none => rfl
    | _ => exact noT h
  | ref a => cases v <;> exact noT h
  | cst t a ns =>
    cases v with
    | cst u b ms =>
      obtain ⟨h, h3⟩ := Bool.and_eq_true_iff.mp h
      obtain ⟨h1, h2⟩ := Bool.and_eq_true_iff.mp h
      rw [beq_iff_eq.mp h1, beq_iff_eq.mp h2, beq_iff_eq.mp h3]
    | _ => exact noT h

noncomputable def globTab : List (Str × AVal) := [("WHITE", .int 0), ("BLACK", .int 1), ("NO_KIND", .int 0), ("PAWN", .int 1), ("KNIGHT", .int 2), ("BISHOP", .int 3), ("ROOK", .int 4), ("QUEEN", .int 5), ("EMPTY", .int 0), ("NORMAL", .int 0),
  ("PROMOTION", .int 1), ("CAPTURES", .int 0), ("QUIETS", .int 1), ("NON_EVASIONS", .int 2), ("EVASIONS", .int 3), ("STEP_FILES", STEP_FILES), ("STEP_RANKS", STEP_RANKS)]
noncomputable def globIs (x : Str) (v : AVal) : Bool := match globTab.lookup x with
  | some u => eqA u v
  | none => false
noncomputable def fname (f : Nat) : Str := Str.ofString (funName f)
/-- the address of a def or of a class's __init__ -/
noncomputable def faddr (f : Nat) : Nat := match f with
  | 0 => 21 | 1 => 28 | 2 => 35 | 3 => 42 | 4 => 56 | 5 => 70 | 6 => 77 | 7 => 84 | 8 => 91 | 9 => 98 | 10 => 105 | 11 => 112 | 12 => 119 | 13 => 126 | 14 => 133 | 15 => 140 | 16 => 147 | 17 => 154 | 18 => 161
  | 19 => 197 | 20 => 211 | 21 => 218 | 22 => 225 | 23 => 232 | 24 => 239 | 25 => 246 | 26 => 253 | 27 => 260 | 28 => 274 | 29 => 288 | 30 => 295 | 31 => 302 | 32 => 307 | 33 => 312 | 34 => 317 | 35 => 324 | 36 => 331 | 37 => 336
  | 38 => 341 | 39 => 346 | _ => 0
noncomputable def clsTab : List (Str × Nat × Nat) := [("Position", 59, 4), ("Geometry", 200, 19), ("Zobrist", 277, 28)]
noncomputable def clsIs (x : Str) (c f : Nat) : Bool := match clsTab.lookup x with
  | some (c', f') => c == c' && f == f'
  | none => false

noncomputable def isVar (k : Option NameKind) : Bool := k == some .local || k == some .cell || k == some .free
noncomputable def isSto (k : Option NameKind) : Bool := k == some .local || k == some .cell
noncomputable def isGlob (k : Option NameKind) : Bool := k == some .globalImplicit
noncomputable def dbg (x : Str) : Bool := x == ("__debug__" : Str) || x == ("__classdict__" : Str)
noncomputable def litOk : AVal → Const → Bool
  | .int i, .int j => i == j
  | .bool a, .bool b => a == b
  | .none, .none => true
  | _, _ => false
noncomputable def noCall (e : Expr) : Bool := e.ctorIdx != 16
noncomputable def noSlice (e : Expr) : Bool := e.ctorIdx != 26
noncomputable def noComp (e : Expr) : Bool := e.ctorIdx != 8 && e.ctorIdx != 9 && e.ctorIdx != 10 && e.ctorIdx != 25
noncomputable def attrIs (f : Nat) (n : Str) : Bool := decide (f < 26) && n == Str.ofString (attrName f)
noncomputable def icmpOk (o : CmpOp) : Bool := match o with
  | .Eq | .NotEq | .Lt | .LtE | .Gt | .GtE => true
  | _ => false
/-- what a comprehension's block sees of the names about it -/
noncomputable def seen (nm : List (Option Str)) (x : Nat) (xn : Str) (sc : Scope) : List (Option Str) :=
  nm.mapIdx fun i n => if i = x then some xn else match n with
    | some y => if sc.names.lookup y == some .free then some y else none
    | none => none
noncomputable def freeOk (sc sc' : Scope) : Bool := sc'.names.all fun p => p.2 != .free || (sc.names.lookup p.1 == some .cell || sc.names.lookup p.1 == some .free)
noncomputable def nodupS : List (Str × NameKind) → Bool
  | [] => true
  | p :: r => !(r.any fun q => q.1 == p.1) && nodupS r
noncomputable def compOk (nm : List (Option Str)) (sc : Scope) (x : Nat) (xn : Str) (sc' : Scope) : Bool :=
  decide (x < nm.length) && sc'.kind == .function && !sc'.isGenerator && !sc'.isCoroutine && isSto (sc'.names.lookup xn) && freeOk sc sc' && nodupS sc'.names && !dbg xn && xn != (".0" : Str)

mutual
noncomputable def mE (nm : List (Option Str)) (sc : Scope) : Ex → Expr → Bool
  | .lit v, e => (onConstant e fun c _ _ => litOk v c) || onName e fun x _ => isGlob (sc.names.lookup x) && globIs x v && !dbg x
  | .var i, e => onName e fun x _ => nm[i]? == some (some x) && isVar (sc.names.lookup x) && !dbg x
  | .bin o l r, e => onBinOp e fun l' o' r' _ => o == o' && mE nm sc l l' && mE nm sc r r'
  | .una o x, e => onUnaryOp e fun o' x' _ => o == o' && o != .Not && mE nm sc x x'
  | .cmp o l r, e => onCompare e fun l' os rs _ => on1 os fun o' => on1 rs fun r' => o == o' && icmpOk o && mE nm sc l l' && mE nm sc r r'
  | .cmp2 o p l m r, e => onCompare e fun l' os rs _ => onC os fun o' os => on1 os fun p' => onC rs fun m' rs => on1 rs fun r' => o == o' && icmpOk o && p == p' && icmpOk p && mE nm sc l l' && mE nm sc m m' && mE nm sc r r'
  | .not x, e => onUnaryOp e fun o' x' _ => o' == .Not && mE nm sc x x'
  | .and es, e => onBoolOp e fun o' es' _ => o' == .And && mEs nm sc es es'
  | .or es, e => onBoolOp e fun o' es' _ => o' == .Or && mEs nm sc es es'
  | .ite t a b, e => onIfExp e fun t' a' b' _ => mE nm sc t t' && mE nm sc a a' && mE nm sc b b'
  | .attr x f, e => onAttribute e fun x' n _ => attrIs f n && noCall x' && mE nm sc x x'
  | .sub x i, e => onSubscript e fun x' i' _ => noSlice i' && mE nm sc x x' && mE nm sc i i'
  | .tail x i, e => onSubscript e fun x' y _ => onSlice y fun a b c _ => onO a fun i' => b.isNone && (c.isNone && (mE nm sc x x' && mE nm sc i i'))
  | .call f as, e => onCall e fun g as' ks _ => ks.isEmpty && onName g fun x _ => x == fname f && (decide (f < 40) && f != 4 && f != 19 && f != 28) && isGlob (sc.names.lookup x) && !dbg x && mEs nm sc as as'
  | .new c f as, e => onCall e fun g as' ks _ => ks.isEmpty && onName g fun x _ => clsIs x c f && isGlob (sc.names.lookup x) && !dbg x && mEs nm sc as as'
  | .len a, e => onCall e fun g as' ks _ => ks.isEmpty && onName g fun x _ => on1 as' fun a' => x == ("len" : Str) && isGlob (sc.names.lookup x) && mE nm sc a a'
  | .sum a, e => onCall e fun g as' ks _ => ks.isEmpty && onName g fun x _ => on1 as' fun a' => x == ("sum" : Str) && isGlob (sc.names.lookup x) && mE nm sc a a'
  | .sorted a, e => onCall e fun g as' ks _ => ks.isEmpty && onName g fun x _ => on1 as' fun a' => x == ("sorted" : Str) && isGlob (sc.names.lookup x) && mE nm sc a a'
  | .range as, e => onCall e fun g as' ks _ => ks.isEmpty && onName g fun x _ => x == ("range" : Str) && isGlob (sc.names.lookup x) && mEs nm sc as as'
  | .mklist a, e => onCall e fun g as' ks _ => ks.isEmpty && onName g fun x _ => on1 as' fun a' => x == ("list" : Str) && isGlob (sc.names.lookup x) && mE nm sc a a'
  | .app o a, e => onCall e fun g as' ks pos => ks.isEmpty && onAttribute g fun o' n apos => on1 as' fun a' => n == ("append" : Str) && apos.endLine == pos.line && noCall o' && mE nm sc o o' && mE nm sc a a'
  | .list es, e => onList e fun es' _ => mEs nm sc es es'
  | .tup es, e => onTuple e fun es' _ _ => mEs nm sc es es'
  | .comp elt x it ifs, e => onListComp e fun elt' gs sc' _ => on1 gs fun g => g.is_async == 0 && onName g.target fun xn _ =>
      compOk nm sc x xn sc' && decide (ifs.length ≤ 1) && mE nm sc it g.iter && mE (seen nm x xn sc') sc' elt elt' && mEs (seen nm x xn sc') sc' ifs g.ifs
noncomputable def mEs (nm : List (Option Str)) (sc : Scope) : List Ex → List Expr → Bool
  | [], es => es.isEmpty
  | e :: r, es => onC es fun e' r' => mE nm sc e e' && mEs nm sc r r'
end

noncomputable def mVar (nm : List (Option Str)) (sc : Scope) (i : Nat) (e : Expr) : Bool := onName e fun x _ => nm[i]? == some (some x) && isSto (sc.names.lookup x) && !dbg x
noncomputable def mVars (nm : List (Option Str)) (sc : Scope) : List Nat → List Expr → Bool
  | [], es => es.isEmpty
  | i :: r, es => onC es fun e r' => mVar nm sc i e && mVars nm sc r r'
noncomputable def nodupN : List Nat → Bool
  | [] => true
  | i :: r => !(r.contains i) && nodupN r

mutual
noncomputable def mS (nm : List (Option Str)) (sc : Scope) : St → Stmt → Bool
  | .asg i e, s => stAssign s fun ts v _ => on1 ts fun x => mVar nm sc i x && mE nm sc e v
  | .asgT is e, s => stAssign s fun ts v _ => on1 ts fun x => onTuple x fun ts' _ _ => mVars nm sc is ts' && noComp v && mE nm sc e v
  | .asgA o f e, s => stAssign s fun ts v _ => on1 ts fun x => onAttribute x fun o' n _ => attrIs f n && noComp v && mE nm sc o o' && mE nm sc e v
  | .asgS o i e, s => stAssign s fun ts v _ => on1 ts fun x => onSubscript x fun o' i' _ => noSlice i' && noComp v && mE nm sc o o' && mE nm sc i i' && mE nm sc e v
  | .augV op i e, s => stAugAssign s fun x op' v _ => op == op' && mVar nm sc i x && mE nm sc e v
  | .augA op o f e, s => stAugAssign s fun x op' v _ => onAttribute x fun o' n _ => op == op' && attrIs f n && mE nm sc o o' && mE nm sc e v
  | .augS op o i e, s => stAugAssign s fun x op' v _ => onSubscript x fun o' i' _ => op == op' && noSlice i' && mE nm sc o o' && mE nm sc i i' && mE nm sc e v
  | .ex e, s => stExpr s fun v _ => noComp v && mE nm sc e v
  | .ret e, s => stReturn s fun o _ => onO o fun v => mE nm sc e v
  | .iff t a b, s => stIf s fun t' a' b' _ => mE nm sc t t' && mSs nm sc a a' && mSs nm sc b b'
  | .whl t b, s => stWhile s fun t' b' r _ => r.isEmpty && (mE nm sc t t' && mSs nm sc b b')
  | .forV i it b, s => stFor s fun x it' b' r _ => r.isEmpty && (mVar nm sc i x && mE nm sc it it' && mSs nm sc b b')
  | .forT is it b, s => stFor s fun x it' b' r _ => r.isEmpty && onTuple x fun ts _ _ => mVars nm sc is ts && mE nm sc it it' && mSs nm sc b b'
  | .cont, s => stContinue s fun _ => true
  | .rais, s => stRaise s fun _ _ _ => true
noncomputable def mSs (nm : List (Option Str)) (sc : Scope) : List St → List Stmt → Bool
  | [], ss => ss.isEmpty
  | s :: r, ss => onC ss fun s' r' => mS nm sc s s' && mSs nm sc r r'
end

/-- the names of a def: its own, then those of the comprehensions, that its own frame does not bear -/
noncomputable def nmOf (f : Nat) (own : Nat) : List (Option Str) := ((namesOf f).mapIdx fun i n => if i < own then some (Str.ofString n) else none)
end Pf
end

section
set_option autoImplicit false
set_option maxRecDepth 100000
set_option linter.unusedVariables false
namespace Pf
open PySem PySem.W PyProof.Rows PySem.Calls
theorem and_i {a b : Bool} (h : (a && b) = true) : a = true ∧ b = true := Bool.and_eq_true_iff.mp h
section
variable {nm : List (Option Str)} {sc : Scope}
theorem mEs_nil : mEs nm sc [] [] = true := rfl
theorem mEs_cons {e : Ex} {r : List Ex} {e' : Expr} {r' : List Expr} : mEs nm sc (e :: r) (e' :: r') = (mE nm sc e e' && mEs nm sc r r') := rfl
theorem mSs_cons {e : St} {r : List St} {e' : Stmt} {r' : List Stmt} : mSs nm sc (e :: r) (e' :: r') = (mS nm sc e e' && mSs nm sc r r') := rfl
theorem mVars_cons {i : Nat} {r : List Nat} {e : Expr} {r' : List Expr} : mVars nm sc (i :: r) (e :: r') = (mVar nm sc i e && mVars nm sc r r') := rfl
theorem mI_lit {v : AVal} {e : Expr} (h : mE nm sc (.lit v) e = true) : (∃ c k p, e = .Constant c k p ∧ litOk v c = true) ∨ ∃ x p, e = .Name x p ∧ (isGlob (sc.names.lookup x) && globIs x v && !dbg x) = true :=
  (Bool.or_eq_true_iff.mp h).elim (fun h => .inl (onConstant_i h)) (fun h => .inr (onName_i h))
theorem mI_cmp {o : CmpOp} {l r : Ex} {e : Expr} (h : mE nm sc (.cmp o l r) e = true) : ∃ l' o' r' p, e = .Compare l' [o'] [r'] p ∧ (o == o' && icmpOk o && mE nm sc l l' && mE nm sc r r') = true := by
  obtain ⟨l', os, rs, p, rfl, h⟩ := onCompare_i h
  obtain ⟨o', rfl, h⟩ := on1_i h
  obtain ⟨r', rfl, h⟩ := on1_i h
  exact ⟨l', o', r', p, rfl, h⟩
theorem mI_cmp2 {o q : CmpOp} {l x r : Ex} {e : Expr} (h : mE nm sc (.cmp2 o q l x r) e = true) : ∃ l' o' q' x' r' p, e = .Compare l' [o', q'] [x', r'] p ∧ (o == o' && icmpOk o && q == q' && icmpOk q && mE nm sc l l' && mE nm sc x x' && mE nm sc r r') = true := by
  obtain ⟨l', os, rs, p, rfl, h⟩ := onCompare_i h
  obtain ⟨o', os, rfl, h⟩ := onC_i h
  obtain ⟨q', rfl, h⟩ := on1_i h
  obtain ⟨x', rs, rfl, h⟩ := onC_i h
  obtain ⟨r', rfl, h⟩ := on1_i h
  exact ⟨l', o', q', x', r', p, rfl, h⟩
theorem mI_not {x : Ex} {e : Expr} (h : mE nm sc (.not x) e = true) : ∃ x' p, e = .UnaryOp .Not x' p ∧ mE nm sc x x' = true := by
  obtain ⟨o', x', p, rfl, h⟩ := onUnaryOp_i h
  obtain ⟨q, h⟩ := and_i h
  obtain rfl := beq_iff_eq.mp q
  exact ⟨x', p, rfl, h⟩
theorem mI_and {es : List Ex} {e : Expr} (h : mE nm sc (.and es) e = true) : ∃ es' p, e = .BoolOp .And es' p ∧ mEs nm sc es es' = true := by
  obtain ⟨o', x', p, rfl, h⟩ := onBoolOp_i h
  obtain ⟨q, h⟩ := and_i h
  obtain rfl := beq_iff_eq.mp q
  exact ⟨x', p, rfl, h⟩
theorem mI_or {es : List Ex} {e : Expr} (h : mE nm sc (.or es) e = true) : ∃ es' p, e = .BoolOp .Or es' p ∧ mEs nm sc es es' = true := by
  obtain ⟨o', x', p, rfl, h⟩ := onBoolOp_i h
  obtain ⟨q, h⟩ := and_i h
  obtain rfl := beq_iff_eq.mp q
  exact ⟨x', p, rfl, h⟩
theorem mI_tail {x i : Ex} {e : Expr} (h : mE nm sc (.tail x i) e = true) : ∃ x' i' q p, e = .Subscript x' (.Slice (some i') none none q) p ∧ (mE nm sc x x' && mE nm sc i i') = true := by
  obtain ⟨x', y, p, rfl, h⟩ := onSubscript_i h
  obtain ⟨a, b, c, q, rfl, h⟩ := onSlice_i h
  obtain ⟨i', rfl, h⟩ := onO_i h
  obtain ⟨hb, h⟩ := and_i h
  obtain rfl := nn_i hb
  obtain ⟨hc, h⟩ := and_i h
  obtain rfl := nn_i hc
  exact ⟨x', i', q, p, rfl, h⟩
theorem callI {F : List Expr → Str → Bool} {e : Expr} (h : (onCall e fun g as ks _ => ks.isEmpty && onName g fun x _ => F as x) = true) : ∃ x q as p, e = .Call (.Name x q) as [] p ∧ F as x = true := by
  obtain ⟨g, as, ks, p, rfl, h⟩ := onCall_i h
  obtain ⟨q, h⟩ := and_i h
  obtain rfl := emp_i q
  obtain ⟨x, q, rfl, h⟩ := onName_i h
  exact ⟨x, q, as, p, rfl, h⟩
theorem call1I {F : Expr → Str → Bool} {e : Expr} (h : (onCall e fun g as ks _ => ks.isEmpty && onName g fun x _ => on1 as fun a => F a x) = true) : ∃ x q a p, e = .Call (.Name x q) [a] [] p ∧ F a x = true := by
  obtain ⟨x, q, as, p, rfl, h⟩ := callI (F := fun as x => on1 as fun a => F a x) h
  obtain ⟨a, rfl, h⟩ := on1_i h
  exact ⟨x, q, a, p, rfl, h⟩
theorem mI_var {i : Nat} {e : Expr} (h : mE nm sc (.var i) e = true) : ∃ x p, e = .Name x p ∧ (nm[i]? == some (some x) && isVar (sc.names.lookup x) && !dbg x) = true := onName_i h
theorem mI_bin {o : Operator} {l : Ex} {r : Ex} {e : Expr} (h : mE nm sc (.bin o l r) e = true) : ∃ l' o' r' p, e = .BinOp l' o' r' p ∧ (o == o' && mE nm sc l l' && mE nm sc r r') = true := onBinOp_i h
theorem mI_una {o : UnaryOp} {x : Ex} {e : Expr} (h : mE nm sc (.una o x) e = true) : ∃ o' x' p, e = .UnaryOp o' x' p ∧ (o == o' && o != .Not && mE nm sc x x') = true := onUnaryOp_i h
theorem mI_ite {t : Ex} {a : Ex} {b : Ex} {e : Expr} (h : mE nm sc (.ite t a b) e = true) : ∃ t' a' b' p, e = .IfExp t' a' b' p ∧ (mE nm sc t t' && mE nm sc a a' && mE nm sc b b') = true := onIfExp_i h
theorem mI_attr {x : Ex} {f : Nat} {e : Expr} (h : mE nm sc (.attr x f) e = true) : ∃ x' n p, e = .Attribute x' n p ∧ (attrIs f n && noCall x' && mE nm sc x x') = true := onAttribute_i h
theorem mI_sub {x : Ex} {i : Ex} {e : Expr} (h : mE nm sc (.sub x i) e = true) : ∃ x' i' p, e = .Subscript x' i' p ∧ (noSlice i' && mE nm sc x x' && mE nm sc i i') = true := onSubscript_i h
theorem mI_list {es : List Ex} {e : Expr} (h : mE nm sc (.list es) e = true) : ∃ es' p, e = .List es' p ∧ (mEs nm sc es es') = true := onList_i h
theorem mI_tup {es : List Ex} {e : Expr} (h : mE nm sc (.tup es) e = true) : ∃ es' k p, e = .Tuple es' k p ∧ (mEs nm sc es es') = true := onTuple_i h
theorem mI_call {f : Nat} {as : List Ex} {e : Expr} (h : mE nm sc (.call f as) e = true) : ∃ x q as' p, e = .Call (.Name x q) as' [] p ∧ (x == fname f && (decide (f < 40) && f != 4 && f != 19 && f != 28) && isGlob (sc.names.lookup x) && !dbg x && mEs nm sc as as') = true := callI h
theorem mI_new {c : Nat} {f : Nat} {as : List Ex} {e : Expr} (h : mE nm sc (.new c f as) e = true) : ∃ x q as' p, e = .Call (.Name x q) as' [] p ∧ (clsIs x c f && isGlob (sc.names.lookup x) && !dbg x && mEs nm sc as as') = true := callI h
theorem mI_range {as : List Ex} {e : Expr} (h : mE nm sc (.range as) e = true) : ∃ x q as' p, e = .Call (.Name x q) as' [] p ∧ (x == ("range" : Str) && isGlob (sc.names.lookup x) && mEs nm sc as as') = true := callI h
theorem mI_len {a : Ex} {e : Expr} (h : mE nm sc (.len a) e = true) : ∃ x q a' p, e = .Call (.Name x q) [a'] [] p ∧ (x == ("len" : Str) && isGlob (sc.names.lookup x) && mE nm sc a a') = true := call1I h
theorem mI_sum {a : Ex} {e : Expr} (h : mE nm sc (.sum a) e = true) : ∃ x q a' p, e = .Call (.Name x q) [a'] [] p ∧ (x == ("sum" : Str) && isGlob (sc.names.lookup x) && mE nm sc a a') = true := call1I h
theorem mI_sorted {a : Ex} {e : Expr} (h : mE nm sc (.sorted a) e = true) : ∃ x q a' p, e = .Call (.Name x q) [a'] [] p ∧ (x == ("sorted" : Str) && isGlob (sc.names.lookup x) && mE nm sc a a') = true := call1I h
theorem mI_mklist {a : Ex} {e : Expr} (h : mE nm sc (.mklist a) e = true) : ∃ x q a' p, e = .Call (.Name x q) [a'] [] p ∧ (x == ("list" : Str) && isGlob (sc.names.lookup x) && mE nm sc a a') = true := call1I h
theorem mI_app {o a : Ex} {e : Expr} (h : mE nm sc (.app o a) e = true) : ∃ o' n ap a' p, e = .Call (.Attribute o' n ap) [a'] [] p ∧ (n == ("append" : Str) && ap.endLine == p.line && noCall o' && mE nm sc o o' && mE nm sc a a') = true := by
  obtain ⟨g, as, ks, p, rfl, h⟩ := onCall_i h
  obtain ⟨q, h⟩ := and_i h
  obtain rfl := emp_i q
  obtain ⟨o', n, ap, rfl, h⟩ := onAttribute_i h
  obtain ⟨a', rfl, h⟩ := on1_i h
  exact ⟨o', n, ap, a', p, rfl, h⟩
theorem mI_comp {elt it : Ex} {x : Nat} {ifs : List Ex} {e : Expr} (h : mE nm sc (.comp elt x it ifs) e = true) : ∃ elt' xn xp it' ifs' sc' p, e = .ListComp elt' [⟨.Name xn xp, it', ifs', 0⟩] sc' p ∧
    (compOk nm sc x xn sc' && decide (ifs.length ≤ 1) && mE nm sc it it' && mE (seen nm x xn sc') sc' elt elt' && mEs (seen nm x xn sc') sc' ifs ifs') = true := by
  obtain ⟨elt', gs, sc', p, rfl, h⟩ := onListComp_i h
  obtain ⟨⟨t, it', ifs', a⟩, rfl, h⟩ := on1_i h
  obtain ⟨q, h⟩ := and_i h
  obtain rfl : a = 0 := beq_iff_eq.mp q
  obtain ⟨xn, xp, e, h⟩ := onName_i h
  obtain rfl : t = _ := e
  exact ⟨elt', xn, xp, it', ifs', sc', p, rfl, h⟩
theorem sI_asg {i : Nat} {e : Ex} {s : Stmt} (h : mS nm sc (.asg i e) s = true) : ∃ x v p, s = .Assign [x] v p ∧ (mVar nm sc i x && mE nm sc e v) = true := by
  obtain ⟨ts, v, p, rfl, h⟩ := stAssign_i h
  obtain ⟨x, rfl, h⟩ := on1_i h
  exact ⟨x, v, p, rfl, h⟩
theorem sI_asgT {is : List Nat} {e : Ex} {s : Stmt} (h : mS nm sc (.asgT is e) s = true) : ∃ ts' k q v p, s = .Assign [.Tuple ts' k q] v p ∧ (mVars nm sc is ts' && noComp v && mE nm sc e v) = true := by
  obtain ⟨ts, v, p, rfl, h⟩ := stAssign_i h
  obtain ⟨x, rfl, h⟩ := on1_i h
  obtain ⟨ts', k, q, rfl, h⟩ := onTuple_i h
  exact ⟨ts', k, q, v, p, rfl, h⟩
theorem sI_asgA {o : Ex} {f : Nat} {e : Ex} {s : Stmt} (h : mS nm sc (.asgA o f e) s = true) : ∃ o' n q v p, s = .Assign [.Attribute o' n q] v p ∧ (attrIs f n && noComp v && mE nm sc o o' && mE nm sc e v) = true := by
  obtain ⟨ts, v, p, rfl, h⟩ := stAssign_i h
  obtain ⟨x, rfl, h⟩ := on1_i h
  obtain ⟨o', n, q, rfl, h⟩ := onAttribute_i h
  exact ⟨o', n, q, v, p, rfl, h⟩
theorem sI_asgS {o : Ex} {i : Ex} {e : Ex} {s : Stmt} (h : mS nm sc (.asgS o i e) s = true) : ∃ o' i' q v p, s = .Assign [.Subscript o' i' q] v p ∧ (noSlice i' && noComp v && mE nm sc o o' && mE nm sc i i' && mE nm sc e v) = true := by
  obtain ⟨ts, v, p, rfl, h⟩ := stAssign_i h
  obtain ⟨x, rfl, h⟩ := on1_i h
  obtain ⟨o', i', q, rfl, h⟩ := onSubscript_i h
  exact ⟨o', i', q, v, p, rfl, h⟩
theorem sI_augV {op : Operator} {i : Nat} {e : Ex} {s : Stmt} (h : mS nm sc (.augV op i e) s = true) : ∃ x op' v p, s = .AugAssign x op' v p ∧ (op == op' && mVar nm sc i x && mE nm sc e v) = true := stAugAssign_i h
theorem sI_augA {op : Operator} {o : Ex} {f : Nat} {e : Ex} {s : Stmt} (h : mS nm sc (.augA op o f e) s = true) : ∃ o' n q op' v p, s = .AugAssign (.Attribute o' n q) op' v p ∧ (op == op' && attrIs f n && mE nm sc o o' && mE nm sc e v) = true := by
  obtain ⟨x, op', v, p, rfl, h⟩ := stAugAssign_i h
  obtain ⟨o', n, q, rfl, h⟩ := onAttribute_i h
  exact ⟨o', n, q, op', v, p, rfl, h⟩
theorem sI_augS {op : Operator} {o : Ex} {i : Ex} {e : Ex} {s : Stmt} (h : mS nm sc (.augS op o i e) s = true) : ∃ o' i' q op' v p, s = .AugAssign (.Subscript o' i' q) op' v p ∧ (op == op' && noSlice i' && mE nm sc o o' && mE nm sc i i' && mE nm sc e v) = true := by
  obtain ⟨x, op', v, p, rfl, h⟩ := stAugAssign_i h
  obtain ⟨o', i', q, rfl, h⟩ := onSubscript_i h
  exact ⟨o', i', q, op', v, p, rfl, h⟩
theorem sI_ex {e : Ex} {s : Stmt} (h : mS nm sc (.ex e) s = true) : ∃ v p, s = .Expr v p ∧ (noComp v && mE nm sc e v) = true := stExpr_i h
theorem sI_ret {e : Ex} {s : Stmt} (h : mS nm sc (.ret e) s = true) : ∃ v p, s = .Return (some v) p ∧ mE nm sc e v = true := by
  obtain ⟨o, p, rfl, h⟩ := stReturn_i h
  obtain ⟨v, rfl, h⟩ := onO_i h
  exact ⟨v, p, rfl, h⟩
theorem sI_iff {t : Ex} {a : List St} {b : List St} {s : Stmt} (h : mS nm sc (.iff t a b) s = true) : ∃ t' a' b' p, s = .If t' a' b' p ∧ (mE nm sc t t' && mSs nm sc a a' && mSs nm sc b b') = true := stIf_i h
theorem sI_whl {t : Ex} {b : List St} {s : Stmt} (h : mS nm sc (.whl t b) s = true) : ∃ t' b' p, s = .While t' b' [] p ∧ (mE nm sc t t' && mSs nm sc b b') = true := by
  obtain ⟨t', b', r, p, rfl, h⟩ := stWhile_i h
  obtain ⟨q, h⟩ := and_i h
  obtain rfl := emp_i q
  exact ⟨t', b', p, rfl, h⟩
theorem sI_forV {i : Nat} {it : Ex} {b : List St} {s : Stmt} (h : mS nm sc (.forV i it b) s = true) : ∃ x it' b' p, s = .For x it' b' [] p ∧ (mVar nm sc i x && mE nm sc it it' && mSs nm sc b b') = true := by
  obtain ⟨x, it', b', r, p, rfl, h⟩ := stFor_i h
  obtain ⟨q, h⟩ := and_i h
  obtain rfl := emp_i q
  exact ⟨x, it', b', p, rfl, h⟩
theorem sI_forT {is : List Nat} {it : Ex} {b : List St} {s : Stmt} (h : mS nm sc (.forT is it b) s = true) : ∃ ts k q it' b' p, s = .For (.Tuple ts k q) it' b' [] p ∧ (mVars nm sc is ts && mE nm sc it it' && mSs nm sc b b') = true := by
  obtain ⟨x, it', b', r, p, rfl, h⟩ := stFor_i h
  obtain ⟨q, h⟩ := and_i h
  obtain rfl := emp_i q
  obtain ⟨ts, k, q, rfl, h⟩ := onTuple_i h
  exact ⟨ts, k, q, it', b', p, rfl, h⟩
theorem sI_cont {s : Stmt} (h : mS nm sc .cont s = true) : ∃ p, s = .Continue p := by
  obtain ⟨p, rfl, _⟩ := stContinue_i h
  exact ⟨p, rfl⟩
theorem sI_rais {s : Stmt} (h : mS nm sc .rais s = true) : ∃ a b p, s = .Raise a b p := by
  obtain ⟨a, b, p, rfl, _⟩ := stRaise_i h
  exact ⟨a, b, p, rfl⟩
end
end Pf
end

section
set_option autoImplicit false
set_option maxRecDepth 100000
namespace Pf
open PySem PySem.W PyProof.Rows PySem.Calls

noncomputable def AOk (A : Around) (k : Nat) : Prop := A.handled = none ∧ A.depth + 4 * k + 20 < 1000 ∧ A.units + 30 * k + 300 < 9900
/-- the kinds that a block's own table says, as the running environment bears them -/
noncomputable def ScOk (env : Env) (sc : Scope) : Prop := ∀ n k, sc.names.lookup n = some k → (k = .free → env.kindOf n = some .cell ∨ env.kindOf n = some .free) ∧ (k ≠ .free → env.kindOf n = some k)

/-- what the walk asks of an own class -/
structure ClsOk (K : Frag) (c : Nat) : Prop where
  get : findIn K (.ref c) "__getattribute__" = some (some (.builtin "object.__getattribute__"))
  hd : hasDictIn K c = true
  nm : ∀ f, f < 26 → findIn K (.ref c) (Str.ofString (attrName f)) = some none
  sa : findIn K (.ref c) "__setattr__" = some (some (.builtin "object.__setattr__"))
  po : plainOver K c = true

structure Cx (K : Frag) (base : Heap) (mg mb : Str → Option Value) : Prop where
  kin : K.In base
  g : base.Ns mainGlobals mg
  b : base.Ns builtinsNs mb
  nolimit : base.NoLimit
  builtins : ∀ x, x ≠ ("__name__" : Str) → mb x = bootBuiltins x
  glob : ∀ x v, globTab.lookup x = some v → ∃ val, mg x = some val ∧ VRel base v val
  free : ∀ x ∈ (["len", "sum", "sorted", "range", "list"] : List Str), mg x = none
  fn : ∀ f, f < 40 → f ≠ 4 → f ≠ 19 → f ≠ 28 → mg (fname f) = some (.ref (faddr f))
  cok : ∀ c, c = 59 ∨ c = 200 ∨ c = 277 → ClsOk K c
  cls : ∀ x c f, clsTab.lookup x = some (c, f) → mg x = some (.ref c)
  keepf : ∀ f, f < 40 → f ≠ 4 → f ≠ 19 → f ≠ 28 → keepIn K (.ref (faddr f)) = true
  keepc : ∀ x c f, clsTab.lookup x = some (c, f) → keepIn K (.ref c) = true
  mkc : ∀ x c f, clsTab.lookup x = some (c, f) → (c = 59 ∨ c = 200 ∨ c = 277) ∧ makesIn K c = true ∧ findIn K (.ref c) "__init__" = some (some (.ref (faddr f))) ∧ typeIn K (.ref (faddr f)) = some (.type "function")

section
variable {K : Frag} {base : Heap} {mg mb : Str → Option Value} {M : Model} {A : Around} {E : Value → Shared → Prop} {s : Shared} {env : Env} {nm : List (Option Str)} {m : Loc} {own : List Addr} {σ : AHeap} {sc : Scope}

theorem ns_base {a : Addr} {mm : Str → Option Value} (O : Ok env nm m own base σ s.heap) (h : base.Ns a mm) : s.heap.Ns a mm := h.at' fun o e => O.good.keep a o e

/-- a variable is read -/
theorem ldn_var {i : Nat} {x : Str} {v : AVal} {Q : Value → Shared → Prop} (O : Ok env nm m own base σ s.heap) (S : ScOk env sc) (hn : nm[i]? = some (some x)) (hk : isVar (sc.names.lookup x) = true) (hd : dbg x = false)
    (hm : m[i]? = some (some v)) (h : ∀ val, VRel base v val → Q val s) : wpAny M A (loadName env x) Q E s := by
  have F := O.fr
  simp only [dbg, Bool.or_eq_false_iff] at hd
  have hc : env.kindOf x = some .local ∨ env.kindOf x = some .cell ∨ env.kindOf x = some .free := by
    simp only [isVar, Bool.or_eq_true, beq_iff_eq] at hk
    rcases hk with (hk | hk) | hk
    · exact .inl ((S _ _ hk).2 (by decide))
    · exact .inr (.inl ((S _ _ hk).2 (by decide)))
    · exact .inr ((S _ _ hk).1 rfl)
  rcases hc with hc | hc | hc
  · obtain ⟨mm, hN, hv⟩ := F.ns
    obtain ⟨val, e, r⟩ := hv i x v hn hm hc
    exact wpAny_loadName_local F.kf hc hN e (h val r)
  · obtain ⟨c, w, hl, hC, _, _, _, hv⟩ := F.cell x (.inl hc)
    obtain ⟨val, rfl, r⟩ := hv i v hn hm
    exact wpAny_loadName_cell F.kf hc hl hC (h val r)
  · obtain ⟨c, w, hl, hC, _, _, _, hv⟩ := F.cell x (.inr hc)
    obtain ⟨val, rfl, r⟩ := hv i v hn hm
    exact wpAny_loadName_free F.kf hc hl hC (h val r) hd.2
theorem dbg1 {x : Str} (hd : dbg x = false) : (x == ("__debug__" : Str)) = false := by
  simp only [dbg, Bool.or_eq_false_iff] at hd; exact hd.1

theorem ld_glob {x : Str} {pos : Pos} {val : Value} {Q : Value → Shared → Prop} (X : Cx K base mg mb) (O : Ok env nm m own base σ s.heap) (S : ScOk env sc) (hk : isGlob (sc.names.lookup x) = true) (hd : dbg x = false)
    (hg : mg x = some val) (h : Q val s) : wpAny M A (eval (.Name x pos) env) Q E s := by
  simp only [dbg, Bool.or_eq_false_iff] at hd
  simp only [isGlob, beq_iff_eq] at hk
  have hc := (S _ _ hk).2 (by decide)
  refine Name_function_global O.fr.kf hc ?_ hd.1
  refine loadGlobal_global (mg := mg) ?_ hg h
  rw [O.fr.gl]
  exact ns_base O X.g
theorem ld_blt {x : Str} {pos : Pos} {val : Value} {Q : Value → Shared → Prop} (X : Cx K base mg mb) (O : Ok env nm m own base σ s.heap) (S : ScOk env sc) (hk : isGlob (sc.names.lookup x) = true) (hd : dbg x = false)
    (hx : x ∈ (["len", "sum", "sorted", "range", "list"] : List Str)) (hb : bootBuiltins x = some val) (hn : x ≠ ("__name__" : Str)) (h : Q val s) : wpAny M A (eval (.Name x pos) env) Q E s := by
  simp only [dbg, Bool.or_eq_false_iff] at hd
  simp only [isGlob, beq_iff_eq] at hk
  have hc := (S _ _ hk).2 (by decide)
  refine Name_function_global O.fr.kf hc ?_ hd.1
  refine loadGlobal_builtin (mg := mg) (mb := mb) ?_ (X.free x hx) ?_ ((X.builtins x hn).trans hb) h
  · rw [O.fr.gl]; exact ns_base O X.g
  · rw [O.fr.bl]; exact ns_base O X.b
end

/-- every cell that a block may store into is the block's own -/
noncomputable def StOk (env : Env) (nm : List (Option Str)) (own : List Addr) : Prop := ∀ (i : Nat) n c, nm[i]? = some (some n) → env.kindOf n = some .cell → env.cells.lookup n = some c → c ∈ own

section
variable {K : Frag} {base : Heap} {mg mb : Str → Option Value} {M : Model} {A : Around} {E : Value → Shared → Prop} {s : Shared} {env : Env} {nm : List (Option Str)} {m : Loc} {own : List Addr} {σ : AHeap} {sc : Scope}
theorem set_get {i j : Nat} {v w : AVal} (hm : (m.set i (some v))[j]? = some (some w)) : (j = i ∧ w = v) ∨ (j ≠ i ∧ m[j]? = some (some w)) := by
  by_cases q : j = i
  · subst q
    rw [List.getElem?_set_self'] at hm
    cases e : m[j]? with
    | none => rw [e] at hm; simp at hm
    | some z => rw [e] at hm; simp at hm; exact .inl ⟨rfl, hm.symm⟩
  · rw [List.getElem?_set_ne (Ne.symm q)] at hm
    exact .inr ⟨q, hm⟩
/-- a variable is stored -/
theorem st_var {i : Nat} {x : Str} {v : AVal} {val : Value} {Q : Unit → Shared → Prop} (O : Ok env nm m own base σ s.heap) (S : ScOk env sc) (hst : ∀ c, env.kindOf x = some .cell → env.cells.lookup x = some c → c ∈ own) (hn : nm[i]? = some (some x))
    (hk : isSto (sc.names.lookup x) = true) (r : VRel base v val)
    (h : ∀ h' t', Ok env nm (m.set i (some v)) own base σ h' → Step σ σ own s.heap h' → Q () { s with heap := h', toks := t' }) : wpAny M A (storeName env x val) Q E s := by
  have F := O.fr
  have hc : env.kindOf x = some .local ∨ env.kindOf x = some .cell := by
    simp only [isSto, Bool.or_eq_true, beq_iff_eq] at hk
    rcases hk with hk | hk
    · exact .inl ((S _ _ hk).2 (by decide))
    · exact .inr ((S _ _ hk).2 (by decide))
  have fin : ∀ {a : Addr} {h' : Heap}, a ∈ own → Heap.SameBut a s.heap h' → (∃ o, h'.get? a = some o) → Good base σ h' ∧ Step σ σ own s.heap h' := by
    intro a h' ha hs ho
    obtain ⟨a1, a2, _⟩ := F.ownOk a ha
    refine ⟨⟨fun b o e => ?_, O.good.out, fun b o e => ?_⟩, ⟨fun b o e _ hb => ?_, fun _ p q => absurd p q, fun b o e => ?_⟩⟩
    · have z : b ≠ a := fun z => by rw [z, a2] at e; cases e
      rw [hs.2 b z]; exact O.good.keep b o e
    · have z : b ≠ a := fun z => by rw [z, a1] at e; cases e
      obtain ⟨ob, e1, e2⟩ := O.good.obj b o e
      exact ⟨ob, (hs.2 b z).trans e1, e2⟩
    · have z : b ≠ a := fun z => hb (z ▸ ha)
      exact (hs.2 b z).trans e
    · by_cases z : b = a
      · exact z ▸ ho
      · exact ⟨o, (hs.2 b z).trans e⟩
  have own' : ∀ {a : Addr} {h' : Heap}, Heap.SameBut a s.heap h' → (∃ o, h'.get? a = some o) → ∀ b ∈ own, σ b = none ∧ base.get? b = none ∧ ∃ o, h'.get? b = some o := by
    intro a h' hs ho b hb
    obtain ⟨b1, b2, o, b3⟩ := F.ownOk b hb
    refine ⟨b1, b2, ?_⟩
    by_cases z : b = a
    · exact z ▸ ho
    · exact ⟨o, (hs.2 b z).trans b3⟩
  rcases hc with hc | hc
  · obtain ⟨mm, hN, hv⟩ := F.ns
    refine wpAny_storeName_local hc hN (fun h' hn' hs => ?_) (by rw [F.kf]; rfl)
    have hex : ∃ o, h'.get? env.locals = some o := let ⟨o, _, _, e, _⟩ := hn'; ⟨o, e⟩
    obtain ⟨g1, g2⟩ := fin F.loc hs hex
    refine h h' _ ⟨g1, ⟨F.kf, F.gl, F.bl, F.loc, own' hs hex, ⟨_, hn', fun j n w hj hw hl => ?_⟩, fun n hl => ?_, F.inj, F.nmi, by rw [List.length_set]; exact F.len⟩⟩ g2
    · rcases set_get hw with ⟨rfl, rfl⟩ | ⟨q, hw⟩
      · rw [hn] at hj; cases hj
        exact ⟨val, by simp, r⟩
      · have z : n ≠ x := fun z => q (F.nmi _ _ _ (z ▸ hj) hn)
        rw [if_neg z]
        exact hv j n w hj hw hl
    · obtain ⟨c, v', hc', ⟨o, ho, hd⟩, h1, h2, h3, hv'⟩ := F.cell n hl
      refine ⟨c, v', hc', ⟨o, (hs.2 c h3).trans ho, hd⟩, h1, h2, h3, fun j w hj hw => ?_⟩
      rcases set_get hw with ⟨rfl, rfl⟩ | ⟨_, hw⟩
      · rw [hn] at hj; cases hj
        rw [hc] at hl; rcases hl with hl | hl <;> cases hl
      · exact hv' j w hj hw
  · obtain ⟨c, v0, hcl, hC, h1, h2, h3, hv0⟩ := F.cell x (.inl hc)
    refine wpAny_storeName_cell F.kf hc hcl hC fun h' hC' hs => ?_
    have hex : ∃ o, h'.get? c = some o := let ⟨o, e, _⟩ := hC'; ⟨o, e⟩
    obtain ⟨g1, g2⟩ := fin (hst c hc hcl) hs hex
    refine h h' s.toks ⟨g1, ⟨F.kf, F.gl, F.bl, F.loc, own' hs hex, ?_, fun n hl => ?_, F.inj, F.nmi, by rw [List.length_set]; exact F.len⟩⟩ g2
    · obtain ⟨mm, hN, hv⟩ := F.ns
      refine ⟨mm, hN.sameBut hs (Ne.symm h3), fun j n w hj hw hl => ?_⟩
      rcases set_get hw with ⟨rfl, rfl⟩ | ⟨_, hw⟩
      · rw [hn] at hj; cases hj; rw [hc] at hl; cases hl
      · exact hv j n w hj hw hl
    · by_cases z : n = x
      · subst z
        refine ⟨c, some val, hcl, hC', h1, h2, h3, fun j w hj hw => ⟨val, rfl, ?_⟩⟩
        rcases set_get hw with ⟨rfl, rfl⟩ | ⟨q, hw⟩
        · exact r
        · exact absurd (F.nmi _ _ _ hj hn) q
      · obtain ⟨c', v', hc', ⟨o, ho, hd⟩, k1, k2, k3, hv'⟩ := F.cell n hl
        have hne : c' ≠ c := fun e => z (F.inj _ _ _ (e ▸ hc') hcl)
        refine ⟨c', v', hc', ⟨o, (hs.2 c' hne).trans ho, hd⟩, k1, k2, k3, fun j w hj hw => ?_⟩
        rcases set_get hw with ⟨rfl, rfl⟩ | ⟨_, hw⟩
        · rw [hn] at hj; cases hj; exact absurd rfl z
        · exact hv' j w hj hw
end
end Pf
end

section
set_option autoImplicit false
set_option maxRecDepth 100000
namespace Pf
open PySem PySem.W PyProof.Rows PySem.Calls

/-- what comes behind an expression -/
noncomputable abbrev Bk (env : Env) (nm : List (Option Str)) (m : Loc) (own : List Addr) (base : Heap) (σ : AHeap) (s : Shared) (Q : AVal → AHeap → Prop) (Q' : Value → Shared → Prop) : Prop :=
  ∀ v val σ' h' t', Ok env nm m own base σ' h' → Step σ σ' own s.heap h' → VRel base v val → Q v σ' → Q' val { s with heap := h', toks := t' }
noncomputable abbrev BkT (env : Env) (nm : List (Option Str)) (m : Loc) (own : List Addr) (base : Heap) (σ : AHeap) (s : Shared) (Q : Bool → AHeap → Prop) (Q' : Bool → Shared → Prop) : Prop :=
  ∀ b σ' h' t', Ok env nm m own base σ' h' → Step σ σ' own s.heap h' → Q b σ' → Q' b { s with heap := h', toks := t' }

theorem bits_small {a : Int} (h : small a) : Builtin.Int.intBits a ≤ 64 := intBits_le_64 (by unfold small at h; omega) (by unfold small at h; omega)
theorem nopy {a b : Int} (h : 0 < b ∧ b ≤ 1000000000) : Builtin.divisionGoesByPylong a b = false := PyProof.noPylong_small (by omega)

section
variable {prog : Program} {w : World} {base : Heap} {A : Around} {E : Value → Shared → Prop} {s : Shared} {env : Env} {nm : List (Option Str)} {m : Loc} {own : List Addr} {σ : AHeap}
variable {Q : AVal → AHeap → Prop} {Q' : Value → Shared → Prop}

theorem fd_ed (a b : Int) (h : 0 < b) : a.fdiv b = a / b := Int.fdiv_eq_ediv_of_nonneg _ (by omega)
theorem fm_em (a b : Int) (h : 0 < b) : a.fmod b = a % b := Int.fmod_eq_emod_of_nonneg _ (by omega)
theorem pow_pos' (n : Nat) : (0 : Int) < 2 ^ n := by
  induction n with
  | zero => decide
  | succ n ih => rw [Int.pow_succ]; omega

theorem iadd_refs {a b : Addr} {i1 i2 : Array Value} {n1 n2 : Nat} {R : Value → Shared → Prop} (ha : s.heap.get? a = some { cls := .type "list", data := .seq i1 n1 }) (hb : s.heap.get? b = some { cls := .type "list", data := .seq i2 n2 })
    (l1 : i1.size ≤ 1000) (l2 : i2.size ≤ 1000) (h : R (.ref a) { s with heap := s.heap.update a (Obj.mapSeq fun x => x ++ i2) }) : wpAny (model prog w) A (inplaceOp .Add (.ref a) (.ref b)) R E s := by
  have Ta : s.TypeIs (.ref a) "list" := ⟨_, ha, rfl⟩
  have Tb : s.TypeIs (.ref b) "list" := ⟨_, hb, rfl⟩
  have hl := PySem.F.slot_list_iadd.lookup
  have sq : isSeqSlot (some (Value.builtin "list.__iadd__")) = true := by decide +kernel
  unfold inplaceOp
  refine wpAny_holding ?_
  have hfi : fillsInplaceSlot (.type "list") "add" (Operator.Add == .Add) = pure false := by
    unfold fillsInplaceSlot
    show (typeLookup (.type "list") (dunderI "add") >>= fun fi => pure (fi.isSome && !isSeqSlot fi)) = pure false
    rw [hl]
    show (pure (true && !isSeqSlot (some (Value.builtin "list.__iadd__"))) : Sem Bool) = _
    rw [sq]; rfl
  have hsi : seqSlot? (.type "list") (dunderI "add") = pure (some (.builtin "list.__iadd__")) := PySem.seqSlot_of hl sq
  refine wpAny_bind (wpAny_typeOf Ta (wpAny_bind (wpAny_of_eq hfi ?_)))
  show wpAny _ A (if false = true then _ else _) R E s
  rw [if_neg Bool.false_ne_true]
  refine wpAny_bind (PySem.wpAny_binaryOp1_none (nm := "add") Ta Tb noFill_list_add ?_)
  refine wpAny_bind (wpAny_of_eq hsi ?_)
  refine wpAny_bind (wpAny_rule ?_)
  refine call_meets PySem.F.slot_list_iadd Ta PySem.F.entry_list_iadd (PySem.F.args_list_iadd_2 _ _) (AutoSeq1.list___iadd___list_list_0 a i1 n1 b i2 n2 (by simp [Builtin.List.listTooLong, sizeLine]; omega) (by rw [sizeLine_eq]; omega) (by rw [sizeLine_eq]; omega)) ⟨ha, hb, ?_⟩
  exact h

theorem bin_ok {o : Operator} {x y : AVal} {a b : Value} (O : Ok env nm m own base σ s.heap) (hW : binW o x y Q σ) (rx : VRel base x a) (ry : VRel base y b) (h : Bk env nm m own base σ s Q Q') :
    wpAny (model prog w) A (binaryOp o a b) Q' E s := by
  have it : ∀ (i : Int) (t tk : Nat), Q (.int i) σ → Q' (.int i t) { s with heap := s.heap, toks := tk } := fun i t tk q => h (.int i) _ σ _ _ O Step.refl ⟨t, rfl⟩ q
  cases x with
  | int i =>
    cases y with
    | int j =>
      obtain ⟨t, rfl⟩ := rx; obtain ⟨u, rfl⟩ := ry
      cases o with
      | Add =>
        exact add_int (it _ _ _ hW)
      | Sub =>
        exact sub_int (it _ _ _ hW)
      | Mult =>
        replace hW : small i ∧ Q (.int (i * j)) σ := hW
        exact mul_int (it _ _ _ hW.2) (IntMulOk.of_left (bits_small hW.1))
      | FloorDiv =>
        replace hW : (0 < j ∧ j ≤ 1000000000) ∧ Q (.int (i / j)) σ := hW
        refine floordiv_int (by omega) ?_ (.inl (nopy hW.1))
        rw [fd_ed _ _ hW.1.1]; exact it _ _ _ hW.2
      | Mod =>
        replace hW : 0 < j ∧ Q (.int (i % j)) σ := hW
        refine mod_int' (by omega) ?_
        rw [fm_em _ _ hW.1]; exact it _ _ _ hW.2
      | Pow =>
        replace hW : (i = 2 ∧ 0 ≤ j ∧ j ≤ 64) ∧ Q (.int (2 ^ j.toNat)) σ := hW
        obtain ⟨⟨rfl, h1, h2⟩, hq⟩ := hW
        refine pow_int h1 ?_ (it _ _ _ hq)
        rw [show Builtin.Int.intBits 2 = 2 from by decide +kernel]; (clear h1; omega)
      | LShift =>
        replace hW : (small i ∧ 0 ≤ j ∧ j ≤ 64) ∧ Q (.int (i * 2 ^ j.toNat)) σ := hW
        obtain ⟨⟨h0, h1, h2⟩, hq⟩ := hW
        have := bits_small h0
        exact lshift_int h1 (by (clear h1; omega)) (it _ _ _ hq)
      | RShift =>
        replace hW : (0 ≤ i ∧ 0 ≤ j) ∧ Q (.int (i / 2 ^ j.toNat)) σ := hW
        refine rshift_int hW.1.2 ?_
        rw [fd_ed _ _ (pow_pos' _)]; exact it _ _ _ hW.2
      | BitAnd =>
        exact and_int (it _ _ _ hW)
      | BitOr =>
        exact or_int (it _ _ _ hW)
      | BitXor =>
        exact xor_int (it _ _ _ hW)
      | MatMult => exact False.elim hW
      | Div => exact False.elim hW
    | _ => exact False.elim hW
  | ref a' =>
    cases y with
    | ref b' =>
      cases o with
      | Add =>
        rw [Bi12] at hW
        split at hW
        · rename_i xs ys ha hb
          obtain rfl : a = .ref a' := rx
          obtain rfl : b = .ref b' := ry
          obtain ⟨oa, ea, ⟨i1, n1, rfl, r1⟩⟩ := O.good.obj _ _ ha
          obtain ⟨ob, eb, ⟨i2, n2, rfl, r2⟩⟩ := O.good.obj _ _ hb
          have l1 := r1.length; have l2 := r2.length
          rw [Array.length_toList] at l1 l2
          refine PySem.P.add_list (n := n1) (n2 := n2) ea eb ?_ (by rw [sizeLine_eq]; omega)
          refine h (.ref s.heap.objs.size) _ _ _ _ (O.push (o := .list (xs ++ ys)) rfl ⟨_, 0, rfl, ?_⟩) step_push rfl (hW.2 _ O.free)
          rw [Array.toList_append]
          exact r1.append r2
        · exact hW.elim
      | _ => exact False.elim hW
    | int n =>
      cases o with
      | Mult =>
        rw [Bi13] at hW
        split at hW
        · rename_i x' ha
          obtain rfl : a = .ref a' := rx
          obtain ⟨u, rfl⟩ := ry
          obtain ⟨oa, ea, ⟨i1, n1, rfl, r1⟩⟩ := O.good.obj _ _ ha
          obtain ⟨⟨h0, h1⟩, hq⟩ := hW
          obtain ⟨l⟩ := i1
          match l, r1 with
          | [v], r1 =>
          refine wpAny_binaryOp_repeat_ref (T := "list") (U := "int") (by decide) ⟨_, ea, rfl⟩ (fun s' => typeIs_int s' n u) noFill_list_mul F.fills_int_mul F.slot_int_rmul repeat_list F.slot_int_index.lookup
            (call_meets F.slot_int_rmul (typeIs_int s n u) F.entry_int_rmul (F.args_int_rmul_2 _ _) (int___rmul___int_list n u a' #[v] n1)
              ⟨ea, rfl, ⟨_, ea, rfl⟩, call_meets F.slot_list_mul ⟨_, ea, rfl⟩ F.entry_list_mul (F.args_list_mul_2 _ _)
                (AutoListH.list___mul___list_int_3 a' #[v] n1 n u (by simp [Builtin.List.listFitsIndex]; omega) (by simp; (clear h0; omega)) (by simp [Builtin.List.listTooLong, sizeLine]; (clear h0; omega)))
                ⟨ea, ?_⟩⟩)
          refine h (.ref s.heap.objs.size) _ _ _ _ (O.push (o := .list (List.replicate n.toNat x')) rfl ⟨_, 0, rfl, ?_⟩) step_push rfl (hq _ O.free)
          have e : ∀ (k : Nat) (acc : Array Value), (List.foldl (fun x1 x2 => x1 ++ x2) acc (List.replicate k #[v])).toList = acc.toList ++ List.replicate k v := by
            intro k
            induction k with
            | zero => intro acc; simp
            | succ k ih => intro acc; rw [List.replicate_succ, List.foldl_cons, ih]; simp [List.replicate_succ]
          have e1 := e n.toNat #[]
          simp only [List.isEmpty_toArray, List.isEmpty_cons, Bool.false_eq_true, if_false] at *
          rw [e1]
          exact VRels.replicate r1.1 _
        · exact hW.elim
      | _ => exact False.elim hW
    | _ => exact False.elim hW
  | _ => exact False.elim hW

theorem aug_ok {o : Operator} {x y : AVal} {a b : Value} (O : Ok env nm m own base σ s.heap) (hW : augW o x y Q σ) (rx : VRel base x a) (ry : VRel base y b) (h : Bk env nm m own base σ s Q Q') :
    wpAny (model prog w) A (inplaceOp o a b) Q' E s := by
  have it : ∀ (i : Int) (t tk : Nat), Q (.int i) σ → Q' (.int i t) { s with heap := s.heap, toks := tk } := fun i t tk q => h (.int i) _ σ _ _ O Step.refl ⟨t, rfl⟩ q
  cases x with
  | int i =>
    cases y with
    | int j =>
      obtain ⟨t, rfl⟩ := rx; obtain ⟨u, rfl⟩ := ry
      cases o with
      | Add =>
        exact iadd_int (it _ _ _ hW)
      | Sub =>
        exact isub_int (it _ _ _ hW)
      | Mult =>
        replace hW : small i ∧ Q (.int (i * j)) σ := hW
        exact imul_int (it _ _ _ hW.2) (IntMulOk.of_left (bits_small hW.1))
      | FloorDiv =>
        replace hW : (0 < j ∧ j ≤ 1000000000) ∧ Q (.int (i / j)) σ := hW
        refine ifloordiv_int (by omega) ?_ (.inl (nopy hW.1))
        rw [fd_ed _ _ hW.1.1]; exact it _ _ _ hW.2
      | Mod =>
        replace hW : 0 < j ∧ Q (.int (i % j)) σ := hW
        refine imod_int (by omega) ?_
        rw [fm_em _ _ hW.1]; exact it _ _ _ hW.2
      | Pow =>
        replace hW : (i = 2 ∧ 0 ≤ j ∧ j ≤ 64) ∧ Q (.int (2 ^ j.toNat)) σ := hW
        obtain ⟨⟨rfl, h1, h2⟩, hq⟩ := hW
        refine ipow_int h1 ?_ (it _ _ _ hq)
        rw [show Builtin.Int.intBits 2 = 2 from by decide +kernel]; (clear h1; omega)
      | LShift =>
        replace hW : (small i ∧ 0 ≤ j ∧ j ≤ 64) ∧ Q (.int (i * 2 ^ j.toNat)) σ := hW
        obtain ⟨⟨h0, h1, h2⟩, hq⟩ := hW
        have := bits_small h0
        exact ilshift_int h1 (by (clear h1; omega)) (it _ _ _ hq)
      | RShift =>
        replace hW : (0 ≤ i ∧ 0 ≤ j) ∧ Q (.int (i / 2 ^ j.toNat)) σ := hW
        refine irshift_int hW.1.2 ?_
        rw [fd_ed _ _ (pow_pos' _)]; exact it _ _ _ hW.2
      | BitAnd =>
        exact iand_int (it _ _ _ hW)
      | BitOr =>
        exact ior_int (it _ _ _ hW)
      | BitXor =>
        exact ixor_int (it _ _ _ hW)
      | MatMult => exact False.elim hW
      | Div => exact False.elim hW
    | _ => exact False.elim hW
  | ref a' =>
    cases y with
    | ref b' =>
      cases o with
      | Add =>
        replace hW : (match σ a', σ b' with
          | some (.list xs), some (.list ys) => a' ≠ b' ∧ (xs.length ≤ 1000 ∧ ys.length ≤ 1000) ∧ Q (.ref a') (put σ a' (.list (xs ++ ys)))
          | _, _ => False) := hW
        split at hW
        · rename_i xs ys ha hb
          obtain rfl : a = .ref a' := rx
          obtain rfl : b = .ref b' := ry
          obtain ⟨oa, ea, ⟨i1, n1, rfl, r1⟩⟩ := O.good.obj _ _ ha
          obtain ⟨ob, eb, ⟨i2, n2, rfl, r2⟩⟩ := O.good.obj _ _ hb
          have l1 := r1.length; have l2 := r2.length
          rw [Array.length_toList] at l1 l2
          refine iadd_refs ea eb (by omega) (by (clear l1; omega)) ?_
          have u := PySem.IsL.update (n := n1) ea (fun x => x ++ i2)
          have k : ∀ c, c ≠ a' → (s.heap.update a' (Obj.mapSeq fun x => x ++ i2)).get? c = s.heap.get? c := fun c hc => Heap.get?_update_other _ _ (Ne.symm hc)
          refine h (.ref a') _ _ _ _ (O.upd (o := .list (xs ++ ys)) ha k u ⟨_, _, rfl, ?_⟩) (Step.upd ha k u) rfl hW.2.2
          rw [Array.toList_append]
          exact r1.append r2
        · exact hW.elim
      | _ => exact False.elim hW
    | _ => exact False.elim hW
  | _ => exact False.elim hW
end
end Pf
end

section
set_option autoImplicit false
set_option maxRecDepth 100000
namespace Pf
open PySem PySem.W PyProof.Rows PySem.Calls

theorem boolDec (a b : Int) : (a == b) = decide (a = b) := by by_cases h : a = b <;> simp [h]
theorem bneDec (a b : Int) : (a != b) = !decide (a = b) := by by_cases h : a = b <;> simp [h]

section
variable {prog : Program} {w : World} {base : Heap} {A : Around} {E : Value → Shared → Prop} {s : Shared} {env : Env} {nm : List (Option Str)} {m : Loc} {own : List Addr} {σ : AHeap}
variable {Q : AVal → AHeap → Prop} {Q' : Value → Shared → Prop}

theorem una_ok {o : UnaryOp} {x : AVal} {a : Value} (O : Ok env nm m own base σ s.heap) (hW : unaW o x Q σ) (rx : VRel base x a) (h : Bk env nm m own base σ s Q Q') :
    wpAny (model prog w) A (unaryOp o a) Q' E s := by
  have it : ∀ (i : Int) (t tk : Nat), Q (.int i) σ → Q' (.int i t) { s with heap := s.heap, toks := tk } := fun i t tk q => h (.int i) _ σ _ _ O Step.refl ⟨t, rfl⟩ q
  unfold unaW at hW
  split at hW
  · obtain ⟨t, rfl⟩ := rx; exact neg_int (it _ _ _ hW)
  · obtain ⟨t, rfl⟩ := rx; exact invert_int (it _ _ _ hW)
  · exact hW.elim

theorem same_dec (ns ms : List Int) : PySem.Spec.same (.tuple (ns.map PyData.int)) (.tuple (ms.map PyData.int)) = decide (ns = ms) := by
  simp only [PySem.Spec.same]; exact ke_sameAll ns ms
theorem shaped_tup (ns : List Int) : SeqAt.shaped (.tuple (ns.map PyData.int)) = true := by
  simp [SeqAt.shaped, PyData.canLay0, PyData.depth, ke_canLayAll0, ke_depthAll]
theorem noMix_tup (ns ms : List Int) : SeqAt.noMix (.tuple (ns.map PyData.int)) (.tuple (ms.map PyData.int)) = true := by
  rw [SeqAt.noMix]
  induction ns generalizing ms with
  | nil => cases ms <;> rfl
  | cons n r ih =>
    cases ms with
    | nil => rfl
    | cons k q =>
      simp only [List.map_cons, SeqAt.noMixAll, SeqAt.noMix, Bool.true_and]
      exact ih q

theorem cmp_ok {o : CmpOp} {x y : AVal} {a b : Value} {R : Bool → Prop} (O : Ok env nm m own base σ s.heap) (hu : A.units + 64 < cLine) (hW : cmpW o x y R σ) (rx : VRel base x a) (ry : VRel base y b) (h : ∀ c, R c → Q' (.bool c) s) :
    wpAny (model prog w) A (compareOp o a b) Q' E s := by
  unfold cmpW at hW
  split at hW
  · obtain ⟨t, rfl⟩ := rx; obtain ⟨u, rfl⟩ := ry
    rename_i i j
    match o, hW with
    | .Eq, hW => exact eq_int (by rw [boolDec]; exact h _ hW)
    | .NotEq, hW => exact ne_int (by rw [bneDec]; exact h _ hW)
    | .Lt, hW => exact lt_int (h _ hW)
    | .LtE, hW => exact le_int (h _ hW)
    | .Gt, hW => exact gt_int (h _ hW)
    | .GtE, hW => exact ge_int (h _ hW)
    | .Is, hW => exact (show False from hW).elim
    | .IsNot, hW => exact (show False from hW).elim
    | .In, hW => exact (show False from hW).elim
    | .NotIn, hW => exact (show False from hW).elim
  · rename_i a' b'
    obtain rfl : a = .ref a' := rx
    obtain rfl : b = .ref b' := ry
    obtain ⟨ns, ms, hh, hW⟩ := hW
    rcases hh with ⟨ha, hb⟩ | ⟨ha, hb⟩
    · obtain ⟨oa, ea, ⟨i1, n1, rfl, r1⟩⟩ := O.good.obj _ _ ha
      obtain ⟨ob, eb, ⟨i2, n2, rfl, r2⟩⟩ := O.good.obj _ _ hb
      have L1 : s.heap.IsList a' i1.toList.toArray := ⟨_, ea, rfl, n1, by simp⟩
      have L2 : s.heap.IsList b' i2.toList.toArray := ⟨_, eb, rfl, n2, by simp⟩
      match o, hW with
      | .Eq, hW => exact ke_eq_ints L1 L2 (VRels.ints_of r1) (VRels.ints_of r2) hu (h _ hW)
      | .NotEq, hW => exact ke_ne_ints L1 L2 (VRels.ints_of r1) (VRels.ints_of r2) hu (h _ hW)
      | .Lt, hW => exact (show False from hW).elim
      | .LtE, hW => exact (show False from hW).elim
      | .Gt, hW => exact (show False from hW).elim
      | .GtE, hW => exact (show False from hW).elim
      | .Is, hW => exact (show False from hW).elim
      | .IsNot, hW => exact (show False from hW).elim
      | .In, hW => exact (show False from hW).elim
      | .NotIn, hW => exact (show False from hW).elim
    · obtain ⟨oa, ea, ⟨i1, n1, rfl, r1⟩⟩ := O.good.obj _ _ ha
      obtain ⟨ob, eb, ⟨i2, n2, rfl, r2⟩⟩ := O.good.obj _ _ hb
      have rd : ∀ {vs : List Value} {zs : List Int}, IntsAre vs zs → ∃ as, ReadsAll s.heap vs (zs.map PyData.int) as := by
        intro vs zs x
        induction x with
        | nil => exact ⟨_, .nil⟩
        | cons n t _ ih => obtain ⟨as, ih⟩ := ih; exact ⟨_, .cons (Reads.int n t) ih⟩
      obtain ⟨as1, R1⟩ := rd (VRels.ints_of r1)
      obtain ⟨as2, R2⟩ := rd (VRels.ints_of r2)
      have D1 := reads_tuple_at (h := s.heap) ea rfl rfl R1
      have D2 := reads_tuple_at (h := s.heap) eb rfl rfl R2
      match o, hW with
      | .Eq, hW => exact eq_dataH_same D1 D2 (shaped_tup _) (shaped_tup _) hu (noMix_tup _ _) (by rw [same_dec]; exact h _ hW)
      | .NotEq, hW => exact ne_dataH_same D1 D2 (shaped_tup _) (shaped_tup _) hu (noMix_tup _ _) (by rw [same_dec]; exact h _ hW)
      | .Lt, hW => exact (show False from hW).elim
      | .LtE, hW => exact (show False from hW).elim
      | .Gt, hW => exact (show False from hW).elim
      | .GtE, hW => exact (show False from hW).elim
      | .Is, hW => exact (show False from hW).elim
      | .IsNot, hW => exact (show False from hW).elim
      | .In, hW => exact (show False from hW).elim
      | .NotIn, hW => exact (show False from hW).elim
  · exact hW.elim

theorem truth_ok {x : AVal} {a : Value} {R : Bool → Prop} {R' : Bool → Shared → Prop} (hW : truthW x R) (rx : VRel base x a) (h : ∀ c, R c → R' c s) : wpAny (model prog w) A (truthy a) R' E s := by
  unfold truthW at hW
  split at hW
  · obtain ⟨t, rfl⟩ := rx; exact truthy_int (by rw [bneDec]; exact h _ hW)
  · obtain rfl : a = _ := rx; exact wpAny_truthy_bool (h _ hW)
  · exact hW.elim

/-- lists and tuples are made -/
theorem list_ok {xs : List AVal} {vs : List Value} (O : Ok env nm m own base σ s.heap) (r : VRels base xs vs) (hsz : xs.length ≤ 1000) (hW : ∀ c, σ c = none → Q (.ref c) (put σ c (.list xs))) (h : Bk env nm m own base σ s Q Q') :
    wpAny (model prog w) A (newList vs) Q' E s :=
  wpAny_newObj_type (h (.ref s.heap.objs.size) _ _ _ _ (O.push (o := .list xs) rfl ⟨vs.toArray, 0, rfl, by simpa using r⟩) step_push rfl (hW _ O.free))
    (by show vs.toArray.size ≤ sizeLine; rw [List.size_toArray, sizeLine_eq, r.length]; omega)
theorem tup_ok {xs : List AVal} {vs : List Value} (O : Ok env nm m own base σ s.heap) (r : VRels base xs vs) (hsz : xs.length ≤ 1000) (hW : ∀ c, σ c = none → Q (.ref c) (put σ c (.tup xs))) (h : Bk env nm m own base σ s Q Q') :
    wpAny (model prog w) A (newTuple vs) Q' E s :=
  wpAny_newObj_type (h (.ref s.heap.objs.size) _ _ _ _ (O.push (o := .tup xs) rfl ⟨vs.toArray, 0, rfl, by simpa using r⟩) step_push rfl (hW _ O.free))
    (by show vs.toArray.size ≤ sizeLine; rw [List.size_toArray, sizeLine_eq, r.length]; omega)

theorem app_ok {x v : AVal} {a b : Value} (O : Ok env nm m own base σ s.heap) (hW : appW x v Q σ) (rx : VRel base x a) (rv : VRel base v b) (h : Bk env nm m own base σ s Q Q') :
    wpAny (model prog w) A (call (.builtin "list.append") [a, b]) Q' E s := by
  unfold appW at hW
  split at hW
  · rename_i a'
    obtain rfl : a = .ref a' := rx
    split at hW
    · rename_i xs ha
      obtain ⟨oa, ea, ⟨i1, n1, rfl, r1⟩⟩ := O.good.obj _ _ ha
      have l1 := r1.length
      rw [Array.length_toList] at l1
      refine append_at (n := n1) ea (fun h' hs e => ?_) (by rw [sizeLine_eq]; omega)
      refine h .none _ _ _ _ (O.upd (o := .list (xs ++ [v])) ha hs.2 e ⟨_, _, rfl, ?_⟩) (Step.upd ha hs.2 e) rfl hW.2
      rw [Array.toList_push]
      exact r1.snoc rv
    · exact hW.elim
  · exact hW.elim

theorem seq_at {x : AVal} {a : Value} {xs : List AVal} (O : Ok env nm m own base σ s.heap) (e : seqAt σ x = some xs) (rx : VRel base x a) :
    ∃ a' its, a = .ref a' ∧ VRels base xs its.toList ∧ (s.heap.IsList a' its ∨ ∃ n, s.heap.get? a' = some (tupOf its n) ∨ s.heap.IsTuple a' its) := by
  unfold seqAt at e
  split at e
  · rename_i a'
    split at e
    · rename_i ys ha
      cases e
      obtain ⟨oa, ea, ⟨i1, n1, rfl, r1⟩⟩ := O.good.obj _ _ ha
      exact ⟨a', i1, rx, r1, .inl ⟨_, ea, rfl, n1, rfl⟩⟩
    · rename_i ys ha
      cases e
      obtain ⟨oa, ea, ⟨i1, n1, rfl, r1⟩⟩ := O.good.obj _ _ ha
      exact ⟨a', i1, rx, r1, .inr ⟨n1, .inr ⟨_, ea, rfl, n1, rfl⟩⟩⟩
    · cases e
  · rename_i t a' ns
    cases e
    obtain ⟨rfl, vs, hi, ht⟩ := rx
    refine ⟨a', vs.toArray, rfl, by simpa using VRels.of_ints hi, ?_⟩
    cases t
    · obtain ⟨o, eo, r⟩ := ht; exact .inl ⟨o, O.good.keep _ _ eo, r⟩
    · obtain ⟨o, eo, r⟩ := ht; exact .inr ⟨0, .inr ⟨o, O.good.keep _ _ eo, r⟩⟩
  · cases e

theorem seqIdx {k : Int} {n : Nat} (h0 : 0 ≤ k) (h1 : k < n) : seqIndex? k n = some k.toNat := by
  have e : (if k < 0 then k + (n : Int) else k) = k := if_neg (by omega)
  simp only [seqIndex?, e, decide_eq_true h0, decide_eq_true h1, Bool.and_self, if_true]

theorem sub_ok {x k : AVal} {a b : Value} (O : Ok env nm m own base σ s.heap) (hW : subW x k Q σ) (rx : VRel base x a) (rk : VRel base k b) (h : Bk env nm m own base σ s Q Q') :
    (∃ T id, s.TypeIs a T ∧ typeLookup (.type T) "__getitem__" = pure (some (.builtin id))) ∧ wpAny (model prog w) A (getItem a b) Q' E s := by
  unfold subW at hW
  split at hW
  · rename_i k'
    obtain ⟨t, rfl⟩ := rk
    split at hW
    · rename_i xs hx
      obtain ⟨a', its, rfl, r, hh⟩ := seq_at O hx rx
      obtain ⟨h0, h1, hW⟩ := hW
      split at hW
      · rename_i v hv
        obtain ⟨val, e, rv⟩ := r.get hv
        rw [Array.getElem?_toList] at e
        have fin : Q' val s := h v val σ s.heap s.toks O Step.refl rv hW
        rcases hh with L | ⟨n, L⟩
        · exact ⟨⟨_, _, L.typeIs, F.slot_list_getitem.lookup⟩, wpAny_getItem_list L h0 (by (clear h0; omega)) e fin⟩
        · have L : s.heap.IsTuple a' its := by
            rcases L with L | L
            · exact ⟨_, L, rfl, n, rfl⟩
            · exact L
          refine ⟨⟨_, _, L.typeIs, F.slot_tuple_getitem.lookup⟩, ?_⟩
          have hlt : k'.toNat < its.size := by
            rcases Nat.lt_or_ge k'.toNat its.size with q | q
            · exact q
            · rw [Array.getElem?_eq_none q] at e; cases e
          exact PyProof.Rows.getItem_tuple L (by (clear h1 hlt; omega)) (by (clear h0 hlt r; omega)) (j := k'.toNat) (seqIdx h0 (by (clear h0 h1; omega))) e fin
      · exact hW.elim
    · exact hW.elim
  · exact hW.elim

theorem setS_ok {x k v : AVal} {a b c : Value} {R : AHeap → Prop} {R' : Unit → Shared → Prop} (O : Ok env nm m own base σ s.heap) (hW : setSW x k v R σ) (rx : VRel base x a) (rk : VRel base k b) (rv : VRel base v c)
    (h : ∀ σ' h' t', Ok env nm m own base σ' h' → Step σ σ' own s.heap h' → R σ' → R' () { s with heap := h', toks := t' }) : wpAny (model prog w) A (setItem a b c) R' E s := by
  unfold setSW at hW
  split at hW
  · rename_i a' k'
    obtain rfl : a = .ref a' := rx
    obtain ⟨t, rfl⟩ := rk
    split at hW
    · rename_i xs ha
      obtain ⟨oa, ea, ⟨i1, n1, rfl, r1⟩⟩ := O.good.obj _ _ ha
      obtain ⟨⟨h0, h1, h2⟩, hW⟩ := hW
      have l1 := r1.length
      rw [Array.length_toList] at l1
      have u := PySem.IsL.update (n := n1) ea (fun x => x.setIfInBounds k'.toNat c)
      have k : ∀ b, b ≠ a' → (s.heap.update a' (Obj.mapSeq fun x => x.setIfInBounds k'.toNat c)).get? b = s.heap.get? b := fun b hb => Heap.get?_update_other _ _ (Ne.symm hb)
      refine ki_setAt (n := n1) ea h0 (by (clear h0 l1; omega)) (by (clear h0 h2; omega)) ?_
      refine h _ _ s.toks (O.upd (o := .list (xs.set k'.toNat v)) ha k u ⟨_, _, rfl, ?_⟩) (Step.upd ha k u) hW
      rw [Array.toList_setIfInBounds]
      exact r1.set rv
    · exact hW.elim
  · exact hW.elim

theorem len_ok {x : AVal} {a : Value} (O : Ok env nm m own base σ s.heap) (hW : lenW x Q σ) (rx : VRel base x a) (h : Bk env nm m own base σ s Q Q') : wpAny (model prog w) A (call (.builtin "len") [a]) Q' E s := by
  unfold lenW at hW
  split at hW
  · rename_i a' ns
    obtain ⟨rfl, vs, hi, o, eo, r⟩ := rx
    have L : s.heap.IsList a' vs.toArray := ⟨o, O.good.keep _ _ eo, r⟩
    have l := hi.length
    have e : vs.toArray.size = ns.length := by rw [List.size_toArray]; omega
    refine PyProof.Rows.len_list L (by rw [e]; (clear e l; omega)) ?_
    rw [e]
    exact h (.int ns.length) _ σ s.heap _ O Step.refl ⟨_, rfl⟩ hW.2
  · exact hW.elim

theorem sum_nonneg : ∀ {ns : List Int}, (∀ n ∈ ns, 0 ≤ n) → 0 ≤ ns.sum
  | [], _ => by simp
  | n :: r, h => by
    have := h n (by simp)
    have := sum_nonneg (ns := r) fun k hk => h k (by simp [hk])
    rw [List.sum_cons]; omega
theorem sum_take {ns : List Int} (h : ∀ n ∈ ns, 0 ≤ n) (j : Nat) : 0 ≤ (ns.take j).sum ∧ (ns.take j).sum ≤ ns.sum := by
  have e : ns.sum = (ns.take j).sum + (ns.drop j).sum := by rw [← List.sum_append, List.take_append_drop]
  have h1 := sum_nonneg (ns := ns.take j) fun n hn => h n (List.mem_of_mem_take hn)
  have h2 := sum_nonneg (ns := ns.drop j) fun n hn => h n (List.mem_of_mem_drop hn)
  omega

theorem sum_ok {x : AVal} {a : Value} (O : Ok env nm m own base σ s.heap) (hh : A.handled = none) (hW : sumW x Q σ) (rx : VRel base x a) (h : Bk env nm m own base σ s Q Q') : wpAny (model prog w) A (call (.builtin "sum") [a]) Q' E s := by
  unfold sumW at hW
  split at hW
  · rename_i a'
    obtain rfl : a = .ref a' := rx
    obtain ⟨ns, ha, h0, h1, h2, hW⟩ := hW
    obtain ⟨oa, ea, ⟨its, n1, rfl, r1⟩⟩ := O.good.obj _ _ ha
    have L : s.heap.IsList a' its := ⟨_, ea, rfl, n1, rfl⟩
    have hi := VRels.ints_of r1
    have l1 := hi.length
    rw [Array.length_toList] at l1
    have k : ∀ b o, s.heap.get? b = some o → (s.heap.push { cls := .type "list_iterator", data := .fields #[.ref a', .int 0 0] }).get? b = some o := fun b o e => Heap.get?_push_of_some _ e
    have hne : a' ≠ s.heap.objs.size := Nat.ne_of_lt (Heap.lt_size ea)
    refine call_sum_walk (wpAny_pyIter_list L ?_)
    have get : ∀ (i : Nat) (v : Value), its[i]? = some v → ∃ t, v = .int (ns.getD i 0) t := by
      intro i v e
      rw [← Array.getElem?_toList] at e
      have : ∀ {vs : List Value} {ks : List Int} (i : Nat) (v : Value), IntsAre vs ks → vs[i]? = some v → ∃ t, v = .int (ks.getD i 0) t := by
        intro vs ks i v x
        induction x generalizing i with
        | nil => intro e; simp at e
        | cons n t _ ih =>
          intro e
          cases i with
          | zero => simp at e; exact ⟨t, by simp [← e]⟩
          | succ i => simp at e; obtain ⟨u, hu⟩ := ih i e; exact ⟨u, by simpa using hu⟩
      exact this i v hi e
    have get2 : ∀ j, preSum (fun i => ns.getD i 0) j = (ns.take j).sum := preSum_getD ns
    refine ⟨s.heap.objs.size, _, _, _, _, _, fun i => ns.getD i 0, rfl, Walks.list (by exact hh) s.heap.objs.size a' hne its, ⟨?_, ?_⟩, ?_, get, ?_, ?_⟩
    · exact ⟨_, Heap.get?_push_size _ rfl, rfl, rfl⟩
    · exact ⟨_, k _ _ ea, rfl, n1, rfl⟩
    · intro b hb
      show b < (s.heap.push _).objs.size
      rw [Heap.size_push]
      simp only [List.mem_cons, List.not_mem_nil, or_false] at hb
      rcases hb with rfl | rfl
      · exact Nat.lt_succ_self _
      · exact Nat.lt_succ_of_lt (Heap.lt_size ea)
    · intro j hj
      have hj' : j < ns.length := by (clear h1 h2; omega)
      have q1 : ns.getD j 0 ∈ ns := by
        rw [List.getD_eq_getElem?_getD, List.getElem?_eq_getElem hj']; simp
      have q2 := h0 _ q1
      have q3 : ns.getD j 0 ≤ ns.sum := by
        have s1 := sum_take h0 (j + 1)
        have s0 := sum_take h0 j
        have : (ns.take (j + 1)).sum = (ns.take j).sum + ns.getD j 0 := by rw [← get2, ← get2]; rfl
        omega
      have q4 := sum_take h0 (j + 1)
      show InLong (ns.getD j 0) ∧ InLong (preSum (fun i => ns.getD i 0) (j + 1))
      rw [get2]
      unfold InLong
      constructor <;> constructor <;> omega
    · intro h' tk t' hk
      have e : preSum (fun i => ns.getD i 0) its.size = ns.sum := by rw [get2, List.take_of_length_le (by (clear h1 h2; omega))]
      have kk : ∀ b o, s.heap.get? b = some o → h'.get? b = some o := fun b o e => hk b o (by
        have q := Nat.ne_of_lt (Heap.lt_size e)
        simp only [List.mem_cons, List.not_mem_nil, or_false]
        exact q) (k b o e)
      exact h (.int ns.sum) _ σ _ _ (O.ext kk) (Step.ext kk) ⟨t', by rw [e]⟩ hW
  · exact hW.elim

theorem sorted_ok {x : AVal} {a : Value} (O : Ok env nm m own base σ s.heap) (hW : sortedW x Q σ) (rx : VRel base x a) (h : Bk env nm m own base σ s Q Q') : wpAny (model prog w) A (call (.builtin "sorted") [a]) Q' E s := by
  unfold sortedW at hW
  split at hW
  · rename_i a'
    obtain rfl : a = .ref a' := rx
    obtain ⟨ns, ha, h64, hW⟩ := hW
    obtain ⟨oa, ea, ⟨its, n1, rfl, r1⟩⟩ := O.good.obj _ _ ha
    have L : s.heap.IsList a' its.toList.toArray := ⟨_, ea, rfl, n1, by simp⟩
    have hi := VRels.ints_of r1
    have l1 := hi.length
    have l64 : its.toList.length < 64 := by omega
    refine sorted_ints L hi l64 fun out ns' a1 a2 a3 => ?_
    obtain ⟨e, he⟩ := sortedAll_at s.heap its.toList out
    have k : ∀ b o, s.heap.get? b = some o → (sortedAll s.heap its.toList out).get? b = some o := fun b o q => sortedAll_old q
    have fr : s.heap.get? (s.heap.objs.size + 1) = none := by
      cases q : s.heap.get? (s.heap.objs.size + 1) with
      | none => rfl
      | some o => exact absurd (Heap.lt_size q) (Nat.not_lt.mpr (Nat.le_succ _))
    exact h (.ref (s.heap.objs.size + 1)) _ _ _ _ (O.new (o := .list (zs ns')) k fr he ⟨out, e, rfl, VRels.of_ints a1⟩) (Step.new k fr) rfl (hW ns' a2 a3 _ (O.good.dom fr))
  · exact hW.elim

theorem range_ok {xs : List AVal} {vs : List Value} (O : Ok env nm m own base σ s.heap) (hW : rangeW xs Q σ) (r : VRels base xs vs) (h : Bk env nm m own base σ s Q Q') : wpAny (model prog w) A (call (.type "range") vs) Q' E s := by
  rcases hW with ⟨n, rfl, hW⟩ | ⟨a, b, c, rfl, hW⟩
  · replace r := r.one; obtain ⟨v, rfl, ⟨t, hv⟩⟩ := r
    subst hv
    refine call_range_1 ?_
    exact h (.ref s.heap.objs.size) _ _ _ _ (O.push (o := .range 0 n 1) rfl ⟨⟨⟨by decide, by decide⟩, hW.1, .inl rfl⟩, _, t, _, rfl⟩) step_push rfl (hW.2 _ O.free)
  · replace r := r.cons'; obtain ⟨v1, s1, rfl, ⟨t, h1⟩, r⟩ := r
    replace r := r.cons'; obtain ⟨v2, s2, rfl, ⟨u, h2⟩, r⟩ := r
    replace r := r.one; obtain ⟨v3, rfl, ⟨z, h3⟩⟩ := r
    subst h1 h2 h3
    obtain ⟨⟨q1, q2, q3⟩, hW⟩ := hW
    refine call_range_3 (by omega) ?_ (.inl ?_)
    · exact h (.ref s.heap.objs.size) _ _ _ _ (O.push (o := .range a b c) rfl ⟨⟨q1, q2, q3⟩, t, u, z, rfl⟩) step_push rfl (hW _ O.free)
    · rcases q3 with rfl | rfl <;> exact PyProof.noPylong_small (by omega)
end
end Pf
end

section
set_option autoImplicit false
set_option maxRecDepth 100000
namespace Pf
open PySem PySem.W PyProof.Rows PySem.Calls

theorem attr_inj : ∀ f, f < 26 → ∀ g, g < 26 → (Str.ofString (attrName f) == Str.ofString (attrName g)) = (f == g) := by decide +kernel

theorem VRel.handed {base : Heap} {v : AVal} {x : Value} (r : VRel base v x) : handedIn x = true := by
  cases v with
  | int i => obtain ⟨t, rfl⟩ := r; rfl
  | bool b => obtain rfl : x = _ := r; rfl
  | none => obtain rfl : x = _ := r; rfl
  | ref a => obtain rfl : x = _ := r; rfl
  | cst t a ns => obtain ⟨rfl, _⟩ := r; rfl

theorem es_get {base : Heap} {f : Nat} (hf : f < 26) : ∀ {fs : List (Nat × AVal)} {es : List DictEntry} {v : AVal}, EsRel base fs es → fs.lookup f = some v →
    ∃ e, es.find? (·.key.isStr (Str.ofString (attrName f))) = some e ∧ VRel base v e.val
  | [], _, _, _, h => by simp at h
  | (g, w) :: r, e :: s, v, x, h => by
    obtain ⟨⟨hg, ⟨t, hk⟩, hv⟩, x⟩ := x
    rw [List.lookup_cons] at h
    have q := attr_inj g hg f hf
    have q2 : e.key.isStr (Str.ofString (attrName f)) = (g == f) := by rw [hk]; exact q
    rw [List.find?_cons]
    by_cases z : g = f
    · subst z
      simp only [beq_self_eq_true] at q2 h
      rw [q2]
      cases h
      exact ⟨e, rfl, hv⟩
    · have z1 : (g == f) = false := by simpa using z
      have z2 : (f == g) = false := by simpa using Ne.symm z
      rw [q2, z1]
      rw [z2] at h
      exact es_get hf x h
  | _ :: _, [], _, x, _ => x.elim

theorem es_none {base : Heap} : ∀ {fs : List (Nat × AVal)} {es : List DictEntry}, EsRel base fs es → es.any (·.refKey) = false
  | [], [], _ => rfl
  | (g, w) :: r, e :: s, x => by
    obtain ⟨⟨hg, ⟨t, hk⟩, hv⟩, x⟩ := x
    rw [List.any_cons, es_none x]
    simp [DictEntry.refKey, hk]
  | [], _ :: _, x => x.elim
  | _ :: _, [], x => x.elim

theorem es_put {base : Heap} {f : Nat} (hf : f < 26) {v : AVal} {val : Value} (rv : VRel base v val) (hsh : Int) (t : Nat) : ∀ {fs : List (Nat × AVal)} {es : List DictEntry}, EsRel base fs es →
    EsRel base (putF fs f v) (putL (Str.ofString (attrName f)) hsh (.str (Str.ofString (attrName f)) t) val es)
  | [], [], _ => ⟨⟨hf, ⟨t, rfl⟩, rv⟩, trivial⟩
  | (g, w) :: r, e :: s, x => by
    obtain ⟨⟨hg, ⟨u, hk⟩, hv⟩, x⟩ := x
    have q := attr_inj g hg f hf
    have q2 : e.key.isStr (Str.ofString (attrName f)) = (g == f) := by rw [hk]; exact q
    unfold putF putL
    by_cases z : g = f
    · subst z
      simp only [beq_self_eq_true] at q2
      rw [if_pos rfl, if_pos q2]
      exact ⟨⟨hg, ⟨u, hk⟩, rv⟩, x⟩
    · have z1 : (g == f) = false := by simpa using z
      rw [z1] at q2
      rw [if_neg z, if_neg (by rw [q2]; exact Bool.false_ne_true)]
      exact ⟨⟨hg, ⟨u, hk⟩, hv⟩, es_put hf rv hsh t x⟩
  | [], _ :: _, x => x.elim
  | _ :: _, [], x => x.elim

theorem es_len {base : Heap} : ∀ {fs : List (Nat × AVal)} {es : List DictEntry}, EsRel base fs es → es.length = fs.length
  | [], [], _ => rfl
  | _ :: _, _ :: _, x => congrArg (· + 1) (es_len x.2)
  | [], _ :: _, x => x.elim
  | _ :: _, [], x => x.elim

theorem putL_len (name : Str) (hsh : Int) (key v : Value) : ∀ es : List DictEntry, (putL name hsh key v es).length ≤ es.length + 1
  | [] => Nat.le_refl _
  | e :: r => by
    have ih := putL_len name hsh key v r
    unfold putL
    split
    · simp
    · simp only [List.length_cons]; omega

noncomputable def noHeap : Heap := { objs := #[] }
theorem noHeap_none (a : Addr) : noHeap.get? a = none := by
  cases e : noHeap.get? a with
  | none => rfl
  | some o => exact absurd (Heap.lt_size e) (Nat.not_lt_zero _)
theorem fr_no {h : Heap} {L : Addr} {mm : Str → Option Value} (hn : h.Ns L mm) : Fr noHeap L h mm := ⟨hn, fun b o e => (by rw [noHeap_none] at e; cases e), Nat.zero_le _⟩
/-- all objects but two -/
noncomputable def others (h : Heap) (L d : Addr) : List (Addr × Obj) := (List.range h.objs.size).filterMap fun (b : Nat) => if b = L ∨ b = d then none else (h.get? b).map fun o => ((b : Addr), o)
theorem mem_others {h : Heap} {L d : Addr} {p : Addr × Obj} : p ∈ others h L d → h.get? p.1 = some p.2 ∧ p.1 ≠ L ∧ p.1 ≠ d := by
  intro hp
  obtain ⟨b, hb, e⟩ := List.mem_filterMap.mp hp
  split at e
  · cases e
  · rename_i q
    cases eo : h.get? b with
    | none => rw [eo] at e; cases e
    | some o =>
      rw [eo] at e; cases e
      exact ⟨eo, fun z => q (.inl z), fun z => q (.inr z)⟩
theorem others_mem {h : Heap} {L d b : Addr} {o : Obj} (e : h.get? b = some o) (h1 : b ≠ L) (h2 : b ≠ d) : (b, o) ∈ others h L d := by
  refine List.mem_filterMap.mpr ⟨b, List.mem_range.mpr (Heap.lt_size e), ?_⟩
  have q : ¬ (b = L ∨ b = d) := fun q => q.elim h1 h2
  rw [if_neg q, e]; rfl

section
variable {K : Frag} {mg mb : Str → Option Value}
variable {prog : Program} {w : World} {base : Heap} {A : Around} {E : Value → Shared → Prop} {s : Shared} {env : Env} {nm : List (Option Str)} {m : Loc} {own : List Addr} {σ : AHeap}
variable {Q : AVal → AHeap → Prop} {Q' : Value → Shared → Prop}

theorem k_in (X : Cx K base mg mb) (O : Ok env nm m own base σ s.heap) : K.In s.heap := X.kin.keeps O.good.keep

theorem attr_ok {x : AVal} {a : Value} {f : Nat} {expr : Bool} (X : Cx K base mg mb) (O : Ok env nm m own base σ s.heap) (hf : f < 26) (hW : attrW x f Q σ) (rx : VRel base x a) (h : Bk env nm m own base σ s Q Q') :
    wpAny (model prog w) A (getAttr a (Str.ofString (attrName f)) expr) Q' E s := by
  unfold attrW at hW
  split at hW
  · rename_i a'
    obtain rfl : a = .ref a' := rx
    split at hW
    · rename_i c d ha
      split at hW
      · rename_i fs hd
        split at hW
        · rename_i v hv
          obtain ⟨oa, ea, hc, rfl⟩ := O.good.obj _ _ ha
          obtain ⟨od, ed, ⟨es, n, rfl, r⟩⟩ := O.good.obj _ _ hd
          have C := X.cok c hc
          obtain ⟨e, he, rv⟩ := es_get hf r hv
          have I : PySem.W.InstAt s.heap a' (instObj c d) c (some (dictOf es n)) := ⟨ea, rfl, rfl, ed⟩
          refine get_value (k_in X O) I C.get (findObj_own C.hd (C.nm f hf) rfl ?_) rv.handed (h v e.val σ s.heap _ O Step.refl rv hW)
          rw [lookIn_dict]
          unfold getL
          rw [he]
        · exact hW.elim
      · exact hW.elim
    · exact hW.elim
  · exact hW.elim

theorem setA_ok {x v : AVal} {a b : Value} {f : Nat} {R : AHeap → Prop} {R' : Unit → Shared → Prop} (X : Cx K base mg mb) (O : Ok env nm m own base σ s.heap) (hf : f < 26) (hW : setAW x f v R σ) (rx : VRel base x a) (rv : VRel base v b)
    (h : ∀ σ' h' t', Ok env nm m own base σ' h' → Step σ σ' own s.heap h' → R σ' → R' () { s with heap := h', toks := t' }) :
    wpAny (model prog w) A (setAttr a (Str.ofString (attrName f)) b) R' E s := by
  unfold setAW at hW
  split at hW
  · rename_i a'
    obtain rfl : a = .ref a' := rx
    split at hW
    · rename_i c d ha
      split at hW
      · rename_i fs hd
        obtain ⟨oa, ea, hc, rfl⟩ := O.good.obj _ _ ha
        obtain ⟨od, ed, ⟨es, n, rfl, r⟩⟩ := O.good.obj _ _ hd
        have C := X.cok c hc
        have I : PySem.W.InstAt s.heap a' (instObj c d) c (some (dictOf es n)) := ⟨ea, rfl, rfl, ed⟩
        obtain ⟨mm, hN, hv⟩ := O.fr.ns
        obtain ⟨L1, L2, L3⟩ := O.fr.ownOk _ O.fr.loc
        have dL : d ≠ env.locals := fun z => by rw [← z, hd] at L1; cases L1
        have N : News noHeap env.locals s.heap ([] ++ (d, dictOf es n) :: others s.heap env.locals d) := by
          intro p hp
          rcases List.mem_cons.mp hp with rfl | hp
          · exact ⟨ed, dL, noHeap_none _⟩
          · obtain ⟨p1, p2, p3⟩ := mem_others hp
            exact ⟨p1, p2, noHeap_none _⟩
        have tk : takerIn K c (Str.ofString (attrName f)) = some none := by unfold takerIn; rw [C.nm f hf]; rfl
        obtain ⟨hl, hW⟩ := hW
        have hz : es.length ≤ 100 := by have := es_len r; (clear hf; omega)
        have hz' : ∀ (hsh : Int) key, (putL (Str.ofString (attrName f)) hsh key b es).length ≤ es.length + 1 := fun hsh key => putL_len _ _ _ _ _
        refine set_plain (k_in X O) I C.sa (osa_dict (s := { s with toks := s.toks + 1 }) (fr_no hN) N (k_in X O) I rfl C.po tk C.hd ?_ (fun _ q => nomatch q) (fun p hp => (mem_others hp).2.2) (putName_dict _ _ _ _ _ _) rfl ?_ fun h' F' N' => ?_)
        · rw [lookIn_dict]
          unfold getL
          split
          · rfl
          · rw [es_none r]; rfl
        · have := hz' (PyData.keyHash (World.params w) (Str.ofString (attrName f))) (Value.str (Str.ofString (attrName f)) (s.toks + 1))
          exact Nat.le_trans this (by (clear hf hl this; omega))
        · have hd' := (N' _ (.head _)).1
          have ho' : ∀ b o, b ≠ env.locals → b ≠ d → s.heap.get? b = some o → h'.get? b = some o := fun b o h1 h2 e => (N' _ (.tail _ (others_mem e h1 h2))).1
          have hL' : ∃ o, h'.get? env.locals = some o := let ⟨o, _, _, e, _⟩ := F'.ns; ⟨o, e⟩
          have bL : ∀ b, b ∉ own → b ≠ env.locals := fun b hb z => hb (z ▸ O.fr.loc)
          refine h (put σ d (.dict (putF fs f v))) h' _ ⟨⟨fun b o e => ?_, fun b hb => ?_, fun b o e => ?_⟩, ⟨O.fr.kf, O.fr.gl, O.fr.bl, O.fr.loc, fun b hb => ?_, ⟨mm, F'.ns, hv⟩, fun n' hn' => ?_, O.fr.inj, O.fr.nmi, O.fr.len⟩⟩ ⟨fun b o e h1 h2 => ?_, fun b h1 h2 => ?_, fun b o e => ?_⟩ hW
          · refine ho' b o (fun z => by rw [z, L2] at e; cases e) (fun z => ?_) (O.good.keep b o e)
            have := O.good.out d (by rw [hd]; exact Option.some_ne_none _)
            rw [z, this] at e; cases e
          · by_cases z : b = d
            · rw [z]; exact O.good.out d (by rw [hd]; exact Option.some_ne_none _)
            · rw [put_ne z] at hb; exact O.good.out b hb
          · by_cases z : b = d
            · subst z
              rw [put_self] at e; cases e
              exact ⟨_, hd', _, _, rfl, es_put hf rv _ _ r⟩
            · rw [put_ne z] at e
              obtain ⟨ob, e1, e2⟩ := O.good.obj b o e
              exact ⟨ob, ho' b ob (fun z => by rw [z, L1] at e; cases e) z e1, e2⟩
          · obtain ⟨b1, b2, o, b3⟩ := O.fr.ownOk b hb
            have z : b ≠ d := fun z => by rw [z, hd] at b1; cases b1
            refine ⟨by rw [put_ne z]; exact b1, b2, ?_⟩
            by_cases y : b = env.locals
            · exact y ▸ hL'
            · exact ⟨o, ho' b o y z b3⟩
          · obtain ⟨c', v', hc', ⟨o, hoc, hdc⟩, k1, k2, k3, hv'⟩ := O.fr.cell n' hn'
            have z : c' ≠ d := fun z => by rw [z, hd] at k1; cases k1
            exact ⟨c', v', hc', ⟨o, ho' c' o k3 z hoc, hdc⟩, by rw [put_ne z]; exact k1, k2, k3, hv'⟩
          · exact ho' b o (bL b h2) (fun z => by rw [z, hd] at h1; cases h1) e
          · by_cases z : b = d
            · rw [z, hd] at h1; cases h1
            · rw [put_ne z] at h2; exact absurd h1 h2
          · by_cases z : b = d
            · exact ⟨_, z ▸ hd'⟩
            · by_cases y : b = env.locals
              · exact y ▸ hL'
              · exact ⟨o, ho' b o y z e⟩
      · exact hW.elim
    · exact hW.elim
  · exact hW.elim
end
end Pf
end

section
set_option autoImplicit false
set_option maxRecDepth 100000
namespace Pf
open PySem PySem.W PyProof.Rows PySem.Calls

noncomputable def IterAt (h : Heap) (a : Addr) (o : AObj) (I : Addr) (i : Nat) : Prop := match o with
  | .list _ => h.IsListIter I a i
  | .tup _ => h.IsTupleIter I a i
  | .range lo hi st => IsRangeIter h I (lo + (i : Nat) * st) ((rangeN lo hi st : Nat) - (i : Nat) : Int) st
  | _ => False
theorem IterAt.there {h : Heap} {a I : Addr} {o : AObj} {i : Nat} (x : IterAt h a o I i) : ∃ ob, h.get? I = some ob := by
  unfold IterAt at x
  split at x
  · obtain ⟨o, e, _⟩ := x; exact ⟨o, e⟩
  · obtain ⟨o, e, _⟩ := x; exact ⟨o, e⟩
  · exact ⟨_, x⟩
  · exact x.elim
theorem IterAt.at {h h' : Heap} {a I : Addr} {o : AObj} {i : Nat} (x : IterAt h a o I i) (k : ∀ ob, h.get? I = some ob → h'.get? I = some ob) : IterAt h' a o I i := by
  unfold IterAt at x ⊢
  split at x
  · obtain ⟨o, e, r⟩ := x; exact ⟨o, k _ e, r⟩
  · obtain ⟨o, e, r⟩ := x; exact ⟨o, k _ e, r⟩
  · exact k _ x
  · exact x.elim

theorem rangeL_len (lo hi st : Int) : (rangeL lo hi st).length = rangeN lo hi st := by simp [rangeL]
theorem rangeL_get {lo hi st : Int} {i : Nat} (h : i < rangeN lo hi st) : (rangeL lo hi st)[i]? = some (lo + (i : Int) * st) := by
  simp [rangeL, h]

theorem range_size {lo hi st : Int} (h3 : st = 1 ∨ st = -1) : Builtin.Range.rangeSize lo hi st = (rangeN lo hi st : Int) := by
  unfold Builtin.Range.rangeSize rangeN
  rcases h3 with rfl | rfl
  · simp only [show (1 : Int) > 0 by decide, if_true, Int.ediv_one]
    split <;> omega
  · simp only [show ¬ ((-1 : Int) > 0) by decide, if_false, Int.neg_neg, Int.ediv_one]
    split <;> omega
theorem range_fits {x : Int} (q1 : -(2 ^ 62) ≤ x) (q2 : x ≤ 2 ^ 62) : Builtin.Range.rangeFitsLong x = true := by
  simp only [Builtin.Range.rangeFitsLong, Bool.and_eq_true, decide_eq_true_eq]
  omega
theorem range_small {lo hi st : Int} (h1 : Pf.small lo) (h2 : Pf.small hi) (h3 : st = 1 ∨ st = -1) : Builtin.Range.small lo hi st = true := by
  unfold Builtin.Range.small
  rw [range_size h3]
  unfold Pf.small at h1 h2
  have q : (rangeN lo hi st : Int) ≤ 2 ^ 62 := by unfold rangeN; split <;> omega
  rw [range_fits (by (clear h2 h3 q; omega)) (by (clear h2 h3 q; omega)), range_fits (by (clear h1 h3 q; omega)) (by (clear h1 h3 q; omega)), range_fits (by (clear h1 h2 q; omega)) (by (clear h1 h2 q; omega)), range_fits (by (clear h1 h2 h3 q; omega)) q]
  rcases h3 with rfl | rfl
  · rw [if_pos (by decide), range_fits (by (clear h1 q; omega)) (by (clear h1 q; omega))]; simp
  · rw [if_neg (by decide), range_fits (by (clear h1 q; omega)) (by (clear h1 q; omega))]; simp
section
variable {prog : Program} {w : World} {base : Heap} {A : Around} {E : Value → Shared → Prop} {s : Shared} {env : Env} {nm : List (Option Str)} {m : Loc} {own : List Addr} {σ : AHeap}

theorem iter_ok {a : Addr} {o : AObj} {all : List AVal} {R : Value → Shared → Prop} (O : Ok env nm m own base σ s.heap) (ha : σ a = some o) (hi : itemsOf o = some all)
    (h : ∀ ob, IterAt (s.heap.push ob) a o s.heap.objs.size 0 → R (.ref s.heap.objs.size) { s with heap := s.heap.push ob }) : wpAny (model prog w) A (pyIter (.ref a)) R E s := by
  obtain ⟨oa, ea, r⟩ := O.good.obj _ _ ha
  unfold itemsOf at hi
  split at hi
  · obtain ⟨its, n, rfl, r⟩ := r
    exact wpAny_pyIter_list (items := its) ⟨_, ea, rfl, n, rfl⟩ (h _ ⟨_, Heap.get?_push_size _ rfl, rfl, rfl⟩)
  · obtain ⟨its, n, rfl, r⟩ := r
    exact wpAny_pyIter_tuple (items := its) ⟨_, ea, rfl, n, rfl⟩ (h _ ⟨_, Heap.get?_push_size _ rfl, rfl, rfl⟩)
  · rename_i lo hi' st
    obtain ⟨⟨h1, h2, h3⟩, t, u, v, rfl⟩ := r
    have e := range_size (lo := lo) (hi := hi') h3
    have sm := range_small h1 h2 h3
    refine PySem.wpAny_pyIter_range ea sm ?_
    refine h _ ?_
    show IsRangeIter _ _ _ _ _
    rw [e]
    rw [show lo + ((0 : Nat) : Int) * st = lo from by simp, show ((rangeN lo hi' st : Nat) : Int) - ((0 : Nat) : Int) = (rangeN lo hi' st : Int) from by simp]
    exact Heap.get?_push_size _ rfl
  · cases hi

/-- a turn -/
theorem next_ok {a I : Addr} {o : AObj} {all : List AVal} {i : Nat} {R : Option Value → Shared → Prop} (O : Ok env nm m own base σ s.heap) (hh : A.handled = none) (ha : σ a = some o) (hi : itemsOf o = some all) (hne : a ≠ I) (x : IterAt s.heap a o I i)
    (h1 : ∀ v val h' t', all[i]? = some v → VRel base v val → IterAt h' a o I (i + 1) → (∀ b ob, b ≠ I → s.heap.get? b = some ob → h'.get? b = some ob) → (∃ ob, h'.get? I = some ob) → R (some val) { s with heap := h', toks := t' })
    (h2 : ∀ h' t', all.length ≤ i → (∀ b ob, b ≠ I → s.heap.get? b = some ob → h'.get? b = some ob) → R none { s with heap := h', toks := t' }) (hle : i ≤ all.length) : wpAny (model prog w) A (pyNext (.ref I)) R E s := by
  obtain ⟨oa, ea, r⟩ := O.good.obj _ _ ha
  have kk : ∀ {h' : Heap}, (∀ b ob, b ∉ [I] → s.heap.get? b = some ob → h'.get? b = some ob) → ∀ b ob, b ≠ I → s.heap.get? b = some ob → h'.get? b = some ob := fun k b ob hb e => k b ob (by simpa using hb) e
  unfold itemsOf at hi
  split at hi
  · cases hi
    obtain ⟨its, n, rfl, r⟩ := r
    have l := r.length
    rw [Array.length_toList] at l
    have W := Walks.list (prog := prog) (w := w) hh I a hne its
    have L : s.heap.IsList a its := ⟨_, ea, rfl, n, rfl⟩
    rcases Nat.lt_or_ge i its.size with q | q
    · refine W.item i s _ _ q ⟨x, L⟩ fun v h' tk hv hst hk => ?_
      have hv' : its[i]? = some v := hv
      have e : all[i]? = some (all[i]'(by omega)) := List.getElem?_eq_getElem (by omega)
      obtain ⟨val, e', rv⟩ := r.get e
      rw [Array.getElem?_toList, hv'] at e'; cases e'
      exact h1 _ v h' tk e rv hst.1 (kk hk) (IterAt.there (o := .list all) (i := i + 1) hst.1)
    · have z : i = its.size := by (clear L W; omega)
      subst z
      exact W.done s _ _ ⟨x, L⟩ fun h' tk hk => h2 h' tk (by omega) (kk hk)
  · cases hi
    obtain ⟨its, n, rfl, r⟩ := r
    have l := r.length
    rw [Array.length_toList] at l
    have W := Walks.tuple (prog := prog) (w := w) hh I a hne its
    have L : s.heap.IsTuple a its := ⟨_, ea, rfl, n, rfl⟩
    rcases Nat.lt_or_ge i its.size with q | q
    · refine W.item i s _ _ q ⟨x, L⟩ fun v h' tk hv hst hk => ?_
      have hv' : its[i]? = some v := hv
      have e : all[i]? = some (all[i]'(by omega)) := List.getElem?_eq_getElem (by omega)
      obtain ⟨val, e', rv⟩ := r.get e
      rw [Array.getElem?_toList, hv'] at e'; cases e'
      exact h1 _ v h' tk e rv hst.1 (kk hk) (IterAt.there (o := .tup all) (i := i + 1) hst.1)
    · have z : i = its.size := by omega
      subst z
      exact W.done s _ _ ⟨x, L⟩ fun h' tk hk => h2 h' tk (by omega) (kk hk)
  · rename_i lo hi' st
    cases hi
    have ll : (zs (rangeL lo hi' st)).length = rangeN lo hi' st := by rw [zs, List.length_map, rangeL_len]
    have W := Walks.range (prog := prog) (w := w) hh I lo st (rangeN lo hi' st)
    rcases Nat.lt_or_ge i (rangeN lo hi' st) with q | q
    · refine W.item i s _ _ q x fun v h' tk hv hst hk => ?_
      have e : (zs (rangeL lo hi' st))[i]? = some (.int (lo + (i : Int) * st)) := by rw [zs, List.getElem?_map, rangeL_get q]; rfl
      exact h1 _ v h' tk e hv hst (kk hk) ⟨_, hst⟩
    · have z : i = rangeN lo hi' st := by omega
      subst z
      exact W.done s _ _ x fun h' tk hk => h2 h' tk (by omega) (kk hk)
  · cases hi
end
end Pf
end

section
set_option autoImplicit false
set_option maxRecDepth 100000
namespace Pf
open PySem PySem.W PyProof.Rows PySem.Calls

/-! a comprehension's own block -/
noncomputable def clos (cells : List (Str × Addr)) : List (Str × NameKind) → List (Str × Addr) → List (Str × Addr)
  | [], acc => acc
  | (n, k) :: r, acc => clos cells r (if k == .free then (match cells.lookup n with | some c => (n, c) :: acc | none => acc) else acc)

theorem clos_loop {env : Env} (f : Str × NameKind → List (Str × Addr) → Sem (ForInStep (List (Str × Addr))))
    (hf : ∀ n k cs, f (n, k) cs = if k == .free then (cellOf env n >>= fun a => pure (ForInStep.yield ((n, a) :: cs))) else pure (ForInStep.yield cs)) :
    ∀ (names : List (Str × NameKind)) (acc : List (Str × Addr)), (∀ p ∈ names, p.2 = .free → ∃ c, env.cells.lookup p.1 = some c) → forIn names acc f = (pure (clos env.cells names acc) : Sem _)
  | [], acc, _ => rfl
  | (n, k) :: r, acc, hh => by
    have hr : ∀ p ∈ r, p.2 = .free → ∃ c, env.cells.lookup p.1 = some c := fun p hp => hh p (List.mem_cons_of_mem _ hp)
    rw [List.forIn_cons, hf]
    unfold clos
    cases hk : k == .free with
    | true =>
      obtain ⟨c, hc⟩ := hh (n, k) List.mem_cons_self (by simpa using hk)
      have hc' : env.cells.lookup n = some c := hc
      have e : cellOf env n = pure c := by unfold cellOf; rw [hc']
      simp only [if_true, hc', e]
      exact clos_loop f hf r _ hr
    | false =>
      simp only [Bool.false_eq_true, if_false]
      exact clos_loop f hf r _ hr

theorem closureFor_is {sc : Scope} {env : Env} (h : ∀ p ∈ sc.names, p.2 = .free → ∃ c, env.cells.lookup p.1 = some c) : closureFor sc env = pure (clos env.cells sc.names []) := by
  simp only [closureFor]
  rw [clos_loop (env := env) _ (fun n k cs => by cases hk : k == NameKind.free <;> simp [hk]) sc.names [] h]
  rfl

theorem clos_sub (cells : List (Str × Addr)) : ∀ (names : List (Str × NameKind)) (acc : List (Str × Addr)), (∀ p ∈ acc, cells.lookup p.1 = some p.2) → ∀ p ∈ clos cells names acc, cells.lookup p.1 = some p.2
  | [], _, h, p, hp => h p hp
  | (n, k) :: r, acc, h, p, hp => by
    unfold clos at hp
    refine clos_sub cells r _ ?_ p hp
    split
    · split
      · rename_i c hc
        intro q hq
        rcases List.mem_cons.mp hq with rfl | hq
        · exact hc
        · exact h q hq
      · exact h
    · exact h
theorem clos_keeps (cells : List (Str × Addr)) : ∀ (names : List (Str × NameKind)) (acc : List (Str × Addr)), ∀ p ∈ acc, p ∈ clos cells names acc
  | [], _, _, h => h
  | (n, k) :: r, acc, p, h => by
    unfold clos
    refine clos_keeps cells r _ p ?_
    split
    · split
      · exact List.mem_cons_of_mem _ h
      · exact h
    · exact h
theorem clos_has (cells : List (Str × Addr)) {n : Str} {c : Addr} (hc : cells.lookup n = some c) : ∀ (names : List (Str × NameKind)) (acc : List (Str × Addr)), (n, .free) ∈ names → (n, c) ∈ clos cells names acc
  | (n', k) :: r, acc, h => by
    unfold clos
    rcases List.mem_cons.mp h with e | h
    · cases e
      rw [if_pos (by rfl), hc]
      exact clos_keeps cells r _ _ List.mem_cons_self
    · exact clos_has cells hc r _ h
theorem lookup_mem {α : Type} : ∀ {l : List (Str × α)} {n : Str}, (∃ c, (n, c) ∈ l) → ∃ c, l.lookup n = some c
  | (k, v) :: r, n, ⟨c, h⟩ => by
    rw [List.lookup_cons]
    cases e : n == k with
    | true => exact ⟨v, rfl⟩
    | false =>
      rcases List.mem_cons.mp h with q | q
      · cases q; simp at e
      · exact lookup_mem ⟨c, q⟩
theorem clos_lookup (cells : List (Str × Addr)) (names : List (Str × NameKind)) {n : Str} {c : Addr} (h : (clos cells names []).lookup n = some c) : cells.lookup n = some c :=
  clos_sub cells names [] (fun _ h => nomatch h) _ (mem_of_lookup h)
theorem clos_free (cells : List (Str × Addr)) {names : List (Str × NameKind)} {n : Str} {c : Addr} (hc : cells.lookup n = some c) (h : (n, .free) ∈ names) : (clos cells names []).lookup n = some c := by
  obtain ⟨c', e⟩ := lookup_mem ⟨c, clos_has cells hc names [] h⟩
  have := clos_lookup cells names e
  rw [hc] at this; cases this
  exact e

theorem cellsFrom_app : ∀ (names : List (Str × NameKind)) (n : Nat) (acc : List (Str × Addr)), cellsFrom n names acc = cellsFrom n names [] ++ acc
  | [], _, _ => rfl
  | (x, k) :: r, n, acc => by
    unfold cellsFrom
    split
    · rw [cellsFrom_app r (n + 1) ((x, n) :: acc), cellsFrom_app r (n + 1) [(x, n)], List.append_assoc]; rfl
    · exact cellsFrom_app r n acc
theorem cellsFrom_mem : ∀ (names : List (Str × NameKind)) (n : Nat) {x : Str} {c : Addr}, (x, c) ∈ cellsFrom n names [] → (x, .cell) ∈ names
  | [], _, _, _, h => nomatch h
  | (y, k) :: r, n, x, c, h => by
    unfold cellsFrom at h
    split at h
    · rename_i hk
      rw [cellsFrom_app] at h
      rcases List.mem_append.mp h with h | h
      · exact List.mem_cons_of_mem _ (cellsFrom_mem r _ h)
      · have hk' : k = .cell := by simpa using hk
        rcases List.mem_cons.mp h with e | h
        · cases e; subst hk'; exact List.mem_cons_self
        · nomatch h
    · exact List.mem_cons_of_mem _ (cellsFrom_mem r _ h)

theorem lookup_of_mem_nodup : ∀ {names : List (Str × NameKind)} {n : Str} {k : NameKind}, nodupS names = true → (n, k) ∈ names → names.lookup n = some k
  | (m, j) :: r, n, k, hn, h => by
    simp only [nodupS, Bool.and_eq_true, Bool.not_eq_true'] at hn
    rw [List.lookup_cons]
    rcases List.mem_cons.mp h with e | h
    · cases e; simp
    · have : (n == m) = false := by
        rcases Bool.eq_false_or_eq_true (n == m) with q | q
        · have q' : n = m := by simpa using q
          have := List.any_eq_false.mp hn.1 (n, k) h
          simp [q'] at this
        · exact q
      rw [this]
      exact lookup_of_mem_nodup hn.2 h

theorem relabel_lookup {env : Env} (hf : env.scope.kind = .function) : ∀ {names : List (Str × NameKind)} {n : Str},
    (names.map fun (n, k) => if (k == NameKind.free && env.scope.kind == .function && env.kindOf n == some .cell) then (n, NameKind.cell) else (n, k)).lookup n = (names.lookup n).map fun k => if k == .free && env.kindOf n == some .cell then .cell else k
  | [], _ => rfl
  | (m, j) :: r, n => by
    rw [List.map_cons, List.lookup_cons (as := r)]
    have hf' : (env.scope.kind == ScopeKind.function) = true := by rw [hf]; rfl
    cases e : n == m with
    | true =>
      have e' : n = m := by simpa using e
      subst e'
      simp only [hf', Bool.and_true, Option.map_some]
      split <;> simp
    | false =>
      simp only [hf', Bool.and_true]
      have ih := relabel_lookup hf (names := r) (n := n)
      simp only [hf', Bool.and_true] at ih
      split
      · rw [List.lookup_cons, e]; exact ih
      · rw [List.lookup_cons, e]; exact ih

/-- the block of a comprehension -/
noncomputable def cEnv (sc : Scope) (env : Env) (C : Addr) : Env :=
  { scope := relabel sc env, locals := C, globals := env.globals, cells := cellsFrom (C + 1) sc.names (clos env.cells sc.names []), qual := env.qual, func := none, code := env.code, frame := env.frame, builtins := env.builtins }
noncomputable def cOwn (sc : Scope) (C : Addr) : List Addr := C :: (cellsFrom (C + 1) sc.names []).map (·.2)

theorem newComp {M : Model} {A : Around} {E : Value → Shared → Prop} {s : Shared} {sc : Scope} {env : Env} {cl : List (Str × Addr)} {R : Env → Shared → Prop}
    (h : R { scope := sc, locals := s.heap.objs.size, globals := env.globals, cells := cellsFrom (s.heap.objs.size + 1) sc.names cl, qual := env.qual, func := none, code := env.code, frame := env.frame, builtins := env.builtins }
      { s with heap := pushCells (s.heap.push { cls := .type "dict", data := .dict #[] }) sc.names }) :
    wpAny M A (newFunctionEnv sc env.globals cl [] env.qual none .none (some env)) R E s := by
  simp only [newFunctionEnv, Option.isSome_some, if_true]
  refine wpAny_bind (wpAny_alloc ?_)
  refine wpAny_bind (wpAny_layCells _ (fun name kind cells => by cases hkc : kind == NameKind.cell <;> simp [hkc]) _ _ _ _ ?_)
  rw [show ({ s with heap := s.heap.push { cls := .type "dict", data := .dict #[] } } : Shared).heap.objs.size = s.heap.objs.size + 1 from Heap.size_push ..]
  refine wpAny_bind ?_
  rw [List.forIn_nil]
  exact wpAny_pure (wpAny_pure h)
end Pf
end

section
set_option autoImplicit false
set_option maxRecDepth 100000
namespace Pf
open PySem PySem.W PyProof.Rows PySem.Calls

theorem seen_get {nm : List (Option Str)} {x : Nat} {xn : Str} {sc : Scope} {i : Nat} {n : Str} (h : (seen nm x xn sc)[i]? = some (some n)) : (i = x ∧ n = xn) ∨ (i ≠ x ∧ nm[i]? = some (some n) ∧ sc.names.lookup n = some .free) := by
  unfold seen at h
  rw [List.getElem?_mapIdx] at h
  cases e : nm[i]? with
  | none => rw [e] at h; cases h
  | some y =>
    rw [e] at h
    simp only [Option.map_some, Option.some.injEq] at h
    by_cases q : i = x
    · rw [if_pos q] at h; cases h; exact .inl ⟨q, rfl⟩
    · rw [if_neg q] at h
      cases y with
      | none => cases h
      | some z =>
        dsimp only at h
        split at h
        · rename_i hz; cases h; exact .inr ⟨q, rfl, by simpa using hz⟩
        · cases h

theorem fr_comp {base h : Heap} {σ : AHeap} {own : List Addr} {env : Env} {nm : List (Option Str)} {m : Loc} {sc sc' : Scope} {x : Nat} {xn : Str} (O : Ok env nm m own base σ h) (S : ScOk env sc) (hc : compOk nm sc x xn sc' = true) :
    Ok (cEnv sc' env h.objs.size) (seen nm x xn sc') (m.set x none) (cOwn sc' h.objs.size) base σ (pushCells (h.push { cls := .type "dict", data := .dict #[] }) sc'.names) ∧
    ScOk (cEnv sc' env h.objs.size) sc' ∧ (∀ c, (cEnv sc' env h.objs.size).kindOf xn = some .cell → (cEnv sc' env h.objs.size).cells.lookup xn = some c → c ∈ cOwn sc' h.objs.size) ∧
    (∀ a ∈ cOwn sc' h.objs.size, h.get? a = none) ∧ (∀ b o, h.get? b = some o → (pushCells (h.push { cls := .type "dict", data := .dict #[] }) sc'.names).get? b = some o) ∧
    (seen nm x xn sc')[x]? = some (some xn) ∧ isSto (sc'.names.lookup xn) = true := by
  simp only [compOk, Bool.and_eq_true, decide_eq_true_eq, beq_iff_eq, Bool.not_eq_true'] at hc
  obtain ⟨⟨⟨⟨⟨⟨⟨⟨hx, hkf⟩, hg⟩, hco⟩, hsto⟩, hfree⟩, hnd⟩, hdb⟩, h0⟩ := hc
  have F := O.fr
  have push : ∀ b o, h.get? b = some o → (h.push { cls := .type "dict", data := .dict #[] }).get? b = some o := fun b o e => Heap.get?_push_of_some _ e
  have ext : ∀ b o, h.get? b = some o → (pushCells (h.push { cls := .type "dict", data := .dict #[] }) sc'.names).get? b = some o := fun b o e => pushCells_keeps _ _ b o (push b o e)
  have ok := cellsFrom_ok sc'.names (h.push { cls := .type "dict", data := .dict #[] }) (h.objs.size + 1) [] ⟨fun _ _ hm => (nomatch hm), List.Pairwise.nil⟩ (by rw [Heap.size_push]; exact Nat.le_refl _)
  rw [Heap.size_push] at ok
  have cNs : (pushCells (h.push { cls := .type "dict", data := .dict #[] }) sc'.names).Ns h.objs.size fun _ => none := (Heap.Ns.new h (.type "dict")).keeps (pushCells_keeps _ _)
  have kind : ∀ n, (cEnv sc' env h.objs.size).kindOf n = (sc'.names.lookup n).map fun k => if k == .free && env.kindOf n == some .cell then .cell else k := fun n => relabel_lookup F.kf
  have freeIn : ∀ n, sc'.names.lookup n = some .free → env.kindOf n = some .cell ∨ env.kindOf n = some .free := by
    intro n hn
    have hm := mem_of_lookup hn
    have := List.all_eq_true.mp hfree _ hm
    simp only [bne_self_eq_false, Bool.false_or, Bool.or_eq_true, beq_iff_eq] at this
    rcases this with q | q
    · exact .inl ((S _ _ q).2 (by decide))
    · exact (S _ _ q).1 rfl
  have hi : ∀ a, h.objs.size ≤ a → h.get? a = none := by
    intro a ha
    cases e : h.get? a with
    | none => rfl
    | some o => exact absurd (Heap.lt_size e) (Nat.not_lt.mpr ha)
  have own0 : ∀ a ∈ cOwn sc' h.objs.size, h.get? a = none ∧ ∃ o, (pushCells (h.push { cls := .type "dict", data := .dict #[] }) sc'.names).get? a = some o := by
    intro a ha
    rcases List.mem_cons.mp ha with rfl | ha
    · exact ⟨hi _ (Nat.le_refl _), let ⟨o, _, _, e, _⟩ := cNs; ⟨o, e⟩⟩
    · obtain ⟨⟨n, c⟩, hp, rfl⟩ := List.mem_map.mp ha
      obtain ⟨⟨o, e, _⟩, hlt⟩ := ok.empty n c hp
      exact ⟨hi _ (Nat.le_trans (Nat.le_succ _) hlt), o, e⟩
  have look : ∀ n, (cEnv sc' env h.objs.size).cells.lookup n = ((cellsFrom (h.objs.size + 1) sc'.names []).lookup n).or ((clos env.cells sc'.names []).lookup n) := by
    intro n
    show (cellsFrom (h.objs.size + 1) sc'.names (clos env.cells sc'.names [])).lookup n = _
    rw [cellsFrom_app, List.lookup_append]
  have newOf : ∀ n c, (cellsFrom (h.objs.size + 1) sc'.names []).lookup n = some c → sc'.names.lookup n = some .cell ∧ (pushCells (h.push { cls := .type "dict", data := .dict #[] }) sc'.names).IsCell c none ∧ h.objs.size < c ∧ c ∈ cOwn sc' h.objs.size := by
    intro n c e
    have hm := mem_of_lookup e
    obtain ⟨a1, a2⟩ := ok.empty n c hm
    exact ⟨lookup_of_mem_nodup hnd (cellsFrom_mem _ _ hm), a1, a2, List.mem_cons_of_mem _ (List.mem_map_of_mem (f := (·.2)) hm)⟩
  have oldOf : ∀ n c, (clos env.cells sc'.names []).lookup n = some c → env.cells.lookup n = some c := fun n c e => clos_lookup _ _ e
  have oldLt : ∀ n c, (clos env.cells sc'.names []).lookup n = some c → c < h.objs.size := by
    intro n c e
    have hm := clos_sub env.cells sc'.names [] (fun _ q => nomatch q) _ (mem_of_lookup e)
    -- the name is free in the block, so its cell stands
    have hfr : ∀ (names : List (Str × NameKind)) (acc : List (Str × Addr)) (p : Str × Addr), p ∈ clos env.cells names acc → p ∈ acc ∨ (p.1, NameKind.free) ∈ names := by
      intro names
      induction names with
      | nil => intro acc p hp; exact .inl hp
      | cons q r ih =>
        intro acc p hp
        obtain ⟨y, k⟩ := q
        unfold clos at hp
        rcases ih _ p hp with q | q
        · split at q
          · rename_i hk
            split at q
            · rcases List.mem_cons.mp q with rfl | q
              · have : k = .free := by simpa using hk
                subst this
                exact .inr List.mem_cons_self
              · exact .inl q
            · exact .inl q
          · exact .inl q
        · exact .inr (List.mem_cons_of_mem _ q)
    rcases hfr _ _ _ (mem_of_lookup e) with q | q
    · nomatch q
    · have hk := freeIn n (lookup_of_mem_nodup hnd q)
      obtain ⟨c', v, hc', ⟨o, ho, _⟩, _⟩ := F.cell n hk
      have := oldOf n c e
      rw [hc'] at this; cases this
      exact Heap.lt_size ho
  refine ⟨⟨O.good.ext ext, ⟨hkf, F.gl, F.bl, List.mem_cons_self, fun a ha => ?_, ⟨_, cNs, fun i n v hn hm hk => ?_⟩, fun n hn => ?_, fun n n' c e e' => ?_, fun i j n hi' hj => ?_, ?_⟩⟩, fun n k hk => ?_, fun c hk hl => ?_, fun a ha => (own0 a ha).1, ext, ?_, hsto⟩
  · have q := own0 a ha
    refine ⟨O.good.dom q.1, ?_, q.2⟩
    cases e : base.get? a with
    | none => rfl
    | some o => have := O.good.keep a o e; rw [q.1] at this; cases this
  · rcases seen_get hn with ⟨rfl, rfl⟩ | ⟨q, h1, h2⟩
    · rw [List.getElem?_set_self'] at hm
      cases e : m[i]? with
      | none => rw [e] at hm; cases hm
      | some z => rw [e] at hm; simp at hm
    · rw [kind, h2] at hk
      simp only [Option.map_some, beq_self_eq_true, Bool.true_and] at hk
      split at hk <;> cases hk
  · rw [kind] at hn
    cases e : sc'.names.lookup n with
    | none => rw [e] at hn; rcases hn with q | q <;> cases q
    | some k =>
      by_cases hfk : k = .free
      · subst hfk
        have hk := freeIn n e
        obtain ⟨c, v, hc', hC, h1, h2, h3, hv⟩ := F.cell n hk
        have hnn : (cellsFrom (h.objs.size + 1) sc'.names []).lookup n = none := by
          cases e' : (cellsFrom (h.objs.size + 1) sc'.names []).lookup n with
          | none => rfl
          | some c' => have := (newOf n c' e').1; rw [e] at this; cases this
        obtain ⟨o, ho, hd⟩ := hC
        refine ⟨c, v, ?_, ⟨o, ext c o ho, hd⟩, h1, h2, Nat.ne_of_lt (Heap.lt_size ho), fun i w hi' hw => ?_⟩
        · rw [look, hnn]
          exact clos_free env.cells hc' (mem_of_lookup e)
        · rcases seen_get hi' with ⟨rfl, rfl⟩ | ⟨q, h4, h5⟩
          · rw [e] at hsto; cases hsto
          · rw [List.getElem?_set_ne (Ne.symm q)] at hw
            exact hv i w h4 hw
      · have hck : k = .cell := by
          rw [e] at hn
          have hb : (k == NameKind.free) = false := by simpa using hfk
          simp only [Option.map_some, hb, Bool.false_and, Bool.false_eq_true, if_false, Option.some.injEq] at hn
          exact hn.resolve_right hfk
        subst hck
        have hm := mem_of_lookup e
        have hex : ∃ c, (cellsFrom (h.objs.size + 1) sc'.names []).lookup n = some c := by
          have := cellsFrom_some (x := n) sc'.names (h.objs.size + 1) [] (.inl e)
          exact Option.isSome_iff_exists.mp this
        obtain ⟨c, hcc⟩ := hex
        obtain ⟨a1, a2, a3, a4⟩ := newOf n c hcc
        have hn0 : h.get? c = none := hi c (Nat.le_of_lt a3)
        refine ⟨c, none, by rw [look, hcc]; rfl, a2, O.good.dom hn0, ?_, Nat.ne_of_gt a3, fun i w hi' hw => ?_⟩
        · cases e' : base.get? c with
          | none => rfl
          | some o => have := O.good.keep c o e'; rw [hn0] at this; cases this
        · rcases seen_get hi' with ⟨rfl, rfl⟩ | ⟨q, h4, h5⟩
          · rw [List.getElem?_set_self'] at hw
            cases e2 : m[i]? with
            | none => rw [e2] at hw; cases hw
            | some z => rw [e2] at hw; simp at hw
          · rw [e] at h5; cases h5
  · rw [look] at e e'
    cases q : (cellsFrom (h.objs.size + 1) sc'.names []).lookup n with
    | some c1 =>
      rw [q] at e; simp only [Option.some_or, Option.some.injEq] at e; subst e
      cases q' : (cellsFrom (h.objs.size + 1) sc'.names []).lookup n' with
      | some c2 =>
        rw [q'] at e'; simp only [Option.some_or, Option.some.injEq] at e'; subst e'
        exact name_of_addr ok.apart (mem_of_lookup q) (mem_of_lookup q')
      | none =>
        rw [q'] at e'; simp only [Option.none_or] at e'
        exact absurd (oldLt _ _ e') (Nat.not_lt.mpr (Nat.le_of_lt (newOf n _ q).2.2.1))
    | none =>
      rw [q] at e; simp only [Option.none_or] at e
      cases q' : (cellsFrom (h.objs.size + 1) sc'.names []).lookup n' with
      | some c2 =>
        rw [q'] at e'; simp only [Option.some_or, Option.some.injEq] at e'; subst e'
        exact absurd (oldLt _ _ e) (Nat.not_lt.mpr (Nat.le_of_lt (newOf n' _ q').2.2.1))
      | none =>
        rw [q'] at e'; simp only [Option.none_or] at e'
        exact F.inj _ _ _ (oldOf _ _ e) (oldOf _ _ e')
  · rcases seen_get hi' with ⟨rfl, rfl⟩ | ⟨q, h4, h5⟩
    · rcases seen_get hj with ⟨rfl, _⟩ | ⟨q', h4', h5'⟩
      · rfl
      · rw [h5'] at hsto; cases hsto
    · rcases seen_get hj with ⟨rfl, rfl⟩ | ⟨q', h4', h5'⟩
      · rw [h5] at hsto; cases hsto
      · exact F.nmi _ _ _ h4 h4'
  · rw [List.length_set, F.len]; simp [seen]
  · rw [kind, hk]
    refine ⟨fun z => ?_, fun z => ?_⟩
    · subst z
      simp only [Option.map_some, beq_self_eq_true, Bool.true_and]
      split
      · exact .inl rfl
      · exact .inr rfl
    · have hb : (k == NameKind.free) = false := by simpa using z
      simp only [Option.map_some, hb, Bool.false_and, Bool.false_eq_true, if_false]
  · rw [look] at hl
    cases q : (cellsFrom (h.objs.size + 1) sc'.names []).lookup xn with
    | some c1 =>
      rw [q] at hl; simp only [Option.some_or, Option.some.injEq] at hl; subst hl
      exact (newOf xn _ q).2.2.2
    | none =>
      exfalso
      rw [kind] at hk
      cases e : sc'.names.lookup xn with
      | none => rw [e] at hk; cases hk
      | some k =>
        rw [e] at hsto hk
        cases k <;> first
          | (simp [isSto] at hsto; done)
          | skip
        · simp at hk
        · have := cellsFrom_some (x := xn) sc'.names (h.objs.size + 1) [] (.inl e)
          rw [q] at this; cases this
  · unfold seen
    rw [List.getElem?_mapIdx, List.getElem?_eq_getElem hx]
    simp
end Pf
end

section
set_option autoImplicit false
set_option maxRecDepth 100000
namespace Pf
open PySem PySem.W PyProof.Rows PySem.Calls

noncomputable def AE (A : Around) (k : Nat) : Prop := A.handled = none ∧ A.depth + 4 * k + 22 < 1000 ∧ A.units + 30 * k + 310 < 9900

section
variable (prog : Program) (w : World) (base : Heap) (cw : CW) (k : Nat)
noncomputable def SE (e : Ex) : Prop := ∀ nm sc e', mE nm sc e e' = true → ∀ A env m own σ s Q Q' E, AE A k → ScOk env sc → Ok env nm m own base σ s.heap → wpE cw e m Q σ → Bk env nm m own base σ s Q Q' →
  wpAny (model prog w) A (eval e' env) Q' E s
noncomputable def ST (e : Ex) : Prop := ∀ nm sc e', mE nm sc e e' = true → ∀ A env m own σ s Q Q' E, AE A k → ScOk env sc → Ok env nm m own base σ s.heap → wpT cw e m Q σ → BkT env nm m own base σ s Q Q' →
  wpAny (model prog w) A (PySem.isTrue e' env (eval e' env)) Q' E s
end

section
variable {prog : Program} {w : World} {base : Heap} {A : Around} {E : Value → Shared → Prop} {s : Shared} {env : Env} {nm : List (Option Str)} {m : Loc} {own : List Addr} {σ σ1 : AHeap} {h h' h1 : Heap} {t1 : Nat}

theorem Bk.on {Q : AVal → AHeap → Prop} {Q' : Value → Shared → Prop} (x : Bk env nm m own base σ s Q Q') (S : Step σ σ1 own s.heap h1) : Bk env nm m own base σ1 { s with heap := h1, toks := t1 } Q Q' :=
  fun v val σ' h' t' O' S' r q => x v val σ' h' t' O' (S.trans S') r q
theorem BkT.on {Q : Bool → AHeap → Prop} {Q' : Bool → Shared → Prop} (x : BkT env nm m own base σ s Q Q') (S : Step σ σ1 own s.heap h1) : BkT env nm m own base σ1 { s with heap := h1, toks := t1 } Q Q' :=
  fun b σ' h' t' O' S' q => x b σ' h' t' O' (S.trans S') q

theorem Step.priv {I : Addr} (kk : ∀ b ob, b ≠ I → h.get? b = some ob → h'.get? b = some ob) (hex : ∃ ob, h'.get? I = some ob) : Step σ σ [I] h h' :=
  ⟨fun b ob e _ ho => kk b ob (by simpa using ho) e, fun _ a b => absurd a b, fun b ob e => by
    by_cases z : b = I
    · exact z ▸ hex
    · exact ⟨ob, kk b ob z e⟩⟩
/-- an address that nothing of ours knows -/
structure Priv (env : Env) (own : List Addr) (base : Heap) (σ : AHeap) (I : Addr) : Prop where
  s : σ I = none
  o : I ∉ own
  b : base.get? I = none
  c : ∀ n c, (env.kindOf n = some .cell ∨ env.kindOf n = some .free) → env.cells.lookup n = some c → c ≠ I
theorem Ok.priv {I : Addr} (O : Ok env nm m own base σ h) (p : Priv env own base σ I) (kk : ∀ b ob, b ≠ I → h.get? b = some ob → h'.get? b = some ob) : Ok env nm m own base σ h' := by
  refine ⟨⟨fun b o e => kk b o (fun z => by rw [z, p.b] at e; cases e) (O.good.keep b o e), O.good.out, fun b o e => ?_⟩, O.fr.step0 (own' := [I]) (fun b ob e _ ho => kk b ob (by simpa using ho) e) (fun _ a b => absurd a b) (fun a ha q => ?_) fun n c hn hc q => ?_⟩
  · obtain ⟨ob, e1, e2⟩ := O.good.obj b o e
    exact ⟨ob, kk b ob (fun z => by rw [z, p.s] at e; cases e) e1, e2⟩
  · have : a = I := by simpa using q
    exact p.o (this ▸ ha)
  · have : c = I := by simpa using q
    exact p.c n c hn hc this
theorem Priv.step {I : Addr} (p : Priv env own base σ I) (S : Step σ σ1 own h h1) (hex : ∃ ob, h.get? I = some ob) : Priv env own base σ1 I := ⟨let ⟨_, e⟩ := hex; S.none_of e p.s, p.o, p.b, p.c⟩
theorem Priv.kept {I : Addr} {own' : List Addr} (p : Priv env own base σ I) (S : Step σ σ1 own' h h1) (ho : I ∉ own') {ob : Obj} (e : h.get? I = some ob) : h1.get? I = some ob := S.keep I ob e p.s ho

theorem self_ok {a I : Addr} {o : AObj} {i : Nat} {R : Value → Shared → Prop} (x : IterAt s.heap a o I i) (hR : R (.ref I) s) : wpAny (model prog w) A (pyIter (.ref I)) R E s := by
  unfold IterAt at x
  split at x
  · exact wpAny_pyIter_listiter x hR
  · exact wpAny_pyIter_tupleiter x hR
  · exact wpAny_pyIter_rangeiter x hR
  · exact x.elim
theorem next_drop {α : Type} {all : List α} {i : Nat} {v : α} (h : all[i]? = some v) : all.drop i = v :: all.drop (i + 1) := by
  obtain ⟨hi, rfl⟩ := List.getElem?_eq_some_iff.mp h
  exact List.drop_eq_getElem_cons hi
theorem IterAt.notCell {a I : Addr} {o : AObj} {i : Nat} {v : Option Value} (x : IterAt h a o I i) (y : h.IsCell I v) : False := by
  obtain ⟨oc, ec, dc⟩ := y
  unfold IterAt at x
  split at x
  · obtain ⟨ob, e, _, d⟩ := x; rw [ec] at e; cases e; rw [dc] at d; cases d
  · obtain ⟨ob, e, _, d⟩ := x; rw [ec] at e; cases e; rw [dc] at d; cases d
  · have e : h.get? I = some _ := x
    rw [ec] at e; cases e; cases dc
  · exact x

/-- what an inner block has done, seen from without -/
theorem Step.inner {σ3 σ' : AHeap} {h4 hA hB : Heap} {own'' : List Addr} {I D : Addr} {o : AObj} (ext : ∀ b ob, h1.get? b = some ob → h4.get? b = some ob) (S : Step σ3 σ' own'' h4 hA) (kk : ∀ b ob, b ≠ I → hA.get? b = some ob → hB.get? b = some ob)
    (e3 : σ3 = put σ1 D o) (hD : h1.get? D = none) (hI : h1.get? I = none) (hown : ∀ b ∈ own'', h1.get? b = none) : Step σ1 σ' [] h1 hB := by
  subst e3
  have ne : ∀ {b : Addr} {ob : Obj} {c : Addr}, h1.get? b = some ob → h1.get? c = none → b ≠ c := fun e1 e2 z => by rw [z, e2] at e1; cases e1
  refine ⟨fun b ob e hs _ => kk b ob (ne e hI) (S.keep b ob (ext b ob e) (by rw [put_ne (ne e hD)]; exact hs) fun q => ne e (hown b q) rfl), fun b hs hs' => ?_, fun b ob e => ?_⟩
  · cases e : h1.get? b with
    | none => rfl
    | some ob =>
      have := S.fresh b (by rw [put_ne (ne e hD)]; exact hs) hs'
      rw [ext b ob e] at this; cases this
  · obtain ⟨ob', e'⟩ := S.grow b ob (ext b ob e)
    exact ⟨ob', kk b ob' (ne e hI) e'⟩
end

section
variable {prog : Program} {w : World} {base : Heap} {cw : CW} {k : Nat}
/-- a comprehension's tests -/
theorem tests_ok {ifs : List Ex} {ifs' : List Expr} {nm : List (Option Str)} {sc : Scope} (hl : ifs.length ≤ 1) (hm : mEs nm sc ifs ifs' = true) (hT : ∀ e ∈ ifs, ST prog w base cw k e) {A : Around} {env : Env} {m : Loc} {own : List Addr} {σ : AHeap} {s : Shared}
    {Q : Bool → AHeap → Prop} {Q' : Bool → Shared → Prop} {E : Value → Shared → Prop} (hA : AE A k) (S : ScOk env sc) (O : Ok env nm m own base σ s.heap) (hW : wpTs cw true ifs m Q σ) (hb : BkT env nm m own base σ s Q Q') :
    wpAny (model prog w) A (forIn ifs' true fun c r => if r = true then do let ok ← PySem.isTrue c env (eval c env); pure (ForInStep.yield ok) else pure (ForInStep.yield r)) Q' E s := by
  match ifs, ifs', hl, hm, hT, hW with
  | [], [], _, _, _, hW =>
    rw [Wts1] at hW
    rw [List.forIn_nil]
    exact wpAny_pure (hb true σ s.heap s.toks O Step.refl hW)
  | [e], [e'], _, hm, hT, hW =>
    replace hm := (and_i hm).1
    rw [Wts2] at hW
    rw [List.forIn_cons]
    simp only [if_true]
    refine wpAny_bind (wpAny_bind (hT e (by simp) nm sc e' hm A env m own σ s _ _ E hA S O hW fun b σ' h' t' O' S' q => wpAny_pure ?_))
    dsimp only
    rw [List.forIn_nil]
    refine wpAny_pure (hb b σ' h' t' O' S' ?_)
    cases b with
    | true => (rw [if_pos rfl] at q; rw [Wts1] at q); exact q
    | false => rw [if_neg Bool.false_ne_true] at q; exact q
  | [], _ :: _, _, hm, _, _ => (first | exact noT hm | exact noT (and_i hm).2)
  | [_], [], _, hm, _, _ => (first | exact noT hm | exact noT (and_i hm).2)
  | [_], _ :: _ :: _, _, hm, _, _ => (first | exact noT hm | exact noT (and_i hm).2)
  | _ :: _ :: _, _, hl, _, _, _ => simp at hl

theorem comp_loop {elt : Ex} {elt' : Expr} {ifs : List Ex} {ifs' : List Expr} {nm : List (Option Str)} {sc : Scope} {x : Nat} {xn : Str} {px pos : Pos} {it' : Expr} {sc0 : Scope} (hE : SE prog w base cw k elt) (hl : ifs.length ≤ 1) (hT : ∀ e ∈ ifs, ST prog w base cw k e)
    (hme : mE nm sc elt elt' = true) (hmi : mEs nm sc ifs ifs' = true) {A : Around} {env : Env} {m : Loc} {own : List Addr} {σ : AHeap} {s : Shared} {a I c : Addr} {o : AObj} {all : List AVal} {Q : AVal → AHeap → Prop} {R : Result → Shared → Prop}
    (hA : AE A k) (S : ScOk env sc) (hx : nm[x]? = some (some xn)) (hk : isSto (sc.names.lookup xn) = true) (hst : ∀ c, env.kindOf xn = some .cell → env.cells.lookup xn = some c → c ∈ own) (hall : itemsOf o = some all) (hne : a ≠ I)
    (O : Ok env nm (m.set x none) own base σ s.heap) (p : Priv env own base σ I) (hit : IterAt s.heap a o I 0) (ha : σ a = some o) (hac : a ≠ c) (hc : σ c = some (.list []))
    (hW : compN (fun m Q σ => wpTs cw true ifs m Q σ) (fun m Q σ => wpE cw elt m Q σ) x m a o c Q all [] σ)
    (fin : ∀ v σ' h1 h' t', Ok env nm (m.set x v) own base σ' h' → Step σ σ' (I :: own) s.heap h1 → (∀ b ob, b ≠ I → h1.get? b = some ob → h'.get? b = some ob) → Q (.ref c) σ' → R (.ok .next) { s with heap := h', toks := t' }) :
    codeAny (model prog w) A (.compLoop (.ListComp elt' [⟨.Name xn px, it', ifs', 0⟩] sc0 pos) 0 (.ref I) (.ref c) env) R s := by
  refine codeAny_compLoop_tests (fun n s' => ∃ i acc v σ' h' tk, s' = { s with heap := h', toks := tk } ∧ i ≤ all.length ∧ n = all.length + 1 - i ∧ Ok env nm (m.set x v) own base σ' h' ∧ Step σ σ' (I :: own) s.heap h' ∧ Priv env own base σ' I ∧
      IterAt h' a o I i ∧ σ' a = some o ∧ σ' c = some (.list acc) ∧ compN (fun m Q σ => wpTs cw true ifs m Q σ) (fun m Q σ => wpE cw elt m Q σ) x m a o c Q (all.drop i) acc σ') ?_ (all.length + 1)
    ⟨0, [], none, σ, s.heap, s.toks, rfl, Nat.zero_le _, rfl, O, Step.refl, p, hit, ha, hc, hW⟩
  rintro n s' ⟨i, acc, v0, σ', h', tk, rfl, hi, rfl, O', S', p', hit', ha', hc', hW'⟩
  refine next_ok (s := { s with heap := h', toks := tk }) O' hA.1 ha' hall hne hit' (fun v val h2 t2 hv rv hit2 kk hex => ?_) (fun h2 t2 hle kk => ?_) hi
  · have O2 := O'.priv p' kk
    have S2 : Step σ σ' (I :: own) s.heap h2 := S'.trans ((Step.priv kk hex).mono fun b hb => by
      have : b = I := by simpa using hb
      rw [this]; exact List.mem_cons_self)
    refine wpAny_assign_Name (st_var (s := { s with heap := h2, toks := t2 }) (v := v) O2 S hst hx hk rv fun h3 t3 O3 S3 => ?_)
    rw [List.set_set] at O3
    have S3' := S2.trans (S3.mono fun b hb => List.mem_cons_of_mem I hb)
    have hit3 : IterAt h3 a o I (i + 1) := hit2.at fun ob e => p'.kept S3 p'.o e
    rw [next_drop hv, compN] at hW'
    refine tests_ok (s := { s with heap := h3, toks := t3 }) hl hmi hT hA S O3 hW' fun b σ4 h4 t4 O4 S4 hq => ?_
    have p4 := p'.step S4 hit3.there
    have hit4 : IterAt h4 a o I (i + 1) := hit3.at fun ob e => p'.kept S4 p'.o e
    have S4' := S3'.trans (S4.mono fun b hb => List.mem_cons_of_mem I hb)
    have lt : i < all.length := by
      rcases Nat.lt_or_ge i all.length with q | q
      · exact q
      · rw [List.getElem?_eq_none q] at hv; cases hv
    cases b with
    | true =>
      simp only [if_true]
      dsimp only at hq
      refine hE nm sc elt' hme A env _ own σ4 { s with heap := h4, toks := t4 } _ _ _ hA S O4 hq fun y yv σ5 h5 t5 O5 S5 ry hq5 => ?_
      obtain ⟨hc5, hlen, ha5, hW5⟩ := hq5
      have p5 := p4.step S5 hit4.there
      have hit5 : IterAt h5 a o I (i + 1) := hit4.at fun ob e => p4.kept S5 p4.o e
      have S5' := S4'.trans (S5.mono fun b hb => List.mem_cons_of_mem I hb)
      obtain ⟨oc, ec, ⟨its, n1, rfl, r1⟩⟩ := O5.good.obj _ _ hc5
      have l1 := r1.length
      rw [Array.length_toList] at l1
      refine append_at (s := { s with heap := h5, toks := t5 }) (n := n1) ec (fun h6 hs e6 => ?_) (by rw [sizeLine_eq]; (clear hl; omega))
      have u6 : ORel base (.list (acc ++ [y])) (listOf (its.push yv) (n1 + 1)) := ⟨_, _, rfl, by rw [Array.toList_push]; exact r1.snoc ry⟩
      have cI : c ≠ I := fun z => by rw [z, p5.s] at hc5; cases hc5
      refine ⟨all.length + 1 - (i + 1), by (clear hl hlen l1 lt; omega), i + 1, acc ++ [y], some v, _, h6, t5, rfl, lt, rfl, O5.upd hc5 hs.2 e6 u6, S5'.trans (Step.upd hc5 hs.2 e6), ⟨by rw [put_ne (Ne.symm cI)]; exact p5.s, p5.o, p5.b, p5.c⟩, hit5.at fun ob e => (hs.2 I (Ne.symm cI)).trans e, ?_, put_self, hW5⟩
      rw [put_ne hac]; exact ha5
    | false =>
      simp only [Bool.false_eq_true, if_false]
      dsimp only at hq
      exact ⟨all.length + 1 - (i + 1), by (clear hl lt; omega), i + 1, acc, some v, σ4, h4, t4, rfl, lt, rfl, O4, S4', p4, hit4, hq.2.1, hq.1, hq.2.2⟩
  · have e : all.drop i = [] := List.drop_eq_nil_of_le hle
    rw [e, compN] at hW'
    exact fin v0 σ' h' h2 t2 (O'.priv p' kk) S' kk hW'.1
end
end Pf
end

section
set_option autoImplicit false
set_option maxRecDepth 100000
namespace Pf
open PySem PySem.W PyProof.Rows PySem.Calls

theorem notSet {nm : List (Option Str)} {sc : Scope} {e : Ex} {e' : Expr} (h : mE nm sc e e' = true) (env : Env) (x : Value) : foldedSetIterable e' env x = pure x := by
  cases e' with
  | Set elts k pos => cases e <;> exact noT h
  | _ => rfl

section
variable {prog : Program} {w : World} {base : Heap} {cw : CW} {k : Nat}
theorem comp_core {elt it : Ex} {ifs : List Ex} {elt' it' : Expr} {ifs' : List Expr} {nm : List (Option Str)} {sc sc' : Scope} {x : Nat} {xn : Str} {px pos : Pos} (hIt : SE prog w base cw k it) (hE : SE prog w base cw k elt) (hT : ∀ e ∈ ifs, ST prog w base cw k e)
    (hc : compOk nm sc x xn sc' = true) (hl : ifs.length ≤ 1) (hmt : mE nm sc it it' = true) (hme : mE (seen nm x xn sc') sc' elt elt' = true) (hmi : mEs (seen nm x xn sc') sc' ifs ifs' = true)
    {A : Around} {env : Env} {m : Loc} {own : List Addr} {σ : AHeap} {s : Shared} {Q : AVal → AHeap → Prop} {Q' E : Value → Shared → Prop} {use : Option (Value → Sem Unit)}
    (hA : AE A k) (S : ScOk env sc) (O : Ok env nm m own base σ s.heap) (hW : wpE cw (.comp elt x it ifs) m Q σ)
    (fin : ∀ D σ' h' t' C, Ok env nm m own base σ' h' → Step σ σ' own s.heap h' → Q (.ref D) σ' → Priv env own base σ' C → (∃ mC, h'.Ns C mC) → s.heap.get? C = none →
      compPost (model prog w) A E use Q' (.ref D) C (.ok .next) { s with heap := h', toks := t' }) :
    wpAny (model prog w) A (comprehension (.ListComp elt' [⟨.Name xn px, it', ifs', 0⟩] sc' pos) sc' env (firstIterPos [⟨.Name xn px, it', ifs', 0⟩] pos) (newList []) false (eval it' env) use) Q' E s := by
  have hc' := hc
  simp only [compOk, Bool.and_eq_true, decide_eq_true_eq, beq_iff_eq, Bool.not_eq_true'] at hc'
  obtain ⟨⟨⟨⟨⟨⟨⟨⟨hx, hkf⟩, hg⟩, hco⟩, hsto⟩, hfree⟩, hnd⟩, hdb⟩, h0⟩ := hc'
  have hcl : closureFor sc' env = pure (clos env.cells sc'.names []) := by
    refine closureFor_is fun p hp hpf => ?_
    have := List.all_eq_true.mp hfree p hp
    rw [hpf] at this
    simp only [bne_self_eq_false, Bool.false_or, Bool.or_eq_true, beq_iff_eq] at this
    have hk : env.kindOf p.1 = some .cell ∨ env.kindOf p.1 = some .free := by
      rcases this with q | q
      · exact .inl ((S _ _ q).2 (by decide))
      · exact (S _ _ q).1 rfl
    obtain ⟨c, _, hc, _⟩ := O.fr.cell p.1 hk
    exact ⟨c, hc⟩
  refine wpAny_comprehension_free (cl := clos env.cells sc'.names []) rfl (fun y => notSet hmt env y) hcl hkf (fun p hp hpl => lookup_of_mem_nodup hnd (by rw [← hpl]; exact hp)) ?_
  rw [We24] at hW
  refine hIt nm sc it' hmt A env m own σ s _ _ _ hA S O hW fun v val σ1 h1 t1 O1 S1 rv q => ?_
  obtain ⟨a, o, all, rfl, ha, hall, hlen, hW1⟩ := q
  obtain rfl : val = .ref a := rv
  refine iter_ok (s := { s with heap := h1, toks := t1 }) O1 ha hall fun ob hit => ?_
  have oI : ob.isFreed = false := by
    obtain ⟨ob', e⟩ := hit.there
    cases q : ob.isFreed with
    | false => rfl
    | true =>
      rw [Heap.get?_some_iff] at e
      have : ob' = ob := by
        have := e.1
        simp [Heap.push] at this
        exact this.symm
      rw [this, q] at e; cases e.2
  have hI1 : h1.get? h1.objs.size = none := get_size h1
  have ext2 : ∀ b o, h1.get? b = some o → (h1.push ob).get? b = some o := fun b o e => Heap.get?_push_of_some _ e
  have O2 := O1.ext ext2
  refine wpAny_newObj_type (newComp ?_) (by show ([] : List Value).toArray.size ≤ sizeLine; rw [sizeLine_eq]; simp)
  have O3 := O2.push (o := .list []) (ob := { cls := .type "list", dict := none, data := .seq ([] : List Value).toArray }) rfl ⟨#[], 0, rfl, trivial⟩
  have ext3 : ∀ b o, h1.get? b = some o → ((h1.push ob).push { cls := .type "list", dict := none, data := .seq ([] : List Value).toArray }).get? b = some o := fun b o e => Heap.get?_push_of_some _ (ext2 b o e)
  obtain ⟨Oc, Sc, hstc, hfr, ext4, hxn, hsx⟩ := fr_comp O3 S hc
  have hD1 : h1.get? (h1.push ob).objs.size = none := by
    cases e : h1.get? (h1.push ob).objs.size with
    | none => rfl
    | some o => have := Heap.lt_size (ext2 _ _ e); exact absurd this (Nat.lt_irrefl _)
  have ne : ∀ {b : Addr} {ob : Obj} {c : Addr}, h1.get? b = some ob → h1.get? c = none → b ≠ c := fun e1 e2 z => by rw [z, e2] at e1; cases e1
  have hIsz : (h1.push ob).objs.size = h1.objs.size + 1 := Heap.size_push ..
  have hID : (h1.objs.size : Addr) ≠ (h1.push ob).objs.size := by rw [hIsz]; exact Nat.ne_of_lt (Nat.lt_succ_self _)
  have hI3 : ((h1.push ob).push { cls := .type "list", dict := none, data := .seq ([] : List Value).toArray }).get? h1.objs.size = some ob := Heap.get?_push_of_some _ (Heap.get?_push_size _ oI)
  have hIbase : base.get? h1.objs.size = none := by
    cases e : base.get? h1.objs.size with
    | none => rfl
    | some o => have := O1.good.keep _ _ e; rw [hI1] at this; cases this
  have hit4 := (hit.at (h' := pushCells _ sc'.names) fun ob' e => ext4 _ _ (Heap.get?_push_of_some _ e))
  have pI : Priv (cEnv sc' env ((h1.push ob).push { cls := .type "list", dict := none, data := .seq ([] : List Value).toArray }).objs.size) (cOwn sc' ((h1.push ob).push { cls := .type "list", dict := none, data := .seq ([] : List Value).toArray }).objs.size) base (put σ1 (h1.push ob).objs.size (.list [])) h1.objs.size := by
    refine ⟨?_, fun q => ?_, hIbase, fun n c hn hc' z => ?_⟩
    · rw [put_ne hID]; exact O1.free
    · have := hfr _ q; rw [hI3] at this; cases this
    · subst z
      obtain ⟨c', v', e1, e2, _⟩ := Oc.fr.cell n hn
      rw [hc'] at e1; cases e1
      exact hit4.notCell e2
  obtain ⟨oa, ea, _⟩ := O1.good.obj _ _ ha
  have loop : ∀ t2, codeAny (model prog w) A (.compLoop (.ListComp elt' [⟨.Name xn px, it', ifs', 0⟩] sc' pos) 0 (.ref h1.objs.size) (.ref (h1.push ob).objs.size) (cEnv sc' env ((h1.push ob).push { cls := .type "list", dict := none, data := .seq ([] : List Value).toArray }).objs.size))
      (compPost (model prog w) A E use Q' (.ref (h1.push ob).objs.size) ((h1.push ob).push { cls := .type "list", dict := none, data := .seq ([] : List Value).toArray }).objs.size)
      { s with heap := pushCells (((h1.push ob).push { cls := .type "list", dict := none, data := .seq ([] : List Value).toArray }).push { cls := .type "dict", data := .dict #[] }) sc'.names, toks := t2 } := by
    intro t2
    refine comp_loop (a := a) (o := o) (all := all) (Q := Q) hE hl hT hme hmi hA Sc hxn hsx hstc hall (ne ea hI1) Oc pI hit4 ?_ (ne ea hD1) put_self (hW1 _ (O1.good.dom hD1)) fun v0 σ' hA' hB t' Ob Sb kk hq => ?_
    · rw [put_ne (ne ea hD1)]; exact ha
    · have ext5 : ∀ b o, h1.get? b = some o → (pushCells (((h1.push ob).push { cls := .type "list", dict := none, data := .seq ([] : List Value).toArray }).push { cls := .type "dict", data := .dict #[] }) sc'.names).get? b = some o := fun b o e => ext4 b o (ext3 b o e)
      have hown1 : ∀ b ∈ cOwn sc' ((h1.push ob).push { cls := .type "list", dict := none, data := .seq ([] : List Value).toArray }).objs.size, h1.get? b = none := by
        intro b hb
        cases e : h1.get? b with
        | none => rfl
        | some o => have := hfr b hb; rw [ext3 b o e] at this; cases this
      have Sf := Step.inner (σ1 := σ1) ext5 Sb kk rfl hD1 hI1 fun b hb => by
        rcases List.mem_cons.mp hb with rfl | hb
        · exact hI1
        · exact hown1 b hb
      have hC1 := hown1 _ List.mem_cons_self
      have hCs : s.heap.get? ((h1.push ob).push { cls := .type "list", dict := none, data := .seq ([] : List Value).toArray }).objs.size = none := by
        cases e : s.heap.get? ((h1.push ob).push { cls := .type "list", dict := none, data := .seq ([] : List Value).toArray }).objs.size with
        | none => rfl
        | some o => obtain ⟨o', e'⟩ := S1.grow _ _ e; rw [hC1] at e'; cases e'
      refine fin _ σ' hB t' _ ⟨Ob.good, O1.fr.step_nil Sf⟩ (S1.trans Sf.of_nil) hq ⟨(Ob.fr.ownOk _ List.mem_cons_self).1, fun q => ?_, (Ob.fr.ownOk _ List.mem_cons_self).2.1, fun n c hn hc' z => ?_⟩ (let ⟨mm, e, _⟩ := Ob.fr.ns; ⟨mm, e⟩) hCs
      · obtain ⟨_, _, o, e⟩ := O1.fr.ownOk _ q
        rw [hC1] at e; cases e
      · subst z
        obtain ⟨c', v', e1, ⟨o, e2, _⟩, _⟩ := O1.fr.cell n hn
        rw [hc'] at e1; cases e1
        rw [hC1] at e2; cases e2
  exact codeAny_compStart_list (loop _) (self_ok hit4 (loop _))
end
end Pf
end

section
set_option autoImplicit false
set_option maxRecDepth 100000
namespace Pf
open PySem PySem.W PyProof.Rows PySem.Calls

/-- what a call by a def's number does -/
noncomputable def CallOk (prog : Program) (w : World) (base : Heap) (cw : CW) (k : Nat) : Prop := ∀ f vs Q σ, cw f vs Q σ → ∀ (A : Around) (s : Shared) vals R, AOk A k → Good base σ s.heap → VRels base vs vals →
  (∀ v val σ' h' t', Good base σ' h' → Step σ σ' [] s.heap h' → VRel base v val → Q v σ' → R (.ok (.ret val)) { s with heap := h', toks := t' }) → codeAny (model prog w) A (.call (.ref (faddr f)) ⟨vals, []⟩) R s

theorem notStar {nm : List (Option Str)} {sc : Scope} {e : Ex} {e' : Expr} (h : mE nm sc e e' = true) : ∀ x p, e' ≠ .Starred x p := by
  intro x p q; subst q; cases e <;> exact noT h
theorem star_cons {nm : List (Option Str)} {sc : Scope} {e : Ex} {e' : Expr} (h : mE nm sc e e' = true) (r : List Expr) (env : Env) : starEach (e' :: r) env = (false, eval e' env) :: starEach r env := by
  cases e' with
  | Starred x p => exact absurd rfl (notStar h x p)
  | _ => rfl
theorem plain_args {nm : List (Option Str)} {sc : Scope} {env : Env} {pos : Pos} : ∀ {es : List Ex} {es' : List Expr}, mEs nm sc es es' = true → (backTo pos (starEach es' env)).any (·.1) = false
  | [], [], _ => rfl
  | e :: r, e' :: r', h => by
    rw [mEs_cons, Bool.and_eq_true] at h
    rw [star_cons h.1]
    show (false || (backTo pos (starEach r' env)).any (·.1)) = false
    rw [plain_args h.2]; rfl
  | [], _ :: _, h => noT h
  | _ :: _, [], h => noT h

theorem AE.aok {A : Around} {k : Nat} (h : AE A k) : AOk A k := ⟨h.1, by have := h.2.1; omega, by have := h.2.2; omega⟩
theorem AE.cl {A : Around} {k : Nat} (h : AE A k) : A.units + 64 < cLine := by have := h.2.2; have := cLine_is; omega

section
variable {prog : Program} {w : World} {K : Frag} {base : Heap} {mg mb : Str → Option Value} {cw : CW} {k : Nat}

theorem under_make (c : Addr) (vs : List Value) (kw : List (Str × Value)) : (Code.builtin "type.__call__" ⟨.ref c :: vs, kw⟩).weight = 1 := by
  have h1 : (Code.builtin "type.__call__" ⟨.ref c :: vs, kw⟩).frames = 0 := rfl
  have h2 : (Code.builtin "type.__call__" ⟨.ref c :: vs, kw⟩).isCreation = true := rfl
  have h3 : (Code.builtin "type.__call__" ⟨.ref c :: vs, kw⟩).isGuard = false := by show guardIds.contains "type.__call__" = false; decide +kernel
  have h4 : (Code.builtin "type.__call__" ⟨.ref c :: vs, kw⟩).isCaller = false := rfl
  simp [Code.weight, h1, h2, h3, h4]
theorem under_aok {A : Around} {k : Nat} {c : Addr} {vs : List Value} {kw : List (Str × Value)} (h : AE A k) : AOk (A.under (.builtin "type.__call__" ⟨.ref c :: vs, kw⟩)) k := by
  have hu : (Code.builtin "type.__call__" ⟨.ref c :: vs, kw⟩).cUnits = 1 := rfl
  refine ⟨h.1, ?_, ?_⟩
  · show A.depth + (Code.builtin "type.__call__" ⟨.ref c :: vs, kw⟩).weight + 4 * k + 20 < 1000
    rw [under_make]; have := h.2.1; omega
  · show A.units + (Code.builtin "type.__call__" ⟨.ref c :: vs, kw⟩).cUnits + 30 * k + 300 < 9900
    rw [hu]; have := h.2.2; omega

theorem call_fn (X : Cx K base mg mb) (hC : CallOk prog w base cw k) {A : Around} {E : Value → Shared → Prop} {s : Shared} {env : Env} {nm : List (Option Str)} {m : Loc} {own : List Addr} {σ : AHeap} {f : Nat} {vs : List AVal} {vals : List Value}
    {Q : AVal → AHeap → Prop} {Q' : Value → Shared → Prop} (hA : AE A k) (O : Ok env nm m own base σ s.heap) (hW : cw f vs Q σ) (r : VRels base vs vals) (h : Bk env nm m own base σ s Q Q') :
    wpAny (model prog w) A (call (.ref (faddr f)) vals) Q' E s :=
  wpAny_call (hC f vs Q σ hW A s vals _ hA.aok O.good r fun v val σ' h' t' G' S' rv q => h v val σ' h' t' ⟨G', O.fr.step_nil S'⟩ S'.of_nil rv q)

theorem call_new (X : Cx K base mg mb) (hC : CallOk prog w base cw k) {A : Around} {E : Value → Shared → Prop} {s : Shared} {env : Env} {nm : List (Option Str)} {m : Loc} {own : List Addr} {σ : AHeap} {x : Str} {c f : Nat} {vs : List AVal} {vals : List Value}
    {Q : AVal → AHeap → Prop} {Q' : Value → Shared → Prop} (hA : AE A k) (O : Ok env nm m own base σ s.heap) (hx : clsTab.lookup x = some (c, f))
    (hW : ∀ d y, σ d = none → σ y = none → d ≠ y → cw f (.ref y :: vs) (fun v σ2 => v = .none ∧ Q (.ref y) σ2) (put (put σ d (.dict [])) y (.inst c d))) (r : VRels base vs vals) (h : Bk env nm m own base σ s Q Q') :
    wpAny (model prog w) A (call (.ref c) vals) Q' E s := by
  obtain ⟨hc, hm, hi, hf⟩ := X.mkc x c f hx
  have XK := k_in X O
  obtain ⟨hp, g, dr, t, os⟩ := s
  dsimp only at *
  have e1 : hp.get? hp.objs.size = none := get_size hp
  have e2 : hp.get? (hp.objs.size + 1) = none := by
    cases q : hp.get? (hp.objs.size + 1) with
    | none => rfl
    | some o => exact absurd (Heap.lt_size q) (Nat.not_lt.mpr (Nat.le_succ _))
  have ned : (hp.objs.size : Addr) ≠ hp.objs.size + 1 := Nat.ne_of_lt (Nat.lt_succ_self _)
  have ext1 : ∀ b o, hp.get? b = some o → (hp.push emptyDict).get? b = some o := fun b o e => Heap.get?_push_of_some _ e
  have G1 : Good base (put σ hp.objs.size (.dict [])) (hp.push emptyDict) := O.good.new ext1 e1 (Heap.get?_push_size _ rfl) ⟨[], 0, rfl, trivial⟩
  have sz : (hp.push emptyDict).objs.size = hp.objs.size + 1 := Heap.size_push ..
  have ext2 : ∀ b o, (hp.push emptyDict).get? b = some o → ((hp.push emptyDict).push (instObj c hp.objs.size)).get? b = some o := fun b o e => Heap.get?_push_of_some _ e
  have e3 : (hp.push emptyDict).get? (hp.objs.size + 1) = none := by rw [← sz]; exact get_size _
  have e4 : ((hp.push emptyDict).push (instObj c hp.objs.size)).get? (hp.objs.size + 1) = some (instObj c hp.objs.size) := by rw [← sz]; exact Heap.get?_push_size _ rfl
  have G2 : Good base (put (put σ hp.objs.size (.dict [])) (hp.objs.size + 1) (.inst c hp.objs.size)) ((hp.push emptyDict).push (instObj c hp.objs.size)) := G1.new ext2 e3 e4 ⟨hc, rfl⟩
  have S2 : Step σ (put (put σ hp.objs.size (.dict [])) (hp.objs.size + 1) (.inst c hp.objs.size)) [] hp ((hp.push emptyDict).push (instObj c hp.objs.size)) := (Step.new ext1 e1).trans (Step.new ext2 e3)
  refine wpAny_call (make_core (makes_of XK hm) (looks_findIn XK hi) (fun self => bind_fn XK self hf) (.inl rfl) ?_)
  refine hC f _ _ _ (hW hp.objs.size (hp.objs.size + 1) (O.good.dom e1) (O.good.dom e2) ned) _ _ _ _ (under_aok hA) G2 ⟨rfl, r⟩ fun v val σ' h' t' G' S' rv q => ?_
  obtain ⟨rfl, q⟩ := q
  refine ⟨rv, ?_⟩
  have S3 := S2.trans S'
  exact h (.ref (hp.objs.size + 1)) _ σ' h' t' ⟨G', O.fr.step_nil S3⟩ S3.of_nil rfl q
end
end Pf
end

section
set_option autoImplicit false
set_option maxRecDepth 100000
namespace Pf
open PySem PySem.W PyProof.Rows PySem.Calls

section
variable {prog : Program} {w : World} {K : Frag} {base : Heap} {mg mb : Str → Option Value} {cw : CW} {k : Nat}

theorem SE_lit (X : Cx K base mg mb) (v : AVal) : SE prog w base cw k (.lit v) := by
  intro nm sc e' hm A env m own σ s Q Q' E hA S O hW h
  rw [We1] at hW
  replace hm := mI_lit hm
  rcases hm with ⟨c, kk, pos, rfl, hm⟩ | ⟨x, pos, rfl, hm⟩
  · cases v <;> cases c <;> first | exact noT hm | skip
    · obtain rfl := beq_iff_eq.mp (show (_ == _) = true from hm)
      exact wpAny_Constant_int (h (.int _) _ σ s.heap _ O Step.refl ⟨_, rfl⟩ hW)
    · obtain rfl := beq_iff_eq.mp (show (_ == _) = true from hm)
      exact Constant_bool (h (.bool _) _ σ s.heap s.toks O Step.refl rfl hW)
    · exact Constant_none (h .none _ σ s.heap s.toks O Step.refl rfl hW)
  · simp only [Bool.and_eq_true, Bool.not_eq_true'] at hm
    obtain ⟨⟨h1, h2⟩, h3⟩ := hm
    unfold globIs at h2
    split at h2
    · rename_i u hu
      have := eqA_eq h2
      subst this
      obtain ⟨val, e, r⟩ := X.glob x u hu
      exact ld_glob X O S h1 h3 e (h u val σ s.heap s.toks O Step.refl r hW)
    · cases h2

theorem SE_var (i : Nat) : SE prog w base cw k (.var i) := by
  intro nm sc e' hm A env m own σ s Q Q' E hA S O hW h
  replace hm := mI_var hm
  obtain ⟨_, _, rfl, hm⟩ := hm
  rw [We2] at hW
  · rename_i x pos
    simp only [Bool.and_eq_true, Bool.not_eq_true', beq_iff_eq] at hm
    obtain ⟨⟨h1, h2⟩, h3⟩ := hm
    unfold varW at hW
    split at hW
    · rename_i v hv
      exact wpAny_Name (ldn_var O S h1 h2 h3 hv fun val r => h v val σ s.heap s.toks O Step.refl r hW) (dbg1 h3)
    · exact hW.elim

theorem SE_bin {o : Operator} {l r : Ex} (hl : SE prog w base cw k l) (hr : SE prog w base cw k r) : SE prog w base cw k (.bin o l r) := by
  intro nm sc e' hm A env m own σ s Q Q' E hA S O hW h
  replace hm := mI_bin hm
  obtain ⟨_, _, _, _, rfl, hm⟩ := hm
  rw [We3] at hW
  · simp only [Bool.and_eq_true, beq_iff_eq] at hm
    obtain ⟨⟨rfl, h1⟩, h2⟩ := hm
    refine wpAny_BinOp (hl nm sc _ h1 A env m own σ s _ _ E hA S O hW fun a av σ1 g1 t1 O1 S1 ra q1 => ?_)
    refine hr nm sc _ h2 A env m own σ1 { s with heap := g1, toks := t1 } _ _ E hA S O1 q1 fun b bv σ2 g2 t2 O2 S2 rb q2 => ?_
    exact bin_ok (s := { s with heap := g2, toks := t2 }) O2 q2 ra rb (h.on (S1.trans S2))

theorem SE_una {o : UnaryOp} {x : Ex} (hx : SE prog w base cw k x) : SE prog w base cw k (.una o x) := by
  intro nm sc e' hm A env m own σ s Q Q' E hA S O hW h
  replace hm := mI_una hm
  obtain ⟨_, _, _, rfl, hm⟩ := hm
  rw [We4] at hW
  · simp only [Bool.and_eq_true, beq_iff_eq] at hm
    obtain ⟨⟨rfl, h0⟩, h1⟩ := hm
    refine UnaryOp_ (hx nm sc _ h1 A env m own σ s _ _ E hA S O hW fun a av σ1 g1 t1 O1 S1 ra q1 => ?_)
    exact una_ok (s := { s with heap := g1, toks := t1 }) O1 q1 ra (h.on S1)

theorem lastMark1 {o : CmpOp} (ho : icmpOk o = true) (r : Expr) : behindInMarks o r = false := by
  have h : (o == .In || o == .NotIn) = false := by cases o <;> first | rfl | exact noT ho
  cases r with
  | Set elts k p =>
    show (k == 0 && (o == .In || o == .NotIn) && elts.all (constantsAlone 8)) = false
    rw [h, Bool.and_false, Bool.false_and]
  | _ => rfl

theorem SE_cmp {o : CmpOp} {l r : Ex} (hl : SE prog w base cw k l) (hr : SE prog w base cw k r) : SE prog w base cw k (.cmp o l r) := by
  intro nm sc e' hm A env m own σ s Q Q' E hA S O hW h
  replace hm := mI_cmp hm
  obtain ⟨_, _, _, _, rfl, hm⟩ := hm
  rw [We5] at hW
  · simp only [Bool.and_eq_true, beq_iff_eq] at hm
    obtain ⟨⟨⟨rfl, h0⟩, h1⟩, h2⟩ := hm
    refine wpAny_Compare1 (hl nm sc _ h1 A env m own σ s _ _ E hA S O hW fun a av σ1 g1 t1 O1 S1 ra q1 => ?_) (lastMark1 h0 _)
    refine hr nm sc _ h2 A env m own σ1 { s with heap := g1, toks := t1 } _ _ E hA S O1 q1 fun b bv σ2 g2 t2 O2 S2 rb q2 => ?_
    exact cmp_ok (s := { s with heap := g2, toks := t2 }) O2 hA.cl q2 ra rb fun c qc => h (.bool c) _ σ2 g2 t2 O2 (S1.trans S2) rfl qc
theorem ST_cmp {o : CmpOp} {l r : Ex} (hl : SE prog w base cw k l) (hr : SE prog w base cw k r) : ST prog w base cw k (.cmp o l r) := by
  intro nm sc e' hm A env m own σ s Q Q' E hA S O hW h
  replace hm := mI_cmp hm
  obtain ⟨_, _, _, _, rfl, hm⟩ := hm
  rw [Wt4] at hW
  · simp only [Bool.and_eq_true, beq_iff_eq] at hm
    obtain ⟨⟨⟨rfl, h0⟩, h1⟩, h2⟩ := hm
    refine wpAny_isTrue_Compare1 (hl nm sc _ h1 A env m own σ s _ _ E hA S O hW fun a av σ1 g1 t1 O1 S1 ra q1 => ?_) (lastMark1 h0 _)
    refine hr nm sc _ h2 A env m own σ1 { s with heap := g1, toks := t1 } _ _ E hA S O1 q1 fun b bv σ2 g2 t2 O2 S2 rb q2 => ?_
    exact cmp_ok (s := { s with heap := g2, toks := t2 }) O2 hA.cl q2 ra rb fun c qc => wpAny_truthy_bool (h c σ2 g2 t2 O2 (S1.trans S2) qc)

theorem SE_cmp2 {o p : CmpOp} {l x r : Ex} (hl : SE prog w base cw k l) (hx : SE prog w base cw k x) (hr : SE prog w base cw k r) : SE prog w base cw k (.cmp2 o p l x r) := by
  intro nm sc e' hm A env m own σ s Q Q' E hA S O hW h
  replace hm := mI_cmp2 hm
  obtain ⟨_, _, _, _, _, _, rfl, hm⟩ := hm
  rw [We6] at hW
  · simp only [Bool.and_eq_true, beq_iff_eq] at hm
    obtain ⟨⟨⟨⟨⟨⟨rfl, h0⟩, rfl⟩, h0'⟩, h1⟩, h2⟩, h3⟩ := hm
    refine Compare_chain (hl nm sc _ h1 A env m own σ s _ _ E hA S O hW fun a av σ1 g1 t1 O1 S1 ra q1 => ?_) (lastMark1 h0' _)
    refine chain_link (hx nm sc _ h2 A env m own σ1 { s with heap := g1, toks := t1 } _ _ E hA S O1 q1 fun b bv σ2 g2 t2 O2 S2 rb q2 => ?_)
    refine cmp_ok (s := { s with heap := g2, toks := t2 }) O2 hA.cl q2 ra rb fun c qc => wpAny_truthy_bool ?_
    cases c with
    | true =>
      rw [if_pos rfl]
      refine chain_last (hr nm sc _ h3 A env m own σ2 { s with heap := g2, toks := t2 } _ _ E hA S O2 qc fun d dv σ3 g3 t3 O3 S3 rd q3 => ?_)
      exact cmp_ok (s := { s with heap := g3, toks := t3 }) O3 hA.cl q3 rb rd fun c' qc' => h (.bool c') _ σ3 g3 t3 O3 ((S1.trans S2).trans S3) rfl qc'
    | false =>
      rw [if_neg Bool.false_ne_true]
      exact h (.bool false) _ σ2 g2 t2 O2 (S1.trans S2) rfl qc
theorem ST_cmp2 {o p : CmpOp} {l x r : Ex} (hl : SE prog w base cw k l) (hx : SE prog w base cw k x) (hr : SE prog w base cw k r) : ST prog w base cw k (.cmp2 o p l x r) := by
  intro nm sc e' hm A env m own σ s Q Q' E hA S O hW h
  replace hm := mI_cmp2 hm
  obtain ⟨_, _, _, _, _, _, rfl, hm⟩ := hm
  rw [Wt5] at hW
  · simp only [Bool.and_eq_true, beq_iff_eq] at hm
    obtain ⟨⟨⟨⟨⟨⟨rfl, h0⟩, rfl⟩, h0'⟩, h1⟩, h2⟩, h3⟩ := hm
    refine isTrue_chain (hl nm sc _ h1 A env m own σ s _ _ E hA S O hW fun a av σ1 g1 t1 O1 S1 ra q1 => ?_) (lastMark1 h0' _)
    refine test_link (hx nm sc _ h2 A env m own σ1 { s with heap := g1, toks := t1 } _ _ E hA S O1 q1 fun b bv σ2 g2 t2 O2 S2 rb q2 => ?_)
    refine cmp_ok (s := { s with heap := g2, toks := t2 }) O2 hA.cl q2 ra rb fun c qc => wpAny_truthy_bool ?_
    cases c with
    | true =>
      rw [if_pos rfl]
      refine test_last (hr nm sc _ h3 A env m own σ2 { s with heap := g2, toks := t2 } _ _ E hA S O2 qc fun d dv σ3 g3 t3 O3 S3 rd q3 => ?_)
      exact cmp_ok (s := { s with heap := g3, toks := t3 }) O3 hA.cl q3 rb rd fun c' qc' => wpAny_truthy_bool (h c' σ3 g3 t3 O3 ((S1.trans S2).trans S3) qc')
    | false =>
      rw [if_neg Bool.false_ne_true]
      exact h false σ2 g2 t2 O2 (S1.trans S2) qc

theorem SE_not {x : Ex} (hx : SE prog w base cw k x) : SE prog w base cw k (.not x) := by
  intro nm sc e' hm A env m own σ s Q Q' E hA S O hW h
  replace hm := mI_not hm
  obtain ⟨_, _, rfl, hm⟩ := hm
  rw [We7] at hW
  · refine UnaryOp_ (hx nm sc _ hm A env m own σ s _ _ E hA S O hW fun a av σ1 g1 t1 O1 S1 ra q1 => ?_)
    exact not_of (truth_ok (s := { s with heap := g1, toks := t1 }) q1 ra fun c qc => h (.bool !c) _ σ1 g1 t1 O1 S1 rfl qc)
theorem ST_not {x : Ex} (hx : ST prog w base cw k x) : ST prog w base cw k (.not x) := by
  intro nm sc e' hm A env m own σ s Q Q' E hA S O hW h
  replace hm := mI_not hm
  obtain ⟨_, _, rfl, hm⟩ := hm
  rw [Wt1] at hW
  · exact isTrue_not (hx nm sc _ hm A env m own σ s _ _ E hA S O hW fun b σ1 g1 t1 O1 S1 q1 => h (!b) σ1 g1 t1 O1 S1 q1)

theorem SE_ite {t a b : Ex} (ht : ST prog w base cw k t) (ha : SE prog w base cw k a) (hb : SE prog w base cw k b) : SE prog w base cw k (.ite t a b) := by
  intro nm sc e' hm A env m own σ s Q Q' E hA S O hW h
  replace hm := mI_ite hm
  obtain ⟨_, _, _, _, rfl, hm⟩ := hm
  rw [We10] at hW
  · simp only [Bool.and_eq_true] at hm
    obtain ⟨⟨h1, h2⟩, h3⟩ := hm
    refine IfExp_ (ht nm sc _ h1 A env m own σ s _ _ E hA S O hW fun c σ1 g1 t1 O1 S1 q1 => ?_)
    cases c with
    | true => exact ha nm sc _ h2 A env m own σ1 { s with heap := g1, toks := t1 } _ _ E hA S O1 q1 (h.on S1)
    | false => exact hb nm sc _ h3 A env m own σ1 { s with heap := g1, toks := t1 } _ _ E hA S O1 q1 (h.on S1)

theorem attr_eval {x' : Expr} (hn : noCall x' = true) (n : Str) (pos : Pos) (env : Env) : eval (.Attribute x' n pos) env = (do
    let o ← eval x' env
    standAt pos.atName
    let r ← holding [o] (getAttr o n true)
    letTemporaryGo x' o r
    pure r) := by
  cases x' <;> first | rfl | exact noT hn
theorem attrIs_of {f : Nat} {n : Str} (h : attrIs f n = true) : f < 26 ∧ n = Str.ofString (attrName f) := by
  simp only [attrIs, Bool.and_eq_true, decide_eq_true_eq, beq_iff_eq] at h; exact h
theorem SE_attr (X : Cx K base mg mb) {x : Ex} {f : Nat} (hx : SE prog w base cw k x) : SE prog w base cw k (.attr x f) := by
  intro nm sc e' hm A env m own σ s Q Q' E hA S O hW h
  replace hm := mI_attr hm
  obtain ⟨_, _, _, rfl, hm⟩ := hm
  rw [We11] at hW
  · simp only [Bool.and_eq_true] at hm
    obtain ⟨⟨h1, h2⟩, h3⟩ := hm
    obtain ⟨hf, rfl⟩ := attrIs_of h1
    refine Attribute_any_ (hx nm sc _ h3 A env m own σ s _ _ E hA S O hW fun a av σ1 g1 t1 O1 S1 ra q1 => ?_) (attr_eval h2 _ _ _)
    exact attr_ok (s := { s with heap := g1, toks := t1 }) X O1 hf q1 ra (h.on S1)

theorem sub_eq {i' : Expr} (hn : noSlice i' = true) (o i : Value) : subscripted i' false o i = operate [o, i] (getItem o i) := by
  cases i' <;> first | rfl | exact noT hn
theorem SE_sub {x i : Ex} (hx : SE prog w base cw k x) (hi : SE prog w base cw k i) : SE prog w base cw k (.sub x i) := by
  intro nm sc e' hm A env m own σ s Q Q' E hA S O hW h
  replace hm := mI_sub hm
  obtain ⟨_, _, _, rfl, hm⟩ := hm
  rw [We12] at hW
  · simp only [Bool.and_eq_true] at hm
    obtain ⟨⟨h1, h2⟩, h3⟩ := hm
    refine Subscript_ (hx nm sc _ h2 A env m own σ s _ _ E hA S O hW fun a av σ1 g1 t1 O1 S1 ra q1 => ?_)
    refine hi nm sc _ h3 A env m own σ1 { s with heap := g1, toks := t1 } _ _ E hA S O1 q1 fun b bv σ2 g2 t2 O2 S2 rb q2 => ?_
    obtain ⟨⟨T, id, hT, hl⟩, hg⟩ := sub_ok (prog := prog) (w := w) (A := A) (E := E) (s := { s with heap := g2, toks := t2 }) O2 q2 ra rb (h.on (S1.trans S2))
    exact tail_any hT hl hg (sub_eq h1 _ _)

theorem SE_tail {x i : Ex} (hx : SE prog w base cw k x) (hi : SE prog w base cw k i) : SE prog w base cw k (.tail x i) := by
  intro nm sc e' hm A env m own σ s Q Q' E hA S O hW h
  replace hm := mI_tail hm
  obtain ⟨_, _, _, _, rfl, hm⟩ := hm
  rw [We13] at hW
  · simp only [Bool.and_eq_true] at hm
    obtain ⟨h2, h3⟩ := hm
    refine Subscript_ (hx nm sc _ h2 A env m own σ s _ _ E hA S O hW fun a av σ1 g1 t1 O1 S1 ra q1 => ?_)
    rename_i i' _ _
    show wpAny _ A (do
      let l ← eval i' env
      let u ← holding [l] (pure Value.none)
      let s ← holding [l, u] (pure Value.none)
      newFields "slice" [l, u, s]) _ E _
    refine wpAny_bind (hi nm sc _ h3 A env m own σ1 { s with heap := g1, toks := t1 } _ _ E hA S O1 q1 fun b bv σ2 g2 t2 O2 S2 rb q2 => ?_)
    refine wpAny_bind (wpAny_holding (wpAny_pure (wpAny_bind (wpAny_holding (wpAny_pure ?_)))))
    unfold tailW at q2
    split at q2
    · rename_i a' k'
      obtain ⟨ns, ha, rfl, hlen, q3⟩ := q2
      obtain rfl : av = .ref a' := ra
      obtain ⟨t, rfl⟩ := rb
      obtain ⟨oa, ea, ⟨its, n1, rfl, r1⟩⟩ := O2.good.obj _ _ ha
      have hi1 := VRels.ints_of r1
      have l1 := hi1.length
      rw [Array.length_toList] at l1
      have L : g2.IsList a' its.toList.toArray := ⟨_, ea, rfl, n1, by simp⟩
      refine wpAny_newObj_type ?_ (by show (#[Value.int 1 t, .none, .none] : Array Value).size ≤ sizeLine + 2; rw [sizeLine_eq]; simp)
      have kk : ∀ b o, g2.get? b = some o → (g2.push { cls := .type "slice", data := .fields #[.int 1 t, .none, .none] }).get? b = some o := fun b o e => Heap.get?_push_of_some _ e
      have O3 := O2.ext kk
      have ea3 := kk _ _ ea
      have L3 : (g2.push { cls := .type "slice", data := .fields #[.int 1 t, .none, .none] }).IsList a' its.toList.toArray := ⟨_, ea3, rfl, n1, by simp⟩
      have fin := O3.push (o := .list (zs (ns.drop 1))) (ob := { cls := .type "list", data := .seq (slicePick its.toList.toArray (some 1) none none) }) rfl ⟨_, 0, rfl, VRels.of_ints (slice_ints_fromW hi1 (x := 1) (by decide))⟩
      refine tail_any (ops := [.ref g2.objs.size, .ref a']) (Heap.IsList.typeIs (s := { s with heap := g2.push { cls := .type "slice", data := .fields #[.int 1 t, .none, .none] }, toks := t2 }) L3) list_getitem_lookup (wpAny_getItem_list_slice (s := { s with heap := g2.push { cls := .type "slice", data := .fields #[.int 1 t, .none, .none] }, toks := t2 }) L3 (Heap.IsSliceOf.new _ _ _ _) (IsPart.int 1 t) .none .none (by simp) ?_ (by rw [sizeLine_eq]; simp; omega)) rfl
      exact h (.ref _) _ _ _ _ fin ((S1.trans S2).trans ((Step.ext kk).trans step_push)) rfl (q3 _ O3.free)
    · exact q2.elim
end
end Pf
end

section
set_option autoImplicit false
set_option maxRecDepth 100000
namespace Pf
open PySem PySem.W PyProof.Rows PySem.Calls

section
variable {prog : Program} {w : World} {K : Frag} {base : Heap} {mg mb : Str → Option Value} {cw : CW} {k : Nat}

theorem SB_and {pos : Pos} : ∀ {es : List Ex}, (∀ e ∈ es, SE prog w base cw k e) → ∀ nm sc es', mEs nm sc es es' = true → ∀ A env m own σ s Q Q' E, AE A k → ScOk env sc → Ok env nm m own base σ s.heap → wpB cw true es m Q σ → Bk env nm m own base σ s Q Q' →
    wpAny (model prog w) A (eval (.BoolOp .And es' pos) env) Q' E s
  | [], _, _, _, _, _, _, _, _, _, _, _, _, _, _, _, _, _, hW, _ => by rw [Wb1] at hW; exact hW.elim
  | [e], hE, nm, sc, es', hm, A, env, m, own, σ, s, Q, Q', E, hA, S, O, hW, h => by
    match es', hm with
    | [e'], hm =>
      replace hm := (and_i hm).1
      rw [Wb2] at hW
      exact BoolOp_one (hE e (by simp) nm sc e' hm A env m own σ s Q Q' E hA S O hW h)
    | [], hm => (first | exact noT hm | exact noT (and_i hm).2)
    | _ :: _ :: _, hm => (first | exact noT hm | exact noT (and_i hm).2)
  | e :: f :: r, hE, nm, sc, es', hm, A, env, m, own, σ, s, Q, Q', E, hA, S, O, hW, h => by
    match es', hm with
    | e' :: f' :: r', hm =>
      rw [mEs_cons, Bool.and_eq_true] at hm
      rw [Wb3] at hW
      refine BoolOp_and (hE e (by simp) nm sc e' hm.1 A env m own σ s _ _ E hA S O hW fun v val σ1 g1 t1 O1 S1 rv q1 => ?_)
      refine truth_ok (s := { s with heap := g1, toks := t1 }) q1 rv fun c qc => ?_
      cases c with
      | true =>
        rw [if_pos rfl]
        rw [if_pos rfl] at qc
        exact SB_and (fun x hx => hE x (by simp only [List.mem_cons] at hx ⊢; exact .inr hx)) nm sc (f' :: r') hm.2 A env m own σ1 { s with heap := g1, toks := t1 } Q Q' E hA S O1 qc (h.on S1)
      | false =>
        rw [if_neg Bool.false_ne_true]
        rw [if_neg (by decide)] at qc
        exact h v val σ1 g1 t1 O1 S1 rv qc
    | [], hm => (first | exact noT hm | exact noT (and_i hm).2)
    | [_], hm => (first | exact noT hm | exact noT (and_i hm).2)

theorem SB_or {pos : Pos} : ∀ {es : List Ex}, (∀ e ∈ es, SE prog w base cw k e) → ∀ nm sc es', mEs nm sc es es' = true → ∀ A env m own σ s Q Q' E, AE A k → ScOk env sc → Ok env nm m own base σ s.heap → wpB cw false es m Q σ → Bk env nm m own base σ s Q Q' →
    wpAny (model prog w) A (eval (.BoolOp .Or es' pos) env) Q' E s
  | [], _, _, _, _, _, _, _, _, _, _, _, _, _, _, _, _, _, hW, _ => by rw [Wb1] at hW; exact hW.elim
  | [e], hE, nm, sc, es', hm, A, env, m, own, σ, s, Q, Q', E, hA, S, O, hW, h => by
    match es', hm with
    | [e'], hm =>
      replace hm := (and_i hm).1
      rw [Wb2] at hW
      exact BoolOp_one (hE e (by simp) nm sc e' hm A env m own σ s Q Q' E hA S O hW h)
    | [], hm => (first | exact noT hm | exact noT (and_i hm).2)
    | _ :: _ :: _, hm => (first | exact noT hm | exact noT (and_i hm).2)
  | e :: f :: r, hE, nm, sc, es', hm, A, env, m, own, σ, s, Q, Q', E, hA, S, O, hW, h => by
    match es', hm with
    | e' :: f' :: r', hm =>
      rw [mEs_cons, Bool.and_eq_true] at hm
      rw [Wb3] at hW
      refine BoolOp_or (hE e (by simp) nm sc e' hm.1 A env m own σ s _ _ E hA S O hW fun v val σ1 g1 t1 O1 S1 rv q1 => ?_)
      refine truth_ok (s := { s with heap := g1, toks := t1 }) q1 rv fun c qc => ?_
      cases c with
      | true =>
        rw [if_pos rfl]
        rw [if_neg (by decide)] at qc
        exact h v val σ1 g1 t1 O1 S1 rv qc
      | false =>
        rw [if_neg Bool.false_ne_true]
        rw [if_pos rfl] at qc
        exact SB_or (fun x hx => hE x (by simp only [List.mem_cons] at hx ⊢; exact .inr hx)) nm sc (f' :: r') hm.2 A env m own σ1 { s with heap := g1, toks := t1 } Q Q' E hA S O1 qc (h.on S1)
    | [], hm => (first | exact noT hm | exact noT (and_i hm).2)
    | [_], hm => (first | exact noT hm | exact noT (and_i hm).2)

theorem SE_and {es : List Ex} (hE : ∀ e ∈ es, SE prog w base cw k e) : SE prog w base cw k (.and es) := by
  intro nm sc e' hm A env m own σ s Q Q' E hA S O hW h
  replace hm := mI_and hm
  obtain ⟨_, _, rfl, hm⟩ := hm
  rw [We8] at hW
  · exact SB_and hE nm sc _ hm A env m own σ s Q Q' E hA S O hW h
theorem SE_or {es : List Ex} (hE : ∀ e ∈ es, SE prog w base cw k e) : SE prog w base cw k (.or es) := by
  intro nm sc e' hm A env m own σ s Q Q' E hA S O hW h
  replace hm := mI_or hm
  obtain ⟨_, _, rfl, hm⟩ := hm
  rw [We9] at hW
  · exact SB_or hE nm sc _ hm A env m own σ s Q Q' E hA S O hW h

theorem ST_and_go {pos : Pos} {whole : Sem Value} : ∀ {es : List Ex}, (∀ e ∈ es, ST prog w base cw k e) → ∀ nm sc es', mEs nm sc es es' = true → ∀ A env m own σ s Q Q' E, AE A k → ScOk env sc → Ok env nm m own base σ s.heap → wpTs cw true es m Q σ → BkT env nm m own base σ s Q Q' →
    wpAny (model prog w) A (PySem.isTrue (.BoolOp .And es' pos) env whole) Q' E s
  | [], _, nm, sc, es', hm, A, env, m, own, σ, s, Q, Q', E, hA, S, O, hW, h => by
    match es', hm with
    | [], _ =>
      rw [Wts1] at hW
      exact isTrue_and_nil (h true σ s.heap s.toks O Step.refl hW)
    | _ :: _, hm => (first | exact noT hm | exact noT (and_i hm).2)
  | e :: r, hE, nm, sc, es', hm, A, env, m, own, σ, s, Q, Q', E, hA, S, O, hW, h => by
    match es', hm with
    | e' :: r', hm =>
      rw [mEs_cons, Bool.and_eq_true] at hm
      rw [Wts2] at hW
      refine isTrue_and (hE e (by simp) nm sc e' hm.1 A env m own σ s _ _ E hA S O hW fun b σ1 g1 t1 O1 S1 qc => ?_)
      cases b with
      | true =>
        rw [if_pos rfl]
        rw [if_pos rfl] at qc
        exact ST_and_go (fun x hx => hE x (by simp [hx])) nm sc r' hm.2 A env m own σ1 { s with heap := g1, toks := t1 } Q Q' E hA S O1 qc (h.on S1)
      | false =>
        rw [if_neg Bool.false_ne_true]
        rw [if_neg (by decide)] at qc
        exact h false σ1 g1 t1 O1 S1 qc
    | [], hm => (first | exact noT hm | exact noT (and_i hm).2)
theorem ST_or_go {pos : Pos} {whole : Sem Value} : ∀ {es : List Ex}, (∀ e ∈ es, ST prog w base cw k e) → ∀ nm sc es', mEs nm sc es es' = true → ∀ A env m own σ s Q Q' E, AE A k → ScOk env sc → Ok env nm m own base σ s.heap → wpTs cw false es m Q σ → BkT env nm m own base σ s Q Q' →
    wpAny (model prog w) A (PySem.isTrue (.BoolOp .Or es' pos) env whole) Q' E s
  | [], _, nm, sc, es', hm, A, env, m, own, σ, s, Q, Q', E, hA, S, O, hW, h => by
    match es', hm with
    | [], _ =>
      rw [Wts1] at hW
      exact isTrue_or_nil (h false σ s.heap s.toks O Step.refl hW)
    | _ :: _, hm => (first | exact noT hm | exact noT (and_i hm).2)
  | e :: r, hE, nm, sc, es', hm, A, env, m, own, σ, s, Q, Q', E, hA, S, O, hW, h => by
    match es', hm with
    | e' :: r', hm =>
      rw [mEs_cons, Bool.and_eq_true] at hm
      rw [Wts2] at hW
      refine isTrue_or (hE e (by simp) nm sc e' hm.1 A env m own σ s _ _ E hA S O hW fun b σ1 g1 t1 O1 S1 qc => ?_)
      cases b with
      | true =>
        rw [if_pos rfl]
        rw [if_neg (by decide)] at qc
        exact h true σ1 g1 t1 O1 S1 qc
      | false =>
        rw [if_neg Bool.false_ne_true]
        rw [if_pos rfl] at qc
        exact ST_or_go (fun x hx => hE x (by simp [hx])) nm sc r' hm.2 A env m own σ1 { s with heap := g1, toks := t1 } Q Q' E hA S O1 qc (h.on S1)
    | [], hm => (first | exact noT hm | exact noT (and_i hm).2)
theorem ST_and {es : List Ex} (hE : ∀ e ∈ es, ST prog w base cw k e) : ST prog w base cw k (.and es) := by
  intro nm sc e' hm A env m own σ s Q Q' E hA S O hW h
  replace hm := mI_and hm
  obtain ⟨_, _, rfl, hm⟩ := hm
  rw [Wt2] at hW
  · exact ST_and_go hE nm sc _ hm A env m own σ s Q Q' E hA S O hW h
theorem ST_or {es : List Ex} (hE : ∀ e ∈ es, ST prog w base cw k e) : ST prog w base cw k (.or es) := by
  intro nm sc e' hm A env m own σ s Q Q' E hA S O hW h
  replace hm := mI_or hm
  obtain ⟨_, _, rfl, hm⟩ := hm
  rw [Wt3] at hW
  · exact ST_or_go hE nm sc _ hm A env m own σ s Q Q' E hA S O hW h

/-- what comes behind a row of expressions -/
noncomputable abbrev BkS (env : Env) (nm : List (Option Str)) (m : Loc) (own : List Addr) (base : Heap) (σ : AHeap) (s : Shared) (Q : List AVal → AHeap → Prop) (Q' : List Value → Shared → Prop) : Prop :=
  ∀ v val σ' h' t', Ok env nm m own base σ' h' → Step σ σ' own s.heap h' → VRels base v val → Q v σ' → Q' val { s with heap := h', toks := t' }

theorem SEs_ok {pos : Pos} : ∀ {es : List Ex}, (∀ e ∈ es, SE prog w base cw k e) → ∀ nm sc es', mEs nm sc es es' = true → ∀ A env m own σ s Q Q' E, AE A k → ScOk env sc → Ok env nm m own base σ s.heap → wpEs cw es m Q σ → BkS env nm m own base σ s Q Q' →
    wpAny (model prog w) A (spliced (backTo pos (starEach es' env))) Q' E s
  | [], _, nm, sc, es', hm, A, env, m, own, σ, s, Q, Q', E, hA, S, O, hW, h => by
    match es', hm with
    | [], _ =>
      rw [Wes1] at hW
      exact args_nil (h [] [] σ s.heap s.toks O Step.refl trivial hW)
    | _ :: _, hm => (first | exact noT hm | exact noT (and_i hm).2)
  | e :: r, hE, nm, sc, es', hm, A, env, m, own, σ, s, Q, Q', E, hA, S, O, hW, h => by
    match es', hm with
    | e' :: r', hm =>
      rw [mEs_cons, Bool.and_eq_true] at hm
      rw [Wes2] at hW
      refine args_cons (hE e (by simp) nm sc e' hm.1 A env m own σ s _ _ E hA S O hW fun v val σ1 g1 t1 O1 S1 rv q1 => ?_) (star_cons hm.1 _ _)
      exact SEs_ok (fun x hx => hE x (by simp [hx])) nm sc r' hm.2 A env m own σ1 { s with heap := g1, toks := t1 } _ _ E hA S O1 q1 fun vs vals σ2 g2 t2 O2 S2 rvs q2 => h (v :: vs) (val :: vals) σ2 g2 t2 O2 (S1.trans S2) ⟨rv, rvs⟩ q2
    | [], hm => (first | exact noT hm | exact noT (and_i hm).2)

theorem SE_list {es : List Ex} (hE : ∀ e ∈ es, SE prog w base cw k e) : SE prog w base cw k (.list es) := by
  intro nm sc e' hm A env m own σ s Q Q' E hA S O hW h
  replace hm := mI_list hm
  obtain ⟨_, _, rfl, hm⟩ := hm
  rw [We22] at hW
  · exact List_ (SEs_ok hE nm sc _ hm A env m own σ s _ _ E hA S O hW fun vs vals σ1 g1 t1 O1 S1 r q => list_ok (s := { s with heap := g1, toks := t1 }) O1 r q.1 q.2 (h.on S1))
theorem SE_tup {es : List Ex} (hE : ∀ e ∈ es, SE prog w base cw k e) : SE prog w base cw k (.tup es) := by
  intro nm sc e' hm A env m own σ s Q Q' E hA S O hW h
  replace hm := mI_tup hm
  obtain ⟨_, _, _, rfl, hm⟩ := hm
  rw [We23] at hW
  · exact Tuple_ (SEs_ok hE nm sc _ hm A env m own σ s _ _ E hA S O hW fun vs vals σ1 g1 t1 O1 S1 r q => tup_ok (s := { s with heap := g1, toks := t1 }) O1 r q.1 q.2 (h.on S1))

theorem call_eq {func : Expr} {args : List Expr} {pos : Pos} {env : Env} (x : Str) (p : Pos) (h : func = .Name x p) : eval (.Call func args [] pos) env = (do
        let __do_lift ← eval func env
        callWith pos __do_lift [] (backTo pos (starEach args env)) (backToKw pos (keywordEach [] env))) := by
  subst h; rfl

/-- a call by name of an object that the fragment keeps -/
theorem call_kept {x : Str} {xp pos : Pos} {f : Value} {as : List Ex} {as' : List Expr} {nm : List (Option Str)} {sc : Scope} (X : Cx K base mg mb) (hE : ∀ e ∈ as, SE prog w base cw k e) (hm : mEs nm sc as as' = true)
    {A : Around} {env : Env} {m : Loc} {own : List Addr} {σ : AHeap} {s : Shared} {Q : List AVal → AHeap → Prop} {Q' E : Value → Shared → Prop} (hA : AE A k) (S : ScOk env sc) (O : Ok env nm m own base σ s.heap)
    (hg : isGlob (sc.names.lookup x) = true) (hd : dbg x = false) (hx : mg x = some f) (hk : keepIn K f = true) (hW : wpEs cw as m Q σ)
    (h : BkS env nm m own base σ s Q fun vs s1 => wpAny (model prog w) A (call f vs) Q' E s1) : wpAny (model prog w) A (eval (.Call (.Name x xp) as' [] pos) env) Q' E s := by
  refine Call_ (ld_glob X O S hg hd hx ?_)
  match as, as', hm with
  | [], [], _ =>
    rw [Wes1] at hW
    exact callWith_K0 (k_in X O) hk (h [] [] σ s.heap s.toks O Step.refl trivial hW)
  | e :: r, e' :: r', hm =>
    have hm' := hm
    rw [mEs_cons, Bool.and_eq_true] at hm'
    refine callWith_K (k_in X O) hk (SEs_ok hE nm sc _ hm A env m own σ s _ _ E hA S O hW fun vs vals σ1 g1 t1 O1 S1 r q => ⟨k_in X (s := { s with heap := g1, toks := t1 }) O1, ?_⟩) (star_cons hm'.1 _ _) (plain_args hm'.2)
    exact h vs vals σ1 g1 t1 O1 S1 r q
  | [], _ :: _, hm => (first | exact noT hm | exact noT (and_i hm).2)
  | _ :: _, [], hm => (first | exact noT hm | exact noT (and_i hm).2)

theorem SE_call (X : Cx K base mg mb) (hC : CallOk prog w base cw k) {f : Nat} {as : List Ex} (hE : ∀ e ∈ as, SE prog w base cw k e) : SE prog w base cw k (.call f as) := by
  intro nm sc e' hm A env m own σ s Q Q' E hA S O hW h
  replace hm := mI_call hm
  obtain ⟨_, _, _, _, rfl, hm⟩ := hm
  rw [We14] at hW
  · simp only [Bool.and_eq_true, Bool.not_eq_true', beq_iff_eq, decide_eq_true_eq, bne_iff_ne, ne_eq] at hm
    obtain ⟨⟨⟨⟨rfl, ⟨⟨⟨f1, f2⟩, f3⟩, f4⟩⟩, hg⟩, hd⟩, hm⟩ := hm
    refine call_kept X hE hm hA S O hg hd (X.fn f f1 f2 f3 f4) (X.keepf f f1 f2 f3 f4) hW fun vs vals σ1 g1 t1 O1 S1 r q => ?_
    exact call_fn (s := { s with heap := g1, toks := t1 }) X hC hA O1 q r (h.on S1)
theorem SE_new (X : Cx K base mg mb) (hC : CallOk prog w base cw k) {c f : Nat} {as : List Ex} (hE : ∀ e ∈ as, SE prog w base cw k e) : SE prog w base cw k (.new c f as) := by
  intro nm sc e' hm A env m own σ s Q Q' E hA S O hW h
  replace hm := mI_new hm
  obtain ⟨_, _, _, _, rfl, hm⟩ := hm
  rw [We15] at hW
  · simp only [Bool.and_eq_true, Bool.not_eq_true'] at hm
    obtain ⟨⟨⟨hc, hg⟩, hd⟩, hm⟩ := hm
    rename_i x _ _ _
    have hx : clsTab.lookup x = some (c, f) := by
      unfold clsIs at hc
      split at hc
      · rename_i c' f' e
        simp only [Bool.and_eq_true, beq_iff_eq] at hc
        obtain ⟨rfl, rfl⟩ := hc
        exact e
      · cases hc
    refine call_kept X hE hm hA S O hg hd (X.cls x c f hx) (X.keepc x c f hx) hW fun vs vals σ1 g1 t1 O1 S1 r q => ?_
    exact call_new (s := { s with heap := g1, toks := t1 }) X hC hA O1 hx q r (h.on S1)
end
end Pf
end

section
set_option autoImplicit false
set_option maxRecDepth 100000
namespace Pf
open PySem PySem.W PyProof.Rows PySem.Calls

section
variable {prog : Program} {w : World} {K : Frag} {base : Heap} {mg mb : Str → Option Value} {cw : CW} {k : Nat}

theorem mklist_ok {A : Around} {E : Value → Shared → Prop} {s : Shared} {env : Env} {nm : List (Option Str)} {m : Loc} {own : List Addr} {σ : AHeap} {Q : AVal → AHeap → Prop} {Q' : Value → Shared → Prop} {x : AVal} {a : Value}
    (O : Ok env nm m own base σ s.heap) (hh : A.handled = none) (hW : mklistW x Q σ) (rx : VRel base x a) (h : Bk env nm m own base σ s Q Q') : wpAny (model prog w) A (call (.type "list") [a]) Q' E s := by
  unfold mklistW at hW
  split at hW
  · rename_i a'
    obtain rfl : a = .ref a' := rx
    split at hW
    · rename_i lo hi st ha
      obtain ⟨oa, ea, r⟩ := O.good.obj _ _ ha
      obtain ⟨⟨h1, h2, h3⟩, t, u, v, rfl⟩ := r
      have e := range_size (lo := lo) (hi := hi) h3
      have sm := range_small h1 h2 h3
      refine call_list_range (n := rangeN lo hi st) hh ea sm e (by unfold Pf.small at h1 h2; (clear e; omega)) fun h' tk acc c' hk e' hacc => ?_
      have r : VRels base (zs (rangeL lo hi st)) acc.toList := by
        refine VRels.of_ints ?_
        have get : ∀ (i : Nat), i < rangeN lo hi st → ∃ t, acc.toList[i]? = some (.int (lo + (i : Int) * st) t) := by
          intro i hi'
          have lt : i < acc.size := by rw [hacc.1]; exact hi'
          obtain ⟨t, ht⟩ := hacc.2 i acc[i] (Array.getElem?_eq_getElem lt)
          exact ⟨t, by rw [Array.getElem?_toList, Array.getElem?_eq_getElem lt, ht]⟩
        have gen : ∀ (n : Nat) (vs : List Value) (f : Nat → Int), vs.length = n → (∀ i, i < n → ∃ t, vs[i]? = some (.int (f i) t)) → IntsAre vs ((List.range n).map f) := by
          intro n
          induction n with
          | zero => intro vs f hl _; rw [List.length_eq_zero_iff] at hl; subst hl; exact .nil
          | succ n ih =>
            intro vs f hl hg
            match vs, hl with
            | v :: r, hl =>
              obtain ⟨t, ht⟩ := hg 0 (Nat.succ_pos _)
              cases ht
              rw [List.range_succ_eq_map, List.map_cons, List.map_map]
              exact .cons _ _ (ih r (f ∘ Nat.succ) (by simpa using hl) fun i hi => by
                obtain ⟨t, ht⟩ := hg (i + 1) (by (clear e hW hl; omega))
                exact ⟨t, by simpa using ht⟩)
        exact gen _ _ _ (by rw [Array.length_toList, hacc.1]) get
      have fr : s.heap.get? s.heap.objs.size = none := get_size _
      exact h (.ref s.heap.objs.size) _ _ _ _ (O.new (o := .list (zs (rangeL lo hi st))) hk fr e' ⟨acc, c', rfl, r⟩) (Step.new hk fr) rfl (hW.2 _ (O.good.dom fr))
    · exact hW.elim
  · exact hW.elim

/-- a call of a built-in by its name, one argument -/
theorem blt_call {id : String} {x : Str} {xp pos : Pos} {a : Ex} {a' : Expr} {nm : List (Option Str)} {sc : Scope} (X : Cx K base mg mb) (hE : SE prog w base cw k a) (hm : mE nm sc a a' = true)
    {A : Around} {env : Env} {m : Loc} {own : List Addr} {σ : AHeap} {s : Shared} {Q : AVal → AHeap → Prop} {Q' E : Value → Shared → Prop} (hA : AE A k) (S : ScOk env sc) (O : Ok env nm m own base σ s.heap)
    (hg : isGlob (sc.names.lookup x) = true) (hd : dbg x = false) (hx : x ∈ (["len", "sum", "sorted", "range", "list"] : List Str)) (hb : bootBuiltins x = some (.builtin id)) (hn : x ≠ ("__name__" : Str)) (hW : wpE cw a m Q σ)
    (h : Bk env nm m own base σ s Q fun v s1 => wpAny (model prog w) A (call (.builtin id) [v]) Q' E s1) : wpAny (model prog w) A (eval (.Call (.Name x xp) [a'] [] pos) env) Q' E s := by
  refine Call_ (ld_blt X O S hg hd hx hb hn ?_)
  refine PyProof.Rows.callWith_builtin1 (args_cons (hE nm sc a' hm A env m own σ s _ _ E hA S O hW fun v val σ1 g1 t1 O1 S1 r q => ?_) (star_cons hm _ _)) (star_cons hm _ _) rfl
  exact args_nil (h v val σ1 g1 t1 O1 S1 r q)
theorem type_call {id : String} {x : Str} {xp pos : Pos} {as : List Ex} {as' : List Expr} {nm : List (Option Str)} {sc : Scope} (X : Cx K base mg mb) (hE : ∀ e ∈ as, SE prog w base cw k e) (hm : mEs nm sc as as' = true) (hne : as ≠ [])
    {A : Around} {env : Env} {m : Loc} {own : List Addr} {σ : AHeap} {s : Shared} {Q : List AVal → AHeap → Prop} {Q' E : Value → Shared → Prop} (hA : AE A k) (S : ScOk env sc) (O : Ok env nm m own base σ s.heap)
    (hg : isGlob (sc.names.lookup x) = true) (hd : dbg x = false) (hx : x ∈ (["len", "sum", "sorted", "range", "list"] : List Str)) (hb : bootBuiltins x = some (.type id)) (hn : x ≠ ("__name__" : Str)) (hW : wpEs cw as m Q σ)
    (h : BkS env nm m own base σ s Q fun v s1 => wpAny (model prog w) A (call (.type id) v) Q' E s1) : wpAny (model prog w) A (eval (.Call (.Name x xp) as' [] pos) env) Q' E s := by
  refine Call_ (ld_blt X O S hg hd hx hb hn ?_)
  match as, as', hm with
  | [], _, _ => exact absurd rfl hne
  | e :: r, e' :: r', hm =>
    have hm' := hm
    rw [mEs_cons, Bool.and_eq_true] at hm'
    exact PyProof.Rows.callWith_type1 (SEs_ok hE nm sc _ hm A env m own σ s _ _ E hA S O hW h) (star_cons hm'.1 _ _) (plain_args hm'.2)
  | _ :: _, [], hm => (first | exact noT hm | exact noT (and_i hm).2)

theorem SE_len (X : Cx K base mg mb) {a : Ex} (ha : SE prog w base cw k a) : SE prog w base cw k (.len a) := by
  intro nm sc e' hm A env m own σ s Q Q' E hA S O hW h
  replace hm := mI_len hm
  obtain ⟨_, _, _, _, rfl, hm⟩ := hm
  rw [We16] at hW
  · simp only [Bool.and_eq_true, beq_iff_eq] at hm
    obtain ⟨⟨rfl, hg⟩, hm⟩ := hm
    exact blt_call (id := "len") X ha hm hA S O hg (by decide +kernel) (by simp) (by decide +kernel) (by decide +kernel) hW fun v val σ1 g1 t1 O1 S1 r q => len_ok (s := { s with heap := g1, toks := t1 }) O1 q r (h.on S1)
theorem SE_sum (X : Cx K base mg mb) {a : Ex} (ha : SE prog w base cw k a) : SE prog w base cw k (.sum a) := by
  intro nm sc e' hm A env m own σ s Q Q' E hA S O hW h
  replace hm := mI_sum hm
  obtain ⟨_, _, _, _, rfl, hm⟩ := hm
  rw [We17] at hW
  · simp only [Bool.and_eq_true, beq_iff_eq] at hm
    obtain ⟨⟨rfl, hg⟩, hm⟩ := hm
    exact blt_call (id := "sum") X ha hm hA S O hg (by decide +kernel) (by simp) (by decide +kernel) (by decide +kernel) hW fun v val σ1 g1 t1 O1 S1 r q => sum_ok (s := { s with heap := g1, toks := t1 }) O1 hA.1 q r (h.on S1)
theorem SE_sorted (X : Cx K base mg mb) {a : Ex} (ha : SE prog w base cw k a) : SE prog w base cw k (.sorted a) := by
  intro nm sc e' hm A env m own σ s Q Q' E hA S O hW h
  replace hm := mI_sorted hm
  obtain ⟨_, _, _, _, rfl, hm⟩ := hm
  rw [We18] at hW
  · simp only [Bool.and_eq_true, beq_iff_eq] at hm
    obtain ⟨⟨rfl, hg⟩, hm⟩ := hm
    exact blt_call (id := "sorted") X ha hm hA S O hg (by decide +kernel) (by simp) (by decide +kernel) (by decide +kernel) hW fun v val σ1 g1 t1 O1 S1 r q => sorted_ok (s := { s with heap := g1, toks := t1 }) O1 q r (h.on S1)
theorem SE_range (X : Cx K base mg mb) {as : List Ex} (ha : ∀ e ∈ as, SE prog w base cw k e) : SE prog w base cw k (.range as) := by
  intro nm sc e' hm A env m own σ s Q Q' E hA S O hW h
  replace hm := mI_range hm
  obtain ⟨_, _, _, _, rfl, hm⟩ := hm
  rw [We19] at hW
  · simp only [Bool.and_eq_true, beq_iff_eq] at hm
    obtain ⟨⟨rfl, hg⟩, hm⟩ := hm
    refine type_call (id := "range") X ha hm (fun z => ?_) hA S O hg (by decide +kernel) (by simp) (by decide +kernel) (by decide +kernel) hW fun v val σ1 g1 t1 O1 S1 r q => range_ok (s := { s with heap := g1, toks := t1 }) O1 q r (h.on S1)
    subst z
    rw [Wes1] at hW
    rcases hW with ⟨_, e, _⟩ | ⟨_, _, _, e, _⟩ <;> cases e
theorem SE_mklist (X : Cx K base mg mb) {a : Ex} (ha : SE prog w base cw k a) : SE prog w base cw k (.mklist a) := by
  intro nm sc e' hm A env m own σ s Q Q' E hA S O hW h
  replace hm := mI_mklist hm
  obtain ⟨_, _, _, _, rfl, hm⟩ := hm
  rw [We20] at hW
  · simp only [Bool.and_eq_true, beq_iff_eq] at hm
    obtain ⟨⟨rfl, hg⟩, hm⟩ := hm
    refine Call_ (ld_blt X O S hg (by decide +kernel) (by simp) (show bootBuiltins "list" = some (.type "list") by decide +kernel) (by decide +kernel) ?_)
    refine PyProof.Rows.callWith_type1 (args_cons (ha nm sc _ hm A env m own σ s _ _ E hA S O hW fun v val σ1 g1 t1 O1 S1 r q => ?_) (star_cons hm _ _)) (star_cons hm _ _) rfl
    exact args_nil (mklist_ok (s := { s with heap := g1, toks := t1 }) O1 hA.1 q r (h.on S1))

theorem app_base {o' : Expr} (hn : noCall o' = true) (n : Str) (env : Env) (t : Sem Value) : attributeBase o' n env t = t := by
  cases o' <;> first | rfl | exact noT hn
theorem SE_app {o a : Ex} (ho : SE prog w base cw k o) (ha : SE prog w base cw k a) : SE prog w base cw k (.app o a) := by
  intro nm sc e' hm A env m own σ s Q Q' E hA S O hW h
  replace hm := mI_app hm
  obtain ⟨_, _, _, _, _, rfl, hm⟩ := hm
  rw [We21] at hW
  · simp only [Bool.and_eq_true, beq_iff_eq] at hm
    obtain ⟨⟨⟨⟨rfl, hp⟩, hn⟩, h1⟩, h2⟩ := hm
    refine wpAny_Call_append (app_base hn _ _ _) ?_ (by simpa using hp) ?_ (ho nm sc _ h1 A env m own σ s _ _ E hA S O hW fun v val σ1 g1 t1 O1 S1 r q => ?_)
    · rw [star_cons h2]; rfl
    · rw [star_cons h2]; rfl
    · obtain ⟨hl, q⟩ := q
      unfold isList at hl
      split at hl
      · rename_i D
        split at hl
        · rename_i xs hD
          obtain ⟨oD, eD, ⟨its, n1, rfl, r1⟩⟩ := O1.good.obj _ _ hD
          refine ⟨D, its, r, ⟨_, n1, eD, rfl, rfl, rfl⟩, ?_⟩
          obtain rfl : val = .ref D := r
          refine ha nm sc _ h2 A env m own σ1 { s with heap := g1, toks := t1 } _ _ E hA S O1 q fun v2 val2 σ2 g2 t2 O2 S2 r2 q2 => ?_
          exact app_ok (s := { s with heap := g2, toks := t2 }) O2 q2 rfl r2 (h.on (S1.trans S2))
        · exact hl.elim
      · exact hl.elim

theorem SE_comp {elt it : Ex} {x : Nat} {ifs : List Ex} (hIt : SE prog w base cw k it) (hE : SE prog w base cw k elt) (hT : ∀ e ∈ ifs, ST prog w base cw k e) : SE prog w base cw k (.comp elt x it ifs) := by
  intro nm sc e' hm A env m own σ s Q Q' E hA S O hW h
  replace hm := mI_comp hm
  obtain ⟨_, _, _, _, _, _, _, rfl, hm⟩ := hm
  · simp only [Bool.and_eq_true, decide_eq_true_eq] at hm
    obtain ⟨⟨⟨⟨hc, hl⟩, h1⟩, h2⟩, h3⟩ := hm
    rw [eval_ListComp]
    refine comp_core (use := none) hIt hE hT hc hl h1 h2 h3 hA S O hW fun D σ' h' t' C O' S' q p hN hC => ?_
    obtain ⟨mC, hN⟩ := hN
    refine ⟨mC, hN, fun h'' hs => ?_⟩
    have kk : ∀ b ob, b ≠ C → h'.get? b = some ob → h''.get? b = some ob := fun b ob hb e => (hs.2 b hb).trans e
    refine h (.ref D) _ σ' h'' t' (O'.priv p kk) ?_ rfl q
    refine ⟨fun b ob e hs' ho => kk b ob (fun z => by rw [z, hC] at e; cases e) (S'.keep b ob e hs' ho), S'.fresh, fun b ob e => ?_⟩
    obtain ⟨ob', e'⟩ := S'.grow b ob e
    exact ⟨ob', kk b ob' (fun z => by rw [z, hC] at e; cases e) e'⟩

/-- a test that is a plain value -/
theorem ST_plain {e : Ex} (hE : SE prog w base cw k e) (hp : ∀ {nm : List (Option Str)} {sc : Scope} {e' : Expr} {env : Env}, mE nm sc e e' = true → PySem.isTrue e' env (eval e' env) = (do
          let v ← eval e' env
          standAt (Expr.pos e')
          holding [v] (truthy v)))
    (hw : ∀ m Q σ, wpT cw e m Q σ → wpE cw e m (fun v σ1 => truthW v fun b => Q b σ1) σ) : ST prog w base cw k e := by
  intro nm sc e' hm A env m own σ s Q Q' E hA S O hW h
  refine isTrue_plain (hE nm sc e' hm A env m own σ s _ _ E hA S O (hw _ _ _ hW) fun v val σ1 g1 t1 O1 S1 r q => ?_) (hp hm)
  exact truth_ok (s := { s with heap := g1, toks := t1 }) q r fun c qc => h c σ1 g1 t1 O1 S1 qc
theorem ST_lit (X : Cx K base mg mb) (v : AVal) : ST prog w base cw k (.lit v) := ST_plain (SE_lit X v) (fun {nm sc e' env} hm => by rcases mI_lit hm with ⟨_, _, _, rfl, _⟩ | ⟨_, _, rfl, _⟩ <;> rfl) fun m Q σ h => by rw [Wt7] at h; rw [We1]; exact h
theorem ST_var (i : Nat) : ST prog w base cw k (.var i) := ST_plain (SE_var i) (fun {nm sc e' env} hm => by obtain ⟨_, _, rfl, _⟩ := mI_var hm; rfl) fun m Q σ h => by rw [Wt8] at h; rw [We2]; exact h
theorem ST_bin {o : Operator} {l r : Ex} (hE : SE prog w base cw k (.bin o l r)) : ST prog w base cw k (.bin o l r) := ST_plain hE (fun {nm sc e' env} hm => by obtain ⟨_, _, _, _, rfl, _⟩ := mI_bin hm; rfl) fun m Q σ h => by rw [Wt9] at h; rw [We3]; exact h
theorem ST_una {o : UnaryOp} {x : Ex} (hE : SE prog w base cw k (.una o x)) : ST prog w base cw k (.una o x) := ST_plain hE (fun {nm sc e' env} hm => by
  replace hm := mI_una hm
  obtain ⟨o', _, _, rfl, hm⟩ := hm
  simp only [Bool.and_eq_true] at hm
  cases o' <;> first | rfl | (exfalso; obtain ⟨⟨h1, h2⟩, _⟩ := hm; have : o = .Not := by simpa using h1
                              subst this; exact absurd h2 (by decide))) fun m Q σ h => by rw [Wt10] at h; rw [We4]; exact h
theorem ST_attr {x : Ex} {f : Nat} (hE : SE prog w base cw k (.attr x f)) : ST prog w base cw k (.attr x f) := ST_plain hE (fun {nm sc e' env} hm => by obtain ⟨_, _, _, rfl, _⟩ := mI_attr hm; rfl) fun m Q σ h => by rw [Wt11] at h; rw [We11]; exact h
theorem ST_call {f : Nat} {as : List Ex} (hE : SE prog w base cw k (.call f as)) : ST prog w base cw k (.call f as) := ST_plain hE (fun {nm sc e' env} hm => by obtain ⟨_, _, _, _, rfl, _⟩ := mI_call hm; rfl) fun m Q σ h => by rw [Wt12] at h; rw [We14]; exact h
theorem ST_no {e : Ex} (h : ∀ m Q σ, wpT cw e m Q σ → False) : ST prog w base cw k e := by
  intro nm sc e' hm A env m own σ s Q Q' E hA S O hW _
  exact (h _ _ _ hW).elim

mutual
theorem sndE (X : Cx K base mg mb) (hC : CallOk prog w base cw k) : ∀ e : Ex, SE prog w base cw k e ∧ ST prog w base cw k e
  | .lit v => ⟨SE_lit X v, ST_lit X v⟩
  | .var i => ⟨SE_var i, ST_var i⟩
  | .bin o l r => have h := SE_bin (o := o) (sndE X hC l).1 (sndE X hC r).1; ⟨h, ST_bin h⟩
  | .una o x => have h := SE_una (o := o) (sndE X hC x).1; ⟨h, ST_una h⟩
  | .cmp o l r => ⟨SE_cmp (sndE X hC l).1 (sndE X hC r).1, ST_cmp (sndE X hC l).1 (sndE X hC r).1⟩
  | .cmp2 o p l x r => ⟨SE_cmp2 (sndE X hC l).1 (sndE X hC x).1 (sndE X hC r).1, ST_cmp2 (sndE X hC l).1 (sndE X hC x).1 (sndE X hC r).1⟩
  | .not x => ⟨SE_not (sndE X hC x).1, ST_not (sndE X hC x).2⟩
  | .and es => ⟨SE_and fun e he => (sndEs X hC es e he).1, ST_and fun e he => (sndEs X hC es e he).2⟩
  | .or es => ⟨SE_or fun e he => (sndEs X hC es e he).1, ST_or fun e he => (sndEs X hC es e he).2⟩
  | .ite t a b => ⟨SE_ite (sndE X hC t).2 (sndE X hC a).1 (sndE X hC b).1, ST_no fun m Q σ h => h⟩
  | .attr x f => have h := SE_attr (f := f) X (sndE X hC x).1; ⟨h, ST_attr h⟩
  | .sub x i => ⟨SE_sub (sndE X hC x).1 (sndE X hC i).1, ST_no fun m Q σ h => h⟩
  | .tail x i => ⟨SE_tail (sndE X hC x).1 (sndE X hC i).1, ST_no fun m Q σ h => h⟩
  | .call f as => have h := SE_call (f := f) X hC fun e he => (sndEs X hC as e he).1; ⟨h, ST_call h⟩
  | .new c f as => ⟨SE_new X hC fun e he => (sndEs X hC as e he).1, ST_no fun m Q σ h => h⟩
  | .len e => ⟨SE_len X (sndE X hC e).1, ST_no fun m Q σ h => h⟩
  | .sum e => ⟨SE_sum X (sndE X hC e).1, ST_no fun m Q σ h => h⟩
  | .sorted e => ⟨SE_sorted X (sndE X hC e).1, ST_no fun m Q σ h => h⟩
  | .range as => ⟨SE_range X fun e he => (sndEs X hC as e he).1, ST_no fun m Q σ h => h⟩
  | .mklist e => ⟨SE_mklist X (sndE X hC e).1, ST_no fun m Q σ h => h⟩
  | .app o e => ⟨SE_app (sndE X hC o).1 (sndE X hC e).1, ST_no fun m Q σ h => h⟩
  | .list es => ⟨SE_list fun e he => (sndEs X hC es e he).1, ST_no fun m Q σ h => h⟩
  | .tup es => ⟨SE_tup fun e he => (sndEs X hC es e he).1, ST_no fun m Q σ h => h⟩
  | .comp elt x it ifs => ⟨SE_comp (sndE X hC it).1 (sndE X hC elt).1 fun e he => (sndEs X hC ifs e he).2, ST_no fun m Q σ h => h⟩
theorem sndEs (X : Cx K base mg mb) (hC : CallOk prog w base cw k) : ∀ es : List Ex, ∀ e ∈ es, SE prog w base cw k e ∧ ST prog w base cw k e
  | [], _, h => nomatch h
  | x :: r, e, h => (List.mem_cons.mp h).elim (fun q => q ▸ sndE X hC x) (fun q => sndEs X hC r e q)
end
end
end Pf
end

section
set_option autoImplicit false
set_option maxRecDepth 100000
namespace Pf
open PySem PySem.W PyProof.Rows PySem.Calls

noncomputable def FRel (base : Heap) : AFlow → Flow → Prop
  | .next, f => f = .next
  | .cont, f => f = .cont
  | .ret v, f => ∃ val, f = .ret val ∧ VRel base v val
/-- what comes behind a statement -/
noncomputable abbrev BkF (env : Env) (nm : List (Option Str)) (own : List Addr) (base : Heap) (σ : AHeap) (s : Shared) (Q : AFlow → Loc → AHeap → Prop) (Q' : Flow → Shared → Prop) : Prop :=
  ∀ f fl m' σ' h' t', Ok env nm m' own base σ' h' → Step σ σ' own s.heap h' → FRel base f fl → Q f m' σ' → Q' fl { s with heap := h', toks := t' }
theorem BkF.on {env : Env} {nm : List (Option Str)} {own : List Addr} {base : Heap} {σ σ1 : AHeap} {s : Shared} {h1 : Heap} {t1 : Nat} {Q : AFlow → Loc → AHeap → Prop} {Q' : Flow → Shared → Prop} (x : BkF env nm own base σ s Q Q') (S : Step σ σ1 own s.heap h1) :
    BkF env nm own base σ1 { s with heap := h1, toks := t1 } Q Q' := fun f fl m' σ' h' t' O' S' r q => x f fl m' σ' h' t' O' (S.trans S') r q

section
variable (prog : Program) (w : World) (base : Heap) (cw : CW) (k : Nat)
noncomputable def SS (st : St) : Prop := ∀ nm sc s', mS nm sc st s' = true → ∀ A env m own σ s Q Q' E, AE A k → ScOk env sc → StOk env nm own → Ok env nm m own base σ s.heap → wpS cw st m Q σ → BkF env nm own base σ s Q Q' →
  wpAny (model prog w) A (exec s' env) Q' E s
noncomputable def SSs (st : List St) : Prop := ∀ nm sc s', mSs nm sc st s' = true → ∀ A env m own σ s Q Q' E, AE A k → ScOk env sc → StOk env nm own → Ok env nm m own base σ s.heap → wpSs cw st m Q σ → BkF env nm own base σ s Q Q' →
  wpAny (model prog w) A (execs s' env) Q' E s
end

section
variable {prog : Program} {w : World} {K : Frag} {base : Heap} {mg mb : Str → Option Value} {cw : CW} {k : Nat}

theorem mVar_of {nm : List (Option Str)} {sc : Scope} {i : Nat} {e : Expr} (h : mVar nm sc i e = true) : ∃ x p, e = .Name x p ∧ nm[i]? = some (some x) ∧ isSto (sc.names.lookup x) = true ∧ dbg x = false := by
  replace h := onName_i h
  obtain ⟨_, _, rfl, h⟩ := h
  simp only [Bool.and_eq_true, Bool.not_eq_true', beq_iff_eq] at h
  exact ⟨_, _, rfl, h.1.1, h.1.2, h.2⟩
theorem isVar_of {x : Option NameKind} (h : isSto x = true) : isVar x = true := by
  simp only [isSto, isVar, Bool.or_eq_true] at h ⊢; exact .inl h
theorem swaps_no {e : Expr} (h : noComp e = true) (t : Option Expr) (l : Nat) (env : Env) : swapsWith e t l env = pure false := by
  cases e <;> first | rfl | exact noT h
theorem notComp {nm : List (Option Str)} {sc : Scope} {e : Ex} {e' : Expr} (h : mE nm sc e e' = true) : (∃ a b c d, e' = .ListComp a b c d) ∨ ∀ t l env, swapsWith e' t l env = pure false := by
  cases e' with
  | ListComp a b c d => exact .inl ⟨a, b, c, d, rfl⟩
  | SetComp => cases e <;> exact noT h
  | DictComp => cases e <;> exact noT h
  | _ => exact .inr fun _ _ _ => rfl
theorem quiet {env : Env} (h : env.scope.kind = .function) : interactive env = false := by unfold interactive; rw [h]; rfl

theorem SS_asg {i : Nat} {e : Ex} (hE : SE prog w base cw k e) (hparts : ∀ elt x it ifs, e = .comp elt x it ifs → SE prog w base cw k it ∧ SE prog w base cw k elt ∧ ∀ e ∈ ifs, ST prog w base cw k e) : SS prog w base cw k (.asg i e) := by
  intro nm sc s' hm A env m own σ s Q Q' E hA S hS O hW h
  replace hm := sI_asg hm
  obtain ⟨_, _, _, rfl, hm⟩ := hm
  rw [Ws1] at hW
  · rename_i x v pos
    simp only [Bool.and_eq_true] at hm
    obtain ⟨hv, hm⟩ := hm
    obtain ⟨x, p, rfl, h1, h2, h3⟩ := mVar_of hv
    have plain : swapsWith v (some (.Name x p)) pos.line env = pure false → wpAny (model prog w) A (exec (.Assign [.Name x p] v pos) env) Q' E s := fun hs =>
      wpAny_Assign_Name (hE nm sc v hm A env m own σ s _ _ E hA S O hW fun a av σ1 g1 t1 O1 S1 r q =>
        st_var (s := { s with heap := g1, toks := t1 }) O1 S (fun c hk hl => hS i x c h1 hk hl) h1 h2 r fun h' t' O' S' => h .next .next _ σ1 h' t' O' (S1.trans S') rfl q) hs
    rcases notComp hm with ⟨elt', gens, sc', cpos, rfl⟩ | hno
    · have hsw : swapsWith (.ListComp elt' gens sc' cpos) (some (.Name x p)) pos.line env = pure (env.blockKind == ScopeKind.function && env.kindOf x == some NameKind.local && p.line == cpos.line &&
          !sc'.names.any fun (n, k) => n == x && (k == NameKind.local || k == NameKind.cell)) := rfl
      generalize (env.blockKind == ScopeKind.function && env.kindOf x == some NameKind.local && p.line == cpos.line &&
          !sc'.names.any fun (n, k) => n == x && (k == NameKind.local || k == NameKind.cell)) = b at hsw
      cases b with
      | false => exact plain hsw
      | true =>
        rw [exec_Assign_Name_used _ _ _ _ hsw]
        refine wpAny_bind (wpAny_standAt (wpAny_bind ?_))
        cases e with
        | comp elt y it ifs =>
          obtain ⟨hIt, hElt, hT⟩ := hparts elt y it ifs rfl
          replace hm := mI_comp hm
          obtain ⟨_, _, _, _, _, _, _, heq, hm⟩ := hm
          cases heq
          simp only [Bool.and_eq_true, decide_eq_true_eq] at hm
          obtain ⟨⟨⟨⟨hc, hl⟩, c1⟩, c2⟩, c3⟩ := hm
          show wpAny _ A (do let _ ← comprehension _ _ env _ (newList []) false (eval _ env) (some (assign (.Name x p) env))) _ _ s
          refine wpAny_bind (wpAny_mono (comp_core (Q' := fun _ s' => Q' .next s') (use := some (assign (.Name x p) env)) hIt hElt hT hc hl c1 c2 c3 hA S O hW fun D σ' h' t' C O' S' q pC hN hC => ?_) (fun _ s' hq => wpAny_pure (wpAny_pure hq)) fun _ _ e => e)
          obtain ⟨mC, hN⟩ := hN
          refine wpAny_assign_Name (st_var (s := { s with heap := h', toks := t' }) (v := .ref D) O' S (fun c hk hl => hS i x c h1 hk hl) h1 h2 rfl fun h2 t2 O2 S2 => ?_)
          refine ⟨mC, hN.at' fun o e => pC.kept S2 pC.o e, fun h3 hs => ?_⟩
          have kk : ∀ b ob, b ≠ C → h2.get? b = some ob → h3.get? b = some ob := fun b ob hb e => (hs.2 b hb).trans e
          have S12 := S'.trans S2
          refine h .next .next _ σ' h3 t2 (O2.priv pC kk) ⟨fun b ob e hs' ho => kk b ob (fun z => by rw [z, hC] at e; cases e) (S12.keep b ob e hs' ho), S12.fresh, fun b ob e => ?_⟩ rfl q
          obtain ⟨ob', e'⟩ := S12.grow b ob e
          exact ⟨ob', kk b ob' (fun z => by rw [z, hC] at e; cases e) e'⟩
        | _ => exact noT hm
    · exact plain (hno _ _ _)

/-- stores of a tuple's items, from left to right -/
theorem stores_ok {A : Around} {env : Env} {nm : List (Option Str)} {own : List Addr} {sc : Scope} {E : Value → Shared → Prop} (S : ScOk env sc) (hS : StOk env nm own) : ∀ {is : List Nat} {ts : List Expr} {xs : List AVal} {vs : List Value},
    mVars nm sc is ts = true → xs.length = is.length → VRels base xs vs → ∀ {m : Loc} {σ : AHeap} {s : Shared} {Q' : Unit → Shared → Prop}, Ok env nm m own base σ s.heap →
    (∀ h' t', Ok env nm ((is.zip xs).foldl (fun m p => m.set p.1 (some p.2)) m) own base σ h' → Step σ σ own s.heap h' → Q' () { s with heap := h', toks := t' }) →
    wpAny (model prog w) A (assignInOrder ((assignEach ts env).map (·.2)) vs) Q' E s
  | [], [], [], [], _, _, _, m, σ, s, Q', O, h => by
    exact wpAny_assignInOrder_none (h s.heap s.toks O Step.refl)
  | i :: r, t :: ts, x :: xs, v :: vs, hm, hl, hr, m, σ, s, Q', O, h => by
    rw [mVars_cons, Bool.and_eq_true] at hm
    obtain ⟨n, p, rfl, h1, h2, h3⟩ := mVar_of hm.1
    refine assignInOrder_cons (ts := (assignEach ts env).map (·.2)) (wpAny_assign_Name (st_var O S (fun c hk hl => hS i n c h1 hk hl) h1 h2 hr.1 fun h' t' O' S' => ?_))
    exact stores_ok S hS hm.2 (by simpa using hl) hr.2 (s := { s with heap := h', toks := t' }) O' fun h2 t2 O2 S2 => h h2 t2 O2 (S'.trans S2)
  | [], _ :: _, _, _, hm, _, _, _, _, _, _, _, _ => noT hm
  | _ :: _, [], _, _, hm, _, _, _, _, _, _, _, _ => noT hm
  | _ :: _, _ :: _, [], _, _, hl, _, _, _, _, _, _, _ => by simp at hl
  | _ :: _, _ :: _, _ :: _, [], _, _, hr, _, _, _, _, _, _ => hr.elim
  | [], [], _ :: _, _, _, hl, _, _, _, _, _, _, _ => by simp at hl
  | [], [], [], _ :: _, _, _, hr, _, _, _, _, _, _ => hr.elim

theorem each_len {nm : List (Option Str)} {sc : Scope} {env : Env} : ∀ {is : List Nat} {ts : List Expr}, mVars nm sc is ts = true → (assignEach ts env).length = is.length ∧ (assignEach ts env).findIdx? (·.1) = none
  | [], [], _ => ⟨rfl, rfl⟩
  | i :: r, t :: ts, hm => by
    rw [mVars_cons, Bool.and_eq_true] at hm
    obtain ⟨n, p, rfl, _⟩ := mVar_of hm.1
    obtain ⟨e1, e2⟩ := each_len (env := env) hm.2
    have e : assignEach (.Name n p :: ts) env = (false, assign (.Name n p) env) :: assignEach ts env := rfl
    rw [e]
    refine ⟨by simp [e1], ?_⟩
    rw [List.findIdx?_cons]
    simp [e2]
  | [], _ :: _, hm => noT hm
  | _ :: _, [], hm => noT hm

theorem tupAsg_ok {A : Around} {env : Env} {nm : List (Option Str)} {own : List Addr} {sc : Scope} {E : Value → Shared → Prop} {is : List Nat} {ts : List Expr} {x1 : Nat} {pos : Pos} {m : Loc} {σ : AHeap} {s : Shared} {v : AVal} {val : Value} {R : Loc → Prop} {Q' : Unit → Shared → Prop}
    (hh : A.handled = none) (S : ScOk env sc) (hS : StOk env nm own) (hm : mVars nm sc is ts = true) (O : Ok env nm m own base σ s.heap) (hW : unpackW v is R m σ) (rv : VRel base v val)
    (h : ∀ m' h' t', Ok env nm m' own base σ h' → Step σ σ own s.heap h' → R m' → Q' () { s with heap := h', toks := t' }) : wpAny (model prog w) A (assign (.Tuple ts x1 pos) env val) Q' E s := by
  unfold unpackW at hW
  split at hW
  · rename_i a
    obtain rfl : val = .ref a := rv
    split at hW
    · rename_i xs ha
      obtain ⟨oa, ea, ⟨its, n, rfl, r⟩⟩ := O.good.obj _ _ ha
      obtain ⟨hl, hR⟩ := hW
      have l1 := r.length
      rw [Array.length_toList] at l1
      obtain ⟨e1, e2⟩ := each_len (env := env) hm
      refine PySem.wpAny_assign_Tuple (items := its) hh ⟨_, ea, rfl, n, rfl⟩ (by omega) e2 fun h' hx => ?_
      have kk : ∀ b o, s.heap.get? b = some o → h'.get? b = some o := fun b o e => hx b o (Nat.ne_of_lt (Heap.lt_size e)) e
      exact stores_ok S hS hm hl r (s := { s with heap := h' }) (O.ext kk) fun h2 t2 O2 S2 => h _ h2 t2 O2 ((Step.ext kk).trans S2) hR
    · exact hW.elim
  · exact hW.elim

theorem SS_asgT {is : List Nat} {e : Ex} (hE : SE prog w base cw k e) : SS prog w base cw k (.asgT is e) := by
  intro nm sc s' hm A env m own σ s Q Q' E hA S hS O hW h
  replace hm := sI_asgT hm
  obtain ⟨_, _, _, _, _, rfl, hm⟩ := hm
  rw [Ws2] at hW
  · rename_i ts x1 tp v pos
    simp only [Bool.and_eq_true] at hm
    obtain ⟨⟨h1, h2⟩, h3⟩ := hm
    refine Assign_Tuple (hE nm sc v h3 A env m own σ s _ _ E hA S O hW fun a av σ1 g1 t1 O1 S1 r q => ?_) (show swapsWith v (some (.Tuple ts x1 tp)) pos.line env = pure false from swaps_no h2 _ _ _) (by cases v <;> first | rfl | exact noT h2)
    exact tupAsg_ok (s := { s with heap := g1, toks := t1 }) hA.1 S hS h1 O1 q r fun m' h' t' O' S' q' => h .next .next m' σ1 h' t' O' (S1.trans S') rfl q'

theorem SS_asgA (X : Cx K base mg mb) {o e : Ex} {f : Nat} (hO : SE prog w base cw k o) (hE : SE prog w base cw k e) : SS prog w base cw k (.asgA o f e) := by
  intro nm sc s' hm A env m own σ s Q Q' E hA S hS O hW h
  replace hm := sI_asgA hm
  obtain ⟨_, _, _, _, _, rfl, hm⟩ := hm
  rw [Ws3] at hW
  · simp only [Bool.and_eq_true] at hm
    obtain ⟨⟨⟨h1, h2⟩, h3⟩, h4⟩ := hm
    obtain ⟨hf, rfl⟩ := attrIs_of h1
    refine plainObj_wpAny_Assign_Attribute (hE nm sc _ h4 A env m own σ s _ _ E hA S O hW fun a av σ1 g1 t1 O1 S1 r q => ?_) (swaps_no h2 _ _ _)
    refine hO nm sc _ h3 A env m own σ1 { s with heap := g1, toks := t1 } _ _ E hA S O1 q fun b bv σ2 g2 t2 O2 S2 r2 q2 => ?_
    exact setA_ok (s := { s with heap := g2, toks := t2 }) X O2 hf q2 r2 r fun σ3 g3 t3 O3 S3 q3 => h .next .next m σ3 g3 t3 O3 ((S1.trans S2).trans S3) rfl q3

theorem SS_asgS {o i e : Ex} (hO : SE prog w base cw k o) (hI : SE prog w base cw k i) (hE : SE prog w base cw k e) : SS prog w base cw k (.asgS o i e) := by
  intro nm sc s' hm A env m own σ s Q Q' E hA S hS O hW h
  replace hm := sI_asgS hm
  obtain ⟨_, _, _, _, _, rfl, hm⟩ := hm
  rw [Ws4] at hW
  · simp only [Bool.and_eq_true] at hm
    obtain ⟨⟨⟨⟨h1, h2⟩, h3⟩, h3'⟩, h4⟩ := hm
    refine wpAny_Assign_Subscript (hE nm sc _ h4 A env m own σ s _ _ E hA S O hW fun a av σ1 g1 t1 O1 S1 r q => ?_) (swaps_no h2 _ _ _)
    refine hO nm sc _ h3 A env m own σ1 { s with heap := g1, toks := t1 } _ _ E hA S O1 q fun b bv σ2 g2 t2 O2 S2 r2 q2 => ?_
    refine hI nm sc _ h3' A env m own σ2 { s with heap := g2, toks := t2 } _ _ E hA S O2 q2 fun c cv σ3 g3 t3 O3 S3 r3 q3 => ?_
    exact setS_ok (s := { s with heap := g3, toks := t3 }) O3 q3 r2 r3 r fun σ4 g4 t4 O4 S4 q4 => h .next .next m σ4 g4 t4 O4 (((S1.trans S2).trans S3).trans S4) rfl q4

theorem SS_augV {op : Operator} {i : Nat} {e : Ex} (hE : SE prog w base cw k e) : SS prog w base cw k (.augV op i e) := by
  intro nm sc s' hm A env m own σ s Q Q' E hA S hS O hW h
  replace hm := sI_augV hm
  obtain ⟨_, _, _, _, rfl, hm⟩ := hm
  rw [Ws5] at hW
  · simp only [Bool.and_eq_true, beq_iff_eq] at hm
    obtain ⟨⟨rfl, hv⟩, hm⟩ := hm
    obtain ⟨x, p, rfl, h1, h2, h3⟩ := mVar_of hv
    unfold varW at hW
    split at hW
    · rename_i a ha
      refine wpAny_AugAssign_Name (ldn_var O S h1 (isVar_of h2) h3 ha fun av ra => ?_)
      refine hE nm sc _ hm A env m own σ s _ _ E hA S O hW fun b bv σ1 g1 t1 O1 S1 r q => ?_
      refine aug_ok (s := { s with heap := g1, toks := t1 }) O1 q ra r fun c cv σ2 g2 t2 O2 S2 rc q2 => ?_
      exact st_var (s := { s with heap := g2, toks := t2 }) O2 S (fun c hk hl => hS i x c h1 hk hl) h1 h2 rc fun h' t' O' S' => h .next .next _ σ2 h' t' O' ((S1.trans S2).trans S') rfl q2
    · exact hW.elim

theorem SS_augA (X : Cx K base mg mb) {op : Operator} {o e : Ex} {f : Nat} (hO : SE prog w base cw k o) (hE : SE prog w base cw k e) : SS prog w base cw k (.augA op o f e) := by
  intro nm sc s' hm A env m own σ s Q Q' E hA S hS O hW h
  replace hm := sI_augA hm
  obtain ⟨_, _, _, _, _, _, rfl, hm⟩ := hm
  rw [Ws6] at hW
  · simp only [Bool.and_eq_true, beq_iff_eq] at hm
    obtain ⟨⟨⟨rfl, h1⟩, h3⟩, h4⟩ := hm
    obtain ⟨hf, rfl⟩ := attrIs_of h1
    refine wpAny_AugAssign_AttributeAny (hO nm sc _ h3 A env m own σ s _ _ E hA S O hW fun a av σ1 g1 t1 O1 S1 r q => ?_)
    refine attr_ok (s := { s with heap := g1, toks := t1 }) X O1 hf q r fun b bv σ2 g2 t2 O2 S2 r2 q2 => ?_
    refine hE nm sc _ h4 A env m own σ2 { s with heap := g2, toks := t2 } _ _ E hA S O2 q2 fun c cv σ3 g3 t3 O3 S3 r3 q3 => ?_
    refine aug_ok (s := { s with heap := g3, toks := t3 }) O3 q3 r2 r3 fun d dv σ4 g4 t4 O4 S4 r4 q4 => ?_
    exact setA_ok (s := { s with heap := g4, toks := t4 }) X O4 hf q4 r r4 fun σ5 g5 t5 O5 S5 q5 => h .next .next m σ5 g5 t5 O5 ((((S1.trans S2).trans S3).trans S4).trans S5) rfl q5

theorem augStore_eq {i' : Expr} (hn : noSlice i' = true) (ov iv new : Value) : augStore i' ov iv new = (do holding [new, ov, iv] (setItem ov iv new); release [new, ov, iv] []; pure .next) := by
  cases i' <;> first | rfl | exact noT hn
theorem SS_augS {op : Operator} {o i e : Ex} (hO : SE prog w base cw k o) (hI : SE prog w base cw k i) (hE : SE prog w base cw k e) : SS prog w base cw k (.augS op o i e) := by
  intro nm sc s' hm A env m own σ s Q Q' E hA S hS O hW h
  replace hm := sI_augS hm
  obtain ⟨_, _, _, _, _, _, rfl, hm⟩ := hm
  rw [Ws7] at hW
  · simp only [Bool.and_eq_true, beq_iff_eq] at hm
    obtain ⟨⟨⟨⟨rfl, h1⟩, h3⟩, h3'⟩, h4⟩ := hm
    refine wpAny_AugAssign_SubscriptAny (hO nm sc _ h3 A env m own σ s _ _ E hA S O hW fun a av σ1 g1 t1 O1 S1 r q => ?_) (augStore_eq h1)
    refine hI nm sc _ h3' A env m own σ1 { s with heap := g1, toks := t1 } _ _ E hA S O1 q fun b bv σ2 g2 t2 O2 S2 r2 q2 => ?_
    refine (sub_ok (s := { s with heap := g2, toks := t2 }) O2 q2 r r2 fun c cv σ3 g3 t3 O3 S3 r3 q3 => ?_).2
    refine hE nm sc _ h4 A env m own σ3 { s with heap := g3, toks := t3 } _ _ E hA S O3 q3 fun d dv σ4 g4 t4 O4 S4 r4 q4 => ?_
    refine aug_ok (s := { s with heap := g4, toks := t4 }) O4 q4 r3 r4 fun x xv σ5 g5 t5 O5 S5 r5 q5 => ?_
    exact setS_ok (s := { s with heap := g5, toks := t5 }) O5 q5 r r2 r5 fun σ6 g6 t6 O6 S6 q6 => h .next .next m σ6 g6 t6 O6 (((((S1.trans S2).trans S3).trans S4).trans S5).trans S6) rfl q6

theorem SS_ex {e : Ex} (hE : SE prog w base cw k e) : SS prog w base cw k (.ex e) := by
  intro nm sc s' hm A env m own σ s Q Q' E hA S hS O hW h
  replace hm := sI_ex hm
  obtain ⟨_, _, rfl, hm⟩ := hm
  rw [Ws8] at hW
  · simp only [Bool.and_eq_true] at hm
    refine wpAny_Expr (hE nm sc _ hm.2 A env m own σ s _ _ E hA S O hW fun a av σ1 g1 t1 O1 S1 r q => ?_) (quiet O.fr.kf) (swaps_no hm.1 _ _ _)
    obtain ⟨rfl, q⟩ := q
    obtain rfl : av = .none := r
    exact h .next .next m σ1 g1 t1 O1 S1 rfl q
theorem SS_ret {e : Ex} (hE : SE prog w base cw k e) : SS prog w base cw k (.ret e) := by
  intro nm sc s' hm A env m own σ s Q Q' E hA S hS O hW h
  replace hm := sI_ret hm
  obtain ⟨_, _, rfl, hm⟩ := hm
  rw [Ws9] at hW
  · exact wpAny_Return_some (hE nm sc _ hm A env m own σ s _ _ E hA S O hW fun a av σ1 g1 t1 O1 S1 r q => h (.ret a) (.ret av) m σ1 g1 t1 O1 S1 ⟨av, rfl, r⟩ q)
theorem SS_iff {t : Ex} {a b : List St} (hT : ST prog w base cw k t) (ha : SSs prog w base cw k a) (hb : SSs prog w base cw k b) : SS prog w base cw k (.iff t a b) := by
  intro nm sc s' hm A env m own σ s Q Q' E hA S hS O hW h
  replace hm := sI_iff hm
  obtain ⟨_, _, _, _, rfl, hm⟩ := hm
  rw [Ws10] at hW
  · simp only [Bool.and_eq_true] at hm
    obtain ⟨⟨h1, h2⟩, h3⟩ := hm
    refine wpAny_If (hT nm sc _ h1 A env m own σ s _ _ E hA S O hW fun c σ1 g1 t1 O1 S1 q => ?_)
    cases c with
    | true =>
      rw [if_pos rfl]
      exact ha nm sc _ h2 A env m own σ1 { s with heap := g1, toks := t1 } Q Q' E hA S hS O1 q (h.on S1)
    | false =>
      rw [if_neg Bool.false_ne_true]
      exact hb nm sc _ h3 A env m own σ1 { s with heap := g1, toks := t1 } Q Q' E hA S hS O1 q (h.on S1)
theorem SS_cont : SS prog w base cw k .cont := by
  intro nm sc s' hm A env m own σ s Q Q' E hA S hS O hW h
  replace hm := sI_cont hm
  obtain ⟨_, rfl⟩ := hm
  rw [Ws14] at hW
  · exact wpAny_Continue (h .cont .cont m σ s.heap s.toks O Step.refl rfl hW)
theorem SS_rais : SS prog w base cw k .rais := by
  intro nm sc s' hm A env m own σ s Q Q' E hA S hS O hW h
  rw [Ws15] at hW
  exact hW.elim
theorem SSs_nil : SSs prog w base cw k [] := by
  intro nm sc s' hm A env m own σ s Q Q' E hA S hS O hW h
  match s', hm with
  | [], _ =>
    rw [Wss1] at hW
    exact wpAny_execs_nil (h .next .next m σ s.heap s.toks O Step.refl rfl hW)
  | _ :: _, hm => (first | exact noT hm | exact noT (and_i hm).2)
theorem SSs_cons {x : St} {r : List St} (hx : SS prog w base cw k x) (hr : SSs prog w base cw k r) : SSs prog w base cw k (x :: r) := by
  intro nm sc s' hm A env m own σ s Q Q' E hA S hS O hW h
  match s', hm with
  | s1 :: sr, hm =>
    rw [mSs_cons, Bool.and_eq_true] at hm
    rw [Wss2] at hW
    refine wpAny_execs_cons (hx nm sc s1 hm.1 A env m own σ s _ _ E hA S hS O hW fun f fl m' σ1 g1 t1 O1 S1 rf q => ?_)
    cases f with
    | next =>
      obtain rfl : fl = .next := rf
      exact hr nm sc sr hm.2 A env m' own σ1 { s with heap := g1, toks := t1 } Q Q' E hA S hS O1 q (h.on S1)
    | cont =>
      obtain rfl : fl = .cont := rf
      exact h .cont .cont m' σ1 g1 t1 O1 S1 rfl q
    | ret v =>
      obtain ⟨val, rfl, rv⟩ := rf
      exact h (.ret v) (.ret val) m' σ1 g1 t1 O1 S1 ⟨val, rfl, rv⟩ q
  | [], hm => (first | exact noT hm | exact noT (and_i hm).2)
end
end Pf
end

section
set_option autoImplicit false
set_option maxRecDepth 100000
namespace Pf
open PySem PySem.W PyProof.Rows PySem.Calls

section
variable {prog : Program} {w : World} {K : Frag} {base : Heap} {mg mb : Str → Option Value} {cw : CW} {k : Nat}

theorem SS_whl {t : Ex} {b : List St} (hT : ST prog w base cw k t) (hb : SSs prog w base cw k b) : SS prog w base cw k (.whl t b) := by
  intro nm sc s' hm A env m own σ s Q Q' E hA S hS O hW h
  replace hm := sI_whl hm
  obtain ⟨_, _, _, rfl, hm⟩ := hm
  rw [Ws11] at hW
  · simp only [Bool.and_eq_true] at hm
    obtain ⟨h1, h2⟩ := hm
    obtain ⟨n, hW⟩ := hW
    refine wpAny_While ?_
    refine codeAny_whileLoop (fun n s' => ∃ m' σ' h' tk, s' = { s with heap := h', toks := tk } ∧ Ok env nm m' own base σ' h' ∧ Step σ σ' own s.heap h' ∧
      whileN (fun m Q σ => wpT cw t m Q σ) (fun m Q σ => wpSs cw b m Q σ) Q n m' σ') ?_ n ⟨m, σ, s.heap, s.toks, rfl, O, Step.refl, hW⟩
    rintro n s' ⟨m', σ', h', tk, rfl, O', S', hW'⟩
    cases n with
    | zero => exact hW'.elim
    | succ n =>
      rw [whileN] at hW'
      refine hT nm sc _ h1 A env m' own σ' { s with heap := h', toks := tk } _ _ _ hA S O' hW' fun c σ1 g1 t1 O1 S1 q => ?_
      cases c with
      | true =>
        rw [if_pos rfl]
        refine hb nm sc _ h2 A env m' own σ1 { s with heap := g1, toks := t1 } _ _ _ hA S hS O1 q fun f fl m2 σ2 g2 t2 O2 S2 rf q2 => ?_
        cases f with
        | next =>
          obtain rfl : fl = .next := rf
          exact ⟨n, Nat.lt_succ_self _, m2, σ2, g2, t2, rfl, O2, (S'.trans S1).trans S2, q2⟩
        | cont =>
          obtain rfl : fl = .cont := rf
          exact ⟨n, Nat.lt_succ_self _, m2, σ2, g2, t2, rfl, O2, (S'.trans S1).trans S2, q2⟩
        | ret v =>
          obtain ⟨val, rfl, rv⟩ := rf
          exact h (.ret v) (.ret val) m2 σ2 g2 t2 O2 ((S'.trans S1).trans S2) ⟨val, rfl, rv⟩ q2
      | false =>
        rw [if_neg Bool.false_ne_true]
        exact wpAny_execs_nil (h .next .next m' σ1 g1 t1 O1 (S'.trans S1) rfl q)

/-- a private object that was not there before is forgotten -/
theorem Step.drop {σ σ' : AHeap} {own : List Addr} {h h1 h' : Heap} {I : Addr} (S : Step σ σ' (I :: own) h1 h') (ext : ∀ b o, h.get? b = some o → h1.get? b = some o) (hI : h.get? I = none) : Step σ σ' own h h' := by
  refine ⟨fun b ob e hs ho => S.keep b ob (ext b ob e) hs fun q => ?_, fun b a c => ?_, fun b ob e => S.grow b ob (ext b ob e)⟩
  · rcases List.mem_cons.mp q with rfl | q
    · rw [hI] at e; cases e
    · exact ho q
  · cases e : h.get? b with
    | none => rfl
    | some o => have := S.fresh b a c; rw [ext b o e] at this; cases this
theorem push_live {h : Heap} {ob ob' : Obj} (e : (h.push ob).get? h.objs.size = some ob') : ob.isFreed = false := by
  cases q : ob.isFreed with
  | false => rfl
  | true =>
    rw [Heap.get?_some_iff] at e
    have : ob' = ob := by
      have := e.1
      simp [Heap.push] at this
      exact this.symm
    rw [this, q] at e; cases e.2
theorem Ok.privNew {env : Env} {nm : List (Option Str)} {m : Loc} {own : List Addr} {σ : AHeap} {h : Heap} (O : Ok env nm m own base σ h) {I : Addr} (hI : h.get? I = none) : Priv env own base σ I := by
  refine ⟨O.good.dom hI, fun q => ?_, ?_, fun n c hn hc z => ?_⟩
  · obtain ⟨_, _, o, e⟩ := O.fr.ownOk _ q
    rw [hI] at e; cases e
  · cases e : base.get? I with
    | none => rfl
    | some o => have := O.good.keep _ _ e; rw [hI] at this; cases this
  · subst z
    obtain ⟨c', v', e1, ⟨o, e2, _⟩, _⟩ := O.fr.cell n hn
    rw [hc] at e1; cases e1
    rw [hI] at e2; cases e2

/-- a for loop; bind is what the target does with a turn's item -/
theorem loop_ok {x it' : Expr} {b : List St} {b' : List Stmt} {it : Ex} {nm : List (Option Str)} {sc : Scope} {pos : Pos} {bind : AVal → (Loc → Prop) → Loc → AHeap → Prop} (hIt : SE prog w base cw k it) (hb : SSs prog w base cw k b) (h2 : mE nm sc it it' = true) (h3 : mSs nm sc b b' = true)
    {A : Around} {env : Env} {m : Loc} {own : List Addr} {σ : AHeap} {s : Shared} {Q : AFlow → Loc → AHeap → Prop} {Q' : Flow → Shared → Prop} {E : Value → Shared → Prop} (P : AObj → Prop)
    (hbind : ∀ {m : Loc} {σ : AHeap} {s : Shared} {v : AVal} {val : Value} {R : Loc → Prop} {R' : Unit → Shared → Prop} {E' : Value → Shared → Prop} {a I : Addr} {o : AObj} {i : Nat}, P o → IterAt s.heap a o I i → Ok env nm m own base σ s.heap → bind v R m σ → VRel base v val →
      (∀ m' h' t', Ok env nm m' own base σ h' → Step σ σ own s.heap h' → R m' → R' () { s with heap := h', toks := t' }) → wpAny (model prog w) A (letOwnedTupleGo x (.ref I) val) (fun _ s1 => wpAny (model prog w) A (assign x env val) R' E' s1) E' s)
    (hA : AE A k) (S : ScOk env sc) (hS : StOk env nm own) (O : Ok env nm m own base σ s.heap)
    (hW : wpE cw it m (fun v σ1 => ∃ a o all, P o ∧ v = .ref a ∧ σ1 a = some o ∧ itemsOf o = some all ∧ forN (fun m Q σ => wpSs cw b m Q σ) bind a o Q all m σ1) σ) (h : BkF env nm own base σ s Q Q') :
    wpAny (model prog w) A (exec (.For x it' b' [] pos) env) Q' E s := by
  refine wpAny_For (hIt nm sc it' h2 A env m own σ s _ _ E hA S O hW fun v val σ1 g1 t1 O1 S1 rv q => ?_) (notSet h2 env)
  obtain ⟨a, o, all, hP, rfl, ha, hall, hW1⟩ := q
  obtain rfl : val = .ref a := rv
  refine iter_ok (s := { s with heap := g1, toks := t1 }) O1 ha hall fun ob hit => ?_
  have hI : g1.get? g1.objs.size = none := get_size g1
  have ext : ∀ b o, g1.get? b = some o → (g1.push ob).get? b = some o := fun b o e => Heap.get?_push_of_some _ e
  have O2 := O1.ext ext
  have p0 : Priv env own base σ1 g1.objs.size := O1.privNew hI
  have hne : a ≠ g1.objs.size := fun z => by
    have := p0.s
    rw [← z, ha] at this; cases this
  refine codeAny_forLoop_any (fun n s' => ∃ i m' σ' h' tk, s' = { s with heap := h', toks := tk } ∧ i ≤ all.length ∧ n = all.length + 1 - i ∧ Ok env nm m' own base σ' h' ∧ Step σ1 σ' (g1.objs.size :: own) (g1.push ob) h' ∧ Priv env own base σ' g1.objs.size ∧
      IterAt h' a o g1.objs.size i ∧ σ' a = some o ∧ forN (fun m Q σ => wpSs cw b m Q σ) bind a o Q (all.drop i) m' σ') ?_ (all.length + 1)
    ⟨0, m, σ1, g1.push ob, t1, rfl, Nat.zero_le _, rfl, O2, Step.refl, p0, hit, ha, hW1⟩
  rintro n s' ⟨i, m', σ', h', tk, rfl, hi, rfl, O', S', p', hit', ha', hW'⟩
  refine next_ok (s := { s with heap := h', toks := tk }) O' hA.1 ha' hall hne hit' (fun v val h2 t2 hv rv hit2 kk hex => ?_) (fun h2 t2 hle kk => ?_) hi
  · have lt : i < all.length := by
      rcases Nat.lt_or_ge i all.length with q | q
      · exact q
      · rw [List.getElem?_eq_none q] at hv; cases hv
    have O2 := O'.priv p' kk
    have S2 : Step σ1 σ' (g1.objs.size :: own) (g1.push ob) h2 := S'.trans ((Step.priv kk hex).mono fun b hb => by
      have : b = g1.objs.size := by simpa using hb
      rw [this]; exact List.mem_cons_self)
    rw [next_drop hv, forN] at hW'
    refine hbind (s := { s with heap := h2, toks := t2 }) hP hit2 O2 hW' rv fun m3 h3' t3 O3 S3 q3 => ?_
    have S3' := S2.trans (S3.mono fun b hb => List.mem_cons_of_mem g1.objs.size hb)
    have hit3 : IterAt h3' a o g1.objs.size (i + 1) := hit2.at fun ob e => p'.kept S3 p'.o e
    refine hb nm sc _ h3 A env m3 own σ' { s with heap := h3', toks := t3 } _ _ _ hA S hS O3 q3 fun f fl m4 σ4 g4 t4 O4 S4 rf q4 => ?_
    have p4 := p'.step S4 hit3.there
    have hit4 : IterAt g4 a o g1.objs.size (i + 1) := hit3.at fun ob e => p'.kept S4 p'.o e
    have S4' := S3'.trans (S4.mono fun b hb => List.mem_cons_of_mem g1.objs.size hb)
    cases f with
    | next =>
      obtain rfl : fl = .next := rf
      exact ⟨all.length + 1 - (i + 1), by omega, i + 1, m4, σ4, g4, t4, rfl, lt, rfl, O4, S4', p4, hit4, q4.1, q4.2⟩
    | cont =>
      obtain rfl : fl = .cont := rf
      exact ⟨all.length + 1 - (i + 1), by omega, i + 1, m4, σ4, g4, t4, rfl, lt, rfl, O4, S4', p4, hit4, q4.1, q4.2⟩
    | ret v =>
      obtain ⟨val', rfl, rv'⟩ := rf
      exact h (.ret v) (.ret val') m4 σ4 g4 t4 O4 (S1.trans (S4'.drop ext hI)) ⟨val', rfl, rv'⟩ q4
  · have e : all.drop i = [] := List.drop_eq_nil_of_le hle
    rw [e, forN] at hW'
    refine wpAny_execs_nil (h .next .next m' σ' h2 t2 (O'.priv p' kk) (S1.trans ?_) rfl hW')
    have S2 : Step σ1 σ' own g1 h' := S'.drop ext hI
    refine ⟨fun b ob e hs ho => kk b ob (fun z => by rw [z, hI] at e; cases e) (S2.keep b ob e hs ho), S2.fresh, fun b ob e => ?_⟩
    obtain ⟨ob', e'⟩ := S2.grow b ob e
    exact ⟨ob', kk b ob' (fun z => by rw [z, hI] at e; cases e) e'⟩

theorem SS_forV {i : Nat} {it : Ex} {b : List St} (hIt : SE prog w base cw k it) (hb : SSs prog w base cw k b) : SS prog w base cw k (.forV i it b) := by
  intro nm sc s' hm A env m own σ s Q Q' E hA S hS O hW h
  replace hm := sI_forV hm
  obtain ⟨_, _, _, _, rfl, hm⟩ := hm
  rw [Ws12] at hW
  · simp only [Bool.and_eq_true] at hm
    obtain ⟨⟨h1, h2⟩, h3⟩ := hm
    obtain ⟨x, p, rfl, e1, e2, e3⟩ := mVar_of h1
    refine loop_ok (bind := bindV i) hIt hb h2 h3 (fun _ => True) (fun {m σ s v val R R' E' a I o j} _ hit O2 hbd rv hR => ?_) hA S hS O ?_ h
    · refine wpAny_of_eq (show letOwnedTupleGo (.Name x p) (.ref I) val = pure () from rfl) ?_
      exact wpAny_assign_Name (st_var O2 S (fun c hk hl => hS i x c e1 hk hl) e1 e2 rv fun h' t' O' S' => hR _ h' t' O' S' hbd)
    · have : (fun v σ1 => ∃ a o all, v = AVal.ref a ∧ σ1 a = some o ∧ itemsOf o = some all ∧ forN (fun m Q σ => wpSs cw b m Q σ) (bindV i) a o Q all m σ1) = (fun v σ1 => ∃ a o all, True ∧ v = AVal.ref a ∧ σ1 a = some o ∧ itemsOf o = some all ∧ forN (fun m Q σ => wpSs cw b m Q σ) (bindV i) a o Q all m σ1) := by
        funext v σ1; simp only [true_and]
      rw [← this]; exact hW
theorem SS_forT {is : List Nat} {it : Ex} {b : List St} (hIt : SE prog w base cw k it) (hb : SSs prog w base cw k b) : SS prog w base cw k (.forT is it b) := by
  intro nm sc s' hm A env m own σ s Q Q' E hA S hS O hW h
  replace hm := sI_forT hm
  obtain ⟨_, _, _, _, _, _, rfl, hm⟩ := hm
  rw [Ws13] at hW
  · simp only [Bool.and_eq_true] at hm
    obtain ⟨⟨h1, h2⟩, h3⟩ := hm
    refine loop_ok (bind := bindT is) hIt hb h2 h3 (fun o => ∃ l, o = .list l) (fun {m σ s v val R R' E' a I o j} hP hit O2 hbd rv hR => ?_) hA S hS O ?_ h
    · obtain ⟨l, rfl⟩ := hP
      have hbd' := hbd
      unfold bindT unpackW at hbd'
      split at hbd'
      · rename_i T
        obtain rfl : val = .ref T := rv
        exact wpAny_letOwnedTupleGo_listiter hit (tupAsg_ok hA.1 S hS h1 O2 hbd rfl hR)
      · exact hbd'.elim
    · have : (fun v σ1 => ∃ a all, v = AVal.ref a ∧ σ1 a = some (AObj.list all) ∧ forN (fun m Q σ => wpSs cw b m Q σ) (bindT is) a (AObj.list all) Q all m σ1) = (fun v σ1 => ∃ a o all, (∃ l, o = AObj.list l) ∧ v = AVal.ref a ∧ σ1 a = some o ∧ itemsOf o = some all ∧ forN (fun m Q σ => wpSs cw b m Q σ) (bindT is) a o Q all m σ1) := by
        funext v σ1
        apply propext
        constructor
        · rintro ⟨a, all, h1, h2, h3⟩; exact ⟨a, _, all, ⟨all, rfl⟩, h1, h2, rfl, h3⟩
        · rintro ⟨a, o, all, ⟨l, rfl⟩, h1, h2, h4, h3⟩; cases h4; exact ⟨a, all, h1, h2, h3⟩
      rw [← this]; exact hW

mutual
theorem sndS (X : Cx K base mg mb) (hC : CallOk prog w base cw k) : ∀ x : St, SS prog w base cw k x
  | .asg i e => SS_asg (sndE X hC e).1 fun elt x it ifs _ => ⟨(sndE X hC it).1, (sndE X hC elt).1, fun y hy => (sndEs X hC ifs y hy).2⟩
  | .asgT is e => SS_asgT (sndE X hC e).1
  | .asgA o f e => SS_asgA X (sndE X hC o).1 (sndE X hC e).1
  | .asgS o i e => SS_asgS (sndE X hC o).1 (sndE X hC i).1 (sndE X hC e).1
  | .augV op i e => SS_augV (sndE X hC e).1
  | .augA op o f e => SS_augA X (sndE X hC o).1 (sndE X hC e).1
  | .augS op o i e => SS_augS (sndE X hC o).1 (sndE X hC i).1 (sndE X hC e).1
  | .ex e => SS_ex (sndE X hC e).1
  | .ret e => SS_ret (sndE X hC e).1
  | .iff t a b => SS_iff (sndE X hC t).2 (sndSs X hC a) (sndSs X hC b)
  | .whl t b => SS_whl (sndE X hC t).2 (sndSs X hC b)
  | .forV i it b => SS_forV (sndE X hC it).1 (sndSs X hC b)
  | .forT is it b => SS_forT (sndE X hC it).1 (sndSs X hC b)
  | .cont => SS_cont
  | .rais => SS_rais
theorem sndSs (X : Cx K base mg mb) (hC : CallOk prog w base cw k) : ∀ x : List St, SSs prog w base cw k x
  | [] => SSs_nil
  | x :: r => SSs_cons (sndS X hC x) (sndSs X hC r)
end
end
end Pf
end

section
set_option autoImplicit false
set_option maxRecDepth 100000
namespace Pf
open PySem PySem.W PyProof.Rows PySem.Calls

theorem zip_look : ∀ {ns : List Str} {vs : List Value}, vs.length = ns.length → ns.Pairwise (· ≠ ·) → (∀ n ∈ ns, ∃ v, (ns.zip vs).lookup n = some v) ∧ ns.filterMap (fun n => ((ns.zip vs).lookup n).map fun v => (n, v)) = ns.zip vs
  | [], [], _, _ => ⟨fun _ q => (nomatch q), rfl⟩
  | n :: r, v :: s, hl, hp => by
    obtain ⟨h1, h2⟩ := List.pairwise_cons.mp hp
    obtain ⟨i1, i2⟩ := zip_look (ns := r) (vs := s) (by simpa using hl) h2
    have ne : ∀ m ∈ r, (m == n) = false := fun m hm => by
      have := h1 m hm
      simpa using Ne.symm this
    refine ⟨fun m hm => ?_, ?_⟩
    · rw [List.zip_cons_cons, List.lookup_cons]
      rcases List.mem_cons.mp hm with rfl | hm
      · exact ⟨v, by simp⟩
      · rw [ne m hm]; exact i1 m hm
    · rw [List.zip_cons_cons, List.filterMap_cons, List.lookup_cons]
      simp only [beq_self_eq_true, Option.map_some]
      congr 1
      have : ∀ (f g : Str → Option (Str × Value)) (l : List Str), (∀ m ∈ l, f m = g m) → l.filterMap f = l.filterMap g := by
        intro f g l
        induction l with
        | nil => intro _; rfl
        | cons x t ih =>
          intro h
          rw [List.filterMap_cons, List.filterMap_cons, h x (by simp), ih fun m hm => h m (by simp [hm])]
      refine (this _ _ r fun m hm => ?_).trans i2
      rw [List.lookup_cons, ne m hm]
  | [], _ :: _, hl, _ => by simp at hl
  | _ :: _, [], hl, _ => by simp at hl

theorem bind_plain {fd : FuncData} {vals : List Value} (hp : fd.params.posonlyargs = []) (hk : fd.params.kwonlyargs = []) (hv : fd.params.vararg = none) (hkw : fd.params.kwarg = none) (hd : fd.defaults = .none)
    (hl : vals.length = (fd.params.args.map (·.arg)).length) (hn : (fd.params.args.map (·.arg)).Pairwise (· ≠ ·)) : bindArgs fd ⟨vals, []⟩ = pure ((fd.params.args.map (·.arg)).zip vals) := by
  obtain ⟨h1, h2⟩ := zip_look hl hn
  generalize hns : fd.params.args.map (·.arg) = ns at *
  have e2 : (ns.filter fun n => ((ns.zip vals).lookup n).isNone) = [] := by
    rw [List.filter_eq_nil_iff]
    intro n hn
    obtain ⟨v, e⟩ := h1 n hn
    rw [e]; simp
  have e1 : seqItems? .none = pure none := rfl
  have e3 : ¬ ns.length < vals.length := by omega
  simp [bindArgs, hp, hk, hv, hkw, hd, hns, e1, e2, e3, h2]
end Pf
end

section
set_option autoImplicit false
set_option maxRecDepth 100000
namespace Pf
open PySem PySem.W PyProof.Rows PySem.Calls

structure FnAtK (K : Frag) (f : Nat) (fn : Fn) (nm : List (Option Str)) (oc : Value) (od : Option Addr) (fd : FuncData) (osl : Array (Option Value)) (body : List Stmt) (names : List Str) : Prop where
  look : K.lookup (faddr f) = some ⟨oc, od, .func fd, osl⟩
  bd : fd.body = .stmts body
  clo : fd.closure = []
  gl : fd.globals = mainGlobals
  bl : fd.builtins = builtinsNs
  code : codeIn K fd.code fd.qualname = true
  co : fd.scope.isCoroutine = false
  gen : fd.scope.isGenerator = false
  kind : fd.scope.kind = .function
  bind : ∀ vals : List Value, vals.length = fn.np → bindArgs fd ⟨vals, []⟩ = pure (names.zip vals)
  nodup : names.Pairwise (· ≠ ·)
  np : names.length = fn.np
  at_ : ∀ (i : Nat) n, names[i]? = some n → nm[i]? = some (some n)
  len : nm.length = fn.np + fn.nl
  inj : ∀ (i j : Nat) n, nm[i]? = some (some n) → nm[j]? = some (some n) → i = j
  sto : ∀ n ∈ names, isSto (fd.scope.names.lookup n) = true
  nofree : ∀ n, fd.scope.names.lookup n ≠ some .free
  ms : mSs nm fd.scope fn.body body = true

noncomputable def FnOk (K : Frag) (f : Nat) (fn : Fn) : Prop := ∃ oc od fd osl body names, FnAtK K f fn (nmOf f (ownOf f)) oc od fd osl body names

theorem zip_lookup : ∀ {ns : List Str} {vs : List Value} {i : Nat} {n : Str} {v : Value}, ns.Pairwise (· ≠ ·) → ns[i]? = some n → vs[i]? = some v → (ns.zip vs).lookup n = some v
  | m :: r, x :: s, 0, n, v, hp, h1, h2 => by
    simp only [List.getElem?_cons_zero, Option.some.injEq] at h1 h2
    subst h1 h2
    rw [List.zip_cons_cons, List.lookup_cons]; simp
  | m :: r, x :: s, i + 1, n, v, hp, h1, h2 => by
    obtain ⟨p1, p2⟩ := List.pairwise_cons.mp hp
    rw [List.getElem?_cons_succ] at h1 h2
    have hm : n ∈ r := List.mem_of_getElem? h1
    have ne : (n == m) = false := by simpa using Ne.symm (p1 n hm)
    rw [List.zip_cons_cons, List.lookup_cons, ne]
    exact zip_lookup p2 h1 h2
  | [], _, _, _, _, _, h1, _ => by simp at h1
  | _ :: _, [], _, _, _, _, _, h2 => by simp at h2

theorem bindL_no {kd : Str → Option NameKind} : ∀ {ns : List Str} {vs : List Value} {m : Str → Option Value} {n : Str}, n ∉ ns → bindL kd (ns.zip vs) m n = m n
  | [], _, _, _, _ => rfl
  | _ :: _, [], _, _, _ => rfl
  | x :: r, v :: s, m, n, h => by
    rw [List.zip_cons_cons, bindL, bindL_no (fun q => h (List.mem_cons_of_mem _ q))]
    split
    · exact if_neg fun (z : n = x) => h (z ▸ List.mem_cons_self)
    · rfl
theorem bindL_get {kd : Str → Option NameKind} : ∀ {ns : List Str} {vs : List Value} {m : Str → Option Value} {i : Nat} {n : Str} {v : Value}, ns.Pairwise (· ≠ ·) → ns[i]? = some n → vs[i]? = some v → kd n = some .local → bindL kd (ns.zip vs) m n = some v
  | x :: r, y :: s, m, 0, n, v, hp, h1, h2, hk => by
    simp only [List.getElem?_cons_zero, Option.some.injEq] at h1 h2
    subst h1 h2
    obtain ⟨p1, p2⟩ := List.pairwise_cons.mp hp
    rw [List.zip_cons_cons, bindL, bindL_no fun q => p1 _ q rfl, if_pos hk, if_pos rfl]
  | x :: r, y :: s, m, i + 1, n, v, hp, h1, h2, hk => by
    rw [List.getElem?_cons_succ] at h1 h2
    rw [List.zip_cons_cons, bindL]
    exact bindL_get (List.pairwise_cons.mp hp).2 h1 h2 hk
  | [], _, _, _, _, _, _, h1, _, _ => by simp at h1
  | _ :: _, [], _, _, _, _, _, _, h2, _ => by simp at h2
theorem bindC_no {kd : Str → Option NameKind} : ∀ {ns : List Str} {vs : List Value} {m : Str → Option Value} {n : Str}, n ∉ ns → bindC kd (ns.zip vs) m n = m n
  | [], _, _, _, _ => rfl
  | _ :: _, [], _, _, _ => rfl
  | x :: r, v :: s, m, n, h => by
    rw [List.zip_cons_cons, bindC, bindC_no (fun q => h (List.mem_cons_of_mem _ q))]
    split
    · rfl
    · exact if_neg fun (z : n = x) => h (z ▸ List.mem_cons_self)
theorem bindC_get {kd : Str → Option NameKind} : ∀ {ns : List Str} {vs : List Value} {m : Str → Option Value} {i : Nat} {n : Str} {v : Value}, ns.Pairwise (· ≠ ·) → ns[i]? = some n → vs[i]? = some v → kd n ≠ some .local → bindC kd (ns.zip vs) m n = some v
  | x :: r, y :: s, m, 0, n, v, hp, h1, h2, hk => by
    simp only [List.getElem?_cons_zero, Option.some.injEq] at h1 h2
    subst h1 h2
    obtain ⟨p1, p2⟩ := List.pairwise_cons.mp hp
    rw [List.zip_cons_cons, bindC, bindC_no fun q => p1 _ q rfl, if_neg hk, if_pos rfl]
  | x :: r, y :: s, m, i + 1, n, v, hp, h1, h2, hk => by
    rw [List.getElem?_cons_succ] at h1 h2
    rw [List.zip_cons_cons, bindC]
    exact bindC_get (List.pairwise_cons.mp hp).2 h1 h2 hk
  | [], _, _, _, _, _, _, h1, _, _ => by simp at h1
  | _ :: _, [], _, _, _, _, _, _, h2, _ => by simp at h2

theorem loc_get {vs : List AVal} {nl i : Nat} {v : AVal} (h : (vs.map some ++ List.replicate nl none)[i]? = some (some v)) : vs[i]? = some v := by
  rcases Nat.lt_or_ge i vs.length with q | q
  · rw [List.getElem?_append_left (by simpa using q), List.getElem?_map] at h
    cases e : vs[i]? with
    | none => rw [e] at h; cases h
    | some x => rw [e] at h; simp only [Option.map_some, Option.some.injEq] at h; rw [h]
  · rw [List.getElem?_append_right (by simpa using q), List.getElem?_replicate] at h
    split at h <;> cases h

section
variable {prog : Program} {w : World} {K : Frag} {base : Heap} {mg mb : Str → Option Value}

theorem Step.fromFresh {σ σ' : AHeap} {own : List Addr} {h h1 h' : Heap} (S : Step σ σ' own h1 h') (ext : ∀ b o, h.get? b = some o → h1.get? b = some o) (ho : ∀ a ∈ own, h.get? a = none) : Step σ σ' [] h h' := by
  refine ⟨fun b ob e hs _ => S.keep b ob (ext b ob e) hs fun q => ?_, fun b a c => ?_, fun b ob e => S.grow b ob (ext b ob e)⟩
  · rw [ho b q] at e; cases e
  · cases e : h.get? b with
    | none => rfl
    | some o => have := S.fresh b a c; rw [ext b o e] at this; cases this

theorem call_ok (X : Cx K base mg mb) (hF : ∀ f fn, P f = some fn → FnOk K f fn) : ∀ k, CallOk prog w base (callW P k) k
  | 0 => fun f vs Q σ hW => by rw [callW] at hW; exact hW.elim
  | k + 1 => fun f vs Q σ hW A s vals R hA G rv h => by
    rw [callW] at hW
    split at hW
    · rename_i fn hfn
      obtain ⟨hl, hW⟩ := hW
      obtain ⟨oc, od, fd, osl, body, names, F⟩ := hF f fn hfn
      have XK : K.In s.heap := X.kin.keeps G.keep
      have lv : vals.length = fn.np := by rw [rv.length, hl]
      have inN : ∀ x ∈ names.zip vals, x.1 ∈ names := fun x hx => (List.of_mem_zip (show (x.1, x.2) ∈ names.zip vals from hx)).1
      have cellOf : ∀ n, fd.scope.names.lookup n = some .cell → ((cellsFrom (s.heap.objs.size + 1) fd.scope.names []).lookup n).isSome = true := fun n e => cellsFrom_some fd.scope.names _ _ (.inl e)
      refine codeAny_call_cells (fd := fd) (binds := names.zip vals) (body := body) (by have := hA.2.1; show A.depth < 1000; (clear hl lv; omega)) (XK _ _ F.look) rfl (X.nolimit.keeps G.keep) (codeRec_of XK F.code) F.bd (F.bind vals lv) F.clo
        (fun x hx => ?_) (fun s₁ x => ?_) F.co F.gen F.kind
      · have := F.sto _ (inN x hx)
        simp only [isSto, Bool.or_eq_true, beq_iff_eq] at this
        rcases this with q | q
        · exact .inl q
        · exact .inr ⟨q, cellOf _ q⟩
      · have hk1 := x.toInCall.keep
        have hns := x.toInCall.ns
        obtain ⟨h₁, tk, rfl⟩ := x.toInCall.same
        dsimp only at hk1 hns
        have kind : ∀ n, (callEnvC fd s.heap.objs.size (faddr f)).kindOf n = fd.scope.names.lookup n := fun _ => rfl
        have cells : (callEnvC fd s.heap.objs.size (faddr f)).cells = cellsFrom (s.heap.objs.size + 1) fd.scope.names [] := rfl
        have hi : ∀ a, s.heap.objs.size ≤ a → s.heap.get? a = none := by
          intro a ha
          cases e : s.heap.get? a with
          | none => rfl
          | some o => exact absurd (Heap.lt_size e) (Nat.not_lt.mpr ha)
        have ok := cellsFrom_ok fd.scope.names (s.heap.push { cls := .type "dict", data := .dict #[] }) (s.heap.objs.size + 1) [] ⟨fun _ _ hm => (nomatch hm), List.Pairwise.nil⟩ (by rw [Heap.size_push]; exact Nat.le_refl _)
        rw [Heap.size_push] at ok
        let own : List Addr := s.heap.objs.size :: (cellsFrom (s.heap.objs.size + 1) fd.scope.names []).filterMap (fun p => (cellsFrom (s.heap.objs.size + 1) fd.scope.names []).lookup p.1)
        have own0 : ∀ a ∈ own, s.heap.get? a = none := by
          intro a ha
          rcases List.mem_cons.mp ha with rfl | ha
          · exact hi _ (Nat.le_refl _)
          · obtain ⟨⟨n, c⟩, hp, e⟩ := List.mem_filterMap.mp ha
            exact hi _ (Nat.le_trans (Nat.le_succ _) (ok.empty n a (mem_of_lookup e)).2)
        have bnone : ∀ a, s.heap.get? a = none → base.get? a = none := fun a e => by
          cases q : base.get? a with
          | none => rfl
          | some o => have := G.keep a o q; rw [e] at this; cases this
        have G1 : Good base σ h₁ := G.ext hk1
        have nmN : ∀ (i : Nat) n v, (nmOf f (ownOf f))[i]? = some (some n) → (vs.map some ++ List.replicate fn.nl none)[i]? = some (some v) → names[i]? = some n ∧ ∃ val, vals[i]? = some val ∧ VRel base v val := by
          intro i n v h1 h2
          obtain ⟨val, e1, e2⟩ := rv.get (loc_get h2)
          have lt : i < vals.length := (List.getElem?_eq_some_iff.mp e1).1
          have lt' : i < names.length := by rw [F.np, ← lv]; exact lt
          have e3 := F.at_ i names[i] (List.getElem?_eq_getElem lt')
          rw [h1] at e3
          simp only [Option.some.injEq] at e3
          exact ⟨by rw [List.getElem?_eq_getElem lt', e3], val, e1, e2⟩
        have O : Ok (callEnvC fd s.heap.objs.size (faddr f)) (nmOf f (ownOf f)) (vs.map some ++ List.replicate fn.nl none) own base σ h₁ := by
          refine ⟨G1, ⟨F.kind, F.gl, F.bl, List.mem_cons_self, fun a ha => ⟨G.dom (own0 a ha), bnone a (own0 a ha), ?_⟩, ⟨_, hns, fun i n v h1 h2 hkd => ?_⟩, fun n hn => ?_, fun n n' c e e' => ?_, F.inj, ?_⟩⟩
          · rcases List.mem_cons.mp ha with rfl | ha
            · obtain ⟨o, _, _, e, _⟩ := hns; exact ⟨o, e⟩
            · obtain ⟨⟨n, c⟩, hp, e⟩ := List.mem_filterMap.mp ha
              obtain ⟨o, e', _⟩ := x.cell n a e
              exact ⟨o, e'⟩
          · obtain ⟨e1, val, e2, e3⟩ := nmN i n v h1 h2
            exact ⟨val, bindL_get F.nodup e1 e2 hkd, e3⟩
          · have hc : fd.scope.names.lookup n = some .cell := by
              rcases hn with q | q
              · exact q
              · exact absurd q (F.nofree n)
            obtain ⟨c, hcc⟩ := Option.isSome_iff_exists.mp (cellOf n hc)
            have hm := mem_of_lookup hcc
            have hz : s.heap.get? c = none := hi _ (Nat.le_trans (Nat.le_succ _) (ok.empty n c hm).2)
            refine ⟨c, _, hcc, x.cell n c hcc, G.dom hz, bnone c hz, Nat.ne_of_gt (x.above n c hm), fun i w hi' hw => ?_⟩
            obtain ⟨e1, val, e2, e3⟩ := nmN i n w hi' hw
            exact ⟨val, bindC_get F.nodup e1 e2 (by rw [kind, hc]; decide), e3⟩
          · exact name_of_addr x.apart (mem_of_lookup e) (mem_of_lookup e')
          · rw [F.len]; simp [hl]
        refine sndSs X (call_ok X hF k) fn.body _ fd.scope body F.ms (A.deeper _) _ _ own σ _ _ _ _ ⟨hA.1, ?_, ?_⟩ (fun n kd hk => ⟨fun z => absurd (z ▸ hk) (F.nofree n), fun _ => hk⟩) (fun i n c _ _ hl => ?_) O hW fun fl fv m' σ' h' t' O' S' rf q => ?_
        · have := hA.2.1; show A.depth + 1 + 4 * k + 22 < 1000; (clear hl lv; omega)
        · have := hA.2.2; show A.units + 3 + 30 * k + 310 < 9900; (clear hl lv; omega)
        · exact List.mem_cons_of_mem _ (List.mem_filterMap.mpr ⟨(n, c), mem_of_lookup hl, hl⟩)
        · have S1 := S'.fromFresh hk1 own0
          cases fl with
          | next => obtain rfl : fv = .next := rf; exact h .none .none σ' h' t' O'.good S1 rfl q
          | cont => obtain rfl : fv = .cont := rf; exact h .none .none σ' h' t' O'.good S1 rfl q
          | ret v => obtain ⟨val, rfl, r⟩ := rf; exact h v val σ' h' t' O'.good S1 r q
    · exact hW.elim
end
end Pf
end

section
set_option autoImplicit false
set_option maxRecDepth 100000
set_option linter.unusedSimpArgs false
namespace Pf
open PySem (Operator CmpOp UnaryOp)

noncomputable def Ext (σ σ' : AHeap) : Prop := ∀ b o, σ b = some o → σ' b = some o
theorem Ext.refl {σ : AHeap} : Ext σ σ := fun _ _ e => e
theorem Ext.trans {σ σ' σ'' : AHeap} (x : Ext σ σ') (y : Ext σ' σ'') : Ext σ σ'' := fun b o e => y b o (x b o e)
theorem putS {σ : AHeap} {a : Nat} {o : AObj} : put σ a o a = some o := by simp [put]
theorem putN {σ : AHeap} {a b : Nat} {o : AObj} (q : b ≠ a) : put σ a o b = σ b := by simp [put, q]
theorem neOf {σ : AHeap} {a b : Nat} {o : AObj} (h1 : σ a = some o) (h2 : σ b = none) : a ≠ b := fun z => by rw [z, h2] at h1; cases h1
theorem Ext.put {σ σ' : AHeap} {c : Nat} {o : AObj} (x : Ext σ σ') (h : σ c = none) : Ext σ (put σ' c o) := fun b o' e => by
  rw [putN (neOf e h)]; exact x b o' e
theorem put_get {σ : AHeap} {a c : Nat} {o o' : AObj} (h : σ a = some o) (hc : σ c = none) : put σ c o' a = some o := by rw [putN (neOf h hc)]; exact h
theorem put_put {σ : AHeap} {a : Nat} {o o' : AObj} : put (put σ a o) a o' = put σ a o' := by
  funext b; unfold put; split <;> rfl

theorem callW_go {k f : Nat} {fn : Fn} {vs : List AVal} {Q : AVal → AHeap → Prop} {σ : AHeap} (hP : P f = some fn) (hl : vs.length = fn.np)
    (h : wpSs (callW P k) fn.body (vs.map some ++ List.replicate fn.nl none) (fun fl _ σ1 => Q (retOf fl) σ1) σ) : callW P (k + 1) f vs Q σ := by
  rw [callW, hP]; exact ⟨hl, h⟩

/-! bits -/
theorem and_nn (a b : Nat) : PySem.Builtin.bitAnd (a : Int) (b : Int) = ((a &&& b : Nat) : Int) := by
  rw [PyProof.Rows.bitAnd_pp (Int.natCast_nonneg a) (Int.natCast_nonneg b)]; rfl
theorem or_nn (a b : Nat) : PySem.Builtin.bitOr (a : Int) (b : Int) = ((a ||| b : Nat) : Int) := by
  rw [PyProof.Rows.bitOr_and, and_nn]
  have := PyProof.Rows.nat_or_add_and a b
  omega
noncomputable def andn (a b : Nat) : Nat := a - (a &&& b)
theorem and_not (a b : Nat) : PySem.Builtin.bitAnd (a : Int) (-(b : Int) - 1) = ((andn a b : Nat) : Int) := by
  have e : (-(b : Int) - 1) = PySem.Builtin.bitNot (b : Int) := by unfold PySem.Builtin.bitNot; rfl
  rw [e, PyProof.Rows.bitAnd_not, and_nn]
  have : a &&& b ≤ a := Nat.and_le_left
  unfold andn
  (clear e; omega)
theorem andn_eq (a b : Nat) : andn a b = a ^^^ (a &&& b) := by
  have e1 : (a ^^^ (a &&& b)) ||| (a &&& b) = a := Nat.eq_of_testBit_eq fun i => by
    rw [Nat.testBit_or, Nat.testBit_xor, Nat.testBit_and]; cases a.testBit i <;> cases b.testBit i <;> rfl
  have e2 : (a ^^^ (a &&& b)) &&& (a &&& b) = 0 := Nat.eq_of_testBit_eq fun i => by
    rw [Nat.testBit_and, Nat.testBit_xor, Nat.testBit_and, Nat.zero_testBit]; cases a.testBit i <;> cases b.testBit i <;> rfl
  have h := PyProof.Rows.nat_or_add_and (a ^^^ (a &&& b)) (a &&& b)
  rw [e1, e2] at h
  exact (Nat.eq_sub_of_add_eq h.symm).symm
theorem andn_bit (i : Nat) : ∀ a b : Nat, (andn a b).testBit i = (a.testBit i && !b.testBit i) := by
  intro a b
  rw [andn_eq, Nat.testBit_xor, Nat.testBit_and]; cases a.testBit i <;> cases b.testBit i <;> rfl

section
variable {Q : AVal → AHeap → Prop} {σ : AHeap}
theorem bAnd {a b : Nat} (h : Q (.int ((a &&& b : Nat) : Int)) σ) : binW .BitAnd (.int (a : Int)) (.int (b : Int)) Q σ := by simp only [Bi9]; rw [and_nn]; exact h
theorem bOr {a b : Nat} (h : Q (.int ((a ||| b : Nat) : Int)) σ) : binW .BitOr (.int (a : Int)) (.int (b : Int)) Q σ := by simp only [Bi10]; rw [or_nn]; exact h
theorem bAndN {a b : Nat} (h : Q (.int ((andn a b : Nat) : Int)) σ) : binW .BitAnd (.int (a : Int)) (.int (-(b : Int) - 1)) Q σ := by simp only [Bi9]; rw [and_not]; exact h
theorem bAdd {a b : Nat} (h : Q (.int ((a + b : Nat) : Int)) σ) : binW .Add (.int (a : Int)) (.int (b : Int)) Q σ := by simp only [Bi1]; rw [← Int.natCast_add]; exact h
theorem bSub {a b : Nat} (hb : b ≤ a) (h : Q (.int ((a - b : Nat) : Int)) σ) : binW .Sub (.int (a : Int)) (.int (b : Int)) Q σ := by simp only [Bi2]; rw [← Int.ofNat_sub hb]; exact h
theorem bMul {a b : Nat} (ha : a ≤ 1152921504606846976) (h : Q (.int ((a * b : Nat) : Int)) σ) : binW .Mult (.int (a : Int)) (.int (b : Int)) Q σ := by
  simp only [Bi3]; rw [← Int.natCast_mul]; exact ⟨⟨by (clear ha; omega), by omega⟩, h⟩
theorem bDiv {a b : Nat} (hb : 0 < b) (hb' : b ≤ 1000000000) (h : Q (.int ((a / b : Nat) : Int)) σ) : binW .FloorDiv (.int (a : Int)) (.int (b : Int)) Q σ := by
  simp only [Bi4]; rw [← Int.natCast_ediv]; exact ⟨⟨by (clear hb'; omega), by (clear hb; omega)⟩, h⟩
theorem bMod {a b : Nat} (hb : 0 < b) (h : Q (.int ((a % b : Nat) : Int)) σ) : binW .Mod (.int (a : Int)) (.int (b : Int)) Q σ := by
  simp only [Bi5]; rw [← Int.natCast_emod]; exact ⟨by omega, h⟩
theorem pow_cast (n : Nat) : (2 : Int) ^ (n : Int).toNat = ((2 ^ n : Nat) : Int) := by rw [Int.toNat_natCast]; simp
theorem bShr {a n : Nat} (h : Q (.int ((a >>> n : Nat) : Int)) σ) : binW .RShift (.int (a : Int)) (.int (n : Int)) Q σ := by
  simp only [Bi8]
  rw [pow_cast, ← Int.natCast_ediv, ← Nat.shiftRight_eq_div_pow]
  exact ⟨⟨by omega, by omega⟩, h⟩
theorem bShl {a n : Nat} (ha : a ≤ 1152921504606846976) (hn : n ≤ 64) (h : Q (.int ((a <<< n : Nat) : Int)) σ) : binW .LShift (.int (a : Int)) (.int (n : Int)) Q σ := by
  simp only [Bi7]
  rw [pow_cast, ← Int.natCast_mul, ← Nat.shiftLeft_eq]
  exact ⟨⟨⟨by (clear ha hn; omega), by omega⟩, by (clear ha hn; omega), by (clear ha; omega)⟩, h⟩
theorem bPow {n : Nat} (hn : n ≤ 64) (h : Q (.int ((2 ^ n : Nat) : Int)) σ) : binW .Pow (.int 2) (.int (n : Int)) Q σ := by
  simp only [Bi6]
  rw [pow_cast]
  exact ⟨⟨trivial, by (clear hn; omega), by omega⟩, h⟩
end

theorem augI {o : Operator} {a b : Int} {Q : AVal → AHeap → Prop} {σ : AHeap} (h : binW o (.int a) (.int b) Q σ) : augW o (.int a) (.int b) Q σ := by cases o <;> exact h
/-- the set bits below n -/
noncomputable def setN (n b : Nat) : List Nat := (List.range n).filter fun i => b.testBit i
noncomputable def natI (l : List Nat) : List Int := l.map fun (i : Nat) => (i : Int)
theorem setN_succ (n b : Nat) : setN (n + 1) b = setN n b ++ (if b.testBit n then [n] else []) := by
  unfold setN
  rw [List.range_succ, List.filter_append]
  congr 1
  cases h : b.testBit n <;> simp [h]
theorem setN_add {n b : Nat} (j : Nat) (h : ∀ i, n ≤ i → i < n + j → b.testBit i = false) : setN (n + j) b = setN n b := by
  induction j with
  | zero => rfl
  | succ j ih =>
    rw [← Nat.add_assoc, setN_succ, ih fun i h1 h2 => h i h1 (by omega), h (n + j) (by omega) (by omega)]
    simp
theorem shr_bit (b n i : Nat) : (b >>> n).testBit i = b.testBit (n + i) := by rw [Nat.testBit_shiftRight]
theorem shr_zero {b n : Nat} (h : b >>> n = 0) (i : Nat) (hi : n ≤ i) : b.testBit i = false := by
  have := shr_bit b n (i - n)
  rw [h, Nat.zero_testBit, show n + (i - n) = i by (clear h; omega)] at this
  exact this.symm
theorem shr_lt {b n N : Nat} (hb : b < 2 ^ N) (h : b >>> n ≠ 0) : n < N := by
  rcases Nat.lt_or_ge n N with q | q
  · exact q
  · exfalso; apply h
    rw [Nat.shiftRight_eq_div_pow]
    exact Nat.div_eq_of_lt (Nat.lt_of_lt_of_le hb (Nat.pow_le_pow_right (by decide) q))
theorem low4 {b n : Nat} (h : (b >>> n) &&& 15 = 0) (i : Nat) (h1 : n ≤ i) (h2 : i < n + 4) : b.testBit i = false := by
  have := shr_bit b n (i - n)
  rw [show n + (i - n) = i by (clear h h2; omega)] at this
  rw [← this]
  have q : ((b >>> n) &&& 15).testBit (i - n) = false := by rw [h]; simp
  rw [Nat.testBit_and] at q
  have : (15 : Nat).testBit (i - n) = true := by
    have hlt : i - n < 4 := by (clear h h1; omega)
    generalize i - n = j at hlt
    revert j; decide
  rw [this, Bool.and_true] at q
  exact q
theorem shr4_ne {b n : Nat} (h : (b >>> n) &&& 15 = 0) (h0 : b >>> n ≠ 0) : b >>> (n + 4) ≠ 0 := by
  intro z
  apply h0
  apply Nat.eq_of_testBit_eq
  intro i
  rw [Nat.zero_testBit]
  by_cases q : i < 4
  · rw [shr_bit]; exact low4 h (n + i) (by (clear h q z; omega)) (by (clear h z; omega))
  · rw [shr_bit]; exact shr_zero z (n + i) (by (clear h z; omega))

theorem zs_append (a b : List Int) : zs (a ++ b) = zs a ++ zs b := by simp [zs]
theorem ints_append (a b : List Nat) : natI (a ++ b) = natI a ++ natI b := by simp [natI]

theorem while_rule {cw : CW} {t : Ex} {b : List St} {Q : AFlow → Loc → AHeap → Prop} (I : Nat → Loc → AHeap → Prop)
    (step : ∀ n m σ, I n m σ → ∀ K : Loc → AHeap → Prop, (∀ n' m2 σ2, n' < n → I n' m2 σ2 → K m2 σ2) →
      wpT cw t m (fun c σ1 => match c with
        | true => wpSs cw b m (fun f m2 σ2 => match f with | .ret w => Q (.ret w) m2 σ2 | _ => K m2 σ2) σ1
        | false => Q .next m σ1) σ) {n : Nat} {m : Loc} {σ : AHeap} (h : I n m σ) : wpS cw (.whl t b) m Q σ := by
  have go : ∀ fuel n m σ, n < fuel → I n m σ → whileN (fun m Q σ => wpT cw t m Q σ) (fun m Q σ => wpSs cw b m Q σ) Q fuel m σ := by
    intro fuel
    induction fuel with
    | zero => intro n m σ hn; omega
    | succ fuel ih =>
      intro n m σ hn hI
      exact step n m σ hI (fun m2 σ2 => whileN (fun m Q σ => wpT cw t m Q σ) (fun m Q σ => wpSs cw b m Q σ) Q fuel m2 σ2) fun n' m2 σ2 hlt hI' => ih n' m2 σ2 (by omega) hI'
  rw [Ws11]
  exact ⟨n + 1, go (n + 1) n m σ (Nat.lt_succ_self n) h⟩

theorem forN_rule {cw : CW} {b : List St} {bind : AVal → (Loc → Prop) → Loc → AHeap → Prop} {a : Nat} {o : AObj} {all : List AVal} {Q : AFlow → Loc → AHeap → Prop} (I : Nat → Loc → AHeap → Prop)
    (step : ∀ i v m σ, all[i]? = some v → I i m σ → ∀ K : Loc → AHeap → Prop, (∀ m2 σ2, I (i + 1) m2 σ2 → K m2 σ2) →
      bind v (fun m1 => wpSs cw b m1 (fun f m2 σ2 => match f with | .ret w => Q (.ret w) m2 σ2 | _ => K m2 σ2) σ) m σ)
    (stay : ∀ i m σ, I i m σ → σ a = some o) (fin : ∀ m σ, I all.length m σ → Q .next m σ) {m : Loc} {σ : AHeap} (h : I 0 m σ) :
    forN (fun m Q σ => wpSs cw b m Q σ) bind a o Q all m σ := by
  have go : ∀ (l : List AVal) (i : Nat) m σ, i + l.length = all.length → (∀ j, l[j]? = all[i + j]?) → I i m σ → forN (fun m Q σ => wpSs cw b m Q σ) bind a o Q l m σ := by
    intro l
    induction l with
    | nil =>
      intro i m σ hl _ hI
      rw [forN]
      have : i = all.length := by simpa using hl
      exact fin m σ (this ▸ hI)
    | cons v r ih =>
      intro i m σ hl hg hI
      rw [forN]
      have hv : all[i]? = some v := by have := hg 0; simpa using this.symm
      refine step i v m σ hv hI (fun m2 σ2 => σ2 a = some o ∧ forN (fun m Q σ => wpSs cw b m Q σ) bind a o Q r m2 σ2) fun m2 σ2 hI' => ⟨stay _ _ _ hI', ih (i + 1) m2 σ2 (by simp at hl; omega) (fun j => ?_) hI'⟩
      have := hg (j + 1)
      rw [List.getElem?_cons_succ] at this
      rw [this]; congr 1; (clear hl; omega)
  exact go all 0 m σ (by simp) (by simp) h

theorem spec_squares_of {k N b : Nat} {Q : AVal → AHeap → Prop} {σ : AHeap} (hb : b < 2 ^ N) (hN : N ≤ 1000)
    (h : ∀ c σ', σ c = none → Ext σ σ' → σ' c = some (.list (zs (natI (setN N b)))) → Q (.ref c) σ') : callW P (k + 1) 0 [.int (b : Int)] Q σ := by
  refine callW_go rfl rfl ?_
  simp only [B_squares_of]
  refine K1 ?_
  simp only [We22, Wes1, retOf, List.set_cons_zero, List.set_cons_succ, List.map_cons, List.map_nil, List.replicate_succ, List.replicate_zero, List.nil_append, List.cons_append, List.length_nil]
  refine ⟨by decide, fun c hc => ?_⟩
  refine while_rule (fun n m τ => ∃ sq, n = N - sq ∧ sq ≤ N ∧ m = [some (.int ((b >>> sq : Nat) : Int)), some (.ref c), some (.int (sq : Int))] ∧ Ext σ τ ∧ τ c = some (.list (zs (natI (setN sq b))))) ?_
    (n := N) ⟨0, rfl, Nat.zero_le _, rfl, Ext.refl.put hc, putS⟩
  rintro n m τ ⟨sq, rfl, hs, rfl, hE, hc'⟩ K hK
  simp only [Wt8, varW, truthW, List.getElem?_cons_zero]
  by_cases hz : b >>> sq = 0
  · rw [hz]
    simp only [Int.natCast_zero, decide_true, Bool.not_true]
    refine h c τ hc hE ?_
    rw [hc', show N = sq + (N - sq) by (clear hb hz; omega), setN_add (N - sq) fun i h1 _ => shr_zero hz i h1]
  · have hz' : decide (((b >>> sq : Nat) : Int) = 0) = false := by rw [decide_eq_false_iff_not]; (clear hN hb hs; omega)
    rw [hz']
    simp only [Bool.not_false]
    rw [Wss2]
    refine while_rule (fun n m τ' => ∃ sq', n = N - sq' ∧ τ' = τ ∧ sq ≤ sq' ∧ b >>> sq' ≠ 0 ∧ m = [some (.int ((b >>> sq' : Nat) : Int)), some (.ref c), some (.int (sq' : Int))] ∧ τ c = some (.list (zs (natI (setN sq' b))))) ?_
      (n := N - sq) ⟨sq, rfl, rfl, Nat.le_refl _, hz, rfl, hc'⟩
    rintro n m τ' ⟨sq', rfl, rfl, hs1, hz1, rfl, hc1⟩ K1 hK1
    have hlt := shr_lt hb hz1
    simp only [Wt1, Wt9, We1, We2, varW, List.getElem?_cons_zero]
    refine bAnd (a := b >>> sq') (b := 15) ?_
    simp only [truthW, Bool.not_not]
    by_cases h4 : (b >>> sq') &&& 15 = 0
    · rw [h4]
      simp only [Int.natCast_zero, decide_true, Wss1, Wss2, Ws5, We1, varW, List.getElem?_cons_zero, List.getElem?_cons_succ, List.set_cons_zero, List.set_cons_succ]
      refine augI (bShr (a := b >>> sq') (n := 4) ?_)
      refine augI (bAdd (a := sq') (b := 4) ?_)
      rw [← Nat.shiftRight_add]
      have hz4 := shr4_ne h4 hz1
      refine hK1 (N - (sq' + 4)) _ _ (by (clear h4 hb hs; omega)) ⟨sq' + 4, rfl, rfl, by (clear h4 hN hb hs; omega), hz4, rfl, ?_⟩
      rw [hc1, setN_add 4 fun i h1 h2 => low4 h4 i h1 h2]
    · have h4' : decide ((((b >>> sq') &&& 15 : Nat) : Int) = 0) = false := by
        rw [decide_eq_false_iff_not]; (clear hb; omega)
      rw [h4']
      simp only [Wss1, Wss2, Ws5, Ws8, Ws10, Wt9, varW, We1, We2, We21, isList, List.getElem?_cons_zero, List.getElem?_cons_succ, List.set_cons_zero, List.set_cons_succ]
      refine bAnd (a := b >>> sq') (b := 1) ?_
      have odd : ((b >>> sq') &&& 1) = if b.testBit sq' then 1 else 0 := by
        rw [Nat.and_one_is_mod]
        have := Nat.testBit_zero (b >>> sq')
        rw [shr_bit, Nat.add_zero] at this
        rw [this]
        rcases Nat.mod_two_eq_zero_or_one (b >>> sq') with q | q <;> simp [q]
      rw [odd]
      have fin : ∀ τ2, Ext σ τ2 → τ2 c = some (.list (zs (natI (setN (sq' + 1) b)))) →
          augW .RShift (.int ((b >>> sq' : Nat) : Int)) (.int 1) (fun r σ2 => augW .Add (.int (sq' : Int)) (.int 1) (fun r_1 σ2 => K [some r, some (.ref c), some r_1] σ2) σ2) τ2 := by
        intro τ2 hE2 hc2
        refine augI (bShr (a := b >>> sq') (n := 1) ?_)
        refine augI (bAdd (a := sq') (b := 1) ?_)
        rw [← Nat.shiftRight_add]
        exact hK (N - (sq' + 1)) _ _ (by (clear hb hc2 odd; omega)) ⟨sq' + 1, rfl, by (clear hb hs odd; omega), rfl, hE2, hc2⟩
      cases hbit : b.testBit sq' with
      | true =>
        simp only [if_true, truthW, hc1, appW]
        refine ⟨trivial, by simp [zs, natI, setN]; exact Nat.le_trans (List.length_filter_le _ _) (by simp; (clear hb hs odd; omega)), trivial, ?_⟩
        refine fin _ (hE.put hc) ?_
        rw [putS, setN_succ, hbit, ints_append, zs_append]; rfl
      | false =>
        simp only [truthW]
        refine fin _ hE ?_
        rw [hc1, setN_succ, hbit]; simp
end Pf
end

section
set_option autoImplicit false
set_option maxRecDepth 100000
namespace Pf
open PySem (Operator CmpOp UnaryOp)

/-! An interpreter of the abstract machine: objects by their index. -/
noncomputable abbrev IH := List AObj
noncomputable abbrev IC := Nat → List AVal → IH → Option (AVal × IH)

noncomputable def iBinI (o : Operator) (a b : Int) (H : IH) : Option (AVal × IH) := match o with
  | .Add => some (.int (a + b), H)
  | .Sub => some (.int (a - b), H)
  | .Mult => if -1000000 ≤ a ∧ a ≤ 1000000 then some (.int (a * b), H) else none
  | .FloorDiv => if 0 < b ∧ b ≤ 1000000000 then some (.int (a / b), H) else none
  | .Mod => if 0 < b then some (.int (a % b), H) else none
  | .LShift => if -1152921504606846976 ≤ a ∧ a ≤ 1152921504606846976 ∧ 0 ≤ b ∧ b ≤ 64 then some (.int (a * 2 ^ b.toNat), H) else none
  | .RShift => if 0 ≤ a ∧ 0 ≤ b then some (.int (a / 2 ^ b.toNat), H) else none
  | .BitAnd => some (.int (PySem.Builtin.bitAnd a b), H)
  | .BitOr => some (.int (PySem.Builtin.bitOr a b), H)
  | _ => none
noncomputable def iRep (a : Nat) (n : Int) (H : IH) : Option (AVal × IH) := match H[a]? with
    | some (.list [x]) => if 0 ≤ n ∧ n ≤ 1000 then some (.ref H.length, H ++ [.list (List.replicate n.toNat x)]) else none
    | _ => none
noncomputable def iBin (o : Operator) (x y : AVal) (H : IH) : Option (AVal × IH) := match x, y with
  | .int a, .int b => iBinI o a b H
  | .ref a, .int n => (match o with
    | .Mult => iRep a n H
    | _ => none)
  | _, _ => none
noncomputable def iAug (o : Operator) (x y : AVal) (H : IH) : Option (AVal × IH) := match x, y with
  | .int a, .int b => iBin o (.int a) (.int b) H
  | _, _ => none
noncomputable def iUna (o : UnaryOp) (x : AVal) : Option AVal := match o, x with
  | .USub, .int a => some (.int (-a))
  | .Invert, .int a => some (.int (-a - 1))
  | _, _ => none
noncomputable def iCmp (o : CmpOp) (x y : AVal) : Option Bool := match x, y with
  | .int a, .int b => icmp o a b
  | _, _ => none
noncomputable def iTruth (x : AVal) : Option Bool := match x with
  | .int a => some (!decide (a = 0))
  | .bool b => some b
  | _ => none
noncomputable def iAttr (x : AVal) (f : Nat) (H : IH) : Option AVal := match x with
  | .ref a => match H[a]? with
    | some (.inst _ d) => match H[d]? with
      | some (.dict fs) => fs.lookup f
      | _ => none
    | _ => none
  | _ => none
noncomputable def iSetA (x : AVal) (f : Nat) (v : AVal) (H : IH) : Option IH := match x with
  | .ref a => match H[a]? with
    | some (.inst _ d) => match H[d]? with
      | some (.dict fs) => if fs.length ≤ 100 then some (H.set d (.dict (putF fs f v))) else none
      | _ => none
    | _ => none
  | _ => none
noncomputable def iSeq (H : IH) : AVal → Option (List AVal)
  | .ref a => match H[a]? with
    | some (.list xs) => some xs
    | some (.tup xs) => some xs
    | _ => none
  | .cst _ _ ns => some (zs ns)
  | _ => none
noncomputable def iSub (x i : AVal) (H : IH) : Option AVal := match i with
  | .int k => match iSeq H x with
    | some xs => if 0 ≤ k ∧ k < 1000000 then xs[k.toNat]? else none
    | none => none
  | _ => none
noncomputable def iSetS (x i v : AVal) (H : IH) : Option IH := match x, i with
  | .ref a, .int k => match H[a]? with
    | some (.list xs) => if 0 ≤ k ∧ k.toNat < xs.length ∧ xs.length ≤ 1000000 then some (H.set a (.list (xs.set k.toNat v))) else none
    | _ => none
  | _, _ => none
noncomputable def iApp (x v : AVal) (H : IH) : Option (AVal × IH) := match x with
  | .ref a => match H[a]? with
    | some (.list xs) => if xs.length ≤ 1000000 then some (.none, H.set a (.list (xs ++ [v]))) else none
    | _ => none
  | _ => none
noncomputable def iIsList (H : IH) (x : AVal) : Bool := match x with
  | .ref a => match H[a]? with
    | some (.list _) => true
    | _ => false
  | _ => false
noncomputable def isRef : AVal → Bool
  | .ref _ => true
  | _ => false

/-! partial steps, and what they tell when they go through -/
section
variable {α β : Type}
noncomputable def oB (x : Option (α × IH)) (F : α → IH → Option β) : Option β := Option.casesOn x none fun p => F p.1 p.2
theorem oB_i {x : Option (α × IH)} {F : α → IH → Option β} {r : β} (h : oB x F = some r) : ∃ a H, x = some (a, H) ∧ F a H = some r := by
  cases x with
  | none => cases h
  | some p => exact ⟨p.1, p.2, rfl, h⟩
noncomputable def oV (x : Option α) (F : α → Option β) : Option β := Option.casesOn x none F
theorem oV_i {x : Option α} {F : α → Option β} {r : β} (h : oV x F = some r) : ∃ a, x = some a ∧ F a = some r := by
  cases x with
  | none => cases h
  | some p => exact ⟨p, rfl, h⟩
noncomputable def oW (x : Option (Option α)) (F : α → Option β) : Option β := oV x fun y => oV y F
theorem oW_i {x : Option (Option α)} {F : α → Option β} {r : β} (h : oW x F = some r) : ∃ a, x = some (some a) ∧ F a = some r := by
  obtain ⟨y, e, h⟩ := oV_i h
  obtain ⟨a, e', h⟩ := oV_i h
  exact ⟨a, by rw [e, e'], h⟩
noncomputable def oI (c : Prop) [Decidable c] (x : Option β) : Option β := if c then x else none
theorem oI_i {c : Prop} [Decidable c] {x : Option β} {r : β} (h : oI c x = some r) : c ∧ x = some r := by
  unfold oI at h
  by_cases q : c
  · rw [if_pos q] at h; exact ⟨q, h⟩
  · rw [if_neg q] at h; cases h
noncomputable def isNoB (v : AVal) : Bool := AVal.casesOn v (fun _ => false) (fun _ => false) true (fun _ => false) (fun _ _ _ => false)
theorem isNoB_i {v : AVal} (h : isNoB v = true) : v = .none := by cases v <;> first | rfl | cases h
noncomputable def oR (v : AVal) (F : Nat → Option β) : Option β := AVal.casesOn v (fun _ => none) (fun _ => none) none F (fun _ _ _ => none)
theorem oR_i {v : AVal} {F : Nat → Option β} {r : β} (h : oR v F = some r) : ∃ a, v = .ref a ∧ F a = some r := by
  cases v <;> first | exact ⟨_, rfl, h⟩ | cases h
noncomputable def oRg (o : AObj) (F : Int → Int → Int → Option β) : Option β := AObj.casesOn o (fun _ => none) (fun _ => none) (fun _ _ => none) (fun _ => none) F
theorem oRg_i {o : AObj} {F : Int → Int → Int → Option β} {r : β} (h : oRg o F = some r) : ∃ lo hi st, o = .range lo hi st ∧ F lo hi st = some r := by
  cases o <;> first | exact ⟨_, _, _, rfl, h⟩ | cases h
end

noncomputable def oII {β : Type} (v : AVal) (F : Int → Option β) : Option β := AVal.casesOn v F (fun _ => none) none (fun _ => none) (fun _ _ _ => none)
theorem oII_i {β : Type} {v : AVal} {F : Int → Option β} {r : β} (h : oII v F = some r) : ∃ a, v = .int a ∧ F a = some r := by
  cases v <;> first | exact ⟨_, rfl, h⟩ | cases h
noncomputable def iRange (as : List AVal) (H : IH) : Option (AVal × IH) := List.casesOn as none fun x r => oII x fun a => List.casesOn r (oI (-1000000 ≤ a ∧ a ≤ 1000000) (some (.ref H.length, H ++ [.range 0 a 1]))) fun y r => oII y fun b =>
  List.casesOn r none fun z r => oII z fun s => oI (r.isEmpty = true) (oI (-1000000 ≤ a ∧ a ≤ 1000000 ∧ -1000000 ≤ b ∧ b ≤ 1000000 ∧ (s = 1 ∨ s = -1)) (some (.ref H.length, H ++ [.range a b s])))

/-! views in a test -/
theorem noTI {a : Prop} (h : false = true) : a := Bool.noConfusion h
noncomputable def bO {α : Type} (x : Option α) (F : α → Bool) : Bool := Option.casesOn x false F
theorem bO_i {α : Type} {x : Option α} {F : α → Bool} (h : bO x F = true) : ∃ a, x = some a ∧ F a = true := by cases x <;> first | exact noTI h | exact ⟨_, rfl, h⟩
noncomputable def bC {α : Type} (x : List α) (F : α → List α → Bool) : Bool := List.casesOn x false F
theorem bC_i {α : Type} {x : List α} {F : α → List α → Bool} (h : bC x F = true) : ∃ a r, x = a :: r ∧ F a r = true := by cases x <;> first | exact noTI h | exact ⟨_, _, rfl, h⟩
noncomputable def aInt (v : AVal) (F : Int → Bool) : Bool := AVal.casesOn v F (fun _ => false) false (fun _ => false) (fun _ _ _ => false)
theorem aInt_i {v : AVal} {F : Int → Bool} (h : aInt v F = true) : ∃ i, v = .int i ∧ F i = true := by cases v <;> first | exact noTI h | exact ⟨_, rfl, h⟩
noncomputable def aBool (v : AVal) (F : Bool → Bool) : Bool := AVal.casesOn v (fun _ => false) F false (fun _ => false) (fun _ _ _ => false)
theorem aBool_i {v : AVal} {F : Bool → Bool} (h : aBool v F = true) : ∃ i, v = .bool i ∧ F i = true := by cases v <;> first | exact noTI h | exact ⟨_, rfl, h⟩
noncomputable def aRef (v : AVal) (F : Nat → Bool) : Bool := AVal.casesOn v (fun _ => false) (fun _ => false) false F (fun _ _ _ => false)
theorem aRef_i {v : AVal} {F : Nat → Bool} (h : aRef v F = true) : ∃ i, v = .ref i ∧ F i = true := by cases v <;> first | exact noTI h | exact ⟨_, rfl, h⟩
noncomputable def wLst (o : AObj) (F : List AVal → Bool) : Bool := AObj.casesOn o F (fun _ => false) (fun _ _ => false) (fun _ => false) (fun _ _ _ => false)
theorem wLst_i {o : AObj} {F : List AVal → Bool} (h : wLst o F = true) : ∃ xs, o = .list xs ∧ F xs = true := by cases o <;> first | exact noTI h | exact ⟨_, rfl, h⟩
noncomputable def wTup (o : AObj) (F : List AVal → Bool) : Bool := AObj.casesOn o (fun _ => false) F (fun _ _ => false) (fun _ => false) (fun _ _ _ => false)
theorem wTup_i {o : AObj} {F : List AVal → Bool} (h : wTup o F = true) : ∃ xs, o = .tup xs ∧ F xs = true := by cases o <;> first | exact noTI h | exact ⟨_, rfl, h⟩
noncomputable def wInst (o : AObj) (F : Nat → Nat → Bool) : Bool := AObj.casesOn o (fun _ => false) (fun _ => false) F (fun _ => false) (fun _ _ _ => false)
theorem wInst_i {o : AObj} {F : Nat → Nat → Bool} (h : wInst o F = true) : ∃ c d, o = .inst c d ∧ F c d = true := by cases o <;> first | exact noTI h | exact ⟨_, _, rfl, h⟩
noncomputable def wDict (o : AObj) (F : List (Nat × AVal) → Bool) : Bool := AObj.casesOn o (fun _ => false) (fun _ => false) (fun _ _ => false) F (fun _ _ _ => false)
theorem wDict_i {o : AObj} {F : List (Nat × AVal) → Bool} (h : wDict o F = true) : ∃ fs, o = .dict fs ∧ F fs = true := by cases o <;> first | exact noTI h | exact ⟨_, rfl, h⟩
theorem andI {a b : Bool} (h : (a && b) = true) : a = true ∧ b = true := Bool.and_eq_true_iff.mp h

mutual
noncomputable def iE (cw : IC) : Ex → Loc → IH → Option (AVal × IH)
  | .lit v, _, H => oI (isRef v = false) (some (v, H))
  | .var i, m, H => oW m[i]? fun v => some (v, H)
  | .bin o l r, m, H => oB (iE cw l m H) fun a H1 => oB (iE cw r m H1) fun b H2 => iBin o a b H2
  | .una o e, m, H => oB (iE cw e m H) fun a H1 => oV (iUna o a) fun b => some (b, H1)
  | .cmp o l r, m, H => oB (iE cw l m H) fun a H1 => oB (iE cw r m H1) fun b H2 => oV (iCmp o a b) fun c => some (.bool c, H2)
  | .and es, m, H => iB cw true es m H
  | .or es, m, H => iB cw false es m H
  | .attr e f, m, H => oB (iE cw e m H) fun a H1 => oV (iAttr a f H1) fun b => some (b, H1)
  | .sub e i, m, H => oB (iE cw e m H) fun a H1 => oB (iE cw i m H1) fun b H2 => oV (iSub a b H2) fun c => some (c, H2)
  | .call f as, m, H => oB (iEs cw as m H) fun vs H1 => cw f vs H1
  | .new c f as, m, H => oB (iEs cw as m H) fun vs H1 => oB (cw f (.ref (H1.length + 1) :: vs) (H1 ++ [.dict []] ++ [.inst c H1.length])) fun u H2 => oI (isNoB u = true) (some (.ref (H1.length + 1), H2))
  | .range as, m, H => oB (iEs cw as m H) fun vs H1 => iRange vs H1
  | .app o e, m, H => oB (iE cw o m H) fun a H1 => oI (iIsList H1 a = true) (oB (iE cw e m H1) fun b H2 => iApp a b H2)
  | .list es, m, H => oB (iEs cw es m H) fun vs H1 => oI (vs.length ≤ 1000) (some (.ref H1.length, H1 ++ [.list vs]))
  | .tup es, m, H => oB (iEs cw es m H) fun vs H1 => oI (vs.length ≤ 1000) (some (.ref H1.length, H1 ++ [.tup vs]))
  | _, _, _ => none
noncomputable def iT (cw : IC) : Ex → Loc → IH → Option (Bool × IH)
  | .or es, m, H => iTs cw false es m H
  | .and es, m, H => iTs cw true es m H
  | .cmp o l r, m, H => oB (iE cw l m H) fun a H1 => oB (iE cw r m H1) fun b H2 => oV (iCmp o a b) fun c => some (c, H2)
  | .bin o l r, m, H => oB (iE cw l m H) fun a H1 => oB (iE cw r m H1) fun b H2 => oB (iBin o a b H2) fun v H3 => oV (iTruth v) fun c => some (c, H3)
  | .attr e f, m, H => oB (iE cw e m H) fun a H1 => oV (iAttr a f H1) fun v => oV (iTruth v) fun c => some (c, H1)
  | .call f as, m, H => oB (iEs cw as m H) fun vs H1 => oB (cw f vs H1) fun v H3 => oV (iTruth v) fun c => some (c, H3)
  | _, _, _ => none
noncomputable def iEs (cw : IC) : List Ex → Loc → IH → Option (List AVal × IH)
  | [], _, H => some ([], H)
  | e :: r, m, H => oB (iE cw e m H) fun v H1 => oB (iEs cw r m H1) fun vs H2 => some (v :: vs, H2)
noncomputable def iB (cw : IC) (isAnd : Bool) : List Ex → Loc → IH → Option (AVal × IH)
  | [], _, _ => none
  | [e], m, H => iE cw e m H
  | e :: f :: r, m, H => oB (iE cw e m H) fun v H1 => oV (iTruth v) fun b => if b = isAnd then iB cw isAnd (f :: r) m H1 else some (v, H1)
noncomputable def iTs (cw : IC) (isAnd : Bool) : List Ex → Loc → IH → Option (Bool × IH)
  | [], _, H => some (isAnd, H)
  | e :: r, m, H => oB (iT cw e m H) fun b H1 => if b = isAnd then iTs cw isAnd r m H1 else some (!isAnd, H1)
end

noncomputable def oF {β : Type} (x : Option (AFlow × Loc × IH)) (F : AFlow → Loc → IH → Option β) : Option β := Option.casesOn x none fun p => F p.1 p.2.1 p.2.2
theorem oF_i {β : Type} {x : Option (AFlow × Loc × IH)} {F : AFlow → Loc → IH → Option β} {r : β} (h : oF x F = some r) : ∃ f m H, x = some (f, m, H) ∧ F f m H = some r := by
  cases x with
  | none => cases h
  | some p => exact ⟨p.1, p.2.1, p.2.2, rfl, h⟩
noncomputable def notRet (f : AFlow) : Bool := AFlow.casesOn f true true fun _ => false
noncomputable def iFor (B : Loc → IH → Option (AFlow × Loc × IH)) (i a : Nat) (lo hi st : Int) : List Int → Loc → IH → Option (AFlow × Loc × IH)
  | [], m, H => some (.next, m, H)
  | n :: r, m, H => oF (B (m.set i (some (.int n))) H) fun fl m1 H1 => oI (notRet fl = true) (oV H1[a]? fun o => oRg o fun lo' hi' st' => oI (lo' = lo ∧ hi' = hi ∧ st' = st) (iFor B i a lo hi st r m1 H1))

mutual
noncomputable def iS (cw : IC) : St → Loc → IH → Option (AFlow × Loc × IH)
  | .asg i e, m, H => oB (iE cw e m H) fun v H1 => some (.next, m.set i (some v), H1)
  | .asgA o f e, m, H => oB (iE cw e m H) fun v H1 => oB (iE cw o m H1) fun a H2 => oV (iSetA a f v H2) fun H3 => some (.next, m, H3)
  | .asgS o i e, m, H => oB (iE cw e m H) fun v H1 => oB (iE cw o m H1) fun a H2 => oB (iE cw i m H2) fun k H3 => oV (iSetS a k v H3) fun H4 => some (.next, m, H4)
  | .augV op i e, m, H => oW m[i]? fun a => oB (iE cw e m H) fun v H1 => oB (iAug op a v H1) fun r H2 => some (.next, m.set i (some r), H2)
  | .augS op o i e, m, H => oB (iE cw o m H) fun a H1 => oB (iE cw i m H1) fun k H2 => oV (iSub a k H2) fun old => oB (iE cw e m H2) fun v H3 => oB (iAug op old v H3) fun r H4 =>
      oV (iSetS a k r H4) fun H5 => some (.next, m, H5)
  | .ex e, m, H => oB (iE cw e m H) fun u H1 => oI (isNoB u = true) (some (.next, m, H1))
  | .ret e, m, H => oB (iE cw e m H) fun v H1 => some (.ret v, m, H1)
  | .iff t a b, m, H => oB (iT cw t m H) fun c H1 => Bool.casesOn c (iSs cw b m H1) (iSs cw a m H1)
  | .forV i it b, m, H => oB (iE cw it m H) fun x H1 => oR x fun a => oV H1[a]? fun o => oRg o fun lo hi st => iFor (fun m H => iSs cw b m H) i a lo hi st (rangeL lo hi st) m H1
  | _, _, _ => none
noncomputable def iSs (cw : IC) : List St → Loc → IH → Option (AFlow × Loc × IH)
  | [], m, H => some (.next, m, H)
  | s :: r, m, H => oF (iS cw s m H) fun f m1 H1 => AFlow.casesOn f (iSs cw r m1 H1) (some (.cont, m1, H1)) fun v => some (.ret v, m1, H1)
end

noncomputable def iCall : Nat → IC
  | 0, _, _, _ => none
  | k + 1, f, vs, H => oV (P f) fun fn => oI (vs.length = fn.np) (oF (iSs (iCall k) fn.body (vs.map some ++ List.replicate fn.nl none) H) fun fl _ H1 => some (retOf fl, H1))

noncomputable def geoRun (f r : Int) (dbl : Bool) : Option (AVal × IH) := iCall 8 27 [.int f, .int r, .bool dbl, .bool false] []
end Pf
end

section
set_option autoImplicit false
set_option maxRecDepth 100000
namespace Pf
open PySem (Operator CmpOp UnaryOp)

noncomputable def VR (ρ : List Nat) (u v : AVal) : Prop := match u with
  | .ref i => ∃ a, v = .ref a ∧ ρ[i]? = some a
  | u => v = u
noncomputable def VRS (ρ : List Nat) : List AVal → List AVal → Prop
  | [], [] => True
  | u :: r, v :: s => VR ρ u v ∧ VRS ρ r s
  | _, _ => False
noncomputable def DR (ρ : List Nat) : List (Nat × AVal) → List (Nat × AVal) → Prop
  | [], [] => True
  | (f, u) :: r, (g, v) :: s => (f = g ∧ VR ρ u v) ∧ DR ρ r s
  | _, _ => False
noncomputable def MR (ρ : List Nat) : Loc → Loc → Prop
  | [], [] => True
  | none :: r, none :: s => True ∧ MR ρ r s
  | some u :: r, some v :: s => VR ρ u v ∧ MR ρ r s
  | _, _ => False
noncomputable def OR (ρ : List Nat) (o o' : AObj) : Prop := match o with
  | .list xs => ∃ ys, o' = .list ys ∧ VRS ρ xs ys
  | .tup xs => ∃ ys, o' = .tup ys ∧ VRS ρ xs ys
  | .inst c d => ∃ d', o' = .inst c d' ∧ ρ[d]? = some d'
  | .dict fs => ∃ gs, o' = .dict gs ∧ DR ρ fs gs
  | .range a b c => o' = .range a b c
noncomputable def Pre (ρ ρ' : List Nat) : Prop := ∃ t, ρ' = ρ ++ t
structure HR (ρ : List Nat) (H : IH) (σ0 σ : AHeap) : Prop where
  len : ρ.length = H.length
  nd : ∀ (i j : Nat) a, ρ[i]? = some a → ρ[j]? = some a → i = j
  fr : ∀ (i : Nat) a, ρ[i]? = some a → σ0 a = none
  ext : Ext σ0 σ
  obj : ∀ (i : Nat) o, H[i]? = some o → ∃ a o', ρ[i]? = some a ∧ σ a = some o' ∧ OR ρ o o'

section
variable {ρ ρ' ρ'' : List Nat}
theorem Pre.refl : Pre ρ ρ := ⟨[], by simp⟩
theorem Pre.trans (x : Pre ρ ρ') (y : Pre ρ' ρ'') : Pre ρ ρ'' := by
  obtain ⟨t, rfl⟩ := x; obtain ⟨u, rfl⟩ := y; exact ⟨t ++ u, by simp⟩
theorem Pre.push {c : Nat} : Pre ρ (ρ ++ [c]) := ⟨[c], rfl⟩
theorem Pre.get (x : Pre ρ ρ') {i a : Nat} (h : ρ[i]? = some a) : ρ'[i]? = some a := by
  obtain ⟨t, rfl⟩ := x
  have := (List.getElem?_eq_some_iff.mp h).1
  rw [List.getElem?_append_left this]; exact h
theorem VR.mono (x : Pre ρ ρ') {u v : AVal} (h : VR ρ u v) : VR ρ' u v := by
  cases u <;> first | exact h | (obtain ⟨a, e, h⟩ := h; exact ⟨a, e, x.get h⟩)
theorem VRS.mono (x : Pre ρ ρ') : ∀ {us vs : List AVal}, VRS ρ us vs → VRS ρ' us vs
  | [], [], _ => trivial
  | _ :: _, _ :: _, h => ⟨h.1.mono x, VRS.mono x h.2⟩
  | [], _ :: _, h => h.elim
  | _ :: _, [], h => h.elim
theorem DR.mono (x : Pre ρ ρ') : ∀ {us vs : List (Nat × AVal)}, DR ρ us vs → DR ρ' us vs
  | [], [], _ => trivial
  | (_, _) :: _, (_, _) :: _, h => ⟨⟨h.1.1, h.1.2.mono x⟩, DR.mono x h.2⟩
  | [], _ :: _, h => h.elim
  | _ :: _, [], h => h.elim
theorem MR.mono (x : Pre ρ ρ') : ∀ {us vs : Loc}, MR ρ us vs → MR ρ' us vs
  | [], [], _ => trivial
  | none :: _, none :: _, h => ⟨trivial, MR.mono x h.2⟩
  | some _ :: _, some _ :: _, h => ⟨h.1.mono x, MR.mono x h.2⟩
  | [], _ :: _, h => h.elim
  | none :: _, [], h => h.elim
  | some _ :: _, [], h => h.elim
  | none :: _, some _ :: _, h => h.elim
  | some _ :: _, none :: _, h => h.elim
theorem OR.mono (x : Pre ρ ρ') {o o' : AObj} (h : OR ρ o o') : OR ρ' o o' := by
  cases o with
  | list xs => obtain ⟨ys, e, h⟩ := h; exact ⟨ys, e, h.mono x⟩
  | tup xs => obtain ⟨ys, e, h⟩ := h; exact ⟨ys, e, h.mono x⟩
  | inst c d => obtain ⟨d', e, h⟩ := h; exact ⟨d', e, x.get h⟩
  | dict fs => obtain ⟨ys, e, h⟩ := h; exact ⟨ys, e, h.mono x⟩
  | range a b c => exact h
theorem VRS.len : ∀ {us vs : List AVal}, VRS ρ us vs → vs.length = us.length
  | [], [], _ => rfl
  | _ :: _, _ :: _, h => congrArg (· + 1) (VRS.len h.2)
  | [], _ :: _, h => h.elim
  | _ :: _, [], h => h.elim
theorem VRS.get : ∀ {us vs : List AVal} {i : Nat} {u : AVal}, VRS ρ us vs → us[i]? = some u → ∃ v, vs[i]? = some v ∧ VR ρ u v
  | _ :: _, v :: _, 0, _, h, e => by cases e; exact ⟨v, rfl, h.1⟩
  | _ :: _, _ :: _, i + 1, _, h, e => by
    rw [List.getElem?_cons_succ] at e
    obtain ⟨x, e', r'⟩ := VRS.get h.2 e
    exact ⟨x, by rw [List.getElem?_cons_succ]; exact e', r'⟩
  | [], _, _, _, _, e => by simp at e
  | _ :: _, [], _, _, h, _ => h.elim
theorem VRS.snoc : ∀ {us vs : List AVal} {u v : AVal}, VRS ρ us vs → VR ρ u v → VRS ρ (us ++ [u]) (vs ++ [v])
  | [], [], _, _, _, q => ⟨q, trivial⟩
  | _ :: _, _ :: _, _, _, h, q => ⟨h.1, VRS.snoc h.2 q⟩
  | [], _ :: _, _, _, h, _ => h.elim
  | _ :: _, [], _, _, h, _ => h.elim
theorem VRS.set : ∀ {us vs : List AVal} {i : Nat} {u v : AVal}, VRS ρ us vs → VR ρ u v → VRS ρ (us.set i u) (vs.set i v)
  | [], [], _, _, _, _, _ => trivial
  | _ :: _, _ :: _, 0, _, _, h, q => ⟨q, h.2⟩
  | _ :: _, _ :: _, _ + 1, _, _, h, q => ⟨h.1, VRS.set h.2 q⟩
  | [], _ :: _, _, _, _, h, _ => h.elim
  | _ :: _, [], _, _, _, h, _ => h.elim
theorem VRS.rep {u v : AVal} (q : VR ρ u v) : ∀ n, VRS ρ (List.replicate n u) (List.replicate n v)
  | 0 => trivial
  | n + 1 => ⟨q, VRS.rep q n⟩
theorem VRS.zs (ns : List Int) : VRS ρ (zs ns) (zs ns) := by
  induction ns with
  | nil => trivial
  | cons n r ih => exact ⟨rfl, ih⟩
theorem MR.get : ∀ {m m' : Loc} {i : Nat} {u : AVal}, MR ρ m m' → m[i]? = some (some u) → ∃ v, m'[i]? = some (some v) ∧ VR ρ u v
  | some _ :: _, some v :: _, 0, _, h, e => by cases e; exact ⟨v, rfl, h.1⟩
  | none :: _, none :: _, 0, _, h, e => by cases e
  | some _ :: _, some _ :: _, i + 1, _, h, e => by
    rw [List.getElem?_cons_succ] at e
    obtain ⟨x, e', r'⟩ := MR.get h.2 e
    exact ⟨x, by rw [List.getElem?_cons_succ]; exact e', r'⟩
  | none :: _, none :: _, i + 1, _, h, e => by
    rw [List.getElem?_cons_succ] at e
    obtain ⟨x, e', r'⟩ := MR.get h.2 e
    exact ⟨x, by rw [List.getElem?_cons_succ]; exact e', r'⟩
  | [], _, _, _, _, e => by simp at e
  | none :: _, [], _, _, h, _ => h.elim
  | some _ :: _, [], _, _, h, _ => h.elim
  | none :: _, some _ :: _, _, _, h, _ => h.elim
  | some _ :: _, none :: _, _, _, h, _ => h.elim
theorem MR.set : ∀ {m m' : Loc} {i : Nat} {u v : AVal}, MR ρ m m' → VR ρ u v → MR ρ (m.set i (some u)) (m'.set i (some v))
  | [], [], _, _, _, _, _ => trivial
  | some _ :: _, some _ :: _, 0, _, _, h, q => ⟨q, h.2⟩
  | none :: _, none :: _, 0, _, _, h, q => ⟨q, h.2⟩
  | some _ :: _, some _ :: _, _ + 1, _, _, h, q => ⟨h.1, MR.set h.2 q⟩
  | none :: _, none :: _, _ + 1, _, _, h, q => ⟨trivial, MR.set h.2 q⟩
  | [], _ :: _, _, _, _, h, _ => h.elim
  | none :: _, [], _, _, _, h, _ => h.elim
  | some _ :: _, [], _, _, _, h, _ => h.elim
  | none :: _, some _ :: _, _, _, _, h, _ => h.elim
  | some _ :: _, none :: _, _, _, _, h, _ => h.elim
theorem MR.args : ∀ {us vs : List AVal} (n : Nat), VRS ρ us vs → MR ρ (us.map some ++ List.replicate n none) (vs.map some ++ List.replicate n none)
  | [], [], 0, _ => trivial
  | [], [], n + 1, _ => ⟨trivial, MR.args (us := []) (vs := []) n trivial⟩
  | _ :: _, _ :: _, n, h => ⟨h.1, MR.args n h.2⟩
  | [], _ :: _, _, h => h.elim
  | _ :: _, [], _, h => h.elim
theorem DR.len : ∀ {us vs : List (Nat × AVal)}, DR ρ us vs → vs.length = us.length
  | [], [], _ => rfl
  | (_, _) :: _, (_, _) :: _, h => congrArg (· + 1) (DR.len h.2)
  | [], _ :: _, h => h.elim
  | _ :: _, [], h => h.elim
theorem DR.look {f : Nat} : ∀ {us vs : List (Nat × AVal)} {u : AVal}, DR ρ us vs → us.lookup f = some u → ∃ v, vs.lookup f = some v ∧ VR ρ u v
  | (g, x) :: r, (g', y) :: s, u, h, e => by
    obtain ⟨⟨rfl, hv⟩, h⟩ := h
    rw [List.lookup_cons] at e ⊢
    split at e
    · cases e; exact ⟨y, rfl, hv⟩
    · exact DR.look h e
  | [], _, _, _, e => by simp at e
  | (_, _) :: _, [], _, h, _ => h.elim
theorem DR.put {f : Nat} {u v : AVal} (q : VR ρ u v) : ∀ {us vs : List (Nat × AVal)}, DR ρ us vs → DR ρ (putF us f u) (putF vs f v)
  | [], [], _ => ⟨⟨rfl, q⟩, trivial⟩
  | (g, x) :: r, (g', y) :: s, h => by
    obtain ⟨⟨rfl, hv⟩, h⟩ := h
    unfold putF
    split
    · exact ⟨⟨rfl, q⟩, h⟩
    · exact ⟨⟨rfl, hv⟩, DR.put q h⟩
  | [], _ :: _, h => h.elim
  | (_, _) :: _, [], h => h.elim

variable {H H' : IH} {σ0 σ : AHeap}
theorem HR.push {c : Nat} {o o' : AObj} (R : HR ρ H σ0 σ) (hc : σ c = none) (q : OR (ρ ++ [c]) o o') : HR (ρ ++ [c]) (H ++ [o]) σ0 (put σ c o') := by
  have notin : ∀ i : Nat, ρ[i]? ≠ some c := fun i e => by
    have lt : i < H.length := by rw [← R.len]; exact (List.getElem?_eq_some_iff.mp e).1
    obtain ⟨a, o1, h1, h2, _⟩ := R.obj i _ (List.getElem?_eq_getElem lt)
    rw [e] at h1; cases h1; rw [hc] at h2; cases h2
  have last : ∀ {i a : Nat}, (ρ ++ [c])[i]? = some a → (i = ρ.length ∧ a = c) ∨ ρ[i]? = some a := fun {i a} e => by
    rcases Nat.lt_or_ge i ρ.length with h | h
    · rw [List.getElem?_append_left h] at e; exact .inr e
    · rw [List.getElem?_append_right h] at e
      have : i - ρ.length = 0 := by
        rcases Nat.eq_zero_or_pos (i - ρ.length) with z | z
        · exact z
        · rw [List.getElem?_eq_none (by simp; (clear h; omega))] at e; cases e
      rw [this] at e
      simp at e
      exact .inl ⟨by omega, e.symm⟩
  refine ⟨by simp [R.len], fun i j a h1 h2 => ?_, fun i a h => ?_, R.ext.put (by
      cases e : σ0 c with
      | none => rfl
      | some o => have := R.ext c o e; rw [hc] at this; cases this), fun i o1 e => ?_⟩
  · rcases last h1 with ⟨e1, rfl⟩ | e1 <;> rcases last h2 with ⟨e2, q2⟩ | e2
    · rw [e1, e2]
    · exact absurd e2 (notin j)
    · rw [q2] at e1; exact absurd e1 (notin i)
    · exact R.nd i j a e1 e2
  · rcases last h with ⟨_, rfl⟩ | e1
    · cases e : σ0 a with
      | none => rfl
      | some o => have := R.ext a o e; rw [hc] at this; cases this
    · exact R.fr i a e1
  · rcases Nat.lt_or_ge i H.length with h | h
    · rw [List.getElem?_append_left h] at e
      obtain ⟨a, o2, h1, h2, h3⟩ := R.obj i o1 e
      exact ⟨a, o2, Pre.push.get h1, by rw [putN (neOf h2 hc)]; exact h2, h3.mono Pre.push⟩
    · rw [List.getElem?_append_right h] at e
      have z : i - H.length = 0 := by
        rcases Nat.eq_zero_or_pos (i - H.length) with z | z
        · exact z
        · rw [List.getElem?_eq_none (by simp; (clear h; omega))] at e; cases e
      rw [z] at e
      simp at e
      subst e
      have : i = ρ.length := by rw [R.len]; omega
      subst this
      exact ⟨c, o', by simp, putS, q⟩
theorem HR.upd {i a : Nat} {o1 o o' : AObj} (R : HR ρ H σ0 σ) (h1 : H[i]? = some o1) (ha : ρ[i]? = some a) (q : OR ρ o o') : HR ρ (H.set i o) σ0 (put σ a o') := by
  refine ⟨by simp [R.len], R.nd, R.fr, R.ext.put (R.fr i a ha), fun j o2 e => ?_⟩
  by_cases z : j = i
  · subst z
    have lt := (List.getElem?_eq_some_iff.mp h1).1
    rw [List.getElem?_set_self lt] at e
    cases e
    exact ⟨a, o', ha, putS, q⟩
  · rw [List.getElem?_set_ne (Ne.symm z)] at e
    obtain ⟨b, o3, h2, h3, h4⟩ := R.obj j o2 e
    exact ⟨b, o3, h2, by rw [putN (fun (w : b = a) => z (R.nd j i a (by rw [← w]; exact h2) ha))]; exact h3, h4⟩

/-- what comes behind -/
noncomputable abbrev PV (ρ : List Nat) (σ0 : AHeap) (v : AVal) (H' : IH) (Q : AVal → AHeap → Prop) : Prop := ∀ ρ' σ' v', Pre ρ ρ' → HR ρ' H' σ0 σ' → VR ρ' v v' → Q v' σ'
theorem PV.on {v : AVal} {Q : AVal → AHeap → Prop} (x : Pre ρ ρ') (h : PV ρ σ0 v H' Q) : PV ρ' σ0 v H' Q := fun ρ2 σ2 v2 y R q => h ρ2 σ2 v2 (x.trans y) R q

theorem sim_push {o o' : AObj} {Q : AVal → AHeap → Prop} {c : Nat} (R : HR ρ H σ0 σ) (hc : σ c = none) (q : ∀ ρ', Pre ρ ρ' → OR ρ' o o') (h : PV ρ σ0 (.ref H.length) (H ++ [o]) Q) : Q (.ref c) (put σ c o') :=
  h (ρ ++ [c]) _ _ Pre.push (R.push hc (q _ Pre.push)) ⟨c, rfl, by rw [← R.len]; simp⟩

theorem simBin {o : Operator} {x y x' y' : AVal} {Q : AVal → AHeap → Prop} {v : AVal} (h : iBin o x y H = some (v, H')) (R : HR ρ H σ0 σ) (hx : VR ρ x x') (hy : VR ρ y y') (hQ : PV ρ σ0 v H' Q) : binW o x' y' Q σ := by
  cases x with
  | int a =>
    cases y with
    | int b =>
      cases hx; cases hy
      cases o with
      | Add => cases h; exact hQ ρ σ _ Pre.refl R rfl
      | Sub => cases h; exact hQ ρ σ _ Pre.refl R rfl
      | BitAnd => cases h; exact hQ ρ σ _ Pre.refl R rfl
      | BitOr => cases h; exact hQ ρ σ _ Pre.refl R rfl
      | Mult =>
        replace h : (if -1000000 ≤ a ∧ a ≤ 1000000 then some (AVal.int (a * b), H) else none) = some (v, H') := h
        split at h
        · cases h; rename_i q; exact ⟨⟨by omega, by omega⟩, hQ ρ σ _ Pre.refl R rfl⟩
        · cases h
      | FloorDiv =>
        replace h : (if 0 < b ∧ b ≤ 1000000000 then some (AVal.int (a / b), H) else none) = some (v, H') := h
        split at h
        · cases h; rename_i q; exact ⟨q, hQ ρ σ _ Pre.refl R rfl⟩
        · cases h
      | Mod =>
        replace h : (if 0 < b then some (AVal.int (a % b), H) else none) = some (v, H') := h
        split at h
        · cases h; rename_i q; exact ⟨q, hQ ρ σ _ Pre.refl R rfl⟩
        · cases h
      | LShift =>
        replace h : (if -1152921504606846976 ≤ a ∧ a ≤ 1152921504606846976 ∧ 0 ≤ b ∧ b ≤ 64 then some (AVal.int (a * 2 ^ b.toNat), H) else none) = some (v, H') := h
        split at h
        · cases h; rename_i q; exact ⟨⟨⟨q.1, q.2.1⟩, q.2.2⟩, hQ ρ σ _ Pre.refl R rfl⟩
        · cases h
      | RShift =>
        replace h : (if 0 ≤ a ∧ 0 ≤ b then some (AVal.int (a / 2 ^ b.toNat), H) else none) = some (v, H') := h
        split at h
        · cases h; rename_i q; exact ⟨q, hQ ρ σ _ Pre.refl R rfl⟩
        · cases h
      | _ => cases h
    | _ => cases h
  | ref a =>
    cases y with
    | int b =>
      obtain ⟨a', rfl, ha⟩ := hx; cases hy
      cases o with
      | Mult =>
        replace h : iRep a b H = some (v, H') := h
        unfold iRep at h
        split at h
        · rename_i u hu
          split at h
          · cases h; rename_i q
            obtain ⟨b, o', e1, e2, ⟨ys, rfl, e3⟩⟩ := R.obj _ _ hu
            rw [ha] at e1; cases e1
            match ys, e3 with
            | [y], e3 =>
              rw [Bi13, e2]
              exact ⟨q, fun c hc => sim_push (o := .list _) R hc (fun ρ' x => ⟨_, rfl, VRS.rep (e3.1.mono x) _⟩) hQ⟩
          · cases h
        · cases h
      | _ => cases h
    | _ => cases h
  | _ => cases h
theorem simAug {o : Operator} {x y x' y' : AVal} {Q : AVal → AHeap → Prop} {v : AVal} (h : iAug o x y H = some (v, H')) (R : HR ρ H σ0 σ) (hx : VR ρ x x') (hy : VR ρ y y') (hQ : PV ρ σ0 v H' Q) : augW o x' y' Q σ := by
  unfold iAug at h
  split at h
  · have := simBin h R hx hy hQ
    cases hx; cases hy
    exact augI this
  · cases h
theorem simUna {o : UnaryOp} {x x' : AVal} {Q : AVal → AHeap → Prop} {v : AVal} (h : iUna o x = some v) (R : HR ρ H σ0 σ) (hx : VR ρ x x') (hQ : PV ρ σ0 v H Q) : unaW o x' Q σ := by
  unfold iUna at h
  split at h
  · cases hx; cases h; exact hQ ρ σ _ Pre.refl R rfl
  · cases hx; cases h; exact hQ ρ σ _ Pre.refl R rfl
  · cases h
theorem simCmp {o : CmpOp} {x y x' y' : AVal} {Q : Bool → Prop} {c : Bool} (h : iCmp o x y = some c) (hx : VR ρ x x') (hy : VR ρ y y') (hQ : Q c) : cmpW o x' y' Q σ := by
  unfold iCmp at h
  split at h
  · cases hx; cases hy
    simp only [cmpW, h]; exact hQ
  · cases h
theorem simTruth {x x' : AVal} {Q : Bool → Prop} {c : Bool} (h : iTruth x = some c) (hx : VR ρ x x') (hQ : Q c) : truthW x' Q := by
  unfold iTruth at h
  split at h
  · cases hx; cases h; exact hQ
  · cases hx; cases h; exact hQ
  · cases h
theorem simAttr {x x' : AVal} {f : Nat} {Q : AVal → AHeap → Prop} {v : AVal} (h : iAttr x f H = some v) (R : HR ρ H σ0 σ) (hx : VR ρ x x') (hQ : PV ρ σ0 v H Q) : attrW x' f Q σ := by
  unfold iAttr at h
  split at h
  · obtain ⟨a', rfl, ha⟩ := hx
    split at h
    · rename_i c d hu
      split at h
      · rename_i fs hd
        obtain ⟨b, o', e1, e2, ⟨d', rfl, e3⟩⟩ := R.obj _ _ hu
        rw [ha] at e1; cases e1
        obtain ⟨b, o', f1, f2, ⟨gs, rfl, f3⟩⟩ := R.obj _ _ hd
        rw [e3] at f1; cases f1
        obtain ⟨w, g1, g2⟩ := f3.look h
        simp only [attrW, e2, f2, g1]
        exact hQ ρ σ w Pre.refl R g2
      · cases h
    · cases h
  · cases h
theorem simSetA {x x' v v' : AVal} {f : Nat} {Q : AHeap → Prop} (h : iSetA x f v H = some H') (R : HR ρ H σ0 σ) (hx : VR ρ x x') (hv : VR ρ v v') (hQ : ∀ σ', HR ρ H' σ0 σ' → Q σ') : setAW x' f v' Q σ := by
  unfold iSetA at h
  split at h
  · obtain ⟨a', rfl, ha⟩ := hx
    split at h
    · rename_i c d hu
      split at h
      · rename_i fs hd
        split at h
        · cases h; rename_i q
          obtain ⟨b, o', e1, e2, ⟨d', rfl, e3⟩⟩ := R.obj _ _ hu
          rw [ha] at e1; cases e1
          obtain ⟨b, o', f1, f2, ⟨gs, rfl, f3⟩⟩ := R.obj _ _ hd
          rw [e3] at f1; cases f1
          simp only [setAW, e2, f2]
          exact ⟨by rw [f3.len]; exact q, hQ _ (R.upd hd e3 ⟨_, rfl, f3.put hv⟩)⟩
        · cases h
      · cases h
    · cases h
  · cases h
theorem simSeq {x x' : AVal} {xs : List AVal} (h : iSeq H x = some xs) (R : HR ρ H σ0 σ) (hx : VR ρ x x') : ∃ ys, seqAt σ x' = some ys ∧ VRS ρ xs ys := by
  unfold iSeq at h
  split at h
  · obtain ⟨a', rfl, ha⟩ := hx
    split at h
    · rename_i hu
      cases h
      obtain ⟨b, o', e1, e2, ⟨ys, rfl, e3⟩⟩ := R.obj _ _ hu
      rw [ha] at e1; cases e1
      exact ⟨ys, by simp only [seqAt, e2], e3⟩
    · rename_i hu
      cases h
      obtain ⟨b, o', e1, e2, ⟨ys, rfl, e3⟩⟩ := R.obj _ _ hu
      rw [ha] at e1; cases e1
      exact ⟨ys, by simp only [seqAt, e2], e3⟩
    · cases h
  · cases hx; cases h; exact ⟨_, rfl, VRS.zs _⟩
  · cases h
theorem simSub {x x' i i' : AVal} {Q : AVal → AHeap → Prop} {v : AVal} (h : iSub x i H = some v) (R : HR ρ H σ0 σ) (hx : VR ρ x x') (hi : VR ρ i i') (hQ : PV ρ σ0 v H Q) : subW x' i' Q σ := by
  unfold iSub at h
  split at h
  · cases hi
    split at h
    · rename_i xs hs
      split at h
      · rename_i q
        obtain ⟨ys, e1, e2⟩ := simSeq hs R hx
        obtain ⟨w, g1, g2⟩ := e2.get h
        simp only [subW, e1, g1]
        exact ⟨q.1, q.2, hQ ρ σ w Pre.refl R g2⟩
      · cases h
    · cases h
  · cases h
theorem simSetS {x x' i i' v v' : AVal} {Q : AHeap → Prop} (h : iSetS x i v H = some H') (R : HR ρ H σ0 σ) (hx : VR ρ x x') (hi : VR ρ i i') (hv : VR ρ v v') (hQ : ∀ σ', HR ρ H' σ0 σ' → Q σ') : setSW x' i' v' Q σ := by
  unfold iSetS at h
  split at h
  · obtain ⟨a', rfl, ha⟩ := hx
    cases hi
    split at h
    · rename_i xs hu
      split at h
      · cases h; rename_i q
        obtain ⟨b, o', e1, e2, ⟨ys, rfl, e3⟩⟩ := R.obj _ _ hu
        rw [ha] at e1; cases e1
        simp only [setSW, e2]
        exact ⟨by rw [e3.len]; exact q, hQ _ (R.upd hu ha ⟨_, rfl, e3.set hv⟩)⟩
      · cases h
    · cases h
  · cases h
theorem VRS.cons' {ρ : List Nat} {x : AVal} {r vs : List AVal} (h : VRS ρ (x :: r) vs) : ∃ v s, vs = v :: s ∧ VR ρ x v ∧ VRS ρ r s := by
  cases vs with
  | nil => exact h.elim
  | cons v s => exact ⟨v, s, rfl, h⟩
theorem VRS.nil' {ρ : List Nat} {vs : List AVal} (h : VRS ρ [] vs) : vs = [] := by
  cases vs with
  | nil => rfl
  | cons v s => exact h.elim
theorem simRange {xs xs' : List AVal} {Q : AVal → AHeap → Prop} {v : AVal} (h : iRange xs H = some (v, H')) (R : HR ρ H σ0 σ) (hx : VRS ρ xs xs') (hQ : PV ρ σ0 v H' Q) : rangeW xs' Q σ := by
  cases xs with
  | nil => cases h
  | cons x r =>
    replace h := oII_i h; obtain ⟨a, rfl, h⟩ := h
    replace hx := hx.cons'; obtain ⟨x', s', rfl, q1, hx⟩ := hx
    obtain rfl : x' = .int a := q1
    cases r with
    | nil =>
      obtain rfl := hx.nil'
      replace h := oI_i h; obtain ⟨q, h⟩ := h
      cases h
      exact Rg1 ⟨⟨by omega, by omega⟩, fun c hc => sim_push (o := .range _ _ _) R hc (fun _ _ => rfl) hQ⟩
    | cons y r =>
      replace h := oII_i h; obtain ⟨b, rfl, h⟩ := h
      replace hx := hx.cons'; obtain ⟨y', s', rfl, q2, hx⟩ := hx
      obtain rfl : y' = .int b := q2
      cases r with
      | nil => cases h
      | cons z r =>
        replace h := oII_i h; obtain ⟨t, rfl, h⟩ := h
        replace hx := hx.cons'; obtain ⟨z', s', rfl, q3, hx⟩ := hx
        obtain rfl : z' = .int t := q3
        replace h := oI_i h; obtain ⟨er, h⟩ := h
        obtain rfl := List.isEmpty_iff.mp er
        obtain rfl := hx.nil'
        replace h := oI_i h; obtain ⟨q, h⟩ := h
        cases h
        exact Rg3 ⟨⟨⟨by omega, by omega⟩, ⟨by omega, by omega⟩, q.2.2.2.2⟩, fun c hc => sim_push (o := .range _ _ _) R hc (fun _ _ => rfl) hQ⟩
theorem simIsList {x x' : AVal} (h : iIsList H x = true) (R : HR ρ H σ0 σ) (hx : VR ρ x x') : isList σ x' := by
  unfold iIsList at h
  split at h
  · obtain ⟨a', rfl, ha⟩ := hx
    split at h
    · rename_i hu
      obtain ⟨b, o', e1, e2, ⟨ys, rfl, e3⟩⟩ := R.obj _ _ hu
      rw [ha] at e1; cases e1
      simp only [isList, e2]
    · cases h
  · cases h
theorem simApp {x x' v v' : AVal} {Q : AVal → AHeap → Prop} {u : AVal} (h : iApp x v H = some (u, H')) (R : HR ρ H σ0 σ) (hx : VR ρ x x') (hv : VR ρ v v') (hQ : PV ρ σ0 u H' Q) : appW x' v' Q σ := by
  unfold iApp at h
  split at h
  · obtain ⟨a', rfl, ha⟩ := hx
    split at h
    · rename_i hu
      split at h
      · cases h; rename_i q
        obtain ⟨b, o', e1, e2, ⟨ys, rfl, e3⟩⟩ := R.obj _ _ hu
        rw [ha] at e1; cases e1
        simp only [appW, e2]
        exact ⟨by rw [e3.len]; exact q, hQ ρ _ .none Pre.refl (R.upd hu ha ⟨_, rfl, e3.snoc hv⟩) rfl⟩
      · cases h
    · cases h
  · cases h
end
end Pf
end

section
set_option autoImplicit false
set_option maxRecDepth 100000
namespace Pf
open PySem (Operator CmpOp UnaryOp)

/-- a call is simulated -/
noncomputable def CSim (ic : IC) (cw : CW) : Prop := ∀ f vs H v H', ic f vs H = some (v, H') → ∀ ρ σ0 σ vs' Q, HR ρ H σ0 σ → VRS ρ vs vs' → PV ρ σ0 v H' Q → cw f vs' Q σ
noncomputable def ESim (ic : IC) (cw : CW) (e : Ex) : Prop := ∀ m H v H', iE ic e m H = some (v, H') → ∀ ρ σ0 σ m' Q, HR ρ H σ0 σ → MR ρ m m' → PV ρ σ0 v H' Q → wpE cw e m' Q σ
noncomputable abbrev PB (ρ : List Nat) (σ0 : AHeap) (c : Bool) (H' : IH) (Q : Bool → AHeap → Prop) : Prop := ∀ ρ' σ', Pre ρ ρ' → HR ρ' H' σ0 σ' → Q c σ'
noncomputable def TSim (ic : IC) (cw : CW) (e : Ex) : Prop := ∀ m H c H', iT ic e m H = some (c, H') → ∀ ρ σ0 σ m' Q, HR ρ H σ0 σ → MR ρ m m' → PB ρ σ0 c H' Q → wpT cw e m' Q σ
noncomputable abbrev PVs (ρ : List Nat) (σ0 : AHeap) (v : List AVal) (H' : IH) (Q : List AVal → AHeap → Prop) : Prop := ∀ ρ' σ' v', Pre ρ ρ' → HR ρ' H' σ0 σ' → VRS ρ' v v' → Q v' σ'

theorem It1 {cw : IC} {o : CmpOp} {l r : Ex} {m : Loc} {H : IH} : iT cw (.cmp o l r) m H = oB (iE cw l m H) fun a H1 => oB (iE cw r m H1) fun b H2 => oV (iCmp o a b) fun c => some (c, H2) := rfl
theorem It2 {cw : IC} {o : Operator} {l r : Ex} {m : Loc} {H : IH} : iT cw (.bin o l r) m H = oB (iE cw l m H) fun a H1 => oB (iE cw r m H1) fun b H2 => oB (iBin o a b H2) fun v H3 => oV (iTruth v) fun c => some (c, H3) := rfl
theorem It3 {cw : IC} {e : Ex} {f : Nat} {m : Loc} {H : IH} : iT cw (.attr e f) m H = oB (iE cw e m H) fun a H1 => oV (iAttr a f H1) fun v => oV (iTruth v) fun c => some (c, H1) := rfl
theorem It4 {cw : IC} {f : Nat} {as : List Ex} {m : Loc} {H : IH} : iT cw (.call f as) m H = oB (iEs cw as m H) fun vs H1 => oB (cw f vs H1) fun v H3 => oV (iTruth v) fun c => some (c, H3) := rfl
theorem Is1 {cw : IC} {i : Nat} {e : Ex} {m : Loc} {H : IH} : iS cw (.asg i e) m H = (oB (iE cw e m H) fun v H1 => some (.next, m.set i (some v), H1)) := rfl
theorem Is2 {cw : IC} {o : Ex} {f : Nat} {e : Ex} {m : Loc} {H : IH} : iS cw (.asgA o f e) m H = (oB (iE cw e m H) fun v H1 => oB (iE cw o m H1) fun a H2 => oV (iSetA a f v H2) fun H3 => some (.next, m, H3)) := rfl
theorem Is3 {cw : IC} {o : Ex} {i : Ex} {e : Ex} {m : Loc} {H : IH} : iS cw (.asgS o i e) m H = (oB (iE cw e m H) fun v H1 => oB (iE cw o m H1) fun a H2 => oB (iE cw i m H2) fun k H3 => oV (iSetS a k v H3) fun H4 => some (.next, m, H4)) := rfl
theorem Is4 {cw : IC} {op : Operator} {i : Nat} {e : Ex} {m : Loc} {H : IH} : iS cw (.augV op i e) m H = (oW m[i]? fun a => oB (iE cw e m H) fun v H1 => oB (iAug op a v H1) fun r H2 => some (.next, m.set i (some r), H2)) := rfl
theorem Is5 {cw : IC} {op : Operator} {o : Ex} {i : Ex} {e : Ex} {m : Loc} {H : IH} : iS cw (.augS op o i e) m H = (oB (iE cw o m H) fun a H1 => oB (iE cw i m H1) fun k H2 => oV (iSub a k H2) fun old => oB (iE cw e m H2) fun v H3 => oB (iAug op old v H3) fun r H4 =>
      oV (iSetS a k r H4) fun H5 => some (.next, m, H5)) := rfl
theorem Is6 {cw : IC} {e : Ex} {m : Loc} {H : IH} : iS cw (.ex e) m H = (oB (iE cw e m H) fun u H1 => oI (isNoB u = true) (some (.next, m, H1))) := rfl
theorem Is7 {cw : IC} {e : Ex} {m : Loc} {H : IH} : iS cw (.ret e) m H = (oB (iE cw e m H) fun v H1 => some (.ret v, m, H1)) := rfl
theorem Is8 {cw : IC} {t : Ex} {a : List St} {b : List St} {m : Loc} {H : IH} : iS cw (.iff t a b) m H = (oB (iT cw t m H) fun c H1 => Bool.casesOn c (iSs cw b m H1) (iSs cw a m H1)) := rfl
theorem Is9 {cw : IC} {i : Nat} {it : Ex} {b : List St} {m : Loc} {H : IH} : iS cw (.forV i it b) m H = (oB (iE cw it m H) fun x H1 => oR x fun a => oV H1[a]? fun o => oRg o fun lo hi st => iFor (fun m H => iSs cw b m H) i a lo hi st (rangeL lo hi st) m H1) := rfl
section
variable {ic : IC} {cw : CW}
theorem EsSim : ∀ {es : List Ex}, (∀ e ∈ es, ESim ic cw e) → ∀ m H v H', iEs ic es m H = some (v, H') → ∀ ρ σ0 σ m' Q, HR ρ H σ0 σ → MR ρ m m' → PVs ρ σ0 v H' Q → wpEs cw es m' Q σ
  | [], _, m, H, v, H', h, ρ, σ0, σ, m', Q, R, M, hQ => by
    cases h
    rw [Wes1]; exact hQ ρ σ [] Pre.refl R trivial
  | e :: r, hE, m, H, v, H', h, ρ, σ0, σ, m', Q, R, M, hQ => by
    replace h := oB_i h; obtain ⟨v1, H1, h1, h⟩ := h
    replace h := oB_i h; obtain ⟨vs, H2, h2, h⟩ := h
    cases h
    rw [Wes2]
    refine hE e (by simp) m H _ _ h1 ρ σ0 σ m' _ R M fun ρ1 σ1 w x1 R1 q1 => ?_
    exact EsSim (fun y hy => hE y (by simp [hy])) m H1 _ _ h2 ρ1 σ0 σ1 m' _ R1 (M.mono x1) fun ρ2 σ2 ws x2 R2 q2 => hQ ρ2 σ2 (w :: ws) (x1.trans x2) R2 ⟨q1.mono x2, q2⟩
theorem BSim {b : Bool} : ∀ {es : List Ex}, (∀ e ∈ es, ESim ic cw e) → ∀ m H v H', iB ic b es m H = some (v, H') → ∀ ρ σ0 σ m' Q, HR ρ H σ0 σ → MR ρ m m' → PV ρ σ0 v H' Q → wpB cw b es m' Q σ
  | [], _, m, H, v, H', h, ρ, σ0, σ, m', Q, R, M, hQ => by cases h
  | [e], hE, m, H, v, H', h, ρ, σ0, σ, m', Q, R, M, hQ => by
    rw [Wb2]
    exact hE e (by simp) m H v H' h ρ σ0 σ m' Q R M hQ
  | e :: f :: r, hE, m, H, v, H', h, ρ, σ0, σ, m', Q, R, M, hQ => by
    rw [Wb3]
    replace h := oB_i h; obtain ⟨v1, H1, h1, h⟩ := h
    replace h := oV_i h; obtain ⟨c, hc, h⟩ := h
    refine hE e (by simp) m H _ _ h1 ρ σ0 σ m' _ R M fun ρ1 σ1 w x1 R1 q1 => simTruth hc q1 ?_
    split at h
    · rename_i z
      rw [if_pos z]
      exact BSim (fun y hy => hE y (by simp only [List.mem_cons] at hy ⊢; exact .inr hy)) m H1 _ _ h ρ1 σ0 σ1 m' _ R1 (M.mono x1) (hQ.on x1)
    · rename_i z
      rw [if_neg z]
      cases h
      exact hQ ρ1 σ1 w x1 R1 q1
theorem TsSim {b : Bool} : ∀ {es : List Ex}, (∀ e ∈ es, TSim ic cw e) → ∀ m H c H', iTs ic b es m H = some (c, H') → ∀ ρ σ0 σ m' Q, HR ρ H σ0 σ → MR ρ m m' → PB ρ σ0 c H' Q → wpTs cw b es m' Q σ
  | [], _, m, H, v, H', h, ρ, σ0, σ, m', Q, R, M, hQ => by
    cases h
    rw [Wts1]; exact hQ ρ σ Pre.refl R
  | e :: r, hE, m, H, v, H', h, ρ, σ0, σ, m', Q, R, M, hQ => by
    rw [Wts2]
    replace h := oB_i h; obtain ⟨c, H1, h1, h⟩ := h
    refine hE e (by simp) m H _ _ h1 ρ σ0 σ m' _ R M fun ρ1 σ1 x1 R1 => ?_
    split at h
    · rename_i z
      rw [if_pos z]
      exact TsSim (fun y hy => hE y (by simp [hy])) m H1 _ _ h ρ1 σ0 σ1 m' _ R1 (M.mono x1) fun ρ2 σ2 x2 R2 => hQ ρ2 σ2 (x1.trans x2) R2
    · rename_i z
      rw [if_neg z]
      cases h
      exact hQ ρ1 σ1 x1 R1

theorem no_e {e : Ex} (h : ∀ m H, iE ic e m H = none) : ESim ic cw e := by
  intro m H v H' q; rw [h] at q; cases q
theorem no_t {e : Ex} (h : ∀ m H, iT ic e m H = none) : TSim ic cw e := by
  intro m H v H' q; rw [h] at q; cases q

theorem E_bin {o : Operator} {l r : Ex} (hl : ESim ic cw l) (hr : ESim ic cw r) : ESim ic cw (.bin o l r) := by
  intro m H v H' h ρ σ0 σ m' Q R M hQ
  rw [We3]
  replace h := oB_i h; obtain ⟨a, H1, h1, h⟩ := h
  replace h := oB_i h; obtain ⟨b, H2, h2, h⟩ := h
  refine hl m H _ _ h1 ρ σ0 σ m' _ R M fun ρ1 σ1 a' x1 R1 q1 => ?_
  refine hr m H1 _ _ h2 ρ1 σ0 σ1 m' _ R1 (M.mono x1) fun ρ2 σ2 b' x2 R2 q2 => ?_
  exact simBin h R2 (q1.mono x2) q2 (hQ.on (x1.trans x2))
theorem T_bin {o : Operator} {l r : Ex} (hl : ESim ic cw l) (hr : ESim ic cw r) : TSim ic cw (.bin o l r) := by
  intro m H v H' h ρ σ0 σ m' Q R M hQ
  rw [Wt9]
  rw [It2] at h; replace h := oB_i h; obtain ⟨a, H1, h1, h⟩ := h
  replace h := oB_i h; obtain ⟨b, H2, h2, h⟩ := h
  replace h := oB_i h; obtain ⟨u, H3, h3, h⟩ := h
  replace h := oV_i h; obtain ⟨c, hc, h⟩ := h
  cases h
  refine hl m H _ _ h1 ρ σ0 σ m' _ R M fun ρ1 σ1 a' x1 R1 q1 => ?_
  refine hr m H1 _ _ h2 ρ1 σ0 σ1 m' _ R1 (M.mono x1) fun ρ2 σ2 b' x2 R2 q2 => ?_
  exact simBin h3 R2 (q1.mono x2) q2 fun ρ3 σ3 u' x3 R3 q3 => simTruth hc q3 (hQ ρ3 σ3 ((x1.trans x2).trans x3) R3)
theorem E_una {o : UnaryOp} {e : Ex} (he : ESim ic cw e) : ESim ic cw (.una o e) := by
  intro m H v H' h ρ σ0 σ m' Q R M hQ
  rw [We4]
  replace h := oB_i h; obtain ⟨a, H1, h1, h⟩ := h
  replace h := oV_i h; obtain ⟨b, hb, h⟩ := h
  cases h
  exact he m H _ _ h1 ρ σ0 σ m' _ R M fun ρ1 σ1 a' x1 R1 q1 => simUna hb R1 q1 (hQ.on x1)
theorem E_cmp {o : CmpOp} {l r : Ex} (hl : ESim ic cw l) (hr : ESim ic cw r) : ESim ic cw (.cmp o l r) := by
  intro m H v H' h ρ σ0 σ m' Q R M hQ
  rw [We5]
  replace h := oB_i h; obtain ⟨a, H1, h1, h⟩ := h
  replace h := oB_i h; obtain ⟨b, H2, h2, h⟩ := h
  replace h := oV_i h; obtain ⟨c, hc, h⟩ := h
  cases h
  refine hl m H _ _ h1 ρ σ0 σ m' _ R M fun ρ1 σ1 a' x1 R1 q1 => ?_
  refine hr m H1 _ _ h2 ρ1 σ0 σ1 m' _ R1 (M.mono x1) fun ρ2 σ2 b' x2 R2 q2 => ?_
  exact simCmp hc (q1.mono x2) q2 (hQ ρ2 σ2 _ (x1.trans x2) R2 rfl)
theorem T_cmp {o : CmpOp} {l r : Ex} (hl : ESim ic cw l) (hr : ESim ic cw r) : TSim ic cw (.cmp o l r) := by
  intro m H v H' h ρ σ0 σ m' Q R M hQ
  rw [Wt4]
  rw [It1] at h; replace h := oB_i h; obtain ⟨a, H1, h1, h⟩ := h
  replace h := oB_i h; obtain ⟨b, H2, h2, h⟩ := h
  replace h := oV_i h; obtain ⟨c, hc, h⟩ := h
  cases h
  refine hl m H _ _ h1 ρ σ0 σ m' _ R M fun ρ1 σ1 a' x1 R1 q1 => ?_
  refine hr m H1 _ _ h2 ρ1 σ0 σ1 m' _ R1 (M.mono x1) fun ρ2 σ2 b' x2 R2 q2 => ?_
  exact simCmp hc (q1.mono x2) q2 (hQ ρ2 σ2 (x1.trans x2) R2)
theorem E_attr {e : Ex} {f : Nat} (he : ESim ic cw e) : ESim ic cw (.attr e f) := by
  intro m H v H' h ρ σ0 σ m' Q R M hQ
  rw [We11]
  replace h := oB_i h; obtain ⟨a, H1, h1, h⟩ := h
  replace h := oV_i h; obtain ⟨b, hb, h⟩ := h
  cases h
  exact he m H _ _ h1 ρ σ0 σ m' _ R M fun ρ1 σ1 a' x1 R1 q1 => simAttr hb R1 q1 (hQ.on x1)
theorem T_attr {e : Ex} {f : Nat} (he : ESim ic cw e) : TSim ic cw (.attr e f) := by
  intro m H v H' h ρ σ0 σ m' Q R M hQ
  rw [Wt11]
  rw [It3] at h; replace h := oB_i h; obtain ⟨a, H1, h1, h⟩ := h
  replace h := oV_i h; obtain ⟨b, hb, h⟩ := h
  replace h := oV_i h; obtain ⟨c, hc, h⟩ := h
  cases h
  exact he m H _ _ h1 ρ σ0 σ m' _ R M fun ρ1 σ1 a' x1 R1 q1 => simAttr hb R1 q1 fun ρ2 σ2 u' x2 R2 q2 => simTruth hc q2 (hQ ρ2 σ2 (x1.trans x2) R2)
theorem E_sub {e i : Ex} (he : ESim ic cw e) (hi : ESim ic cw i) : ESim ic cw (.sub e i) := by
  intro m H v H' h ρ σ0 σ m' Q R M hQ
  rw [We12]
  replace h := oB_i h; obtain ⟨a, H1, h1, h⟩ := h
  replace h := oB_i h; obtain ⟨b, H2, h2, h⟩ := h
  replace h := oV_i h; obtain ⟨c, hc, h⟩ := h
  cases h
  refine he m H _ _ h1 ρ σ0 σ m' _ R M fun ρ1 σ1 a' x1 R1 q1 => ?_
  refine hi m H1 _ _ h2 ρ1 σ0 σ1 m' _ R1 (M.mono x1) fun ρ2 σ2 b' x2 R2 q2 => ?_
  exact simSub hc R2 (q1.mono x2) q2 (hQ.on (x1.trans x2))
theorem E_call (hC : CSim ic cw) {f : Nat} {as : List Ex} (ha : ∀ e ∈ as, ESim ic cw e) : ESim ic cw (.call f as) := by
  intro m H v H' h ρ σ0 σ m' Q R M hQ
  rw [We14]
  replace h := oB_i h; obtain ⟨vs, H1, h1, h⟩ := h
  exact EsSim ha m H _ _ h1 ρ σ0 σ m' _ R M fun ρ1 σ1 vs' x1 R1 q1 => hC f vs H1 v H' h ρ1 σ0 σ1 vs' Q R1 q1 (hQ.on x1)
theorem T_call (hC : CSim ic cw) {f : Nat} {as : List Ex} (ha : ∀ e ∈ as, ESim ic cw e) : TSim ic cw (.call f as) := by
  intro m H v H' h ρ σ0 σ m' Q R M hQ
  rw [Wt12]
  rw [It4] at h; replace h := oB_i h; obtain ⟨vs, H1, h1, h⟩ := h
  replace h := oB_i h; obtain ⟨u, H2, h2, h⟩ := h
  replace h := oV_i h; obtain ⟨c, hc, h⟩ := h
  cases h
  exact EsSim ha m H _ _ h1 ρ σ0 σ m' _ R M fun ρ1 σ1 vs' x1 R1 q1 => hC f vs H1 u _ h2 ρ1 σ0 σ1 vs' _ R1 q1 fun ρ2 σ2 u' x2 R2 q2 => simTruth hc q2 (hQ ρ2 σ2 (x1.trans x2) R2)
theorem E_new (hC : CSim ic cw) {c f : Nat} {as : List Ex} (ha : ∀ e ∈ as, ESim ic cw e) : ESim ic cw (.new c f as) := by
  intro m H v H' h ρ σ0 σ m' Q R M hQ
  rw [We15]
  replace h := oB_i h; obtain ⟨vs, H1, h1, h⟩ := h
  replace h := oB_i h; obtain ⟨u, H2, h2, h⟩ := h
  replace h := oI_i h; obtain ⟨hu, h⟩ := h
  obtain rfl := isNoB_i hu
  cases h
  refine EsSim ha m H _ _ h1 ρ σ0 σ m' _ R M fun ρ1 σ1 vs' x1 R1 q1 => ?_
  intro d x hd hx hdx
  have Ra := R1.push (o := .dict []) (o' := .dict []) hd ⟨[], rfl, trivial⟩
  have hx' : put σ1 d (.dict []) x = none := by rw [putN (Ne.symm hdx)]; exact hx
  have Rb := Ra.push (o := .inst c H1.length) (o' := .inst c d) hx' ⟨d, rfl, by rw [← R1.len]; simp⟩
  have x2 : Pre ρ1 (ρ1 ++ [d] ++ [x]) := Pre.push.trans Pre.push
  have gx : (ρ1 ++ [d] ++ [x])[H1.length + 1]? = some x := by rw [← R1.len]; simp
  refine hC f _ _ _ _ h2 _ σ0 _ (.ref x :: vs') _ Rb ⟨⟨x, rfl, gx⟩, q1.mono x2⟩ fun ρ3 σ3 u x3 R3 q3 => ?_
  have q3' : u = .none := q3
  exact ⟨q3', hQ ρ3 σ3 (.ref x) ((x1.trans x2).trans x3) R3 ⟨x, rfl, x3.get gx⟩⟩
theorem E_range {as : List Ex} (ha : ∀ e ∈ as, ESim ic cw e) : ESim ic cw (.range as) := by
  intro m H v H' h ρ σ0 σ m' Q R M hQ
  rw [We19]
  replace h := oB_i h; obtain ⟨vs, H1, h1, h⟩ := h
  exact EsSim ha m H _ _ h1 ρ σ0 σ m' _ R M fun ρ1 σ1 vs' x1 R1 q1 => simRange h R1 q1 (hQ.on x1)
theorem E_app {o e : Ex} (ho : ESim ic cw o) (he : ESim ic cw e) : ESim ic cw (.app o e) := by
  intro m H v H' h ρ σ0 σ m' Q R M hQ
  rw [We21]
  replace h := oB_i h; obtain ⟨a, H1, h1, h⟩ := h
  replace h := oI_i h; obtain ⟨hl, h⟩ := h
  replace h := oB_i h; obtain ⟨b, H2, h2, h⟩ := h
  refine ho m H _ _ h1 ρ σ0 σ m' _ R M fun ρ1 σ1 a' x1 R1 q1 => ⟨simIsList hl R1 q1, ?_⟩
  refine he m H1 _ _ h2 ρ1 σ0 σ1 m' _ R1 (M.mono x1) fun ρ2 σ2 b' x2 R2 q2 => ?_
  exact simApp h R2 (q1.mono x2) q2 (hQ.on (x1.trans x2))
theorem E_list {as : List Ex} (ha : ∀ e ∈ as, ESim ic cw e) : ESim ic cw (.list as) := by
  intro m H v H' h ρ σ0 σ m' Q R M hQ
  rw [We22]
  replace h := oB_i h; obtain ⟨vs, H1, h1, h⟩ := h
  replace h := oI_i h; obtain ⟨hl, h⟩ := h
  cases h
  exact EsSim ha m H _ _ h1 ρ σ0 σ m' _ R M fun ρ1 σ1 vs' x1 R1 q1 => ⟨by rw [q1.len]; exact hl, fun c hc => sim_push (o := .list _) R1 hc (fun ρ' x => ⟨_, rfl, q1.mono x⟩) (hQ.on x1)⟩
theorem E_tup {as : List Ex} (ha : ∀ e ∈ as, ESim ic cw e) : ESim ic cw (.tup as) := by
  intro m H v H' h ρ σ0 σ m' Q R M hQ
  rw [We23]
  replace h := oB_i h; obtain ⟨vs, H1, h1, h⟩ := h
  replace h := oI_i h; obtain ⟨hl, h⟩ := h
  cases h
  exact EsSim ha m H _ _ h1 ρ σ0 σ m' _ R M fun ρ1 σ1 vs' x1 R1 q1 => ⟨by rw [q1.len]; exact hl, fun c hc => sim_push (o := .tup _) R1 hc (fun ρ' x => ⟨_, rfl, q1.mono x⟩) (hQ.on x1)⟩
theorem E_lit (v : AVal) : ESim ic cw (.lit v) := by
  intro m H u H' h ρ σ0 σ m' Q R M hQ
  rw [We1]
  replace h := oI_i h; obtain ⟨hr, h⟩ := h
  cases h
  refine hQ ρ σ _ Pre.refl R ?_
  cases v <;> first | rfl | cases hr
theorem E_var (i : Nat) : ESim ic cw (.var i) := by
  intro m H u H' h ρ σ0 σ m' Q R M hQ
  rw [We2]
  replace h := oW_i h; obtain ⟨v, hv, h⟩ := h
  cases h
  obtain ⟨w, e, q⟩ := M.get hv
  simp only [varW, e]
  exact hQ ρ σ w Pre.refl R q

mutual
theorem simE (hC : CSim ic cw) : ∀ e : Ex, ESim ic cw e ∧ TSim ic cw e
  | .lit v => ⟨E_lit v, no_t fun _ _ => rfl⟩
  | .var i => ⟨E_var i, no_t fun _ _ => rfl⟩
  | .bin _ l r => ⟨E_bin (simE hC l).1 (simE hC r).1, T_bin (simE hC l).1 (simE hC r).1⟩
  | .una _ x => ⟨E_una (simE hC x).1, no_t fun _ _ => rfl⟩
  | .cmp _ l r => ⟨E_cmp (simE hC l).1 (simE hC r).1, T_cmp (simE hC l).1 (simE hC r).1⟩
  | .and es => ⟨fun m H v H' h ρ σ0 σ m' Q R M hQ => by rw [We8]; exact BSim (fun e he => (simEs hC es e he).1) m H v H' h ρ σ0 σ m' Q R M hQ,
      fun m H v H' h ρ σ0 σ m' Q R M hQ => by rw [Wt2]; exact TsSim (fun e he => (simEs hC es e he).2) m H v H' h ρ σ0 σ m' Q R M hQ⟩
  | .or es => ⟨fun m H v H' h ρ σ0 σ m' Q R M hQ => by rw [We9]; exact BSim (fun e he => (simEs hC es e he).1) m H v H' h ρ σ0 σ m' Q R M hQ,
      fun m H v H' h ρ σ0 σ m' Q R M hQ => by rw [Wt3]; exact TsSim (fun e he => (simEs hC es e he).2) m H v H' h ρ σ0 σ m' Q R M hQ⟩
  | .attr x _ => ⟨E_attr (simE hC x).1, T_attr (simE hC x).1⟩
  | .sub x i => ⟨E_sub (simE hC x).1 (simE hC i).1, no_t fun _ _ => rfl⟩
  | .call _ as => ⟨E_call hC fun e he => (simEs hC as e he).1, T_call hC fun e he => (simEs hC as e he).1⟩
  | .new _ _ as => ⟨E_new hC fun e he => (simEs hC as e he).1, no_t fun _ _ => rfl⟩
  | .range as => ⟨E_range fun e he => (simEs hC as e he).1, no_t fun _ _ => rfl⟩
  | .app o e => ⟨E_app (simE hC o).1 (simE hC e).1, no_t fun _ _ => rfl⟩
  | .list es => ⟨E_list fun e he => (simEs hC es e he).1, no_t fun _ _ => rfl⟩
  | .tup es => ⟨E_tup fun e he => (simEs hC es e he).1, no_t fun _ _ => rfl⟩
  | .cmp2 .. => ⟨no_e fun _ _ => rfl, no_t fun _ _ => rfl⟩
  | .not _ => ⟨no_e fun _ _ => rfl, no_t fun _ _ => rfl⟩
  | .ite .. => ⟨no_e fun _ _ => rfl, no_t fun _ _ => rfl⟩
  | .tail .. => ⟨no_e fun _ _ => rfl, no_t fun _ _ => rfl⟩
  | .len _ => ⟨no_e fun _ _ => rfl, no_t fun _ _ => rfl⟩
  | .sum _ => ⟨no_e fun _ _ => rfl, no_t fun _ _ => rfl⟩
  | .sorted _ => ⟨no_e fun _ _ => rfl, no_t fun _ _ => rfl⟩
  | .mklist _ => ⟨no_e fun _ _ => rfl, no_t fun _ _ => rfl⟩
  | .comp .. => ⟨no_e fun _ _ => rfl, no_t fun _ _ => rfl⟩
theorem simEs (hC : CSim ic cw) : ∀ es : List Ex, ∀ e ∈ es, ESim ic cw e ∧ TSim ic cw e
  | [], _, h => nomatch h
  | x :: r, e, h => (List.mem_cons.mp h).elim (fun q => q ▸ simE hC x) (fun q => simEs hC r e q)
end

/-! statements -/
noncomputable def FRl (ρ : List Nat) : AFlow → AFlow → Prop
  | .next, f => f = .next
  | .cont, f => f = .cont
  | .ret v, f => ∃ v', f = .ret v' ∧ VR ρ v v'
noncomputable abbrev PF (ρ : List Nat) (σ0 : AHeap) (f : AFlow) (m1 : Loc) (H' : IH) (Q : AFlow → Loc → AHeap → Prop) : Prop := ∀ ρ' σ' m' f', Pre ρ ρ' → HR ρ' H' σ0 σ' → MR ρ' m1 m' → FRl ρ' f f' → Q f' m' σ'
theorem PF.on {ρ ρ' : List Nat} {σ0 : AHeap} {f : AFlow} {m1 : Loc} {H' : IH} {Q : AFlow → Loc → AHeap → Prop} (x : Pre ρ ρ') (h : PF ρ σ0 f m1 H' Q) : PF ρ' σ0 f m1 H' Q := fun ρ2 σ2 m2 f2 y R M q => h ρ2 σ2 m2 f2 (x.trans y) R M q
noncomputable def SSim (ic : IC) (cw : CW) (s : St) : Prop := ∀ m H f m1 H', iS ic s m H = some (f, m1, H') → ∀ ρ σ0 σ m' Q, HR ρ H σ0 σ → MR ρ m m' → PF ρ σ0 f m1 H' Q → wpS cw s m' Q σ
noncomputable def SsSim (ic : IC) (cw : CW) (s : List St) : Prop := ∀ m H f m1 H', iSs ic s m H = some (f, m1, H') → ∀ ρ σ0 σ m' Q, HR ρ H σ0 σ → MR ρ m m' → PF ρ σ0 f m1 H' Q → wpSs cw s m' Q σ
theorem no_s {s : St} (h : ∀ m H, iS ic s m H = none) : SSim ic cw s := by
  intro m H f m1 H' q; rw [h] at q; cases q

theorem S_asg {i : Nat} {e : Ex} (he : ESim ic cw e) : SSim ic cw (.asg i e) := by
  intro m H f m1 H' h ρ σ0 σ m' Q R M hQ
  rw [Ws1]
  rw [Is1] at h; replace h := oB_i h; obtain ⟨v, H1, h1, h⟩ := h
  cases h
  exact he m H _ _ h1 ρ σ0 σ m' _ R M fun ρ1 σ1 a' x1 R1 q1 => hQ ρ1 σ1 _ _ x1 R1 ((M.mono x1).set q1) rfl
theorem S_asgA {o e : Ex} {a : Nat} (ho : ESim ic cw o) (he : ESim ic cw e) : SSim ic cw (.asgA o a e) := by
  intro m H f m1 H' h ρ σ0 σ m' Q R M hQ
  rw [Ws3]
  rw [Is2] at h; replace h := oB_i h; obtain ⟨v, H1, h1, h⟩ := h
  replace h := oB_i h; obtain ⟨b, H2, h2, h⟩ := h
  replace h := oV_i h; obtain ⟨H3, h3, h⟩ := h
  cases h
  refine he m H _ _ h1 ρ σ0 σ m' _ R M fun ρ1 σ1 a' x1 R1 q1 => ?_
  refine ho m H1 _ _ h2 ρ1 σ0 σ1 m' _ R1 (M.mono x1) fun ρ2 σ2 b' x2 R2 q2 => ?_
  exact simSetA h3 R2 q2 (q1.mono x2) fun σ3 R3 => hQ ρ2 σ3 _ _ (x1.trans x2) R3 (M.mono (x1.trans x2)) rfl
theorem S_asgS {o i e : Ex} (ho : ESim ic cw o) (hi : ESim ic cw i) (he : ESim ic cw e) : SSim ic cw (.asgS o i e) := by
  intro m H f m1 H' h ρ σ0 σ m' Q R M hQ
  rw [Ws4]
  rw [Is3] at h; replace h := oB_i h; obtain ⟨v, H1, h1, h⟩ := h
  replace h := oB_i h; obtain ⟨b, H2, h2, h⟩ := h
  replace h := oB_i h; obtain ⟨k, H3, h3, h⟩ := h
  replace h := oV_i h; obtain ⟨H4, h4, h⟩ := h
  cases h
  refine he m H _ _ h1 ρ σ0 σ m' _ R M fun ρ1 σ1 a' x1 R1 q1 => ?_
  refine ho m H1 _ _ h2 ρ1 σ0 σ1 m' _ R1 (M.mono x1) fun ρ2 σ2 b' x2 R2 q2 => ?_
  refine hi m H2 _ _ h3 ρ2 σ0 σ2 m' _ R2 (M.mono (x1.trans x2)) fun ρ3 σ3 c' x3 R3 q3 => ?_
  exact simSetS h4 R3 (q2.mono x3) q3 (q1.mono (x2.trans x3)) fun σ4 R4 => hQ ρ3 σ4 _ _ ((x1.trans x2).trans x3) R4 (M.mono ((x1.trans x2).trans x3)) rfl
theorem S_augV {op : Operator} {i : Nat} {e : Ex} (he : ESim ic cw e) : SSim ic cw (.augV op i e) := by
  intro m H f m1 H' h ρ σ0 σ m' Q R M hQ
  rw [Ws5]
  rw [Is4] at h; replace h := oW_i h; obtain ⟨a, ha, h⟩ := h
  replace h := oB_i h; obtain ⟨v, H1, h1, h⟩ := h
  replace h := oB_i h; obtain ⟨r, H2, h2, h⟩ := h
  cases h
  obtain ⟨w, e1, e2⟩ := M.get ha
  simp only [varW, e1]
  refine he m H _ _ h1 ρ σ0 σ m' _ R M fun ρ1 σ1 a' x1 R1 q1 => ?_
  exact simAug h2 R1 (e2.mono x1) q1 fun ρ2 σ2 r' x2 R2 q2 => hQ ρ2 σ2 _ _ (x1.trans x2) R2 ((M.mono (x1.trans x2)).set q2) rfl
theorem S_augS {op : Operator} {o i e : Ex} (ho : ESim ic cw o) (hi : ESim ic cw i) (he : ESim ic cw e) : SSim ic cw (.augS op o i e) := by
  intro m H f m1 H' h ρ σ0 σ m' Q R M hQ
  rw [Ws7]
  rw [Is5] at h; replace h := oB_i h; obtain ⟨a, H1, h1, h⟩ := h
  replace h := oB_i h; obtain ⟨k, H2, h2, h⟩ := h
  replace h := oV_i h; obtain ⟨old, h3, h⟩ := h
  replace h := oB_i h; obtain ⟨v, H3, h4, h⟩ := h
  replace h := oB_i h; obtain ⟨r, H4, h5, h⟩ := h
  replace h := oV_i h; obtain ⟨H5, h6, h⟩ := h
  cases h
  refine ho m H _ _ h1 ρ σ0 σ m' _ R M fun ρ1 σ1 a' x1 R1 q1 => ?_
  refine hi m H1 _ _ h2 ρ1 σ0 σ1 m' _ R1 (M.mono x1) fun ρ2 σ2 b' x2 R2 q2 => ?_
  refine simSub h3 R2 (q1.mono x2) q2 fun ρ3 σ3 c' x3 R3 q3 => ?_
  have y3 := (x1.trans x2).trans x3
  refine he m H2 _ _ h4 ρ3 σ0 σ3 m' _ R3 (M.mono y3) fun ρ4 σ4 d' x4 R4 q4 => ?_
  refine simAug h5 R4 (q3.mono x4) q4 fun ρ5 σ5 r' x5 R5 q5 => ?_
  have y5 := (y3.trans x4).trans x5
  exact simSetS h6 R5 (q1.mono (((x2.trans x3).trans x4).trans x5)) (q2.mono ((x3.trans x4).trans x5)) q5 fun σ6 R6 => hQ ρ5 σ6 _ _ y5 R6 (M.mono y5) rfl
theorem S_ex {e : Ex} (he : ESim ic cw e) : SSim ic cw (.ex e) := by
  intro m H f m1 H' h ρ σ0 σ m' Q R M hQ
  rw [Ws8]
  rw [Is6] at h; replace h := oB_i h; obtain ⟨u, H1, h1, h⟩ := h
  replace h := oI_i h; obtain ⟨hu, h⟩ := h
  obtain rfl := isNoB_i hu
  cases h
  exact he m H _ _ h1 ρ σ0 σ m' _ R M fun ρ1 σ1 a' x1 R1 q1 => ⟨q1, hQ ρ1 σ1 _ _ x1 R1 (M.mono x1) rfl⟩
theorem S_ret {e : Ex} (he : ESim ic cw e) : SSim ic cw (.ret e) := by
  intro m H f m1 H' h ρ σ0 σ m' Q R M hQ
  rw [Ws9]
  rw [Is7] at h; replace h := oB_i h; obtain ⟨v, H1, h1, h⟩ := h
  cases h
  exact he m H _ _ h1 ρ σ0 σ m' _ R M fun ρ1 σ1 a' x1 R1 q1 => hQ ρ1 σ1 _ _ x1 R1 (M.mono x1) ⟨a', rfl, q1⟩
theorem S_iff {t : Ex} {a b : List St} (ht : TSim ic cw t) (ha : SsSim ic cw a) (hb : SsSim ic cw b) : SSim ic cw (.iff t a b) := by
  intro m H f m1 H' h ρ σ0 σ m' Q R M hQ
  rw [Ws10]
  rw [Is8] at h; replace h := oB_i h; obtain ⟨c, H1, h1, h⟩ := h
  refine ht m H _ _ h1 ρ σ0 σ m' _ R M fun ρ1 σ1 x1 R1 => ?_
  cases c with
  | true => exact ha m H1 _ _ _ h ρ1 σ0 σ1 m' _ R1 (M.mono x1) (hQ.on x1)
  | false => exact hb m H1 _ _ _ h ρ1 σ0 σ1 m' _ R1 (M.mono x1) (hQ.on x1)
theorem S_for {i : Nat} {it : Ex} {b : List St} (hi : ESim ic cw it) (hb : SsSim ic cw b) : SSim ic cw (.forV i it b) := by
  intro m H f m1 H' h ρ σ0 σ m' Q R M hQ
  rw [Ws12]
  rw [Is9] at h; replace h := oB_i h; obtain ⟨x0, H1, h1, h⟩ := h
  replace h := oR_i h; obtain ⟨a, rfl, h⟩ := h
  replace h := oV_i h; obtain ⟨o0, hr, h⟩ := h
  replace h := oRg_i h; obtain ⟨lo, hi', st, rfl, h⟩ := h
  refine hi m H _ _ h1 ρ σ0 σ m' _ R M fun ρ1 σ1 v x1 R1 q1 => ?_
  obtain ⟨a', rfl, ha⟩ := q1
  obtain ⟨b', o', e1, e2, e3⟩ := R1.obj _ _ hr
  rw [ha] at e1; cases e1
  obtain rfl : o' = .range lo hi' st := e3
  refine ⟨a', _, _, rfl, e2, rfl, ?_⟩
  have go : ∀ (l : List Int) (m : Loc) (H1 : IH), iFor (fun m H => iSs ic b m H) i a lo hi' st l m H1 = some (f, m1, H') → ∀ ρ1 σ1 m', Pre ρ ρ1 → HR ρ1 H1 σ0 σ1 → MR ρ1 m m' → ρ1[a]? = some a' →
      forN (fun m Q σ => wpSs cw b m Q σ) (bindV i) a' (.range lo hi' st) Q (zs l) m' σ1 := by
    intro l
    induction l with
    | nil =>
      intro m H1 h ρ1 σ1 m' x1 R1 M1 ha
      cases h
      exact hQ ρ1 σ1 _ _ x1 R1 M1 rfl
    | cons n r ih =>
      intro m H1 h ρ1 σ1 m' x1 R1 M1 ha
      replace h := oF_i h; obtain ⟨fl, m2, H2, hs, h⟩ := h
      replace h := oI_i h; obtain ⟨hn, h⟩ := h
      replace h := oV_i h; obtain ⟨o2, hr2, h⟩ := h
      replace h := oRg_i h; obtain ⟨lo2, hi2, st2, rfl, h⟩ := h
      replace h := oI_i h; obtain ⟨z, h⟩ := h
      obtain ⟨rfl, rfl, rfl⟩ := z
      refine hb _ H1 _ _ _ hs ρ1 σ0 σ1 _ _ R1 (M1.set (show VR ρ1 (.int n) (.int n) from rfl)) fun ρ2 σ2 m2' f2 x2 R2 M2 q2 => ?_
      obtain ⟨b', o', e1, e2, e3⟩ := R2.obj _ _ hr2
      rw [x2.get ha] at e1; cases e1
      obtain rfl : o' = .range lo2 hi2 st2 := e3
      have fin := ih m2 H2 h ρ2 σ2 m2' (x1.trans x2) R2 M2 (x2.get ha)
      cases fl with
      | next => obtain rfl : f2 = .next := q2; exact ⟨e2, fin⟩
      | cont => obtain rfl : f2 = .cont := q2; exact ⟨e2, fin⟩
      | ret v => cases hn
  exact go _ m H1 h ρ1 σ1 m' x1 R1 (M.mono x1) ha

mutual
theorem simS (hC : CSim ic cw) : ∀ s : St, SSim ic cw s
  | .asg _ e => S_asg (simE hC e).1
  | .asgA o _ e => S_asgA (simE hC o).1 (simE hC e).1
  | .asgS o i e => S_asgS (simE hC o).1 (simE hC i).1 (simE hC e).1
  | .augV _ _ e => S_augV (simE hC e).1
  | .augS _ o i e => S_augS (simE hC o).1 (simE hC i).1 (simE hC e).1
  | .ex e => S_ex (simE hC e).1
  | .ret e => S_ret (simE hC e).1
  | .iff t a b => S_iff (simE hC t).2 (simSs hC a) (simSs hC b)
  | .forV _ it b => S_for (simE hC it).1 (simSs hC b)
  | .asgT .. => no_s fun _ _ => rfl
  | .augA .. => no_s fun _ _ => rfl
  | .whl .. => no_s fun _ _ => rfl
  | .forT .. => no_s fun _ _ => rfl
  | .cont => no_s fun _ _ => rfl
  | .rais => no_s fun _ _ => rfl
theorem simSs (hC : CSim ic cw) : ∀ s : List St, SsSim ic cw s
  | [] => fun m H f m1 H' h ρ σ0 σ m' Q R M hQ => by
    cases h
    rw [Wss1]; exact hQ ρ σ m' .next Pre.refl R M rfl
  | s :: r => fun m H f m1 H' h ρ σ0 σ m' Q R M hQ => by
    rw [Wss2]
    replace h := oF_i h; obtain ⟨f2, m2, H2, h1, h⟩ := h
    refine simS hC s m H _ _ _ h1 ρ σ0 σ m' _ R M fun ρ1 σ1 m2' f3 x1 R1 M1 q1 => ?_
    cases f2 with
    | next => obtain rfl : f3 = .next := q1; exact simSs hC r m2 H2 _ _ _ h ρ1 σ0 σ1 m2' _ R1 M1 (hQ.on x1)
    | cont => cases h; obtain rfl : f3 = .cont := q1; exact hQ ρ1 σ1 m2' _ x1 R1 M1 rfl
    | ret v => cases h; obtain ⟨v', rfl, q⟩ := q1; exact hQ ρ1 σ1 m2' _ x1 R1 M1 ⟨v', rfl, q⟩
end
end

theorem simCall : ∀ k, CSim (iCall k) (callW P k)
  | 0 => fun f vs H v H' h => by cases h
  | k + 1 => fun f vs H v H' h ρ σ0 σ vs' Q R q hQ => by
    replace h := oV_i h; obtain ⟨fn, hfn, h⟩ := h
    replace h := oI_i h; obtain ⟨hl, h⟩ := h
    replace h := oF_i h; obtain ⟨fl, m1, H1, h1, h⟩ := h
    cases h
    rw [callW, hfn]
    refine ⟨by rw [q.len]; exact hl, ?_⟩
    refine simSs (simCall k) fn.body _ H _ _ _ h1 ρ σ0 σ _ _ R (MR.args fn.nl q) fun ρ1 σ1 m2 f2 x1 R1 _ q1 => hQ ρ1 σ1 _ x1 R1 ?_
    cases fl with
    | next => obtain rfl : f2 = .next := q1; exact rfl
    | cont => obtain rfl : f2 = .cont := q1; exact rfl
    | ret v => obtain ⟨v', rfl, q⟩ := q1; exact q

/-- a closed call, run from a heap of any kind: what it makes is new -/
theorem closed_call {k f : Nat} {vs : List AVal} {v : AVal} {H : IH} (h : iCall k f vs [] = some (v, H)) {σ : AHeap} {Q : AVal → AHeap → Prop} (hv : vs.all (fun x => !isRef x) = true)
    (hQ : ∀ ρ σ' v', HR ρ H σ σ' → VR ρ v v' → Q v' σ') : callW P k f vs Q σ := by
  have hs : VRS [] vs vs := by
    clear h hQ
    induction vs with
    | nil => trivial
    | cons x r ih =>
      simp only [List.all_cons, Bool.and_eq_true, Bool.not_eq_true'] at hv
      refine ⟨?_, ih hv.2⟩
      cases x <;> first | rfl | (exact absurd hv.1 (by simp [isRef]))
  exact simCall k f vs [] v H h [] σ σ vs Q ⟨rfl, fun i j a e => by simp at e, fun i a e => by simp at e, Ext.refl, fun i o e => by simp at e⟩ hs fun ρ' σ' v' _ R q => hQ ρ' σ' v' R q
end Pf
end

section
set_option autoImplicit false
set_option maxRecDepth 100000
namespace Pf
open PySem (Operator CmpOp UnaryOp)

noncomputable def bds : List (Nat × Nat × Bool) := [(4, 5, true), (3, 5, true), (4, 4, false), (3, 4, false), (6, 3, false), (5, 5, true), (4, 6, true), (8, 3, false)]
noncomputable def rankM (f i : Nat) : Nat := (2 ^ f - 1) <<< (i * f)
noncomputable def fileM (f r j : Nat) : Nat := ((List.range r).foldl (fun c i => c ||| (1 <<< (i * f))) 0) <<< j
/-- what the law needs of the geometry -/
noncomputable def GeoAt (σ : AHeap) (g f r : Nat) (dbl : Bool) : Prop := ∃ d fs rm fm, σ g = some (.inst 200 d) ∧ σ d = some (.dict fs) ∧ fs.lookup 14 = some (.int (f : Int)) ∧ fs.lookup 16 = some (.int (r : Int)) ∧ fs.lookup 3 = some (.int ((f * r : Nat) : Int)) ∧ fs.lookup 10 = some (.int ((2 ^ (f * r) - 1 : Nat) : Int)) ∧
  fs.lookup 18 = some (.bool dbl) ∧ fs.lookup 15 = some (.ref rm) ∧ fs.lookup 17 = some (.ref fm) ∧ σ rm = some (.list (zs (natI ((List.range r).map (rankM f))))) ∧ σ fm = some (.list (zs (natI ((List.range f).map (fileM f r)))))
theorem GeoAt.ext {σ σ' : AHeap} {g f r : Nat} {dbl : Bool} (G : GeoAt σ g f r dbl) (E : Ext σ σ') : GeoAt σ' g f r dbl := by
  obtain ⟨d, fs, rm, fm, h1, h2, h3, h4, h5, h6, h7, h8, h9, h10, h11⟩ := G
  exact ⟨d, fs, rm, fm, E _ _ h1, E _ _ h2, h3, h4, h5, h6, h7, h8, h9, E _ _ h10, E _ _ h11⟩

noncomputable def isIntB (v : Option AVal) (i : Int) : Bool := bO v fun u => aInt u fun j => i == j
theorem isIntB_of {v : Option AVal} {i : Int} (h : isIntB v i = true) : v = some (.int i) := by
  replace h := bO_i h; obtain ⟨u, rfl, h⟩ := h
  replace h := aInt_i h; obtain ⟨j, rfl, h⟩ := h
  rw [beq_iff_eq.mp h]
noncomputable def isBoolB (v : Option AVal) (i : Bool) : Bool := bO v fun u => aBool u fun j => i == j
theorem isBoolB_of {v : Option AVal} {i : Bool} (h : isBoolB v i = true) : v = some (.bool i) := by
  replace h := bO_i h; obtain ⟨u, rfl, h⟩ := h
  replace h := aBool_i h; obtain ⟨j, rfl, h⟩ := h
  rw [beq_iff_eq.mp h]
noncomputable def intsB : List AVal → List Int → Bool
  | [], ns => ns.isEmpty
  | v :: r, ns => bC ns fun j s => aInt v fun i => i == j && intsB r s
theorem intsB_of : ∀ {xs : List AVal} {ns : List Int}, intsB xs ns = true → xs = zs ns
  | [], ns, h => by rw [List.isEmpty_iff.mp (show ns.isEmpty = true from h)]; rfl
  | v :: r, ns, h => by
    replace h := bC_i h; obtain ⟨j, s, rfl, h⟩ := h
    replace h := aInt_i h; obtain ⟨i, rfl, h⟩ := h
    replace h := andI h; obtain ⟨q, h⟩ := h
    rw [beq_iff_eq.mp q, intsB_of h]; rfl
noncomputable def isListB (H : IH) (v : Option AVal) (ns : List Int) : Bool := bO v fun u => aRef u fun a => bO H[a]? fun o => wLst o fun xs => intsB xs ns
theorem isListB_of {H : IH} {v : Option AVal} {ns : List Int} (h : isListB H v ns = true) : ∃ a, v = some (.ref a) ∧ H[a]? = some (.list (zs ns)) := by
  replace h := bO_i h; obtain ⟨u, rfl, h⟩ := h
  replace h := aRef_i h; obtain ⟨a, rfl, h⟩ := h
  replace h := bO_i h; obtain ⟨o, ho, h⟩ := h
  replace h := wLst_i h; obtain ⟨xs, rfl, h⟩ := h
  exact ⟨a, rfl, by rw [ho, intsB_of h]⟩
noncomputable def geoChk (f r : Nat) (dbl : Bool) : Bool := bO (iCall 8 27 [.int (f : Int), .int (r : Int), .bool dbl, .bool false] []) fun p => aRef p.1 fun g => bO p.2[g]? fun o => wInst o fun c d => c == 200 &&
  bO p.2[d]? fun o2 => wDict o2 fun fs => isIntB (fs.lookup 14) (f : Int) && isIntB (fs.lookup 16) (r : Int) && isIntB (fs.lookup 3) ((f * r : Nat) : Int) && isIntB (fs.lookup 10) ((2 ^ (f * r) - 1 : Nat) : Int) && isBoolB (fs.lookup 18) dbl &&
          isListB p.2 (fs.lookup 15) (natI ((List.range r).map (rankM f))) && isListB p.2 (fs.lookup 17) (natI ((List.range f).map (fileM f r)))
theorem geo0 : geoChk 4 5 true = true := by decide +kernel
theorem geo1 : geoChk 3 5 true = true := by decide +kernel
theorem geo2 : geoChk 4 4 false = true := by decide +kernel
theorem geo3 : geoChk 3 4 false = true := by decide +kernel
theorem geo4 : geoChk 6 3 false = true := by decide +kernel
theorem geo5 : geoChk 5 5 true = true := by decide +kernel
theorem geo6 : geoChk 4 6 true = true := by decide +kernel
theorem geo7 : geoChk 8 3 false = true := by decide +kernel
theorem geoAll : bds.all (fun p => geoChk p.1 p.2.1 p.2.2) = true := by
  simp only [bds, List.all_cons, List.all_nil, geo0, geo1, geo2, geo3, geo4, geo5, geo6, geo7, Bool.and_self]
theorem VRS.natI {ρ : List Nat} : ∀ {ns : List Int} {ys : List AVal}, VRS ρ (Pf.zs ns) ys → ys = Pf.zs ns
  | [], [], _ => rfl
  | n :: r, y :: s, h => by
    have h1 : y = .int n := h.1
    rw [h1, VRS.natI h.2]; rfl
  | [], _ :: _, h => h.elim
  | _ :: _, [], h => h.elim

theorem spec_make_geometry {k f r : Nat} {dbl : Bool} (hb : (f, r, dbl) ∈ bds) {σ : AHeap} {Q : AVal → AHeap → Prop} (h : ∀ g σ', Ext σ σ' → GeoAt σ' g f r dbl → Q (.ref g) σ') :
    callW P 8 27 [.int (f : Int), .int (r : Int), .bool dbl, .bool false] Q σ := by
  have hc := List.all_eq_true.mp geoAll _ hb
  dsimp only at hc
  replace hc := bO_i hc; obtain ⟨⟨v0, H⟩, hrun, hc⟩ := hc
  replace hc := aRef_i hc; obtain ⟨g, ev, hc⟩ := hc
  obtain rfl : v0 = _ := ev
  refine closed_call hrun rfl fun ρ σ' v' R q => ?_
  obtain ⟨g', rfl, hg⟩ := q
  replace hc := bO_i hc; obtain ⟨o0, hgd, hc⟩ := hc
  replace hc := wInst_i hc; obtain ⟨c, d, rfl, hc⟩ := hc
  replace hc := andI hc; obtain ⟨q0, hc⟩ := hc
  obtain rfl := beq_iff_eq.mp q0
  replace hc := bO_i hc; obtain ⟨o1, hfs, hc⟩ := hc
  replace hc := wDict_i hc; obtain ⟨fs, rfl, hc⟩ := hc
  simp only [Bool.and_eq_true] at hc
  obtain ⟨⟨⟨⟨⟨⟨c1, c2⟩, c3⟩, c4⟩, c5⟩, c6⟩, c7⟩ := hc
  obtain ⟨b, o', e1, e2, ⟨d', rfl, e3⟩⟩ := R.obj _ _ hgd
  rw [hg] at e1; cases e1
  obtain ⟨b, o', f1, f2, ⟨gs, rfl, f3⟩⟩ := R.obj _ _ hfs
  rw [e3] at f1; cases f1
  have gi : ∀ {n : Nat} {i : Int}, isIntB (fs.lookup n) i = true → gs.lookup n = some (.int i) := fun hc => by
    obtain ⟨w, g1, g2⟩ := f3.look (isIntB_of hc)
    rw [g1]; have : w = _ := g2; rw [this]
  have gb : ∀ {n : Nat} {i : Bool}, isBoolB (fs.lookup n) i = true → gs.lookup n = some (.bool i) := fun hc => by
    obtain ⟨w, g1, g2⟩ := f3.look (isBoolB_of hc)
    rw [g1]; have : w = _ := g2; rw [this]
  have gl : ∀ {n : Nat} {ns : List Int}, isListB H (fs.lookup n) ns = true → ∃ a, gs.lookup n = some (.ref a) ∧ σ' a = some (.list (zs ns)) := fun hc => by
    obtain ⟨a, h1, h2⟩ := isListB_of hc
    obtain ⟨w, g1, ⟨a', rfl, g2⟩⟩ := f3.look h1
    obtain ⟨b, o', l1, l2, ⟨ys, rfl, l3⟩⟩ := R.obj _ _ h2
    rw [g2] at l1; cases l1
    exact ⟨a', g1, by rw [l2, l3.natI]⟩
  obtain ⟨rm, m1, m2⟩ := gl c6
  obtain ⟨fm, m3, m4⟩ := gl c7
  exact h g' σ' R.ext ⟨d', gs, rm, fm, e2, f2, gi c1, gi c2, gi c3, gi c4, gb c5, m1, m3, m2, m4⟩
end Pf
end

section
set_option autoImplicit false
set_option maxRecDepth 100000
set_option linter.unusedSimpArgs false
namespace Pf
open PySem (Operator CmpOp UnaryOp)

section
variable {Q : AVal → AHeap → Prop} {σ : AHeap}
theorem attrGo {a c d f : Nat} {fs : List (Nat × AVal)} {v : AVal} (h1 : σ a = some (.inst c d)) (h2 : σ d = some (.dict fs)) (h3 : fs.lookup f = some v) (h : Q v σ) : attrW (.ref a) f Q σ := by
  simp only [attrW, h1, h2, h3]; exact h
theorem subGo {a k : Nat} {xs : List AVal} {v : AVal} (h1 : σ a = some (.list xs)) (h2 : xs[k]? = some v) (hk : k < 1000000) (h : Q v σ) : subW (.ref a) (.int (k : Int)) Q σ := by
  simp only [subW, seqAt, h1, Int.toNat_natCast, h2]
  exact ⟨by (clear hk; omega), by omega, h⟩
theorem subTup {a k : Nat} {xs : List AVal} {v : AVal} (h1 : σ a = some (.tup xs)) (h2 : xs[k]? = some v) (hk : k < 1000000) (h : Q v σ) : subW (.ref a) (.int (k : Int)) Q σ := by
  simp only [subW, seqAt, h1, Int.toNat_natCast, h2]
  exact ⟨by (clear hk; omega), by omega, h⟩
theorem zi_get {l : List Nat} {k n : Nat} (h : l[k]? = some n) : (zs (natI l))[k]? = some (.int (n : Int)) := by
  simp [zs, natI, h]
theorem subI {a k n : Nat} {l : List Nat} (h1 : σ a = some (.list (zs (natI l)))) (h2 : l[k]? = some n) (hk : k < 1000000) (h : Q (.int (n : Int)) σ) : subW (.ref a) (.int (k : Int)) Q σ :=
  subGo h1 (zi_get h2) hk h
end

noncomputable def full (f r : Nat) : Nat := 2 ^ (f * r) - 1
noncomputable def stp (f side : Nat) : Int := if side = 0 then (f : Int) else -(f : Int)
noncomputable def startM (f r side : Nat) : Nat := rankM f (if side = 0 then 1 else r - 2)
noncomputable def lastM (f r side : Nat) : Nat := rankM f (if side = 0 then r - 1 else 0)
noncomputable def shp (f r b side : Nat) : Nat := if side = 0 then (b <<< f) &&& full f r else b >>> f
noncomputable def shc (f r b side wing : Nat) : Nat := if wing = 0 then (shp f r (andn b (fileM f r (f - 1))) side) <<< 1 else (shp f r (andn b (fileM f r 0)) side) >>> 1
noncomputable def mv (o t s p : Nat) : Nat := ((t ||| (o <<< 6)) ||| ((if s = 1 then p - 2 else 0) <<< 12)) ||| (s <<< 14)

theorem bds_num : bds.all (fun p => 3 ≤ p.1 && p.1 ≤ 8 && 3 ≤ p.2.1 && p.2.1 ≤ 6 && p.1 * p.2.1 ≤ 30) = true := by decide
theorem bd_num {f r : Nat} {dbl : Bool} (hb : (f, r, dbl) ∈ bds) : 3 ≤ f ∧ f ≤ 8 ∧ 3 ≤ r ∧ r ≤ 6 ∧ f * r ≤ 30 := by
  have := List.all_eq_true.mp bds_num _ hb
  simp only [Bool.and_eq_true, decide_eq_true_eq] at this
  obtain ⟨⟨⟨⟨h1, h2⟩, h3⟩, h4⟩, h5⟩ := this
  exact ⟨h1, h2, h3, h4, h5⟩

theorem deq {a b : Nat} : decide ((a : Int) = (b : Int)) = decide (a = b) := by
  by_cases h : a = b
  · simp [h]
  · have : (a : Int) ≠ (b : Int) := by omega
    simp [h, this]

section
variable {k : Nat} {Q : AVal → AHeap → Prop} {σ : AHeap}
theorem spec_side_of {p : Nat} (h : Q (.int ((p >>> 3 : Nat) : Int)) σ) : callW P (k + 1) 1 [.int (p : Int)] Q σ := by
  refine callW_go rfl rfl ?_
  simp only [B_side_of, We1, We2, We3, Ws9, Wss1, Wss2, varW, retOf, List.getElem?_cons_zero, List.map_cons, List.map_nil, List.replicate_zero, List.append_nil]
  exact bShr (n := 3) h
theorem spec_kind_of {p : Nat} (h : Q (.int ((p &&& 7 : Nat) : Int)) σ) : callW P (k + 1) 2 [.int (p : Int)] Q σ := by
  refine callW_go rfl rfl ?_
  simp only [B_kind_of, We1, We2, We3, Ws9, Wss1, Wss2, varW, retOf, List.getElem?_cons_zero, List.map_cons, List.map_nil, List.replicate_zero, List.append_nil]
  exact bAnd (b := 7) h
theorem spec_pack_move {o t s p : Nat} (ho : o ≤ 64) (hs : s ≤ 1) (hp : p ≤ 7) (hp2 : s = 1 → 2 ≤ p) (h : Q (.int ((mv o t s p : Nat) : Int)) σ) : callW P (k + 1) 3 [.int (o : Int), .int (t : Int), .int (s : Int), .int (p : Int)] Q σ := by
  refine callW_go rfl rfl ?_
  simp only [B_pack_move, We1, We2, We3, Wt4, Ws1, Ws9, Ws10, Wss1, Wss2, varW, icmp, cmpW, retOf, List.getElem?_cons_zero, List.getElem?_cons_succ, List.set_cons_zero, List.set_cons_succ, List.map_cons, List.map_nil, List.replicate_succ, List.replicate_zero, List.nil_append, List.cons_append]
  have e : decide ((s : Int) = 1) = decide (s = 1) := deq (b := 1)
  rw [e]
  have tail : ∀ fl : Nat, fl ≤ 5 → (if s = 1 then p - 2 else 0) = fl → binW .LShift (.int (o : Int)) (.int 6) (fun b σ2 => binW .BitOr (.int (t : Int)) b (fun a σ1 => binW .LShift (.int (fl : Int)) (.int 12) (fun b σ2 => binW .BitOr a b (fun a σ1 => binW .LShift (.int (s : Int)) (.int 14) (fun b σ2 => binW .BitOr a b (fun v σ1 => Q v σ1) σ2) σ1) σ2) σ1) σ2) σ := by
    intro fl hfl e
    refine bShl (n := 6) (by (clear e hfl hp hs; omega)) (by (clear e hfl ho hp hs; omega)) ?_
    refine bOr ?_
    refine bShl (n := 12) (by (clear e ho hp hs; omega)) (by (clear e hfl ho hp hs; omega)) ?_
    refine bOr ?_
    refine bShl (n := 14) (by (clear e hfl ho hp; omega)) (by (clear e hfl ho hp hs; omega)) ?_
    refine bOr ?_
    unfold mv at h
    rw [e] at h
    exact h
  by_cases hs1 : s = 1
  · simp only [hs1, decide_true]
    subst hs1
    refine bSub (b := 2) (hp2 rfl) ?_
    exact tail (p - 2) (by (clear ho; omega)) (by simp)
  · simp only [hs1, decide_false]
    exact tail 0 (by omega) (by simp [hs1])

variable {f r g : Nat} {dbl : Bool}
theorem spec_push_step {side : Nat} (G : GeoAt σ g f r dbl) (h : Q (.int (stp f side)) σ) : callW P (k + 1) 8 [.ref g, .int (side : Int)] Q σ := by
  obtain ⟨d, fs, rm, fm, h1, h2, h3, h4, h5, h6, h7, h8, h9, h10, h11⟩ := G
  refine callW_go rfl rfl ?_
  simp only [B_push_step, We1, We2, We4, We11, Wt4, Ws9, Ws10, Wss1, Wss2, varW, icmp, cmpW, unaW, retOf, List.getElem?_cons_zero, List.getElem?_cons_succ, List.map_cons, List.map_nil, List.replicate_zero, List.append_nil]
  have e : decide ((side : Int) = 0) = decide (side = 0) := deq (b := 0)
  rw [e]
  unfold stp at h
  by_cases hs : side = 0
  · simp only [hs, decide_true, if_true] at h ⊢
    exact attrGo h1 h2 h3 h
  · simp only [hs, decide_false, if_false] at h ⊢
    exact attrGo h1 h2 h3 h
theorem range_get {n i : Nat} {F : Nat → Nat} (h : i < n) : ((List.range n).map F)[i]? = some (F i) := by simp [h]
theorem spec_start_mask {side : Nat} (hb : (f, r, dbl) ∈ bds) (G : GeoAt σ g f r dbl) (h : Q (.int ((startM f r side : Nat) : Int)) σ) : callW P (k + 1) 9 [.ref g, .int (side : Int)] Q σ := by
  obtain ⟨d, fs, rm, fm, h1, h2, h3, h4, h5, h6, h7, h8, h9, h10, h11⟩ := G
  obtain ⟨n1, n2, n3, n4, n5⟩ := bd_num hb
  refine callW_go rfl rfl ?_
  simp only [B_start_mask, We1, We2, We3, We11, We12, Wt4, Ws9, Ws10, Wss1, Wss2, varW, icmp, cmpW, retOf, List.getElem?_cons_zero, List.getElem?_cons_succ, List.map_cons, List.map_nil, List.replicate_zero, List.append_nil]
  have e : decide ((side : Int) = 0) = decide (side = 0) := deq (b := 0)
  rw [e]
  unfold startM at h
  by_cases hs : side = 0
  · simp only [hs, decide_true, if_true] at h ⊢
    exact attrGo h1 h2 h8 (subI (k := 1) h10 (range_get (by (clear hs n1 n4 n5; omega))) (by omega) h)
  · simp only [hs, decide_false, if_false] at h ⊢
    exact attrGo h1 h2 h8 (attrGo h1 h2 h4 (bSub (b := 2) (by (clear n1 n4 n5; omega)) (subI h10 (range_get (by (clear n1 n4 n5; omega))) (by (clear n3 n5; omega)) h)))
theorem spec_last_mask {side : Nat} (hb : (f, r, dbl) ∈ bds) (G : GeoAt σ g f r dbl) (h : Q (.int ((lastM f r side : Nat) : Int)) σ) : callW P (k + 1) 10 [.ref g, .int (side : Int)] Q σ := by
  obtain ⟨d, fs, rm, fm, h1, h2, h3, h4, h5, h6, h7, h8, h9, h10, h11⟩ := G
  obtain ⟨n1, n2, n3, n4, n5⟩ := bd_num hb
  refine callW_go rfl rfl ?_
  simp only [B_last_mask, We1, We2, We3, We11, We12, Wt4, Ws9, Ws10, Wss1, Wss2, varW, icmp, cmpW, retOf, List.getElem?_cons_zero, List.getElem?_cons_succ, List.map_cons, List.map_nil, List.replicate_zero, List.append_nil]
  have e : decide ((side : Int) = 0) = decide (side = 0) := deq (b := 0)
  rw [e]
  unfold lastM at h
  by_cases hs : side = 0
  · simp only [hs, decide_true, if_true] at h ⊢
    exact attrGo h1 h2 h8 (attrGo h1 h2 h4 (bSub (b := 1) (by (clear hs n1 n4 n5; omega)) (subI h10 (range_get (by (clear hs n1 n4 n5; omega))) (by (clear hs n3 n5; omega)) h)))
  · simp only [hs, decide_false, if_false] at h ⊢
    exact attrGo h1 h2 h8 (subI (k := 0) h10 (range_get (by (clear n1 n4 n5; omega))) (by omega) h)
theorem spec_shift_push {side b : Nat} (hb : (f, r, dbl) ∈ bds) (G : GeoAt σ g f r dbl) (hn : b ≤ 1152921504606846976) (h : Q (.int ((shp f r b side : Nat) : Int)) σ) : callW P (k + 1) 11 [.ref g, .int (b : Int), .int (side : Int)] Q σ := by
  obtain ⟨d, fs, rm, fm, h1, h2, h3, h4, h5, h6, h7, h8, h9, h10, h11⟩ := G
  obtain ⟨n1, n2, n3, n4, n5⟩ := bd_num hb
  refine callW_go rfl rfl ?_
  simp only [B_shift_push, We1, We2, We3, We11, Wt4, Ws9, Ws10, Wss1, Wss2, varW, icmp, cmpW, retOf, List.getElem?_cons_zero, List.getElem?_cons_succ, List.map_cons, List.map_nil, List.replicate_zero, List.append_nil]
  have e : decide ((side : Int) = 0) = decide (side = 0) := deq (b := 0)
  rw [e]
  unfold shp at h
  by_cases hs : side = 0
  · simp only [hs, decide_true, if_true] at h ⊢
    exact attrGo h1 h2 h3 (bShl hn (by (clear hn hs n1 n5; omega)) (attrGo h1 h2 h6 (bAnd h)))
  · simp only [hs, decide_false, if_false] at h ⊢
    exact attrGo h1 h2 h3 (bShr h)
theorem le60 {b N : Nat} (h : b < 2 ^ N) (hN : N ≤ 60) : b ≤ 1152921504606846976 :=
  Nat.le_of_lt (Nat.lt_of_lt_of_le h (show 2 ^ N ≤ 2 ^ 60 from Nat.pow_le_pow_right (by decide) hN))
theorem andn_le (a b : Nat) : andn a b ≤ a := Nat.sub_le _ _
theorem shp_lt {b side : Nat} (h : b < 2 ^ (f * r)) : shp f r b side < 2 ^ (f * r) := by
  unfold shp full
  split
  · have : (b <<< f) &&& (2 ^ (f * r) - 1) ≤ 2 ^ (f * r) - 1 := Nat.and_le_right
    have := Nat.two_pow_pos (f * r)
    omega
  · exact Nat.lt_of_le_of_lt (Nat.shiftRight_le _ _) h
theorem spec_shift_capture {side wing b : Nat} (hb : (f, r, dbl) ∈ bds) (G : GeoAt σ g f r dbl) (hn : b < 2 ^ (f * r)) (h : Q (.int ((shc f r b side wing : Nat) : Int)) σ) : callW P (k + 2) 12 [.ref g, .int (b : Int), .int (side : Int), .int (wing : Int)] Q σ := by
  have G0 := G
  obtain ⟨d, fs, rm, fm, h1, h2, h3, h4, h5, h6, h7, h8, h9, h10, h11⟩ := G
  obtain ⟨n1, n2, n3, n4, n5⟩ := bd_num hb
  refine callW_go rfl rfl ?_
  simp only [B_shift_capture, We1, We2, We3, We4, We11, We12, We14, Wt4, Wes1, Wes2, Ws9, Ws10, Wss1, Wss2, varW, icmp, cmpW, unaW, retOf, List.getElem?_cons_zero, List.getElem?_cons_succ, List.map_cons, List.map_nil, List.replicate_zero, List.append_nil]
  have e : decide ((wing : Int) = 0) = decide (wing = 0) := deq (b := 0)
  rw [e]
  unfold shc at h
  by_cases hs : wing = 0
  · simp only [hs, decide_true, if_true] at h ⊢
    refine attrGo h1 h2 h9 (attrGo h1 h2 h3 (bSub (b := 1) (by (clear hn hs n2 n5; omega)) (subI h11 (range_get (by (clear hn hs n2 n5; omega))) (by (clear hn hs n1 n5; omega)) ?_)))
    refine bAndN ?_
    have lt : andn b (fileM f r (f - 1)) < 2 ^ (f * r) := Nat.lt_of_le_of_lt (andn_le _ _) hn
    refine spec_shift_push hb G0 (le60 lt (by (clear hn hs lt; omega))) ?_
    exact bShl (n := 1) (le60 (shp_lt lt) (by omega)) (by (clear hn hs lt n5; omega)) h
  · simp only [hs, decide_false, if_false] at h ⊢
    refine attrGo h1 h2 h9 (subI (k := 0) h11 (range_get (by (clear hn n2 n5; omega))) (by omega) ?_)
    refine bAndN ?_
    have lt : andn b (fileM f r 0) < 2 ^ (f * r) := Nat.lt_of_le_of_lt (andn_le _ _) hn
    refine spec_shift_push hb G0 (le60 lt (by (clear hn lt; omega))) ?_
    exact bShr (n := 1) h
end
end Pf
end

section
set_option autoImplicit false
set_option maxRecDepth 100000
set_option linter.unusedSimpArgs false
namespace Pf
open PySem (Operator CmpOp UnaryOp)

theorem compN_ints {T : Loc → (Bool → AHeap → Prop) → AHeap → Prop} {B : Loc → (AVal → AHeap → Prop) → AHeap → Prop} {x : Nat} {m : Loc} {a : Nat} {o : AObj} {c : Nat} {Q : AVal → AHeap → Prop} (tst : Int → Bool) (g : Int → Int) {σ0 : AHeap} (hc0 : σ0 c = none) (ha : σ0 a = some o)
    {ns : List Int} (hT : ∀ n ∈ ns, ∀ σ' K, Ext σ0 σ' → K (tst n) σ' → T (m.set x (some (.int n))) K σ')
    (hB : ∀ n ∈ ns, tst n = true → ∀ σ' K, Ext σ0 σ' → (∀ σ'', Ext σ' σ'' → K (.int (g n)) σ'') → B (m.set x (some (.int n))) K σ')
    (len : ns.length ≤ 100000) (fin : ∀ σ', Ext σ0 σ' → σ' c = some (.list (zs ((ns.filter tst).map g))) → Q (.ref c) σ') :
    compN T B x m a o c Q (zs ns) [] (put σ0 c (.list [])) := by
  have go : ∀ (l : List Int) (acc : List Int) (σ : AHeap), (∀ n ∈ l, n ∈ ns) → acc.length + l.length ≤ 100000 → Ext σ0 σ → σ c = some (.list (zs acc)) →
      (∀ σ', Ext σ0 σ' → σ' c = some (.list (zs (acc ++ (l.filter tst).map g))) → Q (.ref c) σ') → compN T B x m a o c Q (zs l) (zs acc) σ := by
    intro l
    induction l with
    | nil =>
      intro acc σ _ _ hE hc h
      show compN T B x m a o c Q [] (zs acc) σ
      rw [compN]
      exact ⟨h σ hE (by simpa using hc), hc⟩
    | cons n r ih =>
      intro acc σ hm hl hE hc h
      show compN T B x m a o c Q (.int n :: zs r) (zs acc) σ
      rw [compN]
      have hn := hm n (by simp)
      refine hT n hn σ _ hE ?_
      cases ht : tst n with
      | true =>
        dsimp only
        refine hB n hn ht σ _ hE fun σ2 hE2 => ?_
        have hc2 := hE2 _ _ hc
        refine ⟨hc2, by simp [zs]; simp at hl; (clear len; omega), (hE.trans hE2) _ _ ha, ?_⟩
        have e : zs acc ++ [AVal.int (g n)] = zs (acc ++ [g n]) := by simp [zs]
        rw [e]
        refine ih (acc ++ [g n]) _ (fun y hy => hm y (by simp [hy])) (by simp at hl ⊢; (clear len; omega)) ((hE.trans hE2).put hc0) putS fun σ' hE' hc' => h σ' hE' ?_
        rw [hc', List.filter_cons_of_pos ht]; simp
      | false =>
        dsimp only
        refine ⟨hc, hE _ _ ha, ih acc σ (fun y hy => hm y (by simp [hy])) (by simp at hl ⊢; (clear len; omega)) hE hc fun σ' hE' hc' => h σ' hE' ?_⟩
        rw [hc', List.filter_cons_of_neg (by simp [ht])]
  exact go ns [] _ (fun _ h => h) (by simpa using len) (Ext.refl.put hc0) putS fun σ' hE hc => fin σ' hE (by simpa using hc)

/-- what the walk of a range hands out -/
theorem rangeL_nat (n : Nat) : rangeL 0 (n : Int) 1 = natI (List.range n) := by
  unfold rangeL rangeN natI
  simp

noncomputable def told (ns : List Int) (p : Nat) : Int := match ns[p]? with
  | some n => n
  | none => 9 * (p : Int) + 4
noncomputable def bes (f r : Nat) (sq dx dy : Int) : Int := if (0 ≤ sq % f + dx ∧ sq % f + dx < f) ∧ (0 ≤ sq / f + dy ∧ sq / f + dy < r) then (sq / f + dy) * f + (sq % f + dx) else -1
noncomputable def setS (L : List Int) : Int := ((L.filter (fun x => decide (0 ≤ x))).map (fun x => 2 ^ x.toNat)).sum

section
variable {k : Nat} {Q : AVal → AHeap → Prop} {σ : AHeap}
theorem spec_told {l p : Nat} {ns : List Int} (hl : ns.length ≤ 1000) (hp : p ≤ 1000) (h : Q (.int (told ns p)) σ) : callW P (k + 1) 30 [.cst false l ns, .int (p : Int)] Q σ := by
  refine callW_go rfl rfl ?_
  simp only [B_law_told, lenW, We1, We2, We3, We12, We16, Wt4, Ws9, Ws10, Wss1, Wss2, varW, icmp, cmpW, retOf, List.getElem?_cons_zero, List.getElem?_cons_succ, List.map_cons, List.map_nil, List.replicate_zero, List.append_nil]
  refine ⟨by omega, ?_⟩
  rw [show decide ((p : Int) < (ns.length : Int)) = decide (p < ns.length) by simp]
  unfold told at h
  by_cases q : p < ns.length
  · simp only [q, decide_true, subW, seqAt, Int.toNat_natCast]
    rw [List.getElem?_eq_getElem q] at h
    have : (zs ns)[p]? = some (.int ns[p]) := by simp [zs, q]
    rw [this]
    exact ⟨by (clear hp; omega), by (clear hl; omega), h⟩
  · simp only [q, decide_false]
    rw [List.getElem?_eq_none (by omega)] at h
    simp only [Bi1, Bi3]
    exact ⟨⟨by decide, by decide⟩, h⟩

theorem spec_beside {f r : Nat} {sq dx dy : Int} (hf : 0 < f) (hf' : f ≤ 1000) (hr : r ≤ 1000) (h : Q (.int (bes f r sq dx dy)) σ) : callW P (k + 1) 31 [.int (f : Int), .int (r : Int), .int sq, .int dx, .int dy] Q σ := by
  refine callW_go rfl rfl ?_
  refine K1 ?_
  simp only [Bi1, Bi5, We2, We3, varW, retOf, List.getElem?_cons_zero, List.getElem?_cons_succ, List.set_cons_zero, List.set_cons_succ, List.map_cons, List.map_nil, List.replicate_succ, List.replicate_zero, List.nil_append, List.cons_append]
  refine ⟨by (clear hf' hr; omega), K1 ?_⟩
  simp only [Bi1, Bi4, We2, We3, varW, List.getElem?_cons_zero, List.getElem?_cons_succ, List.set_cons_zero, List.set_cons_succ]
  refine ⟨⟨by (clear hf'; omega), by (clear h hf hr; omega)⟩, K10 ?_⟩
  unfold bes at h
  by_cases h1 : 0 ≤ sq % f + dx
  · by_cases h2 : sq % f + dx < f
    · by_cases h3 : 0 ≤ sq / f + dy
      · by_cases h4 : sq / f + dy < r
        · simp only [Bi1, Bi3, We1, We2, We3, We4, Wt2, Wt5, Wts1, Wts2, Ws9, Wss1, Wss2, varW, icmp, cmpW, unaW, List.getElem?_cons_zero, List.getElem?_cons_succ, h1, h2, h3, h4, decide_true, if_true, and_self] at h ⊢
          exact ⟨⟨by (clear hr; omega), by omega⟩, h⟩
        · simp only [Bi1, Bi3, We1, We2, We3, We4, Wt2, Wt5, Wts1, Wts2, Ws9, Wss1, Wss2, varW, icmp, cmpW, unaW, List.getElem?_cons_zero, List.getElem?_cons_succ, h1, h2, h3, h4, decide_true, decide_false, if_true, and_self, and_false, if_false, Bool.false_eq_true] at h ⊢
          exact h
      · simp only [Bi1, Bi3, We1, We2, We3, We4, Wt2, Wt5, Wts1, Wts2, Ws9, Wss1, Wss2, varW, icmp, cmpW, unaW, List.getElem?_cons_zero, List.getElem?_cons_succ, h1, h2, h3, decide_true, decide_false, if_true, and_self, and_false, false_and, if_false, Bool.false_eq_true] at h ⊢
        exact h
    · simp only [Bi1, Bi3, We1, We2, We3, We4, Wt2, Wt5, Wts1, Wts2, Ws9, Wss1, Wss2, varW, icmp, cmpW, unaW, List.getElem?_cons_zero, List.getElem?_cons_succ, h1, h2, decide_true, decide_false, and_false, false_and, if_false, Bool.false_eq_true, Bool.not_true] at h ⊢
      exact h
  · simp only [Bi1, Bi3, We1, We2, We3, We4, Wt2, Wt5, Wts1, Wts2, Ws9, Wss1, Wss2, varW, icmp, cmpW, unaW, List.getElem?_cons_zero, List.getElem?_cons_succ, h1, decide_false, false_and, if_false, Bool.false_eq_true, Bool.not_true] at h ⊢
    exact h

theorem tbit_div (b i : Nat) : (b / 2 ^ i % 2 = 1) ↔ b.testBit i = true := by
  rw [Nat.testBit_eq_decide_div_mod_eq]; simp

theorem spec_in_set {f r b : Nat} (hN : f * r ≤ 29 + 1) (hf : f ≤ 1000) (h : ∀ c σ', σ c = none → Ext σ σ' → σ' c = some (.list (zs (natI (setN (f * r) b)))) → Q (.ref c) σ') :
    callW P (k + 1) 32 [.int (b : Int), .int (f : Int), .int (r : Int)] Q σ := by
  refine callW_go rfl rfl ?_
  simp only [B_law_in_set, We1, We2, We3, We19, We24, Wt4, Wes1, Wes2, Wts1, Wts2, Ws9, Wss1, Wss2, varW, icmp, cmpW, retOf, List.getElem?_cons_zero, List.getElem?_cons_succ, List.map_cons, List.map_nil, List.replicate_succ, List.replicate_zero, List.nil_append, List.cons_append]
  refine bMul (by (clear hN; omega)) ?_
  first | refine Rg1 ?_ | refine Rg3 ?_
  refine ⟨⟨by (clear h hN; omega), by omega⟩, fun a ha => ?_⟩
  refine ⟨a, _, _, rfl, putS, rfl, ?_, fun c hc => ?_⟩
  · rw [rangeL_nat]; simp [zs, natI]; omega
  · rw [rangeL_nat]
    have hca : σ c = none := by
      by_cases z : c = a
      · rw [z]; exact ha
      · rw [putN z] at hc; exact hc
    refine compN_ints (tst := fun n => decide (((b : Int) / 2 ^ n.toNat) % 2 = 1)) (g := id) hc putS ?_ ?_ (by simp [natI]; omega) fun σ' hE hc' => ?_
    · intro n hn σ' K hE hK
      obtain ⟨i, hi, rfl⟩ := List.mem_map.mp hn
      have hi' := List.mem_range.mp hi
      simp only [List.getElem?_cons_zero, List.getElem?_cons_succ, List.set_cons_zero, List.set_cons_succ]
      refine bPow (by (clear hK hf; omega)) ?_
      simp only [Bi4, Bi5]
      have e : ((2 ^ i : Nat) : Int) = 2 ^ ((i : Int)).toNat := by simp
      refine ⟨⟨by have := Nat.two_pow_pos i; (clear e hN hf hi'; omega), ?_⟩, by decide, ?_⟩
      · have : 2 ^ i ≤ 2 ^ 29 := Nat.pow_le_pow_right (by decide) (by (clear e hf; omega))
        (clear e hN hf hi'; omega)
      · rw [e]
        cases hq : decide (((b : Int) / 2 ^ ((i : Int)).toNat) % 2 = 1) <;> simp_all
    · intro n hn _ σ' K hE hK
      simp only [List.getElem?_cons_zero, List.getElem?_cons_succ, List.set_cons_zero, List.set_cons_succ]
      exact hK σ' Ext.refl
    · refine h c σ' hca (fun b' o' e => hE b' o' (put_get e ha)) ?_
      rw [hc']
      congr 3
      unfold setN natI
      rw [List.map_id, List.filter_map]
      congr 1
      apply List.filter_congr
      intro i hi
      rw [Bool.eq_iff_iff]
      simp only [Function.comp, decide_eq_true_eq, Int.toNat_natCast]
      rw [← tbit_div, show (2 : Int) ^ i = ((2 ^ i : Nat) : Int) by simp, ← Int.natCast_ediv]
      (clear hN hf; omega)

theorem spec_set {a : Nat} {L : List Int} (ha : σ a = some (.list (zs L))) (hl : L.length ≤ 64) (hL : ∀ x ∈ L, x < 40) (h : ∀ σ', Ext σ σ' → Q (.int (setS L)) σ') : callW P (k + 1) 33 [.ref a] Q σ := by
  refine callW_go rfl rfl ?_
  simp only [B_law_set, We1, We2, We3, We17, We24, Wt4, Wts1, Wts2, Ws9, Wss1, Wss2, varW, icmp, cmpW, retOf, List.getElem?_cons_zero, List.map_cons, List.map_nil, List.replicate_succ, List.replicate_zero, List.nil_append, List.cons_append]
  refine ⟨a, _, _, rfl, ha, rfl, by simp [zs]; omega, fun c hc => ?_⟩
  refine compN_ints (tst := fun n => decide (0 ≤ n)) (g := fun n => 2 ^ n.toNat) hc ha ?_ ?_ (by omega) fun σ' hE hc' => ?_
  · intro n hn σ' K hE hK
    simp only [List.getElem?_cons_zero, List.getElem?_cons_succ, List.set_cons_zero, List.set_cons_succ]
    cases hq : decide (0 ≤ n) <;> simp_all
  · intro n hn ht σ' K hE hK
    simp only [List.getElem?_cons_zero, List.getElem?_cons_succ, List.set_cons_zero, List.set_cons_succ, Bi6]
    have := hL n hn
    have : 0 ≤ n := by simpa using ht
    exact ⟨⟨trivial, by omega, by (clear hl this; omega)⟩, hK σ' Ext.refl⟩
  · simp only [sumW]
    refine ⟨_, hc', ?_, ?_, ?_, h σ' hE⟩
    · intro n hn
      obtain ⟨y, _, rfl⟩ := List.mem_map.mp hn
      exact Int.le_of_lt (by
        have : (2 : Int) ^ y.toNat = ((2 ^ y.toNat : Nat) : Int) := by simp
        rw [this]
        have := Nat.two_pow_pos y.toNat
        omega)
    · have bound : ∀ (l : List Int), (∀ x ∈ l, x < 40) → (l.map (fun x => (2 : Int) ^ x.toNat)).sum ≤ (l.length : Int) * 1099511627776 := by
        intro l
        induction l with
        | nil => intro _; simp
        | cons y r ih =>
          intro hy
          have h1 := ih fun x hx => hy x (by simp [hx])
          have h2 := hy y (by simp)
          have h3 : (2 : Int) ^ y.toNat ≤ 1099511627776 := by
            have : (2 : Int) ^ y.toNat = ((2 ^ y.toNat : Nat) : Int) := by simp
            rw [this]
            have : 2 ^ y.toNat ≤ 2 ^ 40 := Nat.pow_le_pow_right (by decide) (by (clear h1 hl hy this; omega))
            omega
          rw [List.map_cons, List.sum_cons, List.length_cons]
          (clear h2 hl; omega)
      have := bound (L.filter fun n => decide (0 ≤ n)) fun x hx => hL x (List.mem_filter.mp hx).1
      have l2 := List.length_filter_le (fun n => decide (0 ≤ n)) L
      omega
    · have l2 := List.length_filter_le (fun n => decide (0 ≤ n)) L
      rw [List.length_map]
      omega
end
end Pf
end

section
set_option autoImplicit false
set_option maxRecDepth 100000
namespace Pf

/-! sums of powers -/
noncomputable def sumN (l : List Nat) : Nat := (l.map fun x => 2 ^ x).sum
theorem add_pow_bit {s x : Nat} (h : s.testBit x = false) : s + 2 ^ x = s ||| 2 ^ x := by
  have e := PyProof.Rows.nat_or_add_and s (2 ^ x)
  have z : s &&& 2 ^ x = 0 := by
    apply Nat.eq_of_testBit_eq
    intro i
    rw [Nat.testBit_and, Nat.testBit_two_pow, Nat.zero_testBit]
    by_cases q : x = i
    · subst q; simp [h]
    · simp [q]
  omega
theorem sumN_bit : ∀ {l : List Nat}, l.Pairwise (· ≠ ·) → ∀ j, (sumN l).testBit j = decide (j ∈ l)
  | [], _, j => by simp [sumN]
  | x :: r, h, j => by
    obtain ⟨h1, h2⟩ := List.pairwise_cons.mp h
    have ih := sumN_bit h2
    have e : sumN (x :: r) = sumN r + 2 ^ x := by unfold sumN; rw [List.map_cons, List.sum_cons]; omega
    have hx : (sumN r).testBit x = false := by
      rw [ih x, decide_eq_false_iff_not]
      exact fun q => h1 x q rfl
    rw [e, add_pow_bit hx, Nat.testBit_or, ih j, Nat.testBit_two_pow]
    by_cases q : x = j
    · subst q; simp
    · by_cases q2 : j ∈ r
      · simp [q2]
      · simp [q, q2, Ne.symm q]

noncomputable def NdP (L : List Int) : Prop := L.Pairwise fun x y => 0 ≤ x → x ≠ y
theorem setS_eq {L : List Int} {X : Nat} (hn : NdP L) (hX : ∀ j : Nat, X.testBit j = true ↔ (j : Int) ∈ L) : setS L = (X : Int) := by
  have e : setS L = ((sumN ((L.filter fun x => decide (0 ≤ x)).map Int.toNat) : Nat) : Int) := by
    unfold setS sumN
    generalize L.filter (fun x => decide (0 ≤ x)) = l
    induction l with
    | nil => rfl
    | cons y r ih =>
      simp only [List.map_cons, List.sum_cons]
      rw [ih, Int.natCast_add]
      simp
  rw [e]
  congr 1
  apply Nat.eq_of_testBit_eq
  intro j
  have nd : ((L.filter fun x => decide (0 ≤ x)).map Int.toNat).Pairwise (· ≠ ·) := by
    rw [List.pairwise_map, List.pairwise_filter]
    refine List.Pairwise.imp ?_ hn
    intro a b h ha hb z
    have ha' : 0 ≤ a := by simpa using ha
    have hb' : 0 ≤ b := by simpa using hb
    exact h ha' (by (clear e; omega))
  rw [sumN_bit nd, Bool.eq_iff_iff, decide_eq_true_iff, hX]
  constructor
  · intro h
    obtain ⟨y, hy, hj⟩ := List.mem_map.mp h
    obtain ⟨h1, h2⟩ := List.mem_filter.mp hy
    have h2' : 0 ≤ y := by simpa using h2
    have : (j : Int) = y := by (clear e; omega)
    rw [this]; exact h1
  · intro h
    exact List.mem_map.mpr ⟨(j : Int), List.mem_filter.mpr ⟨h, by simp⟩, by simp⟩

theorem mem_setN {N b i : Nat} : i ∈ setN N b ↔ i < N ∧ b.testBit i = true := by
  unfold setN
  rw [List.mem_filter, List.mem_range]
theorem setN_lt (N b : Nat) : (setN N b).Pairwise (· < ·) := List.Pairwise.filter _ List.pairwise_lt_range
theorem full_bit (N j : Nat) : (2 ^ N - 1).testBit j = decide (j < N) := Nat.testBit_two_pow_sub_one ..
theorem bit_lt {b N j : Nat} (hb : b < 2 ^ N) (h : b.testBit j = true) : j < N := by
  rcases Nat.lt_or_ge j N with q | q
  · exact q
  · rw [Nat.testBit_lt_two_pow (Nat.lt_of_lt_of_le hb (Nat.pow_le_pow_right (by decide) q))] at h; cases h
theorem lt_of_bits {b N : Nat} (h : ∀ j, b.testBit j = true → j < N) : b < 2 ^ N := by
  apply Nat.lt_pow_two_of_testBit
  intro i hi
  cases q : b.testBit i with
  | false => rfl
  | true => have := h i q; omega

/-! the boards, checked one by one -/
noncomputable def up (side : Nat) : Int := 1 - 2 * (side : Int)
noncomputable def dlt (f side : Nat) : Int := up side * (f : Int)
noncomputable def okP (f r sq side : Nat) : Bool := if side = 0 then decide (sq + f < f * r) else decide (f ≤ sq)
noncomputable def okW (f sq wing : Nat) : Bool := if wing = 0 then sq % f != f - 1 else sq % f != 0
noncomputable def wx (wing : Nat) : Int := 1 - 2 * (wing : Int)
noncomputable def chkP (f r sq side : Nat) : Bool := if okP f r sq side then bes f r sq 0 (up side) == (sq : Int) + dlt f side && decide (0 ≤ (sq : Int) + dlt f side) && decide ((sq : Int) + dlt f side < ((f * r : Nat) : Int)) else bes f r sq 0 (up side) == -1
noncomputable def chkC (f r sq side wing : Nat) : Bool := if okP f r sq side && okW f sq wing then bes f r sq (wx wing) (up side) == (sq : Int) + dlt f side + wx wing && decide (0 ≤ (sq : Int) + dlt f side + wx wing) && decide ((sq : Int) + dlt f side + wx wing < ((f * r : Nat) : Int)) else bes f r sq (wx wing) (up side) == -1
noncomputable def chkF (f r sq : Nat) : Bool := (List.range f).all fun c => (fileM f r c).testBit sq == decide (sq % f = c)
noncomputable def chkR (f r sq : Nat) : Bool := (List.range r).all fun c => (rankM f c).testBit sq == decide (sq / f = c)
noncomputable def chkB (p : Nat × Nat × Bool) : Bool := (List.range (p.1 * p.2.1)).all fun sq => chkP p.1 p.2.1 sq 0 && chkP p.1 p.2.1 sq 1 && chkC p.1 p.2.1 sq 0 0 && chkC p.1 p.2.1 sq 0 1 && chkC p.1 p.2.1 sq 1 0 && chkC p.1 p.2.1 sq 1 1 && chkF p.1 p.2.1 sq && chkR p.1 p.2.1 sq
theorem chkAll : bds.all chkB = true := by decide +kernel
noncomputable def chkM (p : Nat × Nat × Bool) : Bool := ((List.range p.1).all fun c => decide (fileM p.1 p.2.1 c < 2 ^ (p.1 * p.2.1))) && ((List.range p.2.1).all fun c => decide (rankM p.1 c < 2 ^ (p.1 * p.2.1)))
theorem chkMAll : bds.all chkM = true := by decide +kernel

section
variable {f r : Nat} {dbl : Bool}
theorem side2 {s : Nat} (h : s ≤ 1) : s = 0 ∨ s = 1 := by omega
theorem bdP (hb : (f, r, dbl) ∈ bds) {sq side : Nat} (hs : side ≤ 1) (hq : sq < f * r) : chkP f r sq side = true := by
  have h1 := List.all_eq_true.mp chkAll _ hb
  have h2 := List.all_eq_true.mp h1 sq (List.mem_range.mpr hq)
  simp only [Bool.and_eq_true] at h2
  rcases side2 hs with rfl | rfl
  · exact h2.1.1.1.1.1.1.1
  · exact h2.1.1.1.1.1.1.2
theorem bdC (hb : (f, r, dbl) ∈ bds) {sq side wing : Nat} (hs : side ≤ 1) (hw : wing ≤ 1) (hq : sq < f * r) : chkC f r sq side wing = true := by
  have h1 := List.all_eq_true.mp chkAll _ hb
  have h2 := List.all_eq_true.mp h1 sq (List.mem_range.mpr hq)
  simp only [Bool.and_eq_true] at h2
  rcases side2 hs with rfl | rfl <;> rcases side2 hw with rfl | rfl
  · exact h2.1.1.1.1.1.2
  · exact h2.1.1.1.1.2
  · exact h2.1.1.1.2
  · exact h2.1.1.2
theorem bdF (hb : (f, r, dbl) ∈ bds) {sq c : Nat} (hc : c < f) (hq : sq < f * r) : (fileM f r c).testBit sq = decide (sq % f = c) := by
  have h1 := List.all_eq_true.mp chkAll _ hb
  have h2 := List.all_eq_true.mp h1 sq (List.mem_range.mpr hq)
  simp only [Bool.and_eq_true] at h2
  exact beq_iff_eq.mp (List.all_eq_true.mp h2.1.2 c (List.mem_range.mpr hc))
theorem bdR (hb : (f, r, dbl) ∈ bds) {sq c : Nat} (hc : c < r) (hq : sq < f * r) : (rankM f c).testBit sq = decide (sq / f = c) := by
  have h1 := List.all_eq_true.mp chkAll _ hb
  have h2 := List.all_eq_true.mp h1 sq (List.mem_range.mpr hq)
  simp only [Bool.and_eq_true] at h2
  exact beq_iff_eq.mp (List.all_eq_true.mp h2.2 c (List.mem_range.mpr hc))
theorem bdRlt (hb : (f, r, dbl) ∈ bds) {c : Nat} (hc : c < r) : rankM f c < 2 ^ (f * r) := by
  have h1 := List.all_eq_true.mp chkMAll _ hb
  simp only [chkM, Bool.and_eq_true] at h1
  have := List.all_eq_true.mp h1.2 c (List.mem_range.mpr hc)
  simpa using this

/-- a step straight on -/
theorem besP (hb : (f, r, dbl) ∈ bds) {sq side : Nat} (hs : side ≤ 1) (hq : sq < f * r) :
    (okP f r sq side = true ∧ bes f r sq 0 (up side) = (sq : Int) + dlt f side ∧ 0 ≤ (sq : Int) + dlt f side ∧ (sq : Int) + dlt f side < ((f * r : Nat) : Int)) ∨ (okP f r sq side = false ∧ bes f r sq 0 (up side) = -1) := by
  have h := bdP hb hs hq
  unfold chkP at h
  split at h
  · rename_i q
    simp only [Bool.and_eq_true, beq_iff_eq, decide_eq_true_eq] at h
    exact .inl ⟨q, h.1.1, h.1.2, h.2⟩
  · rename_i q
    exact .inr ⟨by simpa using q, by simpa using h⟩
theorem besC (hb : (f, r, dbl) ∈ bds) {sq side wing : Nat} (hs : side ≤ 1) (hw : wing ≤ 1) (hq : sq < f * r) :
    ((okP f r sq side = true ∧ okW f sq wing = true) ∧ bes f r sq (wx wing) (up side) = (sq : Int) + dlt f side + wx wing ∧ 0 ≤ (sq : Int) + dlt f side + wx wing ∧ (sq : Int) + dlt f side + wx wing < ((f * r : Nat) : Int)) ∨
      (¬ (okP f r sq side = true ∧ okW f sq wing = true) ∧ bes f r sq (wx wing) (up side) = -1) := by
  have h := bdC hb hs hw hq
  unfold chkC at h
  split at h
  · rename_i q
    simp only [Bool.and_eq_true, beq_iff_eq, decide_eq_true_eq] at h q
    exact .inl ⟨q, h.1.1, h.1.2, h.2⟩
  · rename_i q
    simp only [Bool.and_eq_true] at q
    exact .inr ⟨q, by simpa using h⟩

theorem shp_bit (hb : (f, r, dbl) ∈ bds) {b side : Nat} (hs : side ≤ 1) (hn : b < 2 ^ (f * r)) (j : Nat) :
    (shp f r b side).testBit j = true ↔ ∃ sq, sq < f * r ∧ b.testBit sq = true ∧ okP f r sq side = true ∧ (j : Int) = (sq : Int) + dlt f side := by
  rcases side2 hs with rfl | rfl
  · unfold shp full
    rw [if_pos rfl, Nat.testBit_and, Nat.testBit_shiftLeft, full_bit]
    simp only [Bool.and_eq_true, decide_eq_true_eq]
    constructor
    · rintro ⟨⟨h1, h2⟩, h3⟩
      refine ⟨j - f, bit_lt hn h2, h2, ?_, ?_⟩
      · simp [okP]; (clear hn; omega)
      · simp [dlt, up]; (clear h3 hn hs; omega)
    · rintro ⟨sq, h1, h2, h3, h4⟩
      simp only [okP, if_true, decide_eq_true_eq, dlt, up] at h3 h4
      have : j = sq + f := by (clear h1 hn; omega)
      subst this
      exact ⟨⟨by (clear hn; omega), by simpa using h2⟩, h3⟩
  · unfold shp
    rw [if_neg (by decide), Nat.testBit_shiftRight]
    constructor
    · intro h
      refine ⟨f + j, bit_lt hn h, h, ?_, ?_⟩
      · simp [okP]
      · simp [dlt, up]; (clear h hn; omega)
    · rintro ⟨sq, h1, h2, h3, h4⟩
      simp only [okP, dlt, up] at h3 h4
      have h3' : f ≤ sq := by simpa using h3
      have : sq = f + j := by (clear h1 hn; omega)
      rw [← this]; exact h2

theorem shc_bit (hb : (f, r, dbl) ∈ bds) {b side wing : Nat} (hs : side ≤ 1) (hw : wing ≤ 1) (hn : b < 2 ^ (f * r)) (j : Nat) :
    (shc f r b side wing).testBit j = true ↔ ∃ sq, sq < f * r ∧ b.testBit sq = true ∧ (okP f r sq side = true ∧ okW f sq wing = true) ∧ (j : Int) = (sq : Int) + dlt f side + wx wing := by
  obtain ⟨n1, n2, n3, n4, n5⟩ := bd_num hb
  have core : ∀ c, c < f → ∀ i, (shp f r (andn b (fileM f r c)) side).testBit i = true ↔ ∃ sq, sq < f * r ∧ b.testBit sq = true ∧ sq % f ≠ c ∧ okP f r sq side = true ∧ (i : Int) = (sq : Int) + dlt f side := by
    intro c hc i
    rw [shp_bit hb hs (Nat.lt_of_le_of_lt (andn_le _ _) hn)]
    constructor
    · rintro ⟨sq, h1, h2, h3, h4⟩
      rw [andn_bit, bdF hb hc h1] at h2
      simp only [Bool.and_eq_true, Bool.not_eq_true', decide_eq_false_iff_not] at h2
      exact ⟨sq, h1, h2.1, h2.2, h3, h4⟩
    · rintro ⟨sq, h1, h2, h3, h4, h5⟩
      refine ⟨sq, h1, ?_, h4, h5⟩
      rw [andn_bit, bdF hb hc h1]
      simp [h2, h3]
  rcases side2 hw with rfl | rfl
  · unfold shc
    rw [if_pos rfl, Nat.testBit_shiftLeft]
    simp only [Bool.and_eq_true, decide_eq_true_eq]
    rw [core (f - 1) (by (clear hn hs n2 n5; omega))]
    constructor
    · rintro ⟨h0, sq, h1, h2, h3, h4, h5⟩
      exact ⟨sq, h1, h2, ⟨h4, by simpa [okW] using h3⟩, by simp [wx]; (clear h1 hn hs n5; omega)⟩
    · rintro ⟨sq, h1, h2, ⟨h3, h4⟩, h5⟩
      have hpos : 0 ≤ (sq : Int) + dlt f side := by
        rcases besP hb hs h1 with q | q
        · exact q.2.2.1
        · rw [h3] at q; cases q.1
      simp only [wx] at h5
      exact ⟨by (clear h1 hn hs n5; omega), sq, h1, h2, by simpa [okW] using h4, h3, by (clear h1 hn hs n5; omega)⟩
  · unfold shc
    rw [if_neg (by decide), Nat.testBit_shiftRight]
    rw [core 0 (by (clear hn hs n2 n5; omega))]
    constructor
    · rintro ⟨sq, h1, h2, h3, h4, h5⟩
      exact ⟨sq, h1, h2, ⟨h4, by simpa [okW] using h3⟩, by simp [wx]; (clear h1 hn hs n5; omega)⟩
    · rintro ⟨sq, h1, h2, ⟨h3, h4⟩, h5⟩
      simp only [wx] at h5
      exact ⟨sq, h1, h2, by simpa [okW] using h4, h3, by (clear h1 hn hs n5; omega)⟩

theorem setP (hb : (f, r, dbl) ∈ bds) {b side : Nat} (hs : side ≤ 1) (hn : b < 2 ^ (f * r)) :
    setS ((natI (setN (f * r) b)).map fun sq => bes f r sq 0 (up side)) = ((shp f r b side : Nat) : Int) := by
  refine setS_eq ?_ fun j => ?_
  · unfold NdP natI
    rw [List.map_map, List.pairwise_map]
    refine List.Pairwise.imp_of_mem ?_ (setN_lt (f * r) b)
    intro x y hx hy hlt h0
    simp only [Function.comp] at h0 ⊢
    rcases besP hb hs (mem_setN.mp hx).1 with q | q <;> rcases besP hb hs (mem_setN.mp hy).1 with q' | q' <;> (clear hn hs; omega)
  · rw [shp_bit hb hs hn]
    unfold natI
    rw [List.map_map]
    constructor
    · rintro ⟨sq, h1, h2, h3, h4⟩
      refine List.mem_map.mpr ⟨sq, mem_setN.mpr ⟨h1, h2⟩, ?_⟩
      simp only [Function.comp]
      rcases besP hb hs h1 with q | q
      · (clear h1 hn hs; omega)
      · rw [h3] at q; cases q.1
    · intro h
      obtain ⟨sq, h1, h2⟩ := List.mem_map.mp h
      simp only [Function.comp] at h2
      obtain ⟨h3, h4⟩ := mem_setN.mp h1
      rcases besP hb hs h3 with q | q
      · exact ⟨sq, h3, h4, q.1, by (clear h3 hn hs; omega)⟩
      · (clear h3 hn hs; omega)
theorem setC (hb : (f, r, dbl) ∈ bds) {b side wing : Nat} (hs : side ≤ 1) (hw : wing ≤ 1) (hn : b < 2 ^ (f * r)) :
    setS ((natI (setN (f * r) b)).map fun sq => bes f r sq (wx wing) (up side)) = ((shc f r b side wing : Nat) : Int) := by
  refine setS_eq ?_ fun j => ?_
  · unfold NdP natI
    rw [List.map_map, List.pairwise_map]
    refine List.Pairwise.imp_of_mem ?_ (setN_lt (f * r) b)
    intro x y hx hy hlt h0
    simp only [Function.comp] at h0 ⊢
    rcases besC hb hs hw (mem_setN.mp hx).1 with q | q <;> rcases besC hb hs hw (mem_setN.mp hy).1 with q' | q' <;> (clear hn hs hw; omega)
  · rw [shc_bit hb hs hw hn]
    unfold natI
    rw [List.map_map]
    constructor
    · rintro ⟨sq, h1, h2, h3, h4⟩
      refine List.mem_map.mpr ⟨sq, mem_setN.mpr ⟨h1, h2⟩, ?_⟩
      simp only [Function.comp]
      rcases besC hb hs hw h1 with q | q
      · (clear h1 hn hs hw; omega)
      · exact absurd h3 q.1
    · intro h
      obtain ⟨sq, h1, h2⟩ := List.mem_map.mp h
      simp only [Function.comp] at h2
      obtain ⟨h3, h4⟩ := mem_setN.mp h1
      rcases besC hb hs hw h3 with q | q
      · exact ⟨sq, h3, h4, q.1, by (clear h3 hn hs hw; omega)⟩
      · (clear h3 hn hs hw; omega)
end
end Pf
end

section
set_option autoImplicit false
set_option maxRecDepth 100000
set_option linter.unusedSimpArgs false
namespace Pf
open PySem (Operator CmpOp UnaryOp)

theorem cmpNe {a b : Int} {Q : Bool → Prop} {σ : AHeap} (h : a = b) (hq : Q false) : cmpW .NotEq (.int a) (.int b) Q σ := by
  simp only [cmpW, icmp, h, decide_true, Bool.not_true]; exact hq

theorem nil_go {cw : CW} {m : Loc} {Q : AFlow → Loc → AHeap → Prop} {σ : AHeap} (h : Q .next m σ) : wpSs cw [] m Q σ := by rw [Wss1]; exact h

theorem setRow {f r : Nat} {dbl : Bool} (hb : (f, r, dbl) ∈ bds) {row : Nat} (hr : row < r) : setS ((natI (List.range f)).map fun c => (row : Int) * (f : Int) + c) = ((rankM f row : Nat) : Int) := by
  obtain ⟨n1, n2, n3, n4, n5⟩ := bd_num hb
  refine setS_eq ?_ fun j => ?_
  · unfold NdP natI
    rw [List.map_map, List.pairwise_map]
    refine List.Pairwise.imp ?_ List.pairwise_lt_range
    intro x y hlt h0
    simp only [Function.comp]
    (clear h0 hr n5; omega)
  · have hj : row * f + f ≤ f * r := by
      have : (row + 1) * f ≤ r * f := Nat.mul_le_mul_right f hr
      rw [Nat.add_mul, Nat.one_mul] at this
      rw [Nat.mul_comm f r]; exact this
    unfold natI
    rw [List.map_map]
    constructor
    · intro h
      have lt := bit_lt (bdRlt hb hr) h
      rw [bdR hb hr lt, decide_eq_true_eq] at h
      refine List.mem_map.mpr ⟨j % f, List.mem_range.mpr (Nat.mod_lt _ (by (clear h hj hr lt n2 n5; omega))), ?_⟩
      simp only [Function.comp]
      have := Nat.div_add_mod j f
      rw [h, Nat.mul_comm] at this
      (clear h hr lt; omega)
    · intro h
      obtain ⟨c, hc, e⟩ := List.mem_map.mp h
      have hc' := List.mem_range.mp hc
      simp only [Function.comp] at e
      have e' : j = row * f + c := by
        have : ((row * f : Nat) : Int) = (row : Int) * (f : Int) := Int.natCast_mul ..
        (clear hr; omega)
      subst e'
      rw [bdR hb hr (by (clear hr; omega)), decide_eq_true_eq, Nat.mul_comm, Nat.mul_add_div (by (clear hr n2; omega)), Nat.div_eq_of_lt hc', Nat.add_zero]

theorem bes_lt {f r : Nat} {dbl : Bool} (hb : (f, r, dbl) ∈ bds) (sq dx dy : Int) : bes f r sq dx dy < 40 := by
  obtain ⟨n1, n2, n3, n4, n5⟩ := bd_num hb
  unfold bes
  split
  · rename_i h
    obtain ⟨⟨h1, h2⟩, h3, h4⟩ := h
    have a1 : (sq / f + dy) * f ≤ ((r : Int) - 1) * f := Int.mul_le_mul_of_nonneg_right (by (clear n5; omega)) (by (clear n2 n5; omega))
    have a2 : ((r : Int) - 1) * f = ((f * r : Nat) : Int) - f := by
      rw [Int.sub_mul, Int.natCast_mul, Int.mul_comm]; omega
    omega
  · omega
theorem zs_len (l : List Int) : (zs l).length = l.length := by simp [zs]
theorem setN_len (N b : Nat) : (setN N b).length ≤ N := by
  have := List.length_filter_le (fun i => b.testBit i) (List.range N)
  simpa [setN] using this

theorem two_get {i : Nat} {v : AVal} (h : [AVal.int 0, AVal.int 1][i]? = some v) : ∃ s : Nat, s ≤ 1 ∧ v = .int (s : Int) := by
  match i, h with
  | 0, h => cases h; exact ⟨0, by omega, rfl⟩
  | 1, h => cases h; exact ⟨1, by omega, rfl⟩
  | i + 2, h => simp at h

theorem spec_shifts {k f r g b : Nat} {dbl : Bool} {Q : AVal → AHeap → Prop} {σ : AHeap} (hb : (f, r, dbl) ∈ bds) (G : GeoAt σ g f r dbl) (hn : b < 2 ^ (f * r)) (h : ∀ σ', Ext σ σ' → Q (.bool true) σ') :
    callW P (k + 4) 34 [.ref g, .int (f : Int), .int (r : Int), .int (b : Int)] Q σ := by
  obtain ⟨n1, n2, n3, n4, n5⟩ := bd_num hb
  refine callW_go rfl rfl ?_
  simp only [B_law_shifts_right, List.map_cons, List.map_nil, List.replicate_succ, List.replicate_zero, List.nil_append, List.cons_append]
  refine K1 ?_
  simp only [We2, We14, Wes1, Wes2, varW, retOf, List.getElem?_cons_zero, List.getElem?_cons_succ, List.set_cons_zero, List.set_cons_succ]
  refine spec_in_set (by omega) (by (clear hn n1 n5; omega)) fun c σ1 hc1 hE1 hl1 => ?_
  refine K12 ?_
  simp only [We1, We23, Wes1, Wes2, List.length_cons, List.length_nil]
  refine ⟨by decide, fun t ht => ?_⟩
  refine ⟨t, _, _, rfl, putS, rfl, ?_⟩
  have hc1' : c ≠ t := neOf hl1 ht
  refine forN_rule (fun i m τ => ∃ x5 x6 x7 x8 x9, Ext σ1 τ ∧ τ t = some (.tup [.int 0, .int 1]) ∧ m = [some (.ref g), some (.int (f : Int)), some (.int (r : Int)), some (.int (b : Int)), some (.ref c), x5, x6, x7, x8, x9, none, none, none, none]) ?_ ?_ ?_
    ⟨none, none, none, none, none, Ext.refl.put ht, putS, rfl⟩
  · rintro i v m τ hv ⟨x5, x6, x7, x8, x9, hE, htt, rfl⟩ K hK
    obtain ⟨side, hs, rfl⟩ := two_get hv
    simp only [bindV, List.set_cons_zero, List.set_cons_succ]
    have Gt : ∀ {τ'}, Ext τ τ' → GeoAt τ' g f r dbl := fun e => (G.ext hE1).ext (hE.trans e)
    -- up
    refine K1 ?_
    simp only [We1, We2, We3, varW, List.getElem?_cons_zero, List.getElem?_cons_succ, List.set_cons_zero, List.set_cons_succ, Bi2, Bi3]
    refine ⟨⟨by decide, by decide⟩, ?_⟩
    rw [show (1 : Int) - 2 * (side : Int) = up side from rfl]
    -- the push
    (refine K10 ?_; rw [Wt4])
    simp only [We1, We2, We14, We24, Wes1, Wes2, varW, List.getElem?_cons_zero, List.getElem?_cons_succ]
    refine spec_shift_push hb (Gt Ext.refl) (le60 hn (by (clear hn hs; omega))) ?_
    refine ⟨c, _, _, rfl, hE _ _ hl1, rfl, by rw [zs_len]; simp [natI]; have := setN_len (f * r) b; (clear hn hs; omega), fun d hd => ?_⟩
    refine compN_ints (tst := fun _ => true) (g := fun sq => bes f r sq 0 (up side)) hd (hE _ _ hl1) ?_ ?_ (by simp [natI]; have := setN_len (f * r) b; (clear hn hs; omega)) fun τ2 hE2 hd2 => ?_
    · intro n _ σ' K' _ hK'
      rw [Wts1]; exact hK'
    · intro n _ _ σ' K' _ hK'
      simp only [List.getElem?_cons_zero, List.getElem?_cons_succ, List.set_cons_zero, List.set_cons_succ]
      exact spec_beside (by (clear hn hs n2 n5; omega)) (by (clear h hn hs n1; omega)) (by (clear hn hs n3 n5; omega)) (hK' σ' Ext.refl)
    rw [List.filter_eq_self.mpr fun _ _ => rfl] at hd2
    refine spec_set hd2 (by simp [natI]; have := setN_len (f * r) b; (clear hn hs; omega)) (fun x hx => ?_) fun τ3 hE3 => ?_
    · obtain ⟨y, _, rfl⟩ := List.mem_map.mp hx; exact bes_lt hb _ _ _
    refine cmpNe (setP hb hs hn).symm (nil_go ?_)
    dsimp only
    have hE23 := hE2.trans hE3
    -- the captures
    refine K12 ?_
    simp only [We1, We23, Wes1, Wes2, List.length_cons, List.length_nil]
    refine ⟨by decide, fun t2 ht2 => ?_⟩
    refine ⟨t2, _, _, rfl, putS, rfl, ?_⟩
    refine forN_rule (fun i m τ' => ∃ x7 x8, Ext τ3 τ' ∧ τ' t2 = some (.tup [.int 0, .int 1]) ∧ m = [some (.ref g), some (.int (f : Int)), some (.int (r : Int)), some (.int (b : Int)), some (.ref c), some (.int (side : Int)), some (.int (up side)), x7, x8, x9, none, none, none, none]) ?_ ?_ ?_
      ⟨x7, x8, Ext.refl.put ht2, putS, rfl⟩
    · rintro i v m τ4 hv ⟨x7, x8, hE4, htt4, rfl⟩ K2 hK2
      obtain ⟨wing, hw, rfl⟩ := two_get hv
      simp only [bindV, List.set_cons_zero, List.set_cons_succ]
      refine K1 ?_
      simp only [We1, We2, We3, We14, We24, Wes1, Wes2, varW, List.getElem?_cons_zero, List.getElem?_cons_succ, List.set_cons_zero, List.set_cons_succ]
      have hE04 := hE23.trans hE4
      have hl4 := hE04 _ _ (hE _ _ hl1)
      refine ⟨c, _, _, rfl, hl4, rfl, by rw [zs_len]; simp [natI]; have := setN_len (f * r) b; (clear hK hn hs hw; omega), fun d4 hd4 => ?_⟩
      refine compN_ints (tst := fun _ => true) (g := fun sq => bes f r sq (wx wing) (up side)) hd4 hl4 ?_ ?_ (by simp [natI]; have := setN_len (f * r) b; (clear hK hn hs hw; omega)) fun τ5 hE5 hd5 => ?_
      · intro n _ σ' K' _ hK'
        rw [Wts1]; exact hK'
      · intro n _ _ σ' K' _ hK'
        simp only [List.getElem?_cons_zero, List.getElem?_cons_succ, List.set_cons_zero, List.set_cons_succ, Bi2, Bi3]
        refine ⟨⟨by decide, by decide⟩, ?_⟩
        exact spec_beside (by (clear h hn hw n2; omega)) (by (clear h hn hs hw n1; omega)) (by (clear hn hw n1 n2 n3; omega)) (hK' σ' Ext.refl)
      rw [List.filter_eq_self.mpr fun _ _ => rfl] at hd5
      (refine K10 ?_; rw [Wt4])
      simp only [We2, We14, Wes1, Wes2, varW, List.getElem?_cons_zero, List.getElem?_cons_succ]
      refine spec_shift_capture hb (Gt (hE04.trans hE5)) hn ?_
      refine spec_set hd5 (by simp [natI]; have := setN_len (f * r) b; (clear hK hn hs hw; omega)) (fun x hx => ?_) fun τ6 hE6 => ?_
      · obtain ⟨y, _, rfl⟩ := List.mem_map.mp hx; exact bes_lt hb _ _ _
      refine cmpNe (setC hb hs hw hn).symm ?_
      simp only [Wss1]
      exact hK2 _ _ ⟨_, _, (hE4.trans hE5).trans hE6, (hE5.trans hE6) _ _ htt4, rfl⟩
    · rintro i m τ' ⟨_, _, _, h2, _⟩; exact h2
    rintro m τ4 ⟨x7, x8, hE4, _, rfl⟩
    simp only []
    have hE04 := hE23.trans hE4
    -- the rows
    refine K1 ?_
    simp only [Wt4, cmpW, icmp, We1, We2, We3, We10, We22, Wes1, Wes2, varW, List.getElem?_cons_zero, List.getElem?_cons_succ, List.set_cons_zero, List.set_cons_succ, List.length_cons, List.length_nil, Bi2]
    rw [show decide ((side : Int) = 0) = decide (side = 0) from deq (b := 0)]
    have rows : ∀ (x0 x1 : Nat) (d : Nat) (τ5 : AHeap), x0 < r → ((x1 : Int) + up side = ((if side = 0 then 1 else r - 2 : Nat) : Int)) → x0 = (if side = 0 then r - 1 else 0) → Ext τ τ5 → τ5 d = some (.list [.int (x0 : Int), .int (x1 : Int)]) →
        wpSs (callW P (k + 3)) [St.iff (.cmp .NotEq (.call 10 [(.var 0), (.var 5)]) (.call 33 [(.comp (.bin .Add (.bin .Mult (.sub (.var 9) (.lit (.int 0))) (.var 1)) (.var 12)) 12 (.range [(.var 1)]) [])])) [(.ret (.lit (.bool false)))] [], (.iff (.cmp .NotEq (.call 9 [(.var 0), (.var 5)]) (.call 33 [(.comp (.bin .Add (.bin .Mult (.bin .Add (.sub (.var 9) (.lit (.int 1))) (.var 6)) (.var 1)) (.var 13)) 13 (.range [(.var 1)]) [])])) [(.ret (.lit (.bool false)))] []), (.iff (.cmp .NotEq (.call 8 [(.var 0), (.var 5)]) (.bin .Mult (.var 6) (.var 1))) [(.ret (.lit (.bool false)))] [])]
          [some (.ref g), some (.int (f : Int)), some (.int (r : Int)), some (.int (b : Int)), some (.ref c), some (.int (side : Int)), some (.int (up side)), x7, x8, some (.ref d), none, none, none, none]
          (fun f m2 σ2 => match f with | .ret w => Q w σ2 | _ => K m2 σ2) τ5 := by
      intro x0 x1 d τ5 hx0 hx1 hx0' hE5 hd5
      (refine K10 ?_; rw [Wt4])
      simp only [We1, We2, We3, We12, We14, We19, We24, Wes1, Wes2, varW, List.getElem?_cons_zero, List.getElem?_cons_succ]
      refine spec_last_mask hb (Gt hE5) ?_
      first | refine Rg1 ?_ | refine Rg3 ?_
      refine ⟨⟨by (clear hn hs hx0 hx0' hx1 n1 n2 n5; omega), by (clear hn hs hx0 hx0' hx1 n1 n5; omega)⟩, fun e he => ⟨e, _, _, rfl, putS, rfl, by rw [rangeL_nat]; simp [zs, natI]; (clear hn hs hx0 hx0' hx1 n1 n5; omega), fun d6 hd6 => ?_⟩⟩
      rw [rangeL_nat]
      have hd5' := put_get (o' := AObj.range 0 (f : Int) 1) hd5 he
      refine compN_ints (tst := fun _ => true) (g := fun c => (x0 : Int) * (f : Int) + c) hd6 putS ?_ ?_ (by simp [natI]; (clear hn hs hx0 hx0' hx1 n1 n5; omega)) fun τ7 hE7 hd7 => ?_
      · intro n _ σ' K' _ hK'
        rw [Wts1]; exact hK'
      · intro n _ _ σ' K' hEE hK'
        simp only [List.getElem?_cons_zero, List.getElem?_cons_succ, List.set_cons_zero, List.set_cons_succ]
        refine subGo (k := 0) (hEE _ _ hd5') rfl (by (clear hn hs hx0 hx0' hx1 n5; omega)) ?_
        simp only [Bi1, Bi3]
        exact ⟨⟨by (clear hn hs hx0' hx1 n5; omega), by (clear hn hs hx0' hx1 n3 n5; omega)⟩, hK' σ' Ext.refl⟩
      rw [List.filter_eq_self.mpr fun _ _ => rfl] at hd7
      refine spec_set hd7 (by simp [natI]; (clear hn hs hx0 hx0' hx1 n1 n5; omega)) (fun x hx => ?_) fun τ8 hE8 => ?_
      · obtain ⟨y, hy, rfl⟩ := List.mem_map.mp hx
        obtain ⟨z, hz, rfl⟩ := List.mem_map.mp hy
        have hz' := List.mem_range.mp hz
        have : (x0 + 1) * f ≤ r * f := Nat.mul_le_mul_right f hx0
        rw [Nat.add_mul, Nat.one_mul, Nat.mul_comm r f] at this
        have e2 : ((x0 * f : Nat) : Int) = (x0 : Int) * (f : Int) := Int.natCast_mul ..
        (clear hn hs hx0 hx0' hx1; omega)
      refine cmpNe (by rw [setRow hb hx0]; unfold lastM; rw [hx0']) ?_
      simp only [Wss1, Wss2]
      have hE58 : Ext τ5 τ8 := fun b' o' q => hE8 _ _ (hE7 _ _ (put_get q he))
      (rw [Ws10]; rw [Wt4])
      simp only [We1, We2, We3, We12, We14, We19, We24, Wes1, Wes2, varW, List.getElem?_cons_zero, List.getElem?_cons_succ]
      refine spec_start_mask hb (Gt (hE5.trans hE58)) ?_
      first | refine Rg1 ?_ | refine Rg3 ?_
      refine ⟨⟨by (clear h hn n2; omega), by (clear h hn n1; omega)⟩, fun e9 he9 => ⟨e9, _, _, rfl, putS, rfl, by rw [rangeL_nat]; simp [zs, natI]; (clear h hn n1; omega), fun d9 hd9 => ?_⟩⟩
      rw [rangeL_nat]
      have hd8' := put_get (o' := AObj.range 0 (f : Int) 1) (hE58 _ _ hd5) he9
      have hrow : (if side = 0 then 1 else r - 2) < r := by split <;> (clear hn hs hx1 n1 n4 n5; omega)
      refine compN_ints (tst := fun _ => true) (g := fun c => ((if side = 0 then 1 else r - 2 : Nat) : Int) * (f : Int) + c) hd9 putS ?_ ?_ (by simp [natI]; (clear h hn n1; omega)) fun τ9 hE9 hd9 => ?_
      · intro n _ σ' K' _ hK'
        rw [Wts1]; exact hK'
      · intro n _ _ σ' K' hEE hK'
        simp only [List.getElem?_cons_zero, List.getElem?_cons_succ, List.set_cons_zero, List.set_cons_succ]
        refine subGo (k := 1) (hEE _ _ hd8') rfl (by (clear hK' hn hs hx0 hx0' hx1 n5; omega)) ?_
        simp only [Bi1, Bi3]
        rw [hx1]
        exact ⟨⟨by (clear hn hs hx0 hx0' hx1 n5; omega), by (clear hn hs hx0 hx0' hx1 n3 n5; omega)⟩, hK' σ' Ext.refl⟩
      rw [List.filter_eq_self.mpr fun _ _ => rfl] at hd9
      refine spec_set hd9 (by simp [natI]; (clear h hn n1; omega)) (fun x hx => ?_) fun τ10 hE10 => ?_
      · obtain ⟨y, hy, rfl⟩ := List.mem_map.mp hx
        obtain ⟨z, hz, rfl⟩ := List.mem_map.mp hy
        have hz' := List.mem_range.mp hz
        generalize (if side = 0 then 1 else r - 2) = row at hrow
        have : (row + 1) * f ≤ r * f := Nat.mul_le_mul_right f hrow
        rw [Nat.add_mul, Nat.one_mul, Nat.mul_comm r f] at this
        have e2 : ((row * f : Nat) : Int) = (row : Int) * (f : Int) := Int.natCast_mul ..
        (clear hn hrow hs hx0 hx0' hx1; omega)
      refine cmpNe (by rw [setRow hb hrow]; rfl) ?_
      simp only [Wss1]
      have hE510 : Ext τ5 τ10 := fun b' o' q => hE10 _ _ (hE9 _ _ (put_get (hE58 _ _ q) he9))
      (rw [Ws10]; rw [Wt4])
      simp only [We2, We3, We14, Wes1, Wes2, varW, List.getElem?_cons_zero, List.getElem?_cons_succ]
      refine spec_push_step (Gt (hE5.trans hE510)) ?_
      simp only [Bi3]
      refine ⟨⟨by unfold up; (clear hn hx0 hx0' hx1 n5; omega), by unfold up; (clear hn hs hx0 hx0' hx1 n5; omega)⟩, ?_⟩
      refine cmpNe (by unfold stp up; rcases side2 hs with rfl | rfl <;> simp) ?_
      simp only [Wss1]
      exact hK _ _ ⟨_, _, _, _, _, hE.trans (hE5.trans hE510), (hE5.trans hE510) _ _ htt, rfl⟩
    rcases side2 hs with rfl | rfl
    · simp only [decide_true]
      refine ⟨by decide, fun d hd => ?_⟩
      refine rows (r - 1) 0 d _ (by (clear hn n1 n4 n5; omega)) rfl rfl (hE04.put (by
        cases q : τ d with
        | none => rfl
        | some o => rw [hE04 _ _ q] at hd; cases hd)) ?_
      rw [putS, Int.ofNat_sub (by (clear hn n1 n4 n5; omega))]; rfl
    · simp only [show decide ((1 : Nat) = 0) = false from rfl]
      refine ⟨by decide, fun d hd => ?_⟩
      refine rows 0 (r - 1) d _ (by (clear hn n1 n4 n5; omega)) (by simp [up]; (clear hn n1 n4 n5; omega)) rfl (hE04.put (by
        cases q : τ d with
        | none => rfl
        | some o => rw [hE04 _ _ q] at hd; cases hd)) ?_
      rw [putS, Int.ofNat_sub (by (clear hn n1 n2 n4; omega))]; rfl
  · rintro i m τ ⟨_, _, _, _, _, _, h2, _⟩; exact h2
  · rintro m τ ⟨x5, x6, x7, x8, x9, hE, _, rfl⟩
    simp only []
    refine K9 ?_
    simp only [We1]
    exact h τ (hE1.trans hE)
end Pf
end

section
set_option autoImplicit false
set_option maxRecDepth 100000
set_option linter.unusedSimpArgs false
set_option linter.unusedVariables false
namespace Pf
open PySem (Operator CmpOp UnaryOp)

theorem compN_refs {T : Loc → (Bool → AHeap → Prop) → AHeap → Prop} {B : Loc → (AVal → AHeap → Prop) → AHeap → Prop} {x : Nat} {m : Loc} {a : Nat} {o : AObj} {c : Nat} {Q : AVal → AHeap → Prop} (tst : Int → Bool) (ob : Int → AObj) {σ0 : AHeap} (hc0 : σ0 c = none) (ha : σ0 a = some o)
    {ns : List Int} (hT : ∀ n ∈ ns, ∀ σ' K, Ext σ0 σ' → K (tst n) σ' → T (m.set x (some (.int n))) K σ')
    (hB : ∀ n ∈ ns, tst n = true → ∀ σ' K, Ext σ0 σ' → (∀ t σ'', Ext σ' σ'' → σ' t = none → σ'' t = some (ob n) → K (.ref t) σ'') → B (m.set x (some (.int n))) K σ')
    (len : ns.length ≤ 100000) (fin : ∀ σ' (ts : List Nat), Ext σ0 σ' → σ' c = some (.list (ts.map .ref)) → ts.length = (ns.filter tst).length → (∀ (i : Nat) n, (ns.filter tst)[i]? = some n → ∃ t, ts[i]? = some t ∧ σ' t = some (ob n)) → Q (.ref c) σ') :
    compN T B x m a o c Q (zs ns) [] (put σ0 c (.list [])) := by
  have go : ∀ (l pre : List Int) (acc : List Nat) (σ : AHeap), (∀ n ∈ l, n ∈ ns) → pre.length + l.length ≤ 100000 → Ext σ0 σ → σ c = some (.list (acc.map .ref)) → acc.length = pre.length →
      (∀ (i : Nat) n, pre[i]? = some n → ∃ t, acc[i]? = some t ∧ t ≠ c ∧ σ t = some (ob n)) →
      (∀ σ' (ts : List Nat), Ext σ0 σ' → σ' c = some (.list (ts.map .ref)) → ts.length = (pre ++ l.filter tst).length → (∀ (i : Nat) n, (pre ++ l.filter tst)[i]? = some n → ∃ t, ts[i]? = some t ∧ σ' t = some (ob n)) → Q (.ref c) σ') →
      compN T B x m a o c Q (zs l) (acc.map .ref) σ := by
    intro l
    induction l with
    | nil =>
      intro pre acc σ _ _ hE hc hl hp h
      show compN T B x m a o c Q [] (acc.map .ref) σ
      rw [compN]
      refine ⟨h σ acc hE hc (by simpa using hl) (fun i n e => ?_), hc⟩
      obtain ⟨t, e1, _, e2⟩ := hp i n (by simpa using e)
      exact ⟨t, e1, e2⟩
    | cons n r ih =>
      intro pre acc σ hm hlen hE hc hl hp h
      show compN T B x m a o c Q (.int n :: zs r) (acc.map .ref) σ
      rw [compN]
      have hn := hm n (by simp)
      refine hT n hn σ _ hE ?_
      cases ht : tst n with
      | true =>
        dsimp only
        refine hB n hn ht σ _ hE fun t σ2 hE2 htn hto => ?_
        have hc2 := hE2 _ _ hc
        have htc : t ≠ c := fun z => by rw [z, hc] at htn; cases htn
        refine ⟨hc2, by simp at hlen ⊢; (clear len; omega), (hE.trans hE2) _ _ ha, ?_⟩
        have e : acc.map AVal.ref ++ [AVal.ref t] = (acc ++ [t]).map .ref := by simp
        rw [e]
        refine ih (pre ++ [n]) (acc ++ [t]) _ (fun y hy => hm y (by simp [hy])) (by simp at hlen ⊢; (clear hl len; omega)) ((hE.trans hE2).put hc0) putS (by simp [hl]) (fun i n' e' => ?_) fun σ' ts hE' hc' hl' hp' => h σ' ts hE' hc' ?_ ?_
        · rcases Nat.lt_or_ge i pre.length with q | q
          · rw [List.getElem?_append_left q] at e'
            obtain ⟨u, e1, e2, e3⟩ := hp i n' e'
            exact ⟨u, by rw [List.getElem?_append_left (by (clear hlen len; omega))]; exact e1, e2, by rw [putN e2]; exact hE2 _ _ e3⟩
          · rw [List.getElem?_append_right q] at e'
            have z : i - pre.length = 0 := by
              rcases Nat.eq_zero_or_pos (i - pre.length) with z | z
              · exact z
              · rw [List.getElem?_eq_none (by simp; (clear hl hlen len q; omega))] at e'; cases e'
            rw [z] at e'
            simp at e'
            subst e'
            refine ⟨t, ?_, htc, by rw [putN htc]; exact hto⟩
            rw [List.getElem?_append_right (by (clear hlen len z; omega)), hl, z]; rfl
        · rw [hl', List.filter_cons_of_pos ht]; simp
        · intro i n' e'
          rw [List.filter_cons_of_pos ht] at e'
          exact hp' i n' (by simpa using e')
      | false =>
        dsimp only
        refine ⟨hc, hE _ _ ha, ih pre acc σ (fun y hy => hm y (by simp [hy])) (by simp at hlen ⊢; (clear hl len; omega)) hE hc hl hp fun σ' ts hE' hc' hl' hp' => h σ' ts hE' hc' ?_ ?_⟩
        · rw [hl', List.filter_cons_of_neg (by simp [ht])]
        · intro i n' e'
          rw [List.filter_cons_of_neg (by simp [ht])] at e'
          exact hp' i n' e'
  exact go ns [] [] _ (fun _ h => h) (by simpa using len) (Ext.refl.put hc0) putS rfl (fun i n e => by simp at e) fun σ' ts hE hc hl hp => fin σ' ts hE hc (by simpa using hl) fun i n e => hp i n (by simpa using e)

section
variable {Q : AHeap → Prop} {σ : AHeap}
theorem setAGo {a c d f : Nat} {fs : List (Nat × AVal)} {v : AVal} (h1 : σ a = some (.inst c d)) (h2 : σ d = some (.dict fs)) (hl : fs.length ≤ 100) (h : Q (put σ d (.dict (putF fs f v)))) : setAW (.ref a) f v Q σ := by
  simp only [setAW, h1, h2]; exact ⟨hl, h⟩
theorem setSGo {a k : Nat} {xs : List AVal} {v : AVal} (h1 : σ a = some (.list xs)) (hk : k < xs.length) (hl : xs.length ≤ 1000000) (h : Q (put σ a (.list (xs.set k v)))) : setSW (.ref a) (.int (k : Int)) v Q σ := by
  simp only [setSW, h1, Int.toNat_natCast]; exact ⟨⟨by omega, hk, hl⟩, h⟩
end
theorem zi_set {l : List Nat} {k n : Nat} : (zs (natI l)).set k (.int (n : Int)) = zs (natI (l.set k n)) := by
  simp [zs, natI, List.map_set]
theorem zi_len (l : List Nat) : (zs (natI l)).length = l.length := by simp [zs, natI]

theorem putF_hit {fs : List (Nat × AVal)} {f : Nat} {v w : AVal} : putF ((f, w) :: fs) f v = (f, v) :: fs := by simp [putF]
theorem putF_miss {fs : List (Nat × AVal)} {f g : Nat} {v w : AVal} (h : (g == f) = false) : putF ((g, w) :: fs) f v = (g, w) :: putF fs f v := by
  have : g ≠ f := by simpa using h
  simp [putF, this]

/-- a step of a maker: the new object's dict is set -/
theorem setNew {σ τ : AHeap} {x d c f : Nat} {fs : List (Nat × AVal)} {v : AVal} {Q : AHeap → Prop} (hE : Ext σ τ) (hd0 : σ d = none) (hx : τ x = some (.inst c d)) (hd : τ d = some (.dict fs)) (hl : fs.length ≤ 100)
    (h : ∀ τ', Ext σ τ' → (∀ b o, b ≠ d → τ b = some o → τ' b = some o) → τ' x = some (.inst c d) → τ' d = some (.dict (putF fs f v)) → Q τ') : setAW (.ref x) f v Q τ := by
  have ne : x ≠ d := fun z => by rw [z, hd] at hx; cases hx
  exact setAGo hx hd hl (h _ (hE.put hd0) (fun b o hb e => by rw [putN hb]; exact e) (by rw [putN ne]; exact hx) putS)

noncomputable def zfs (v1 v2 v3 v4 : AVal) : List (Nat × AVal) := [(13, v1), (8, v2), (7, v3), (6, v4)]
theorem spec_zob {k x d : Nat} {v1 v2 v3 v4 : AVal} {Q : AVal → AHeap → Prop} {σ : AHeap} (hd : σ d = none) (hx : σ x = none) (hdx : d ≠ x)
    (h : ∀ σ', Ext σ σ' → σ' x = some (.inst 277 d) → σ' d = some (.dict (zfs v1 v2 v3 v4)) → Q .none σ') : callW P (k + 1) 28 [.ref x, v1, v2, v3, v4] Q (put (put σ d (.dict [])) x (.inst 277 d)) := by
  refine callW_go rfl rfl ?_
  simp only [B_ZobristInit, We2, Ws3, Wss1, Wss2, varW, retOf, List.getElem?_cons_zero, List.getElem?_cons_succ, List.map_cons, List.map_nil, List.replicate_zero, List.append_nil]
  refine setNew ((Ext.refl.put hd).put hx) hd putS (by rw [putN hdx]; exact putS) (by decide) fun τ1 e1 _ x1 d1 => ?_
  refine setNew e1 hd x1 d1 (by simp [putF]) fun τ2 e2 _ x2 d2 => ?_
  refine setNew e2 hd x2 d2 (by simp [putF]) fun τ3 e3 _ x3 d3 => ?_
  refine setNew e3 hd x3 d3 (by simp [putF]) fun τ4 e4 _ x4 d4 => ?_
  exact h τ4 e4 x4 (by rw [d4]; rfl)

noncomputable def pfs (g z bl kl sl hs : Nat) (side : Int) (key : Int) : List (Nat × AVal) := [(0, .ref g), (1, .ref z), (2, .ref bl), (4, .ref kl), (5, .ref sl), (6, .int side), (7, .int 0), (8, .int (-1)), (9, .int 0), (10, .int 1), (11, .int key), (12, .ref hs)]
/-- the position while it is built: what is new against σz -/
structure PM (σz τ : AHeap) (p dp bl kl sl g z hs : Nat) (side key : Int) (bd ks ws : List Nat) : Prop where
  ext : Ext σz τ
  hp : τ p = some (.inst 59 dp)
  hd : τ dp = some (.dict (pfs g z bl kl sl hs side key))
  hb : τ bl = some (.list (zs (natI bd)))
  hk : τ kl = some (.list (zs (natI ks)))
  hw : τ sl = some (.list (zs (natI ws)))
  zd : σz dp = none
  zb : σz bl = none
  zk : σz kl = none
  zw : σz sl = none
  bk : bl ≠ kl
  bw : bl ≠ sl
  kw : kl ≠ sl

section
variable {σz τ : AHeap} {p dp bl kl sl g z hs : Nat} {side key : Int} {bd ks ws : List Nat}
theorem PM.dne (M : PM σz τ p dp bl kl sl g z hs side key bd ks ws) : p ≠ bl ∧ p ≠ kl ∧ p ≠ sl ∧ p ≠ dp ∧ dp ≠ bl ∧ dp ≠ kl ∧ dp ≠ sl := by
  refine ⟨fun q => ?_, fun q => ?_, fun q => ?_, fun q => ?_, fun q => ?_, fun q => ?_, fun q => ?_⟩
  · have := M.hp; rw [q, M.hb] at this; cases this
  · have := M.hp; rw [q, M.hk] at this; cases this
  · have := M.hp; rw [q, M.hw] at this; cases this
  · have := M.hp; rw [q, M.hd] at this; cases this
  · have := M.hd; rw [q, M.hb] at this; cases this
  · have := M.hd; rw [q, M.hk] at this; cases this
  · have := M.hd; rw [q, M.hw] at this; cases this
theorem PM.setB (M : PM σz τ p dp bl kl sl g z hs side key bd ks ws) (bd' : List Nat) : PM σz (put τ bl (.list (zs (natI bd')))) p dp bl kl sl g z hs side key bd' ks ws := by
  obtain ⟨h1, h2, h3, h4, h5, h6, h7⟩ := M.dne
  exact ⟨M.ext.put M.zb, by rw [putN h1]; exact M.hp, by rw [putN h5]; exact M.hd, putS, by rw [putN (Ne.symm M.bk)]; exact M.hk, by rw [putN (Ne.symm M.bw)]; exact M.hw, M.zd, M.zb, M.zk, M.zw, M.bk, M.bw, M.kw⟩
theorem PM.setK (M : PM σz τ p dp bl kl sl g z hs side key bd ks ws) (ks' : List Nat) : PM σz (put τ kl (.list (zs (natI ks')))) p dp bl kl sl g z hs side key bd ks' ws := by
  obtain ⟨h1, h2, h3, h4, h5, h6, h7⟩ := M.dne
  exact ⟨M.ext.put M.zk, by rw [putN h2]; exact M.hp, by rw [putN h6]; exact M.hd, by rw [putN M.bk]; exact M.hb, putS, by rw [putN (Ne.symm M.kw)]; exact M.hw, M.zd, M.zb, M.zk, M.zw, M.bk, M.bw, M.kw⟩
theorem PM.setW (M : PM σz τ p dp bl kl sl g z hs side key bd ks ws) (ws' : List Nat) : PM σz (put τ sl (.list (zs (natI ws')))) p dp bl kl sl g z hs side key bd ks ws' := by
  obtain ⟨h1, h2, h3, h4, h5, h6, h7⟩ := M.dne
  exact ⟨M.ext.put M.zw, by rw [putN h3]; exact M.hp, by rw [putN h7]; exact M.hd, by rw [putN M.bw]; exact M.hb, by rw [putN M.kw]; exact M.hk, putS, M.zd, M.zb, M.zk, M.zw, M.bk, M.bw, M.kw⟩
theorem PM.setD (M : PM σz τ p dp bl kl sl g z hs side key bd ks ws) (side' key' : Int) : PM σz (put τ dp (.dict (pfs g z bl kl sl hs side' key'))) p dp bl kl sl g z hs side' key' bd ks ws := by
  obtain ⟨h1, h2, h3, h4, h5, h6, h7⟩ := M.dne
  exact ⟨M.ext.put M.zd, by rw [putN h4]; exact M.hp, putS, by rw [putN (Ne.symm h5)]; exact M.hb, by rw [putN (Ne.symm h6)]; exact M.hk, by rw [putN (Ne.symm h7)]; exact M.hw, M.zd, M.zb, M.zk, M.zw, M.bk, M.bw, M.kw⟩

/-- the keys of the hash -/
noncomputable def ZobAt (σ : AHeap) (z N : Nat) : Prop := ∃ (dz : Nat) (v2 v3 v4 : AVal) (rows : Nat) (ts : List Nat), σ z = some (.inst 277 dz) ∧ σ dz = some (.dict (zfs (.ref rows) v2 v3 v4)) ∧ σ rows = some (.list (ts.map .ref)) ∧ ∀ i : Nat, i < 15 → ∃ (t : Nat) (ns : List Int), ts[i]? = some t ∧ σ t = some (.list (zs ns)) ∧ ns.length = N
theorem ZobAt.ext {σ σ' : AHeap} {z N : Nat} (Z : ZobAt σ z N) (E : Ext σ σ') : ZobAt σ' z N := by
  obtain ⟨dz, v2, v3, v4, rows, ts, h1, h2, h3, h4⟩ := Z
  exact ⟨dz, v2, v3, v4, rows, ts, E _ _ h1, E _ _ h2, E _ _ h3, fun i hi => let ⟨t, ns, a, b, c⟩ := h4 i hi; ⟨t, ns, a, E _ _ b, c⟩⟩

theorem spec_put_piece {k N man sq : Nat} {Q : AVal → AHeap → Prop} (M : PM σz τ p dp bl kl sl g z hs side key bd ks ws) (Z : ZobAt σz z N) (hN : N ≤ 30) (hsq : sq < N) (hman : man < 15) (hkd : man &&& 7 < 7) (hsd : man >>> 3 < 2) (lb : bd.length = N) (lk : ks.length = 7) (lw : ws.length = 2)
    (h : ∀ τ' key', (∀ b o, b ≠ dp → b ≠ bl → b ≠ kl → b ≠ sl → τ b = some o → τ' b = some o) → PM σz τ' p dp bl kl sl g z hs side key' (bd.set sq man) (ks.set (man &&& 7) (ks.getD (man &&& 7) 0 ||| 1 <<< sq)) (ws.set (man >>> 3) (ws.getD (man >>> 3) 0 ||| 1 <<< sq)) → Q .none τ') :
    callW P (k + 2) 5 [.ref p, .int (man : Int), .int (sq : Int)] Q τ := by
  refine callW_go rfl rfl ?_
  simp only [B_put_piece, List.map_cons, List.map_nil, List.replicate_succ, List.replicate_zero, List.nil_append, List.cons_append]
  refine K1 ?_
  simp only [We1, We2, We3, varW, retOf, List.getElem?_cons_zero, List.getElem?_cons_succ, List.set_cons_zero, List.set_cons_succ]
  refine bShl (a := 1) (by (clear hN hkd hman hsd hsq lb lk lw; omega)) (by (clear hkd hman hsd lb lk lw; omega)) ?_
  refine K4 ?_
  simp only [We2, We11, varW, List.getElem?_cons_zero, List.getElem?_cons_succ]
  refine attrGo M.hp M.hd rfl ?_
  refine setSGo M.hb (by rw [zi_len]; (clear hkd hman hsd lk lw; omega)) (by rw [zi_len]; (clear hkd hman hsd hsq lk lw; omega)) ?_
  rw [zi_set]
  have M1 := M.setB (bd.set sq man)
  refine K7 ?_
  simp only [We2, We11, We14, Wes1, Wes2, varW, List.getElem?_cons_zero, List.getElem?_cons_succ]
  refine attrGo M1.hp M1.hd rfl (spec_kind_of ?_)
  have gk : ks[man &&& 7]? = some (ks.getD (man &&& 7) 0) := by
    rw [List.getD_eq_getElem?_getD, List.getElem?_eq_getElem (by (clear hN hman hsd hsq lb lw; omega))]; rfl
  refine subI M1.hk gk (by (clear hN hman hsd hsq lb lk lw; omega)) (augI (bOr ?_))
  refine setSGo M1.hk (by rw [zi_len]; (clear hN hman hsd hsq lb; omega)) (by rw [zi_len]; (clear gk hN hkd hman hsd hsq lb lw; omega)) ?_
  rw [zi_set]
  have M2 := M1.setK (ks.set (man &&& 7) (ks.getD (man &&& 7) 0 ||| 1 <<< sq))
  refine K7 ?_
  simp only [We2, We11, We14, Wes1, Wes2, varW, List.getElem?_cons_zero, List.getElem?_cons_succ]
  refine attrGo M2.hp M2.hd rfl (spec_side_of ?_)
  have gw : ws[man >>> 3]? = some (ws.getD (man >>> 3) 0) := by
    rw [List.getD_eq_getElem?_getD, List.getElem?_eq_getElem (by (clear hN hkd hsd hsq lb lk; omega))]; rfl
  refine subI M2.hw gw (by (clear hN hkd hman hsq lb lk lw; omega)) (augI (bOr ?_))
  refine setSGo M2.hw (by rw [zi_len]; (clear hN hkd hsd hsq lb lk; omega)) (by rw [zi_len]; (clear gw hN hkd hman hsd hsq lb lk; omega)) ?_
  rw [zi_set]
  have M3 := M2.setW (ws.set (man >>> 3) (ws.getD (man >>> 3) 0 ||| 1 <<< sq))
  refine K6 ?_
  simp only [We2, We11, We12, varW, List.getElem?_cons_zero, List.getElem?_cons_succ]
  obtain ⟨dz, v2, v3, v4, rows, ts, z1, z2, z3, z4⟩ := Z.ext M3.ext
  obtain ⟨t, ns, t1, t2, t3⟩ := z4 man hman
  refine attrGo M3.hp M3.hd rfl (attrGo M3.hp M3.hd rfl (attrGo z1 z2 rfl ?_))
  refine subGo z3 (v := .ref t) (by simp [t1]) (by (clear hN hkd hsd hsq lb lk lw t3; omega)) ?_
  have gn : (zs ns)[sq]? = some (.int (ns.getD sq 0)) := by
    have : sq < ns.length := by (clear hkd hman hsd lb lk lw; omega)
    simp [zs, this]
  refine subGo t2 gn (by (clear hkd hman hsd lb lk lw t3; omega)) (augI ?_)
  simp only [Bi11]
  refine setAGo M3.hp M3.hd (by simp [pfs]) ?_
  rw [Wss1]
  have e : ∀ key', putF (pfs g z bl kl sl hs side key) 11 (.int key') = pfs g z bl kl sl hs side key' := fun key' => by simp [pfs, putF]
  rw [e]
  exact h _ _ (fun b o h1 h2 h3 h4 e => by rw [putN h1, putN h4, putN h3, putN h2]; exact e) (M3.setD side _)
end
end Pf
end

section
set_option autoImplicit false
set_option maxRecDepth 100000
set_option linter.unusedSimpArgs false
set_option linter.unusedVariables false
namespace Pf
open PySem (Operator CmpOp UnaryOp)

/-- what holds of a board and its two kinds of bit boards -/
structure BI (f r n : Nat) (bd ks ws : List Nat) : Prop where
  lb : bd.length = f * r
  lk : ks.length = 7
  lw : ws.length = 2
  sd : ∀ side s, side ≤ 1 → ((ws.getD side 0).testBit s = true ↔ bd.getD s 0 = 1 + 8 * side ∨ bd.getD s 0 = 2 + 8 * side)
  pk : ∀ s, (ks.getD 1 0).testBit s = true ↔ bd.getD s 0 = 1 ∨ bd.getD s 0 = 9
  vals : ∀ s, bd.getD s 0 = 0 ∨ bd.getD s 0 = 1 ∨ bd.getD s 0 = 2 ∨ bd.getD s 0 = 9 ∨ bd.getD s 0 = 10
  mid : ∀ s, bd.getD s 0 = 1 ∨ bd.getD s 0 = 9 → f ≤ s ∧ s + f < f * r
  cnt : (bd.filter (· != 0)).length ≤ n

theorem getD_rep {n s x : Nat} : (List.replicate n x).getD s 0 = if s < n then x else 0 := by
  rw [List.getD_eq_getElem?_getD, List.getElem?_replicate]
  split <;> rfl
theorem BI.init (f r : Nat) : BI f r 0 (List.replicate (f * r) 0) (List.replicate 7 0) [0, 0] := by
  have z : ∀ s, (List.replicate (f * r) 0).getD s 0 = 0 := fun s => by rw [getD_rep]; split <;> rfl
  refine ⟨by simp, by simp, rfl, fun side s hs => ?_, fun s => ?_, fun s => .inl (z s), fun s h => ?_, ?_⟩
  · rw [z]
    rcases side2 hs with rfl | rfl <;> simp
  · rw [z, getD_rep]; simp
  · rw [z] at h; omega
  · rw [List.filter_eq_nil_iff.mpr]
    · simp
    · intro a ha
      have := List.eq_of_mem_replicate ha
      simp [this]
theorem getD_set {l : List Nat} {i j x : Nat} (hi : i < l.length) : (l.set i x).getD j 0 = if j = i then x else l.getD j 0 := by
  rw [List.getD_eq_getElem?_getD, List.getD_eq_getElem?_getD]
  by_cases q : j = i
  · subst q; rw [List.getElem?_set_self hi, if_pos rfl]; rfl
  · rw [List.getElem?_set_ne (Ne.symm q), if_neg q]
theorem cnt_set : ∀ (l : List Nat) (i x : Nat), ((l.set i x).filter (· != 0)).length ≤ (l.filter (· != 0)).length + 1
  | [], _, _ => by simp
  | y :: r, 0, x => by
    rw [List.set_cons_zero, List.filter_cons, List.filter_cons]
    split <;> split <;> first | omega | (simp only [List.length_cons]; omega)
  | y :: r, i + 1, x => by
    have := cnt_set r i x
    rw [List.set_cons_succ, List.filter_cons, List.filter_cons]
    split
    · simp only [List.length_cons]; omega
    · exact this
theorem or_bit (x sq s : Nat) : (x ||| 1 <<< sq).testBit s = (x.testBit s || decide (s = sq)) := by
  rw [Nat.testBit_or, Nat.one_shiftLeft, Nat.testBit_two_pow]
  congr 1
  rw [Bool.eq_iff_iff]; simp [eq_comm]
theorem BI.put {f r n man sq : Nat} {bd ks ws : List Nat} (B : BI f r n bd ks ws) (hsq : sq < f * r) (h0 : bd.getD sq 0 = 0) (hm : man = 1 ∨ man = 9 ∨ man = 2 ∨ man = 10) (hp : man = 1 ∨ man = 9 → f ≤ sq ∧ sq + f < f * r) :
    BI f r (n + 1) (bd.set sq man) (ks.set (man &&& 7) (ks.getD (man &&& 7) 0 ||| 1 <<< sq)) (ws.set (man >>> 3) (ws.getD (man >>> 3) 0 ||| 1 <<< sq)) := by
  have lb := B.lb
  have lk := B.lk
  have lw := B.lw
  have gb : ∀ s, (bd.set sq man).getD s 0 = if s = sq then man else bd.getD s 0 := fun s => getD_set (by (clear h0 lk lw; omega))
  have facts : (man >>> 3 < 2 ∧ man &&& 7 < 7) ∧ ((man &&& 7 = 1 ∧ man = 1 + 8 * (man >>> 3)) ∨ (man &&& 7 = 2 ∧ man = 2 + 8 * (man >>> 3))) := by
    rcases hm with rfl | rfl | rfl | rfl <;> decide
  obtain ⟨⟨f1, f2⟩, f3⟩ := facts
  refine ⟨by simp [lb], by simp [lk], by simp [lw], fun side s hs => ?_, fun s => ?_, fun s => ?_, fun s h => ?_, ?_⟩
  · rw [gb, getD_set (by (clear f2 h0 hs hsq lb lk; omega))]
    by_cases q : side = man >>> 3
    · subst q
      rw [if_pos rfl, or_bit, Bool.or_eq_true, B.sd _ s hs, decide_eq_true_eq]
      by_cases z : s = sq
      · subst z; rw [if_pos rfl]; simp only [or_true, true_iff]; (clear h0 hp hs hsq lb lk lw; omega)
      · rw [if_neg z]; simp [z]
    · rw [if_neg q, B.sd _ s hs]
      by_cases z : s = sq
      · subst z; rw [if_pos rfl, h0]; constructor <;> intro h <;> (clear f2 h0 hsq lb lk lw; omega)
      · rw [if_neg z]
  · rw [gb, getD_set (by (clear f1 h0 hsq lb lw; omega))]
    by_cases q : 1 = man &&& 7
    · rw [if_pos q, ← q, or_bit, Bool.or_eq_true, B.pk s, decide_eq_true_eq]
      by_cases z : s = sq
      · subst z; rw [if_pos rfl]; simp only [or_true, true_iff]; (clear h0 hp hsq lb lk lw; omega)
      · rw [if_neg z]; simp [z]
    · rw [if_neg q, B.pk s]
      by_cases z : s = sq
      · subst z; rw [if_pos rfl, h0]; constructor <;> intro h <;> (clear f1 f2 h0 hsq lb lk lw; omega)
      · rw [if_neg z]
  · rw [gb]
    split
    · (clear h0 hsq lb lk lw; omega)
    · exact B.vals s
  · rw [gb] at h
    split at h
    · rename_i z; subst z; exact hp h
    · exact B.mid s h
  · have := cnt_set bd sq man
    have := B.cnt
    (clear f1 f2 h0 hsq lb lk lw; omega)

section
variable {σz : AHeap}
theorem spec_posinit {k f r g z d x : Nat} {dbl : Bool} {Q : AVal → AHeap → Prop} (hb : (f, r, dbl) ∈ bds) (G : GeoAt σz g f r dbl) (hd0 : σz d = none) (hx0 : σz x = none) (hdx : d ≠ x)
    (h : ∀ τ bl kl sl hs, PM σz τ x d bl kl sl g z hs 0 0 (List.replicate (f * r) 0) (List.replicate 7 0) [0, 0] → Q .none τ) : callW P (k + 1) 4 [.ref x, .ref g, .ref z] Q (put (put σz d (.dict [])) x (.inst 59 d)) := by
  obtain ⟨n1, n2, n3, n4, n5⟩ := bd_num hb
  have n12 : 9 ≤ f * r := by
    have : 3 * 3 ≤ f * r := Nat.mul_le_mul n1 n3
    omega
  refine callW_go rfl rfl ?_
  simp only [B_PositionInit, We1, We2, We3, We4, We11, We22, Wes1, Wes2, Ws3, Wss1, Wss2, varW, unaW, retOf, List.getElem?_cons_zero, List.getElem?_cons_succ, List.map_cons, List.map_nil, List.replicate_zero, List.append_nil, List.length_cons, List.length_nil]
  refine setNew ((Ext.refl.put hd0).put hx0) hd0 putS (by rw [putN hdx]; exact putS) (by decide) fun τ1 e1 _ x1 d1 => ?_
  refine setNew e1 hd0 x1 d1 (by simp [putF]) fun τ2 e2 _ x2 d2 => ?_
  refine ⟨by decide, fun c0 hc0 => ?_⟩
  have nn : ∀ {τ : AHeap} {c : Nat}, Ext σz τ → τ c = none → σz c = none := fun {τ c} e hc => by
    cases q : σz c with
    | none => rfl
    | some o => have := e _ _ q; rw [hc] at this; cases this
  have e2' : Ext σz (put τ2 c0 (.list [.int 0])) := e2.put (nn e2 hc0)
  obtain ⟨dg, fs, rm, fm, g1, g2, g3, g4, g5, g6⟩ := G.ext e2'
  refine attrGo g1 g2 g5 ?_

  simp only [Bi13, putS]
  refine ⟨⟨by (clear n12 n5; omega), by (clear n12; omega)⟩, fun bl hbl => ?_⟩
  have x2' := put_get (o' := AObj.list [.int 0]) x2 hc0
  have d2' := put_get (o' := AObj.list [.int 0]) d2 hc0
  have hbl2 : τ2 bl = none := by
    by_cases q : bl = c0
    · rw [q]; exact hc0
    · rw [putN q] at hbl; exact hbl
  have rep : ∀ n : Nat, List.replicate n (AVal.int 0) = zs (natI (List.replicate n 0)) := fun n => by simp [zs, natI]
  have zb := nn e2 hbl2
  refine setNew (e2'.put zb) hd0 (put_get x2' hbl) (put_get d2' hbl) (by simp [putF]) fun τ3 e3 k3 x3 d3 => ?_
  have b3 : τ3 bl = some (.list (zs (natI (List.replicate (f * r) 0)))) := k3 bl _ (fun q => by rw [q] at hbl; rw [d2'] at hbl; cases hbl) (by rw [putS, Int.toNat_natCast, rep])
  -- kinds
  refine ⟨by decide, fun c1 hc1 => ?_⟩
  refine ⟨⟨by decide, by decide⟩, fun kl hkl => ?_⟩
  have hkl3 : τ3 kl = none := by
    by_cases q : kl = c1
    · rw [q]; exact hc1
    · rw [putN q] at hkl; exact hkl
  have e3' : Ext σz (put τ3 c1 (.list [.int 0])) := e3.put (nn e3 hc1)
  have x3' := put_get (o' := AObj.list [.int 0]) x3 hc1
  have d3' := put_get (o' := AObj.list [.int 0]) d3 hc1
  have b3' := put_get (o' := AObj.list [.int 0]) b3 hc1
  refine setNew (e3'.put (nn e3 hkl3)) hd0 (put_get x3' hkl) (put_get d3' hkl) (by simp [putF]) fun τ4 e4 k4 x4 d4 => ?_
  have kd4 : τ4 kl = some (.list (zs (natI (List.replicate 7 0)))) := k4 kl _ (fun q => by rw [q] at hkl; rw [d3'] at hkl; cases hkl) (by rw [putS]; exact congrArg (fun l => some (AObj.list l)) (rep 7))
  have b4 : τ4 bl = some (.list (zs (natI (List.replicate (f * r) 0)))) := k4 bl _ (fun q => by rw [q] at b3; rw [d3] at b3; cases b3) (put_get b3' hkl)
  -- sides
  refine ⟨by decide, fun sl hsl => ?_⟩
  refine setNew (e4.put (nn e4 hsl)) hd0 (put_get x4 hsl) (put_get d4 hsl) (by simp [putF]) fun τ5 e5 k5 x5 d5 => ?_
  have w5 : τ5 sl = some (.list (zs (natI [0, 0]))) := k5 sl _ (fun q => by rw [q] at hsl; rw [d4] at hsl; cases hsl) putS
  have b5 : τ5 bl = some (.list (zs (natI (List.replicate (f * r) 0)))) := k5 bl _ (fun q => by rw [q] at b4; rw [d4] at b4; cases b4) (put_get b4 hsl)
  have kd5 : τ5 kl = some (.list (zs (natI (List.replicate 7 0)))) := k5 kl _ (fun q => by rw [q] at kd4; rw [d4] at kd4; cases kd4) (put_get kd4 hsl)
  refine setNew e5 hd0 x5 d5 (by simp [putF]) fun τ6 e6 k6 x6 d6 => ?_
  refine setNew e6 hd0 x6 d6 (by simp [putF]) fun τ7 e7 k7 x7 d7 => ?_
  refine setNew e7 hd0 x7 d7 (by simp [putF]) fun τ8 e8 k8 x8 d8 => ?_
  refine setNew e8 hd0 x8 d8 (by simp [putF]) fun τ9 e9 k9 x9 d9 => ?_
  refine setNew e9 hd0 x9 d9 (by simp [putF]) fun τ10 e10 k10 x10 d10 => ?_
  refine setNew e10 hd0 x10 d10 (by simp [putF]) fun τ11 e11 k11 x11 d11 => ?_
  refine ⟨by decide, fun hs hhs => ?_⟩
  refine setNew (e11.put (nn e11 hhs)) hd0 (put_get x11 hhs) (put_get d11 hhs) (by simp [putF]) fun τ12 e12 k12 x12 d12 => ?_
  have keep : ∀ b o, b ≠ d → τ5 b = some o → τ12 b = some o := fun b o hb e => k12 b o hb (put_get (k11 b o hb (k10 b o hb (k9 b o hb (k8 b o hb (k7 b o hb (k6 b o hb e)))))) hhs)
  have bd : bl ≠ d := fun q => by rw [q, d5] at b5; cases b5
  have kd : kl ≠ d := fun q => by rw [q, d5] at kd5; cases kd5
  have wd : sl ≠ d := fun q => by rw [q, d5] at w5; cases w5
  have len : ∀ {a b : Nat} {l m : List Nat}, τ5 a = some (.list (zs (natI l))) → τ5 b = some (.list (zs (natI m))) → l.length ≠ m.length → a ≠ b := by
    intro a b l m h1 h2 h3 q
    rw [q, h2] at h1
    simp only [Option.some.injEq, AObj.list.injEq] at h1
    have := congrArg List.length h1
    rw [zi_len, zi_len] at this
    (clear q; omega)
  refine h τ12 bl kl sl hs ⟨e12, x12, by rw [d12]; rfl, keep _ _ bd b5, keep _ _ kd kd5, keep _ _ wd w5, hd0, zb, nn e3 hkl3, nn e4 hsl, len b5 kd5 (by simp; (clear n5; omega)), len b5 w5 (by simp; (clear n5; omega)), len kd5 w5 (by simp)⟩
end
end Pf
end

section
set_option autoImplicit false
set_option maxRecDepth 100000
set_option linter.unusedSimpArgs false
set_option linter.unusedVariables false
namespace Pf
open PySem (Operator CmpOp UnaryOp)

theorem PM.alloc {σz τ : AHeap} {p dp bl kl sl g z hs c : Nat} {o : AObj} {side key : Int} {bd ks ws : List Nat} (M : PM σz τ p dp bl kl sl g z hs side key bd ks ws) (hc : τ c = none) : PM σz (put τ c o) p dp bl kl sl g z hs side key bd ks ws :=
  ⟨M.ext.put (by
    cases q : σz c with
    | none => rfl
    | some o => have := M.ext _ _ q; rw [hc] at this; cases this), put_get M.hp hc, put_get M.hd hc, put_get M.hb hc, put_get M.hk hc, put_get M.hw hc, M.zd, M.zb, M.zk, M.zw, M.bk, M.bw, M.kw⟩

/-- the position as the moves see it -/
noncomputable def PosF (σ : AHeap) (p g side : Nat) (bd ks ws : List Nat) : Prop := ∃ dp z bl kl sl hs key, σ p = some (.inst 59 dp) ∧ σ dp = some (.dict (pfs g z bl kl sl hs (side : Int) key)) ∧ σ bl = some (.list (zs (natI bd))) ∧ σ kl = some (.list (zs (natI ks))) ∧ σ sl = some (.list (zs (natI ws)))
theorem PosF.ext {σ σ' : AHeap} {p g side : Nat} {bd ks ws : List Nat} (F : PosF σ p g side bd ks ws) (E : Ext σ σ') : PosF σ' p g side bd ks ws := by
  obtain ⟨dp, z, bl, kl, sl, hs, key, h1, h2, h3, h4, h5⟩ := F
  exact ⟨dp, z, bl, kl, sl, hs, key, E _ _ h1, E _ _ h2, E _ _ h3, E _ _ h4, E _ _ h5⟩

theorem emod_nat {a : Int} {n : Nat} (hn : 0 < n) : ∃ j : Nat, j < n ∧ a % (n : Int) = (j : Int) := by
  have h1 := Int.emod_nonneg a (b := (n : Int)) (by omega)
  have h2 := Int.emod_lt_of_pos a (b := (n : Int)) (by omega)
  exact ⟨(a % (n : Int)).toNat, by (clear h1; omega), by (clear hn; omega)⟩
noncomputable def menL : List Nat := [1, 9, 1, 9, 2, 10]
theorem men_get {j : Nat} (h : j < 6) : ∃ m, menL[j]? = some m ∧ (m = 1 ∨ m = 9 ∨ m = 2 ∨ m = 10) ∧ (m % 8 = 2 ↔ m = 2 ∨ m = 10) ∧ m < 15 ∧ m &&& 7 < 7 ∧ m >>> 3 < 2 := by
  match j, h with
  | 0, _ => exact ⟨1, rfl, by decide, by decide, by decide, by decide, by decide⟩
  | 1, _ => exact ⟨9, rfl, by decide, by decide, by decide, by decide, by decide⟩
  | 2, _ => exact ⟨1, rfl, by decide, by decide, by decide, by decide, by decide⟩
  | 3, _ => exact ⟨9, rfl, by decide, by decide, by decide, by decide, by decide⟩
  | 4, _ => exact ⟨2, rfl, by decide, by decide, by decide, by decide, by decide⟩
  | 5, _ => exact ⟨10, rfl, by decide, by decide, by decide, by decide, by decide⟩

noncomputable def cellBody : List St := [(.asg 7 (.sub (.list [(.lit (.int 1)), (.lit (.int 9)), (.lit (.int 1)), (.lit (.int 9)), (.lit (.int 2)), (.lit (.int 10))]) (.bin .Mod (.var 6) (.lit (.int 6))))), (.asg 8 (.bin .Mod (.bin .FloorDiv (.var 6) (.lit (.int 6))) (.bin .Mult (.var 2) (.var 3)))), (.iff (.and [(.cmp .Eq (.sub (.attr (.var 5) 2) (.var 8)) (.lit (.int 0))), (.or [(.cmp .Eq (.bin .Mod (.var 7) (.lit (.int 8))) (.lit (.int 2))), (.cmp2 .Lt .Lt (.lit (.int 0)) (.bin .FloorDiv (.var 8) (.var 2)) (.bin .Sub (.var 3) (.lit (.int 1))))])]) [(.ex (.call 5 [(.var 5), (.var 7), (.var 8)]))] [])]

theorem cInt {o : CmpOp} {a b : Int} {c : Bool} {Q : Bool → Prop} {σ : AHeap} (h : icmp o a b = some c) (hq : Q c) : cmpW o (.int a) (.int b) Q σ := by
  simp only [cmpW, h]; exact hq
theorem dec0 {x : Nat} : decide ((x : Int) = 0) = decide (x = 0) := deq (b := 0)

theorem spec_cell {k f r g n : Nat} {dbl : Bool} (hb : (f, r, dbl) ∈ bds) {σz τ : AHeap} {p dp bl kl sl z hs : Nat} {side key cell : Int} {bd ks ws : List Nat} (M : PM σz τ p dp bl kl sl g z hs side key bd ks ws) (Z : ZobAt σz z (f * r)) (B : BI f r n bd ks ws) {Q : AFlow → Loc → AHeap → Prop} {v0 v1 v4 : AVal} {x7 x8 : Option AVal}
    (h : ∀ τ' key' bd' ks' ws' x7' x8', (∀ b o, b ≠ dp → b ≠ bl → b ≠ kl → b ≠ sl → τ b = some o → τ' b = some o) → PM σz τ' p dp bl kl sl g z hs side key' bd' ks' ws' → BI f r (n + 1) bd' ks' ws' →
      Q .next [some v0, some v1, some (.int (f : Int)), some (.int (r : Int)), some v4, some (.ref p), some (.int cell), x7', x8', none, none, none] τ') :
    wpSs (callW P (k + 3)) cellBody [some v0, some v1, some (.int (f : Int)), some (.int (r : Int)), some v4, some (.ref p), some (.int cell), x7, x8, none, none, none] Q τ := by
  obtain ⟨n1, n2, n3, n4, n5⟩ := bd_num hb
  have n9 : 9 ≤ f * r := by
    have : 3 * 3 ≤ f * r := Nat.mul_le_mul n1 n3
    omega
  unfold cellBody
  refine K1 ?_
  simp only [We1, We2, We3, We12, We22, Wes1, Wes2, varW, List.getElem?_cons_zero, List.getElem?_cons_succ, List.set_cons_zero, List.set_cons_succ, List.length_cons, List.length_nil]
  refine ⟨by decide, fun c hc => ?_⟩
  obtain ⟨j, hj, ej⟩ := emod_nat (a := cell) (n := 6) (by decide)
  have ej' : cell % 6 = (j : Int) := ej
  obtain ⟨man, m1, m2, m3, m4, m5, m6⟩ := men_get hj
  simp only [Bi5, ej']
  refine ⟨by decide, ?_⟩
  refine subI (l := menL) putS m1 (by (clear ej m4 m5 m6 n3 n4; omega)) ?_
  have M1 := M.alloc (o := .list (zs (natI menL))) hc
  have k1 : ∀ b o, τ b = some o → put τ c (.list (zs (natI menL))) b = some o := fun b o e => put_get e hc
  change wpSs _ _ _ _ (put τ c (.list (zs (natI menL))))
  generalize put τ c (.list (zs (natI menL))) = τ1 at M1 k1
  refine K1 ?_
  obtain ⟨sq, hsq, esq⟩ := emod_nat (a := cell / 6) (n := f * r) (by (clear k1 m4 m5 m6 n5; omega))
  have esq' : (cell / 6) % ((f : Int) * (r : Int)) = (sq : Int) := by rw [← Int.natCast_mul]; exact esq
  have fr0 : (0 : Int) < (f : Int) * (r : Int) := by rw [← Int.natCast_mul]; (clear esq esq' hsq m4 m5 m6 n5; omega)
  simp only [We1, We2, We3, varW, List.getElem?_cons_zero, List.getElem?_cons_succ, List.set_cons_zero, List.set_cons_succ, Bi3, Bi4, Bi5, esq']
  refine ⟨by decide, ⟨by (clear esq esq' fr0 hsq m4 m5 m6 n2; omega), by (clear esq esq' hsq m4 m5 m6 n1; omega)⟩, fr0, ?_⟩
  refine K10 ?_
  simp only [Wt2, Wt3, Wt4, Wt5, Wts1, Wts2, We1, We2, We3, We11, We12, varW, List.getElem?_cons_zero, List.getElem?_cons_succ]
  refine attrGo M1.hp M1.hd rfl ?_
  have gsq : bd[sq]? = some (bd.getD sq 0) := by
    rw [List.getD_eq_getElem?_getD, List.getElem?_eq_getElem (by rw [B.lb]; exact hsq)]; rfl
  refine subI M1.hb gsq (by (clear esq esq' m4 m5 m6; omega)) (cInt rfl ?_)
  rw [dec0]
  have skip : Q .next [some v0, some v1, some (.int (f : Int)), some (.int (r : Int)), some v4, some (.ref p), some (.int cell), some (.int (man : Int)), some (.int (sq : Int)), none, none, none] τ1 :=
    h τ1 key bd ks ws _ _ (fun b o _ _ _ _ e => k1 b o e) M1 ⟨B.lb, B.lk, B.lw, B.sd, B.pk, B.vals, B.mid, Nat.le_succ_of_le B.cnt⟩
  by_cases hz : bd.getD sq 0 = 0
  · simp only [hz, decide_true, if_true]
    refine bMod (b := 8) (by decide) (cInt rfl ?_)
    rw [show decide (((man % 8 : Nat) : Int) = 2) = decide (man % 8 = 2) from deq (b := 2)]
    have place : (man = 1 ∨ man = 9 → f ≤ sq ∧ sq + f < f * r) → wpSs (callW P (k + 3)) [(.ex (.call 5 [(.var 5), (.var 7), (.var 8)]))] [some v0, some v1, some (.int (f : Int)), some (.int (r : Int)), some v4, some (.ref p), some (.int cell), some (.int (man : Int)), some (.int (sq : Int)), none, none, none] (fun f m1 σ1 => match f with
        | .next => wpSs (callW P (k + 3)) [] m1 Q σ1
        | f => Q f m1 σ1) τ1 := by
      intro hpl
      refine K8 ?_
      simp only [We2, We14, Wes1, Wes2, varW, List.getElem?_cons_zero, List.getElem?_cons_succ]
      refine spec_put_piece M1 Z (by omega) hsq m4 m5 m6 B.lb B.lk B.lw fun τ' key' kk M' => ?_
      refine ⟨rfl, ?_⟩
      simp only [Wss1]
      exact h τ' key' _ _ _ _ _ (fun b o h1 h2 h3 h4 e => kk b o h1 h2 h3 h4 (k1 b o e)) M' (B.put hsq hz m2 hpl)
    by_cases hk : man % 8 = 2
    · simp only [hk, decide_true, Bool.false_eq_true, if_false, Bool.not_false, if_true]
      exact place fun q => by have := m3.mp hk; (clear esq esq' hz m5 n5 n9 this; omega)
    · simp only [hk, decide_false, Bool.false_eq_true, if_true]
      refine bDiv (by (clear esq esq' hsq hz m4 m5 m6 n2; omega)) (by (clear esq esq' hsq hz m4 m5 m6 n1; omega)) (cInt rfl ?_)
      rw [show decide ((0 : Int) < ((sq / f : Nat) : Int)) = decide (0 < sq / f) by
        rw [Bool.eq_iff_iff]; simp only [decide_eq_true_eq]; (clear esq esq' fr0 hsq hz m4 m5 m6; omega)]
      by_cases h1 : 0 < sq / f
      · simp only [h1, decide_true]
        refine bSub (b := 1) (by (clear esq esq' h1 hsq hz m4 m5 m6 n1 n4; omega)) (cInt rfl ?_)
        rw [show decide (((sq / f : Nat) : Int) < ((r - 1 : Nat) : Int)) = decide (sq / f < r - 1) by
          rw [Bool.eq_iff_iff]; simp only [decide_eq_true_eq]; (clear esq esq' hsq hz m4 m5 m6; omega)]
        by_cases h2 : sq / f < r - 1
        · simp only [h2, decide_true, if_false, Bool.not_false, if_true]
          refine place fun _ => ⟨?_, ?_⟩
          · rcases Nat.lt_or_ge sq f with q | q
            · rw [Nat.div_eq_of_lt q] at h1; (clear esq esq' hsq hz m4 m5 m6; omega)
            · exact q
          · have a1 : sq < (r - 1) * f := by
              have := (Nat.div_lt_iff_lt_mul (by (clear h n2; omega) : 0 < f)).mp h2
              exact this
            have a2 : (r - 1) * f + f = f * r := by
              have : (r - 1 + 1) * f = r * f := by rw [Nat.sub_add_cancel (by (clear n1 n2 n4; omega))]
              rw [Nat.add_mul, Nat.one_mul] at this
              rw [this, Nat.mul_comm]
            (clear esq esq' h1 h2 hz m4 m5 m6; omega)
        · simp only [h2, decide_false, if_true, Wss1, Wss2]
          exact skip
      · simp only [h1, decide_false, Wss1, Wss2]
        exact skip
  · simp only [hz, decide_false, Bool.false_eq_true, if_false, Bool.not_true, Wss1, Wss2]
    exact skip

theorem e15 : rangeL 0 15 1 = natI (List.range 15) := rangeL_nat 15
theorem spec_law_position {k f r g l : Nat} {dbl : Bool} (hb : (f, r, dbl) ∈ bds) {σ : AHeap} {ns : List Int} (hl : ns.length ≤ 1000) (G : GeoAt σ g f r dbl) {Q : AVal → AHeap → Prop}
    (h : ∀ p σ' side bd ks ws, Ext σ σ' → side ≤ 1 → PosF σ' p g side bd ks ws → BI f r 9 bd ks ws → Q (.ref p) σ') :
    callW P (k + 4) 38 [.cst false l ns, .ref g, .int (f : Int), .int (r : Int)] Q σ := by
  obtain ⟨n1, n2, n3, n4, n5⟩ := bd_num hb
  have n9 : 9 ≤ f * r := by
    have : 3 * 3 ≤ f * r := Nat.mul_le_mul n1 n3
    omega
  refine callW_go rfl rfl ?_
  simp only [B_law_position, List.map_cons, List.map_nil, List.replicate_succ, List.replicate_zero, List.nil_append, List.cons_append]
  -- rows
  refine K1 ?_
  simp only [We1, We2, We3, We19, We24, Wes1, Wes2, varW, retOf, List.set_cons_zero, List.set_cons_succ]
  first | refine Rg1 ?_ | refine Rg3 ?_
  refine ⟨⟨by decide, by decide⟩, fun a ha => ⟨a, _, _, rfl, putS, rfl, by rw [e15]; simp [zs, natI], fun c hc => ?_⟩⟩
  rw [e15]
  refine compN_refs (tst := fun _ => true) (ob := fun n => .list (zs ((natI (List.range (f * r))).map fun y => 90 * n + y))) hc putS ?_ ?_ (by simp [natI]) fun σ1 ts hE1 hc1 hlt hts => ?_
  · intro n _ σ' K' _ hK'
    simp only [Wts1]; exact hK'
  · intro n hn _ σ' K' hEE hK'
    obtain ⟨i, hi, rfl⟩ := List.mem_map.mp hn
    have hi' := List.mem_range.mp hi
    simp only [List.getElem?_cons_zero, List.getElem?_cons_succ, List.set_cons_zero, List.set_cons_succ]
    refine bMul (by (clear hi' hl n1; omega)) (Rg1 ?_)
    refine ⟨⟨by (clear hi' hl n5 n9; omega), by (clear hi' hl n9; omega)⟩, fun a2 ha2 => ⟨a2, _, _, rfl, putS, rfl, by rw [rangeL_nat]; simp [zs, natI]; (clear hi' hl n9; omega), fun c2 hc2 => ?_⟩⟩
    rw [rangeL_nat]
    refine compN_ints (tst := fun _ => true) (g := fun y => 90 * (i : Int) + y) hc2 putS ?_ ?_ (by simp [natI]; (clear hi' hl n9; omega)) fun σ3 hE3 hc3 => ?_
    · intro n _ σ' K' _ hK'
      simp only [Wts1]; exact hK'
    · intro n _ _ σ' K' _ hK'
      simp only [List.getElem?_cons_zero, List.getElem?_cons_succ, List.set_cons_zero, List.set_cons_succ, Bi1, Bi3]
      exact ⟨⟨by decide, by decide⟩, hK' σ' Ext.refl⟩
    rw [List.filter_eq_self.mpr fun _ _ => rfl] at hc3
    have hc2' : σ' c2 = none := by
      by_cases q : c2 = a2
      · rw [q]; exact ha2
      · rw [putN q] at hc2; exact hc2
    exact hK' c2 σ3 (fun b o e => hE3 _ _ (put_get e ha2)) hc2' hc3
  rw [List.filter_eq_self.mpr fun _ _ => rfl] at hts hlt
  have hEa : Ext σ σ1 := fun b o e => hE1 _ _ (put_get e ha)
  -- the position
  refine K1 ?_
  simp only [We1, We2, We3, We15, We19, We20, We22, Wes1, Wes2, varW, List.getElem?_cons_zero, List.getElem?_cons_succ, List.set_cons_zero, List.set_cons_succ, List.length_cons, List.length_nil]
  refine ⟨by decide, fun c3 hc3 => ?_⟩
  simp only [Bi13, putS]
  refine ⟨⟨by (clear hl hlt n1 n2; omega), by (clear hl hlt n1; omega)⟩, fun c4 hc4 => ?_⟩
  first | refine Rg1 ?_ | refine Rg3 ?_
  refine ⟨⟨by decide, by decide⟩, fun c5 hc5 => ?_⟩
  simp only [mklistW, putS]
  refine ⟨by decide, fun c6 hc6 => ?_⟩
  intro dz z hdz hz hdzz
  have E1 : Ext σ1 (put (put (put (put σ1 c3 (.list [.int 3])) c4 (.list (List.replicate ((f : Int)).toNat (.int 3)))) c5 (.range 0 16 1)) c6 (.list (zs (rangeL 0 16 1)))) := fun b o e => put_get (put_get (put_get (put_get e hc3) hc4) hc5) hc6
  generalize put (put (put (put σ1 c3 (.list [.int 3])) c4 (.list (List.replicate ((f : Int)).toNat (.int 3)))) c5 (.range 0 16 1)) c6 (.list (zs (rangeL 0 16 1))) = σ2 at hdz hz E1
  refine spec_zob hdz hz hdzz fun σ3 hE3 hz3 hdz3 => ?_
  refine ⟨rfl, ?_⟩
  intro dp p hdp hp hdpp
  have hE13 : Ext σ1 σ3 := E1.trans hE3
  have G3 := G.ext (hEa.trans hE13)
  have Z3 : ZobAt σ3 z (f * r) := by
    refine ⟨dz, _, _, _, c, ts, hz3, hdz3, hE13 _ _ hc1, fun i hi => ?_⟩
    obtain ⟨t, t1, t2⟩ := hts i (i : Int) (by simp [natI, hi])
    exact ⟨t, _, t1, hE13 _ _ t2, by simp [natI]⟩
  refine spec_posinit hb G3 hdp hp hdpp fun τ bl kl sl hs M => ?_
  refine ⟨rfl, ?_⟩
  -- the cells
  refine K12 ?_
  simp only [We1, We2, We3, We14, We19, We24, Wes1, Wes2, varW, List.getElem?_cons_zero]
  refine spec_told (p := 4) hl (by decide) ?_
  obtain ⟨nc, hnc, enc⟩ := emod_nat (a := told ns 4) (n := 10) (by decide)
  have enc' : told ns 4 % 10 = (nc : Int) := enc
  simp only [Bi5, enc']
  refine ⟨by decide, Rg1 ⟨⟨by (clear enc enc' hl hlt hnc; omega), by (clear enc hl hlt; omega)⟩, fun a3 ha3 => ⟨a3, _, _, rfl, putS, rfl, by rw [rangeL_nat]; simp [zs, natI]; (clear enc hl hlt; omega), fun c7 hc7 => ?_⟩⟩⟩
  rw [rangeL_nat]
  have M1 := M.alloc (o := .range 0 (nc : Int) 1) ha3
  refine compN_ints (tst := fun _ => true) (g := fun n => told ns (5 + n.toNat)) hc7 putS ?_ ?_ (by simp [natI]; (clear enc hl hlt; omega)) fun τ2 hE2 hc2 => ?_
  · intro n _ σ' K' _ hK'
    simp only [Wts1]; exact hK'
  · intro n hn _ σ' K' _ hK'
    obtain ⟨i, hi, rfl⟩ := List.mem_map.mp hn
    have hi' := List.mem_range.mp hi
    simp only [List.getElem?_cons_zero, List.getElem?_cons_succ, List.set_cons_zero, List.set_cons_succ]
    rw [Bi1, show (5 : Int) + (i : Int) = ((5 + i : Nat) : Int) by (clear hi' hl hlt; omega)]
    exact spec_told hl (by (clear enc hl hlt; omega)) (hK' σ' Ext.refl)
  rw [List.filter_eq_self.mpr fun _ _ => rfl] at hc2
  have M2 : PM σ3 τ2 p dp bl kl sl g z hs 0 0 (List.replicate (f * r) 0) (List.replicate 7 0) [0, 0] :=
    ⟨M1.ext.trans hE2, hE2 _ _ M1.hp, hE2 _ _ M1.hd, hE2 _ _ M1.hb, hE2 _ _ M1.hk, hE2 _ _ M1.hw, M1.zd, M1.zb, M1.zk, M1.zw, M1.bk, M1.bw, M1.kw⟩
  refine ⟨c7, _, _, rfl, hc2, rfl, ?_⟩
  have ne7 : c7 ≠ dp ∧ c7 ≠ bl ∧ c7 ≠ kl ∧ c7 ≠ sl := ⟨(neOf M1.hd hc7).symm, (neOf M1.hb hc7).symm, (neOf M1.hk hc7).symm, (neOf M1.hw hc7).symm⟩
  obtain ⟨e1, e2, e3, e4⟩ := ne7
  refine forN_rule (fun i m τ' => ∃ key bd ks ws x6 x7 x8, PM σ3 τ' p dp bl kl sl g z hs 0 key bd ks ws ∧ BI f r i bd ks ws ∧ τ' c7 = some (.list (zs ((natI (List.range nc)).map fun n => told ns (5 + n.toNat)))) ∧
      m = [some (.cst false l ns), some (.ref g), some (.int (f : Int)), some (.int (r : Int)), some (.ref c), some (.ref p), x6, x7, x8, none, none, none]) ?_ ?_ ?_ ⟨0, _, _, _, none, none, none, M2, BI.init f r, hc2, rfl⟩
  · rintro i v m τ' hv ⟨key, bd, ks, ws, x6, x7, x8, M', B', hc', rfl⟩ K hK
    have hv' : ∃ cell : Int, v = .int cell := by
      unfold zs at hv
      rw [List.getElem?_map] at hv
      cases q : ((natI (List.range nc)).map fun n => told ns (5 + n.toNat))[i]? with
      | none => rw [q] at hv; cases hv
      | some cell => rw [q] at hv; cases hv; exact ⟨cell, rfl⟩
    obtain ⟨cell, rfl⟩ := hv'
    simp only [bindV, List.set_cons_zero, List.set_cons_succ]
    refine spec_cell hb M' Z3 B' fun τ'' key' bd' ks' ws' x7' x8' kk M'' B'' => ?_
    exact hK _ _ ⟨key', bd', ks', ws', _, x7', x8', M'', B'', kk c7 _ e1 e2 e3 e4 hc', rfl⟩
  · rintro i m τ' ⟨_, _, _, _, _, _, _, _, _, h2, _⟩; exact h2
  · rintro m τ' ⟨key, bd, ks, ws, x6, x7, x8, M', B', hc', rfl⟩
    simp only []
    refine K3 ?_
    simp only [We1, We2, We3, We14, Wes1, Wes2, varW, List.getElem?_cons_zero, List.getElem?_cons_succ]
    refine spec_told (p := 3) hl (by decide) ?_
    obtain ⟨sd, hsd, esd⟩ := emod_nat (a := told ns 3) (n := 2) (by decide)
    have esd' : told ns 3 % 2 = (sd : Int) := esd
    simp only [Bi5, esd']
    refine ⟨by decide, setAGo M'.hp M'.hd (by simp [pfs]) ?_⟩
    rw [show putF (pfs g z bl kl sl hs 0 key) 6 (.int (sd : Int)) = pfs g z bl kl sl hs (sd : Int) key by simp [pfs, putF]]
    have Mf := M'.setD (sd : Int) key
    refine K9 ?_
    simp only [We2, varW, List.getElem?_cons_zero, List.getElem?_cons_succ]
    refine h p _ sd bd ks ws ((hEa.trans hE13).trans Mf.ext) (by (clear esd hl hlt; omega)) ⟨dp, z, bl, kl, sl, hs, key, Mf.hp, Mf.hd, Mf.hb, Mf.hk, Mf.hw⟩ ⟨B'.lb, B'.lk, B'.lw, B'.sd, B'.pk, B'.vals, B'.mid, Nat.le_trans B'.cnt ?_⟩
    rw [zs_len]; simp [natI]; (clear enc hl hlt; omega)
end Pf
end

section
set_option autoImplicit false
set_option maxRecDepth 100000
set_option linter.unusedSimpArgs false
set_option linter.unusedVariables false
namespace Pf
open PySem (Operator CmpOp UnaryOp)

noncomputable def pwn (side : Nat) (ks ws : List Nat) : Nat := ws.getD side 0 &&& ks.getD 1 0
noncomputable def emp (f r : Nat) (ws : List Nat) : Nat := andn (full f r) (ws.getD 0 0 ||| ws.getD 1 0)
noncomputable def onesB (f r side : Nat) (ks ws : List Nat) : Nat := shp f r (pwn side ks ws) side &&& emp f r ws
noncomputable def twosB (f r : Nat) (dbl : Bool) (side : Nat) (ks ws : List Nat) : Nat := if dbl then shp f r (shp f r (pwn side ks ws &&& startM f r side) side &&& emp f r ws) side &&& emp f r ws else 0

section
variable {k f r g p sd n : Nat} {dbl : Bool} {bd ks ws : List Nat} {Q : AVal → AHeap → Prop} {σ : AHeap}
theorem ws_get (B : BI f r n bd ks ws) {i : Nat} (h : i ≤ 1) : ws[i]? = some (ws.getD i 0) := by
  have := B.lw
  rw [List.getD_eq_getElem?_getD, List.getElem?_eq_getElem (by omega)]; rfl
theorem ks_get (B : BI f r n bd ks ws) {i : Nat} (h : i ≤ 6) : ks[i]? = some (ks.getD i 0) := by
  have := B.lk
  rw [List.getD_eq_getElem?_getD, List.getElem?_eq_getElem (by omega)]; rfl
theorem bd_get (B : BI f r n bd ks ws) {i : Nat} (h : i < f * r) : bd[i]? = some (bd.getD i 0) := by
  have := B.lb
  rw [List.getD_eq_getElem?_getD, List.getElem?_eq_getElem (by omega)]; rfl
theorem bd_lt (B : BI f r n bd ks ws) {i : Nat} (h : bd.getD i 0 ≠ 0) : i < f * r := by
  rcases Nat.lt_or_ge i (f * r) with q | q
  · exact q
  · exfalso; apply h
    rw [List.getD_eq_getElem?_getD, List.getElem?_eq_none (by rw [B.lb]; exact q)]; rfl

theorem spec_occupied (F : PosF σ p g sd bd ks ws) (B : BI f r n bd ks ws) (h : Q (.int ((ws.getD 0 0 ||| ws.getD 1 0 : Nat) : Int)) σ) : callW P (k + 1) 6 [.ref p] Q σ := by
  obtain ⟨dp, z, bl, kl, sl, hs, key, h1, h2, h3, h4, h5⟩ := F
  refine callW_go rfl rfl ?_
  simp only [B_occupied, We1, We2, We3, We11, We12, Ws9, Wss1, Wss2, varW, retOf, List.getElem?_cons_zero, List.map_cons, List.map_nil, List.replicate_zero, List.append_nil]
  exact attrGo h1 h2 rfl (subI (k := 0) h5 (ws_get B (by omega)) (by omega) (attrGo h1 h2 rfl (subI (k := 1) h5 (ws_get B (by omega)) (by omega) (bOr h))))
theorem spec_pieces {side : Nat} (hs : side ≤ 1) (F : PosF σ p g sd bd ks ws) (B : BI f r n bd ks ws) (h : Q (.int ((pwn side ks ws : Nat) : Int)) σ) : callW P (k + 1) 7 [.ref p, .int (side : Int), .int 1] Q σ := by
  obtain ⟨dp, z, bl, kl, sl, hs', key, h1, h2, h3, h4, h5⟩ := F
  refine callW_go rfl rfl ?_
  simp only [B_pieces, We2, We3, We11, We12, Ws9, Wss1, Wss2, varW, retOf, List.getElem?_cons_zero, List.getElem?_cons_succ, List.map_cons, List.map_nil, List.replicate_zero, List.append_nil]
  exact attrGo h1 h2 rfl (subI h5 (ws_get B hs) (by omega) (attrGo h1 h2 rfl (subI (k := 1) h4 (ks_get B (by omega)) (by omega) (bAnd h))))

theorem own_bit (B : BI f r n bd ks ws) {side : Nat} (hs : side ≤ 1) (s : Nat) : (pwn side ks ws).testBit s = true ↔ bd.getD s 0 = 1 + 8 * side := by
  unfold pwn
  rw [Nat.testBit_and, Bool.and_eq_true, B.sd side s hs, B.pk s]
  omega
theorem emp_bit (B : BI f r n bd ks ws) (s : Nat) : (emp f r ws).testBit s = true ↔ s < f * r ∧ bd.getD s 0 = 0 := by
  have h0 := B.sd 0 s (by omega)
  have h1 := B.sd 1 s (by omega)
  have hv := B.vals s
  unfold emp
  rw [andn_bit, Nat.testBit_or]
  unfold full
  rw [full_bit, Bool.and_eq_true, Bool.not_eq_true', Bool.or_eq_false_iff, decide_eq_true_eq]
  constructor
  · rintro ⟨q1, q2, q3⟩
    refine ⟨q1, ?_⟩
    have : ¬ (bd.getD s 0 = 1 + 8 * 0 ∨ bd.getD s 0 = 2 + 8 * 0) := fun z => by rw [h0.mpr z] at q2; cases q2
    have : ¬ (bd.getD s 0 = 1 + 8 * 1 ∨ bd.getD s 0 = 2 + 8 * 1) := fun z => by rw [h1.mpr z] at q3; cases q3
    (clear q1; omega)
  · rintro ⟨q1, q2⟩
    refine ⟨q1, ?_, ?_⟩
    · cases z : (ws.getD 0 0).testBit s with
      | false => rfl
      | true => have := h0.mp z; (clear hv q1; omega)
    · cases z : (ws.getD 1 0).testBit s with
      | false => rfl
      | true => have := h1.mp z; (clear hv q1; omega)
theorem pwn_lt (B : BI f r n bd ks ws) {side : Nat} (hs : side ≤ 1) : pwn side ks ws < 2 ^ (f * r) := lt_of_bits fun j hj => bd_lt B (by rw [(own_bit B hs j).mp hj]; omega)
theorem emp_lt (B : BI f r n bd ks ws) : emp f r ws < 2 ^ (f * r) := lt_of_bits fun j hj => ((emp_bit B j).mp hj).1
theorem and_lt {a b N : Nat} (h : a < 2 ^ N) : a &&& b < 2 ^ N := Nat.lt_of_le_of_lt Nat.and_le_left h

theorem spec_push_targets (hb : (f, r, dbl) ∈ bds) (G : GeoAt σ g f r dbl) (F : PosF σ p g sd bd ks ws) (B : BI f r n bd ks ws) {side : Nat} (hs : side ≤ 1)
    (h : ∀ c, σ c = none → Q (.ref c) (put σ c (.tup [.int ((onesB f r side ks ws : Nat) : Int), .int ((twosB f r dbl side ks ws : Nat) : Int)]))) : callW P (k + 2) 13 [.ref p, .int (side : Int)] Q σ := by
  obtain ⟨n1, n2, n3, n4, n5⟩ := bd_num hb
  have F0 := F
  have G0 := G
  obtain ⟨dp, z, bl, kl, sl, hs', key, h1, h2, h3, h4, h5⟩ := F
  obtain ⟨d, fs, rm, fm, g1, g2, g3, g4, g5, g6, g7, g8, g9, g10, g11⟩ := G
  have pl := pwn_lt B hs
  refine callW_go rfl rfl ?_
  simp only [B_push_targets, List.map_cons, List.map_nil, List.replicate_succ, List.replicate_zero, List.nil_append, List.cons_append]
  refine K1 ?_
  simp only [We2, We11, varW, retOf, List.getElem?_cons_zero, List.set_cons_zero, List.set_cons_succ]
  refine attrGo h1 h2 rfl ?_
  refine K1 ?_
  simp only [We2, We3, We4, We11, We14, Wes1, Wes2, varW, List.getElem?_cons_zero, List.getElem?_cons_succ, List.set_cons_zero, List.set_cons_succ]
  refine attrGo g1 g2 g6 (spec_occupied F0 B ?_)
  simp only [unaW]
  refine bAndN ?_
  refine K1 ?_
  simp only [We1, We2, We14, Wes1, Wes2, varW, List.getElem?_cons_zero, List.getElem?_cons_succ, List.set_cons_zero, List.set_cons_succ]
  refine spec_pieces hs F0 B ?_
  refine K1 ?_
  simp only [We2, We3, We14, Wes1, Wes2, varW, List.getElem?_cons_zero, List.getElem?_cons_succ, List.set_cons_zero, List.set_cons_succ]
  refine spec_shift_push hb G0 (le60 pl (by (clear hs pl; omega))) (bAnd ?_)
  refine K1 ?_
  simp only [We1, List.set_cons_zero, List.set_cons_succ]
  refine K10 ?_
  simp only [Wt11, We2, varW, List.getElem?_cons_zero, List.getElem?_cons_succ]
  refine attrGo g1 g2 g7 ?_
  unfold twosB at h
  cases dbl with
  | true =>
    simp only [truthW]
    refine K1 ?_
    simp only [We2, We3, We14, Wes1, Wes2, varW, List.getElem?_cons_zero, List.getElem?_cons_succ, List.set_cons_zero, List.set_cons_succ]
    refine spec_start_mask hb G0 (bAnd (spec_shift_push hb G0 (le60 (and_lt pl) (by (clear g11 hs pl; omega))) (bAnd ?_)))
    refine K1 ?_
    simp only [We2, We3, We14, Wes1, Wes2, varW, List.getElem?_cons_zero, List.getElem?_cons_succ, List.set_cons_zero, List.set_cons_succ]
    refine spec_shift_push hb G0 (le60 (Nat.lt_of_le_of_lt Nat.and_le_left (shp_lt (and_lt pl))) (by (clear g11 hs pl; omega))) (bAnd ?_)
    simp only [Wss1, Wss2, Ws9, We2, We23, Wes1, Wes2, varW, List.getElem?_cons_zero, List.getElem?_cons_succ, List.length_cons, List.length_nil]
    exact ⟨by decide, fun c hc => h c hc⟩
  | false =>
    simp only [truthW]
    simp only [Wss1, Wss2, Ws9, We2, We23, Wes1, Wes2, varW, List.getElem?_cons_zero, List.getElem?_cons_succ, List.length_cons, List.length_nil]
    exact ⟨by decide, fun c hc => h c hc⟩
end

/-! where a pawn goes -/
noncomputable def tgt1 (f side sq : Nat) : Nat := if side = 0 then sq + f else sq - f
noncomputable def tgt2 (f side sq : Nat) : Nat := if side = 0 then sq + 2 * f else sq - 2 * f
noncomputable def firstR (r side : Nat) : Nat := if side = 0 then 1 else r - 2
noncomputable def ok2 (f r sq side : Nat) : Bool := okP f r sq side && okP f r (tgt1 f side sq) side
noncomputable def chk2 (p : Nat × Nat × Bool) : Bool := (List.range (p.1 * p.2.1)).all fun sq => (List.range 2).all fun side => if ok2 p.1 p.2.1 sq side then bes p.1 p.2.1 sq 0 (2 * up side) == ((tgt2 p.1 side sq : Nat) : Int) && decide (tgt2 p.1 side sq < p.1 * p.2.1) else bes p.1 p.2.1 sq 0 (2 * up side) == -1
theorem chk2All : bds.all chk2 = true := by decide +kernel
theorem bes2 {f r : Nat} {dbl : Bool} (hb : (f, r, dbl) ∈ bds) {sq side : Nat} (hs : side ≤ 1) (hq : sq < f * r) :
    (ok2 f r sq side = true ∧ bes f r sq 0 (2 * up side) = ((tgt2 f side sq : Nat) : Int) ∧ tgt2 f side sq < f * r) ∨ (ok2 f r sq side = false ∧ bes f r sq 0 (2 * up side) = -1) := by
  have h1 := List.all_eq_true.mp chk2All _ hb
  have h2 := List.all_eq_true.mp h1 sq (List.mem_range.mpr hq)
  have h3 := List.all_eq_true.mp h2 side (List.mem_range.mpr (by omega))
  dsimp only at h3
  split at h3
  · rename_i q
    simp only [Bool.and_eq_true, beq_iff_eq, decide_eq_true_eq] at h3
    exact .inl ⟨q, h3.1, h3.2⟩
  · rename_i q
    exact .inr ⟨by simpa using q, by simpa using h3⟩

section
variable {f r n : Nat} {dbl : Bool} {bd ks ws : List Nat}
theorem mid_ok (B : BI f r n bd ks ws) {side sq : Nat} (hs : side ≤ 1) (ho : bd.getD sq 0 = 1 + 8 * side) : okP f r sq side = true ∧ f ≤ sq ∧ sq + f < f * r := by
  have m := B.mid sq (by omega)
  refine ⟨?_, m⟩
  unfold okP
  split <;> simp <;> (clear ho hs; omega)
theorem own_lt (B : BI f r n bd ks ws) {side sq : Nat} (ho : bd.getD sq 0 = 1 + 8 * side) : sq < f * r := bd_lt B (by omega)
theorem tgt1_lt (B : BI f r n bd ks ws) {side sq : Nat} (hs : side ≤ 1) (ho : bd.getD sq 0 = 1 + 8 * side) : tgt1 f side sq < f * r := by
  obtain ⟨_, h1, h2⟩ := mid_ok B hs ho
  unfold tgt1; split <;> omega
theorem bes1 (hb : (f, r, dbl) ∈ bds) (B : BI f r n bd ks ws) {side sq : Nat} (hs : side ≤ 1) (ho : bd.getD sq 0 = 1 + 8 * side) : bes f r sq 0 (up side) = ((tgt1 f side sq : Nat) : Int) := by
  obtain ⟨h0, h1, h2⟩ := mid_ok B hs ho
  rcases besP hb hs (own_lt B ho) with q | q
  · rw [q.2.1]
    unfold tgt1 dlt up
    rcases side2 hs with rfl | rfl
    · simp
    · simp; (clear h2 ho q; omega)
  · rw [h0] at q; cases q.1
theorem dlt1 {side sq j : Nat} (hs : side ≤ 1) (h : f ≤ sq ∨ side = 0) : ((j : Int) = (sq : Int) + dlt f side) ↔ j = tgt1 f side sq := by
  unfold tgt1 dlt up
  rcases side2 hs with rfl | rfl
  · simp; omega
  · simp; omega

theorem ones_bit (hb : (f, r, dbl) ∈ bds) (B : BI f r n bd ks ws) {side : Nat} (hs : side ≤ 1) (j : Nat) :
    (onesB f r side ks ws).testBit j = true ↔ ∃ sq, bd.getD sq 0 = 1 + 8 * side ∧ bd.getD (tgt1 f side sq) 0 = 0 ∧ j = tgt1 f side sq := by
  unfold onesB
  rw [Nat.testBit_and, Bool.and_eq_true, shp_bit hb hs (pwn_lt B hs), emp_bit B]
  constructor
  · rintro ⟨⟨sq, h1, h2, h3, h4⟩, h5, h6⟩
    have ho := (own_bit B hs sq).mp h2
    have e := (dlt1 hs (.inl (mid_ok B hs ho).2.1)).mp h4
    exact ⟨sq, ho, e ▸ h6, e⟩
  · rintro ⟨sq, ho, h1, rfl⟩
    exact ⟨⟨sq, own_lt B ho, (own_bit B hs sq).mpr ho, (mid_ok B hs ho).1, (dlt1 hs (.inl (mid_ok B hs ho).2.1)).mpr rfl⟩, tgt1_lt B hs ho, h1⟩

theorem start_bit (hb : (f, r, dbl) ∈ bds) {side : Nat} {sq : Nat} (hq : sq < f * r) : (startM f r side).testBit sq = true ↔ sq / f = firstR r side := by
  obtain ⟨n1, n2, n3, n4, n5⟩ := bd_num hb
  unfold startM firstR
  rw [bdR hb (by split <;> (clear hq n1 n4; omega)) hq, decide_eq_true_eq]
theorem passed_bit (hb : (f, r, dbl) ∈ bds) (B : BI f r n bd ks ws) {side : Nat} (hs : side ≤ 1) (j : Nat) :
    (shp f r (pwn side ks ws &&& startM f r side) side &&& emp f r ws).testBit j = true ↔ ∃ sq, bd.getD sq 0 = 1 + 8 * side ∧ sq / f = firstR r side ∧ bd.getD (tgt1 f side sq) 0 = 0 ∧ j = tgt1 f side sq := by
  rw [Nat.testBit_and, Bool.and_eq_true, shp_bit hb hs (and_lt (pwn_lt B hs)), emp_bit B]
  constructor
  · rintro ⟨⟨sq, h1, h2, h3, h4⟩, h5, h6⟩
    rw [Nat.testBit_and, Bool.and_eq_true] at h2
    have ho := (own_bit B hs sq).mp h2.1
    have e := (dlt1 hs (.inl (mid_ok B hs ho).2.1)).mp h4
    exact ⟨sq, ho, (start_bit hb h1).mp h2.2, e ▸ h6, e⟩
  · rintro ⟨sq, ho, hf, h1, rfl⟩
    refine ⟨⟨sq, own_lt B ho, ?_, (mid_ok B hs ho).1, (dlt1 hs (.inl (mid_ok B hs ho).2.1)).mpr rfl⟩, tgt1_lt B hs ho, h1⟩
    rw [Nat.testBit_and, Bool.and_eq_true]
    exact ⟨(own_bit B hs sq).mpr ho, (start_bit hb (own_lt B ho)).mpr hf⟩
/-- a pawn may go two -/
noncomputable def may2 (f r : Nat) (dbl : Bool) (side : Nat) (bd : List Nat) (sq : Nat) : Bool := dbl && (decide (sq / f = firstR r side) && (ok2 f r sq side && (decide (bd.getD (tgt1 f side sq) 0 = 0) && decide (bd.getD (tgt2 f side sq) 0 = 0))))
theorem may2_iff {side sq : Nat} : may2 f r dbl side bd sq = true ↔ dbl = true ∧ sq / f = firstR r side ∧ ok2 f r sq side = true ∧ bd.getD (tgt1 f side sq) 0 = 0 ∧ bd.getD (tgt2 f side sq) 0 = 0 := by
  unfold may2; simp only [Bool.and_eq_true, decide_eq_true_eq]
theorem twos_bit (hb : (f, r, dbl) ∈ bds) (B : BI f r n bd ks ws) {side : Nat} (hs : side ≤ 1) (j : Nat) :
    (twosB f r dbl side ks ws).testBit j = true ↔ ∃ sq, bd.getD sq 0 = 1 + 8 * side ∧ may2 f r dbl side bd sq = true ∧ j = tgt2 f side sq := by
  unfold twosB
  cases dbl with
  | false =>
    simp only [Bool.false_eq_true, if_false, Nat.zero_testBit, false_iff]
    rintro ⟨sq, _, h, _⟩
    exact absurd (may2_iff.mp h).1 (by decide)
  | true =>
    rw [if_pos rfl, Nat.testBit_and, Bool.and_eq_true, shp_bit hb hs (Nat.lt_of_le_of_lt Nat.and_le_left (shp_lt (and_lt (pwn_lt B hs)))), emp_bit B]
    have t2 : ∀ sq i, f ≤ sq → okP f r (tgt1 f side sq) side = true → (((i : Nat) : Int) = ((tgt1 f side sq : Nat) : Int) + dlt f side ↔ i = tgt2 f side sq) := by
      intro sq i hf hk
      unfold okP at hk
      unfold tgt1 at hk ⊢
      unfold tgt2 dlt up
      rcases side2 hs with rfl | rfl
      · simp; omega
      · simp at hk ⊢; omega
    constructor
    · rintro ⟨⟨i, h1, h2, h3, h4⟩, h5, h6⟩
      obtain ⟨sq, ho, hf, hz, rfl⟩ := (passed_bit hb B hs i).mp h2
      have e := (t2 sq j (mid_ok B hs ho).2.1 h3).mp h4
      exact ⟨sq, ho, may2_iff.mpr ⟨rfl, hf, by unfold ok2; rw [(mid_ok B hs ho).1, h3]; rfl, hz, e ▸ h6⟩, e⟩
    · rintro ⟨sq, ho, hm, rfl⟩
      obtain ⟨_, hf, hk, hz, hz2⟩ := may2_iff.mp hm
      have hk' : okP f r (tgt1 f side sq) side = true := by unfold ok2 at hk; simp only [Bool.and_eq_true] at hk; exact hk.2
      have lt2 : tgt2 f side sq < f * r := by
        rcases bes2 hb hs (own_lt B ho) with q | q
        · exact q.2.2
        · rw [hk] at q; cases q.1
      exact ⟨⟨tgt1 f side sq, tgt1_lt B hs ho, (passed_bit hb B hs _).mpr ⟨sq, ho, hf, hz, rfl⟩, hk', (t2 sq _ (mid_ok B hs ho).2.1 hk').mpr rfl⟩, lt2, hz2⟩
end
end Pf
end

section
set_option autoImplicit false
set_option maxRecDepth 100000
set_option linter.unusedSimpArgs false
set_option linter.unusedVariables false
namespace Pf
open PySem (Operator CmpOp UnaryOp)

noncomputable def st1 (f side : Nat) (bd : List Nat) (sq : Nat) : Int := if bd.getD (tgt1 f side sq) 0 = 0 then ((tgt1 f side sq : Nat) : Int) else -1
noncomputable def st2 (f r : Nat) (dbl : Bool) (side : Nat) (bd : List Nat) (sq : Nat) : Int := if may2 f r dbl side bd sq then ((tgt2 f side sq : Nat) : Int) else -1
noncomputable def PL (N side : Nat) (bd : List Nat) : List Nat := (List.range N).filter fun s => decide (bd.getD s 0 = 1 + 8 * side)
theorem mem_PL {N side s : Nat} {bd : List Nat} : s ∈ PL N side bd ↔ s < N ∧ bd.getD s 0 = 1 + 8 * side := by
  unfold PL; rw [List.mem_filter, List.mem_range, decide_eq_true_eq]

section
variable {k f r g p sd n : Nat} {dbl : Bool} {bd ks ws : List Nat} {Q : AVal → AHeap → Prop} {σ : AHeap}
theorem skip_go {cw : CW} {r : List St} {m : Loc} {Q : AFlow → Loc → AHeap → Prop} {σ : AHeap} (h : wpSs cw r m Q σ) : wpSs cw [] m (fun f m1 σ1 => match f with | .next => wpSs cw r m1 Q σ1 | f => Q f m1 σ1) σ := by rw [Wss1]; exact h
theorem cNeN {a b : Nat} {Q : Bool → Prop} (h : Q (!decide (a = b))) : cmpW .NotEq (.int (a : Int)) (.int (b : Int)) Q σ := by
  refine cInt (show icmp .NotEq _ _ = _ from rfl) ?_
  rw [deq]; exact h
theorem cEqN {a b : Nat} {Q : Bool → Prop} (h : Q (decide (a = b))) : cmpW .Eq (.int (a : Int)) (.int (b : Int)) Q σ := by
  refine cInt (show icmp .Eq _ _ = _ from rfl) ?_
  rw [deq]; exact h
theorem first_go {cw : CW} {m : Loc} {Q : AVal → AHeap → Prop} {σ : AHeap} {r side : Nat} (h4 : m[4]? = some (some (.int (side : Int)))) (h2 : m[2]? = some (some (.int (r : Int)))) (hr : 2 ≤ r) (hq : Q (.int ((firstR r side : Nat) : Int)) σ) :
    wpE cw (.ite (.cmp .Eq (.var 4) (.lit (.int 0))) (.lit (.int 1)) (.bin .Sub (.var 2) (.lit (.int 2)))) m Q σ := by
  (rw [We10]; rw [Wt4]; rw [We2])
  simp only [varW, h4]
  rw [We1]
  refine cEqN (b := 0) ?_
  unfold firstR at hq
  by_cases h : side = 0
  · rw [if_pos h] at hq
    simp only [h, decide_true]
    rw [We1]; exact hq
  · rw [if_neg h] at hq
    simp only [h, decide_false]
    (rw [We3]; rw [We2])
    simp only [varW, h2]
    rw [We1]
    exact bSub (b := 2) hr hq
theorem spec_steps {bl side sq : Nat} (hb : (f, r, dbl) ∈ bds) (hbl : σ bl = some (.list (zs (natI bd)))) (B : BI f r n bd ks ws) (hs : side ≤ 1) (ho : bd.getD sq 0 = 1 + 8 * side)
    (h : ∀ c, σ c = none → Q (.ref c) (put σ c (.tup (zs [st1 f side bd sq, st2 f r dbl side bd sq])))) : callW P (k + 2) 35 [.ref bl, .int (f : Int), .int (r : Int), .bool dbl, .int (side : Int), .int (sq : Int)] Q σ := by
  obtain ⟨n1, n2, n3, n4, n5⟩ := bd_num hb
  refine callW_go rfl rfl ?_
  simp only [B_law_steps, List.map_cons, List.map_nil, List.replicate_succ, List.replicate_zero, List.nil_append, List.cons_append]
  refine K1 ?_
  simp only [We1, We2, We3, varW, retOf, List.getElem?_cons_zero, List.getElem?_cons_succ, List.set_cons_zero, List.set_cons_succ, Bi2, Bi3]
  refine ⟨⟨by decide, by decide⟩, ?_⟩
  rw [show (1 : Int) - 2 * (side : Int) = up side from rfl]
  refine K1 ?_
  simp only [We1, We2, We14, Wes1, Wes2, varW, List.getElem?_cons_zero, List.getElem?_cons_succ, List.set_cons_zero, List.set_cons_succ]
  refine spec_beside (by (clear ho hs n2 n5; omega)) (by (clear ho hs n1 n5; omega)) (by (clear ho hs n3 n5; omega)) ?_
  rw [bes1 hb B hs ho]
  (refine K10 ?_; rw [Wt4])
  simp only [We1, We2, We12, varW, List.getElem?_cons_zero, List.getElem?_cons_succ]
  have t1 := tgt1_lt B hs ho
  refine subI hbl (bd_get B t1) (by (clear ho hs; omega)) (cNeN (b := 0) ?_)
  by_cases hz : bd.getD (tgt1 f side sq) 0 = 0
  · simp only [hz, decide_true, Bool.not_true]
    refine skip_go ?_
    refine K1 ?_
    refine first_go (r := r) (side := side) rfl rfl (by (clear ho hs hz n1 n4 n5 t1; omega)) ?_
    have rest : wpSs (callW P (k + 1)) [(.asg 9 (.call 31 [(.var 1), (.var 2), (.var 5), (.lit (.int 0)), (.bin .Mult (.lit (.int 2)) (.var 6))])), (.iff (.and [(.var 3), (.cmp .Eq (.bin .FloorDiv (.var 5) (.var 1)) (.var 8)), (.cmp .GtE (.var 9) (.lit (.int 0))), (.cmp .Eq (.sub (.var 0) (.var 9)) (.lit (.int 0)))]) [(.ret (.tup [(.var 7), (.var 9)]))] []), (.ret (.tup [(.var 7), (.una .USub (.lit (.int 1)))]))]
        [some (.ref bl), some (.int (f : Int)), some (.int (r : Int)), some (.bool dbl), some (.int (side : Int)), some (.int (sq : Int)), some (.int (up side)), some (.int ((tgt1 f side sq : Nat) : Int)), some (.int ((firstR r side : Nat) : Int)), none] (fun fl x σ1 => Q (match fl with | .ret v => v | _ => .none) σ1) σ := by
      have e1 : st1 f side bd sq = ((tgt1 f side sq : Nat) : Int) := by unfold st1; rw [if_pos hz]
      have no : st2 f r dbl side bd sq = -1 → wpSs (callW P (k + 1)) [(.ret (.tup [(.var 7), (.una .USub (.lit (.int 1)))]))]
          [some (.ref bl), some (.int (f : Int)), some (.int (r : Int)), some (.bool dbl), some (.int (side : Int)), some (.int (sq : Int)), some (.int (up side)), some (.int ((tgt1 f side sq : Nat) : Int)), some (.int ((firstR r side : Nat) : Int)), some (.int (bes f r sq 0 (2 * up side)))] (fun fl x σ1 => Q (match fl with | .ret v => v | _ => .none) σ1) σ := by
        intro e2
        simp only [Wss1, Wss2, Ws9, unaW, We1, We2, We4, We23, Wes1, Wes2, varW, List.getElem?_cons_zero, List.getElem?_cons_succ, List.length_cons, List.length_nil]
        refine ⟨by decide, fun c hc => ?_⟩
        have := h c hc
        rw [e1, e2] at this
        exact this
      refine K1 ?_
      simp only [We1, We2, We3, We14, Wes1, Wes2, varW, List.getElem?_cons_zero, List.getElem?_cons_succ, List.set_cons_zero, List.set_cons_succ, Bi3]
      refine ⟨⟨by decide, by decide⟩, spec_beside (by (clear h ho hs n2; omega)) (by omega) (by omega) ?_⟩
      refine K10 ?_
      simp only [Wt2, Wt4, Wt8, Wts1, Wts2, We1, We2, We3, We12, varW, List.getElem?_cons_zero, List.getElem?_cons_succ]
      cases dbl with
      | false =>
        simp only [truthW, Bool.false_eq_true, if_false, Bool.not_true]
        refine skip_go ?_
        exact no (by unfold st2 may2; simp)
      | true =>
        simp only [truthW, if_true]
        refine bDiv (by (clear ho hs n2; omega)) (by (clear e1 ho hs hz n1 n5 no t1; omega)) (cEqN ?_)
        by_cases hf : sq / f = firstR r side
        · simp only [hf, decide_true, if_true]
          refine cInt (show icmp .GtE _ _ = _ from rfl) ?_
          rcases bes2 hb hs (own_lt B ho) with ⟨q1, q2, q3⟩ | ⟨q1, q2⟩
          · rw [q2]
            have : decide ((0 : Int) ≤ ((tgt2 f side sq : Nat) : Int)) = true := by simp
            simp only [this, if_true]
            refine subI hbl (bd_get B q3) (by (clear e1 hf ho hs hz q2 t1; omega)) (cEqN (b := 0) ?_)
            by_cases hz2 : bd.getD (tgt2 f side sq) 0 = 0
            · simp only [hz2, decide_true, if_true]
              have e2 : st2 f r true side bd sq = ((tgt2 f side sq : Nat) : Int) := by
                unfold st2; rw [if_pos (may2_iff.mpr ⟨rfl, hf, q1, hz, hz2⟩)]
              simp only [Wss1, Wss2, Ws9, We1, We2, We4, We23, Wes1, Wes2, varW, List.getElem?_cons_zero, List.getElem?_cons_succ, List.length_cons, List.length_nil]
              refine ⟨by decide, fun c hc => ?_⟩
              have := h c hc
              rw [e1, e2] at this
              exact this
            · simp only [hz2, decide_false, Bool.false_eq_true, if_false, Bool.not_true]
              refine skip_go ?_
              rw [← q2]
              exact no (by unfold st2; rw [if_neg (fun z => hz2 (may2_iff.mp z).2.2.2.2)])
          · rw [q2]
            simp only [show decide ((0 : Int) ≤ -1) = false from rfl, Bool.false_eq_true, if_false, Bool.not_true]
            refine skip_go ?_
            rw [← q2]
            exact no (by unfold st2; rw [if_neg (fun z => absurd (may2_iff.mp z).2.2.1 (by rw [q1]; decide))])
        · simp only [hf, decide_false, Bool.false_eq_true, if_false, Bool.not_true]
          refine skip_go ?_
          exact no (by unfold st2; rw [if_neg (fun z => hf (may2_iff.mp z).2.1)])
    exact rest
  · simp only [hz, decide_false, Bool.not_false]
    simp only [Wss1, Wss2, Ws1, Ws9, Ws10, unaW, We1, We2, We3, We4, We10, We14, We23, Wes1, Wes2, varW, List.length_cons, List.length_nil]
    refine ⟨by decide, fun c hc => ?_⟩
    have e1 : st1 f side bd sq = -1 := by unfold st1; rw [if_neg hz]
    have e2 : st2 f r dbl side bd sq = -1 := by unfold st2; rw [if_neg (fun z => hz (may2_iff.mp z).2.2.2.1)]
    have := h c hc
    rw [e1, e2] at this
    exact this

theorem setOnes (hb : (f, r, dbl) ∈ bds) (B : BI f r n bd ks ws) {side : Nat} (hs : side ≤ 1) : setS ((PL (f * r) side bd).map (st1 f side bd)) = ((onesB f r side ks ws : Nat) : Int) := by
  refine setS_eq ?_ fun j => ?_
  · unfold NdP
    rw [List.pairwise_map]
    refine List.Pairwise.imp_of_mem ?_ (show (PL (f * r) side bd).Pairwise (· < ·) from List.Pairwise.filter _ List.pairwise_lt_range)
    intro x y hx hy hlt h0
    have mx := mid_ok B hs (mem_PL.mp hx).2
    have my := mid_ok B hs (mem_PL.mp hy).2
    unfold st1 tgt1 at h0 ⊢
    split at h0 <;> split <;> split <;> first | omega | (split <;> omega) | skip
    all_goals (split at h0 <;> first | omega | (split <;> omega))
  · rw [ones_bit hb B hs]
    constructor
    · rintro ⟨sq, h1, h2, rfl⟩
      refine List.mem_map.mpr ⟨sq, mem_PL.mpr ⟨own_lt B h1, h1⟩, ?_⟩
      unfold st1; rw [if_pos h2]
    · intro h
      obtain ⟨sq, h1, h2⟩ := List.mem_map.mp h
      have ho := (mem_PL.mp h1).2
      unfold st1 at h2
      split at h2
      · rename_i hz; exact ⟨sq, ho, hz, by (clear ho hs hz; omega)⟩
      · (clear ho hs; omega)
theorem setTwos (hb : (f, r, dbl) ∈ bds) (B : BI f r n bd ks ws) {side : Nat} (hs : side ≤ 1) : setS ((PL (f * r) side bd).map (st2 f r dbl side bd)) = ((twosB f r dbl side ks ws : Nat) : Int) := by
  have inj : ∀ x y, may2 f r dbl side bd x = true → may2 f r dbl side bd y = true → x < y → f ≤ x → f ≤ y → tgt2 f side x ≠ tgt2 f side y := by
    intro x y hx hy hlt fx fy
    have hx' := (may2_iff.mp hx).2.2.1
    have hy' := (may2_iff.mp hy).2.2.1
    unfold ok2 okP tgt1 at hx' hy'
    unfold tgt2
    rcases side2 hs with rfl | rfl
    · simp; omega
    · simp at hx' hy' ⊢; (clear fx hy'; omega)
  refine setS_eq ?_ fun j => ?_
  · unfold NdP
    rw [List.pairwise_map]
    refine List.Pairwise.imp_of_mem ?_ (show (PL (f * r) side bd).Pairwise (· < ·) from List.Pairwise.filter _ List.pairwise_lt_range)
    intro x y hx hy hlt h0
    have mx := mid_ok B hs (mem_PL.mp hx).2
    have my := mid_ok B hs (mem_PL.mp hy).2
    unfold st2 at h0 ⊢
    cases hx2 : may2 f r dbl side bd x with
    | false => rw [hx2] at h0; simp at h0
    | true =>
      cases hy2 : may2 f r dbl side bd y with
      | false => simp only [if_true, Bool.false_eq_true, if_false]; (clear h0 hs; omega)
      | true =>
        have := inj x y hx2 hy2 hlt mx.2.1 my.2.1
        simp only [if_true]; (clear h0 hs; omega)
  · rw [twos_bit hb B hs]
    constructor
    · rintro ⟨sq, h1, h2, rfl⟩
      refine List.mem_map.mpr ⟨sq, mem_PL.mpr ⟨own_lt B h1, h1⟩, ?_⟩
      unfold st2; rw [if_pos h2]
    · intro h
      obtain ⟨sq, h1, h2⟩ := List.mem_map.mp h
      have ho := (mem_PL.mp h1).2
      unfold st2 at h2
      split at h2
      · rename_i hz; exact ⟨sq, ho, hz, by (clear ho hs; omega)⟩
      · (clear ho hs; omega)

end
end Pf
end

section
set_option autoImplicit false
set_option maxRecDepth 100000
set_option linter.unusedSimpArgs false
set_option linter.unusedVariables false
namespace Pf
open PySem (Operator CmpOp UnaryOp)

section
variable {k f r g p sd n : Nat} {dbl : Bool} {bd ks ws : List Nat} {Q : AVal → AHeap → Prop} {σ : AHeap}
/-! promotions -/
noncomputable def lesser (stage : Nat) (cap : Bool) : Bool := if stage = 0 then cap else if stage = 1 then !cap else true
noncomputable def kindsN (stage : Nat) (cap : Bool) : List Nat := (if stage = 1 then [] else [5]) ++ (if lesser stage cap then [4, 3, 2] else [])
noncomputable def promos (stage : Nat) (cap : Bool) (o t : Nat) : List Nat := (kindsN stage cap).map fun kd => mv o t 1 kd

theorem appGo {a : Nat} {xs : List AVal} {v : AVal} (h1 : σ a = some (.list xs)) (hl : xs.length ≤ 1000000) (h : Q .none (put σ a (.list (xs ++ [v])))) : appW (.ref a) v Q σ := by
  simp only [appW, h1]; exact ⟨hl, h⟩
theorem isL {a : Nat} {xs : List AVal} (h1 : σ a = some (.list xs)) : isList σ (.ref a) := by simp only [isList, h1]
theorem zs_snocI (L : List Int) (x : Nat) : zs L ++ [.int (x : Int)] = zs (L ++ natI [x]) := by simp [zs, natI]
theorem zs_snoc (L : List Nat) (x : Nat) : zs (natI L) ++ [.int (x : Int)] = zs (natI (L ++ [x])) := by simp [zs, natI]

theorem spec_add_promotions {σ0 : AHeap} {o t stage out : Nat} {cap : Bool} {L : List Int} (ho : o ≤ 64) (hE : Ext σ0 σ) (h0 : σ0 out = none) (hout : σ out = some (.list (zs L))) (hL : L.length ≤ 10000)
    (h : ∀ σ', Ext σ0 σ' → σ' out = some (.list (zs (L ++ natI (promos stage cap o t)))) → Q .none σ') : callW P (k + 2) 14 [.int (o : Int), .int (t : Int), .int (stage : Int), .bool cap, .ref out] Q σ := by
  refine callW_go rfl rfl ?_
  simp only [B_add_promotions, List.map_cons, List.map_nil, List.replicate_succ, List.replicate_zero, List.nil_append, List.cons_append]
  have less : ∀ (L' : List Int) (σ1 : AHeap) (x6 : Option AVal), Ext σ0 σ1 → σ1 out = some (.list (zs L')) → L'.length ≤ 10001 → (∀ σ', Ext σ0 σ' → σ' out = some (.list (zs (L' ++ natI ((if lesser stage cap then [4, 3, 2] else []).map fun kd => mv o t 1 kd)))) → Q .none σ') →
      wpSs (callW P (k + 1)) [(.iff (.var 5) [(.forV 6 (.list [(.lit (.int 4)), (.lit (.int 3)), (.lit (.int 2))]) [(.ex (.app (.var 4) (.call 3 [(.var 0), (.var 1), (.lit (.int 1)), (.var 6)])))])] [])]
        [some (.int (o : Int)), some (.int (t : Int)), some (.int (stage : Int)), some (.bool cap), some (.ref out), some (.bool (lesser stage cap)), x6] (fun fl x σ1 => Q (match fl with | .ret v => v | _ => .none) σ1) σ1 := by
    intro L' σ1 x6 hE1 hc1 hl1 h1
    refine K10 ?_
    simp only [Wt8, varW, List.getElem?_cons_zero, List.getElem?_cons_succ, truthW]
    cases hq : lesser stage cap with
    | false =>
      simp only [Wss1]
      exact h1 σ1 hE1 (by rw [hc1, hq]; simp [natI])
    | true =>
      dsimp only
      refine K12 ?_
      simp only [We1, We22, Wes1, Wes2, List.length_cons, List.length_nil]
      refine ⟨by decide, fun c hc => ⟨c, _, _, rfl, putS, rfl, ?_⟩⟩
      have nc : out ≠ c := neOf hc1 hc
      simp only [forN, bindV, Wss1, Wss2, Ws8, We1, We2, We14, We21, Wes1, Wes2, varW, List.getElem?_cons_zero, List.getElem?_cons_succ, List.set_cons_zero, List.set_cons_succ]
      have hc2 := put_get (o' := AObj.list [.int 4, .int 3, .int 2]) hc1 hc
      refine ⟨isL hc2, spec_pack_move (s := 1) (p := 4) ho (by omega) (by omega) (by omega) (appGo hc2 (by rw [zs_len]; (clear hL ho; omega)) ⟨rfl, ?_⟩)⟩
      rw [zs_snocI]
      refine ⟨by rw [putN (Ne.symm nc)]; exact putS, isL putS, spec_pack_move (s := 1) (p := 3) ho (by omega) (by omega) (by omega) (appGo putS (by rw [zs_len]; simp [natI]; (clear hL ho; omega)) ⟨rfl, ?_⟩)⟩
      rw [zs_snocI, put_put]
      refine ⟨by rw [putN (Ne.symm nc)]; exact putS, isL putS, spec_pack_move (s := 1) (p := 2) ho (by omega) (by omega) (by omega) (appGo putS (by rw [zs_len]; simp [natI]; (clear hL ho; omega)) ⟨rfl, ?_⟩)⟩
      rw [zs_snocI, put_put]
      refine ⟨by rw [putN (Ne.symm nc)]; exact putS, ?_⟩
      refine h1 _ ((hE1.put (by
        cases q : σ0 c with
        | none => rfl
        | some o => have := hE1 _ _ q; rw [hc] at this; cases this)).put h0) ?_
      rw [putS, hq]
      simp [natI]
  have mid : ∀ (L' : List Int) (σ1 : AHeap), Ext σ0 σ1 → σ1 out = some (.list (zs L')) → L'.length ≤ 10001 → (∀ σ', Ext σ0 σ' → σ' out = some (.list (zs (L' ++ natI ((if lesser stage cap then [4, 3, 2] else []).map fun kd => mv o t 1 kd)))) → Q .none σ') →
      wpSs (callW P (k + 1)) [(.iff (.cmp .Eq (.var 2) (.lit (.int 0))) [(.asg 5 (.var 3))] [(.iff (.cmp .Eq (.var 2) (.lit (.int 1))) [(.asg 5 (.not (.var 3)))] [(.asg 5 (.lit (.bool true)))])]), (.iff (.var 5) [(.forV 6 (.list [(.lit (.int 4)), (.lit (.int 3)), (.lit (.int 2))]) [(.ex (.app (.var 4) (.call 3 [(.var 0), (.var 1), (.lit (.int 1)), (.var 6)])))])] [])]
        [some (.int (o : Int)), some (.int (t : Int)), some (.int (stage : Int)), some (.bool cap), some (.ref out), none, none] (fun fl x σ1 => Q (match fl with | .ret v => v | _ => .none) σ1) σ1 := by
    intro L' σ1 hE1 hc1 hl1 h1
    have fin := less L' σ1 none hE1 hc1 hl1 h1
    refine K10 ?_
    simp only [Wt4, We1, We2, varW, List.getElem?_cons_zero, List.getElem?_cons_succ]
    refine cEqN (b := 0) ?_
    by_cases s0 : stage = 0
    · have e : lesser stage cap = cap := by unfold lesser; rw [if_pos s0]
      simp only [s0, decide_true]
      refine K1 ?_
      simp only [We2, varW, List.getElem?_cons_zero, List.getElem?_cons_succ, List.set_cons_zero, List.set_cons_succ]
      rw [Wss1]
      rw [e, s0] at fin
      exact fin
    · simp only [s0, decide_false]
      refine K10 ?_
      simp only [Wt4, We1, We2, varW, List.getElem?_cons_zero, List.getElem?_cons_succ]
      refine cEqN (b := 1) ?_
      by_cases s1 : stage = 1
      · have e : lesser stage cap = !cap := by unfold lesser; rw [if_neg s0, if_pos s1]
        simp only [s1, decide_true]
        refine K1 ?_
        simp only [We2, We7, varW, List.getElem?_cons_zero, List.getElem?_cons_succ, List.set_cons_zero, List.set_cons_succ, truthW]
        simp only [Wss1, Wss2]
        rw [e, s1] at fin
        simp only [Wss1, Wss2] at fin
        exact fin
      · have e : lesser stage cap = true := by unfold lesser; rw [if_neg s0, if_neg s1]
        simp only [s1, decide_false]
        refine K1 ?_
        simp only [We1, List.set_cons_zero, List.set_cons_succ]
        simp only [Wss1, Wss2]
        rw [e] at fin
        simp only [Wss1, Wss2] at fin
        exact fin
  refine K10 ?_
  simp only [Wt4, We1, We2, varW, retOf, List.getElem?_cons_zero, List.getElem?_cons_succ]
  refine cNeN (b := 1) ?_
  by_cases s1 : stage = 1
  · simp only [s1, decide_true, Bool.not_true]
    rw [Wss1]
    dsimp only
    have := mid L σ hE hout (by (clear ho s1; omega)) fun σ' hE' hc' => h σ' hE' (by rw [hc']; unfold promos kindsN; rw [if_pos s1]; simp [natI])
    rw [s1] at this
    exact this
  · simp only [s1, decide_false, Bool.not_false]
    refine K8 ?_
    simp only [We1, We2, We14, We21, Wes1, Wes2, varW, List.getElem?_cons_zero, List.getElem?_cons_succ]
    refine ⟨isL hout, spec_pack_move (s := 1) (p := 5) ho (by omega) (by omega) (by omega) (appGo hout (by rw [zs_len]; (clear ho; omega)) ⟨rfl, ?_⟩)⟩
    rw [zs_snocI]
    rw [Wss1]
    dsimp only
    refine mid (L ++ natI [mv o t 1 5]) _ (hE.put h0) putS (by simp [natI]; omega) fun σ' hE' hc' => h σ' hE' ?_
    rw [hc']; unfold promos kindsN; rw [if_neg s1]; simp [natI]
end
end Pf
end

section
set_option autoImplicit false
set_option maxRecDepth 100000
set_option linter.unusedSimpArgs false
set_option linter.unusedVariables false
namespace Pf
open PySem (Operator CmpOp UnaryOp)

section
variable {k f r g p n : Nat} {dbl : Bool} {bd ks ws : List Nat} {Q : AVal → AHeap → Prop} {σ σ0 : AHeap}

theorem ints_len (l : List Nat) : (natI l).length = l.length := by simp [natI]
/-- a loop over a list of goals that appends to out -/
theorem goals_loop {cw : CW} {iv : Nat} {b : List St} {Q : AFlow → Loc → AHeap → Prop} {a out : Nat} {X : List Nat} {L : List Int} {F : Nat → List Nat} {m0 : Loc} {σ0 σ : AHeap} (ha : σ a = some (.list (zs (natI X)))) (hao : a ≠ out) (h0 : σ0 out = none) (hE : Ext σ0 σ) (hout : σ out = some (.list (zs L))) (hlen : L.length + 4 * X.length ≤ 9000) (hF : ∀ x, (F x).length ≤ 4)
    (step : ∀ x ∈ X, ∀ L' m τ, (∃ v, m = m0.set iv v) → Ext σ0 τ → τ out = some (.list (zs L')) → L'.length ≤ 9000 → τ a = some (.list (zs (natI X))) → ∀ K : Loc → AHeap → Prop, (∀ m2 τ2, (∃ v, m2 = m0.set iv v) → Ext σ0 τ2 → (∀ b o, b ≠ out → τ b = some o → τ2 b = some o) → τ2 out = some (.list (zs (L' ++ natI (F x)))) → K m2 τ2) →
      wpSs cw b (m0.set iv (some (.int (x : Int)))) (fun f m2 σ2 => match f with | .ret w => Q (.ret w) m2 σ2 | _ => K m2 σ2) τ)
    (fin : ∀ m τ, (∃ v, m = m0.set iv v) → Ext σ0 τ → (∀ b o, b ≠ out → σ b = some o → τ b = some o) → τ out = some (.list (zs (L ++ natI (X.flatMap F)))) → Q .next m τ) (hm : ∃ v, m0 = m0.set iv v) :
    forN (fun m Q σ => wpSs cw b m Q σ) (bindV iv) a (.list (zs (natI X))) Q (zs (natI X)) m0 σ := by
  have flen : ∀ l : List Nat, (l.flatMap F).length ≤ 4 * l.length := by
    intro l
    induction l with
    | nil => simp
    | cons x r ih => rw [List.flatMap_cons, List.length_append, List.length_cons]; have := hF x; (clear hlen; omega)
  refine forN_rule (fun i m τ => (∃ v, m = m0.set iv v) ∧ Ext σ0 τ ∧ (∀ b o, b ≠ out → σ b = some o → τ b = some o) ∧ τ out = some (.list (zs (L ++ natI ((X.take i).flatMap F)))) ∧ τ a = some (.list (zs (natI X)))) ?_ ?_ ?_ ⟨hm, hE, fun _ _ _ e => e, by simpa [natI] using hout, ha⟩
  · rintro i v m τ hv ⟨⟨v0, rfl⟩, h1, hk, h2, h3⟩ K hK
    have hx : ∃ x, X[i]? = some x ∧ v = .int (x : Int) := by
      unfold zs natI at hv
      rw [List.map_map, List.getElem?_map] at hv
      cases q : X[i]? with
      | none => rw [q] at hv; cases hv
      | some x => rw [q] at hv; cases hv; exact ⟨x, rfl, rfl⟩
    obtain ⟨x, hx, rfl⟩ := hx
    have lt : i < X.length := (List.getElem?_eq_some_iff.mp hx).1
    have e : (X.take i).length ≤ X.length := by rw [List.length_take]; (clear hlen lt; omega)
    show wpSs cw b ((m0.set iv v0).set iv (some (.int (x : Int)))) _ τ
    rw [List.set_set]
    refine step x (List.mem_of_getElem? hx) _ _ τ ⟨v0, rfl⟩ h1 h2 ?_ h3 K fun m2 τ2 q1 q2 q3 q4 => hK m2 τ2 ⟨q1, q2, fun b o hb e => q3 b o hb (hk b o hb e), ?_, q3 a _ hao h3⟩
    · rw [List.length_append, ints_len]; have := flen (X.take i); (clear lt; omega)
    · rw [q4, List.append_assoc, ← ints_append, List.take_add_one, hx]
      simp [List.flatMap_append]
  · rintro i m τ ⟨_, _, _, _, h⟩; exact h
  · rintro m τ ⟨h1, h2, h3, h4, _⟩
    have : (zs (natI X)).length = X.length := zi_len X
    rw [this, List.take_length] at h4
    exact fin m τ h1 h2 h3 h4

/-- what stands while moves are made -/
structure Std (σ0 : AHeap) (g f r : Nat) (dbl : Bool) (p sd n : Nat) (bd ks ws : List Nat) : Prop where
  hb : (f, r, dbl) ∈ bds
  G : GeoAt σ0 g f r dbl
  F : PosF σ0 p g sd bd ks ws
  B : BI f r n bd ks ws
  hs : sd ≤ 1

theorem goal_sub {f side x : Nat} (hs : side ≤ 1) (h : side = 1 ∨ f ≤ x) : (x : Int) - stp f side = (((if side = 0 then x - f else x + f : Nat)) : Int) := by
  unfold stp
  rcases side2 hs with rfl | rfl
  · simp only [if_true]; omega
  · simp only [show ¬ ((1 : Nat) = 0) by decide, if_false]; omega
theorem goal_sub2 {f side x : Nat} (hs : side ≤ 1) (h : side = 1 ∨ 2 * f ≤ x) : (x : Int) - 2 * stp f side = (((if side = 0 then x - 2 * f else x + 2 * f : Nat)) : Int) := by
  unfold stp
  rcases side2 hs with rfl | rfl
  · simp only [if_true]; omega
  · simp only [show ¬ ((1 : Nat) = 0) by decide, if_false]; omega
theorem flat1 {h : Nat → Nat} : ∀ l : List Nat, l.flatMap (fun x => [h x]) = l.map h
  | [] => rfl
  | x :: r => by rw [List.flatMap_cons, flat1 r]; rfl
noncomputable def org1 (f side x : Nat) : Nat := if side = 0 then x - f else x + f
noncomputable def org2 (f side x : Nat) : Nat := if side = 0 then x - 2 * f else x + 2 * f

theorem mem_ones_le {side x T : Nat} (hb : (f, r, dbl) ∈ bds) (B : BI f r n bd ks ws) (hs : side ≤ 1) (h : x ∈ setN (f * r) T) (hT : T.testBit x = true → (onesB f r side ks ws).testBit x = true) : (side = 1 ∨ f ≤ x) ∧ org1 f side x ≤ 64 := by
  obtain ⟨n1, n2, n3, n4, n5⟩ := bd_num hb
  obtain ⟨h1, h2⟩ := mem_setN.mp h
  obtain ⟨sq, ho, hz, rfl⟩ := (ones_bit hb B hs x).mp (hT h2)
  unfold org1 tgt1 at *
  rcases side2 hs with rfl | rfl
  · simp at h1 ⊢; (clear ho hz n1 n2; omega)
  · simp at h1 ⊢; (clear ho hz n1; omega)
theorem mem_twos_le {side x T : Nat} (hb : (f, r, dbl) ∈ bds) (B : BI f r n bd ks ws) (hs : side ≤ 1) (h : x ∈ setN (f * r) T) (hT : T.testBit x = true → (twosB f r dbl side ks ws).testBit x = true) : (side = 1 ∨ 2 * f ≤ x) ∧ org2 f side x ≤ 64 := by
  obtain ⟨n1, n2, n3, n4, n5⟩ := bd_num hb
  obtain ⟨h1, h2⟩ := mem_setN.mp h
  obtain ⟨sq, ho, hz, rfl⟩ := (twos_bit hb B hs x).mp (hT h2)
  unfold org2 tgt2 at *
  rcases side2 hs with rfl | rfl
  · simp at h1 ⊢; (clear ho n1 n2; omega)
  · simp at h1 ⊢; (clear ho n1; omega)

noncomputable def T1 (f r sd tg : Nat) (ks ws : List Nat) : Nat := andn (onesB f r sd ks ws &&& tg) (lastM f r sd)
noncomputable def T2 (f r : Nat) (dbl : Bool) (sd tg : Nat) (ks ws : List Nat) : Nat := twosB f r dbl sd ks ws &&& tg
noncomputable def T3 (f r sd tg : Nat) (ks ws : List Nat) : Nat := (onesB f r sd ks ws &&& tg) &&& lastM f r sd

theorem spec_plain {sd out tg : Nat} {L : List Int} (S : Std σ0 g f r dbl p sd n bd ks ws) (hE : Ext σ0 σ) (h0 : σ0 out = none) (hout : σ out = some (.list (zs L))) (hL : L.length ≤ 2000)
    (h : ∀ σ', Ext σ0 σ' → σ' out = some (.list (zs ((L ++ natI ((setN (f * r) (T1 f r sd tg ks ws)).map fun x => mv (org1 f sd x) x 0 0)) ++ natI ((setN (f * r) (T2 f r dbl sd tg ks ws)).map fun x => mv (org2 f sd x) x 0 0)))) → Q .none σ') :
    callW P (k + 3) 15 [.ref p, .int (tg : Int), .ref out] Q σ := by
  obtain ⟨hb, G0, F0, B, hs⟩ := S
  obtain ⟨n1, n2, n3, n4, n5⟩ := bd_num hb
  have F := F0.ext hE
  obtain ⟨dp, z, bl, kl, sl, hs', key, h1, h2, h3, h4, h5⟩ := F0.ext hE
  have onlt : onesB f r sd ks ws < 2 ^ (f * r) := Nat.lt_of_le_of_lt Nat.and_le_left (shp_lt (pwn_lt B hs))
  have twlt : twosB f r dbl sd ks ws < 2 ^ (f * r) := by
    unfold twosB
    split
    · exact Nat.lt_of_le_of_lt Nat.and_le_left (shp_lt (Nat.lt_of_le_of_lt Nat.and_le_left (shp_lt (and_lt (pwn_lt B hs)))))
    · exact Nat.two_pow_pos _
  refine callW_go rfl rfl ?_
  simp only [B_add_plain_pushes, List.map_cons, List.map_nil, List.replicate_succ, List.replicate_zero, List.nil_append, List.cons_append]
  refine K1 ?_
  simp only [We2, We11, varW, retOf, List.getElem?_cons_zero, List.set_cons_zero, List.set_cons_succ]
  refine attrGo h1 h2 rfl ?_
  refine K1 ?_
  simp only [We2, We11, We14, Wes1, Wes2, varW, List.getElem?_cons_zero, List.getElem?_cons_succ, List.set_cons_zero, List.set_cons_succ]
  refine attrGo h1 h2 rfl (spec_push_step (G0.ext hE) ?_)
  refine K2 ?_
  simp only [We2, We11, We14, Wes1, Wes2, varW, List.getElem?_cons_zero]
  refine attrGo h1 h2 rfl (spec_push_targets hb (G0.ext hE) F B hs fun c hc => ?_)
  simp only [unpackW, putS, List.zip_cons_cons, List.zip_nil_left, List.foldl_cons, List.foldl_nil, List.set_cons_zero, List.set_cons_succ, List.length_cons, List.length_nil]
  refine ⟨trivial, ?_⟩
  have hco : out ≠ c := neOf hout hc
  have hE1 : Ext σ0 (put σ c (.tup [.int ((onesB f r sd ks ws : Nat) : Int), .int ((twosB f r dbl sd ks ws : Nat) : Int)])) := fun b o e => put_get (hE _ _ e) hc
  have hout1 := put_get (o' := AObj.tup [.int ((onesB f r sd ks ws : Nat) : Int), .int ((twosB f r dbl sd ks ws : Nat) : Int)]) hout hc
  generalize put σ c (.tup [.int ((onesB f r sd ks ws : Nat) : Int), .int ((twosB f r dbl sd ks ws : Nat) : Int)]) = τ at hE1 hout1
  obtain ⟨dp', z', bl', kl', sl', hs'', key', i1, i2, i3, i4, i5⟩ := F0.ext hE1
  refine K12 ?_
  simp only [We2, We3, We4, We11, We14, Wes1, Wes2, varW, List.getElem?_cons_zero, List.getElem?_cons_succ]
  refine bAnd ?_
  refine attrGo i1 i2 rfl (spec_last_mask hb (G0.ext hE1) ?_)
  simp only [unaW]
  refine bAndN ?_
  have lt1 : T1 f r sd tg ks ws < 2 ^ (f * r) := Nat.lt_of_le_of_lt (andn_le _ _) (and_lt onlt)
  refine spec_squares_of (b := T1 f r sd tg ks ws) lt1 (by (clear hL hs lt1 onlt twlt; omega)) fun a τ1 ha hEa hla => ?_
  refine ⟨a, _, _, rfl, hla, rfl, ?_⟩
  have hE2 := hE1.trans hEa
  have hao : a ≠ out := fun q => by rw [q, hout1] at ha; cases ha
  have sl1 := setN_len (f * r) (T1 f r sd tg ks ws)
  have sl2 := setN_len (f * r) (T2 f r dbl sd tg ks ws)
  refine goals_loop (F := fun x => [mv (org1 f sd x) x 0 0]) hla hao h0 hE2 (hEa _ _ hout1) (by (clear hs lt1 onlt sl2 twlt; omega)) (fun _ => by simp) ?_ ?_ ⟨none, by simp only [List.set_cons_zero, List.set_cons_succ]⟩
  · intro x hx L' m τ2 _ hE3 ho3 hl3 ha3 K hK
    obtain ⟨q1, q2⟩ := mem_ones_le hb B hs hx fun q => by
      unfold T1 at q; rw [andn_bit, Bool.and_eq_true, Nat.testBit_and, Bool.and_eq_true] at q; exact q.1.1
    refine K8 ?_
    simp only [We1, We2, We3, We14, We21, Wes1, Wes2, varW, List.getElem?_cons_zero, List.getElem?_cons_succ, List.set_cons_zero, List.set_cons_succ]
    refine ⟨isL ho3, ?_⟩
    simp only [Bi2]
    rw [goal_sub hs q1]
    refine spec_pack_move (s := 0) (p := 0) q2 (by (clear hL hl3 hs lt1 n5 onlt q2 sl1 sl2 twlt; omega)) (by (clear hL hl3 hs lt1 n5 onlt q2 sl1 sl2 twlt; omega)) (by (clear hL hl3 hs lt1 n5 onlt q2 sl1 sl2 twlt; omega)) (appGo ho3 (by rw [zs_len]; (clear hL hs lt1 n5 onlt q2 sl1 sl2 twlt; omega)) ⟨rfl, ?_⟩)
    (rw [zs_snocI]; rw [Wss1])
    exact hK _ _ ⟨_, rfl⟩ (hE3.put h0) (fun b o hb e => by rw [putN hb]; exact e) putS
  · rintro m τ2 ⟨v, rfl⟩ hE3 hk3 ho3
    simp only [List.set_cons_zero, List.set_cons_succ]
    refine K12 ?_
    simp only [We2, We3, We14, Wes1, Wes2, varW, List.getElem?_cons_zero, List.getElem?_cons_succ]
    refine bAnd ?_
    refine spec_squares_of (b := T2 f r dbl sd tg ks ws) (and_lt twlt) (by omega) fun a2 τ3 ha2 hEa2 hla2 => ?_
    refine ⟨a2, _, _, rfl, hla2, rfl, ?_⟩
    have hao2 : a2 ≠ out := fun q => by rw [q, ho3] at ha2; cases ha2
    refine goals_loop (X := setN (f * r) (T2 f r dbl sd tg ks ws)) (F := fun x => [mv (org2 f sd x) x 0 0]) hla2 hao2 h0 (hE3.trans hEa2) (hEa2 _ _ ho3) (by rw [List.length_append, ints_len, flat1, List.length_map]; (clear hao2 hs lt1 onlt twlt; omega)) (fun _ => by simp) ?_ ?_ ⟨v, by simp only [List.set_cons_zero, List.set_cons_succ]⟩
    · intro x hx L' m τ4 _ hE4 ho4 hl4 ha4 K hK
      obtain ⟨q1, q2⟩ := mem_twos_le hb B hs hx fun q => by
        unfold T2 at q; rw [Nat.testBit_and, Bool.and_eq_true] at q; exact q.1
      refine K8 ?_
      simp only [We1, We2, We3, We14, We21, Wes1, Wes2, varW, List.getElem?_cons_zero, List.getElem?_cons_succ, List.set_cons_zero, List.set_cons_succ]
      refine ⟨isL ho4, ?_⟩
      simp only [Bi2, Bi3]
      refine ⟨⟨by decide, by decide⟩, ?_⟩
      rw [goal_sub2 hs q1]
      refine spec_pack_move (s := 0) (p := 0) q2 (by omega) (by omega) (by omega) (appGo ho4 (by rw [zs_len]; (clear hL hout; omega)) ⟨rfl, ?_⟩)
      (rw [zs_snocI]; rw [Wss1])
      exact hK _ _ ⟨_, rfl⟩ (hE4.put h0) (fun b o hb e => by rw [putN hb]; exact e) putS
    · rintro m τ4 ⟨v2, rfl⟩ hE4 hk4 ho4
      simp only [Wss1]
      refine h τ4 hE4 ?_
      rw [ho4, flat1, flat1]
end
end Pf
end

section
set_option autoImplicit false
set_option maxRecDepth 100000
set_option linter.unusedSimpArgs false
set_option linter.unusedVariables false
namespace Pf
open PySem (Operator CmpOp UnaryOp)

section
variable {k f r g p n : Nat} {dbl : Bool} {bd ks ws : List Nat} {Q : AVal → AHeap → Prop} {σ σ0 : AHeap}
theorem promos_len (stage : Nat) (cap : Bool) (o t : Nat) : (promos stage cap o t).length ≤ 4 := by
  unfold promos kindsN
  rw [List.length_map]
  split <;> split <;> decide
theorem spec_promo {sd out tg stage : Nat} {L : List Int} (S : Std σ0 g f r dbl p sd n bd ks ws) (hE : Ext σ0 σ) (h0 : σ0 out = none) (hout : σ out = some (.list (zs L))) (hL : L.length ≤ 2500)
    (h : ∀ σ', Ext σ0 σ' → σ' out = some (.list (zs (L ++ natI ((setN (f * r) (T3 f r sd tg ks ws)).flatMap fun x => promos stage false (org1 f sd x) x)))) → Q .none σ') :
    callW P (k + 3) 16 [.ref p, .int (stage : Int), .int (tg : Int), .ref out] Q σ := by
  obtain ⟨hb, G0, F0, B, hs⟩ := S
  obtain ⟨n1, n2, n3, n4, n5⟩ := bd_num hb
  have F := F0.ext hE
  obtain ⟨dp, z, bl, kl, sl, hs', key, h1, h2, h3, h4, h5⟩ := F0.ext hE
  have onlt : onesB f r sd ks ws < 2 ^ (f * r) := Nat.lt_of_le_of_lt Nat.and_le_left (shp_lt (pwn_lt B hs))
  refine callW_go rfl rfl ?_
  simp only [B_add_push_promotions, List.map_cons, List.map_nil, List.replicate_succ, List.replicate_zero, List.nil_append, List.cons_append]
  refine K1 ?_
  simp only [We2, We11, varW, retOf, List.getElem?_cons_zero, List.set_cons_zero, List.set_cons_succ]
  refine attrGo h1 h2 rfl ?_
  refine K1 ?_
  simp only [We2, We11, We14, Wes1, Wes2, varW, List.getElem?_cons_zero, List.getElem?_cons_succ, List.set_cons_zero, List.set_cons_succ]
  refine attrGo h1 h2 rfl (spec_push_step (G0.ext hE) ?_)
  refine K1 ?_
  simp only [We1, We2, We11, We12, We14, Wes1, Wes2, varW, List.getElem?_cons_zero, List.set_cons_zero, List.set_cons_succ]
  refine attrGo h1 h2 rfl (spec_push_targets hb (G0.ext hE) F B hs fun c hc => ?_)
  refine subTup (k := 0) putS rfl (by (clear hL hs n5 onlt; omega)) ?_
  have hE1 : Ext σ0 (put σ c (.tup [.int ((onesB f r sd ks ws : Nat) : Int), .int ((twosB f r dbl sd ks ws : Nat) : Int)])) := fun b o e => put_get (hE _ _ e) hc
  have hout1 := put_get (o' := AObj.tup [.int ((onesB f r sd ks ws : Nat) : Int), .int ((twosB f r dbl sd ks ws : Nat) : Int)]) hout hc
  generalize put σ c (.tup [.int ((onesB f r sd ks ws : Nat) : Int), .int ((twosB f r dbl sd ks ws : Nat) : Int)]) = τ at hE1 hout1
  obtain ⟨dp', z', bl', kl', sl', hs'', key', i1, i2, i3, i4, i5⟩ := F0.ext hE1
  refine K12 ?_
  simp only [We2, We3, We11, We14, Wes1, Wes2, varW, List.getElem?_cons_zero, List.getElem?_cons_succ]
  refine bAnd ?_
  refine attrGo i1 i2 rfl (spec_last_mask hb (G0.ext hE1) ?_)
  refine bAnd ?_
  have lt1 : T3 f r sd tg ks ws < 2 ^ (f * r) := and_lt (and_lt onlt)
  refine spec_squares_of (b := T3 f r sd tg ks ws) lt1 (by (clear hL hs lt1 onlt; omega)) fun a τ1 ha hEa hla => ?_
  refine ⟨a, _, _, rfl, hla, rfl, ?_⟩
  have hE2 := hE1.trans hEa
  have hao : a ≠ out := fun q => by rw [q, hout1] at ha; cases ha
  have sl1 := setN_len (f * r) (T3 f r sd tg ks ws)
  refine goals_loop (F := fun x => promos stage false (org1 f sd x) x) hla hao h0 hE2 (hEa _ _ hout1) (by (clear hs lt1 onlt; omega)) (fun _ => promos_len _ _ _ _) ?_ ?_ ⟨none, by simp only [List.set_cons_zero, List.set_cons_succ]⟩
  · intro x hx L' m τ2 _ hE3 ho3 hl3 ha3 K hK
    obtain ⟨q1, q2⟩ := mem_ones_le hb B hs hx fun q => by
      unfold T3 at q; rw [Nat.testBit_and, Bool.and_eq_true, Nat.testBit_and, Bool.and_eq_true] at q; exact q.1.1
    refine K8 ?_
    simp only [We1, We2, We3, We14, Wes1, Wes2, varW, List.getElem?_cons_zero, List.getElem?_cons_succ, List.set_cons_zero, List.set_cons_succ]
    simp only [Bi2]
    rw [goal_sub hs q1]
    -- every step but the list keeps its objects: the base is the state itself, without the list
    refine spec_add_promotions (σ0 := fun b => if b = out then none else τ2 b) q2 (fun b o e => ?_) (if_pos rfl) ho3 (by (clear hL hs lt1 n5 onlt q2 sl1; omega)) fun τ3 hE4 ho4 => ⟨rfl, ?_⟩
    · dsimp only at e
      split at e
      · cases e
      · exact e
    rw [Wss1]
    have keep : ∀ b o, b ≠ out → τ2 b = some o → τ3 b = some o := fun b o hb e => hE4 b o ((if_neg hb).trans e)
    exact hK _ _ ⟨_, rfl⟩ (fun b o e => keep b o (neOf e h0) (hE3 _ _ e)) keep ho4
  · rintro m τ2 ⟨v, rfl⟩ hE3 hk3 ho3
    simp only [Wss1]
    exact h τ2 hE3 ho3

noncomputable def TC (f r sd wing tg : Nat) (ks ws : List Nat) : Nat := shc f r (pwn sd ks ws) sd wing &&& (tg &&& ws.getD (1 - sd) 0)
noncomputable def orgC (f side wing x : Nat) : Nat := ((x : Int) - (stp f side + 1 - 2 * (wing : Int))).toNat
noncomputable def FC (f r sd stage wing x : Nat) : List Nat := if (lastM f r sd).testBit x then promos stage true (orgC f sd wing x) x else [mv (orgC f sd wing x) x 0 0]
theorem FC_len (f r sd stage wing x : Nat) : (FC f r sd stage wing x).length ≤ 4 := by
  unfold FC; split
  · exact promos_len _ _ _ _
  · simp
theorem stp_dlt {f side : Nat} (hs : side ≤ 1) : stp f side = dlt f side := by
  unfold stp dlt up
  rcases side2 hs with rfl | rfl <;> simp
theorem mem_cap {side wing x tg : Nat} (hb : (f, r, dbl) ∈ bds) (B : BI f r n bd ks ws) (hs : side ≤ 1) (hw : wing ≤ 1) (h : x ∈ setN (f * r) (TC f r side wing tg ks ws)) :
    (x : Int) - (stp f side + 1 - 2 * (wing : Int)) = ((orgC f side wing x : Nat) : Int) ∧ orgC f side wing x ≤ 64 := by
  obtain ⟨n1, n2, n3, n4, n5⟩ := bd_num hb
  obtain ⟨h1, h2⟩ := mem_setN.mp h
  unfold TC at h2
  rw [Nat.testBit_and, Bool.and_eq_true, shc_bit hb hs hw (pwn_lt B hs)] at h2
  obtain ⟨⟨sq, q1, q2, q3, q4⟩, _⟩ := h2
  unfold orgC
  rw [stp_dlt hs]
  unfold wx at q4
  (clear h1 hs hw; omega)

theorem cap_test {a x : Nat} : (a &&& 1 <<< x = 0) ↔ a.testBit x = false := by
  rw [Nat.one_shiftLeft]
  constructor
  · intro h
    have := Nat.testBit_and a (2 ^ x) x
    rw [h, Nat.zero_testBit, Nat.testBit_two_pow_self, Bool.and_true] at this
    exact this.symm
  · intro h
    apply Nat.eq_of_testBit_eq
    intro i
    rw [Nat.testBit_and, Nat.testBit_two_pow, Nat.zero_testBit]
    by_cases q : x = i
    · subst q; simp [h]
    · simp [q]

theorem spec_caps {sd out tg stage : Nat} {L : List Int} (S : Std σ0 g f r dbl p sd n bd ks ws) (hE : Ext σ0 σ) (h0 : σ0 out = none) (hout : σ out = some (.list (zs L))) (hL : L.length ≤ 3000)
    (h : ∀ σ', Ext σ0 σ' → σ' out = some (.list (zs (L ++ natI ((List.range 2).flatMap fun w => (setN (f * r) (TC f r sd w tg ks ws)).flatMap (FC f r sd stage w))))) → Q .none σ') :
    callW P (k + 3) 17 [.ref p, .int (stage : Int), .int (tg : Int), .ref out] Q σ := by
  obtain ⟨hb, G0, F0, B, hs⟩ := S
  obtain ⟨n1, n2, n3, n4, n5⟩ := bd_num hb
  have F := F0.ext hE
  obtain ⟨dp, z, bl, kl, sl, hs', key, h1, h2, h3, h4, h5⟩ := F0.ext hE
  refine callW_go rfl rfl ?_
  simp only [B_add_pawn_captures, List.map_cons, List.map_nil, List.replicate_succ, List.replicate_zero, List.nil_append, List.cons_append]
  refine K1 ?_
  simp only [We2, We11, varW, retOf, List.getElem?_cons_zero, List.set_cons_zero, List.set_cons_succ]
  refine attrGo h1 h2 rfl ?_
  refine K1 ?_
  simp only [We2, We11, varW, List.getElem?_cons_zero, List.set_cons_zero, List.set_cons_succ]
  refine attrGo h1 h2 rfl ?_
  refine K1 ?_
  simp only [We2, We14, Wes1, Wes2, varW, List.getElem?_cons_zero, List.getElem?_cons_succ, List.set_cons_zero, List.set_cons_succ]
  refine spec_last_mask hb (G0.ext hE) ?_
  refine K1 ?_
  simp only [We1, We2, We14, Wes1, Wes2, varW, List.getElem?_cons_zero, List.getElem?_cons_succ, List.set_cons_zero, List.set_cons_succ]
  refine spec_pieces hs F B ?_
  refine K1 ?_
  simp only [We1, We2, We3, We11, We12, varW, List.getElem?_cons_zero, List.getElem?_cons_succ, List.set_cons_zero, List.set_cons_succ]
  refine attrGo h1 h2 rfl (bSub (a := 1) hs (subI h5 (ws_get B (by (clear hL hs n5; omega))) (by (clear hL hs n5; omega)) (bAnd ?_)))
  refine K12 ?_
  simp only [We1, We22, Wes1, Wes2, List.length_cons, List.length_nil]
  refine ⟨by decide, fun c hc => ⟨c, _, _, rfl, putS, rfl, ?_⟩⟩
  have hco : c ≠ out := (neOf hout hc).symm
  have hE1 : Ext σ0 (put σ c (.list [.int 0, .int 1])) := fun b o e => put_get (hE _ _ e) hc
  have len : ∀ w, ((setN (f * r) (TC f r sd w tg ks ws)).flatMap (FC f r sd stage w)).length ≤ 120 := by
    intro w
    have flen : ∀ l : List Nat, (l.flatMap (FC f r sd stage w)).length ≤ 4 * l.length := by
      intro l
      induction l with
      | nil => simp
      | cons x r' ih => rw [List.flatMap_cons, List.length_append, List.length_cons]; have := FC_len f r sd stage w x; (clear hL hs n5; omega)
    have := flen (setN (f * r) (TC f r sd w tg ks ws))
    have := setN_len (f * r) (TC f r sd w tg ks ws)
    (clear hL hs; omega)
  refine forN_rule (fun i m τ => ∃ x9 x10 x11, Ext σ0 τ ∧ τ c = some (.list [.int 0, .int 1]) ∧ i ≤ 2 ∧ τ out = some (.list (zs (L ++ natI ((List.range i).flatMap fun w => (setN (f * r) (TC f r sd w tg ks ws)).flatMap (FC f r sd stage w))))) ∧
      m = [some (.ref p), some (.int (stage : Int)), some (.int (tg : Int)), some (.ref out), some (.ref g), some (.int (sd : Int)), some (.int ((lastM f r sd : Nat) : Int)), some (.int ((pwn sd ks ws : Nat) : Int)), some (.int ((tg &&& ws.getD (1 - sd) 0 : Nat) : Int)), x9, x10, x11]) ?_ ?_ ?_
    ⟨none, none, none, hE1, putS, by omega, by simpa [natI] using put_get hout hc, rfl⟩
  · rintro i v m τ hv ⟨x9, x10, x11, hE2, hc2, hi, ho2, rfl⟩ K hK
    have hw : i ≤ 1 ∧ v = .int (i : Int) := by
      match i, hv with
      | 0, hv => cases hv; exact ⟨by omega, rfl⟩
      | 1, hv => cases hv; exact ⟨by omega, rfl⟩
      | i + 2, hv => simp at hv
    obtain ⟨hw, rfl⟩ := hw
    have hLi : (L ++ natI ((List.range i).flatMap fun w => (setN (f * r) (TC f r sd w tg ks ws)).flatMap (FC f r sd stage w))).length ≤ 3200 := by
      rw [List.length_append, ints_len]
      match i, hw with
      | 0, _ => simp; omega
      | 1, _ =>
        have := len 0
        simp only [List.range_succ, List.range_zero, List.nil_append, List.flatMap_cons, List.flatMap_nil, List.append_nil]
        (clear hs hw n5; omega)
    simp only [bindV, List.set_cons_zero, List.set_cons_succ]
    refine K1 ?_
    simp only [We1, We2, We3, We14, Wes1, Wes2, varW, List.getElem?_cons_zero, List.getElem?_cons_succ, List.set_cons_zero, List.set_cons_succ]
    refine spec_push_step (G0.ext hE2) ?_
    simp only [Bi1, Bi2, Bi3]
    refine ⟨⟨by decide, by decide⟩, ?_⟩
    refine K12 ?_
    simp only [We2, We3, We14, Wes1, Wes2, varW, List.getElem?_cons_zero, List.getElem?_cons_succ]
    refine spec_shift_capture hb (G0.ext hE2) (pwn_lt B hs) (bAnd ?_)
    refine spec_squares_of (b := TC f r sd i tg ks ws) (N := f * r) ?_ (by (clear hL hLi hs; omega)) fun a τ1 ha hEa hla => ?_
    · refine lt_of_bits fun j hj => ?_
      unfold TC at hj
      rw [Nat.testBit_and, Bool.and_eq_true, shc_bit hb hs hw (pwn_lt B hs)] at hj
      obtain ⟨⟨sq, q1, q2, q3, q4⟩, _⟩ := hj
      rcases besC hb hs hw q1 with e | e
      · (clear hL hLi hs q1; omega)
      · exact absurd q3 e.1
    refine ⟨a, _, _, rfl, hla, rfl, ?_⟩
    have hao : a ≠ out := fun q => by rw [q, ho2] at ha; cases ha
    have sl1 := setN_len (f * r) (TC f r sd i tg ks ws)
    refine goals_loop (F := FC f r sd stage i) hla hao h0 (hE2.trans hEa) (hEa _ _ ho2) (by (clear hL hs; omega)) (FC_len f r sd stage i) ?_ ?_ ⟨x11, by simp only [List.set_cons_zero, List.set_cons_succ]⟩
    · intro x hx L' m τ2 _ hE3 ho3 hl3 ha3 K2 hK2
      obtain ⟨q1, q2⟩ := mem_cap hb B hs hw hx
      have hx' := (mem_setN.mp hx).1
      refine K10 ?_
      simp only [Wt9, We1, We2, We3, varW, List.getElem?_cons_zero, List.getElem?_cons_succ, List.set_cons_zero, List.set_cons_succ]
      refine bShl (a := 1) (by (clear hL hLi hl3 hs q1 sl1; omega)) (by (clear hL hLi hl3 hs q1 sl1; omega)) (bAnd ?_)
      simp only [truthW]
      rw [dec0]
      cases hq : (lastM f r sd).testBit x with
      | true =>
        have : ¬ (lastM f r sd &&& 1 <<< x = 0) := fun e => by rw [cap_test.mp e] at hq; cases hq
        simp only [this, decide_false, Bool.not_false]
        refine K8 ?_
        simp only [We1, We2, We3, We14, Wes1, Wes2, varW, List.getElem?_cons_zero, List.getElem?_cons_succ]
        simp only [Bi2]
        rw [q1]
        refine spec_add_promotions (σ0 := fun b => if b = out then none else τ2 b) q2 (fun b o e => ?_) (if_pos rfl) ho3 (by (clear hL hLi hs n5 q1 sl1; omega)) fun τ3 hE4 ho4 => ⟨rfl, ?_⟩
        · dsimp only at e
          split at e
          · cases e
          · exact e
        simp only [Wss1]
        have keep : ∀ b o, b ≠ out → τ2 b = some o → τ3 b = some o := fun b o hb e => hE4 b o ((if_neg hb).trans e)
        refine hK2 _ _ ⟨_, rfl⟩ (fun b o e => keep b o (neOf e h0) (hE3 _ _ e)) keep ?_
        rw [ho4]; unfold FC; rw [hq]; rfl
      | false =>
        have : lastM f r sd &&& 1 <<< x = 0 := cap_test.mpr hq
        simp only [this, decide_true, Bool.not_true]
        refine K8 ?_
        simp only [We1, We2, We3, We14, We21, Wes1, Wes2, varW, List.getElem?_cons_zero, List.getElem?_cons_succ]
        refine ⟨isL ho3, ?_⟩
        simp only [Bi2]
        rw [q1]
        refine spec_pack_move (s := 0) (p := 0) q2 (by (clear hL hLi hl3 hs q1 sl1 this; omega)) (by (clear hL hLi hl3 hs q1 sl1 this; omega)) (by (clear hL hLi hl3 hs q1 sl1 this; omega)) (appGo ho3 (by rw [zs_len]; (clear hL hLi hs n5 q1 sl1 this; omega)) ⟨rfl, ?_⟩)
        rw [zs_snocI]
        simp only [Wss1]
        refine hK2 _ _ ⟨_, rfl⟩ (hE3.put h0) (fun b o hb e => by rw [putN hb]; exact e) ?_
        rw [putS]; unfold FC; rw [hq]; rfl
    · rintro m τ2 ⟨v, rfl⟩ hE3 hk3 ho3
      simp only [Wss1, List.set_cons_zero, List.set_cons_succ]
      refine hK _ _ ⟨_, _, _, hE3, hk3 c _ hco (hEa _ _ hc2), by (clear hL hLi hi hs n5 sl1; omega), ?_, rfl⟩
      rw [ho3, List.range_succ, List.flatMap_append, ints_append, List.append_assoc]
      simp
  · rintro i m τ ⟨_, _, _, _, h, _⟩; exact h
  · rintro m τ ⟨x9, x10, x11, hE2, hc2, hi, ho2, rfl⟩
    simp only [Wss1]
    exact h τ hE2 ho2

noncomputable def progM (f r : Nat) (dbl : Bool) (sd stage tg : Nat) (ks ws : List Nat) : List Nat :=
  (if stage = 0 then [] else ((setN (f * r) (T1 f r sd tg ks ws)).map fun x => mv (org1 f sd x) x 0 0) ++ (setN (f * r) (T2 f r dbl sd tg ks ws)).map fun x => mv (org2 f sd x) x 0 0) ++
  ((setN (f * r) (T3 f r sd tg ks ws)).flatMap fun x => promos stage false (org1 f sd x) x) ++
  (if stage = 1 then [] else (List.range 2).flatMap fun w => (setN (f * r) (TC f r sd w tg ks ws)).flatMap (FC f r sd stage w))

theorem spec_pawn_moves {sd out tg stage : Nat} {L : List Int} (S : Std σ0 g f r dbl p sd n bd ks ws) (hE : Ext σ0 σ) (h0 : σ0 out = none) (hout : σ out = some (.list (zs L))) (hL : L.length ≤ 10)
    (h : ∀ σ', Ext σ0 σ' → σ' out = some (.list (zs (L ++ natI (progM f r dbl sd stage tg ks ws)))) → Q .none σ') :
    callW P (k + 4) 18 [.ref p, .int (stage : Int), .int (tg : Int), .ref out] Q σ := by
  obtain ⟨n1, n2, n3, n4, n5⟩ := bd_num S.hb
  refine callW_go rfl rfl ?_
  simp only [B_add_pawn_moves, List.map_cons, List.map_nil, List.replicate_zero, List.append_nil]
  have l1 := setN_len (f * r) (T1 f r sd tg ks ws)
  have l2 := setN_len (f * r) (T2 f r dbl sd tg ks ws)
  have l3 := setN_len (f * r) (T3 f r sd tg ks ws)
  have l4 : ((setN (f * r) (T3 f r sd tg ks ws)).flatMap fun x => promos stage false (org1 f sd x) x).length ≤ 120 := by
    have flen : ∀ l : List Nat, (l.flatMap fun x => promos stage false (org1 f sd x) x).length ≤ 4 * l.length := by
      intro l
      induction l with
      | nil => simp
      | cons x r' ih => rw [List.flatMap_cons, List.length_append, List.length_cons]; have := promos_len stage false (org1 f sd x) x; (clear hL l1 l2 l3 n5; omega)
    have := flen (setN (f * r) (T3 f r sd tg ks ws))
    (clear hL l1 l2; omega)
  have tail : ∀ (L1 : List Int) (τ : AHeap), Ext σ0 τ → τ out = some (.list (zs L1)) → L1.length ≤ 2400 → L1 = L ++ natI (if stage = 0 then [] else ((setN (f * r) (T1 f r sd tg ks ws)).map fun x => mv (org1 f sd x) x 0 0) ++ (setN (f * r) (T2 f r dbl sd tg ks ws)).map fun x => mv (org2 f sd x) x 0 0) →
      wpSs (callW P (k + 3)) [(.ex (.call 16 [(.var 0), (.var 1), (.var 2), (.var 3)])), (.iff (.cmp .NotEq (.var 1) (.lit (.int 1))) [(.ex (.call 17 [(.var 0), (.var 1), (.var 2), (.var 3)]))] [])]
        [some (.ref p), some (.int (stage : Int)), some (.int (tg : Int)), some (.ref out)] (fun fl x σ1 => Q (match fl with | .ret v => v | _ => .none) σ1) τ := by
    intro L1 τ hE1 ho1 hl1 e1
    refine K8 ?_
    simp only [We2, We14, Wes1, Wes2, varW, List.getElem?_cons_zero, List.getElem?_cons_succ]
    refine spec_promo S hE1 h0 ho1 (by (clear hL l1 l2 l3 l4 n5; omega)) fun τ2 hE2 ho2 => ⟨rfl, ?_⟩
    refine K10 ?_
    simp only [Wt4, We1, We2, varW, List.getElem?_cons_zero, List.getElem?_cons_succ]
    refine cNeN (b := 1) ?_
    by_cases s1 : stage = 1
    · simp only [s1, decide_true, Bool.not_true, Wss1]
      refine h τ2 hE2 ?_
      rw [ho2, e1]; unfold progM; rw [if_pos s1, s1]; simp [natI]
    · simp only [s1, decide_false, Bool.not_false]
      refine K8 ?_
      simp only [We2, We14, Wes1, Wes2, varW, List.getElem?_cons_zero, List.getElem?_cons_succ]
      refine spec_caps S hE2 h0 ho2 (by rw [List.length_append, ints_len]; (clear hL l1 l2 l3 n5; omega)) fun τ3 hE3 ho3 => ⟨rfl, ?_⟩
      simp only [Wss1]
      refine h τ3 hE3 ?_
      rw [ho3, e1]; unfold progM; rw [if_neg s1]; simp only [List.append_assoc, ints_append]
  refine K10 ?_
  simp only [Wt4, We1, We2, varW, retOf, List.getElem?_cons_zero, List.getElem?_cons_succ]
  refine cNeN (b := 0) ?_
  by_cases s0 : stage = 0
  · simp only [s0, decide_true, Bool.not_true]
    rw [Wss1]
    dsimp only
    have := tail L σ hE hout (by (clear l1 l2 l3 l4 n5 s0; omega)) (by rw [if_pos s0]; simp [natI])
    rw [s0] at this
    exact this
  · simp only [s0, decide_false, Bool.not_false]
    refine K8 ?_
    simp only [We2, We14, Wes1, Wes2, varW, List.getElem?_cons_zero, List.getElem?_cons_succ]
    refine spec_plain S hE h0 hout (by (clear l1 l2 l3 l4 n5; omega)) fun τ hE1 ho1 => ⟨rfl, ?_⟩
    rw [Wss1]
    dsimp only
    refine tail _ τ hE1 ho1 ?_ (by rw [if_neg s0, List.append_assoc, ints_append])
    simp only [List.length_append, ints_len, List.length_map]; omega
end
end Pf
end

section
set_option autoImplicit false
set_option maxRecDepth 100000
set_option linter.unusedSimpArgs false
set_option linter.unusedVariables false
namespace Pf
open PySem (Operator CmpOp UnaryOp)

section
variable {k f r g p n : Nat} {dbl : Bool} {bd ks ws : List Nat} {Q : AVal → AHeap → Prop} {σ σ0 : AHeap}
theorem ext_put2 {a : Nat} {o : AObj} (h : σ a = none) : Ext σ (put σ a o) := Ext.refl.put h
theorem spec_kinds {stage : Nat} {cap : Bool} (h : ∀ c σ', σ c = none → Ext σ σ' → σ' c = some (.list (zs (natI (kindsN stage cap)))) → Q (.ref c) σ') : callW P (k + 1) 36 [.int (stage : Int), .bool cap] Q σ := by
  refine callW_go rfl rfl ?_
  simp only [B_law_kinds, List.map_cons, List.map_nil, List.replicate_succ, List.replicate_zero, List.nil_append, List.cons_append]
  refine K1 ?_
  simp only [We1, We22, Wes1, Wes2, retOf, List.set_cons_zero, List.set_cons_succ, List.length_cons, List.length_nil]
  refine ⟨by decide, fun c hc => ?_⟩
  have E1 : Ext σ (put σ c (.list [.int 4, .int 3, .int 2])) := ext_put2 hc
  have hc1 : put σ c (.list [.int 4, .int 3, .int 2]) c = some (.list [.int 4, .int 3, .int 2]) := putS
  generalize put σ c (.list [.int 4, .int 3, .int 2]) = τ at E1 hc1
  have nn : ∀ {x : Nat} {τ' : AHeap}, Ext σ τ' → τ' x = none → σ x = none := fun {x τ'} e h => by
    cases q : σ x with
    | none => rfl
    | some o => have := e _ _ q; rw [h] at this; cases this
  refine K10 ?_
  simp only [Wt4, We1, We2, varW, List.getElem?_cons_zero]
  refine cEqN (b := 0) ?_
  by_cases s0 : stage = 0
  · simp only [s0, decide_true]
    refine K9 ?_
    simp only [We1, We2, We3, We10, We22, Wes1, Wes2, varW, Wt8, List.getElem?_cons_zero, List.getElem?_cons_succ, List.length_cons, List.length_nil]
    refine ⟨by decide, fun d hd => ?_⟩
    have hc2 := put_get (o' := AObj.list [.int 5]) hc1 hd
    cases cap with
    | true =>
      simp only [truthW, Bi12, putS, hc2]
      refine ⟨⟨by decide, by decide⟩, fun e he => h e _ ?_ ?_ ?_⟩
      · exact nn (fun b o q => put_get (E1 _ _ q) hd) he
      · exact fun b o q => put_get (put_get (E1 _ _ q) hd) he
      · rw [putS, s0]; rfl
    | false =>
      simp only [truthW]
      refine ⟨by decide, fun e0 he0 => ?_⟩
      have hd2 : put τ d (.list [.int 5]) d = some (.list [.int 5]) := putS
      simp only [Bi12, putS, put_get hd2 he0]
      refine ⟨⟨by decide, by decide⟩, fun e he => h e _ ?_ ?_ ?_⟩
      · exact nn (fun b o q => put_get (put_get (E1 _ _ q) hd) he0) he
      · exact fun b o q => put_get (put_get (put_get (E1 _ _ q) hd) he0) he
      · rw [putS, s0]; rfl
  · simp only [s0, decide_false]
    rw [Wss1]
    dsimp only
    refine K10 ?_
    simp only [Wt4, We1, We2, varW, List.getElem?_cons_zero]
    refine cEqN (b := 1) ?_
    by_cases s1 : stage = 1
    · simp only [s1, decide_true]
      refine K9 ?_
      simp only [We2, We10, We22, Wes1, varW, Wt8, List.getElem?_cons_zero, List.getElem?_cons_succ, List.length_nil]
      cases cap with
      | true =>
        simp only [truthW]
        refine ⟨by decide, fun e he => h e _ (nn E1 he) (fun b o q => put_get (E1 _ _ q) he) ?_⟩
        rw [putS, s1]; rfl
      | false =>
        simp only [truthW]
        refine h c τ hc E1 ?_
        rw [hc1, s1]; rfl
    · simp only [s1, decide_false]
      rw [Wss1]
      dsimp only
      refine K9 ?_
      simp only [We1, We2, We3, We22, Wes1, Wes2, varW, List.getElem?_cons_zero, List.getElem?_cons_succ, List.length_cons, List.length_nil]
      refine ⟨by decide, fun d hd => ?_⟩
      simp only [Bi12, putS, put_get hc1 hd]
      refine ⟨⟨by decide, by decide⟩, fun e he => h e _ ?_ ?_ ?_⟩
      · exact nn (fun b o q => put_get (E1 _ _ q) hd) he
      · exact fun b o q => put_get (put_get (E1 _ _ q) hd) he
      · rw [putS]; unfold kindsN lesser; rw [if_neg s1, if_neg s0, if_neg s1]; rfl

theorem kinds_mem {stage : Nat} {cap : Bool} {x : Nat} (h : x ∈ kindsN stage cap) : 2 ≤ x ∧ x ≤ 7 := by
  unfold kindsN at h
  rw [List.mem_append] at h
  rcases h with h | h <;> split at h <;> simp at h <;> omega

/-- the moves of a pawn to one goal, by the law -/
noncomputable def emit (f lastR stage tg sq g : Nat) (cap : Bool) : List Nat :=
  if tg.testBit g = false then [] else if cap = true ∧ stage = 1 then [] else if g / f = lastR then promos stage cap sq g else if cap = true ∨ stage ≠ 0 then [mv sq g 0 0] else []
noncomputable def emitI (f lastR stage tg sq : Nat) (q : Int × Bool) : List Nat := if q.1 < 0 then [] else emit f lastR stage tg sq q.1.toNat q.2
theorem emit_len (f lastR stage tg sq g : Nat) (cap : Bool) : (emit f lastR stage tg sq g cap).length ≤ 4 := by
  unfold emit
  split
  · simp
  · split
    · simp
    · split
      · exact promos_len _ _ _ _
      · split <;> simp
theorem emitI_len (f lastR stage tg sq : Nat) (q : Int × Bool) : (emitI f lastR stage tg sq q).length ≤ 4 := by
  unfold emitI
  split
  · simp
  · exact emit_len _ _ _ _ _ _ _

noncomputable def emitBody : List St := [(.iff (.or [(.cmp .Lt (.var 14) (.lit (.int 0))), (.cmp .Eq (.bin .Mod (.bin .FloorDiv (.var 6) (.bin .Pow (.lit (.int 2)) (.var 14))) (.lit (.int 2))) (.lit (.int 0))), (.and [(.var 15), (.cmp .Eq (.var 5) (.lit (.int 1)))])]) [.cont] []), (.iff (.cmp .Eq (.bin .FloorDiv (.var 14) (.var 1)) (.var 8)) [(.augV .Add 7 (.comp (.call 3 [(.var 9), (.var 14), (.lit (.int 1)), (.var 16)]) 16 (.call 36 [(.var 5), (.var 15)]) []))] [(.iff (.or [(.var 15), (.cmp .NotEq (.var 5) (.lit (.int 0)))]) [(.ex (.app (.var 7) (.call 3 [(.var 9), (.var 14), (.lit (.int 0)), (.lit (.int 0))])))] [])])]

theorem spec_emit {bl side stage tg fo lastR sq : Nat} {gl : Int} {cap : Bool} {L : List Nat} {x10 x11 x12 x13 : Option AVal} {Q : AFlow → Loc → AHeap → Prop} (hf : 0 < f) (hf' : f ≤ 1000) (hg : gl < 30) (hsq : sq ≤ 64) (hE : Ext σ0 σ) (h0 : σ0 fo = none) (hfo : σ fo = some (.list (zs (natI L)))) (hL : L.length ≤ 990)
    (h : ∀ fl x7 σ', (fl = .next ∨ fl = .cont) → Ext σ0 σ' → (∀ b o, b ≠ fo → σ b = some o → σ' b = some o) → σ' fo = some (.list (zs (natI (L ++ emitI f lastR stage tg sq (gl, cap))))) → x7 = .ref fo →
      Q fl [some (.ref bl), some (.int (f : Int)), some (.int (r : Int)), some (.bool dbl), some (.int (side : Int)), some (.int (stage : Int)), some (.int (tg : Int)), some x7, some (.int (lastR : Int)), some (.int (sq : Int)), x10, x11, x12, x13, some (.int gl), some (.bool cap), none] σ') :
    wpSs (callW P (k + 2)) emitBody [some (.ref bl), some (.int (f : Int)), some (.int (r : Int)), some (.bool dbl), some (.int (side : Int)), some (.int (stage : Int)), some (.int (tg : Int)), some (.ref fo), some (.int (lastR : Int)), some (.int (sq : Int)), x10, x11, x12, x13, some (.int gl), some (.bool cap), none] Q σ := by
  unfold emitBody
  have skip : emitI f lastR stage tg sq (gl, cap) = [] → ∀ fl, (fl = AFlow.next ∨ fl = .cont) → Q fl [some (.ref bl), some (.int (f : Int)), some (.int (r : Int)), some (.bool dbl), some (.int (side : Int)), some (.int (stage : Int)), some (.int (tg : Int)), some (.ref fo), some (.int (lastR : Int)), some (.int (sq : Int)), x10, x11, x12, x13, some (.int gl), some (.bool cap), none] σ := by
    intro e fl hfl
    exact h fl _ σ hfl hE (fun _ _ _ e => e) (by rw [hfo, e]; simp) rfl
  refine K10 ?_
  simp only [Wt2, Wt3, Wt4, Wt8, Wts1, Wts2, We1, We2, We3, varW, List.getElem?_cons_zero, List.getElem?_cons_succ]
  refine cInt (show icmp .Lt _ _ = _ from rfl) ?_
  by_cases hneg : gl < 0
  · simp only [hneg, decide_true, Bool.true_eq_false, if_false, Bool.not_false]
    simp only [Wss1, Wss2, Ws5, Ws8, Ws10, Ws14]
    exact skip (by unfold emitI; rw [if_pos hneg]) _ (.inr rfl)
  · simp only [hneg, decide_false, if_true]
    obtain ⟨gn, rfl⟩ : ∃ gn : Nat, gl = (gn : Int) := ⟨gl.toNat, by (clear hL hg hsq; omega)⟩
    have gn30 : gn < 30 := by (clear hL hfo hsq; omega)
    have eI : emitI f lastR stage tg sq ((gn : Int), cap) = emit f lastR stage tg sq gn cap := by unfold emitI; rw [if_neg hneg]; rfl
    rw [eI] at h skip
    refine bPow (by (clear hL hsq; omega)) ?_
    have p30 : 2 ^ gn ≤ 2 ^ 29 := Nat.pow_le_pow_right (by decide) (by (clear hL hsq; omega))
    have ppos := Nat.two_pow_pos gn
    refine bDiv ppos (by (clear hL hsq ppos; omega)) (bMod (b := 2) (by decide) (cEqN (b := 0) ?_))
    have tb := tbit_div tg gn
    cases hb : tg.testBit gn with
    | false =>
      have : tg / 2 ^ gn % 2 = 0 := by
        rcases Nat.mod_two_eq_zero_or_one (tg / 2 ^ gn) with q | q
        · exact q
        · have := tb.mp q; rw [hb] at this; cases this
      simp only [this, decide_true, Bool.true_eq_false, if_false, Bool.not_false]
      simp only [Wss1, Wss2, Ws5, Ws8, Ws10, Ws14]
      exact skip (by unfold emit; rw [if_pos hb]) _ (.inr rfl)
    | true =>
      have : ¬ (tg / 2 ^ gn % 2 = 0) := by have := tb.mpr hb; (clear hL hsq; omega)
      simp only [this, decide_false, if_true]
      have behind : ¬ (cap = true ∧ stage = 1) → wpSs (callW P (k + 2)) [(.iff (.cmp .Eq (.bin .FloorDiv (.var 14) (.var 1)) (.var 8)) [(.augV .Add 7 (.comp (.call 3 [(.var 9), (.var 14), (.lit (.int 1)), (.var 16)]) 16 (.call 36 [(.var 5), (.var 15)]) []))] [(.iff (.or [(.var 15), (.cmp .NotEq (.var 5) (.lit (.int 0)))]) [(.ex (.app (.var 7) (.call 3 [(.var 9), (.var 14), (.lit (.int 0)), (.lit (.int 0))])))] [])])] [some (.ref bl), some (.int (f : Int)), some (.int (r : Int)), some (.bool dbl), some (.int (side : Int)), some (.int (stage : Int)), some (.int (tg : Int)), some (.ref fo), some (.int (lastR : Int)), some (.int (sq : Int)), x10, x11, x12, x13, some (.int (gn : Int)), some (.bool cap), none] Q σ := by
        intro hcs
        refine K10 ?_
        simp only [Wt4, We2, We3, varW, List.getElem?_cons_zero, List.getElem?_cons_succ]
        refine bDiv hf (by (clear hL hf hsq; omega)) (cEqN ?_)
        by_cases hl : gn / f = lastR
        · simp only [hl, decide_true]
          refine K5 ?_
          simp only [We1, We2, We14, We24, Wes1, Wes2, varW, List.getElem?_cons_zero, List.getElem?_cons_succ, List.set_cons_zero, List.set_cons_succ]
          refine spec_kinds fun c σ1 hc hE1 hc1 => ?_
          refine ⟨c, _, _, rfl, hc1, rfl, by rw [zi_len]; have := promos_len stage cap 0 0; unfold promos at this; rw [List.length_map] at this; (clear hL hl hsq; omega), fun d hd => ?_⟩
          refine compN_ints (tst := fun _ => true) (g := fun y => ((mv sq gn 1 y.toNat : Nat) : Int)) hd hc1 ?_ ?_ (by have := promos_len stage cap 0 0; unfold promos at this; rw [List.length_map] at this; simp [natI]; (clear hL hl hsq; omega)) fun σ2 hE2 hd2 => ?_
          · intro y _ σ' K' _ hK'
            simp only [Wts1]; exact hK'
          · intro y hy _ σ' K' _ hK'
            obtain ⟨z, hz, rfl⟩ := List.mem_map.mp hy
            obtain ⟨z1, z2⟩ := kinds_mem hz
            simp only [List.getElem?_cons_zero, List.getElem?_cons_succ, List.set_cons_zero, List.set_cons_succ]
            refine spec_pack_move (s := 1) (p := z) hsq (by omega) z2 (fun _ => z1) (hK' σ' Ext.refl)
          rw [List.filter_eq_self.mpr fun _ _ => rfl] at hd2
          have e2 : (natI (kindsN stage cap)).map (fun y => ((mv sq gn 1 y.toNat : Nat) : Int)) = natI (promos stage cap sq gn) := by
            unfold natI promos
            simp [List.map_map, Function.comp_def]
          rw [e2] at hd2
          have hfo2 := hE2 _ _ (hE1 _ _ hfo)
          have nd : fo ≠ d := fun q => by rw [← q, hE1 _ _ hfo] at hd; cases hd
          simp only [augW, hfo2, hd2]
          refine ⟨nd, ⟨by rw [zi_len]; (clear hl hsq; omega), by rw [zi_len]; have := promos_len stage cap sq gn; (clear hL hl hsq; omega)⟩, ?_⟩
          rw [← zs_append, ← ints_append]
          simp only [Wss1]
          refine h .next _ _ (.inl rfl) ((hE.trans (hE1.trans hE2)).put h0) (fun b o hb e => by rw [putN hb]; exact hE2 _ _ (hE1 _ _ e)) ?_ rfl
          rw [putS]; unfold emit; rw [if_neg (by rw [hb]; decide), if_neg hcs, if_pos hl]
        · simp only [hl, decide_false]
          refine K10 ?_
          simp only [Wt3, Wt4, Wt8, Wts1, Wts2, We1, We2, varW, List.getElem?_cons_zero, List.getElem?_cons_succ]
          have add : (cap = true ∨ stage ≠ 0) → wpSs (callW P (k + 2)) [(.ex (.app (.var 7) (.call 3 [(.var 9), (.var 14), (.lit (.int 0)), (.lit (.int 0))])))] [some (.ref bl), some (.int (f : Int)), some (.int (r : Int)), some (.bool dbl), some (.int (side : Int)), some (.int (stage : Int)), some (.int (tg : Int)), some (.ref fo), some (.int (lastR : Int)), some (.int (sq : Int)), x10, x11, x12, x13, some (.int (gn : Int)), some (.bool cap), none] (fun fl m1 σ1 => match fl with
              | .next => wpSs (callW P (k + 2)) [] m1 (fun fl m1 σ1 => match fl with
                | .next => wpSs (callW P (k + 2)) [] m1 Q σ1
                | fl => Q fl m1 σ1) σ1
              | fl => (match fl with
                | .next => wpSs (callW P (k + 2)) [] m1 Q σ1
                | fl => Q fl m1 σ1)) σ := by
            intro hor
            refine K8 ?_
            simp only [We1, We2, We14, We21, Wes1, Wes2, varW, List.getElem?_cons_zero, List.getElem?_cons_succ]
            refine ⟨isL hfo, spec_pack_move (s := 0) (p := 0) hsq (by omega) (by omega) (by omega) (appGo hfo (by rw [zi_len]; (clear hsq; omega)) ⟨rfl, ?_⟩)⟩
            rw [zs_snoc]
            simp only [Wss1]
            refine h .next _ _ (.inl rfl) (hE.put h0) (fun b o hb e => by rw [putN hb]; exact e) ?_ rfl
            rw [putS]; unfold emit; rw [if_neg (by rw [hb]; decide), if_neg hcs, if_neg hl, if_pos hor]
          have no : ¬ (cap = true ∨ stage ≠ 0) → Q .next [some (.ref bl), some (.int (f : Int)), some (.int (r : Int)), some (.bool dbl), some (.int (side : Int)), some (.int (stage : Int)), some (.int (tg : Int)), some (.ref fo), some (.int (lastR : Int)), some (.int (sq : Int)), x10, x11, x12, x13, some (.int (gn : Int)), some (.bool cap), none] σ := fun hor =>
            skip (by unfold emit; rw [if_neg (by rw [hb]; decide), if_neg hcs, if_neg hl, if_neg hor]) _ (.inl rfl)
          cases cap with
          | true =>
            simp only [truthW, Bool.true_eq_false, if_false, Bool.not_false]
            simp only [Wss1, Wss2] at add ⊢
            exact add (by simp)
          | false =>
            simp only [truthW, if_true]
            refine cNeN (b := 0) ?_
            by_cases s0 : stage = 0
            · simp only [s0, decide_true, Bool.not_true, if_true, Wss1, Wss2]
              have := no (by simp [s0])
              rw [s0] at this; exact this
            · simp only [s0, decide_false, Bool.not_false, Bool.true_eq_false, if_false]
              simp only [Wss1, Wss2] at add ⊢
              exact add (by simp [s0])
      cases cap with
      | false =>
        simp only [truthW, Bool.false_eq_true, if_false, Bool.not_true, if_true]
        rw [Wss1]
        exact behind (by simp)
      | true =>
        simp only [truthW, if_true]
        refine cEqN (b := 1) ?_
        by_cases s1 : stage = 1
        · simp only [s1, decide_true, if_true, Bool.true_eq_false, if_false, Bool.not_false]
          simp only [Wss1, Wss2, Ws5, Ws8, Ws10, Ws14]
          have := skip (by unfold emit; rw [if_neg (by rw [hb]; decide), if_pos ⟨rfl, s1⟩]) .cont (.inr rfl)
          rw [s1] at this; exact this
        · simp only [s1, decide_false, Bool.false_eq_true, if_false, Bool.not_true, if_true]
          rw [Wss1]
          exact behind (by simp [s1])
end
end Pf
end

section
set_option autoImplicit false
set_option maxRecDepth 100000
set_option linter.unusedSimpArgs false
set_option linter.unusedVariables false
namespace Pf
open PySem (Operator CmpOp UnaryOp)

noncomputable def gC (f r side sq w : Nat) : Int := bes f r sq (wx w) (up side)
noncomputable def capOk (f r side : Nat) (bd : List Nat) (sq w : Nat) : Bool := decide (0 ≤ gC f r side sq w) && (!decide (bd.getD (gC f r side sq w).toNat 0 = 0) && !decide (bd.getD (gC f r side sq w).toNat 0 / 8 = side))
noncomputable def capG (f r side : Nat) (bd : List Nat) (sq w : Nat) : List (Int × Bool) := if capOk f r side bd sq w then [(gC f r side sq w, true)] else []
noncomputable def goalsL (f r : Nat) (dbl : Bool) (side : Nat) (bd : List Nat) (sq : Nat) : List (Int × Bool) := [(st1 f side bd sq, false), (st2 f r dbl side bd sq, false)] ++ capG f r side bd sq 1 ++ capG f r side bd sq 0
noncomputable def lastR (r side : Nat) : Nat := if side = 0 then r - 1 else 0
noncomputable def lawSq (f r : Nat) (dbl : Bool) (side stage tg : Nat) (bd : List Nat) (sq : Nat) : List Nat := (goalsL f r dbl side bd sq).flatMap (emitI f (lastR r side) stage tg sq)
noncomputable def lawM (f r : Nat) (dbl : Bool) (side stage tg : Nat) (bd : List Nat) : List Nat := (PL (f * r) side bd).flatMap (lawSq f r dbl side stage tg bd)

noncomputable def GL (τ : AHeap) (ts : List Nat) (gl : List (Int × Bool)) : Prop := ts.length = gl.length ∧ ∀ (j : Nat) q, gl[j]? = some q → ∃ t, ts[j]? = some t ∧ τ t = some (.tup [.int q.1, .bool q.2])
theorem GL.keep {τ τ' : AHeap} {ts : List Nat} {gl : List (Int × Bool)} {a : Nat} {xs : List AVal} (h : GL τ ts gl) (ha : τ a = some (.list xs)) (k : ∀ b o, b ≠ a → τ b = some o → τ' b = some o) : GL τ' ts gl := by
  refine ⟨h.1, fun j q e => ?_⟩
  obtain ⟨t, e1, e2⟩ := h.2 j q e
  exact ⟨t, e1, k t _ (fun z => by rw [z, ha] at e2; cases e2) e2⟩
theorem GL.snoc {τ : AHeap} {ts : List Nat} {gl : List (Int × Bool)} {t : Nat} {q : Int × Bool} (h : GL τ ts gl) (ht : τ t = some (.tup [.int q.1, .bool q.2])) : GL τ (ts ++ [t]) (gl ++ [q]) := by
  refine ⟨by simp [h.1], fun j q' e => ?_⟩
  rcases Nat.lt_or_ge j gl.length with z | z
  · rw [List.getElem?_append_left z] at e
    obtain ⟨u, e1, e2⟩ := h.2 j q' e
    exact ⟨u, by rw [List.getElem?_append_left (by rw [h.1]; exact z)]; exact e1, e2⟩
  · rw [List.getElem?_append_right z] at e
    have : j - gl.length = 0 := by
      rcases Nat.eq_zero_or_pos (j - gl.length) with w | w
      · exact w
      · rw [List.getElem?_eq_none (by simp; (clear z; omega))] at e; cases e
    rw [this] at e
    simp at e
    subst e
    exact ⟨t, by rw [List.getElem?_append_right (by rw [h.1]; exact z), h.1, this]; rfl, ht⟩

section
variable {k f r g p n : Nat} {dbl : Bool} {bd ks ws : List Nat} {Q : AVal → AHeap → Prop} {σ σ0 : AHeap}
theorem bes_lt30 (hb : (f, r, dbl) ∈ bds) (sq dx dy : Int) : bes f r sq dx dy < ((f * r : Nat) : Int) := by
  obtain ⟨n1, n2, n3, n4, n5⟩ := bd_num hb
  unfold bes
  split
  · rename_i h
    obtain ⟨⟨h1, h2⟩, h3, h4⟩ := h
    have a1 : (sq / f + dy) * f ≤ ((r : Int) - 1) * f := Int.mul_le_mul_of_nonneg_right (by (clear n5; omega)) (by (clear n2 n5; omega))
    have a2 : ((r : Int) - 1) * f = ((f * r : Nat) : Int) - f := by
      rw [Int.sub_mul, Int.natCast_mul, Int.mul_comm]; omega
    (clear h1; omega)
  · have : 3 * 3 ≤ f * r := Nat.mul_le_mul n1 n3
    (clear n5 this; omega)
theorem goals_lt (hb : (f, r, dbl) ∈ bds) (B : BI f r n bd ks ws) {side sq : Nat} (hs : side ≤ 1) (ho : bd.getD sq 0 = 1 + 8 * side) {q : Int × Bool} (h : q ∈ goalsL f r dbl side bd sq) : q.1 < 30 := by
  obtain ⟨n1, n2, n3, n4, n5⟩ := bd_num hb
  unfold goalsL at h
  simp only [List.mem_append, List.mem_cons, List.not_mem_nil, or_false] at h
  have cc : ∀ w, q ∈ capG f r side bd sq w → q.1 < 30 := by
    intro w hq
    unfold capG at hq
    split at hq
    · simp at hq; rw [hq]
      have := bes_lt30 hb sq (wx w) (up side)
      unfold gC; dsimp only; (clear ho hs; omega)
    · simp at hq
  rcases h with (h | h) | h
  · rcases h with rfl | rfl
    · unfold st1
      have := tgt1_lt B hs ho
      dsimp only; split <;> omega
    · unfold st2
      dsimp only
      split
      · rename_i hm
        rcases bes2 hb hs (own_lt B ho) with e | e
        · (clear ho hs; omega)
        · have := (may2_iff.mp hm).2.2.1; rw [e.1] at this; cases this
      · omega
  · exact cc 1 h
  · exact cc 0 h
theorem goals_len (f r : Nat) (dbl : Bool) (side : Nat) (bd : List Nat) (sq : Nat) : (goalsL f r dbl side bd sq).length ≤ 4 := by
  unfold goalsL capG
  simp only [List.length_append, List.length_cons, List.length_nil]
  split <;> split <;> simp
theorem flat_len {α : Type} {h : α → List Nat} {c : Nat} (hh : ∀ x, (h x).length ≤ c) : ∀ l : List α, (l.flatMap h).length ≤ c * l.length
  | [] => by simp
  | x :: r => by
    rw [List.flatMap_cons, List.length_append, List.length_cons, Nat.mul_add]
    have := hh x
    have := flat_len hh r
    omega
theorem lawSq_len (side stage tg sq : Nat) : (lawSq f r dbl side stage tg bd sq).length ≤ 16 := by
  unfold lawSq
  have := flat_len (emitI_len f (lastR r side) stage tg sq) (goalsL f r dbl side bd sq)
  have := goals_len f r dbl side bd sq
  omega

noncomputable def capBody : List St := [(.asg 14 (.call 31 [(.var 1), (.var 2), (.var 9), (.var 13), (.bin .Sub (.lit (.int 1)) (.bin .Mult (.lit (.int 2)) (.var 4)))])), (.iff (.and [(.cmp .GtE (.var 14) (.lit (.int 0))), (.cmp .NotEq (.sub (.var 0) (.var 14)) (.lit (.int 0))), (.cmp .NotEq (.bin .FloorDiv (.sub (.var 0) (.var 14)) (.lit (.int 8))) (.var 4))]) [(.ex (.app (.var 12) (.tup [(.var 14), (.lit (.bool true))])))] [])]

theorem spec_cap {cw : CW} {bl side stage tg fo lR sq gx w : Nat} {ts : List Nat} {gl : List (Int × Bool)} {x10 x11 x14 x15 : Option AVal} {Q : AFlow → Loc → AHeap → Prop} (hb : (f, r, dbl) ∈ bds) (hs : side ≤ 1) (hbl : σ bl = some (.list (zs (natI bd)))) (lb : bd.length = f * r) (hgx : σ gx = some (.list (ts.map .ref))) (hgl : GL σ ts gl) (hl : ts.length ≤ 10) (hcw : cw = callW P (k + 1))
    (h : ∀ σ' x14' ts', (∀ b o, b ≠ gx → σ b = some o → σ' b = some o) → σ' gx = some (.list (ts'.map .ref)) → GL σ' ts' (gl ++ capG f r side bd sq w) → ts'.length ≤ ts.length + 1 →
      Q .next [some (.ref bl), some (.int (f : Int)), some (.int (r : Int)), some (.bool dbl), some (.int (side : Int)), some (.int (stage : Int)), some (.int (tg : Int)), some (.ref fo), some (.int (lR : Int)), some (.int (sq : Int)), x10, x11, some (.ref gx), some (.int (wx w)), x14', x15, none] σ') :
    wpSs cw capBody [some (.ref bl), some (.int (f : Int)), some (.int (r : Int)), some (.bool dbl), some (.int (side : Int)), some (.int (stage : Int)), some (.int (tg : Int)), some (.ref fo), some (.int (lR : Int)), some (.int (sq : Int)), x10, x11, some (.ref gx), some (.int (wx w)), x14, x15, none] Q σ := by
  subst hcw
  obtain ⟨n1, n2, n3, n4, n5⟩ := bd_num hb
  unfold capBody
  refine K1 ?_
  simp only [We1, We2, We3, We14, Wes1, Wes2, varW, List.getElem?_cons_zero, List.getElem?_cons_succ, List.set_cons_zero, List.set_cons_succ, Bi2, Bi3]
  refine ⟨⟨by decide, by decide⟩, ?_⟩
  rw [show (1 : Int) - 2 * (side : Int) = up side from rfl]
  refine spec_beside (by (clear hl hs lb n2; omega)) (by (clear hl hs lb n1; omega)) (by (clear hl hs lb n3; omega)) ?_
  rw [show bes f r (sq : Int) (wx w) (up side) = gC f r side sq w from rfl]
  have glt := bes_lt30 hb sq (wx w) (up side)
  rw [show bes f r (sq : Int) (wx w) (up side) = gC f r side sq w from rfl] at glt
  have no : capOk f r side bd sq w = false → Q .next [some (.ref bl), some (.int (f : Int)), some (.int (r : Int)), some (.bool dbl), some (.int (side : Int)), some (.int (stage : Int)), some (.int (tg : Int)), some (.ref fo), some (.int (lR : Int)), some (.int (sq : Int)), x10, x11, some (.ref gx), some (.int (wx w)), some (.int (gC f r side sq w)), x15, none] σ := by
    intro hc
    refine h σ _ ts (fun _ _ _ e => e) hgx ?_ (by (clear glt hs lb; omega))
    unfold capG; rw [if_neg (by rw [hc]; decide), List.append_nil]; exact hgl
  refine K10 ?_
  simp only [Wt2, Wt4, Wts1, Wts2, We1, We2, We3, We12, varW, List.getElem?_cons_zero, List.getElem?_cons_succ]
  refine cInt (show icmp .GtE _ _ = _ from rfl) ?_
  by_cases h0 : 0 ≤ gC f r side sq w
  · simp only [h0, decide_true, if_true]
    obtain ⟨gn, hgn⟩ : ∃ gn : Nat, gC f r side sq w = (gn : Int) := ⟨(gC f r side sq w).toNat, by (clear hl hs lb; omega)⟩
    have hto : (gC f r side sq w).toNat = gn := by (clear h0 hl hs lb; omega)
    rw [hgn] at glt no ⊢
    have gb : bd[gn]? = some (bd.getD gn 0) := by
      rw [List.getD_eq_getElem?_getD, List.getElem?_eq_getElem (by (clear hl hs hto; omega))]; rfl
    refine subI hbl gb (by (clear hl hs hto lb; omega)) (cNeN (b := 0) ?_)
    by_cases h1 : bd.getD gn 0 = 0
    · simp only [h1, decide_true, Bool.not_true, Bool.false_eq_true, if_false]
      simp only [Wss1]
      exact no (by unfold capOk; rw [hto, h1]; simp)
    · simp only [h1, decide_false, Bool.not_false, if_true]
      refine subI hbl gb (by (clear h0 hgn hl hs hto lb; omega)) (bDiv (b := 8) (by decide) (by decide) (cNeN ?_))
      by_cases h2 : bd.getD gn 0 / 8 = side
      · simp only [h2, decide_true, Bool.not_true, Bool.false_eq_true, if_false]
        simp only [Wss1]
        exact no (by unfold capOk; rw [hto, h2]; simp)
      · simp only [h2, decide_false, Bool.not_false, if_true]
        refine K8 ?_
        simp only [We1, We2, We21, We23, Wes1, Wes2, varW, List.getElem?_cons_zero, List.getElem?_cons_succ, List.length_cons, List.length_nil]
        refine ⟨isL hgx, by decide, fun t ht => ?_⟩
        have hgx' := put_get (o' := AObj.tup [.int (gn : Int), .bool true]) hgx ht
        refine appGo hgx' (by rw [List.length_map]; (clear hs hto lb; omega)) ⟨rfl, ?_⟩
        simp only [Wss1]
        have ngt : gx ≠ t := neOf hgx ht
        refine h _ _ (ts ++ [t]) (fun b o hb e => by rw [putN hb]; exact put_get e ht) (by rw [putS]; simp) ?_ (by simp)
        have ck : capOk f r side bd sq w = true := by unfold capOk; rw [hto]; simp only [h0, h1, h2, decide_true, decide_false, Bool.not_false, Bool.and_self]
        unfold capG; rw [if_pos ck]
        have G1 : GL (put (put σ t (.tup [.int (gn : Int), .bool true])) gx (.list (ts.map .ref ++ [.ref t]))) ts gl := by
          refine ⟨hgl.1, fun j q e => ?_⟩
          obtain ⟨u, e1, e2⟩ := hgl.2 j q e
          refine ⟨u, e1, ?_⟩
          rw [putN (fun z => by rw [z, hgx] at e2; cases e2)]
          exact put_get e2 ht
        refine G1.snoc ?_
        rw [putN (Ne.symm ngt), putS]
        simp only [hgn]
  · simp only [h0, decide_false, Bool.false_eq_true, if_false, Bool.not_true]
    simp only [Wss1]
    exact no (by unfold capOk; simp [h0])

theorem spec_law_moves {bl side stage tg : Nat} (hb : (f, r, dbl) ∈ bds) (B : BI f r n bd ks ws) (hs : side ≤ 1) (hbl : σ bl = some (.list (zs (natI bd)))) (h64 : (lawM f r dbl side stage tg bd).length < 64)
    (h : ∀ c σ' (ms : List Int), ms.Perm (natI (lawM f r dbl side stage tg bd)) → ms.Pairwise (· ≤ ·) → σ c = none → Ext σ σ' → σ' c = some (.list (zs ms)) → Q (.ref c) σ') :
    callW P (k + 3) 37 [.ref bl, .int (f : Int), .int (r : Int), .bool dbl, .int (side : Int), .int (stage : Int), .int (tg : Int)] Q σ := by
  obtain ⟨n1, n2, n3, n4, n5⟩ := bd_num hb
  refine callW_go rfl rfl ?_
  simp only [B_law_moves, List.map_cons, List.map_nil, List.replicate_succ, List.replicate_zero, List.nil_append, List.cons_append]
  refine K1 ?_
  simp only [We22, Wes1, retOf, List.set_cons_zero, List.set_cons_succ, List.length_nil]
  refine ⟨by decide, fun fo hfo => ?_⟩
  have E1 : Ext σ (put σ fo (.list [])) := ext_put2 hfo
  have hfo1 : put σ fo (.list []) fo = some (.list (zs (natI []))) := putS
  generalize put σ fo (.list []) = τ at E1 hfo1
  refine K1 ?_
  simp only [We1, We2, We3, We10, varW, Wt4, List.getElem?_cons_zero, List.getElem?_cons_succ, List.set_cons_zero, List.set_cons_succ]
  refine cEqN (b := 0) ?_
  have main : wpSs (callW P (k + 2)) (B_law_moves.drop 2) [some (.ref bl), some (.int (f : Int)), some (.int (r : Int)), some (.bool dbl), some (.int (side : Int)), some (.int (stage : Int)), some (.int (tg : Int)), some (.ref fo), some (.int ((lastR r side : Nat) : Int)), none, none, none, none, none, none, none, none] (fun fl x σ1 => Q (match fl with | .ret v => v | _ => .none) σ1) τ := by
    simp only [B_law_moves, List.drop_succ_cons, List.drop_zero]
    refine K12 ?_
    simp only [We2, We3, We19, Wes1, Wes2, varW, List.getElem?_cons_zero, List.getElem?_cons_succ]
    refine bMul (by (clear h64 hs n1 n5; omega)) ?_
    first | refine Rg1 ?_ | refine Rg3 ?_
    refine ⟨⟨by (clear h64 hs n5; omega), by (clear h64 hs; omega)⟩, fun a ha => ⟨a, _, _, rfl, putS, rfl, ?_⟩⟩
    have hfa : fo ≠ a := neOf hfo1 ha
    rw [rangeL_nat]
    have plen : ∀ i, (((List.range i).filter fun s => decide (bd.getD s 0 = 1 + 8 * side)).flatMap (lawSq f r dbl side stage tg bd)).length ≤ 16 * i := by
      intro i
      have h1 := flat_len (fun sq => lawSq_len (f := f) (r := r) (dbl := dbl) (bd := bd) side stage tg sq) ((List.range i).filter fun s => decide (bd.getD s 0 = 1 + 8 * side))
      have h2 := List.length_filter_le (fun s => decide (bd.getD s 0 = 1 + 8 * side)) (List.range i)
      rw [List.length_range] at h2
      have : 16 * ((List.range i).filter fun s => decide (bd.getD s 0 = 1 + 8 * side)).length ≤ 16 * i := Nat.mul_le_mul_left 16 h2
      (clear h64 hs n5 this; omega)
    refine forN_rule (fun i m τ' => ∃ x9 x10 x11 x12 x13 x14 x15, i ≤ f * r ∧ Ext σ τ' ∧ τ' a = some (.range 0 ((f * r : Nat) : Int) 1) ∧ τ' fo = some (.list (zs (natI (((List.range i).filter fun s => decide (bd.getD s 0 = 1 + 8 * side)).flatMap (lawSq f r dbl side stage tg bd))))) ∧
        m = [some (.ref bl), some (.int (f : Int)), some (.int (r : Int)), some (.bool dbl), some (.int (side : Int)), some (.int (stage : Int)), some (.int (tg : Int)), some (.ref fo), some (.int ((lastR r side : Nat) : Int)), x9, x10, x11, x12, x13, x14, x15, none]) ?_ ?_ ?_
      ⟨none, none, none, none, none, none, none, Nat.zero_le _, fun b o e => put_get (E1 _ _ e) ha, putS, put_get hfo1 ha, rfl⟩
    · rintro i v m τ1 hv ⟨x9, x10, x11, x12, x13, x14, x15, hi, hE, hta, htf, rfl⟩ K hK
      have hv' : i < f * r ∧ v = .int (i : Int) := by
        unfold zs natI at hv
        rw [List.map_map, List.getElem?_map] at hv
        rcases Nat.lt_or_ge i (f * r) with q | q
        · rw [List.getElem?_range q] at hv; cases hv; exact ⟨q, rfl⟩
        · rw [List.getElem?_eq_none (by simpa using q)] at hv; cases hv
      obtain ⟨hlt, rfl⟩ := hv'
      have pl := plen i
      simp only [bindV, List.set_cons_zero, List.set_cons_succ]
      have hbl1 := hE _ _ hbl
      refine K10 ?_
      simp only [Wt4, We1, We2, We3, We12, varW, List.getElem?_cons_zero, List.getElem?_cons_succ]
      refine subI hbl1 (bd_get B hlt) (by (clear h64 hlt hs; omega)) ?_
      refine bMul (a := 8) (by decide) (bAdd (a := 1) (cNeN ?_))
      have rs : ((List.range (i + 1)).filter fun s => decide (bd.getD s 0 = 1 + 8 * side)) = ((List.range i).filter fun s => decide (bd.getD s 0 = 1 + 8 * side)) ++ (if bd.getD i 0 = 1 + 8 * side then [i] else []) := by
        rw [List.range_succ, List.filter_append]
        congr 1
        by_cases q : bd.getD i 0 = 1 + 8 * side
        · rw [if_pos q]; exact List.filter_cons_of_pos (p := fun s => decide (bd.getD s 0 = 1 + 8 * side)) (decide_eq_true q)
        · rw [if_neg q]; exact List.filter_cons_of_neg (p := fun s => decide (bd.getD s 0 = 1 + 8 * side)) (fun z => q (of_decide_eq_true z))
      by_cases ho : bd.getD i 0 = 1 + 8 * side
      · simp only [ho, decide_true, Bool.not_true]
        rw [Wss1]
        dsimp only
        refine K2 ?_
        simp only [We2, We14, Wes1, Wes2, varW, List.getElem?_cons_zero, List.getElem?_cons_succ]
        refine spec_steps hb hbl1 B hs ho fun c hc => ?_
        simp only [unpackW, putS, zs, List.zip_cons_cons, List.zip_nil_left, List.foldl_cons, List.foldl_nil, List.set_cons_zero, List.set_cons_succ, List.map_cons, List.map_nil, List.length_cons, List.length_nil]
        refine ⟨trivial, ?_⟩
        have k1 : ∀ b o, τ1 b = some o → put τ1 c (.tup [.int (st1 f side bd i), .int (st2 f r dbl side bd i)]) b = some o := fun b o e => put_get e hc
        generalize put τ1 c (.tup [.int (st1 f side bd i), .int (st2 f r dbl side bd i)]) = τ2 at k1
        refine K1 ?_
        simp only [We1, We2, We22, We23, Wes1, Wes2, varW, List.getElem?_cons_zero, List.getElem?_cons_succ, List.set_cons_zero, List.set_cons_succ, List.length_cons, List.length_nil]
        refine ⟨by decide, fun t1 ht1 => ⟨by decide, fun t2 ht2 => ⟨by decide, fun gx hgx => ?_⟩⟩⟩
        have k2 : ∀ b o, τ1 b = some o → put (put (put τ2 t1 (.tup [.int (st1 f side bd i), .bool false])) t2 (.tup [.int (st2 f r dbl side bd i), .bool false])) gx (.list [.ref t1, .ref t2]) b = some o := fun b o e => put_get (put_get (put_get (k1 _ _ e) ht1) ht2) hgx
        have g0 : GL (put (put (put τ2 t1 (.tup [.int (st1 f side bd i), .bool false])) t2 (.tup [.int (st2 f r dbl side bd i), .bool false])) gx (.list [.ref t1, .ref t2])) [t1, t2] [(st1 f side bd i, false), (st2 f r dbl side bd i, false)] := by
          refine ⟨rfl, fun j q e => ?_⟩
          match j, e with
          | 0, e => cases e; exact ⟨t1, rfl, put_get (put_get putS ht2) hgx⟩
          | 1, e => cases e; exact ⟨t2, rfl, put_get putS hgx⟩
          | j + 2, e => simp at e
        have hgx0 : put (put (put τ2 t1 (.tup [.int (st1 f side bd i), .bool false])) t2 (.tup [.int (st2 f r dbl side bd i), .bool false])) gx (.list [.ref t1, .ref t2]) gx = some (.list ([t1, t2].map .ref)) := putS
        have nfg : fo ≠ gx := neOf (put_get (o' := AObj.tup [.int (st2 f r dbl side bd i), .bool false]) (put_get (o' := AObj.tup [.int (st1 f side bd i), .bool false]) (k1 _ _ htf) ht1) ht2) hgx
        have nag : a ≠ gx := neOf (put_get (o' := AObj.tup [.int (st2 f r dbl side bd i), .bool false]) (put_get (o' := AObj.tup [.int (st1 f side bd i), .bool false]) (k1 _ _ hta) ht1) ht2) hgx
        have nbg : bl ≠ gx := neOf (put_get (o' := AObj.tup [.int (st2 f r dbl side bd i), .bool false]) (put_get (o' := AObj.tup [.int (st1 f side bd i), .bool false]) (k1 _ _ hbl1) ht1) ht2) hgx
        have gx0 : τ1 gx = none := by
          cases q : τ1 gx with
          | none => rfl
          | some o => have := put_get (o' := AObj.tup [.int (st2 f r dbl side bd i), .bool false]) (put_get (o' := AObj.tup [.int (st1 f side bd i), .bool false]) (k1 _ _ q) ht1) ht2; rw [hgx] at this; cases this
        generalize put (put (put τ2 t1 (.tup [.int (st1 f side bd i), .bool false])) t2 (.tup [.int (st2 f r dbl side bd i), .bool false])) gx (.list [.ref t1, .ref t2]) = τ3 at k2 g0 hgx0
        -- the captures
        refine K12 ?_
        simp only [unaW, We1, We4, We23, Wes1, Wes2, List.length_cons, List.length_nil]
        refine ⟨by decide, fun tw htw => ⟨tw, _, _, rfl, putS, rfl, ?_⟩⟩
        have ntg : tw ≠ gx := (neOf hgx0 htw).symm
        have g0' : GL (put τ3 tw (.tup [.int (-1), .int 1])) [t1, t2] [(st1 f side bd i, false), (st2 f r dbl side bd i, false)] := ⟨g0.1, fun j q e => let ⟨t, e1, e2⟩ := g0.2 j q e; ⟨t, e1, put_get e2 htw⟩⟩
        refine forN_rule (fun j m τ4 => ∃ x13 x14 ts, j ≤ 2 ∧ (∀ b o, b ≠ gx → τ1 b = some o → τ4 b = some o) ∧ τ4 tw = some (.tup [.int (-1), .int 1]) ∧ τ4 gx = some (.list (ts.map .ref)) ∧ ts.length ≤ 2 + j ∧
            GL τ4 ts ([(st1 f side bd i, false), (st2 f r dbl side bd i, false)] ++ (if j = 0 then [] else capG f r side bd i 1) ++ (if j = 2 then capG f r side bd i 0 else [])) ∧
            m = [some (.ref bl), some (.int (f : Int)), some (.int (r : Int)), some (.bool dbl), some (.int (side : Int)), some (.int (stage : Int)), some (.int (tg : Int)), some (.ref fo), some (.int ((lastR r side : Nat) : Int)), some (.int (i : Int)), some (.int (st1 f side bd i)), some (.int (st2 f r dbl side bd i)), some (.ref gx), x13, x14, x15, none]) ?_ ?_ ?_
          ⟨x13, x14, [t1, t2], by (clear h64 ho hs pl; omega), fun b o _ e => put_get (k2 b o e) htw, putS, put_get hgx0 htw, by simp, by simpa using g0', rfl⟩
        · rintro j v m τ4 hv ⟨x13, x14, ts, hj, hk4, htw4, hgx4, hl4, hg4, rfl⟩ K2 hK2
          have hw : ∃ w, v = .int (wx w) ∧ ((j = 0 ∧ w = 1) ∨ (j = 1 ∧ w = 0)) := by
            match j, hv with
            | 0, hv => cases hv; exact ⟨1, by simp [wx], .inl ⟨rfl, rfl⟩⟩
            | 1, hv => cases hv; exact ⟨0, by simp [wx], .inr ⟨rfl, rfl⟩⟩
            | j + 2, hv => simp at hv
          obtain ⟨w, rfl, hjw⟩ := hw
          simp only [bindV, List.set_cons_zero, List.set_cons_succ]
          refine spec_cap (k := k + 1) (ts := ts) hb hs (hk4 _ _ nbg hbl1) B.lb hgx4 hg4 (by (clear h64 ho hs pl; omega)) rfl fun σ' x14' ts' q1 q2 q3 q4 => ?_
          refine hK2 _ _ ⟨_, x14', ts', by (clear h64 hj hl4 ho hs pl q4; omega), fun b o hbg e => q1 b o hbg (hk4 b o hbg e), q1 _ _ ntg htw4, q2, by (clear h64 hj ho hs pl; omega), ?_, rfl⟩
          rcases hjw with ⟨rfl, rfl⟩ | ⟨rfl, rfl⟩
          · simpa using q3
          · simpa using q3
        · rintro j m τ4 ⟨_, _, _, _, _, h, _⟩; exact h
        · rintro m τ4 ⟨x13, x14, ts, hj, hk4, htw4, hgx4, hl4, hg4, rfl⟩
          have hg4' : GL τ4 ts (goalsL f r dbl side bd i) := by simpa [goalsL] using hg4
          -- the goals
          refine K13 ?_
          simp only [We2, varW, List.getElem?_cons_zero, List.getElem?_cons_succ]
          refine ⟨gx, _, rfl, hgx4, ?_⟩
          have nfo : fo ≠ gx := nfg
          refine forN_rule (fun j m τ5 => ∃ x14 x15, j ≤ (goalsL f r dbl side bd i).length ∧ (∀ b o, b ≠ fo → τ4 b = some o → τ5 b = some o) ∧ τ5 fo = some (.list (zs (natI (((List.range i).filter fun s => decide (bd.getD s 0 = 1 + 8 * side)).flatMap (lawSq f r dbl side stage tg bd) ++ ((goalsL f r dbl side bd i).take j).flatMap (emitI f (lastR r side) stage tg i))))) ∧
              m = [some (.ref bl), some (.int (f : Int)), some (.int (r : Int)), some (.bool dbl), some (.int (side : Int)), some (.int (stage : Int)), some (.int (tg : Int)), some (.ref fo), some (.int ((lastR r side : Nat) : Int)), some (.int (i : Int)), some (.int (st1 f side bd i)), some (.int (st2 f r dbl side bd i)), some (.ref gx), x13, x14, x15, none]) ?_ ?_ ?_
            ⟨x14, x15, Nat.zero_le _, fun _ _ _ e => e, by simpa using hk4 _ _ nfo htf, rfl⟩
          · rintro j v m τ5 hv ⟨x14, x15, hj5, hk5, hf5, rfl⟩ K3 hK3
            have hq : ∃ q t, (goalsL f r dbl side bd i)[j]? = some q ∧ v = .ref t ∧ τ4 t = some (.tup [.int q.1, .bool q.2]) := by
              rw [List.getElem?_map] at hv
              cases e : ts[j]? with
              | none => rw [e] at hv; cases hv
              | some t =>
                rw [e] at hv; cases hv
                have lt : j < (goalsL f r dbl side bd i).length := by rw [← hg4'.1]; exact (List.getElem?_eq_some_iff.mp e).1
                obtain ⟨u, e1, e2⟩ := hg4'.2 j _ (List.getElem?_eq_getElem lt)
                rw [e] at e1; cases e1
                exact ⟨_, t, List.getElem?_eq_getElem lt, rfl, e2⟩
            obtain ⟨⟨g1, g2⟩, t, hq1, rfl, hq2⟩ := hq
            have ntf : t ≠ fo := fun z => by rw [z, hk4 _ _ nfo htf] at hq2; cases hq2
            simp only [bindT, unpackW, hk5 _ _ ntf hq2, List.zip_cons_cons, List.zip_nil_left, List.foldl_cons, List.foldl_nil, List.set_cons_zero, List.set_cons_succ, List.length_cons, List.length_nil]
            refine ⟨trivial, ?_⟩
            have gm : (g1, g2) ∈ goalsL f r dbl side bd i := List.mem_of_getElem? hq1
            have lt : j < (goalsL f r dbl side bd i).length := (List.getElem?_eq_some_iff.mp hq1).1
            have el := flat_len (emitI_len f (lastR r side) stage tg i) ((goalsL f r dbl side bd i).take j)
            have gl4 := goals_len f r dbl side bd i
            have tl : ((goalsL f r dbl side bd i).take j).length ≤ 4 := by rw [List.length_take]; (clear el h64 hj hj5 hl4 ho hs lt pl; omega)
            refine spec_emit (σ0 := fun b => if b = fo then none else τ5 b) (f := f) (r := r) (dbl := dbl) (bl := bl) (side := side) (stage := stage) (tg := tg) (fo := fo) (lastR := lastR r side) (sq := i) (gl := g1) (cap := g2) (by (clear el h64 hj hl4 ho hs n2 pl; omega)) (by (clear el h64 hj hl4 ho hs n1 pl; omega)) (goals_lt hb B hs ho gm) (by (clear el h64 hj hl4 hlt ho hs; omega)) (fun b o e => ?_) (if_pos rfl) hf5 (by rw [List.length_append]; (clear h64 hj hl4 hlt ho hs; omega)) fun fl x7 σ' hfl hE6 hk6 hf6 hx7 => ?_
            · dsimp only at e
              split at e
              · cases e
              · exact e
            · subst hx7
              have fin : K3 [some (.ref bl), some (.int (f : Int)), some (.int (r : Int)), some (.bool dbl), some (.int (side : Int)), some (.int (stage : Int)), some (.int (tg : Int)), some (.ref fo), some (.int ((lastR r side : Nat) : Int)), some (.int (i : Int)), some (.int (st1 f side bd i)), some (.int (st2 f r dbl side bd i)), some (.ref gx), x13, some (.int g1), some (.bool g2), none] σ' := by
                refine hK3 _ _ ⟨_, _, lt, fun b o hbf e => hk6 b o hbf (hk5 b o hbf e), ?_, rfl⟩
                rw [hf6, List.append_assoc, List.take_add_one, hq1]
                simp [List.flatMap_append]
              rcases hfl with rfl | rfl
              · exact fin
              · exact fin
          · rintro j m τ5 ⟨_, _, _, h5, _, _⟩
            exact h5 _ _ (Ne.symm nfo) hgx4
          · rintro m τ5 ⟨x14, x15, hj5, hk5, hf5, rfl⟩
            rw [List.length_map, hg4'.1, List.take_length] at hf5
            simp only [Wss1]
            refine hK _ _ ⟨_, _, _, _, _, _, _, hlt, ?_, hk5 _ _ (Ne.symm hfa) (hk4 _ _ nag hta), ?_, rfl⟩
            · intro b o e
              have e' := hE _ _ e
              exact hk5 b o (neOf e hfo) (hk4 b o (fun z => by rw [z, gx0] at e'; cases e') e')
            · rw [hf5, rs, if_pos ho, List.flatMap_append]
              simp [lawSq]
      · simp only [ho, decide_false, Bool.not_false]
        simp only [Wss1, Wss2, Ws1, Ws2, Ws5, Ws8, Ws10, Ws12, Ws13, Ws14]
        refine hK _ _ ⟨_, _, _, _, _, _, _, hlt, hE, hta, ?_, rfl⟩
        rw [htf, rs, if_neg ho, List.append_nil]
    · rintro i m τ' ⟨_, _, _, _, _, _, _, _, _, h, _⟩; exact h
    · rintro m τ1 ⟨x9, x10, x11, x12, x13, x14, x15, hi, hE, hta, htf, rfl⟩
      have el : (zs (natI (List.range (f * r)))).length = f * r := by rw [zi_len]; simp
      rw [el] at htf
      refine K9 ?_
      simp only [We2, We18, varW, List.getElem?_cons_zero, List.getElem?_cons_succ, sortedW]
      refine ⟨natI (lawM f r dbl side stage tg bd), ?_, by simpa [natI] using h64, fun ms hp hw c hc => ?_⟩
      · rw [htf]; rfl
      · refine h c _ ms hp hw ?_ (hE.put ?_) putS
        all_goals
          cases q : σ c with
          | none => rfl
          | some o => have := hE _ _ q; rw [hc] at this; cases this
  unfold lastR at main
  by_cases s0 : side = 0
  · simp only [s0, decide_true]
    refine bSub (b := 1) (by (clear h64 hs n1 n4 n5; omega)) ?_
    rw [s0, if_pos rfl] at main
    exact main
  · simp only [s0, decide_false]
    rw [if_neg s0] at main
    exact main
end
end Pf
end

section
set_option autoImplicit false
set_option maxRecDepth 100000
set_option linter.unusedSimpArgs false
set_option linter.unusedVariables false
namespace Pf

theorem cnt_flat {α : Type} (a : Nat) (F G : α → List Nat) : ∀ l : List α, (l.flatMap fun x => F x ++ G x).count a = (l.flatMap F).count a + (l.flatMap G).count a
  | [] => rfl
  | x :: r => by
    rw [List.flatMap_cons, List.flatMap_cons, List.flatMap_cons, List.count_append, List.count_append, List.count_append, List.count_append, cnt_flat a F G r]
    omega
theorem flat_if {α : Type} (C : α → Bool) (F : α → List Nat) : ∀ l : List α, (l.filter C).flatMap F = l.flatMap fun x => if C x then F x else []
  | [] => rfl
  | x :: r => by
    rw [List.flatMap_cons, ← flat_if C F r]
    cases h : C x with
    | true => rw [List.filter_cons_of_pos h, List.flatMap_cons]; simp
    | false => rw [List.filter_cons_of_neg (by simp [h])]; simp
theorem flat_congr {α : Type} {F G : α → List Nat} : ∀ {l : List α}, (∀ x ∈ l, F x = G x) → l.flatMap F = l.flatMap G
  | [], _ => rfl
  | x :: r, h => by
    rw [List.flatMap_cons, List.flatMap_cons, h x (by simp), flat_congr fun y hy => h y (by simp [hy])]

section
variable {f r n sd : Nat} {dbl : Bool} {bd ks ws : List Nat}
theorem setN_perm {X : Nat} {C : Nat → Bool} {h : Nat → Nat} (B : BI f r n bd ks ws) (hX : ∀ j, X.testBit j = true ↔ ∃ sq, bd.getD sq 0 = 1 + 8 * sd ∧ C sq = true ∧ j = h sq)
    (hlt : ∀ sq, bd.getD sq 0 = 1 + 8 * sd → C sq = true → h sq < f * r) (hinj : ∀ x y, bd.getD x 0 = 1 + 8 * sd → C x = true → bd.getD y 0 = 1 + 8 * sd → C y = true → x < y → h x ≠ h y) :
    (setN (f * r) X).Perm (((PL (f * r) sd bd).filter C).map h) := by
  refine (List.perm_ext_iff_of_nodup ?_ ?_).mpr fun j => ?_
  · exact List.Pairwise.imp (fun h => Nat.ne_of_lt h) (setN_lt _ _)
  · unfold List.Nodup
    rw [List.pairwise_map]
    refine List.Pairwise.imp_of_mem ?_ (List.Pairwise.filter _ (show (PL (f * r) sd bd).Pairwise (· < ·) from List.Pairwise.filter _ List.pairwise_lt_range))
    intro x y hx hy hl
    obtain ⟨x1, x2⟩ := List.mem_filter.mp hx
    obtain ⟨y1, y2⟩ := List.mem_filter.mp hy
    exact hinj x y (mem_PL.mp x1).2 x2 (mem_PL.mp y1).2 y2 hl
  · rw [mem_setN, hX]
    constructor
    · rintro ⟨_, sq, h1, h2, rfl⟩
      exact List.mem_map.mpr ⟨sq, List.mem_filter.mpr ⟨mem_PL.mpr ⟨own_lt B h1, h1⟩, h2⟩, rfl⟩
    · intro hm
      obtain ⟨sq, h1, rfl⟩ := List.mem_map.mp hm
      obtain ⟨h2, h3⟩ := List.mem_filter.mp h1
      have ho := (mem_PL.mp h2).2
      exact ⟨hlt sq ho h3, sq, ho, h3, rfl⟩
theorem setN_flat {X : Nat} {C : Nat → Bool} {h : Nat → Nat} {F G : Nat → List Nat} (P : (setN (f * r) X).Perm (((PL (f * r) sd bd).filter C).map h)) (hG : ∀ sq ∈ PL (f * r) sd bd, C sq = true → F (h sq) = G sq) :
    ((setN (f * r) X).flatMap F).Perm ((PL (f * r) sd bd).flatMap fun sq => if C sq then G sq else []) := by
  refine (List.Perm.flatMap_right F P).trans ?_
  rw [List.flatMap_map, flat_if]
  rw [flat_congr (G := fun sq => if C sq then G sq else [])]
  intro x hx
  split
  · rename_i hc; exact hG x hx hc
  · rfl

theorem last_bit (hb : (f, r, dbl) ∈ bds) {j : Nat} (hj : j < f * r) : (lastM f r sd).testBit j = decide (j / f = lastR r sd) := by
  obtain ⟨n1, n2, n3, n4, n5⟩ := bd_num hb
  unfold lastM lastR
  exact bdR hb (by split <;> (clear hj n1 n4; omega)) hj

noncomputable def C1 (f r sd tg : Nat) (bd : List Nat) (sq : Nat) : Bool := decide (bd.getD (tgt1 f sd sq) 0 = 0) && (tg.testBit (tgt1 f sd sq) && !(lastM f r sd).testBit (tgt1 f sd sq))
noncomputable def C3 (f r sd tg : Nat) (bd : List Nat) (sq : Nat) : Bool := decide (bd.getD (tgt1 f sd sq) 0 = 0) && (tg.testBit (tgt1 f sd sq) && (lastM f r sd).testBit (tgt1 f sd sq))
noncomputable def C2 (f r : Nat) (dbl : Bool) (sd tg : Nat) (bd : List Nat) (sq : Nat) : Bool := may2 f r dbl sd bd sq && tg.testBit (tgt2 f sd sq)
noncomputable def capT (f r sd sq w : Nat) : Nat := (gC f r sd sq w).toNat
noncomputable def CC (f r sd w tg : Nat) (bd : List Nat) (sq : Nat) : Bool := capOk f r sd bd sq w && tg.testBit (capT f r sd sq w)

theorem tgt1_inj (B : BI f r n bd ks ws) (hs : sd ≤ 1) {x y : Nat} (hx : bd.getD x 0 = 1 + 8 * sd) (hy : bd.getD y 0 = 1 + 8 * sd) (h : x < y) : tgt1 f sd x ≠ tgt1 f sd y := by
  have mx := mid_ok B hs hx
  have my := mid_ok B hs hy
  unfold tgt1
  split <;> (clear hs hx hy; omega)
theorem org1_tgt (B : BI f r n bd ks ws) (hs : sd ≤ 1) {x : Nat} (hx : bd.getD x 0 = 1 + 8 * sd) : org1 f sd (tgt1 f sd x) = x := by
  have mx := mid_ok B hs hx
  unfold org1 tgt1
  rcases side2 hs with rfl | rfl
  · simp only [if_true]; (clear hx; omega)
  · simp only [show ¬ ((1 : Nat) = 0) by decide, if_false]; (clear hs hx; omega)
theorem tgt2_ge (B : BI f r n bd ks ws) (hs : sd ≤ 1) {x : Nat} (hx : bd.getD x 0 = 1 + 8 * sd) (h2 : may2 f r dbl sd bd x = true) : sd = 0 ∨ 2 * f ≤ x := by
  have mx := mid_ok B hs hx
  have hk := (may2_iff.mp h2).2.2.1
  unfold ok2 okP tgt1 at hk
  rcases side2 hs with rfl | rfl
  · exact .inl rfl
  · simp at hk; (clear hx mx; omega)
theorem p1 (hb : (f, r, dbl) ∈ bds) (B : BI f r n bd ks ws) (hs : sd ≤ 1) (tg : Nat) : ((setN (f * r) (T1 f r sd tg ks ws)).map fun x => mv (org1 f sd x) x 0 0).Perm ((PL (f * r) sd bd).flatMap fun sq => if C1 f r sd tg bd sq then [mv sq (tgt1 f sd sq) 0 0] else []) := by
  rw [← flat1]
  refine setN_flat (C := C1 f r sd tg bd) (h := tgt1 f sd) (setN_perm B (fun j => ?_) (fun sq ho _ => tgt1_lt B hs ho) (fun x y hx _ hy _ hl => tgt1_inj B hs hx hy hl)) fun sq hsq hc => ?_
  · unfold T1
    rw [andn_bit, Bool.and_eq_true, Nat.testBit_and, Bool.and_eq_true, ones_bit hb B hs]
    constructor
    · rintro ⟨⟨⟨sq, h1, h2, rfl⟩, h3⟩, h4⟩
      exact ⟨sq, h1, by unfold C1; simp only [h2, h3, decide_true, Bool.true_and]; exact h4, rfl⟩
    · rintro ⟨sq, h1, h2, rfl⟩
      unfold C1 at h2
      simp only [Bool.and_eq_true, decide_eq_true_eq] at h2
      exact ⟨⟨⟨sq, h1, h2.1, rfl⟩, h2.2.1⟩, h2.2.2⟩
  · rw [org1_tgt B hs (mem_PL.mp hsq).2]
theorem p3 (hb : (f, r, dbl) ∈ bds) (B : BI f r n bd ks ws) (hs : sd ≤ 1) (stage tg : Nat) : ((setN (f * r) (T3 f r sd tg ks ws)).flatMap fun x => promos stage false (org1 f sd x) x).Perm ((PL (f * r) sd bd).flatMap fun sq => if C3 f r sd tg bd sq then promos stage false sq (tgt1 f sd sq) else []) := by
  refine setN_flat (C := C3 f r sd tg bd) (h := tgt1 f sd) (setN_perm B (fun j => ?_) (fun sq ho _ => tgt1_lt B hs ho) (fun x y hx _ hy _ hl => tgt1_inj B hs hx hy hl)) fun sq hsq hc => ?_
  · unfold T3
    rw [Nat.testBit_and, Bool.and_eq_true, Nat.testBit_and, Bool.and_eq_true, ones_bit hb B hs]
    constructor
    · rintro ⟨⟨⟨sq, h1, h2, rfl⟩, h3⟩, h4⟩
      exact ⟨sq, h1, by unfold C3; simp only [h2, h3, h4, decide_true, Bool.and_self], rfl⟩
    · rintro ⟨sq, h1, h2, rfl⟩
      unfold C3 at h2
      simp only [Bool.and_eq_true, decide_eq_true_eq] at h2
      exact ⟨⟨⟨sq, h1, h2.1, rfl⟩, h2.2.1⟩, h2.2.2⟩
  · rw [org1_tgt B hs (mem_PL.mp hsq).2]
theorem p2 (hb : (f, r, dbl) ∈ bds) (B : BI f r n bd ks ws) (hs : sd ≤ 1) (tg : Nat) : ((setN (f * r) (T2 f r dbl sd tg ks ws)).map fun x => mv (org2 f sd x) x 0 0).Perm ((PL (f * r) sd bd).flatMap fun sq => if C2 f r dbl sd tg bd sq then [mv sq (tgt2 f sd sq) 0 0] else []) := by
  have m2 : ∀ {sq}, C2 f r dbl sd tg bd sq = true → may2 f r dbl sd bd sq = true ∧ tg.testBit (tgt2 f sd sq) = true := fun {sq} h => by
    unfold C2 at h; simpa only [Bool.and_eq_true] using h
  rw [← flat1]
  refine setN_flat (C := C2 f r dbl sd tg bd) (h := tgt2 f sd) (setN_perm B (fun j => ?_) (fun sq ho hc => ?_) (fun x y hx hcx hy hcy hl => ?_)) fun sq hsq hc => ?_
  · unfold T2
    rw [Nat.testBit_and, Bool.and_eq_true, twos_bit hb B hs]
    constructor
    · rintro ⟨⟨sq, h1, h2, rfl⟩, h3⟩
      exact ⟨sq, h1, by unfold C2; simp only [h2, h3, Bool.and_self], rfl⟩
    · rintro ⟨sq, h1, h2, rfl⟩
      exact ⟨⟨sq, h1, (m2 h2).1, rfl⟩, (m2 h2).2⟩
  · rcases bes2 hb hs (own_lt B ho) with e | e
    · exact e.2.2
    · have := (may2_iff.mp (m2 hc).1).2.2.1; rw [e.1] at this; cases this
  · have gx := tgt2_ge B hs hx (m2 hcx).1
    have gy := tgt2_ge B hs hy (m2 hcy).1
    unfold tgt2
    split <;> omega
  · have ho := (mem_PL.mp hsq).2
    have g := tgt2_ge B hs ho (m2 hc).1
    have : org2 f sd (tgt2 f sd sq) = sq := by
      unfold org2 tgt2
      rcases side2 hs with rfl | rfl
      · simp only [if_true]; (clear ho; omega)
      · simp only [show ¬ ((1 : Nat) = 0) by decide, if_false]; (clear hc ho; omega)
    rw [this]

theorem gC_ok (hb : (f, r, dbl) ∈ bds) (B : BI f r n bd ks ws) (hs : sd ≤ 1) {w sq : Nat} (hw : w ≤ 1) (hq : sq < f * r) : (0 ≤ gC f r sd sq w ↔ (okP f r sq sd = true ∧ okW f sq w = true)) ∧ (0 ≤ gC f r sd sq w → gC f r sd sq w = (sq : Int) + dlt f sd + wx w ∧ capT f r sd sq w < f * r) := by
  unfold capT gC
  rcases besC hb hs hw hq with e | e
  · refine ⟨⟨fun _ => e.1, fun _ => by (clear hq hs hw; omega)⟩, fun _ => ⟨e.2.1, by (clear hs hw; omega)⟩⟩
  · refine ⟨⟨fun h => by (clear hq hs hw; omega), fun h => absurd h e.1⟩, fun h => by omega⟩
theorem enemy (B : BI f r n bd ks ws) (hs : sd ≤ 1) (j : Nat) : (ws.getD (1 - sd) 0).testBit j = true ↔ bd.getD j 0 ≠ 0 ∧ bd.getD j 0 / 8 ≠ sd := by
  rw [B.sd (1 - sd) j (by (clear hs; omega))]
  rcases B.vals j with h | h | h | h | h <;> rcases side2 hs with rfl | rfl <;> rw [h] <;> decide
theorem capOk_iff (B : BI f r n bd ks ws) (hs : sd ≤ 1) {w sq : Nat} : capOk f r sd bd sq w = true ↔ 0 ≤ gC f r sd sq w ∧ (ws.getD (1 - sd) 0).testBit (capT f r sd sq w) = true := by
  rw [enemy B hs]
  unfold capOk capT
  simp only [Bool.and_eq_true, decide_eq_true_eq, Bool.not_eq_true', decide_eq_false_iff_not]
theorem cap_bits (hb : (f, r, dbl) ∈ bds) (B : BI f r n bd ks ws) (hs : sd ≤ 1) {w : Nat} (hw : w ≤ 1) (j : Nat) :
    (shc f r (pwn sd ks ws) sd w &&& ws.getD (1 - sd) 0).testBit j = true ↔ ∃ sq, bd.getD sq 0 = 1 + 8 * sd ∧ capOk f r sd bd sq w = true ∧ j = capT f r sd sq w := by
  rw [Nat.testBit_and, Bool.and_eq_true, shc_bit hb hs hw (pwn_lt B hs)]
  constructor
  · rintro ⟨⟨sq, h1, h2, h3, h4⟩, h5⟩
    obtain ⟨g1, g2⟩ := gC_ok hb B hs hw h1
    have g0 := g1.mpr h3
    have e := (g2 g0).1
    have ej : j = capT f r sd sq w := by unfold capT; (clear h1 hs hw; omega)
    exact ⟨sq, (own_bit B hs sq).mp h2, (capOk_iff B hs).mpr ⟨g0, ej ▸ h5⟩, ej⟩
  · rintro ⟨sq, h1, h2, rfl⟩
    obtain ⟨g0, h5⟩ := (capOk_iff B hs).mp h2
    obtain ⟨g1, g2⟩ := gC_ok hb B hs hw (own_lt B h1)
    have e := (g2 g0).1
    exact ⟨⟨sq, own_lt B h1, (own_bit B hs sq).mpr h1, g1.mp g0, by unfold capT; (clear h1 hs hw; omega)⟩, h5⟩
theorem cap_inj (hb : (f, r, dbl) ∈ bds) (B : BI f r n bd ks ws) (hs : sd ≤ 1) {w x y : Nat} (hw : w ≤ 1) (hx : bd.getD x 0 = 1 + 8 * sd) (cx : capOk f r sd bd x w = true) (hy : bd.getD y 0 = 1 + 8 * sd) (cy : capOk f r sd bd y w = true) (h : x < y) : capT f r sd x w ≠ capT f r sd y w := by
  have gx := ((gC_ok hb B hs hw (own_lt B hx)).2 ((capOk_iff B hs).mp cx).1).1
  have gy := ((gC_ok hb B hs hw (own_lt B hy)).2 ((capOk_iff B hs).mp cy).1).1
  have zx := ((capOk_iff B hs).mp cx).1
  have zy := ((capOk_iff B hs).mp cy).1
  unfold capT
  (clear hs hw hx hy zy; omega)
theorem orgC_cap (hb : (f, r, dbl) ∈ bds) (B : BI f r n bd ks ws) (hs : sd ≤ 1) {w x : Nat} (hw : w ≤ 1) (hx : bd.getD x 0 = 1 + 8 * sd) (cx : capOk f r sd bd x w = true) : orgC f sd w (capT f r sd x w) = x := by
  have gx := ((gC_ok hb B hs hw (own_lt B hx)).2 ((capOk_iff B hs).mp cx).1).1
  have zx := ((capOk_iff B hs).mp cx).1
  unfold orgC
  rw [stp_dlt hs]
  unfold capT
  unfold wx at gx
  (clear hs hx; omega)
theorem pC (hb : (f, r, dbl) ∈ bds) (B : BI f r n bd ks ws) (hs : sd ≤ 1) {w : Nat} (hw : w ≤ 1) (stage tg : Nat) : ((setN (f * r) (TC f r sd w tg ks ws)).flatMap (FC f r sd stage w)).Perm ((PL (f * r) sd bd).flatMap fun sq => if CC f r sd w tg bd sq then (if (lastM f r sd).testBit (capT f r sd sq w) then promos stage true sq (capT f r sd sq w) else [mv sq (capT f r sd sq w) 0 0]) else []) := by
  have cc : ∀ {sq}, CC f r sd w tg bd sq = true → capOk f r sd bd sq w = true ∧ tg.testBit (capT f r sd sq w) = true := fun {sq} h => by
    unfold CC at h; simpa only [Bool.and_eq_true] using h
  refine setN_flat (C := CC f r sd w tg bd) (h := fun sq => capT f r sd sq w) (setN_perm B (fun j => ?_) (fun sq ho hc => ?_) (fun x y hx hcx hy hcy hl => cap_inj hb B hs hw hx (cc hcx).1 hy (cc hcy).1 hl)) fun sq hsq hc => ?_
  · have e : TC f r sd w tg ks ws = (shc f r (pwn sd ks ws) sd w &&& ws.getD (1 - sd) 0) &&& tg := by
      unfold TC
      apply Nat.eq_of_testBit_eq
      intro i
      simp only [Nat.testBit_and]
      cases (shc f r (pwn sd ks ws) sd w).testBit i <;> cases tg.testBit i <;> simp
    rw [e, Nat.testBit_and, Bool.and_eq_true, cap_bits hb B hs hw]
    constructor
    · rintro ⟨⟨sq, h1, h2, rfl⟩, h3⟩
      exact ⟨sq, h1, by unfold CC; simp only [h2, h3, Bool.and_self], rfl⟩
    · rintro ⟨sq, h1, h2, rfl⟩
      exact ⟨⟨sq, h1, (cc h2).1, rfl⟩, (cc h2).2⟩
  · exact ((gC_ok hb B hs hw (own_lt B ho)).2 ((capOk_iff B hs).mp (cc hc).1).1).2
  · unfold FC
    rw [orgC_cap hb B hs hw (mem_PL.mp hsq).2 (cc hc).1]
end
end Pf
end

section
set_option autoImplicit false
set_option maxRecDepth 100000
set_option linter.unusedSimpArgs false
set_option linter.unusedVariables false
namespace Pf

noncomputable def chkT (p : Nat × Nat × Bool) : Bool := !p.2.2 || (List.range (p.1 * p.2.1)).all fun sq => (List.range 2).all fun side => !(ok2 p.1 p.2.1 sq side && decide (sq / p.1 = firstR p.2.1 side)) || decide (tgt2 p.1 side sq / p.1 ≠ lastR p.2.1 side)
theorem chkTAll : bds.all chkT = true := by decide +kernel

section
variable {f r n sd : Nat} {dbl : Bool} {bd ks ws : List Nat}
theorem two_notlast (hb : (f, r, dbl) ∈ bds) (B : BI f r n bd ks ws) (hs : sd ≤ 1) {sq : Nat} (ho : bd.getD sq 0 = 1 + 8 * sd) (h : may2 f r dbl sd bd sq = true) : tgt2 f sd sq / f ≠ lastR r sd := by
  obtain ⟨h1, h2, h3, h4, h5⟩ := may2_iff.mp h
  have c := List.all_eq_true.mp chkTAll _ hb
  unfold chkT at c
  dsimp only at c
  rw [h1] at c
  simp only [Bool.not_true, Bool.false_or] at c
  have c2 := List.all_eq_true.mp c sq (List.mem_range.mpr (own_lt B ho))
  have c3 := List.all_eq_true.mp c2 sd (List.mem_range.mpr (by (clear h2 h4 h5 ho; omega)))
  rw [h3, decide_eq_true h2] at c3
  simpa using c3

/-- the law's list of a square, part by part -/
noncomputable def A1 (f r sd stage tg : Nat) (bd : List Nat) (sq : Nat) : List Nat := if stage = 0 then [] else if C1 f r sd tg bd sq then [mv sq (tgt1 f sd sq) 0 0] else []
noncomputable def A3 (f r sd stage tg : Nat) (bd : List Nat) (sq : Nat) : List Nat := if C3 f r sd tg bd sq then promos stage false sq (tgt1 f sd sq) else []
noncomputable def A2 (f r : Nat) (dbl : Bool) (sd stage tg : Nat) (bd : List Nat) (sq : Nat) : List Nat := if stage = 0 then [] else if C2 f r dbl sd tg bd sq then [mv sq (tgt2 f sd sq) 0 0] else []
noncomputable def AC (f r sd stage tg w : Nat) (bd : List Nat) (sq : Nat) : List Nat := if stage = 1 then [] else if CC f r sd w tg bd sq then (if (lastM f r sd).testBit (capT f r sd sq w) then promos stage true sq (capT f r sd sq w) else [mv sq (capT f r sd sq w) 0 0]) else []

theorem part1 (hb : (f, r, dbl) ∈ bds) (B : BI f r n bd ks ws) (hs : sd ≤ 1) (stage tg : Nat) {sq : Nat} (ho : bd.getD sq 0 = 1 + 8 * sd) : emitI f (lastR r sd) stage tg sq (st1 f sd bd sq, false) = A1 f r sd stage tg bd sq ++ A3 f r sd stage tg bd sq := by
  have lb := last_bit (sd := sd) hb (tgt1_lt B hs ho)
  unfold emitI st1 A1 A3 C1 C3
  dsimp only
  by_cases hz : bd.getD (tgt1 f sd sq) 0 = 0
  · rw [if_pos hz, if_neg (by (clear ho hs hz; omega))]
    unfold emit
    simp only [hz, decide_true, Bool.true_and, Int.toNat_natCast, lb, Bool.false_eq_true, false_and, if_false, false_or]
    cases ht : tg.testBit (tgt1 f sd sq) with
    | false => simp
    | true =>
      by_cases hl : tgt1 f sd sq / f = lastR r sd
      · simp [hl]
      · by_cases s0 : stage = 0 <;> simp [hl, s0]
  · rw [if_neg hz, if_pos (by decide)]
    simp only [hz, decide_false, Bool.false_and, Bool.false_eq_true, if_false, ite_self, List.append_nil]
theorem part2 (hb : (f, r, dbl) ∈ bds) (B : BI f r n bd ks ws) (hs : sd ≤ 1) (stage tg : Nat) {sq : Nat} (ho : bd.getD sq 0 = 1 + 8 * sd) : emitI f (lastR r sd) stage tg sq (st2 f r dbl sd bd sq, false) = A2 f r dbl sd stage tg bd sq := by
  unfold emitI st2 A2 C2
  dsimp only
  cases hm : may2 f r dbl sd bd sq with
  | true =>
    have nl := two_notlast hb B hs ho hm
    simp only [if_true, Bool.true_and]
    rw [if_neg (by (clear ho hs; omega))]
    unfold emit
    simp only [Int.toNat_natCast, Bool.false_eq_true, false_and, if_false, false_or, nl]
    cases ht : tg.testBit (tgt2 f sd sq) with
    | false => simp
    | true => by_cases s0 : stage = 0 <;> simp [s0]
  | false => simp
theorem partC (hb : (f, r, dbl) ∈ bds) (B : BI f r n bd ks ws) (hs : sd ≤ 1) {w : Nat} (hw : w ≤ 1) (stage tg : Nat) {sq : Nat} (ho : bd.getD sq 0 = 1 + 8 * sd) : (capG f r sd bd sq w).flatMap (emitI f (lastR r sd) stage tg sq) = AC f r sd stage tg w bd sq := by
  unfold capG AC CC
  cases hc : capOk f r sd bd sq w with
  | true =>
    have g0 := ((capOk_iff B hs).mp hc).1
    have g1 := ((gC_ok hb B hs hw (own_lt B ho)).2 g0).2
    have lb := last_bit (sd := sd) hb g1
    simp only [if_true, Bool.true_and, List.flatMap_cons, List.flatMap_nil, List.append_nil]
    unfold emitI
    dsimp only
    rw [if_neg (by (clear g1 ho hs hw; omega)), show (gC f r sd sq w).toNat = capT f r sd sq w from rfl]
    unfold emit
    rw [lb]
    simp only [true_and, true_or, if_true]
    cases ht : tg.testBit (capT f r sd sq w) with
    | false => by_cases s1 : stage = 1 <;> simp [s1]
    | true =>
      by_cases s1 : stage = 1
      · simp [s1]
      · by_cases hl : capT f r sd sq w / f = lastR r sd <;> simp [s1, hl]
  | false => simp
theorem lawSq_parts (hb : (f, r, dbl) ∈ bds) (B : BI f r n bd ks ws) (hs : sd ≤ 1) (stage tg : Nat) {sq : Nat} (ho : bd.getD sq 0 = 1 + 8 * sd) :
    lawSq f r dbl sd stage tg bd sq = (((A1 f r sd stage tg bd sq ++ A3 f r sd stage tg bd sq) ++ A2 f r dbl sd stage tg bd sq) ++ AC f r sd stage tg 1 bd sq) ++ AC f r sd stage tg 0 bd sq := by
  unfold lawSq goalsL
  rw [List.flatMap_append, List.flatMap_append, List.flatMap_cons, List.flatMap_cons, List.flatMap_nil, List.append_nil, part1 hb B hs stage tg ho, part2 hb B hs stage tg ho, partC hb B hs (by omega) stage tg ho, partC hb B hs (by omega) stage tg ho]

theorem flat_nil {α : Type} : ∀ l : List α, (l.flatMap fun _ => ([] : List Nat)) = []
  | [] => rfl
  | _ :: r => by rw [List.flatMap_cons, flat_nil r]; rfl
theorem moves_perm (hb : (f, r, dbl) ∈ bds) (B : BI f r n bd ks ws) (hs : sd ≤ 1) (stage tg : Nat) : (progM f r dbl sd stage tg ks ws).Perm (lawM f r dbl sd stage tg bd) := by
  rw [List.perm_iff_count]
  intro a
  have e : lawM f r dbl sd stage tg bd = (PL (f * r) sd bd).flatMap fun sq => (((A1 f r sd stage tg bd sq ++ A3 f r sd stage tg bd sq) ++ A2 f r dbl sd stage tg bd sq) ++ AC f r sd stage tg 1 bd sq) ++ AC f r sd stage tg 0 bd sq := by
    unfold lawM
    exact flat_congr fun sq hsq => lawSq_parts hb B hs stage tg (mem_PL.mp hsq).2
  rw [e, cnt_flat, cnt_flat, cnt_flat, cnt_flat]
  unfold progM
  rw [List.count_append, List.count_append]
  have e3 := List.perm_iff_count.mp (p3 hb B hs stage tg) a
  have e1 := List.perm_iff_count.mp (p1 hb B hs tg) a
  have e2 := List.perm_iff_count.mp (p2 hb B hs tg) a
  have c0 := List.perm_iff_count.mp (pC hb B hs (w := 0) (by (clear e1 e2 e3 hs; omega)) stage tg) a
  have c1 := List.perm_iff_count.mp (pC hb B hs (w := 1) (by (clear c0 e1 e2 e3 hs; omega)) stage tg) a
  have q3 : ((PL (f * r) sd bd).flatMap (A3 f r sd stage tg bd)).count a = ((PL (f * r) sd bd).flatMap fun sq => if C3 f r sd tg bd sq then promos stage false sq (tgt1 f sd sq) else []).count a := rfl
  have qa : ((if stage = 0 then [] else ((setN (f * r) (T1 f r sd tg ks ws)).map fun x => mv (org1 f sd x) x 0 0) ++ (setN (f * r) (T2 f r dbl sd tg ks ws)).map fun x => mv (org2 f sd x) x 0 0 : List Nat)).count a = ((PL (f * r) sd bd).flatMap (A1 f r sd stage tg bd)).count a + ((PL (f * r) sd bd).flatMap (A2 f r dbl sd stage tg bd)).count a := by
    by_cases s0 : stage = 0
    · have h1 : A1 f r sd stage tg bd = fun _ => [] := by funext sq; unfold A1; rw [if_pos s0]
      have h2 : A2 f r dbl sd stage tg bd = fun _ => [] := by funext sq; unfold A2; rw [if_pos s0]
      rw [if_pos s0, h1, h2, flat_nil]; rfl
    · have h1 : A1 f r sd stage tg bd = fun sq => if C1 f r sd tg bd sq then [mv sq (tgt1 f sd sq) 0 0] else [] := by funext sq; unfold A1; rw [if_neg s0]
      have h2 : A2 f r dbl sd stage tg bd = fun sq => if C2 f r dbl sd tg bd sq then [mv sq (tgt2 f sd sq) 0 0] else [] := by funext sq; unfold A2; rw [if_neg s0]
      rw [if_neg s0, h1, h2, List.count_append, e1, e2]
  have qc : ((if stage = 1 then [] else (List.range 2).flatMap fun w => (setN (f * r) (TC f r sd w tg ks ws)).flatMap (FC f r sd stage w) : List Nat)).count a = ((PL (f * r) sd bd).flatMap (AC f r sd stage tg 1 bd)).count a + ((PL (f * r) sd bd).flatMap (AC f r sd stage tg 0 bd)).count a := by
    by_cases s1 : stage = 1
    · have h1 : ∀ w, AC f r sd stage tg w bd = fun _ => [] := fun w => by funext sq; unfold AC; rw [if_pos s1]
      rw [if_pos s1, h1, h1, flat_nil]; rfl
    · have h1 : ∀ w, AC f r sd stage tg w bd = fun sq => if CC f r sd w tg bd sq then (if (lastM f r sd).testBit (capT f r sd sq w) then promos stage true sq (capT f r sd sq w) else [mv sq (capT f r sd sq w) 0 0]) else [] := fun w => by funext sq; unfold AC; rw [if_neg s1]
      rw [if_neg s1, h1, h1, ← c0, ← c1]
      simp only [List.range_succ, List.range_zero, List.nil_append, List.cons_append, List.flatMap_cons, List.flatMap_nil, List.append_nil, List.count_append]
      (clear c1 e1 e2 e3 hs q3 qa; omega)
  rw [qa, qc, e3, q3]
  (clear c0 c1 e1 e2 hs q3 qa qc; omega)

/-! no more than 57 moves -/
theorem cnt_two {α : Type} {p q t : α → Bool} (h1 : ∀ x, p x = true → q x = false) (h2 : ∀ x, p x = true ∨ q x = true → t x = true) : ∀ l : List α, (l.filter p).length + (l.filter q).length ≤ (l.filter t).length
  | [] => by simp
  | x :: r => by
    have ih := cnt_two h1 h2 r
    cases hp : p x with
    | true =>
      rw [List.filter_cons_of_pos hp, List.filter_cons_of_neg (by rw [h1 x hp]; decide), List.filter_cons_of_pos (h2 x (.inl hp))]
      simp only [List.length_cons]; omega
    | false =>
      rw [List.filter_cons_of_neg (by simp [hp])]
      cases hq : q x with
      | true =>
        rw [List.filter_cons_of_pos hq, List.filter_cons_of_pos (h2 x (.inr hq))]
        simp only [List.length_cons]; omega
      | false =>
        rw [List.filter_cons_of_neg (by simp [hq])]
        cases ht : t x with
        | true => rw [List.filter_cons_of_pos ht]; simp only [List.length_cons]; omega
        | false => rw [List.filter_cons_of_neg (by simp [ht])]; exact ih
theorem bd_range : ∀ (bd : List Nat), (bd.filter (· != 0)).length = ((List.range bd.length).filter fun s => bd.getD s 0 != 0).length := by
  intro bd
  have e : bd = (List.range bd.length).map fun s => bd.getD s 0 := by
    apply List.ext_getElem?
    intro i
    rw [List.getElem?_map]
    rcases Nat.lt_or_ge i bd.length with q | q
    · rw [List.getElem?_range q, List.getElem?_eq_getElem q]
      simp [q]
    · rw [List.getElem?_eq_none q, List.getElem?_eq_none (by simpa using q)]; rfl
  have h : (bd.filter (· != 0)).length = (((List.range bd.length).map fun s => bd.getD s 0).filter (· != 0)).length := by rw [← e]
  rw [h, List.filter_map, List.length_map]
  rfl
theorem flat_sum {α : Type} {F : α → List Nat} {c : α → Nat} (h : ∀ x, (F x).length ≤ c x) : ∀ l : List α, (l.flatMap F).length ≤ (l.map c).sum
  | [] => by simp
  | x :: r => by
    rw [List.flatMap_cons, List.length_append, List.map_cons, List.sum_cons]
    have := h x
    have := flat_sum h r
    omega
theorem sum_ind (p q : Nat → Bool) : ∀ l : List Nat, (l.map fun x => 5 + 4 * (if p x then 1 else 0) + 4 * (if q x then 1 else 0)).sum = 5 * l.length + 4 * (l.filter p).length + 4 * (l.filter q).length
  | [] => rfl
  | x :: r => by
    rw [List.map_cons, List.sum_cons, sum_ind p q r, List.length_cons]
    cases hp : p x <;> cases hq : q x <;> simp [hp, hq] <;> omega
theorem lawM_len (hb : (f, r, dbl) ∈ bds) (B : BI f r 9 bd ks ws) (hs : sd ≤ 1) (stage tg : Nat) : (lawM f r dbl sd stage tg bd).length < 64 := by
  have e : lawM f r dbl sd stage tg bd = (PL (f * r) sd bd).flatMap fun sq => (((A1 f r sd stage tg bd sq ++ A3 f r sd stage tg bd sq) ++ A2 f r dbl sd stage tg bd sq) ++ AC f r sd stage tg 1 bd sq) ++ AC f r sd stage tg 0 bd sq := by
    unfold lawM
    exact flat_congr fun sq hsq => lawSq_parts hb B hs stage tg (mem_PL.mp hsq).2
  have l13 : ∀ sq, (A1 f r sd stage tg bd sq).length + (A3 f r sd stage tg bd sq).length ≤ 4 := by
    intro sq
    unfold A1 A3
    have pl := promos_len stage false sq (tgt1 f sd sq)
    cases c1 : C1 f r sd tg bd sq with
    | false => cases c3 : C3 f r sd tg bd sq <;> by_cases s0 : stage = 0 <;> simp [s0] <;> (try rw [s0] at pl) <;> omega
    | true =>
      have c3 : C3 f r sd tg bd sq = false := by
        unfold C1 at c1
        unfold C3
        simp only [Bool.and_eq_true, decide_eq_true_eq, Bool.not_eq_true'] at c1
        rw [c1.2.2]; simp
      rw [c3]
      by_cases s0 : stage = 0 <;> simp [s0]
  have l2 : ∀ sq, (A2 f r dbl sd stage tg bd sq).length ≤ 1 := by
    intro sq; unfold A2
    split
    · simp
    · split <;> simp
  have lC : ∀ w sq, (AC f r sd stage tg w bd sq).length ≤ 4 * (if capOk f r sd bd sq w then 1 else 0) := by
    intro w sq
    unfold AC CC
    cases hc : capOk f r sd bd sq w with
    | false => simp
    | true =>
      have pl := promos_len stage true sq (capT f r sd sq w)
      split
      · simp
      · split
        · split
          · simpa using pl
          · simp
        · simp
  rw [e]
  have bound := flat_sum (F := fun sq => (((A1 f r sd stage tg bd sq ++ A3 f r sd stage tg bd sq) ++ A2 f r dbl sd stage tg bd sq) ++ AC f r sd stage tg 1 bd sq) ++ AC f r sd stage tg 0 bd sq) (c := fun sq => 5 + 4 * (if capOk f r sd bd sq 1 then 1 else 0) + 4 * (if capOk f r sd bd sq 0 then 1 else 0)) (fun sq => by
    simp only [List.length_append]
    have := l13 sq
    have := l2 sq
    have := lC 1 sq
    have := lC 0 sq
    (clear hs; omega)) (PL (f * r) sd bd)
  rw [sum_ind] at bound
  have cw : ∀ w, w ≤ 1 → ((PL (f * r) sd bd).filter fun sq => capOk f r sd bd sq w).length ≤ ((List.range (f * r)).filter fun s => (ws.getD (1 - sd) 0).testBit s).length := by
    intro w hw
    have P := setN_perm (C := fun sq => capOk f r sd bd sq w) (h := fun sq => capT f r sd sq w) B (cap_bits hb B hs hw) (fun sq ho hc => ((gC_ok hb B hs hw (own_lt B ho)).2 ((capOk_iff B hs).mp hc).1).2) (fun x y hx hcx hy hcy hl => cap_inj hb B hs hw hx hcx hy hcy hl)
    have := P.length_eq
    rw [List.length_map] at this
    rw [← this]
    unfold setN
    rw [← List.countP_eq_length_filter, ← List.countP_eq_length_filter]
    refine List.countP_mono_left fun x _ h => ?_
    rw [Nat.testBit_and, Bool.and_eq_true] at h
    exact h.2
  have pw : ∀ w, ((PL (f * r) sd bd).filter fun sq => capOk f r sd bd sq w).length ≤ (PL (f * r) sd bd).length := fun w => List.length_filter_le _ _
  have tot : (PL (f * r) sd bd).length + ((List.range (f * r)).filter fun s => (ws.getD (1 - sd) 0).testBit s).length ≤ 9 := by
    have h1 := cnt_two (p := fun s => decide (bd.getD s 0 = 1 + 8 * sd)) (q := fun s => (ws.getD (1 - sd) 0).testBit s) (t := fun s => bd.getD s 0 != 0) (fun x hx => by
      have hx' := of_decide_eq_true hx
      cases q : (ws.getD (1 - sd) 0).testBit x with
      | false => rfl
      | true =>
        have := (enemy B hs x).mp q
        rw [hx'] at this
        (clear bound hx'; omega)) (fun x hx => by
      have : bd.getD x 0 ≠ 0 := by
        rcases hx with hx | hx
        · have := of_decide_eq_true hx; (clear bound hs; omega)
        · exact ((enemy B hs x).mp hx).1
      simpa using this) (List.range (f * r))
    have h2 := bd_range bd
    rw [B.lb] at h2
    have h3 := B.cnt
    unfold PL
    (clear bound hs; omega)
  have a1 := cw 1 (by (clear bound hs tot; omega))
  have a0 := cw 0 (by (clear bound hs; omega))
  have b1 := pw 1
  have b0 := pw 0
  (clear hs; omega)
end
end Pf
end

section
set_option autoImplicit false
set_option maxRecDepth 100000
set_option linter.unusedSimpArgs false
set_option linter.unusedVariables false
namespace Pf
open PySem (Operator CmpOp UnaryOp)

/-- items of any kind give natI -/
theorem compN_items {T : Loc → (Bool → AHeap → Prop) → AHeap → Prop} {B : Loc → (AVal → AHeap → Prop) → AHeap → Prop} {x : Nat} {m : Loc} {a : Nat} {o : AObj} {c : Nat} {Q : AVal → AHeap → Prop} {σ0 : AHeap} (hc0 : σ0 c = none) (ha : σ0 a = some o)
    {all : List AVal} {vals : List Int} (hl : all.length = vals.length) (hT : ∀ m' σ' K, K true σ' → T m' K σ')
    (hB : ∀ (i : Nat) v n, all[i]? = some v → vals[i]? = some n → ∀ σ' K, Ext σ0 σ' → (∀ σ'', Ext σ' σ'' → K (.int n) σ'') → B (m.set x (some v)) K σ')
    (len : all.length ≤ 100000) (fin : ∀ σ', Ext σ0 σ' → σ' c = some (.list (zs vals)) → Q (.ref c) σ') : compN T B x m a o c Q all [] (put σ0 c (.list [])) := by
  have go : ∀ (l : List AVal) (acc lv : List Int) (σ : AHeap), (∀ j : Nat, l[j]? = all[acc.length + j]?) → vals = acc ++ lv → l.length = lv.length → Ext σ0 σ → σ c = some (.list (zs acc)) → compN T B x m a o c Q l (zs acc) σ := by
    intro l
    induction l with
    | nil =>
      intro acc lv σ _ hv hlv hE hc
      have : lv = [] := by simpa using hlv.symm
      subst this
      rw [compN]
      exact ⟨fin σ hE (by rw [hc, hv]; simp), hc⟩
    | cons v r ih =>
      intro acc lv σ hg hv hlv hE hc
      match lv, hlv with
      | n :: lr, hlv =>
        rw [compN]
        refine hT _ σ _ ?_
        dsimp only
        have h1 : all[acc.length]? = some v := by have := hg 0; simpa using this.symm
        have h2 : vals[acc.length]? = some n := by rw [hv]; simp
        refine hB acc.length v n h1 h2 σ _ hE fun σ2 hE2 => ?_
        have hc2 := hE2 _ _ hc
        have lt : acc.length < all.length := (List.getElem?_eq_some_iff.mp h1).1
        refine ⟨hc2, by rw [zs_len]; (clear hl hlv; omega), (hE.trans hE2) _ _ ha, ?_⟩
        have e : zs acc ++ [AVal.int n] = zs (acc ++ [n]) := by simp [zs]
        rw [e]
        refine ih (acc ++ [n]) lr _ (fun j => ?_) (by rw [hv]; simp) (by simpa using hlv) ((hE.trans hE2).put hc0) putS
        have := hg (j + 1)
        rw [List.getElem?_cons_succ] at this
        rw [this]; congr 1; simp; (clear hl hlv; omega)
  exact go all [] vals _ (fun j => by simp) rfl hl (Ext.refl.put hc0) putS

/-! the list of boards -/
noncomputable def brdChk : Bool := bO (iCall 8 29 [] []) fun p => aRef p.1 fun g => bO p.2[g]? fun o => wLst o fun xs => (List.range 8).all fun j => bO xs[j]? fun u => bO bds[j]? fun q => aRef u fun t => bO p.2[t]? fun o2 =>
  wTup o2 fun ys => bC ys fun a ys => bC ys fun b ys => bC ys fun c ys => ys.isEmpty && (aInt a (fun i => i == (q.1 : Int)) && (aInt b (fun i => i == (q.2.1 : Int)) && aBool c fun d => d == q.2.2))
theorem brdAll : brdChk = true := by decide +kernel
theorem spec_boards {σ : AHeap} {Q : AVal → AHeap → Prop} (h : ∀ c xs σ', Ext σ σ' → σ' c = some (.list xs) → (∀ j : Nat, j < 8 → ∃ f r d t, bds[j]? = some (f, r, d) ∧ xs[j]? = some (.ref t) ∧ σ' t = some (.tup [.int (f : Int), .int (r : Int), .bool d])) → Q (.ref c) σ') :
    callW P 8 29 [] Q σ := by
  have hc := brdAll
  replace hc := bO_i hc; obtain ⟨⟨v0, H⟩, hrun, hc⟩ := hc
  replace hc := aRef_i hc; obtain ⟨g, ev, hc⟩ := hc
  obtain rfl : v0 = _ := ev
  refine closed_call hrun rfl fun ρ σ' v' R q => ?_
  obtain ⟨g', rfl, hg⟩ := q
  replace hc := bO_i hc; obtain ⟨o0, hx, hc⟩ := hc
  replace hc := wLst_i hc; obtain ⟨xs, rfl, hc⟩ := hc
  obtain ⟨b, o', e1, e2, ⟨ys, rfl, e3⟩⟩ := R.obj _ _ hx
  rw [hg] at e1; cases e1
  refine h g' ys σ' R.ext e2 fun j hj => ?_
  have h := List.all_eq_true.mp hc j (List.mem_range.mpr hj)
  replace h := bO_i h; obtain ⟨u, hxj, h⟩ := h
  replace h := bO_i h; obtain ⟨⟨f, r, d⟩, hbj, h⟩ := h
  replace h := aRef_i h; obtain ⟨t, rfl, h⟩ := h
  replace h := bO_i h; obtain ⟨o2, ht, h⟩ := h
  replace h := wTup_i h; obtain ⟨zz, rfl, h⟩ := h
  replace h := bC_i h; obtain ⟨a, z1, rfl, h⟩ := h
  replace h := bC_i h; obtain ⟨b, z2, rfl, h⟩ := h
  replace h := bC_i h; obtain ⟨c, z3, rfl, h⟩ := h
  replace h := andI h; obtain ⟨ez, h⟩ := h
  obtain rfl := List.isEmpty_iff.mp ez
  replace h := andI h; obtain ⟨ha, h⟩ := h
  replace h := andI h; obtain ⟨hb, h⟩ := h
  obtain ⟨i, rfl, ha⟩ := aInt_i ha
  obtain rfl := beq_iff_eq.mp ha
  obtain ⟨i, rfl, hb⟩ := aInt_i hb
  obtain rfl := beq_iff_eq.mp hb
  obtain ⟨i, rfl, h⟩ := aBool_i h
  obtain rfl := beq_iff_eq.mp h
  obtain ⟨w, w1, ⟨t', rfl, w2⟩⟩ := e3.get hxj
  obtain ⟨b', o', l1, l2, ⟨zs', rfl, l3⟩⟩ := R.obj _ _ ht
  rw [w2] at l1; cases l1
  refine ⟨f, r, _, t', hbj, w1, ?_⟩
  rw [l2]
  match zs', l3 with
  | [u1, u2, u3], l3 =>
    obtain ⟨q1, q2, q3, _⟩ := l3
    have q1' : u1 = _ := q1
    have q2' : u2 = _ := q2
    have q3' : u3 = _ := q3
    rw [q1', q2', q3']

theorem lcmp_ne {σ : AHeap} {a b : Nat} {ns ms : List Int} {Q : Bool → Prop} (h : (σ a = some (.list (zs ns)) ∧ σ b = some (.list (zs ms))) ∨ (σ a = some (.tup (zs ns)) ∧ σ b = some (.tup (zs ms)))) (e : ns = ms) (hq : Q false) : cmpW .NotEq (.ref a) (.ref b) Q σ := by
  simp only [cmpW, lcmp]
  refine ⟨ns, ms, h, ?_⟩
  rw [e]
  simpa using hq

section
variable {k f r g p n : Nat} {dbl : Bool} {bd ks ws : List Nat} {σ σ0 : AHeap}

noncomputable def pairBody : List St := [(.asg 8 (.comp (.call 35 [(.attr (.var 6) 2), (.var 1), (.var 2), (.var 3), (.var 7), (.var 13)]) 13 (.range [(.bin .Mult (.var 1) (.var 2))]) [(.cmp .Eq (.sub (.attr (.var 6) 2) (.var 13)) (.bin .Add (.lit (.int 1)) (.bin .Mult (.lit (.int 8)) (.var 7))))])), (.iff (.cmp .NotEq (.call 13 [(.var 6), (.var 7)]) (.tup [(.call 33 [(.comp (.sub (.var 14) (.lit (.int 0))) 14 (.var 8) [])]), (.call 33 [(.comp (.sub (.var 15) (.lit (.int 1))) 15 (.var 8) [])])])) [(.ret (.lit (.bool false)))] [])]

theorem PL_ints (side : Nat) : ((natI (List.range (f * r))).filter fun n => decide (bd.getD n.toNat 0 = 1 + 8 * side)) = natI (PL (f * r) side bd) := by
  unfold natI PL
  rw [List.filter_map]
  rfl
theorem PL_len (side : Nat) : (PL (f * r) side bd).length ≤ f * r := by
  have := List.length_filter_le (fun s => decide (bd.getD s 0 = 1 + 8 * side)) (List.range (f * r))
  simpa [PL] using this

theorem spec_pairs {sd s : Nat} {v0 v4 v5 : AVal} {x8 x9 x10 x11 x12 : Option AVal} {Q : AFlow → Loc → AHeap → Prop} (S : Std σ g f r dbl p sd n bd ks ws) (hs : s ≤ 1)
    (h : ∀ x8' σ', Ext σ σ' → Q .next [some v0, some (.int (f : Int)), some (.int (r : Int)), some (.bool dbl), some v4, some v5, some (.ref p), some (.int (s : Int)), x8', x9, x10, x11, x12, none, none, none, none] σ') :
    wpSs (callW P (k + 3)) pairBody [some v0, some (.int (f : Int)), some (.int (r : Int)), some (.bool dbl), some v4, some v5, some (.ref p), some (.int (s : Int)), x8, x9, x10, x11, x12, none, none, none, none] Q σ := by
  obtain ⟨hb, G, F, B, hsd⟩ := S
  have F0 := F
  obtain ⟨dp, z, bl, kl, sl, hs', key, h1, h2, h3, h4, h5⟩ := F
  obtain ⟨n1, n2, n3, n4, n5⟩ := bd_num hb
  unfold pairBody
  refine K1 ?_
  simp only [We2, We3, We11, We14, We19, We24, Wes1, Wes2, varW, List.getElem?_cons_zero, List.getElem?_cons_succ, List.set_cons_zero, List.set_cons_succ]
  refine bMul (by (clear hs hsd n1 n5; omega)) ?_
  first | refine Rg1 ?_ | refine Rg3 ?_
  refine ⟨⟨by (clear hs hsd n5; omega), by (clear hs hsd; omega)⟩, fun a ha => ⟨a, _, _, rfl, putS, rfl, by rw [rangeL_nat]; simp [zs, natI]; (clear hs hsd; omega), fun c hc => ?_⟩⟩
  rw [rangeL_nat]
  have Ea : Ext σ (put σ a (.range 0 ((f * r : Nat) : Int) 1)) := ext_put2 ha
  refine compN_refs (tst := fun n => decide (bd.getD n.toNat 0 = 1 + 8 * s)) (ob := fun n => .tup (zs [st1 f s bd n.toNat, st2 f r dbl s bd n.toNat])) hc putS ?_ ?_ (by simp [natI]; (clear hs hsd; omega)) fun σ1 ts hE1 hc1 hlt hts => ?_
  · intro y hy σ' K' hE hK'
    obtain ⟨i, hi, rfl⟩ := List.mem_map.mp hy
    have hi' := List.mem_range.mp hi
    have E' := Ea.trans hE
    simp only [Wts1, Wts2, Wt4, We1, We2, We3, We11, We12, varW, List.getElem?_cons_zero, List.getElem?_cons_succ, List.set_cons_zero, List.set_cons_succ]
    refine attrGo (E' _ _ h1) (E' _ _ h2) rfl (subI (E' _ _ h3) (bd_get B hi') (by (clear hs hsd; omega)) ?_)
    refine bMul (a := 8) (by decide) (bAdd (a := 1) (cEqN ?_))
    simp only [Int.toNat_natCast] at hK'
    cases hq : decide (bd.getD i 0 = 1 + 8 * s) with
    | true => rw [if_pos rfl]; rw [hq] at hK'; exact hK'
    | false => rw [if_neg (by decide)]; rw [hq] at hK'; exact hK'
  · intro y hy ht σ' K' hE hK'
    obtain ⟨i, hi, rfl⟩ := List.mem_map.mp hy
    have E' := Ea.trans hE
    simp only [Int.toNat_natCast, decide_eq_true_eq] at ht
    simp only [List.getElem?_cons_zero, List.getElem?_cons_succ, List.set_cons_zero, List.set_cons_succ]
    refine attrGo (E' _ _ h1) (E' _ _ h2) rfl (spec_steps hb (E' _ _ h3) B hs ht fun t htn => ?_)
    exact hK' t _ (ext_put2 htn) htn (by rw [putS]; simp)
  rw [PL_ints] at hlt hts
  have E1 := Ea.trans hE1
  have pl := PL_len (f := f) (r := r) (bd := bd) s
  have tl : ts.length = (PL (f * r) s bd).length := by rw [hlt, ints_len]
  have tup : ∀ (i t : Nat), ts[i]? = some t → ∃ sq, (PL (f * r) s bd)[i]? = some sq ∧ σ1 t = some (.tup (zs [st1 f s bd sq, st2 f r dbl s bd sq])) := by
    intro i t e
    have lt : i < (PL (f * r) s bd).length := by rw [← tl]; exact (List.getElem?_eq_some_iff.mp e).1
    obtain ⟨u, u1, u2⟩ := hts i ((PL (f * r) s bd)[i] : Int) (by simp [natI, lt])
    rw [e] at u1; cases u1
    exact ⟨_, List.getElem?_eq_getElem lt, by simpa using u2⟩
  (refine K10 ?_; rw [Wt4])
  simp only [We1, We2, We12, We14, We23, We24, Wes1, Wes2, varW, List.getElem?_cons_zero, List.getElem?_cons_succ, List.length_cons, List.length_nil]
  refine spec_push_targets hb (G.ext E1) (F0.ext E1) B hs fun tc htc => ?_
  have k2 : ∀ b o, σ1 b = some o → put σ1 tc (.tup [.int ((onesB f r s ks ws : Nat) : Int), .int ((twosB f r dbl s ks ws : Nat) : Int)]) b = some o := fun b o e => put_get e htc
  have htc2 : put σ1 tc (.tup [.int ((onesB f r s ks ws : Nat) : Int), .int ((twosB f r dbl s ks ws : Nat) : Int)]) tc = some (.tup (zs [((onesB f r s ks ws : Nat) : Int), ((twosB f r dbl s ks ws : Nat) : Int)])) := putS
  generalize put σ1 tc (.tup [.int ((onesB f r s ks ws : Nat) : Int), .int ((twosB f r dbl s ks ws : Nat) : Int)]) = σ2 at k2 htc2
  have lim1 : ∀ x ∈ (PL (f * r) s bd).map (st1 f s bd), x < 40 := by
    intro x hx
    obtain ⟨sq, hsq, rfl⟩ := List.mem_map.mp hx
    have := tgt1_lt B hs (mem_PL.mp hsq).2
    unfold st1; split <;> omega
  have lim2 : ∀ x ∈ (PL (f * r) s bd).map (st2 f r dbl s bd), x < 40 := by
    intro x hx
    obtain ⟨sq, hsq, rfl⟩ := List.mem_map.mp hx
    unfold st2
    split
    · rename_i hm
      rcases bes2 hb hs (own_lt B (mem_PL.mp hsq).2) with e | e
      · (clear hlt hs hsd; omega)
      · have := (may2_iff.mp hm).2.2.1; rw [e.1] at this; cases this
    · omega
  refine ⟨c, _, _, rfl, k2 _ _ hc1, rfl, by rw [List.length_map]; (clear hlt hs hsd; omega), fun d1 hd1 => ?_⟩
  refine compN_items (vals := (PL (f * r) s bd).map (st1 f s bd)) hd1 (k2 _ _ hc1) (by rw [List.length_map, List.length_map, tl]) (fun m' σ' K' hK' => by simp only [Wts1]; exact hK') ?_ (by rw [List.length_map]; (clear hlt hs hsd; omega)) fun σ3 hE3 hd3 => ?_
  · intro i v y hv hy σ' K' hE hK'
    rw [List.getElem?_map] at hv hy
    cases e : ts[i]? with
    | none => rw [e] at hv; cases hv
    | some t =>
      rw [e] at hv; cases hv
      obtain ⟨sq, q1, q2⟩ := tup i t e
      rw [q1] at hy; cases hy
      simp only [List.getElem?_cons_zero, List.getElem?_cons_succ, List.set_cons_zero, List.set_cons_succ]
      exact subTup (k := 0) (hE _ _ (k2 _ _ q2)) rfl (by omega) (hK' σ' Ext.refl)
  refine spec_set hd3 (by rw [List.length_map]; (clear hs hsd; omega)) lim1 fun σ4 hE4 => ?_
  rw [setOnes hb B hs]
  have E24 := hE3.trans hE4
  refine ⟨c, _, _, rfl, E24 _ _ (k2 _ _ hc1), rfl, by rw [List.length_map]; (clear hc1 hlt hs hsd; omega), fun d2 hd2 => ?_⟩
  refine compN_items (vals := (PL (f * r) s bd).map (st2 f r dbl s bd)) hd2 (E24 _ _ (k2 _ _ hc1)) (by rw [List.length_map, List.length_map, tl]) (fun m' σ' K' hK' => by simp only [Wts1]; exact hK') ?_ (by rw [List.length_map]; (clear hc1 hlt hs hsd; omega)) fun σ5 hE5 hd5 => ?_
  · intro i v y hv hy σ' K' hE hK'
    rw [List.getElem?_map] at hv hy
    cases e : ts[i]? with
    | none => rw [e] at hv; cases hv
    | some t =>
      rw [e] at hv; cases hv
      obtain ⟨sq, q1, q2⟩ := tup i t e
      rw [q1] at hy; cases hy
      simp only [List.getElem?_cons_zero, List.getElem?_cons_succ, List.set_cons_zero, List.set_cons_succ]
      exact subTup (k := 1) (hE _ _ (E24 _ _ (k2 _ _ q2))) rfl (by omega) (hK' σ' Ext.refl)
  refine spec_set hd5 (by rw [List.length_map]; (clear B hs hsd; omega)) lim2 fun σ6 hE6 => ?_
  rw [setTwos hb B hs]
  have E26 := E24.trans (hE5.trans hE6)
  refine ⟨by decide, fun d3 hd3' => ?_⟩
  refine lcmp_ne (ns := [((onesB f r s ks ws : Nat) : Int), ((twosB f r dbl s ks ws : Nat) : Int)]) (.inr ⟨put_get (E26 _ _ htc2) hd3', putS⟩) rfl ?_
  simp only [Wss1]
  exact h _ _ (fun b o e => put_get (E26 _ _ (k2 _ _ (E1 _ _ e))) hd3')
end
end Pf
end

section
set_option autoImplicit false
set_option maxRecDepth 100000
set_option linter.unusedSimpArgs false
set_option linter.unusedVariables false
namespace Pf
open PySem (Operator CmpOp UnaryOp)

section
variable {k f r g p n : Nat} {dbl : Bool} {bd ks ws : List Nat} {σ σ0 : AHeap}

noncomputable def stageBody : List St := [(.asg 11 (.list [(.una .USub (.lit (.int 5)))])), (.ex (.call 18 [(.var 6), (.var 10), (.var 9), (.var 11)])), (.iff (.or [(.cmp .NotEq (.sub (.var 11) (.lit (.int 0))) (.una .USub (.lit (.int 5)))), (.cmp .NotEq (.sorted (.tail (.var 11) (.lit (.int 1)))) (.call 37 [(.attr (.var 6) 2), (.var 1), (.var 2), (.var 3), (.attr (.var 6) 6), (.var 10), (.var 9)]))]) [(.ret (.lit (.bool false)))] []), (.forV 12 (.tup [(.lit (.bool false)), (.lit (.bool true))]) [(.asg 11 (.list [])), (.ex (.call 14 [(.lit (.int 1)), (.lit (.int 2)), (.var 10), (.var 12), (.var 11)])), (.iff (.cmp .NotEq (.var 11) (.comp (.call 3 [(.lit (.int 1)), (.lit (.int 2)), (.lit (.int 1)), (.var 16)]) 16 (.call 36 [(.var 10), (.var 12)]) [])) [(.ret (.lit (.bool false)))] [])])]

theorem sorted_eq {l m : List Int} (h : l.Perm m) (hl : l.Pairwise (· ≤ ·)) (hm : m.Pairwise (· ≤ ·)) : l = m :=
  List.Perm.eq_of_pairwise (fun a b _ _ h1 h2 => Int.le_antisymm h1 h2) hl hm h

theorem spec_stage {sd stage tg : Nat} {v0 v4 v5 v7 : AVal} {x8 x11 x12 : Option AVal} {Q : AFlow → Loc → AHeap → Prop} (S : Std σ g f r dbl p sd 9 bd ks ws)
    (h : ∀ x11' x12' σ', Ext σ σ' → Q .next [some v0, some (.int (f : Int)), some (.int (r : Int)), some (.bool dbl), some v4, some v5, some (.ref p), some v7, x8, some (.int (tg : Int)), some (.int (stage : Int)), x11', x12', none, none, none, none] σ') :
    wpSs (callW P (k + 4)) stageBody [some v0, some (.int (f : Int)), some (.int (r : Int)), some (.bool dbl), some v4, some v5, some (.ref p), some v7, x8, some (.int (tg : Int)), some (.int (stage : Int)), x11, x12, none, none, none, none] Q σ := by
  have S0 := S
  obtain ⟨hb, G, F, B, hs⟩ := S
  have F0 := F
  obtain ⟨dp, z, bl, kl, sl, hs', key, h1, h2, h3, h4, h5⟩ := F
  obtain ⟨n1, n2, n3, n4, n5⟩ := bd_num hb
  have perm := moves_perm hb B hs stage tg
  have l64 := lawM_len hb B hs stage tg
  have lp : (progM f r dbl sd stage tg ks ws).length < 64 := by rw [perm.length_eq]; exact l64
  unfold stageBody
  refine K1 ?_
  simp only [unaW, We1, We4, We22, Wes1, Wes2, List.set_cons_zero, List.set_cons_succ, List.length_cons, List.length_nil]
  refine ⟨by decide, fun c hc => ?_⟩
  refine K8 ?_
  simp only [We2, We14, Wes1, Wes2, varW, List.getElem?_cons_zero, List.getElem?_cons_succ]
  refine spec_pawn_moves (L := [-5]) S0 (ext_put2 hc) hc putS (by decide) fun σ1 hE1 ho1 => ⟨rfl, ?_⟩
  refine K10 ?_
  simp only [Wt3, Wt4, Wts1, Wts2, unaW, We1, We2, We4, We11, We12, We13, We14, We18, Wes1, Wes2, varW, List.getElem?_cons_zero, List.getElem?_cons_succ]
  refine subGo (k := 0) ho1 (v := .int (-5)) rfl (by (clear hs l64 lp n5; omega)) (cInt (show icmp .NotEq (-5) (-5) = some false from rfl) ?_)
  simp only [if_true]
  simp only [tailW]
  refine ⟨_, ho1, trivial, by rw [List.length_append, ints_len]; simp; (clear hs l64 n5; omega), fun c2 hc2 => ?_⟩
  rw [show List.drop 1 ([(-5 : Int)] ++ natI (progM f r dbl sd stage tg ks ws)) = natI (progM f r dbl sd stage tg ks ws) from rfl]
  have k2 : ∀ b o, σ1 b = some o → put σ1 c2 (.list (zs (natI (progM f r dbl sd stage tg ks ws)))) b = some o := fun b o e => put_get e hc2
  have hc2' : put σ1 c2 (.list (zs (natI (progM f r dbl sd stage tg ks ws)))) c2 = some (.list (zs (natI (progM f r dbl sd stage tg ks ws)))) := putS
  generalize put σ1 c2 (.list (zs (natI (progM f r dbl sd stage tg ks ws)))) = σ2 at k2 hc2'
  simp only [sortedW]
  refine ⟨_, hc2', by rw [ints_len]; exact lp, fun ms1 hp1 hw1 c3 hc3 => ?_⟩
  have k3 : ∀ b o, σ2 b = some o → put σ2 c3 (.list (zs ms1)) b = some o := fun b o e => put_get e hc3
  have hc3' : put σ2 c3 (.list (zs ms1)) c3 = some (.list (zs ms1)) := putS
  generalize put σ2 c3 (.list (zs ms1)) = σ3 at k3 hc3'
  have E3 : Ext σ σ3 := fun b o e => k3 _ _ (k2 _ _ (hE1 _ _ e))
  refine attrGo (E3 _ _ h1) (E3 _ _ h2) rfl (attrGo (E3 _ _ h1) (E3 _ _ h2) rfl ?_)
  refine spec_law_moves hb B hs (E3 _ _ h3) l64 fun c4 σ4 ms2 hp2 hw2 hc4 hE4 hl4 => ?_
  have eq : ms1 = ms2 := sorted_eq (hp1.trans ((perm.map _).trans hp2.symm)) hw1 hw2
  refine lcmp_ne (ns := ms1) (ms := ms2) (.inl ⟨hE4 _ _ hc3', hl4⟩) eq ?_
  simp only [if_true, Bool.not_false]
  rw [Wss1]
  dsimp only
  have E4 := E3.trans hE4
  refine K12 ?_
  simp only [We1, We23, Wes1, Wes2, List.length_cons, List.length_nil]
  refine ⟨by decide, fun t ht => ⟨t, _, _, rfl, putS, rfl, ?_⟩⟩
  refine forN_rule (fun i m τ => ∃ x11 x12, Ext σ τ ∧ τ t = some (.tup [.bool false, .bool true]) ∧ m = [some v0, some (.int (f : Int)), some (.int (r : Int)), some (.bool dbl), some v4, some v5, some (.ref p), some v7, x8, some (.int (tg : Int)), some (.int (stage : Int)), x11, x12, none, none, none, none]) ?_ ?_ ?_
    ⟨_, x12, fun b o e => put_get (E4 _ _ e) ht, putS, rfl⟩
  · rintro i v m τ hv ⟨x11, x12, hE, htt, rfl⟩ K hK
    have hv' : ∃ cap, v = .bool cap := by
      match i, hv with
      | 0, hv => cases hv; exact ⟨false, rfl⟩
      | 1, hv => cases hv; exact ⟨true, rfl⟩
      | i + 2, hv => simp at hv
    obtain ⟨cap, rfl⟩ := hv'
    simp only [bindV, List.set_cons_zero, List.set_cons_succ]
    refine K1 ?_
    simp only [We22, Wes1, List.set_cons_zero, List.set_cons_succ, List.length_nil]
    refine ⟨by decide, fun o ho => ?_⟩
    refine K8 ?_
    simp only [We1, We2, We14, Wes1, Wes2, varW, List.getElem?_cons_zero, List.getElem?_cons_succ]
    refine spec_add_promotions (o := 1) (t := 2) (L := []) (by decide) (ext_put2 ho) ho putS (by decide) fun τ1 e1 o1 => ⟨rfl, ?_⟩
    (refine K10 ?_; rw [Wt4])
    simp only [We1, We2, We14, We24, Wes1, Wes2, varW, List.getElem?_cons_zero, List.getElem?_cons_succ]
    refine spec_kinds fun d τ2 hd e2 hd2 => ?_
    have kl4 : (kindsN stage cap).length ≤ 4 := by have := promos_len stage cap 0 0; unfold promos at this; rwa [List.length_map] at this
    refine ⟨d, _, _, rfl, hd2, rfl, by rw [zi_len]; (clear hs l64 lp n5; omega), fun q hq => ?_⟩
    refine compN_ints (tst := fun _ => true) (g := fun y => ((mv 1 2 1 y.toNat : Nat) : Int)) hq hd2 ?_ ?_ (by rw [ints_len]; (clear hs l64 lp n5; omega)) fun τ3 e3 hq3 => ?_
    · intro y _ σ' K' _ hK'
      simp only [Wts1]; exact hK'
    · intro y hy _ σ' K' _ hK'
      obtain ⟨w, hw, rfl⟩ := List.mem_map.mp hy
      obtain ⟨w1, w2⟩ := kinds_mem hw
      simp only [List.getElem?_cons_zero, List.getElem?_cons_succ, List.set_cons_zero, List.set_cons_succ]
      exact spec_pack_move (o := 1) (t := 2) (s := 1) (p := w) (by decide) (by decide) w2 (fun _ => w1) (hK' σ' Ext.refl)
    rw [List.filter_eq_self.mpr fun _ _ => rfl] at hq3
    refine lcmp_ne (.inl ⟨e3 _ _ (e2 _ _ o1), hq3⟩) ?_ ?_
    · unfold promos natI
      simp [List.map_map, Function.comp_def]
    · simp only [Wss1]
      exact hK _ _ ⟨_, _, hE.trans (e1.trans (e2.trans e3)), (e1.trans (e2.trans e3)) _ _ htt, rfl⟩
  · rintro i m τ ⟨_, _, _, h, _⟩; exact h
  · rintro m τ ⟨x11, x12, hE, htt, rfl⟩
    simp only [Wss1]
    exact h _ _ _ hE

theorem law_true (l : Nat) (ns : List Int) (hl : ns.length ≤ 63) : callW P 9 39 [.cst false l ns] (fun v _ => v = .bool true) (fun _ => none) := by
  refine callW_go (k := 8) rfl rfl ?_
  simp only [B_law, List.map_cons, List.map_nil, List.replicate_succ, List.replicate_zero, List.nil_append, List.cons_append]
  generalize (fun _ : Nat => (none : Option AObj)) = σ
  -- the board
  refine K2 ?_
  simp only [We1, We2, We3, We12, We14, Wes1, Wes2, varW, retOf, List.getElem?_cons_zero]
  refine spec_boards fun c xs σ1 hE1 hc1 hb => ?_
  refine spec_told (k := 7) (p := 0) (by omega) (by decide) ?_
  obtain ⟨j, hj, ej⟩ := emod_nat (a := told ns 0) (n := 8) (by decide)
  have ej' : told ns 0 % 8 = (j : Int) := ej
  simp only [Bi5, ej']
  refine ⟨by decide, ?_⟩
  obtain ⟨f, r, dbl, t, b1, b2, b3⟩ := hb j hj
  have hbd : (f, r, dbl) ∈ bds := List.mem_of_getElem? b1
  obtain ⟨n1, n2, n3, n4, n5⟩ := bd_num hbd
  refine subGo hc1 b2 (by (clear ej hl n5; omega)) ?_
  simp only [unpackW, b3, List.zip_cons_cons, List.zip_nil_left, List.foldl_cons, List.foldl_nil, List.set_cons_zero, List.set_cons_succ, List.length_cons, List.length_nil]
  refine ⟨trivial, ?_⟩
  -- the geometry
  refine K1 ?_
  simp only [We1, We2, We14, Wes1, Wes2, varW, List.getElem?_cons_zero, List.getElem?_cons_succ, List.set_cons_zero, List.set_cons_succ]
  refine spec_make_geometry (k := 0) hbd fun g σ2 hE2 G => ?_
  refine K1 ?_
  simp only [We1, We2, We3, varW, List.getElem?_cons_zero, List.getElem?_cons_succ, List.set_cons_zero, List.set_cons_succ]
  refine bMul (by (clear hl n1 n5; omega)) (bPow (by (clear hl; omega)) ?_)
  have p2 := Nat.two_pow_pos (f * r)
  -- the shifts
  refine K10 ?_
  simp only [Wt1, Wt12, We1, We2, We3, We14, Wes1, Wes2, varW, List.getElem?_cons_zero, List.getElem?_cons_succ]
  refine spec_told (k := 7) (p := 1) (by omega) (by decide) ?_
  obtain ⟨b, hb1, eb⟩ := emod_nat (a := told ns 1) (n := 2 ^ (f * r)) p2
  simp only [Bi5, eb]
  refine ⟨by (clear eb hb1 hl n5; omega), spec_shifts (k := 4) hbd G hb1 fun σ3 hE3 => ?_⟩
  simp only [truthW, Bool.not_true]
  rw [Wss1]
  dsimp only
  -- the position
  refine K1 ?_
  simp only [We2, We14, Wes1, Wes2, varW, List.getElem?_cons_zero, List.getElem?_cons_succ, List.set_cons_zero, List.set_cons_succ]
  refine spec_law_position (k := 4) hbd (by omega) (G.ext hE3) fun p σ4 sd bd ks ws hE4 hsd F B => ?_
  have S : Std σ4 g f r dbl p sd 9 bd ks ws := ⟨hbd, (G.ext hE3).ext hE4, F, B, hsd⟩
  -- the targets of the pushes
  refine K12 ?_
  simp only [We1, We23, Wes1, Wes2, List.length_cons, List.length_nil]
  refine ⟨by decide, fun t1 ht1 => ⟨t1, _, _, rfl, putS, rfl, ?_⟩⟩
  refine forN_rule (fun i m τ => ∃ x7 x8, (i = 0 ∨ ∃ v, x7 = some v) ∧ Ext σ4 τ ∧ τ t1 = some (.tup [.int 0, .int 1]) ∧ m = [some (.cst false l ns), some (.int (f : Int)), some (.int (r : Int)), some (.bool dbl), some (.ref g), some (.int ((2 ^ (f * r) : Nat) : Int)), some (.ref p), x7, x8, none, none, none, none, none, none, none, none]) ?_ ?_ ?_
    ⟨none, none, .inl rfl, ext_put2 ht1, putS, rfl⟩
  · rintro i v m τ hv ⟨x7, x8, _, hE, htt, rfl⟩ K hK
    obtain ⟨s, hs, rfl⟩ := two_get hv
    simp only [bindV, List.set_cons_zero, List.set_cons_succ]
    refine spec_pairs (k := 5) (g := g) (sd := sd) (n := 9) ⟨hbd, S.G.ext hE, F.ext hE, B, hsd⟩ hs fun x8' σ' hE' => ?_
    exact hK _ _ ⟨_, x8', .inr ⟨_, rfl⟩, hE.trans hE', hE' _ _ htt, rfl⟩
  · rintro i m τ ⟨_, _, _, _, h, _⟩; exact h
  · rintro m τ ⟨x7, x8, hx7, hE, htt, rfl⟩
    obtain ⟨v7, rfl⟩ : ∃ v, x7 = some v := by
      rcases hx7 with h | h
      · simp at h
      · exact h
    simp only [List.getElem?_cons_zero]
    -- the target
    refine K1 ?_
    simp only [We1, We2, We3, We14, Wes1, Wes2, varW, List.getElem?_cons_zero, List.getElem?_cons_succ, List.set_cons_zero, List.set_cons_succ]
    refine spec_told (k := 7) (p := 2) (by omega) (by decide) ?_
    obtain ⟨tg, htg, etg⟩ := emod_nat (a := told ns 2) (n := 2 ^ (f * r)) p2
    simp only [Bi5, etg]
    refine ⟨by omega, ?_⟩
    -- the stages
    refine K12 ?_
    simp only [We1, We23, Wes1, Wes2, List.length_cons, List.length_nil]
    refine ⟨by decide, fun t2 ht2 => ⟨t2, _, _, rfl, putS, rfl, ?_⟩⟩
    refine forN_rule (fun i m τ' => ∃ x10 x11 x12, Ext σ4 τ' ∧ τ' t2 = some (.tup [.int 0, .int 1, .int 3, .int 2]) ∧ m = [some (.cst false l ns), some (.int (f : Int)), some (.int (r : Int)), some (.bool dbl), some (.ref g), some (.int ((2 ^ (f * r) : Nat) : Int)), some (.ref p), some v7, x8, some (.int (tg : Int)), x10, x11, x12, none, none, none, none]) ?_ ?_ ?_
      ⟨none, none, none, fun b o e => put_get (hE _ _ e) ht2, putS, rfl⟩
    · rintro i v m τ' hv ⟨x10, x11, x12, hE', htt', rfl⟩ K hK
      have hv' : ∃ s : Nat, v = .int (s : Int) := by
        match i, hv with
        | 0, hv => cases hv; exact ⟨0, rfl⟩
        | 1, hv => cases hv; exact ⟨1, rfl⟩
        | 2, hv => cases hv; exact ⟨3, rfl⟩
        | 3, hv => cases hv; exact ⟨2, rfl⟩
        | i + 4, hv => simp at hv
      obtain ⟨s, rfl⟩ := hv'
      simp only [bindV, List.set_cons_zero, List.set_cons_succ]
      refine spec_stage (k := 4) (g := g) (sd := sd) ⟨hbd, S.G.ext hE', F.ext hE', B, hsd⟩ fun x11' x12' σ' hE'' => ?_
      exact hK _ _ ⟨_, x11', x12', hE'.trans hE'', hE'' _ _ htt', rfl⟩
    · rintro i m τ' ⟨_, _, _, _, h, _⟩; exact h
    · rintro m τ' ⟨x10, x11, x12, hE', htt', rfl⟩
      simp only [Wss1, Wss2, Ws9, We1]
end
end Pf
end

section
set_option autoImplicit false
namespace Pf
open PySem PySem.W PyProof.Rows PySem.Calls
noncomputable def fragAll (h : Heap) : Frag := (List.range h.objs.size).filterMap fun a => (h.get? a).map fun o => (a, o)
theorem look_mem {β : Type} (l : List (Nat × β)) (a : Nat) (o : β) (h : l.lookup a = some o) : (a, o) ∈ l := by
  induction l with
  | nil => simp at h
  | cons p r ih =>
    obtain ⟨b, q⟩ := p
    rw [List.lookup_cons] at h
    cases e : a == b with
    | true =>
      rw [e] at h
      simp only [Option.some.injEq] at h
      rw [beq_iff_eq.mp e, h]; exact List.mem_cons_self
    | false => rw [e] at h; exact List.mem_cons_of_mem _ (ih h)
theorem frag_in (h : Heap) : (fragAll h).In h := fun a o e => by
  obtain ⟨b, hb, q⟩ := List.mem_filterMap.mp (look_mem (β := Obj) _ a o e)
  cases z : h.get? b with
  | none => rw [z] at q; cases q
  | some p => rw [z] at q; cases q; exact z
end Pf
end

section
set_option autoImplicit false
set_option maxRecDepth 100000
namespace Pf
open PySem PySem.W PyProof.Rows PySem.Calls

/-! views of a value, an object's data, a def's body -/
noncomputable def vInt (v : Value) (F : Int → Tok → Bool) : Bool := Value.casesOn v false false false (fun _ => false) F (fun _ _ => false) (fun _ _ => false) (fun _ _ => false) (fun _ => false) (fun _ => false) (fun _ => false)
theorem vInt_i {v : Value} {F : Int → Tok → Bool} (h : vInt v F = true) : ∃ i t, v = .int i t ∧ F i t = true := by cases v <;> first | exact noT h | exact ⟨_, _, rfl, h⟩
noncomputable def vTyp (v : Value) (F : String → Bool) : Bool := Value.casesOn v false false false (fun _ => false) (fun _ _ => false) (fun _ _ => false) (fun _ _ => false) (fun _ _ => false) F (fun _ => false) (fun _ => false)
theorem vTyp_i {v : Value} {F : String → Bool} (h : vTyp v F = true) : ∃ i, v = .type i ∧ F i = true := by cases v <;> first | exact noT h | exact ⟨_, rfl, h⟩
noncomputable def vBlt (v : Value) (F : String → Bool) : Bool := Value.casesOn v false false false (fun _ => false) (fun _ _ => false) (fun _ _ => false) (fun _ _ => false) (fun _ _ => false) (fun _ => false) F (fun _ => false)
theorem vBlt_i {v : Value} {F : String → Bool} (h : vBlt v F = true) : ∃ i, v = .builtin i ∧ F i = true := by cases v <;> first | exact noT h | exact ⟨_, rfl, h⟩
noncomputable def vRef (v : Value) (F : Addr → Bool) : Bool := Value.casesOn v false false false (fun _ => false) (fun _ _ => false) (fun _ _ => false) (fun _ _ => false) (fun _ _ => false) (fun _ => false) (fun _ => false) F
theorem vRef_i {v : Value} {F : Addr → Bool} (h : vRef v F = true) : ∃ i, v = .ref i ∧ F i = true := by cases v <;> first | exact noT h | exact ⟨_, rfl, h⟩
noncomputable def vNo (v : Value) : Bool := Value.casesOn v true false false (fun _ => false) (fun _ _ => false) (fun _ _ => false) (fun _ _ => false) (fun _ _ => false) (fun _ => false) (fun _ => false) (fun _ => false)
theorem vNo_i {v : Value} (h : vNo v = true) : v = .none := by cases v <;> first | exact noT h | rfl
noncomputable def dSeq (d : Data) (F : Array Value → Nat → Bool) : Bool := Data.casesOn d false (fun _ => false) F (fun _ _ => false) (fun _ _ _ => false) (fun _ _ => false) (fun _ => false) (fun _ => false) (fun _ => false) (fun _ => false) false
theorem dSeq_i {d : Data} {F : Array Value → Nat → Bool} (h : dSeq d F = true) : ∃ xs n, d = .seq xs n ∧ F xs n = true := by cases d <;> first | exact noT h | exact ⟨_, _, rfl, h⟩
noncomputable def dFn (d : Data) (F : FuncData → Bool) : Bool := Data.casesOn d false (fun _ => false) (fun _ _ => false) (fun _ _ => false) (fun _ _ _ => false) (fun _ _ => false) (fun _ => false) F (fun _ => false) (fun _ => false) false
theorem dFn_i {d : Data} {F : FuncData → Bool} (h : dFn d F = true) : ∃ f, d = .func f ∧ F f = true := by cases d <;> first | exact noT h | exact ⟨_, rfl, h⟩
noncomputable def bSt (b : FuncBody) (F : List Stmt → Bool) : Bool := FuncBody.casesOn b F fun _ => false
theorem bSt_i {b : FuncBody} {F : List Stmt → Bool} (h : bSt b F = true) : ∃ l, b = .stmts l ∧ F l = true := by cases b <;> first | exact noT h | exact ⟨_, rfl, h⟩

noncomputable def intsOk : List Value → List Int → Bool
  | [], ns => ns.isEmpty
  | v :: r, ns => onC ns fun j s => vInt v fun i _ => i == j && intsOk r s
theorem intsOk_are : ∀ {vs : List Value} {ns : List Int}, intsOk vs ns = true → IntsAre vs ns
  | [], ns, h => by
    obtain rfl := emp_i h
    exact .nil
  | v :: r, ns, h => by
    replace h := onC_i h; obtain ⟨j, s, rfl, h⟩ := h
    replace h := vInt_i h; obtain ⟨i, t, rfl, h⟩ := h
    replace h := and_i h; obtain ⟨q, h⟩ := h
    obtain rfl := beq_iff_eq.mp q
    exact .cons i t (intsOk_are h)

noncomputable def valOk (K : Frag) (v : AVal) (val : Value) : Bool := AVal.casesOn v (fun i => vInt val fun j _ => i == j) (fun _ => false) false (fun _ => false) fun t a ns => t && vRef val fun b => a == b &&
  onO (K.lookup a) fun o => vTyp o.cls fun c => c == "tuple" && dSeq o.data fun xs _ => intsOk xs.toList ns
theorem valOk_rel {K : Frag} {base : Heap} (X : K.In base) {v : AVal} {val : Value} (h : valOk K v val = true) : VRel base v val := by
  cases v with
  | int i =>
    obtain ⟨j, t, rfl, h⟩ := vInt_i h
    obtain rfl := beq_iff_eq.mp h
    exact ⟨_, rfl⟩
  | cst t a ns =>
    replace h := and_i h; obtain ⟨rfl, h⟩ := h
    replace h := vRef_i h; obtain ⟨b, rfl, h⟩ := h
    replace h := and_i h; obtain ⟨q, h⟩ := h
    obtain rfl := beq_iff_eq.mp q
    replace h := onO_i h; obtain ⟨⟨oc, od, dat, sl⟩, e, h⟩ := h
    replace h := vTyp_i h; obtain ⟨c, ec, h⟩ := h
    obtain rfl : oc = _ := ec
    replace h := and_i h; obtain ⟨q, h⟩ := h
    obtain rfl := beq_iff_eq.mp q
    replace h := dSeq_i h; obtain ⟨xs, n, ed, h⟩ := h
    obtain rfl : dat = _ := ed
    exact ⟨rfl, xs.toList, intsOk_are h, _, X _ _ e, rfl, n, rfl⟩
  | _ => exact noT h

noncomputable def globOk (K : Frag) : Bool := globTab.all fun p => onO (nsIn K mainGlobals p.1) fun y => onO y fun val => valOk K p.2 val
noncomputable def isRf (v : Option (Option Value)) (a : Nat) : Bool := onO v fun y => onO y fun u => vRef u fun b => a == b
theorem isRf_of {v : Option (Option Value)} {a : Nat} (h : isRf v a = true) : v = some (some (.ref a)) := by
  replace h := onO_i h; obtain ⟨y, rfl, h⟩ := h
  replace h := onO_i h; obtain ⟨u, rfl, h⟩ := h
  replace h := vRef_i h; obtain ⟨b, rfl, h⟩ := h
  rw [beq_iff_eq.mp h]
noncomputable def refAt (K : Frag) (x : Str) (a : Nat) : Bool := isRf (nsIn K mainGlobals x) a
theorem refAt_of {K : Frag} {x : Str} {a : Nat} (h : refAt K x a = true) : nsIn K mainGlobals x = some (some (.ref a)) := isRf_of h
noncomputable def isNo (v : Option (Option Value)) : Bool := onO v fun y => y.isNone
theorem isNo_of {v : Option (Option Value)} (h : isNo v = true) : v = some none := by
  replace h := onO_i h; obtain ⟨y, rfl, h⟩ := h
  rw [nn_i h]
noncomputable def freeG (K : Frag) (x : Str) : Bool := isNo (nsIn K mainGlobals x)
theorem freeG_of {K : Frag} {x : Str} (h : freeG K x = true) : nsIn K mainGlobals x = some none := isNo_of h
noncomputable def isBlt (v : Option (Option Value)) (id : String) : Bool := onO v fun y => onO y fun u => vBlt u fun i => i == id
theorem isBlt_of {v : Option (Option Value)} {id : String} (h : isBlt v id = true) : v = some (some (.builtin id)) := by
  replace h := onO_i h; obtain ⟨y, rfl, h⟩ := h
  replace h := onO_i h; obtain ⟨u, rfl, h⟩ := h
  replace h := vBlt_i h; obtain ⟨b, rfl, h⟩ := h
  rw [beq_iff_eq.mp h]
noncomputable def isTy (v : Option Value) (t : String) : Bool := onO v fun u => vTyp u fun i => i == t
theorem isTy_of {v : Option Value} {t : String} (h : isTy v t = true) : v = some (.type t) := by
  replace h := onO_i h; obtain ⟨u, rfl, h⟩ := h
  replace h := vTyp_i h; obtain ⟨b, rfl, h⟩ := h
  rw [beq_iff_eq.mp h]
noncomputable def clsChk (K : Frag) (c : Nat) : Bool := isBlt (findIn K (.ref c) "__getattribute__") "object.__getattribute__" && hasDictIn K c && ((List.range 26).all fun f => isNo (findIn K (.ref c) (Str.ofString (attrName f)))) &&
  isBlt (findIn K (.ref c) "__setattr__") "object.__setattr__" && plainOver K c
theorem clsChk_of {K : Frag} {c : Nat} (h : clsChk K c = true) : ClsOk K c := by
  simp only [clsChk, Bool.and_eq_true] at h
  obtain ⟨⟨⟨⟨h1, h2⟩, h3⟩, h4⟩, h5⟩ := h
  exact ⟨isBlt_of h1, h2, fun f hf => isNo_of (List.all_eq_true.mp h3 f (List.mem_range.mpr hf)), isBlt_of h4, h5⟩
noncomputable def defs : List Nat := (List.range 40).filter fun f => f != 4 && f != 19 && f != 28
theorem defs_mem {f : Nat} (h1 : f < 40) (h2 : f ≠ 4) (h3 : f ≠ 19) (h4 : f ≠ 28) : f ∈ defs := by
  refine List.mem_filter.mpr ⟨List.mem_range.mpr h1, ?_⟩
  simp [h2, h3, h4]
noncomputable def mkChk (K : Frag) (p : Str × Nat × Nat) : Bool := refAt K p.1 p.2.1 && keepIn K (.ref p.2.1) && makesIn K p.2.1 && isRf (findIn K (.ref p.2.1) "__init__") (faddr p.2.2) && isTy (typeIn K (.ref (faddr p.2.2))) "function"
noncomputable def cxChk (K : Frag) : Bool := globOk K && ((["len", "sum", "sorted", "range", "list"] : List Str).all fun x => freeG K x) && (defs.all fun f => refAt K (fname f) (faddr f) && keepIn K (.ref (faddr f))) &&
  (clsChk K 59 && clsChk K 200 && clsChk K 277) && (clsTab.all fun p => mkChk K p)

theorem cx_of {K : Frag} {base : Heap} {p : Program} {loose : List Str} {mean : ExcName → Option Value} {mg mb : Str → Option Value} (X : K.In base) (T : Top p loose mean mg mb base) (h : cxChk K = true) : Cx K base mg mb := by
  simp only [cxChk, Bool.and_eq_true] at h
  obtain ⟨⟨⟨⟨h1, h2⟩, h3⟩, ⟨⟨h4, h5⟩, h6⟩⟩, h7⟩ := h
  have ct : ∀ x c f, clsTab.lookup x = some (c, f) → mkChk K (x, c, f) = true ∧ (c = 59 ∨ c = 200 ∨ c = 277) := fun x c f e => by
    have hm := mem_of_lookup e
    refine ⟨List.all_eq_true.mp h7 _ hm, ?_⟩
    simp only [clsTab, List.mem_cons, List.not_mem_nil, or_false, Prod.mk.injEq] at hm
    rcases hm with ⟨_, rfl, _⟩ | ⟨_, rfl, _⟩ | ⟨_, rfl, _⟩ <;> simp
  refine ⟨X, T.g, T.b, T.nolimit, T.builtins, fun x v e => ?_, fun x hx => mg_none_of X T.g (freeG_of (List.all_eq_true.mp h2 x hx)), fun f f1 f2 f3 f4 => ?_, fun c hc => ?_, fun x c f e => ?_, fun f f1 f2 f3 f4 => ?_, fun x c f e => ?_, fun x c f e => ?_⟩
  · have := List.all_eq_true.mp h1 _ (mem_of_lookup e)
    replace this := onO_i this; obtain ⟨y, e', this⟩ := this
    replace this := onO_i this; obtain ⟨val, rfl, this⟩ := this
    exact ⟨val, mg_of X T.g e', valOk_rel X this⟩
  · have := List.all_eq_true.mp h3 f (defs_mem f1 f2 f3 f4)
    simp only [Bool.and_eq_true] at this
    exact mg_of X T.g (refAt_of this.1)
  · rcases hc with rfl | rfl | rfl
    · exact clsChk_of h4
    · exact clsChk_of h5
    · exact clsChk_of h6
  · have := (ct x c f e).1
    simp only [mkChk, Bool.and_eq_true] at this
    exact mg_of X T.g (refAt_of this.1.1.1.1)
  · have := List.all_eq_true.mp h3 f (defs_mem f1 f2 f3 f4)
    simp only [Bool.and_eq_true] at this
    exact this.2
  · have := (ct x c f e).1
    simp only [mkChk, Bool.and_eq_true] at this
    exact this.1.1.1.2
  · have h := (ct x c f e).1
    simp only [mkChk, Bool.and_eq_true] at h
    exact ⟨(ct x c f e).2, h.1.1.2, isRf_of h.1.2, isTy_of h.2⟩

/-! the defs -/
noncomputable def nodupSt : List Str → Bool
  | [] => true
  | x :: r => !(r.contains x) && nodupSt r
theorem nodupSt_of : ∀ {l : List Str}, nodupSt l = true → l.Pairwise (· ≠ ·)
  | [], _ => .nil
  | x :: r, h => by
    simp only [nodupSt, Bool.and_eq_true, Bool.not_eq_true'] at h
    refine .cons (fun y hy z => ?_) (nodupSt_of h.2)
    have : r.contains x = true := List.contains_iff_mem.mpr (z ▸ hy)
    rw [h.1] at this; cases this
noncomputable def injOk (nm : List (Option Str)) : Bool := nodupSt (nm.filterMap id)
theorem injOk_of : ∀ {nm : List (Option Str)}, injOk nm = true → ∀ (i j : Nat) n, nm[i]? = some (some n) → nm[j]? = some (some n) → i = j
  | [], _, i, j, n, h, _ => by simp at h
  | x :: r, h, i, j, n, h1, h2 => by
    unfold injOk at h
    have hr : injOk r = true ∧ ∀ y, x = some y → y ∉ r.filterMap id := by
      cases x with
      | none => simp only [List.filterMap_cons, id] at h; exact ⟨h, fun y e => nomatch e⟩
      | some y =>
        simp only [List.filterMap_cons, id, nodupSt, Bool.and_eq_true, Bool.not_eq_true'] at h
        refine ⟨h.2, fun z e hz => ?_⟩
        cases e
        have := List.contains_iff_mem.mpr hz
        rw [h.1] at this; cases this
    have inr : ∀ (k : Nat), r[k]? = some (some n) → n ∈ r.filterMap id := fun k e => List.mem_filterMap.mpr ⟨some n, List.mem_of_getElem? e, rfl⟩
    cases i with
    | zero =>
      cases j with
      | zero => rfl
      | succ j =>
        simp only [List.getElem?_cons_zero, Option.some.injEq] at h1
        rw [List.getElem?_cons_succ] at h2
        exact absurd (inr j h2) (hr.2 n h1)
    | succ i =>
      cases j with
      | zero =>
        simp only [List.getElem?_cons_zero, Option.some.injEq] at h2
        rw [List.getElem?_cons_succ] at h1
        exact absurd (inr i h1) (hr.2 n h2)
      | succ j =>
        rw [List.getElem?_cons_succ] at h1 h2
        exact congrArg (· + 1) (injOk_of hr.1 i j n h1 h2)
noncomputable def prefOk : List Str → List (Option Str) → Bool
  | [], _ => true
  | x :: r, ns => onC ns fun y s => onO y fun y => x == y && prefOk r s
theorem prefOk_of : ∀ {ns : List Str} {nm : List (Option Str)}, prefOk ns nm = true → ∀ (i : Nat) n, ns[i]? = some n → nm[i]? = some (some n)
  | [], _, _, _, _, h => by simp at h
  | x :: r, nm, h, i, n, e => by
    replace h := onC_i h; obtain ⟨y, s, rfl, h⟩ := h
    replace h := onO_i h; obtain ⟨y, rfl, h⟩ := h
    replace h := and_i h; obtain ⟨q, h⟩ := h
    obtain rfl := beq_iff_eq.mp q
    cases i with
    | zero => simpa using e
    | succ i => rw [List.getElem?_cons_succ] at e ⊢; exact prefOk_of h i n e

noncomputable def fdChk (K : Frag) (nm : List (Option Str)) (fn : Fn) (fd : FuncData) (body : List Stmt) : Bool :=
  fd.closure.isEmpty && fd.globals == mainGlobals && fd.builtins == builtinsNs && codeIn K fd.code fd.qualname && !fd.scope.isCoroutine && !fd.scope.isGenerator && fd.scope.kind == .function &&
  (fd.params.posonlyargs.isEmpty && fd.params.kwonlyargs.isEmpty && fd.params.vararg.isNone && fd.params.kwarg.isNone && vNo fd.defaults) &&
  (nodupSt (fd.params.args.map (·.arg)) && (fd.params.args.map (·.arg)).length == fn.np && prefOk (fd.params.args.map (·.arg)) nm) && (nm.length == fn.np + fn.nl) && injOk nm &&
  ((fd.params.args.map (·.arg)).all fun n => isSto (fd.scope.names.lookup n)) && (fd.scope.names.all fun p => p.2 != .free) && mSs nm fd.scope fn.body body
noncomputable def fnChk (K : Frag) (f : Nat) : Bool := onO (K.lookup (faddr f)) fun o => onO (P f) fun fn => dFn o.data fun fd => bSt fd.body fun body => fdChk K (nmOf f (ownOf f)) fn fd body
theorem fnOk_of {K : Frag} {f : Nat} {fn : Fn} (hP : P f = some fn) (h : fnChk K f = true) : FnOk K f fn := by
  replace h := onO_i h; obtain ⟨⟨oc, od, dat, osl⟩, hl, h⟩ := h
  replace h := onO_i h; obtain ⟨fn', e, h⟩ := h
  rw [hP] at e
  cases e
  replace h := dFn_i h; obtain ⟨fd, ed, h⟩ := h
  obtain rfl : dat = _ := ed
  replace h := bSt_i h; obtain ⟨body, hb, h⟩ := h
  simp only [fdChk, Bool.and_eq_true, beq_iff_eq, Bool.not_eq_true', List.isEmpty_iff, Option.isNone_iff_eq_none] at h
  obtain ⟨⟨⟨⟨⟨⟨⟨⟨⟨⟨⟨⟨⟨h1, h2⟩, h3⟩, h4⟩, h5⟩, h6⟩, h7⟩, ⟨⟨⟨⟨p1, p2⟩, p3⟩, p4⟩, p5⟩⟩, ⟨⟨q1, q2⟩, q3⟩⟩, h8⟩, h9⟩, h10⟩, h11⟩, h12⟩ := h
  have hdf : fd.defaults = .none := vNo_i p5
  refine ⟨oc, od, fd, osl, body, fd.params.args.map (·.arg), ⟨hl, hb, h1, h2, h3, h4, h5, h6, h7, fun vals hv => bind_plain p1 p2 p3 p4 hdf (by rw [hv, q2]) (nodupSt_of q1), nodupSt_of q1, q2, prefOk_of q3, h8, injOk_of h9, fun n hn => List.all_eq_true.mp h10 n hn, fun n e => ?_, h12⟩⟩
  have := List.all_eq_true.mp h11 _ (mem_of_lookup e)
  simp at this

noncomputable def allChk (K : Frag) : Bool := cxChk K && (List.range 40).all fun f => fnChk K f
noncomputable def Says (K : Frag) : Prop := cxChk K = true ∧ ∀ f fn, P f = some fn → FnOk K f fn
theorem P_lt {f : Nat} {fn : Fn} (h : P f = some fn) : f < 40 := (List.getElem?_eq_some_iff.mp h).1
theorem says_of (K : Frag) (h : allChk K = true) : Says K := by
  simp only [allChk, Bool.and_eq_true] at h
  exact ⟨h.1, fun f fn hP => fnOk_of hP (List.all_eq_true.mp h.2 f (List.mem_range.mpr (P_lt hP)))⟩
noncomputable def H : Hook := ⟨Bool, fun s => allChk (fragAll s.heap), fun _ => true, fun _ h => ∃ K : Frag, K.In h ∧ Says K, fun _ s e => ⟨fragAll s.heap, frag_in s.heap, says_of _ e⟩, fun _ _ _ x k => let ⟨K, a, b⟩ := x; ⟨K, Frag.In.keeps a k, b⟩⟩
end Pf
end

section
set_option autoImplicit false
set_option maxRecDepth 100000
set_option maxHeartbeats 8000000
set_option linter.unusedVariables false
noncomputable section
namespace Pf
open PySem PySem.W PyProof.Rows PySem.Calls
noncomputable abbrev pw : Program := PySem.Challenge.pw_pf0099_01
noncomputable abbrev S (x : String) : PySem.Str := Str.ofString x
noncomputable abbrev e (P : Params) (x : PySem.Str) (t : Nat) (v : Value) : DictEntry := ⟨PyData.keyHash P x, .str x t, v⟩
noncomputable def nthS : List Stmt → Nat → Stmt
  | [], _ => .Pass ⟨0, 0, 0, 0⟩
  | s :: _, 0 => s
  | _ :: r, n + 1 => nthS r n
noncomputable def bd (i : Nat) : Stmt := nthS pw.main.body i
noncomputable def bdc (i j : Nat) : Stmt := match bd i with
  | .ClassDef _ _ _ b _ _ _ _ _ _ _ => nthS b j
  | s => s
noncomputable def fnd (s : Stmt) (q : PySem.Str) (g : Addr) (d kd doc m : Value) (an : Option Addr) (c ct : Value) (b : Addr) : FuncData := match s with
  | .FunctionDef n a body _ _ _ sc _ _ _ => ⟨n, q, a, .stmts body, sc, g, [], d, kd, doc, m, an, c, ct, b⟩
  | _ => ⟨q, q, ⟨[], [], none, [], [], none, []⟩, .stmts [], pw.main.scope, g, [], d, kd, doc, m, an, c, ct, b⟩
noncomputable def o11 (P : Params) : Obj := ⟨(.type "tuple"), none, (.seq ⟨[]⟩ 0), ⟨[]⟩⟩
noncomputable def o13 (P : Params) : Obj := ⟨(.type "code"), none, (.fields ⟨[(.str (S "<module>") 182), (.str (S "<module>") 183), (.str (S "/claim/cut.py") 184), (.int (1) 0), (.int (0) 0), (.int (0) 0), (.int (0) 0), (.int (0) 0), (.ref 11), (.bool false), (.int (181) 0), (.ref 12), .none, .none, .none, .none, (.int (185) 0), (.int (1) 0), (.str (S "/claim/cut.py") 186)]⟩), ⟨[]⟩⟩
noncomputable def o14 (P : Params) : Obj := ⟨(.type "frame"), none, .plain, ⟨[(some (.ref 13)), (some (.ref 3)), (some (.ref 3)), none, (some (.str (S "__main__") 164)), none, (some (.ref 0))]⟩⟩
noncomputable def o15 (P : Params) : Obj := ⟨(.type "tuple"), none, (.seq ⟨[]⟩ 0), ⟨[]⟩⟩
noncomputable def o16 (P : Params) : Obj := ⟨.none, none, (.fields ⟨[]⟩), ⟨[]⟩⟩
noncomputable def o17 (P : Params) : Obj := ⟨(.type "tuple"), none, (.seq ⟨[(.str (S "b") 192), (.str (S "out") 193), (.str (S "square") 194)]⟩ 0), ⟨[]⟩⟩
noncomputable def o18 (P : Params) : Obj := ⟨(.type "tuple"), none, (.seq ⟨[]⟩ 0), ⟨[]⟩⟩
noncomputable def o19 (P : Params) : Obj := ⟨.none, none, (.func (fnd (bd 1) (S "squares_of") 0 .none .none .none .none none .none .none 0)), ⟨[]⟩⟩
noncomputable def o20 (P : Params) : Obj := ⟨(.type "code"), none, (.fields ⟨[(.str (S "squares_of") 189), (.str (S "squares_of") 190), (.str (S "/claim/cut.py") 191), (.int (2) 0), (.int (1) 0), (.int (0) 0), (.int (0) 0), (.int (3) 0), (.ref 15), (.bool true), (.int (181) 0), (.ref 16), .none, (.ref 17), (.ref 18), (.ref 19), (.int (195) 0), (.int (2) 0), (.str (S "/claim/cut.py") 196)]⟩), ⟨[]⟩⟩
noncomputable def o21 (P : Params) : Obj := ⟨(.type "function"), none, (.func (fnd (bd 1) (S "squares_of") 3 .none .none .none (.str (S "chess.bits") 187) none (.ref 20) .none 0)), ⟨[]⟩⟩
noncomputable def o22 (P : Params) : Obj := ⟨(.type "tuple"), none, (.seq ⟨[]⟩ 0), ⟨[]⟩⟩
noncomputable def o23 (P : Params) : Obj := ⟨.none, none, (.fields ⟨[]⟩), ⟨[]⟩⟩
noncomputable def o24 (P : Params) : Obj := ⟨(.type "tuple"), none, (.seq ⟨[(.str (S "piece") 225)]⟩ 0), ⟨[]⟩⟩
noncomputable def o25 (P : Params) : Obj := ⟨(.type "tuple"), none, (.seq ⟨[]⟩ 0), ⟨[]⟩⟩
noncomputable def o26 (P : Params) : Obj := ⟨.none, none, (.func (fnd (bd 14) (S "side_of") 0 .none .none .none .none none .none .none 0)), ⟨[]⟩⟩
noncomputable def o27 (P : Params) : Obj := ⟨(.type "code"), none, (.fields ⟨[(.str (S "side_of") 222), (.str (S "side_of") 223), (.str (S "/claim/cut.py") 224), (.int (26) 0), (.int (1) 0), (.int (0) 0), (.int (0) 0), (.int (3) 0), (.ref 22), (.bool true), (.int (181) 0), (.ref 23), .none, (.ref 24), (.ref 25), (.ref 26), (.int (226) 0), (.int (26) 0), (.str (S "/claim/cut.py") 227)]⟩), ⟨[]⟩⟩
noncomputable def o28 (P : Params) : Obj := ⟨(.type "function"), none, (.func (fnd (bd 14) (S "side_of") 3 .none .none .none (.str (S "chess.kinds") 198) none (.ref 27) .none 0)), ⟨[]⟩⟩
noncomputable def o29 (P : Params) : Obj := ⟨(.type "tuple"), none, (.seq ⟨[]⟩ 0), ⟨[]⟩⟩
noncomputable def o30 (P : Params) : Obj := ⟨.none, none, (.fields ⟨[]⟩), ⟨[]⟩⟩
noncomputable def o31 (P : Params) : Obj := ⟨(.type "tuple"), none, (.seq ⟨[(.str (S "piece") 232)]⟩ 0), ⟨[]⟩⟩
noncomputable def o32 (P : Params) : Obj := ⟨(.type "tuple"), none, (.seq ⟨[]⟩ 0), ⟨[]⟩⟩
noncomputable def o33 (P : Params) : Obj := ⟨.none, none, (.func (fnd (bd 15) (S "kind_of") 0 .none .none .none .none none .none .none 0)), ⟨[]⟩⟩
noncomputable def o34 (P : Params) : Obj := ⟨(.type "code"), none, (.fields ⟨[(.str (S "kind_of") 229), (.str (S "kind_of") 230), (.str (S "/claim/cut.py") 231), (.int (28) 0), (.int (1) 0), (.int (0) 0), (.int (0) 0), (.int (3) 0), (.ref 29), (.bool true), (.int (181) 0), (.ref 30), .none, (.ref 31), (.ref 32), (.ref 33), (.int (233) 0), (.int (28) 0), (.str (S "/claim/cut.py") 234)]⟩), ⟨[]⟩⟩
noncomputable def o35 (P : Params) : Obj := ⟨(.type "function"), none, (.func (fnd (bd 15) (S "kind_of") 3 .none .none .none (.str (S "chess.kinds") 198) none (.ref 34) .none 0)), ⟨[]⟩⟩
noncomputable def o36 (P : Params) : Obj := ⟨(.type "tuple"), none, (.seq ⟨[]⟩ 0), ⟨[]⟩⟩
noncomputable def o37 (P : Params) : Obj := ⟨.none, none, (.fields ⟨[]⟩), ⟨[]⟩⟩
noncomputable def o38 (P : Params) : Obj := ⟨(.type "tuple"), none, (.seq ⟨[(.str (S "origin") 239), (.str (S "to") 240), (.str (S "special") 241), (.str (S "promo") 242), (.str (S "field") 243)]⟩ 0), ⟨[]⟩⟩
noncomputable def o39 (P : Params) : Obj := ⟨(.type "tuple"), none, (.seq ⟨[]⟩ 0), ⟨[]⟩⟩
noncomputable def o40 (P : Params) : Obj := ⟨.none, none, (.func (fnd (bd 16) (S "pack_move") 0 .none .none .none .none none .none .none 0)), ⟨[]⟩⟩
noncomputable def o41 (P : Params) : Obj := ⟨(.type "code"), none, (.fields ⟨[(.str (S "pack_move") 236), (.str (S "pack_move") 237), (.str (S "/claim/cut.py") 238), (.int (30) 0), (.int (4) 0), (.int (0) 0), (.int (0) 0), (.int (3) 0), (.ref 36), (.bool true), (.int (181) 0), (.ref 37), .none, (.ref 38), (.ref 39), (.ref 40), (.int (244) 0), (.int (30) 0), (.str (S "/claim/cut.py") 245)]⟩), ⟨[]⟩⟩
noncomputable def o42 (P : Params) : Obj := ⟨(.type "function"), none, (.func (fnd (bd 16) (S "pack_move") 3 .none .none .none (.str (S "chess.kinds") 198) none (.ref 41) .none 0)), ⟨[]⟩⟩
noncomputable def o43 (P : Params) : Obj := ⟨(.type "tuple"), none, (.seq ⟨[]⟩ 0), ⟨[]⟩⟩
noncomputable def o44 (P : Params) : Obj := ⟨(.type "builtin_function_or_method"), none, (.fields ⟨[(.builtin "type.__prepare__"), (.type "type")]⟩), ⟨[]⟩⟩
noncomputable def o45 (P : Params) : Obj := ⟨(.type "dict"), none, (.dict ⟨[e P (S "__module__") 264 (.str (S "chess.position") 255), e P (S "__qualname__") 266 (.str (S "Position") 265), e P (S "__firstlineno__") 268 (.int (40) 267), e P (S "__init__") 277 (.ref 56), e P (S "__static_attributes__") 290 (.ref 57)]⟩ 5), ⟨[]⟩⟩
noncomputable def o46 (P : Params) : Obj := ⟨(.type "tuple"), none, (.seq ⟨[]⟩ 0), ⟨[]⟩⟩
noncomputable def o47 (P : Params) : Obj := ⟨.none, none, (.fields ⟨[(.int (42) 0), (.int (4) 0), (.ref 55)]⟩), ⟨[]⟩⟩
noncomputable def o48 (P : Params) : Obj := ⟨(.type "code"), none, (.fields ⟨[(.str (S "Position") 259), (.str (S "Position") 260), (.str (S "/claim/cut.py") 261), (.int (40) 0), (.int (0) 0), (.int (0) 0), (.int (0) 0), (.int (0) 0), (.ref 46), (.bool false), (.int (181) 0), (.ref 47), .none, .none, .none, .none, (.int (262) 0), (.int (40) 0), (.str (S "/claim/cut.py") 263)]⟩), ⟨[]⟩⟩
noncomputable def o49 (P : Params) : Obj := ⟨(.type "frame"), none, .plain, ⟨[(some (.ref 48)), (some (.ref 3)), (some (.ref 45)), none, (some (.str (S "chess.position") 255)), none, (some (.ref 0))]⟩⟩
noncomputable def o50 (P : Params) : Obj := ⟨(.type "tuple"), none, (.seq ⟨[]⟩ 0), ⟨[]⟩⟩
noncomputable def o51 (P : Params) : Obj := ⟨.none, none, (.fields ⟨[]⟩), ⟨[]⟩⟩
noncomputable def o52 (P : Params) : Obj := ⟨(.type "tuple"), none, (.seq ⟨[(.str (S "self") 272), (.str (S "geo") 273), (.str (S "zob") 274)]⟩ 0), ⟨[]⟩⟩
noncomputable def o53 (P : Params) : Obj := ⟨(.type "tuple"), none, (.seq ⟨[]⟩ 0), ⟨[]⟩⟩
noncomputable def o54 (P : Params) : Obj := ⟨.none, none, (.func (fnd (bdc 22 0) (S "Position.__init__") 0 .none .none .none .none none .none .none 0)), ⟨[]⟩⟩
noncomputable def o55 (P : Params) : Obj := ⟨(.type "code"), none, (.fields ⟨[(.str (S "__init__") 269), (.str (S "Position.__init__") 270), (.str (S "/claim/cut.py") 271), (.int (42) 0), (.int (3) 0), (.int (0) 0), (.int (0) 0), (.int (3) 0), (.ref 50), (.bool true), (.int (181) 0), (.ref 51), .none, (.ref 52), (.ref 53), (.ref 54), (.int (275) 0), (.int (42) 0), (.str (S "/claim/cut.py") 276)]⟩), ⟨[]⟩⟩
noncomputable def o56 (P : Params) : Obj := ⟨(.type "function"), none, (.func (fnd (bdc 22 0) (S "Position.__init__") 3 .none .none .none (.str (S "chess.position") 255) none (.ref 55) .none 0)), ⟨[]⟩⟩
noncomputable def o57 (P : Params) : Obj := ⟨(.type "tuple"), none, (.seq ⟨[(.str (S "board") 278), (.str (S "ep") 279), (.str (S "full") 280), (.str (S "geo") 281), (.str (S "half") 282), (.str (S "history") 283), (.str (S "key") 284), (.str (S "kinds") 285), (.str (S "rights") 286), (.str (S "side") 287), (.str (S "sides") 288), (.str (S "zob") 289)]⟩ 0), ⟨[]⟩⟩
noncomputable def o58 (P : Params) : Obj := ⟨(.type "dict"), none, (.dict ⟨[e P (S "__module__") 264 (.str (S "chess.position") 255), e P (S "__firstlineno__") 268 (.int (40) 267), e P (S "__init__") 277 (.ref 56), e P (S "__static_attributes__") 290 (.ref 57), e P (S "__dict__") 292 (.ref 60), e P (S "__weakref__") 294 (.ref 61), e P (S "__doc__") 295 .none]⟩ 4), ⟨[]⟩⟩
noncomputable def o59 (P : Params) : Obj := ⟨(.type "type"), none, (.cls ⟨(S "Position"), [(.type "object")], [(.ref 59), (.type "object")], 58, (S "Position"), true, [], [], false, none, false⟩), ⟨[none, none, (some (.str (S "Position") 257)), (some (.str (S "Position") 265)), (some (.builtin "object.__new__")), (some (.bool true))]⟩⟩
noncomputable def o60 (P : Params) : Obj := ⟨(.type "getset_descriptor"), none, (.fields ⟨[(.str (S "__dict__") 291), (.ref 59), (.builtin "function.__dict__"), (.builtin "function.__dict__#set")]⟩), ⟨[]⟩⟩
noncomputable def o61 (P : Params) : Obj := ⟨(.type "getset_descriptor"), none, (.fields ⟨[(.str (S "__weakref__") 293), (.ref 59), (.builtin "ExceptionGroup.__weakref__"), .none]⟩), ⟨[]⟩⟩
noncomputable def o62 (P : Params) : Obj := ⟨(.type "super"), none, (.fields ⟨[(.ref 59), (.ref 59), (.ref 59)]⟩), ⟨[]⟩⟩
noncomputable def o63 (P : Params) : Obj := ⟨(.type "builtin_function_or_method"), none, (.fields ⟨[(.builtin "object.__init_subclass__"), (.ref 59)]⟩), ⟨[]⟩⟩
noncomputable def o64 (P : Params) : Obj := ⟨(.type "tuple"), none, (.seq ⟨[]⟩ 0), ⟨[]⟩⟩
noncomputable def o65 (P : Params) : Obj := ⟨.none, none, (.fields ⟨[]⟩), ⟨[]⟩⟩
noncomputable def o66 (P : Params) : Obj := ⟨(.type "tuple"), none, (.seq ⟨[(.str (S "pos") 301), (.str (S "piece") 302), (.str (S "s") 303), (.str (S "bit") 304)]⟩ 0), ⟨[]⟩⟩
noncomputable def o67 (P : Params) : Obj := ⟨(.type "tuple"), none, (.seq ⟨[]⟩ 0), ⟨[]⟩⟩
noncomputable def o68 (P : Params) : Obj := ⟨.none, none, (.func (fnd (bd 23) (S "put_piece") 0 .none .none .none .none none .none .none 0)), ⟨[]⟩⟩
noncomputable def o69 (P : Params) : Obj := ⟨(.type "code"), none, (.fields ⟨[(.str (S "put_piece") 298), (.str (S "put_piece") 299), (.str (S "/claim/cut.py") 300), (.int (55) 0), (.int (3) 0), (.int (0) 0), (.int (0) 0), (.int (3) 0), (.ref 64), (.bool true), (.int (181) 0), (.ref 65), .none, (.ref 66), (.ref 67), (.ref 68), (.int (305) 0), (.int (55) 0), (.str (S "/claim/cut.py") 306)]⟩), ⟨[]⟩⟩
noncomputable def o70 (P : Params) : Obj := ⟨(.type "function"), none, (.func (fnd (bd 23) (S "put_piece") 3 .none .none .none (.str (S "chess.position") 255) none (.ref 69) .none 0)), ⟨[]⟩⟩
noncomputable def o71 (P : Params) : Obj := ⟨(.type "tuple"), none, (.seq ⟨[]⟩ 0), ⟨[]⟩⟩
noncomputable def o72 (P : Params) : Obj := ⟨.none, none, (.fields ⟨[]⟩), ⟨[]⟩⟩
noncomputable def o73 (P : Params) : Obj := ⟨(.type "tuple"), none, (.seq ⟨[(.str (S "pos") 311)]⟩ 0), ⟨[]⟩⟩
noncomputable def o74 (P : Params) : Obj := ⟨(.type "tuple"), none, (.seq ⟨[]⟩ 0), ⟨[]⟩⟩
noncomputable def o75 (P : Params) : Obj := ⟨.none, none, (.func (fnd (bd 24) (S "occupied") 0 .none .none .none .none none .none .none 0)), ⟨[]⟩⟩
noncomputable def o76 (P : Params) : Obj := ⟨(.type "code"), none, (.fields ⟨[(.str (S "occupied") 308), (.str (S "occupied") 309), (.str (S "/claim/cut.py") 310), (.int (61) 0), (.int (1) 0), (.int (0) 0), (.int (0) 0), (.int (3) 0), (.ref 71), (.bool true), (.int (181) 0), (.ref 72), .none, (.ref 73), (.ref 74), (.ref 75), (.int (312) 0), (.int (61) 0), (.str (S "/claim/cut.py") 313)]⟩), ⟨[]⟩⟩
noncomputable def o77 (P : Params) : Obj := ⟨(.type "function"), none, (.func (fnd (bd 24) (S "occupied") 3 .none .none .none (.str (S "chess.position") 255) none (.ref 76) .none 0)), ⟨[]⟩⟩
noncomputable def o78 (P : Params) : Obj := ⟨(.type "tuple"), none, (.seq ⟨[]⟩ 0), ⟨[]⟩⟩
noncomputable def o79 (P : Params) : Obj := ⟨.none, none, (.fields ⟨[]⟩), ⟨[]⟩⟩
noncomputable def o80 (P : Params) : Obj := ⟨(.type "tuple"), none, (.seq ⟨[(.str (S "pos") 318), (.str (S "side") 319), (.str (S "kind") 320)]⟩ 0), ⟨[]⟩⟩
noncomputable def o81 (P : Params) : Obj := ⟨(.type "tuple"), none, (.seq ⟨[]⟩ 0), ⟨[]⟩⟩
noncomputable def o82 (P : Params) : Obj := ⟨.none, none, (.func (fnd (bd 25) (S "pieces") 0 .none .none .none .none none .none .none 0)), ⟨[]⟩⟩
noncomputable def o83 (P : Params) : Obj := ⟨(.type "code"), none, (.fields ⟨[(.str (S "pieces") 315), (.str (S "pieces") 316), (.str (S "/claim/cut.py") 317), (.int (63) 0), (.int (3) 0), (.int (0) 0), (.int (0) 0), (.int (3) 0), (.ref 78), (.bool true), (.int (181) 0), (.ref 79), .none, (.ref 80), (.ref 81), (.ref 82), (.int (321) 0), (.int (63) 0), (.str (S "/claim/cut.py") 322)]⟩), ⟨[]⟩⟩
noncomputable def o84 (P : Params) : Obj := ⟨(.type "function"), none, (.func (fnd (bd 25) (S "pieces") 3 .none .none .none (.str (S "chess.position") 255) none (.ref 83) .none 0)), ⟨[]⟩⟩
noncomputable def o85 (P : Params) : Obj := ⟨(.type "tuple"), none, (.seq ⟨[]⟩ 0), ⟨[]⟩⟩
noncomputable def o86 (P : Params) : Obj := ⟨.none, none, (.fields ⟨[]⟩), ⟨[]⟩⟩
noncomputable def o87 (P : Params) : Obj := ⟨(.type "tuple"), none, (.seq ⟨[(.str (S "geo") 329), (.str (S "side") 330)]⟩ 0), ⟨[]⟩⟩
noncomputable def o88 (P : Params) : Obj := ⟨(.type "tuple"), none, (.seq ⟨[]⟩ 0), ⟨[]⟩⟩
noncomputable def o89 (P : Params) : Obj := ⟨.none, none, (.func (fnd (bd 27) (S "push_step") 0 .none .none .none .none none .none .none 0)), ⟨[]⟩⟩
noncomputable def o90 (P : Params) : Obj := ⟨(.type "code"), none, (.fields ⟨[(.str (S "push_step") 326), (.str (S "push_step") 327), (.str (S "/claim/cut.py") 328), (.int (66) 0), (.int (2) 0), (.int (0) 0), (.int (0) 0), (.int (3) 0), (.ref 85), (.bool true), (.int (181) 0), (.ref 86), .none, (.ref 87), (.ref 88), (.ref 89), (.int (331) 0), (.int (66) 0), (.str (S "/claim/cut.py") 332)]⟩), ⟨[]⟩⟩
noncomputable def o91 (P : Params) : Obj := ⟨(.type "function"), none, (.func (fnd (bd 27) (S "push_step") 3 .none .none .none (.str (S "chess.pawnmoves") 324) none (.ref 90) .none 0)), ⟨[]⟩⟩
noncomputable def o92 (P : Params) : Obj := ⟨(.type "tuple"), none, (.seq ⟨[]⟩ 0), ⟨[]⟩⟩
noncomputable def o93 (P : Params) : Obj := ⟨.none, none, (.fields ⟨[]⟩), ⟨[]⟩⟩
noncomputable def o94 (P : Params) : Obj := ⟨(.type "tuple"), none, (.seq ⟨[(.str (S "geo") 337), (.str (S "side") 338)]⟩ 0), ⟨[]⟩⟩
noncomputable def o95 (P : Params) : Obj := ⟨(.type "tuple"), none, (.seq ⟨[]⟩ 0), ⟨[]⟩⟩
noncomputable def o96 (P : Params) : Obj := ⟨.none, none, (.func (fnd (bd 28) (S "start_mask") 0 .none .none .none .none none .none .none 0)), ⟨[]⟩⟩
noncomputable def o97 (P : Params) : Obj := ⟨(.type "code"), none, (.fields ⟨[(.str (S "start_mask") 334), (.str (S "start_mask") 335), (.str (S "/claim/cut.py") 336), (.int (70) 0), (.int (2) 0), (.int (0) 0), (.int (0) 0), (.int (3) 0), (.ref 92), (.bool true), (.int (181) 0), (.ref 93), .none, (.ref 94), (.ref 95), (.ref 96), (.int (339) 0), (.int (70) 0), (.str (S "/claim/cut.py") 340)]⟩), ⟨[]⟩⟩
noncomputable def o98 (P : Params) : Obj := ⟨(.type "function"), none, (.func (fnd (bd 28) (S "start_mask") 3 .none .none .none (.str (S "chess.pawnmoves") 324) none (.ref 97) .none 0)), ⟨[]⟩⟩
noncomputable def o99 (P : Params) : Obj := ⟨(.type "tuple"), none, (.seq ⟨[]⟩ 0), ⟨[]⟩⟩
noncomputable def o100 (P : Params) : Obj := ⟨.none, none, (.fields ⟨[]⟩), ⟨[]⟩⟩
noncomputable def o101 (P : Params) : Obj := ⟨(.type "tuple"), none, (.seq ⟨[(.str (S "geo") 345), (.str (S "side") 346)]⟩ 0), ⟨[]⟩⟩
noncomputable def o102 (P : Params) : Obj := ⟨(.type "tuple"), none, (.seq ⟨[]⟩ 0), ⟨[]⟩⟩
noncomputable def o103 (P : Params) : Obj := ⟨.none, none, (.func (fnd (bd 29) (S "last_mask") 0 .none .none .none .none none .none .none 0)), ⟨[]⟩⟩
noncomputable def o104 (P : Params) : Obj := ⟨(.type "code"), none, (.fields ⟨[(.str (S "last_mask") 342), (.str (S "last_mask") 343), (.str (S "/claim/cut.py") 344), (.int (74) 0), (.int (2) 0), (.int (0) 0), (.int (0) 0), (.int (3) 0), (.ref 99), (.bool true), (.int (181) 0), (.ref 100), .none, (.ref 101), (.ref 102), (.ref 103), (.int (347) 0), (.int (74) 0), (.str (S "/claim/cut.py") 348)]⟩), ⟨[]⟩⟩
noncomputable def o105 (P : Params) : Obj := ⟨(.type "function"), none, (.func (fnd (bd 29) (S "last_mask") 3 .none .none .none (.str (S "chess.pawnmoves") 324) none (.ref 104) .none 0)), ⟨[]⟩⟩
noncomputable def o106 (P : Params) : Obj := ⟨(.type "tuple"), none, (.seq ⟨[]⟩ 0), ⟨[]⟩⟩
noncomputable def o107 (P : Params) : Obj := ⟨.none, none, (.fields ⟨[]⟩), ⟨[]⟩⟩
noncomputable def o108 (P : Params) : Obj := ⟨(.type "tuple"), none, (.seq ⟨[(.str (S "geo") 353), (.str (S "b") 354), (.str (S "side") 355)]⟩ 0), ⟨[]⟩⟩
noncomputable def o109 (P : Params) : Obj := ⟨(.type "tuple"), none, (.seq ⟨[]⟩ 0), ⟨[]⟩⟩
noncomputable def o110 (P : Params) : Obj := ⟨.none, none, (.func (fnd (bd 30) (S "shift_push") 0 .none .none .none .none none .none .none 0)), ⟨[]⟩⟩
noncomputable def o111 (P : Params) : Obj := ⟨(.type "code"), none, (.fields ⟨[(.str (S "shift_push") 350), (.str (S "shift_push") 351), (.str (S "/claim/cut.py") 352), (.int (78) 0), (.int (3) 0), (.int (0) 0), (.int (0) 0), (.int (3) 0), (.ref 106), (.bool true), (.int (181) 0), (.ref 107), .none, (.ref 108), (.ref 109), (.ref 110), (.int (356) 0), (.int (78) 0), (.str (S "/claim/cut.py") 357)]⟩), ⟨[]⟩⟩
noncomputable def o112 (P : Params) : Obj := ⟨(.type "function"), none, (.func (fnd (bd 30) (S "shift_push") 3 .none .none .none (.str (S "chess.pawnmoves") 324) none (.ref 111) .none 0)), ⟨[]⟩⟩
noncomputable def o113 (P : Params) : Obj := ⟨(.type "tuple"), none, (.seq ⟨[]⟩ 0), ⟨[]⟩⟩
noncomputable def o114 (P : Params) : Obj := ⟨.none, none, (.fields ⟨[]⟩), ⟨[]⟩⟩
noncomputable def o115 (P : Params) : Obj := ⟨(.type "tuple"), none, (.seq ⟨[(.str (S "geo") 362), (.str (S "b") 363), (.str (S "side") 364), (.str (S "wing") 365)]⟩ 0), ⟨[]⟩⟩
noncomputable def o116 (P : Params) : Obj := ⟨(.type "tuple"), none, (.seq ⟨[]⟩ 0), ⟨[]⟩⟩
noncomputable def o117 (P : Params) : Obj := ⟨.none, none, (.func (fnd (bd 31) (S "shift_capture") 0 .none .none .none .none none .none .none 0)), ⟨[]⟩⟩
noncomputable def o118 (P : Params) : Obj := ⟨(.type "code"), none, (.fields ⟨[(.str (S "shift_capture") 359), (.str (S "shift_capture") 360), (.str (S "/claim/cut.py") 361), (.int (82) 0), (.int (4) 0), (.int (0) 0), (.int (0) 0), (.int (3) 0), (.ref 113), (.bool true), (.int (181) 0), (.ref 114), .none, (.ref 115), (.ref 116), (.ref 117), (.int (366) 0), (.int (82) 0), (.str (S "/claim/cut.py") 367)]⟩), ⟨[]⟩⟩
noncomputable def o119 (P : Params) : Obj := ⟨(.type "function"), none, (.func (fnd (bd 31) (S "shift_capture") 3 .none .none .none (.str (S "chess.pawnmoves") 324) none (.ref 118) .none 0)), ⟨[]⟩⟩
noncomputable def o120 (P : Params) : Obj := ⟨(.type "tuple"), none, (.seq ⟨[]⟩ 0), ⟨[]⟩⟩
noncomputable def o121 (P : Params) : Obj := ⟨.none, none, (.fields ⟨[]⟩), ⟨[]⟩⟩
noncomputable def o122 (P : Params) : Obj := ⟨(.type "tuple"), none, (.seq ⟨[(.str (S "pos") 372), (.str (S "side") 373), (.str (S "geo") 374), (.str (S "empty") 375), (.str (S "pawns") 376), (.str (S "ones") 377), (.str (S "twos") 378), (.str (S "passed") 379)]⟩ 0), ⟨[]⟩⟩
noncomputable def o123 (P : Params) : Obj := ⟨(.type "tuple"), none, (.seq ⟨[]⟩ 0), ⟨[]⟩⟩
noncomputable def o124 (P : Params) : Obj := ⟨.none, none, (.func (fnd (bd 32) (S "push_targets") 0 .none .none .none .none none .none .none 0)), ⟨[]⟩⟩
noncomputable def o125 (P : Params) : Obj := ⟨(.type "code"), none, (.fields ⟨[(.str (S "push_targets") 369), (.str (S "push_targets") 370), (.str (S "/claim/cut.py") 371), (.int (86) 0), (.int (2) 0), (.int (0) 0), (.int (0) 0), (.int (3) 0), (.ref 120), (.bool true), (.int (181) 0), (.ref 121), .none, (.ref 122), (.ref 123), (.ref 124), (.int (380) 0), (.int (86) 0), (.str (S "/claim/cut.py") 381)]⟩), ⟨[]⟩⟩
noncomputable def o126 (P : Params) : Obj := ⟨(.type "function"), none, (.func (fnd (bd 32) (S "push_targets") 3 .none .none .none (.str (S "chess.pawnmoves") 324) none (.ref 125) .none 0)), ⟨[]⟩⟩
noncomputable def o127 (P : Params) : Obj := ⟨(.type "tuple"), none, (.seq ⟨[]⟩ 0), ⟨[]⟩⟩
noncomputable def o128 (P : Params) : Obj := ⟨.none, none, (.fields ⟨[]⟩), ⟨[]⟩⟩
noncomputable def o129 (P : Params) : Obj := ⟨(.type "tuple"), none, (.seq ⟨[(.str (S "origin") 386), (.str (S "to") 387), (.str (S "stage") 388), (.str (S "is_capture") 389), (.str (S "out") 390), (.str (S "with_lesser") 391), (.str (S "kind") 392)]⟩ 0), ⟨[]⟩⟩
noncomputable def o130 (P : Params) : Obj := ⟨(.type "tuple"), none, (.seq ⟨[]⟩ 0), ⟨[]⟩⟩
noncomputable def o131 (P : Params) : Obj := ⟨.none, none, (.func (fnd (bd 33) (S "add_promotions") 0 .none .none .none .none none .none .none 0)), ⟨[]⟩⟩
noncomputable def o132 (P : Params) : Obj := ⟨(.type "code"), none, (.fields ⟨[(.str (S "add_promotions") 383), (.str (S "add_promotions") 384), (.str (S "/claim/cut.py") 385), (.int (96) 0), (.int (5) 0), (.int (0) 0), (.int (0) 0), (.int (3) 0), (.ref 127), (.bool true), (.int (181) 0), (.ref 128), .none, (.ref 129), (.ref 130), (.ref 131), (.int (393) 0), (.int (96) 0), (.str (S "/claim/cut.py") 394)]⟩), ⟨[]⟩⟩
noncomputable def o133 (P : Params) : Obj := ⟨(.type "function"), none, (.func (fnd (bd 33) (S "add_promotions") 3 .none .none .none (.str (S "chess.pawnmoves") 324) none (.ref 132) .none 0)), ⟨[]⟩⟩
noncomputable def o134 (P : Params) : Obj := ⟨(.type "tuple"), none, (.seq ⟨[]⟩ 0), ⟨[]⟩⟩
noncomputable def o135 (P : Params) : Obj := ⟨.none, none, (.fields ⟨[]⟩), ⟨[]⟩⟩
noncomputable def o136 (P : Params) : Obj := ⟨(.type "tuple"), none, (.seq ⟨[(.str (S "pos") 399), (.str (S "target") 400), (.str (S "out") 401), (.str (S "geo") 402), (.str (S "step") 403), (.str (S "ones") 404), (.str (S "twos") 405), (.str (S "goal") 406)]⟩ 0), ⟨[]⟩⟩
noncomputable def o137 (P : Params) : Obj := ⟨(.type "tuple"), none, (.seq ⟨[]⟩ 0), ⟨[]⟩⟩
noncomputable def o138 (P : Params) : Obj := ⟨.none, none, (.func (fnd (bd 34) (S "add_plain_pushes") 0 .none .none .none .none none .none .none 0)), ⟨[]⟩⟩
noncomputable def o139 (P : Params) : Obj := ⟨(.type "code"), none, (.fields ⟨[(.str (S "add_plain_pushes") 396), (.str (S "add_plain_pushes") 397), (.str (S "/claim/cut.py") 398), (.int (108) 0), (.int (3) 0), (.int (0) 0), (.int (0) 0), (.int (3) 0), (.ref 134), (.bool true), (.int (181) 0), (.ref 135), .none, (.ref 136), (.ref 137), (.ref 138), (.int (407) 0), (.int (108) 0), (.str (S "/claim/cut.py") 408)]⟩), ⟨[]⟩⟩
noncomputable def o140 (P : Params) : Obj := ⟨(.type "function"), none, (.func (fnd (bd 34) (S "add_plain_pushes") 3 .none .none .none (.str (S "chess.pawnmoves") 324) none (.ref 139) .none 0)), ⟨[]⟩⟩
noncomputable def o141 (P : Params) : Obj := ⟨(.type "tuple"), none, (.seq ⟨[]⟩ 0), ⟨[]⟩⟩
noncomputable def o142 (P : Params) : Obj := ⟨.none, none, (.fields ⟨[]⟩), ⟨[]⟩⟩
noncomputable def o143 (P : Params) : Obj := ⟨(.type "tuple"), none, (.seq ⟨[(.str (S "pos") 413), (.str (S "stage") 414), (.str (S "target") 415), (.str (S "out") 416), (.str (S "geo") 417), (.str (S "step") 418), (.str (S "ones") 419), (.str (S "goal") 420)]⟩ 0), ⟨[]⟩⟩
noncomputable def o144 (P : Params) : Obj := ⟨(.type "tuple"), none, (.seq ⟨[]⟩ 0), ⟨[]⟩⟩
noncomputable def o145 (P : Params) : Obj := ⟨.none, none, (.func (fnd (bd 35) (S "add_push_promotions") 0 .none .none .none .none none .none .none 0)), ⟨[]⟩⟩
noncomputable def o146 (P : Params) : Obj := ⟨(.type "code"), none, (.fields ⟨[(.str (S "add_push_promotions") 410), (.str (S "add_push_promotions") 411), (.str (S "/claim/cut.py") 412), (.int (116) 0), (.int (4) 0), (.int (0) 0), (.int (0) 0), (.int (3) 0), (.ref 141), (.bool true), (.int (181) 0), (.ref 142), .none, (.ref 143), (.ref 144), (.ref 145), (.int (421) 0), (.int (116) 0), (.str (S "/claim/cut.py") 422)]⟩), ⟨[]⟩⟩
noncomputable def o147 (P : Params) : Obj := ⟨(.type "function"), none, (.func (fnd (bd 35) (S "add_push_promotions") 3 .none .none .none (.str (S "chess.pawnmoves") 324) none (.ref 146) .none 0)), ⟨[]⟩⟩
noncomputable def o148 (P : Params) : Obj := ⟨(.type "tuple"), none, (.seq ⟨[]⟩ 0), ⟨[]⟩⟩
noncomputable def o149 (P : Params) : Obj := ⟨.none, none, (.fields ⟨[]⟩), ⟨[]⟩⟩
noncomputable def o150 (P : Params) : Obj := ⟨(.type "tuple"), none, (.seq ⟨[(.str (S "pos") 427), (.str (S "stage") 428), (.str (S "target") 429), (.str (S "out") 430), (.str (S "geo") 431), (.str (S "side") 432), (.str (S "last") 433), (.str (S "pawns") 434), (.str (S "hits") 435), (.str (S "wing") 436), (.str (S "step") 437), (.str (S "goal") 438)]⟩ 0), ⟨[]⟩⟩
noncomputable def o151 (P : Params) : Obj := ⟨(.type "tuple"), none, (.seq ⟨[]⟩ 0), ⟨[]⟩⟩
noncomputable def o152 (P : Params) : Obj := ⟨.none, none, (.func (fnd (bd 36) (S "add_pawn_captures") 0 .none .none .none .none none .none .none 0)), ⟨[]⟩⟩
noncomputable def o153 (P : Params) : Obj := ⟨(.type "code"), none, (.fields ⟨[(.str (S "add_pawn_captures") 424), (.str (S "add_pawn_captures") 425), (.str (S "/claim/cut.py") 426), (.int (122) 0), (.int (4) 0), (.int (0) 0), (.int (0) 0), (.int (3) 0), (.ref 148), (.bool true), (.int (181) 0), (.ref 149), .none, (.ref 150), (.ref 151), (.ref 152), (.int (439) 0), (.int (122) 0), (.str (S "/claim/cut.py") 440)]⟩), ⟨[]⟩⟩
noncomputable def o154 (P : Params) : Obj := ⟨(.type "function"), none, (.func (fnd (bd 36) (S "add_pawn_captures") 3 .none .none .none (.str (S "chess.pawnmoves") 324) none (.ref 153) .none 0)), ⟨[]⟩⟩
noncomputable def o155 (P : Params) : Obj := ⟨(.type "tuple"), none, (.seq ⟨[]⟩ 0), ⟨[]⟩⟩
noncomputable def o156 (P : Params) : Obj := ⟨.none, none, (.fields ⟨[]⟩), ⟨[]⟩⟩
noncomputable def o157 (P : Params) : Obj := ⟨(.type "tuple"), none, (.seq ⟨[(.str (S "pos") 445), (.str (S "stage") 446), (.str (S "target") 447), (.str (S "out") 448)]⟩ 0), ⟨[]⟩⟩
noncomputable def o158 (P : Params) : Obj := ⟨(.type "tuple"), none, (.seq ⟨[]⟩ 0), ⟨[]⟩⟩
noncomputable def o159 (P : Params) : Obj := ⟨.none, none, (.func (fnd (bd 37) (S "add_pawn_moves") 0 .none .none .none .none none .none .none 0)), ⟨[]⟩⟩
noncomputable def o160 (P : Params) : Obj := ⟨(.type "code"), none, (.fields ⟨[(.str (S "add_pawn_moves") 442), (.str (S "add_pawn_moves") 443), (.str (S "/claim/cut.py") 444), (.int (135) 0), (.int (4) 0), (.int (0) 0), (.int (0) 0), (.int (3) 0), (.ref 155), (.bool true), (.int (181) 0), (.ref 156), .none, (.ref 157), (.ref 158), (.ref 159), (.int (449) 0), (.int (135) 0), (.str (S "/claim/cut.py") 450)]⟩), ⟨[]⟩⟩
noncomputable def o161 (P : Params) : Obj := ⟨(.type "function"), none, (.func (fnd (bd 37) (S "add_pawn_moves") 3 .none .none .none (.str (S "chess.pawnmoves") 324) none (.ref 160) .none 0)), ⟨[]⟩⟩
noncomputable def o162 (P : Params) : Obj := ⟨(.type "tuple"), none, (.seq ⟨[(.type "Exception")]⟩ 0), ⟨[]⟩⟩
noncomputable def o163 (P : Params) : Obj := ⟨(.type "builtin_function_or_method"), none, (.fields ⟨[(.builtin "type.__prepare__"), (.type "type")]⟩), ⟨[]⟩⟩
noncomputable def o164 (P : Params) : Obj := ⟨(.type "dict"), none, (.dict ⟨[e P (S "__module__") 461 (.str (S "chess.errors") 452), e P (S "__qualname__") 463 (.str (S "ChessError") 462), e P (S "__firstlineno__") 465 (.int (142) 464), e P (S "__init__") 473 (.ref 175), e P (S "__static_attributes__") 475 (.ref 176)]⟩ 5), ⟨[]⟩⟩
noncomputable def o165 (P : Params) : Obj := ⟨(.type "tuple"), none, (.seq ⟨[]⟩ 0), ⟨[]⟩⟩
noncomputable def o166 (P : Params) : Obj := ⟨.none, none, (.fields ⟨[(.int (144) 0), (.int (4) 0), (.ref 174)]⟩), ⟨[]⟩⟩
noncomputable def o167 (P : Params) : Obj := ⟨(.type "code"), none, (.fields ⟨[(.str (S "ChessError") 456), (.str (S "ChessError") 457), (.str (S "/claim/cut.py") 458), (.int (142) 0), (.int (0) 0), (.int (0) 0), (.int (0) 0), (.int (0) 0), (.ref 165), (.bool false), (.int (181) 0), (.ref 166), .none, .none, .none, .none, (.int (459) 0), (.int (142) 0), (.str (S "/claim/cut.py") 460)]⟩), ⟨[]⟩⟩
noncomputable def o168 (P : Params) : Obj := ⟨(.type "frame"), none, .plain, ⟨[(some (.ref 167)), (some (.ref 3)), (some (.ref 164)), none, (some (.str (S "chess.errors") 452)), none, (some (.ref 0))]⟩⟩
noncomputable def o169 (P : Params) : Obj := ⟨(.type "tuple"), none, (.seq ⟨[]⟩ 0), ⟨[]⟩⟩
noncomputable def o170 (P : Params) : Obj := ⟨.none, none, (.fields ⟨[]⟩), ⟨[]⟩⟩
noncomputable def o171 (P : Params) : Obj := ⟨(.type "tuple"), none, (.seq ⟨[(.str (S "self") 469), (.str (S "text") 470)]⟩ 0), ⟨[]⟩⟩
noncomputable def o172 (P : Params) : Obj := ⟨(.type "tuple"), none, (.seq ⟨[]⟩ 0), ⟨[]⟩⟩
noncomputable def o173 (P : Params) : Obj := ⟨.none, none, (.func (fnd (bdc 39 0) (S "ChessError.__init__") 0 .none .none .none .none none .none .none 0)), ⟨[]⟩⟩
noncomputable def o174 (P : Params) : Obj := ⟨(.type "code"), none, (.fields ⟨[(.str (S "__init__") 466), (.str (S "ChessError.__init__") 467), (.str (S "/claim/cut.py") 468), (.int (144) 0), (.int (2) 0), (.int (0) 0), (.int (0) 0), (.int (3) 0), (.ref 169), (.bool true), (.int (181) 0), (.ref 170), .none, (.ref 171), (.ref 172), (.ref 173), (.int (471) 0), (.int (144) 0), (.str (S "/claim/cut.py") 472)]⟩), ⟨[]⟩⟩
noncomputable def o175 (P : Params) : Obj := ⟨(.type "function"), none, (.func (fnd (bdc 39 0) (S "ChessError.__init__") 3 .none .none .none (.str (S "chess.errors") 452) none (.ref 174) .none 0)), ⟨[]⟩⟩
noncomputable def o176 (P : Params) : Obj := ⟨(.type "tuple"), none, (.seq ⟨[(.str (S "text") 474)]⟩ 0), ⟨[]⟩⟩
noncomputable def o177 (P : Params) : Obj := ⟨(.type "dict"), none, (.dict ⟨[e P (S "__module__") 461 (.str (S "chess.errors") 452), e P (S "__firstlineno__") 465 (.int (142) 464), e P (S "__init__") 473 (.ref 175), e P (S "__static_attributes__") 475 (.ref 176), e P (S "__weakref__") 477 (.ref 179), e P (S "__doc__") 478 .none]⟩ 3), ⟨[]⟩⟩
noncomputable def o178 (P : Params) : Obj := ⟨(.type "type"), none, (.cls ⟨(S "ChessError"), [(.type "Exception")], [(.ref 178), (.type "Exception"), (.type "BaseException"), (.type "object")], 177, (S "ChessError"), true, [], [], false, none, false⟩), ⟨[(some (.ref 162)), none, (some (.str (S "ChessError") 454)), (some (.str (S "ChessError") 462)), (some (.builtin "Exception.__new__")), (some (.bool true))]⟩⟩
noncomputable def o179 (P : Params) : Obj := ⟨(.type "getset_descriptor"), none, (.fields ⟨[(.str (S "__weakref__") 476), (.ref 178), (.builtin "ExceptionGroup.__weakref__"), .none]⟩), ⟨[]⟩⟩
noncomputable def o180 (P : Params) : Obj := ⟨(.type "super"), none, (.fields ⟨[(.ref 178), (.ref 178), (.ref 178)]⟩), ⟨[]⟩⟩
noncomputable def o181 (P : Params) : Obj := ⟨(.type "builtin_function_or_method"), none, (.fields ⟨[(.builtin "object.__init_subclass__"), (.ref 178)]⟩), ⟨[]⟩⟩
noncomputable def o182 (P : Params) : Obj := ⟨(.type "tuple"), none, (.seq ⟨[(.int (0) 485), (.int (1) 486), (.int (0) 487), (.int (-1) 489), (.int (1) 490), (.int (1) 491), (.int (-1) 493), (.int (-1) 495)]⟩ 0), ⟨[]⟩⟩
noncomputable def o183 (P : Params) : Obj := ⟨(.type "tuple"), none, (.seq ⟨[(.int (1) 497), (.int (0) 498), (.int (-1) 500), (.int (0) 501), (.int (1) 502), (.int (-1) 504), (.int (-1) 506), (.int (1) 507)]⟩ 0), ⟨[]⟩⟩
noncomputable def o184 (P : Params) : Obj := ⟨(.type "tuple"), none, (.seq ⟨[]⟩ 0), ⟨[]⟩⟩
noncomputable def o185 (P : Params) : Obj := ⟨(.type "builtin_function_or_method"), none, (.fields ⟨[(.builtin "type.__prepare__"), (.type "type")]⟩), ⟨[]⟩⟩
noncomputable def o186 (P : Params) : Obj := ⟨(.type "dict"), none, (.dict ⟨[e P (S "__module__") 516 (.str (S "chess.geometry") 483), e P (S "__qualname__") 518 (.str (S "Geometry") 517), e P (S "__firstlineno__") 520 (.int (150) 519), e P (S "__init__") 531 (.ref 197), e P (S "__static_attributes__") 546 (.ref 198)]⟩ 5), ⟨[]⟩⟩
noncomputable def o187 (P : Params) : Obj := ⟨(.type "tuple"), none, (.seq ⟨[]⟩ 0), ⟨[]⟩⟩
noncomputable def o188 (P : Params) : Obj := ⟨.none, none, (.fields ⟨[(.int (152) 0), (.int (4) 0), (.ref 196)]⟩), ⟨[]⟩⟩
noncomputable def o189 (P : Params) : Obj := ⟨(.type "code"), none, (.fields ⟨[(.str (S "Geometry") 511), (.str (S "Geometry") 512), (.str (S "/claim/cut.py") 513), (.int (150) 0), (.int (0) 0), (.int (0) 0), (.int (0) 0), (.int (0) 0), (.ref 187), (.bool false), (.int (181) 0), (.ref 188), .none, .none, .none, .none, (.int (514) 0), (.int (150) 0), (.str (S "/claim/cut.py") 515)]⟩), ⟨[]⟩⟩
noncomputable def o190 (P : Params) : Obj := ⟨(.type "frame"), none, .plain, ⟨[(some (.ref 189)), (some (.ref 3)), (some (.ref 186)), none, (some (.str (S "chess.geometry") 483)), none, (some (.ref 0))]⟩⟩
noncomputable def o191 (P : Params) : Obj := ⟨(.type "tuple"), none, (.seq ⟨[]⟩ 0), ⟨[]⟩⟩
noncomputable def o192 (P : Params) : Obj := ⟨.none, none, (.fields ⟨[]⟩), ⟨[]⟩⟩
noncomputable def o193 (P : Params) : Obj := ⟨(.type "tuple"), none, (.seq ⟨[(.str (S "self") 524), (.str (S "files") 525), (.str (S "ranks") 526), (.str (S "has_double") 527), (.str (S "has_castling") 528)]⟩ 0), ⟨[]⟩⟩
noncomputable def o194 (P : Params) : Obj := ⟨(.type "tuple"), none, (.seq ⟨[]⟩ 0), ⟨[]⟩⟩
noncomputable def o195 (P : Params) : Obj := ⟨.none, none, (.func (fnd (bdc 43 0) (S "Geometry.__init__") 0 .none .none .none .none none .none .none 0)), ⟨[]⟩⟩
noncomputable def o196 (P : Params) : Obj := ⟨(.type "code"), none, (.fields ⟨[(.str (S "__init__") 521), (.str (S "Geometry.__init__") 522), (.str (S "/claim/cut.py") 523), (.int (152) 0), (.int (5) 0), (.int (0) 0), (.int (0) 0), (.int (3) 0), (.ref 191), (.bool true), (.int (181) 0), (.ref 192), .none, (.ref 193), (.ref 194), (.ref 195), (.int (529) 0), (.int (152) 0), (.str (S "/claim/cut.py") 530)]⟩), ⟨[]⟩⟩
noncomputable def o197 (P : Params) : Obj := ⟨(.type "function"), none, (.func (fnd (bdc 43 0) (S "Geometry.__init__") 3 .none .none .none (.str (S "chess.geometry") 483) none (.ref 196) .none 0)), ⟨[]⟩⟩
noncomputable def o198 (P : Params) : Obj := ⟨(.type "tuple"), none, (.seq ⟨[(.str (S "castles") 532), (.str (S "file_masks") 533), (.str (S "files") 534), (.str (S "full") 535), (.str (S "has_castling") 536), (.str (S "has_double") 537), (.str (S "king") 538), (.str (S "knight") 539), (.str (S "pawn") 540), (.str (S "rank_masks") 541), (.str (S "ranks") 542), (.str (S "rays") 543), (.str (S "rights_lost") 544), (.str (S "size") 545)]⟩ 0), ⟨[]⟩⟩
noncomputable def o199 (P : Params) : Obj := ⟨(.type "dict"), none, (.dict ⟨[e P (S "__module__") 516 (.str (S "chess.geometry") 483), e P (S "__firstlineno__") 520 (.int (150) 519), e P (S "__init__") 531 (.ref 197), e P (S "__static_attributes__") 546 (.ref 198), e P (S "__dict__") 548 (.ref 201), e P (S "__weakref__") 550 (.ref 202), e P (S "__doc__") 551 .none]⟩ 4), ⟨[]⟩⟩
noncomputable def o200 (P : Params) : Obj := ⟨(.type "type"), none, (.cls ⟨(S "Geometry"), [(.type "object")], [(.ref 200), (.type "object")], 199, (S "Geometry"), true, [], [], false, none, false⟩), ⟨[none, none, (some (.str (S "Geometry") 509)), (some (.str (S "Geometry") 517)), (some (.builtin "object.__new__")), (some (.bool true))]⟩⟩
noncomputable def o201 (P : Params) : Obj := ⟨(.type "getset_descriptor"), none, (.fields ⟨[(.str (S "__dict__") 547), (.ref 200), (.builtin "function.__dict__"), (.builtin "function.__dict__#set")]⟩), ⟨[]⟩⟩
noncomputable def o202 (P : Params) : Obj := ⟨(.type "getset_descriptor"), none, (.fields ⟨[(.str (S "__weakref__") 549), (.ref 200), (.builtin "ExceptionGroup.__weakref__"), .none]⟩), ⟨[]⟩⟩
noncomputable def o203 (P : Params) : Obj := ⟨(.type "super"), none, (.fields ⟨[(.ref 200), (.ref 200), (.ref 200)]⟩), ⟨[]⟩⟩
noncomputable def o204 (P : Params) : Obj := ⟨(.type "builtin_function_or_method"), none, (.fields ⟨[(.builtin "object.__init_subclass__"), (.ref 200)]⟩), ⟨[]⟩⟩
noncomputable def o205 (P : Params) : Obj := ⟨(.type "tuple"), none, (.seq ⟨[]⟩ 0), ⟨[]⟩⟩
noncomputable def o206 (P : Params) : Obj := ⟨.none, none, (.fields ⟨[]⟩), ⟨[]⟩⟩
noncomputable def o207 (P : Params) : Obj := ⟨(.type "tuple"), none, (.seq ⟨[(.str (S "d") 557)]⟩ 0), ⟨[]⟩⟩
noncomputable def o208 (P : Params) : Obj := ⟨(.type "tuple"), none, (.seq ⟨[]⟩ 0), ⟨[]⟩⟩
noncomputable def o209 (P : Params) : Obj := ⟨.none, none, (.func (fnd (bd 44) (S "is_growing") 0 .none .none .none .none none .none .none 0)), ⟨[]⟩⟩
noncomputable def o210 (P : Params) : Obj := ⟨(.type "code"), none, (.fields ⟨[(.str (S "is_growing") 554), (.str (S "is_growing") 555), (.str (S "/claim/cut.py") 556), (.int (167) 0), (.int (1) 0), (.int (0) 0), (.int (0) 0), (.int (3) 0), (.ref 205), (.bool true), (.int (181) 0), (.ref 206), .none, (.ref 207), (.ref 208), (.ref 209), (.int (558) 0), (.int (167) 0), (.str (S "/claim/cut.py") 559)]⟩), ⟨[]⟩⟩
noncomputable def o211 (P : Params) : Obj := ⟨(.type "function"), none, (.func (fnd (bd 44) (S "is_growing") 3 .none .none .none (.str (S "chess.geometry") 483) none (.ref 210) .none 0)), ⟨[]⟩⟩
noncomputable def o212 (P : Params) : Obj := ⟨(.type "tuple"), none, (.seq ⟨[]⟩ 0), ⟨[]⟩⟩
noncomputable def o213 (P : Params) : Obj := ⟨.none, none, (.fields ⟨[]⟩), ⟨[]⟩⟩
noncomputable def o214 (P : Params) : Obj := ⟨(.type "tuple"), none, (.seq ⟨[(.str (S "geo") 564), (.str (S "row") 565), (.str (S "column") 566), (.str (S "r") 567), (.str (S "f") 568)]⟩ 0), ⟨[]⟩⟩
noncomputable def o215 (P : Params) : Obj := ⟨(.type "tuple"), none, (.seq ⟨[]⟩ 0), ⟨[]⟩⟩
noncomputable def o216 (P : Params) : Obj := ⟨.none, none, (.func (fnd (bd 45) (S "add_masks") 0 .none .none .none .none none .none .none 0)), ⟨[]⟩⟩
noncomputable def o217 (P : Params) : Obj := ⟨(.type "code"), none, (.fields ⟨[(.str (S "add_masks") 561), (.str (S "add_masks") 562), (.str (S "/claim/cut.py") 563), (.int (169) 0), (.int (1) 0), (.int (0) 0), (.int (0) 0), (.int (3) 0), (.ref 212), (.bool true), (.int (181) 0), (.ref 213), .none, (.ref 214), (.ref 215), (.ref 216), (.int (569) 0), (.int (169) 0), (.str (S "/claim/cut.py") 570)]⟩), ⟨[]⟩⟩
noncomputable def o218 (P : Params) : Obj := ⟨(.type "function"), none, (.func (fnd (bd 45) (S "add_masks") 3 .none .none .none (.str (S "chess.geometry") 483) none (.ref 217) .none 0)), ⟨[]⟩⟩
noncomputable def o219 (P : Params) : Obj := ⟨(.type "tuple"), none, (.seq ⟨[]⟩ 0), ⟨[]⟩⟩
noncomputable def o220 (P : Params) : Obj := ⟨.none, none, (.fields ⟨[]⟩), ⟨[]⟩⟩
noncomputable def o221 (P : Params) : Obj := ⟨(.type "tuple"), none, (.seq ⟨[(.str (S "geo") 575), (.str (S "d") 576), (.str (S "edge") 577)]⟩ 0), ⟨[]⟩⟩
noncomputable def o222 (P : Params) : Obj := ⟨(.type "tuple"), none, (.seq ⟨[]⟩ 0), ⟨[]⟩⟩
noncomputable def o223 (P : Params) : Obj := ⟨.none, none, (.func (fnd (bd 46) (S "inner_squares") 0 .none .none .none .none none .none .none 0)), ⟨[]⟩⟩
noncomputable def o224 (P : Params) : Obj := ⟨(.type "code"), none, (.fields ⟨[(.str (S "inner_squares") 572), (.str (S "inner_squares") 573), (.str (S "/claim/cut.py") 574), (.int (177) 0), (.int (2) 0), (.int (0) 0), (.int (0) 0), (.int (3) 0), (.ref 219), (.bool true), (.int (181) 0), (.ref 220), .none, (.ref 221), (.ref 222), (.ref 223), (.int (578) 0), (.int (177) 0), (.str (S "/claim/cut.py") 579)]⟩), ⟨[]⟩⟩
noncomputable def o225 (P : Params) : Obj := ⟨(.type "function"), none, (.func (fnd (bd 46) (S "inner_squares") 3 .none .none .none (.str (S "chess.geometry") 483) none (.ref 224) .none 0)), ⟨[]⟩⟩
noncomputable def o226 (P : Params) : Obj := ⟨(.type "tuple"), none, (.seq ⟨[]⟩ 0), ⟨[]⟩⟩
noncomputable def o227 (P : Params) : Obj := ⟨.none, none, (.fields ⟨[]⟩), ⟨[]⟩⟩
noncomputable def o228 (P : Params) : Obj := ⟨(.type "tuple"), none, (.seq ⟨[(.str (S "geo") 584), (.str (S "d") 585), (.str (S "inner") 586), (.str (S "delta") 587), (.str (S "ray") 588), (.str (S "order") 589), (.str (S "square") 590), (.str (S "goal") 591)]⟩ 0), ⟨[]⟩⟩
noncomputable def o229 (P : Params) : Obj := ⟨(.type "tuple"), none, (.seq ⟨[]⟩ 0), ⟨[]⟩⟩
noncomputable def o230 (P : Params) : Obj := ⟨.none, none, (.func (fnd (bd 47) (S "add_rays") 0 .none .none .none .none none .none .none 0)), ⟨[]⟩⟩
noncomputable def o231 (P : Params) : Obj := ⟨(.type "code"), none, (.fields ⟨[(.str (S "add_rays") 581), (.str (S "add_rays") 582), (.str (S "/claim/cut.py") 583), (.int (188) 0), (.int (1) 0), (.int (0) 0), (.int (0) 0), (.int (3) 0), (.ref 226), (.bool true), (.int (181) 0), (.ref 227), .none, (.ref 228), (.ref 229), (.ref 230), (.int (592) 0), (.int (188) 0), (.str (S "/claim/cut.py") 593)]⟩), ⟨[]⟩⟩
noncomputable def o232 (P : Params) : Obj := ⟨(.type "function"), none, (.func (fnd (bd 47) (S "add_rays") 3 .none .none .none (.str (S "chess.geometry") 483) none (.ref 231) .none 0)), ⟨[]⟩⟩
noncomputable def o233 (P : Params) : Obj := ⟨(.type "tuple"), none, (.seq ⟨[]⟩ 0), ⟨[]⟩⟩
noncomputable def o234 (P : Params) : Obj := ⟨.none, none, (.fields ⟨[]⟩), ⟨[]⟩⟩
noncomputable def o235 (P : Params) : Obj := ⟨(.type "tuple"), none, (.seq ⟨[(.str (S "geo") 598), (.str (S "square") 599)]⟩ 0), ⟨[]⟩⟩
noncomputable def o236 (P : Params) : Obj := ⟨(.type "tuple"), none, (.seq ⟨[]⟩ 0), ⟨[]⟩⟩
noncomputable def o237 (P : Params) : Obj := ⟨.none, none, (.func (fnd (bd 48) (S "add_pawns") 0 .none .none .none .none none .none .none 0)), ⟨[]⟩⟩
noncomputable def o238 (P : Params) : Obj := ⟨(.type "code"), none, (.fields ⟨[(.str (S "add_pawns") 595), (.str (S "add_pawns") 596), (.str (S "/claim/cut.py") 597), (.int (203) 0), (.int (1) 0), (.int (0) 0), (.int (0) 0), (.int (3) 0), (.ref 233), (.bool true), (.int (181) 0), (.ref 234), .none, (.ref 235), (.ref 236), (.ref 237), (.int (600) 0), (.int (203) 0), (.str (S "/claim/cut.py") 601)]⟩), ⟨[]⟩⟩
noncomputable def o239 (P : Params) : Obj := ⟨(.type "function"), none, (.func (fnd (bd 48) (S "add_pawns") 3 .none .none .none (.str (S "chess.geometry") 483) none (.ref 238) .none 0)), ⟨[]⟩⟩
noncomputable def o240 (P : Params) : Obj := ⟨(.type "tuple"), none, (.seq ⟨[]⟩ 0), ⟨[]⟩⟩
noncomputable def o241 (P : Params) : Obj := ⟨.none, none, (.fields ⟨[]⟩), ⟨[]⟩⟩
noncomputable def o242 (P : Params) : Obj := ⟨(.type "tuple"), none, (.seq ⟨[(.str (S "geo") 606), (.str (S "files") 607), (.str (S "not_first") 608), (.str (S "not_last") 609), (.str (S "not_first_two") 610), (.str (S "not_last_two") 611), (.str (S "square") 612), (.str (S "b") 613), (.str (S "near") 614), (.str (S "far") 615), (.str (S "found") 616)]⟩ 0), ⟨[]⟩⟩
noncomputable def o243 (P : Params) : Obj := ⟨(.type "tuple"), none, (.seq ⟨[]⟩ 0), ⟨[]⟩⟩
noncomputable def o244 (P : Params) : Obj := ⟨.none, none, (.func (fnd (bd 49) (S "add_knights") 0 .none .none .none .none none .none .none 0)), ⟨[]⟩⟩
noncomputable def o245 (P : Params) : Obj := ⟨(.type "code"), none, (.fields ⟨[(.str (S "add_knights") 603), (.str (S "add_knights") 604), (.str (S "/claim/cut.py") 605), (.int (207) 0), (.int (1) 0), (.int (0) 0), (.int (0) 0), (.int (3) 0), (.ref 240), (.bool true), (.int (181) 0), (.ref 241), .none, (.ref 242), (.ref 243), (.ref 244), (.int (617) 0), (.int (207) 0), (.str (S "/claim/cut.py") 618)]⟩), ⟨[]⟩⟩
noncomputable def o246 (P : Params) : Obj := ⟨(.type "function"), none, (.func (fnd (bd 49) (S "add_knights") 3 .none .none .none (.str (S "chess.geometry") 483) none (.ref 245) .none 0)), ⟨[]⟩⟩
noncomputable def o247 (P : Params) : Obj := ⟨(.type "tuple"), none, (.seq ⟨[]⟩ 0), ⟨[]⟩⟩
noncomputable def o248 (P : Params) : Obj := ⟨.none, none, (.fields ⟨[]⟩), ⟨[]⟩⟩
noncomputable def o249 (P : Params) : Obj := ⟨(.type "tuple"), none, (.seq ⟨[(.str (S "geo") 623), (.str (S "start") 624), (.str (S "index") 625), (.str (S "base") 626), (.str (S "corner") 627), (.str (S "way") 628), (.str (S "goal") 629)]⟩ 0), ⟨[]⟩⟩
noncomputable def o250 (P : Params) : Obj := ⟨(.type "tuple"), none, (.seq ⟨[]⟩ 0), ⟨[]⟩⟩
noncomputable def o251 (P : Params) : Obj := ⟨.none, none, (.func (fnd (bd 50) (S "add_castles") 0 .none .none .none .none none .none .none 0)), ⟨[]⟩⟩
noncomputable def o252 (P : Params) : Obj := ⟨(.type "code"), none, (.fields ⟨[(.str (S "add_castles") 620), (.str (S "add_castles") 621), (.str (S "/claim/cut.py") 622), (.int (219) 0), (.int (1) 0), (.int (0) 0), (.int (0) 0), (.int (3) 0), (.ref 247), (.bool true), (.int (181) 0), (.ref 248), .none, (.ref 249), (.ref 250), (.ref 251), (.int (630) 0), (.int (219) 0), (.str (S "/claim/cut.py") 631)]⟩), ⟨[]⟩⟩
noncomputable def o253 (P : Params) : Obj := ⟨(.type "function"), none, (.func (fnd (bd 50) (S "add_castles") 3 .none .none .none (.str (S "chess.geometry") 483) none (.ref 252) .none 0)), ⟨[]⟩⟩
noncomputable def o254 (P : Params) : Obj := ⟨(.type "tuple"), none, (.seq ⟨[]⟩ 0), ⟨[]⟩⟩
noncomputable def o255 (P : Params) : Obj := ⟨.none, none, (.fields ⟨[]⟩), ⟨[]⟩⟩
noncomputable def o256 (P : Params) : Obj := ⟨(.type "tuple"), none, (.seq ⟨[(.str (S "files") 636), (.str (S "ranks") 637), (.str (S "has_double") 638), (.str (S "has_castling") 639), (.str (S "geo") 640)]⟩ 0), ⟨[]⟩⟩
noncomputable def o257 (P : Params) : Obj := ⟨(.type "tuple"), none, (.seq ⟨[]⟩ 0), ⟨[]⟩⟩
noncomputable def o258 (P : Params) : Obj := ⟨.none, none, (.func (fnd (bd 51) (S "make_geometry") 0 .none .none .none .none none .none .none 0)), ⟨[]⟩⟩
noncomputable def o259 (P : Params) : Obj := ⟨(.type "code"), none, (.fields ⟨[(.str (S "make_geometry") 633), (.str (S "make_geometry") 634), (.str (S "/claim/cut.py") 635), (.int (236) 0), (.int (4) 0), (.int (0) 0), (.int (0) 0), (.int (3) 0), (.ref 254), (.bool true), (.int (181) 0), (.ref 255), .none, (.ref 256), (.ref 257), (.ref 258), (.int (641) 0), (.int (236) 0), (.str (S "/claim/cut.py") 642)]⟩), ⟨[]⟩⟩
noncomputable def o260 (P : Params) : Obj := ⟨(.type "function"), none, (.func (fnd (bd 51) (S "make_geometry") 3 .none .none .none (.str (S "chess.geometry") 483) none (.ref 259) .none 0)), ⟨[]⟩⟩
noncomputable def o261 (P : Params) : Obj := ⟨(.type "tuple"), none, (.seq ⟨[]⟩ 0), ⟨[]⟩⟩
noncomputable def o262 (P : Params) : Obj := ⟨(.type "builtin_function_or_method"), none, (.fields ⟨[(.builtin "type.__prepare__"), (.type "type")]⟩), ⟨[]⟩⟩
noncomputable def o263 (P : Params) : Obj := ⟨(.type "dict"), none, (.dict ⟨[e P (S "__module__") 653 (.str (S "chess.zobrist") 644), e P (S "__qualname__") 655 (.str (S "Zobrist") 654), e P (S "__firstlineno__") 657 (.int (247) 656), e P (S "__init__") 668 (.ref 274), e P (S "__static_attributes__") 673 (.ref 275)]⟩ 5), ⟨[]⟩⟩
noncomputable def o264 (P : Params) : Obj := ⟨(.type "tuple"), none, (.seq ⟨[]⟩ 0), ⟨[]⟩⟩
noncomputable def o265 (P : Params) : Obj := ⟨.none, none, (.fields ⟨[(.int (249) 0), (.int (4) 0), (.ref 273)]⟩), ⟨[]⟩⟩
noncomputable def o266 (P : Params) : Obj := ⟨(.type "code"), none, (.fields ⟨[(.str (S "Zobrist") 648), (.str (S "Zobrist") 649), (.str (S "/claim/cut.py") 650), (.int (247) 0), (.int (0) 0), (.int (0) 0), (.int (0) 0), (.int (0) 0), (.ref 264), (.bool false), (.int (181) 0), (.ref 265), .none, .none, .none, .none, (.int (651) 0), (.int (247) 0), (.str (S "/claim/cut.py") 652)]⟩), ⟨[]⟩⟩
noncomputable def o267 (P : Params) : Obj := ⟨(.type "frame"), none, .plain, ⟨[(some (.ref 266)), (some (.ref 3)), (some (.ref 263)), none, (some (.str (S "chess.zobrist") 644)), none, (some (.ref 0))]⟩⟩
noncomputable def o268 (P : Params) : Obj := ⟨(.type "tuple"), none, (.seq ⟨[]⟩ 0), ⟨[]⟩⟩
noncomputable def o269 (P : Params) : Obj := ⟨.none, none, (.fields ⟨[]⟩), ⟨[]⟩⟩
noncomputable def o270 (P : Params) : Obj := ⟨(.type "tuple"), none, (.seq ⟨[(.str (S "self") 661), (.str (S "pieces") 662), (.str (S "ep") 663), (.str (S "rights") 664), (.str (S "side") 665)]⟩ 0), ⟨[]⟩⟩
noncomputable def o271 (P : Params) : Obj := ⟨(.type "tuple"), none, (.seq ⟨[]⟩ 0), ⟨[]⟩⟩
noncomputable def o272 (P : Params) : Obj := ⟨.none, none, (.func (fnd (bdc 53 0) (S "Zobrist.__init__") 0 .none .none .none .none none .none .none 0)), ⟨[]⟩⟩
noncomputable def o273 (P : Params) : Obj := ⟨(.type "code"), none, (.fields ⟨[(.str (S "__init__") 658), (.str (S "Zobrist.__init__") 659), (.str (S "/claim/cut.py") 660), (.int (249) 0), (.int (5) 0), (.int (0) 0), (.int (0) 0), (.int (3) 0), (.ref 268), (.bool true), (.int (181) 0), (.ref 269), .none, (.ref 270), (.ref 271), (.ref 272), (.int (666) 0), (.int (249) 0), (.str (S "/claim/cut.py") 667)]⟩), ⟨[]⟩⟩
noncomputable def o274 (P : Params) : Obj := ⟨(.type "function"), none, (.func (fnd (bdc 53 0) (S "Zobrist.__init__") 3 .none .none .none (.str (S "chess.zobrist") 644) none (.ref 273) .none 0)), ⟨[]⟩⟩
noncomputable def o275 (P : Params) : Obj := ⟨(.type "tuple"), none, (.seq ⟨[(.str (S "ep") 669), (.str (S "pieces") 670), (.str (S "rights") 671), (.str (S "side") 672)]⟩ 0), ⟨[]⟩⟩
noncomputable def o276 (P : Params) : Obj := ⟨(.type "dict"), none, (.dict ⟨[e P (S "__module__") 653 (.str (S "chess.zobrist") 644), e P (S "__firstlineno__") 657 (.int (247) 656), e P (S "__init__") 668 (.ref 274), e P (S "__static_attributes__") 673 (.ref 275), e P (S "__dict__") 675 (.ref 278), e P (S "__weakref__") 677 (.ref 279), e P (S "__doc__") 678 .none]⟩ 4), ⟨[]⟩⟩
noncomputable def o277 (P : Params) : Obj := ⟨(.type "type"), none, (.cls ⟨(S "Zobrist"), [(.type "object")], [(.ref 277), (.type "object")], 276, (S "Zobrist"), true, [], [], false, none, false⟩), ⟨[none, none, (some (.str (S "Zobrist") 646)), (some (.str (S "Zobrist") 654)), (some (.builtin "object.__new__")), (some (.bool true))]⟩⟩
noncomputable def o278 (P : Params) : Obj := ⟨(.type "getset_descriptor"), none, (.fields ⟨[(.str (S "__dict__") 674), (.ref 277), (.builtin "function.__dict__"), (.builtin "function.__dict__#set")]⟩), ⟨[]⟩⟩
noncomputable def o279 (P : Params) : Obj := ⟨(.type "getset_descriptor"), none, (.fields ⟨[(.str (S "__weakref__") 676), (.ref 277), (.builtin "ExceptionGroup.__weakref__"), .none]⟩), ⟨[]⟩⟩
noncomputable def o280 (P : Params) : Obj := ⟨(.type "super"), none, (.fields ⟨[(.ref 277), (.ref 277), (.ref 277)]⟩), ⟨[]⟩⟩
noncomputable def o281 (P : Params) : Obj := ⟨(.type "builtin_function_or_method"), none, (.fields ⟨[(.builtin "object.__init_subclass__"), (.ref 277)]⟩), ⟨[]⟩⟩
noncomputable def o282 (P : Params) : Obj := ⟨(.type "tuple"), none, (.seq ⟨[]⟩ 0), ⟨[]⟩⟩
noncomputable def o283 (P : Params) : Obj := ⟨.none, none, (.fields ⟨[]⟩), ⟨[]⟩⟩
noncomputable def o284 (P : Params) : Obj := ⟨(.type "tuple"), none, (.seq ⟨[]⟩ 0), ⟨[]⟩⟩
noncomputable def o285 (P : Params) : Obj := ⟨(.type "tuple"), none, (.seq ⟨[]⟩ 0), ⟨[]⟩⟩
noncomputable def o286 (P : Params) : Obj := ⟨.none, none, (.func (fnd (bd 55) (S "_law_boards") 0 .none .none .none .none none .none .none 0)), ⟨[]⟩⟩
noncomputable def o287 (P : Params) : Obj := ⟨(.type "code"), none, (.fields ⟨[(.str (S "_law_boards") 683), (.str (S "_law_boards") 684), (.str (S "/claim/cut.py") 685), (.int (255) 0), (.int (0) 0), (.int (0) 0), (.int (0) 0), (.int (3) 0), (.ref 282), (.bool true), (.int (181) 0), (.ref 283), .none, (.ref 284), (.ref 285), (.ref 286), (.int (686) 0), (.int (255) 0), (.str (S "/claim/cut.py") 687)]⟩), ⟨[]⟩⟩
noncomputable def o288 (P : Params) : Obj := ⟨(.type "function"), none, (.func (fnd (bd 55) (S "_law_boards") 3 .none .none .none (.str (S "law_pf0099_01") 681) none (.ref 287) .none 0)), ⟨[]⟩⟩
noncomputable def o289 (P : Params) : Obj := ⟨(.type "tuple"), none, (.seq ⟨[]⟩ 0), ⟨[]⟩⟩
noncomputable def o290 (P : Params) : Obj := ⟨.none, none, (.fields ⟨[]⟩), ⟨[]⟩⟩
noncomputable def o291 (P : Params) : Obj := ⟨(.type "tuple"), none, (.seq ⟨[(.str (S "script") 692), (.str (S "place") 693)]⟩ 0), ⟨[]⟩⟩
noncomputable def o292 (P : Params) : Obj := ⟨(.type "tuple"), none, (.seq ⟨[]⟩ 0), ⟨[]⟩⟩
noncomputable def o293 (P : Params) : Obj := ⟨.none, none, (.func (fnd (bd 56) (S "_law_told") 0 .none .none .none .none none .none .none 0)), ⟨[]⟩⟩
noncomputable def o294 (P : Params) : Obj := ⟨(.type "code"), none, (.fields ⟨[(.str (S "_law_told") 689), (.str (S "_law_told") 690), (.str (S "/claim/cut.py") 691), (.int (257) 0), (.int (2) 0), (.int (0) 0), (.int (0) 0), (.int (3) 0), (.ref 289), (.bool true), (.int (181) 0), (.ref 290), .none, (.ref 291), (.ref 292), (.ref 293), (.int (694) 0), (.int (257) 0), (.str (S "/claim/cut.py") 695)]⟩), ⟨[]⟩⟩
noncomputable def o295 (P : Params) : Obj := ⟨(.type "function"), none, (.func (fnd (bd 56) (S "_law_told") 3 .none .none .none (.str (S "law_pf0099_01") 681) none (.ref 294) .none 0)), ⟨[]⟩⟩
noncomputable def o296 (P : Params) : Obj := ⟨(.type "tuple"), none, (.seq ⟨[]⟩ 0), ⟨[]⟩⟩
noncomputable def o297 (P : Params) : Obj := ⟨.none, none, (.fields ⟨[]⟩), ⟨[]⟩⟩
noncomputable def o298 (P : Params) : Obj := ⟨(.type "tuple"), none, (.seq ⟨[(.str (S "files") 700), (.str (S "ranks") 701), (.str (S "square") 702), (.str (S "across") 703), (.str (S "up") 704), (.str (S "column") 705), (.str (S "rank") 706)]⟩ 0), ⟨[]⟩⟩
noncomputable def o299 (P : Params) : Obj := ⟨(.type "tuple"), none, (.seq ⟨[]⟩ 0), ⟨[]⟩⟩
noncomputable def o300 (P : Params) : Obj := ⟨.none, none, (.func (fnd (bd 57) (S "_law_beside") 0 .none .none .none .none none .none .none 0)), ⟨[]⟩⟩
noncomputable def o301 (P : Params) : Obj := ⟨(.type "code"), none, (.fields ⟨[(.str (S "_law_beside") 697), (.str (S "_law_beside") 698), (.str (S "/claim/cut.py") 699), (.int (261) 0), (.int (5) 0), (.int (0) 0), (.int (0) 0), (.int (3) 0), (.ref 296), (.bool true), (.int (181) 0), (.ref 297), .none, (.ref 298), (.ref 299), (.ref 300), (.int (707) 0), (.int (261) 0), (.str (S "/claim/cut.py") 708)]⟩), ⟨[]⟩⟩
noncomputable def o302 (P : Params) : Obj := ⟨(.type "function"), none, (.func (fnd (bd 57) (S "_law_beside") 3 .none .none .none (.str (S "law_pf0099_01") 681) none (.ref 301) .none 0)), ⟨[]⟩⟩
noncomputable def o303 (P : Params) : Obj := ⟨(.type "tuple"), none, (.seq ⟨[]⟩ 0), ⟨[]⟩⟩
noncomputable def o304 (P : Params) : Obj := ⟨.none, none, (.fields ⟨[]⟩), ⟨[]⟩⟩
noncomputable def o305 (P : Params) : Obj := ⟨.none, none, (.func (fnd (bd 58) (S "_law_in_set") 0 .none .none .none .none none .none .none 0)), ⟨[]⟩⟩
noncomputable def o306 (P : Params) : Obj := ⟨(.type "code"), none, (.fields ⟨[(.str (S "_law_in_set") 710), (.str (S "_law_in_set") 711), (.str (S "/claim/cut.py") 712), (.int (267) 0), (.int (3) 0), (.int (0) 0), (.int (0) 0), (.int (3) 0), (.ref 303), (.bool true), (.int (181) 0), (.ref 304), .none, .none, .none, (.ref 305), (.int (713) 0), (.int (267) 0), (.str (S "/claim/cut.py") 714)]⟩), ⟨[]⟩⟩
noncomputable def o307 (P : Params) : Obj := ⟨(.type "function"), none, (.func (fnd (bd 58) (S "_law_in_set") 3 .none .none .none (.str (S "law_pf0099_01") 681) none (.ref 306) .none 0)), ⟨[]⟩⟩
noncomputable def o308 (P : Params) : Obj := ⟨(.type "tuple"), none, (.seq ⟨[]⟩ 0), ⟨[]⟩⟩
noncomputable def o309 (P : Params) : Obj := ⟨.none, none, (.fields ⟨[]⟩), ⟨[]⟩⟩
noncomputable def o310 (P : Params) : Obj := ⟨.none, none, (.func (fnd (bd 59) (S "_law_set") 0 .none .none .none .none none .none .none 0)), ⟨[]⟩⟩
noncomputable def o311 (P : Params) : Obj := ⟨(.type "code"), none, (.fields ⟨[(.str (S "_law_set") 716), (.str (S "_law_set") 717), (.str (S "/claim/cut.py") 718), (.int (269) 0), (.int (1) 0), (.int (0) 0), (.int (0) 0), (.int (3) 0), (.ref 308), (.bool true), (.int (181) 0), (.ref 309), .none, .none, .none, (.ref 310), (.int (719) 0), (.int (269) 0), (.str (S "/claim/cut.py") 720)]⟩), ⟨[]⟩⟩
noncomputable def o312 (P : Params) : Obj := ⟨(.type "function"), none, (.func (fnd (bd 59) (S "_law_set") 3 .none .none .none (.str (S "law_pf0099_01") 681) none (.ref 311) .none 0)), ⟨[]⟩⟩
noncomputable def o313 (P : Params) : Obj := ⟨(.type "tuple"), none, (.seq ⟨[]⟩ 0), ⟨[]⟩⟩
noncomputable def o314 (P : Params) : Obj := ⟨.none, none, (.fields ⟨[]⟩), ⟨[]⟩⟩
noncomputable def o315 (P : Params) : Obj := ⟨.none, none, (.func (fnd (bd 60) (S "_law_shifts_right") 0 .none .none .none .none none .none .none 0)), ⟨[]⟩⟩
noncomputable def o316 (P : Params) : Obj := ⟨(.type "code"), none, (.fields ⟨[(.str (S "_law_shifts_right") 722), (.str (S "_law_shifts_right") 723), (.str (S "/claim/cut.py") 724), (.int (271) 0), (.int (4) 0), (.int (0) 0), (.int (0) 0), (.int (3) 0), (.ref 313), (.bool true), (.int (181) 0), (.ref 314), .none, .none, .none, (.ref 315), (.int (725) 0), (.int (271) 0), (.str (S "/claim/cut.py") 726)]⟩), ⟨[]⟩⟩
noncomputable def o317 (P : Params) : Obj := ⟨(.type "function"), none, (.func (fnd (bd 60) (S "_law_shifts_right") 3 .none .none .none (.str (S "law_pf0099_01") 681) none (.ref 316) .none 0)), ⟨[]⟩⟩
noncomputable def o318 (P : Params) : Obj := ⟨(.type "tuple"), none, (.seq ⟨[]⟩ 0), ⟨[]⟩⟩
noncomputable def o319 (P : Params) : Obj := ⟨.none, none, (.fields ⟨[]⟩), ⟨[]⟩⟩
noncomputable def o320 (P : Params) : Obj := ⟨(.type "tuple"), none, (.seq ⟨[(.str (S "board") 731), (.str (S "files") 732), (.str (S "ranks") 733), (.str (S "double") 734), (.str (S "side") 735), (.str (S "square") 736), (.str (S "up") 737), (.str (S "one") 738), (.str (S "first") 739), (.str (S "two") 740)]⟩ 0), ⟨[]⟩⟩
noncomputable def o321 (P : Params) : Obj := ⟨(.type "tuple"), none, (.seq ⟨[]⟩ 0), ⟨[]⟩⟩
noncomputable def o322 (P : Params) : Obj := ⟨.none, none, (.func (fnd (bd 61) (S "_law_steps") 0 .none .none .none .none none .none .none 0)), ⟨[]⟩⟩
noncomputable def o323 (P : Params) : Obj := ⟨(.type "code"), none, (.fields ⟨[(.str (S "_law_steps") 728), (.str (S "_law_steps") 729), (.str (S "/claim/cut.py") 730), (.int (289) 0), (.int (6) 0), (.int (0) 0), (.int (0) 0), (.int (3) 0), (.ref 318), (.bool true), (.int (181) 0), (.ref 319), .none, (.ref 320), (.ref 321), (.ref 322), (.int (741) 0), (.int (289) 0), (.str (S "/claim/cut.py") 742)]⟩), ⟨[]⟩⟩
noncomputable def o324 (P : Params) : Obj := ⟨(.type "function"), none, (.func (fnd (bd 61) (S "_law_steps") 3 .none .none .none (.str (S "law_pf0099_01") 681) none (.ref 323) .none 0)), ⟨[]⟩⟩
noncomputable def o325 (P : Params) : Obj := ⟨(.type "tuple"), none, (.seq ⟨[]⟩ 0), ⟨[]⟩⟩
noncomputable def o326 (P : Params) : Obj := ⟨.none, none, (.fields ⟨[]⟩), ⟨[]⟩⟩
noncomputable def o327 (P : Params) : Obj := ⟨(.type "tuple"), none, (.seq ⟨[(.str (S "stage") 747), (.str (S "is_capture") 748), (.str (S "lesser") 749)]⟩ 0), ⟨[]⟩⟩
noncomputable def o328 (P : Params) : Obj := ⟨(.type "tuple"), none, (.seq ⟨[]⟩ 0), ⟨[]⟩⟩
noncomputable def o329 (P : Params) : Obj := ⟨.none, none, (.func (fnd (bd 62) (S "_law_kinds") 0 .none .none .none .none none .none .none 0)), ⟨[]⟩⟩
noncomputable def o330 (P : Params) : Obj := ⟨(.type "code"), none, (.fields ⟨[(.str (S "_law_kinds") 744), (.str (S "_law_kinds") 745), (.str (S "/claim/cut.py") 746), (.int (299) 0), (.int (2) 0), (.int (0) 0), (.int (0) 0), (.int (3) 0), (.ref 325), (.bool true), (.int (181) 0), (.ref 326), .none, (.ref 327), (.ref 328), (.ref 329), (.int (750) 0), (.int (299) 0), (.str (S "/claim/cut.py") 751)]⟩), ⟨[]⟩⟩
noncomputable def o331 (P : Params) : Obj := ⟨(.type "function"), none, (.func (fnd (bd 62) (S "_law_kinds") 3 .none .none .none (.str (S "law_pf0099_01") 681) none (.ref 330) .none 0)), ⟨[]⟩⟩
noncomputable def o332 (P : Params) : Obj := ⟨(.type "tuple"), none, (.seq ⟨[]⟩ 0), ⟨[]⟩⟩
noncomputable def o333 (P : Params) : Obj := ⟨.none, none, (.fields ⟨[]⟩), ⟨[]⟩⟩
noncomputable def o334 (P : Params) : Obj := ⟨.none, none, (.func (fnd (bd 63) (S "_law_moves") 0 .none .none .none .none none .none .none 0)), ⟨[]⟩⟩
noncomputable def o335 (P : Params) : Obj := ⟨(.type "code"), none, (.fields ⟨[(.str (S "_law_moves") 753), (.str (S "_law_moves") 754), (.str (S "/claim/cut.py") 755), (.int (306) 0), (.int (7) 0), (.int (0) 0), (.int (0) 0), (.int (3) 0), (.ref 332), (.bool true), (.int (181) 0), (.ref 333), .none, .none, .none, (.ref 334), (.int (756) 0), (.int (306) 0), (.str (S "/claim/cut.py") 757)]⟩), ⟨[]⟩⟩
noncomputable def o336 (P : Params) : Obj := ⟨(.type "function"), none, (.func (fnd (bd 63) (S "_law_moves") 3 .none .none .none (.str (S "law_pf0099_01") 681) none (.ref 335) .none 0)), ⟨[]⟩⟩
noncomputable def o337 (P : Params) : Obj := ⟨(.type "tuple"), none, (.seq ⟨[]⟩ 0), ⟨[]⟩⟩
noncomputable def o338 (P : Params) : Obj := ⟨.none, none, (.fields ⟨[]⟩), ⟨[]⟩⟩
noncomputable def o339 (P : Params) : Obj := ⟨.none, none, (.func (fnd (bd 64) (S "_law_position") 0 .none .none .none .none none .none .none 0)), ⟨[]⟩⟩
noncomputable def o340 (P : Params) : Obj := ⟨(.type "code"), none, (.fields ⟨[(.str (S "_law_position") 759), (.str (S "_law_position") 760), (.str (S "/claim/cut.py") 761), (.int (326) 0), (.int (4) 0), (.int (0) 0), (.int (0) 0), (.int (3) 0), (.ref 337), (.bool true), (.int (181) 0), (.ref 338), .none, .none, .none, (.ref 339), (.int (762) 0), (.int (326) 0), (.str (S "/claim/cut.py") 763)]⟩), ⟨[]⟩⟩
noncomputable def o341 (P : Params) : Obj := ⟨(.type "function"), none, (.func (fnd (bd 64) (S "_law_position") 3 .none .none .none (.str (S "law_pf0099_01") 681) none (.ref 340) .none 0)), ⟨[]⟩⟩
noncomputable def o342 (P : Params) : Obj := ⟨(.type "tuple"), none, (.seq ⟨[]⟩ 0), ⟨[]⟩⟩
noncomputable def o343 (P : Params) : Obj := ⟨.none, none, (.fields ⟨[]⟩), ⟨[]⟩⟩
noncomputable def o344 (P : Params) : Obj := ⟨.none, none, (.func (fnd (bd 65) (S "law") 0 .none .none .none .none none .none .none 0)), ⟨[]⟩⟩
noncomputable def o345 (P : Params) : Obj := ⟨(.type "code"), none, (.fields ⟨[(.str (S "law") 765), (.str (S "law") 766), (.str (S "/claim/cut.py") 767), (.int (336) 0), (.int (1) 0), (.int (0) 0), (.int (0) 0), (.int (3) 0), (.ref 342), (.bool true), (.int (181) 0), (.ref 343), .none, .none, .none, (.ref 344), (.int (768) 0), (.int (336) 0), (.str (S "/claim/cut.py") 769)]⟩), ⟨[]⟩⟩
noncomputable def o346 (P : Params) : Obj := ⟨(.type "function"), none, (.func (fnd (bd 65) (S "law") 3 .none .none .none (.str (S "law_pf0099_01") 681) none (.ref 345) .none 0)), ⟨[]⟩⟩
noncomputable def main0 (P : Params) : List DictEntry := [e P (S "__name__") 165 (.str (S "law_pf0099_01") 681), e P (S "__doc__") 166 .none, e P (S "__package__") 167 .none, e P (S "__loader__") 168 (.builtin "__main__.__loader__#opaque"), e P (S "__spec__") 169 .none, e P (S "__annotations__") 170 (.ref 6), e P (S "__builtins__") 171 (.ref 4), e P (S "__file__") 173 (.str (S "/claim/cut.py") 172), e P (S "__cached__") 174 .none, e P (S "squares_of") 197 (.ref 21), e P (S "WHITE") 201 (.int (0) 200), e P (S "BLACK") 203 (.int (1) 202), e P (S "NO_KIND") 205 (.int (0) 204), e P (S "PAWN") 207 (.int (1) 206), e P (S "KNIGHT") 209 (.int (2) 208), e P (S "BISHOP") 211 (.int (3) 210), e P (S "ROOK") 213 (.int (4) 212), e P (S "QUEEN") 215 (.int (5) 214), e P (S "EMPTY") 217 (.int (0) 216), e P (S "NORMAL") 219 (.int (0) 218), e P (S "PROMOTION") 221 (.int (1) 220), e P (S "side_of") 228 (.ref 28), e P (S "kind_of") 235 (.ref 35), e P (S "pack_move") 246 (.ref 42), e P (S "CAPTURES") 248 (.int (0) 247), e P (S "QUIETS") 250 (.int (1) 249), e P (S "NON_EVASIONS") 252 (.int (2) 251), e P (S "EVASIONS") 254 (.int (3) 253), e P (S "Position") 297 (.ref 59), e P (S "put_piece") 307 (.ref 70), e P (S "occupied") 314 (.ref 77), e P (S "pieces") 323 (.ref 84), e P (S "push_step") 333 (.ref 91), e P (S "start_mask") 341 (.ref 98), e P (S "last_mask") 349 (.ref 105), e P (S "shift_push") 358 (.ref 112), e P (S "shift_capture") 368 (.ref 119), e P (S "push_targets") 382 (.ref 126), e P (S "add_promotions") 395 (.ref 133), e P (S "add_plain_pushes") 409 (.ref 140), e P (S "add_push_promotions") 423 (.ref 147), e P (S "add_pawn_captures") 441 (.ref 154), e P (S "add_pawn_moves") 451 (.ref 161), e P (S "ChessError") 482 (.ref 178), e P (S "STEP_FILES") 496 (.ref 182), e P (S "STEP_RANKS") 508 (.ref 183), e P (S "Geometry") 553 (.ref 200), e P (S "is_growing") 560 (.ref 211), e P (S "add_masks") 571 (.ref 218), e P (S "inner_squares") 580 (.ref 225), e P (S "add_rays") 594 (.ref 232), e P (S "add_pawns") 602 (.ref 239), e P (S "add_knights") 619 (.ref 246), e P (S "add_castles") 632 (.ref 253), e P (S "make_geometry") 643 (.ref 260), e P (S "Zobrist") 680 (.ref 277), e P (S "_law_boards") 688 (.ref 288), e P (S "_law_told") 696 (.ref 295), e P (S "_law_beside") 709 (.ref 302), e P (S "_law_in_set") 715 (.ref 307), e P (S "_law_set") 721 (.ref 312), e P (S "_law_shifts_right") 727 (.ref 317), e P (S "_law_steps") 743 (.ref 324), e P (S "_law_kinds") 752 (.ref 331), e P (S "_law_moves") 758 (.ref 336), e P (S "_law_position") 764 (.ref 341), e P (S "law") 770 (.ref 346)]
noncomputable def fields12 : List Value := [(.int (2) 0), (.int (0) 0), (.ref 20), (.int (26) 0), (.int (0) 0), (.ref 27), (.int (28) 0), (.int (0) 0), (.ref 34), (.int (30) 0), (.int (0) 0), (.ref 41), (.int (40) 0), (.int (0) 0), (.ref 48), (.int (55) 0), (.int (0) 0), (.ref 69), (.int (61) 0), (.int (0) 0), (.ref 76), (.int (63) 0), (.int (0) 0), (.ref 83), (.int (66) 0), (.int (0) 0), (.ref 90), (.int (70) 0), (.int (0) 0), (.ref 97), (.int (74) 0), (.int (0) 0), (.ref 104), (.int (78) 0), (.int (0) 0), (.ref 111), (.int (82) 0), (.int (0) 0), (.ref 118), (.int (86) 0), (.int (0) 0), (.ref 125), (.int (96) 0), (.int (0) 0), (.ref 132), (.int (108) 0), (.int (0) 0), (.ref 139), (.int (116) 0), (.int (0) 0), (.ref 146), (.int (122) 0), (.int (0) 0), (.ref 153), (.int (135) 0), (.int (0) 0), (.ref 160), (.int (142) 0), (.int (0) 0), (.ref 167), (.int (150) 0), (.int (0) 0), (.ref 189), (.int (167) 0), (.int (0) 0), (.ref 210), (.int (169) 0), (.int (0) 0), (.ref 217), (.int (177) 0), (.int (0) 0), (.ref 224), (.int (188) 0), (.int (0) 0), (.ref 231), (.int (203) 0), (.int (0) 0), (.ref 238), (.int (207) 0), (.int (0) 0), (.ref 245), (.int (219) 0), (.int (0) 0), (.ref 252), (.int (236) 0), (.int (0) 0), (.ref 259), (.int (247) 0), (.int (0) 0), (.ref 266), (.int (255) 0), (.int (0) 0), (.ref 287), (.int (257) 0), (.int (0) 0), (.ref 294), (.int (261) 0), (.int (0) 0), (.ref 301), (.int (267) 0), (.int (0) 0), (.ref 306), (.int (269) 0), (.int (0) 0), (.ref 311), (.int (271) 0), (.int (0) 0), (.ref 316), (.int (289) 0), (.int (0) 0), (.ref 323), (.int (299) 0), (.int (0) 0), (.ref 330), (.int (306) 0), (.int (0) 0), (.ref 335), (.int (326) 0), (.int (0) 0), (.ref 340), (.int (336) 0), (.int (0) 0), (.ref 345)]
noncomputable def stat2 (P : Params) : List DictEntry := [e P (S "type.__subclasses__.Exception.0") 479 (.int (178) 0), e P (S "type.__subclasses__.Exception.n") 480 (.int (1) 0)]
noncomputable def rest15 (P : Params) : List Obj := [o13 P, o14 P, o15 P, o16 P, o17 P, o18 P, o19 P, o20 P, o21 P, o22 P, o23 P, o24 P, o25 P, o26 P, o27 P, o28 P, o29 P, o30 P, o31 P, o32 P, o33 P, o34 P, o35 P, o36 P, o37 P, o38 P, o39 P, o40 P, o41 P, o42 P, o43 P, o44 P, o45 P, o46 P, o47 P, o48 P, o49 P, o50 P, o51 P, o52 P, o53 P, o54 P, o55 P, o56 P, o57 P, o58 P, o59 P, o60 P, o61 P, o62 P, o63 P, o64 P, o65 P, o66 P, o67 P, o68 P, o69 P, o70 P, o71 P, o72 P, o73 P, o74 P, o75 P, o76 P, o77 P, o78 P, o79 P, o80 P, o81 P, o82 P, o83 P, o84 P, o85 P, o86 P, o87 P, o88 P, o89 P, o90 P, o91 P, o92 P, o93 P, o94 P, o95 P, o96 P, o97 P, o98 P, o99 P, o100 P, o101 P, o102 P, o103 P, o104 P, o105 P, o106 P, o107 P, o108 P, o109 P, o110 P, o111 P, o112 P, o113 P, o114 P, o115 P, o116 P, o117 P, o118 P, o119 P, o120 P, o121 P, o122 P, o123 P, o124 P, o125 P, o126 P, o127 P, o128 P, o129 P, o130 P, o131 P, o132 P, o133 P, o134 P, o135 P, o136 P, o137 P, o138 P, o139 P, o140 P, o141 P, o142 P, o143 P, o144 P, o145 P, o146 P, o147 P, o148 P, o149 P, o150 P, o151 P, o152 P, o153 P, o154 P, o155 P, o156 P, o157 P, o158 P, o159 P, o160 P, o161 P, o162 P, o163 P, o164 P, o165 P, o166 P, o167 P, o168 P, o169 P, o170 P, o171 P, o172 P, o173 P, o174 P, o175 P, o176 P, o177 P, o178 P, o179 P, o180 P, o181 P, o182 P, o183 P, o184 P, o185 P, o186 P, o187 P, o188 P, o189 P, o190 P, o191 P, o192 P, o193 P, o194 P, o195 P, o196 P, o197 P, o198 P, o199 P, o200 P, o201 P, o202 P, o203 P, o204 P, o205 P, o206 P, o207 P, o208 P, o209 P, o210 P, o211 P, o212 P, o213 P, o214 P, o215 P, o216 P, o217 P, o218 P, o219 P, o220 P, o221 P, o222 P, o223 P, o224 P, o225 P, o226 P, o227 P, o228 P, o229 P, o230 P, o231 P, o232 P, o233 P, o234 P, o235 P, o236 P, o237 P, o238 P, o239 P, o240 P, o241 P, o242 P, o243 P, o244 P, o245 P, o246 P, o247 P, o248 P, o249 P, o250 P, o251 P, o252 P, o253 P, o254 P, o255 P, o256 P, o257 P, o258 P, o259 P, o260 P, o261 P, o262 P, o263 P, o264 P, o265 P, o266 P, o267 P, o268 P, o269 P, o270 P, o271 P, o272 P, o273 P, o274 P, o275 P, o276 P, o277 P, o278 P, o279 P, o280 P, o281 P, o282 P, o283 P, o284 P, o285 P, o286 P, o287 P, o288 P, o289 P, o290 P, o291 P, o292 P, o293 P, o294 P, o295 P, o296 P, o297 P, o298 P, o299 P, o300 P, o301 P, o302 P, o303 P, o304 P, o305 P, o306 P, o307 P, o308 P, o309 P, o310 P, o311 P, o312 P, o313 P, o314 P, o315 P, o316 P, o317 P, o318 P, o319 P, o320 P, o321 P, o322 P, o323 P, o324 P, o325 P, o326 P, o327 P, o328 P, o329 P, o330 P, o331 P, o332 P, o333 P, o334 P, o335 P, o336 P, o337 P, o338 P, o339 P, o340 P, o341 P, o342 P, o343 P, o344 P, o345 P, o346 P]
noncomputable def hp (nm : Value) (n3 e3 n12 n2 n : Nat) (P : Params) : Heap :=
  ⟨⟨(boot_o_0 P :: boot_o_1 P :: ⟨.none, none, .dict ⟨(stat2 P).take n2⟩ n2, ⟨[]⟩⟩ ::
    ⟨.type "dict", none, .dict ⟨e P (S "__name__") 165 nm :: (main0 P).tail.take (n3 - 1)⟩ e3, ⟨[]⟩⟩ ::
    boot_o_4 P :: boot_o_5 P :: boot_o_6 P :: boot_o_7 P :: boot_o_8 P :: boot_o_9 P :: boot_o_10 P :: o11 P ::
    ⟨.none, none, .fields ⟨fields12.take n12⟩, ⟨[]⟩⟩ :: (rest15 P).take (n - 13))⟩, {}⟩
end Pf
end
end

section
set_option autoImplicit false
set_option maxRecDepth 100000
set_option maxHeartbeats 8000000
set_option linter.unusedVariables false
noncomputable section
namespace Pf
open PySem PySem.W PyProof.Rows PySem.Calls
noncomputable def envT : Env := { scope := pw.main.scope, locals := mainNs, globals := mainNs, cells := [], code := .ref 13, frame := some 14 }
noncomputable def bE : List Stmt := behindTheImports pw
noncomputable def cE : Code := .body bE envT
noncomputable def fr0 : List Frame := [topFrame ⟨0, 0, 0, 0⟩]
noncomputable def ann0 : Option Value := some (.ref 6)
noncomputable def ts0 (w : World) (os : OsState) : Shared := ⟨boot_heap w.params, ⟨[]⟩, boot_drawn, boot_toks, os⟩
noncomputable def tsA (w : World) (os : OsState) : Shared := { heap := hp (.str (S "__main__") 164) 9 9 0 0 15 w.params, gens := ⟨[]⟩, drawn := boot_drawn, toks := 187, os := os }
noncomputable def ts1 (w : World) (os : OsState) : Shared := { heap := hp (.str (S "chess.position") 255) 28 28 12 0 43 w.params, gens := ⟨[]⟩, drawn := boot_drawn, toks := 257, os := os }
noncomputable def ts2 (w : World) (os : OsState) : Shared := { heap := hp (.str (S "chess.position") 255) 29 29 15 0 64 w.params, gens := ⟨[]⟩, drawn := boot_drawn, toks := 298, os := os }
noncomputable def ts3 (w : World) (os : OsState) : Shared := { heap := hp (.str (S "chess.pawnmoves") 324) 36 36 36 0 113 w.params, gens := ⟨[]⟩, drawn := boot_drawn, toks := 359, os := os }
noncomputable def ts4 (w : World) (os : OsState) : Shared := { heap := hp (.str (S "chess.pawnmoves") 324) 42 42 54 0 155 w.params, gens := ⟨[]⟩, drawn := boot_drawn, toks := 442, os := os }
noncomputable def ts5 (w : World) (os : OsState) : Shared := { heap := hp (.str (S "chess.errors") 452) 43 43 57 0 162 w.params, gens := ⟨[]⟩, drawn := boot_drawn, toks := 454, os := os }
noncomputable def ts6 (w : World) (os : OsState) : Shared := { heap := hp (.str (S "chess.errors") 452) 44 44 60 2 182 w.params, gens := ⟨[]⟩, drawn := boot_drawn, toks := 483, os := os }
noncomputable def ts7 (w : World) (os : OsState) : Shared := { heap := hp (.str (S "chess.geometry") 483) 46 46 60 2 184 w.params, gens := ⟨[]⟩, drawn := boot_drawn, toks := 509, os := os }
noncomputable def ts8 (w : World) (os : OsState) : Shared := { heap := hp (.str (S "chess.geometry") 483) 47 47 63 2 205 w.params, gens := ⟨[]⟩, drawn := boot_drawn, toks := 554, os := os }
noncomputable def ts9 (w : World) (os : OsState) : Shared := { heap := hp (.str (S "chess.geometry") 483) 53 53 81 2 247 w.params, gens := ⟨[]⟩, drawn := boot_drawn, toks := 620, os := os }
noncomputable def ts10 (w : World) (os : OsState) : Shared := { heap := hp (.str (S "chess.zobrist") 644) 55 55 87 2 261 w.params, gens := ⟨[]⟩, drawn := boot_drawn, toks := 646, os := os }
noncomputable def ts11 (w : World) (os : OsState) : Shared := { heap := hp (.str (S "chess.zobrist") 644) 56 56 90 2 282 w.params, gens := ⟨[]⟩, drawn := boot_drawn, toks := 681, os := os }
noncomputable def ts12 (w : World) (os : OsState) : Shared := { heap := hp (.str (S "law_pf0099_01") 681) 61 61 105 2 313 w.params, gens := ⟨[]⟩, drawn := boot_drawn, toks := 722, os := os }
noncomputable def ts13 (w : World) (os : OsState) : Shared := { heap := hp (.str (S "law_pf0099_01") 681) 67 67 123 2 347 w.params, gens := ⟨[]⟩, drawn := boot_drawn, toks := 771, os := os }
theorem seg_fast {w : World} {n : Nat} {s : Shared} {l : List Stmt} {c : Code} {p : Pos} {B : List Frame} {r : Option (Flow × Shared × Code × Pos)}
    (h : Fast.tw14374325043358763698 Fast.tw14364793385576792824 pw w 11 ann0 1 n s ⟨(Fast.tw12563942051412417395 l envT).wrap doneF deadEnd id id, c, p, B⟩ = r) : segRun treeTable pw w 11 ann0 1 n s (piecesOf l envT c p B) = r := by
  rw [← Fast.te14374325043358763698, ← Fast.te14364793385576792824, ← Fast.te12563942051412417395] at h
  exact h
theorem runA (w : World) (os : OsState) : topGo treeTable pw w 11 ann0 12 (ts0 w os) (topStub pw) = some (tsA w os, ⟨denote treeTable cE, cE, ⟨0, 0, 0, 0⟩, fr0⟩) := by kernel_rfl
theorem runB (w : World) (os : OsState) : segRun treeTable pw w 11 ann0 1 1 (tsA w os) (blockOf bE envT cE ⟨0, 0, 0, 0⟩ fr0) = some (.next, tsA w os, cE, ⟨0, 0, 0, 0⟩) := by kernel_rfl
theorem run1 (w : World) (os : OsState) : segRun treeTable pw w 11 ann0 1 285 (tsA w os) (piecesOf ((bE.drop 0).take 22) envT cE ⟨0, 0, 0, 0⟩ fr0) = some (.next, ts1 w os, cE, ⟨39, 0, 39, 8⟩) := by
  refine seg_fast ?_
  kernel_rfl
theorem run2 (w : World) (os : OsState) : segRun treeTable pw w 11 ann0 1 235 (ts1 w os) (piecesOf ((bE.drop 22).take 1) envT cE ⟨39, 0, 39, 8⟩ fr0) = some (.next, ts2 w os, cE, ⟨40, 0, 54, 25⟩) := by
  refine seg_fast ?_
  kernel_rfl
theorem run3 (w : World) (os : OsState) : segRun treeTable pw w 11 ann0 1 223 (ts2 w os) (piecesOf ((bE.drop 23).take 8) envT cE ⟨40, 0, 54, 25⟩ fr0) = some (.next, ts3 w os, cE, ⟨78, 0, 81, 25⟩) := by
  refine seg_fast ?_
  kernel_rfl
theorem run4 (w : World) (os : OsState) : segRun treeTable pw w 11 ann0 1 216 (ts3 w os) (piecesOf ((bE.drop 31).take 6) envT cE ⟨78, 0, 81, 25⟩ fr0) = some (.next, ts4 w os, cE, ⟨122, 0, 134, 73⟩) := by
  refine seg_fast ?_
  kernel_rfl
theorem run5 (w : World) (os : OsState) : segRun treeTable pw w 11 ann0 1 42 (ts4 w os) (piecesOf ((bE.drop 37).take 2) envT cE ⟨122, 0, 134, 73⟩ fr0) = some (.next, ts5 w os, cE, ⟨141, 0, 141, 8⟩) := by
  refine seg_fast ?_
  kernel_rfl
theorem run6 (w : World) (os : OsState) : segRun treeTable pw w 11 ann0 1 229 (ts5 w os) (piecesOf ((bE.drop 39).take 1) envT cE ⟨141, 0, 141, 8⟩ fr0) = some (.next, ts6 w os, cE, ⟨142, 0, 146, 24⟩) := by
  refine seg_fast ?_
  kernel_rfl
theorem run7 (w : World) (os : OsState) : segRun treeTable pw w 11 ann0 1 76 (ts6 w os) (piecesOf ((bE.drop 40).take 3) envT cE ⟨142, 0, 146, 24⟩ fr0) = some (.next, ts7 w os, cE, ⟨149, 0, 149, 10⟩) := by
  refine seg_fast ?_
  kernel_rfl
theorem run8 (w : World) (os : OsState) : segRun treeTable pw w 11 ann0 1 239 (ts7 w os) (piecesOf ((bE.drop 43).take 1) envT cE ⟨149, 0, 149, 10⟩ fr0) = some (.next, ts8 w os, cE, ⟨150, 0, 166, 29⟩) := by
  refine seg_fast ?_
  kernel_rfl
theorem run9 (w : World) (os : OsState) : segRun treeTable pw w 11 ann0 1 199 (ts8 w os) (piecesOf ((bE.drop 44).take 6) envT cE ⟨150, 0, 166, 29⟩ fr0) = some (.next, ts9 w os, cE, ⟨207, 0, 218, 43⟩) := by
  refine seg_fast ?_
  kernel_rfl
theorem run10 (w : World) (os : OsState) : segRun treeTable pw w 11 ann0 1 78 (ts9 w os) (piecesOf ((bE.drop 50).take 3) envT cE ⟨207, 0, 218, 43⟩ fr0) = some (.next, ts10 w os, cE, ⟨246, 0, 246, 8⟩) := by
  refine seg_fast ?_
  kernel_rfl
theorem run11 (w : World) (os : OsState) : segRun treeTable pw w 11 ann0 1 229 (ts10 w os) (piecesOf ((bE.drop 53).take 1) envT cE ⟨246, 0, 246, 8⟩ fr0) = some (.next, ts11 w os, cE, ⟨247, 0, 253, 24⟩) := by
  refine seg_fast ?_
  kernel_rfl
theorem run12 (w : World) (os : OsState) : segRun treeTable pw w 11 ann0 1 155 (ts11 w os) (piecesOf ((bE.drop 54).take 6) envT cE ⟨247, 0, 253, 24⟩ fr0) = some (.next, ts12 w os, cE, ⟨269, 0, 270, 58⟩) := by
  refine seg_fast ?_
  kernel_rfl
theorem run13 (w : World) (os : OsState) : segRun treeTable pw w 11 ann0 1 174 (ts12 w os) (piecesOf ((bE.drop 60).take 6) envT cE ⟨269, 0, 270, 58⟩ fr0) = some (.next, ts13 w os, cE, ⟨336, 0, 358, 15⟩) := by
  refine seg_fast ?_
  kernel_rfl
theorem runF (w : World) (os : OsState) : topRun treeTable pw w 11 ann0 2 (ts13 w os) (restOf [] envT cE ⟨336, 0, 358, 15⟩ fr0) = some (ts13 w os) := by kernel_rfl
theorem dropTake (l : List Stmt) (a n : Nat) : l.drop a = (l.drop a).take n ++ l.drop (a + n) := by
  rw [← List.drop_drop, List.take_append_drop]
theorem runAll (w : World) (os : OsState) : topRun treeTable pw w 11 ann0 2395 (ts0 w os) (topStub pw) = some (ts13 w os) := by
  refine go_top (n := 12) (N := 2383) (runA w os) ?_
  refine piece_block (n := 1) (N := 2382) (runB w os) ?_
  rw [show restOf bE envT cE ⟨0, 0, 0, 0⟩ [topFrame ⟨0, 0, 0, 0⟩] = restOf ((bE.drop 0).take 22 ++ bE.drop 22) envT cE ⟨0, 0, 0, 0⟩ fr0 from congrArg (fun l => restOf l envT cE ⟨0, 0, 0, 0⟩ fr0) (dropTake bE 0 22)]
  refine piece_app (n := 285) (N := 2097) (run1 w os) ?_
  rw [show (bE.drop 22) = (bE.drop 22).take 1 ++ bE.drop 23 from dropTake bE 22 1]
  refine piece_app (n := 235) (N := 1862) (run2 w os) ?_
  rw [show (bE.drop 23) = (bE.drop 23).take 8 ++ bE.drop 31 from dropTake bE 23 8]
  refine piece_app (n := 223) (N := 1639) (run3 w os) ?_
  rw [show (bE.drop 31) = (bE.drop 31).take 6 ++ bE.drop 37 from dropTake bE 31 6]
  refine piece_app (n := 216) (N := 1423) (run4 w os) ?_
  rw [show (bE.drop 37) = (bE.drop 37).take 2 ++ bE.drop 39 from dropTake bE 37 2]
  refine piece_app (n := 42) (N := 1381) (run5 w os) ?_
  rw [show (bE.drop 39) = (bE.drop 39).take 1 ++ bE.drop 40 from dropTake bE 39 1]
  refine piece_app (n := 229) (N := 1152) (run6 w os) ?_
  rw [show (bE.drop 40) = (bE.drop 40).take 3 ++ bE.drop 43 from dropTake bE 40 3]
  refine piece_app (n := 76) (N := 1076) (run7 w os) ?_
  rw [show (bE.drop 43) = (bE.drop 43).take 1 ++ bE.drop 44 from dropTake bE 43 1]
  refine piece_app (n := 239) (N := 837) (run8 w os) ?_
  rw [show (bE.drop 44) = (bE.drop 44).take 6 ++ bE.drop 50 from dropTake bE 44 6]
  refine piece_app (n := 199) (N := 638) (run9 w os) ?_
  rw [show (bE.drop 50) = (bE.drop 50).take 3 ++ bE.drop 53 from dropTake bE 50 3]
  refine piece_app (n := 78) (N := 560) (run10 w os) ?_
  rw [show (bE.drop 53) = (bE.drop 53).take 1 ++ bE.drop 54 from dropTake bE 53 1]
  refine piece_app (n := 229) (N := 331) (run11 w os) ?_
  rw [show (bE.drop 54) = (bE.drop 54).take 6 ++ bE.drop 60 from dropTake bE 54 6]
  refine piece_app (n := 155) (N := 176) (run12 w os) ?_
  rw [show (bE.drop 60) = (bE.drop 60).take 6 ++ bE.drop 66 from dropTake bE 60 6]
  refine piece_app (n := 174) (N := 2) (run13 w os) ?_
  rw [show bE.drop 66 = [] from by kernel_rfl]
  exact runF w os
end Pf
end
end

section
set_option autoImplicit false
set_option maxRecDepth 100000
set_option maxHeartbeats 8000000
set_option linter.unusedVariables false
noncomputable section
namespace Pf
open PySem PySem.W PyProof.Rows PySem.Calls
noncomputable def keepSt : Stmt → Bool
  | .Assign [.Name x _] _ _ => x != ("__name__" : Str)
  | _ => true
noncomputable def view : Program := { pw with main := { pw.main with body := pw.main.body.filter keepSt } }
noncomputable def hEnd (P : Params) : Heap := hp (.str (S "law_pf0099_01") 681) 67 67 123 2 347 P
noncomputable def sEnd (w : World) (os : OsState) : Shared := ⟨hEnd w.params, ⟨[]⟩, boot_drawn, 771, os⟩
noncomputable def xt (s : Shared) : Bool := xlAt view [] s && recOk (RowW.records PySem.Challenge.rw_pf0099_01.row.toRowW) s
theorem opn : ∀ w : World, (fencedOpening treeTable pw w 4860).map (fun s => (s.heap, s.gens, s.drawn, s.toks)) = some (boot_heap w.params, Array.mk [], boot_drawn, boot_toks) :=
  boot_open (by kernel_rfl) (by decide +kernel) (fun s => by kernel_rfl)
theorem szs : ∀ w : World, ((boot_heap w.params).isNs mainGlobals && (⟨[]⟩ : Array GenState).size == 0, (boot_heap w.params).objs.size, (boot_heap w.params).nsMap mainGlobals "__annotations__") = (true, 11, ann0) := fun w => by kernel_rfl
theorem lkA (w : World) (os : OsState) : (staticsOk (importedModules pw.main.body) (boot_heap w.params) (hEnd w.params) && namesBound pw (hEnd w.params) && gensDone (sEnd w os) && laidKept (boot_heap w.params) (hEnd w.params)) = true := by kernel_rfl
theorem lkB (w : World) (os : OsState) : openSeen view [] (importedModules pw.main.body) xt true (sEnd w os) = openGood view [] := by kernel_rfl
theorem lkC (P : Params) : cxChk (fragAll (hEnd P)) = true := by kernel_rfl
end Pf
end
end

section
set_option autoImplicit false
set_option maxRecDepth 100000
set_option maxHeartbeats 8000000
set_option linter.unusedVariables false
noncomputable section
namespace Pf
open PySem PySem.W PyProof.Rows PySem.Calls
theorem lkF0 (P : Params) : ([0,1,2,3,4,5,6,7].all fun f => fnChk (fragAll (hEnd P)) f) = true := by kernel_rfl
theorem lkF1 (P : Params) : ([8,9,10,11,12,13,14,15].all fun f => fnChk (fragAll (hEnd P)) f) = true := by kernel_rfl
theorem lkF2 (P : Params) : ([16,17,18,19,20,21,22,23].all fun f => fnChk (fragAll (hEnd P)) f) = true := by kernel_rfl
theorem lkF3 (P : Params) : ([24,25,26,27,28,29,30,31].all fun f => fnChk (fragAll (hEnd P)) f) = true := by kernel_rfl
theorem lkF4 (P : Params) : ([32,33,34,35,36,37,38,39].all fun f => fnChk (fragAll (hEnd P)) f) = true := by kernel_rfl
end Pf
end
end

section
set_option autoImplicit false
set_option maxRecDepth 100000
set_option maxHeartbeats 8000000
set_option linter.unusedVariables false
noncomputable section
namespace Pf
open PySem PySem.W PyProof.Rows PySem.Calls
theorem allF (P : Params) : ((List.range 40).all fun f => fnChk (fragAll (hEnd P)) f) = true := by
  have e : List.range 40 = [0,1,2,3,4,5,6,7] ++ ([8,9,10,11,12,13,14,15] ++ ([16,17,18,19,20,21,22,23] ++ ([24,25,26,27,28,29,30,31] ++ [32,33,34,35,36,37,38,39]))) := by decide +kernel
  rw [e, List.all_append, List.all_append, List.all_append, List.all_append, lkF0, lkF1, lkF2, lkF3, lkF4]
  rfl
theorem allC (P : Params) : allChk (fragAll (hEnd P)) = true := by
  unfold allChk
  rw [lkC, allF]; rfl
theorem obsEnd (w : World) (s : Shared) (h : s.heap = hEnd w.params) : Hook.obs H s = Hook.val H w := by
  show allChk (fragAll s.heap) = true
  rw [h]
  exact allC w.params
theorem looks (w : World) : (fun os => ((staticsOk (importedModules pw.main.body) (boot_heap w.params) (hEnd w.params) && namesBound pw (hEnd w.params) && gensDone ⟨hEnd w.params, ⟨[]⟩, boot_drawn, 771, os⟩ && laidKept (boot_heap w.params) (hEnd w.params)),
        openSeen view [] (importedModules pw.main.body) xt true ⟨hEnd w.params, ⟨[]⟩, boot_drawn, 771, os⟩, Hook.obs H ⟨hEnd w.params, ⟨[]⟩, boot_drawn, 771, os⟩)) = fun _ => (true, openGood view [], Hook.val H w) := by
  funext os
  have a := lkA w os
  have b := lkB w os
  have c := obsEnd w ⟨hEnd w.params, ⟨[]⟩, boot_drawn, 771, os⟩ rfl
  unfold sEnd at a b
  rw [a, b, c]
theorem left : LeftO pw view [] xt (Hook.obs H) (Hook.val H) 4860 :=
  LeftO.of_pieces (H₀ := boot_heap) (H₁ := hEnd) (gs₀ := ⟨[]⟩) (gs₁ := ⟨[]⟩) (d₀ := boot_drawn) (d₁ := boot_drawn) (k₀ := boot_toks) (k₁ := 771) (m₀ := 11) (ann := ann0) (M := 2395) opn szs runAll (by decide +kernel) looks
end Pf
end
end

set_option autoImplicit false
set_option maxRecDepth 100000
set_option maxHeartbeats 8000000
namespace Pf
open PySem PySem.W PyProof.Rows PySem.Calls
theorem wsd : PySem.Challenge.rw_pf0099_01.wellSaid = true := by
  rw [Fast.te9446332074065402090]
  kernel_rfl
theorem run_law {prog : Program} {w : World} {K : Frag} {mg mb : Str → Option Value} {s₁ : Shared} (X : Cx K s₁.heap mg mb) (hF : ∀ f fn, P f = some fn → FnOk K f fn) {l : Addr} {vs : List Value} {ns : List Int} {R : Result → Shared → Prop}
    (hL : s₁.heap.IsList l vs.toArray) (hI : IntsAre vs ns) (hlen : ¬ (63 : Int) < ns.length)
    (h : ∀ h' t', (∀ b o, s₁.heap.get? b = some o → h'.get? b = some o) → R (.ok (.ret (.bool true))) { s₁ with heap := h', toks := t' }) :
    codeAny (model prog w) callerA (.call (.ref 346) ⟨[.ref l], []⟩) R s₁ := by
  refine call_ok X hF 9 39 _ _ _ (law_true l ns (by omega)) callerA s₁ _ _ ⟨rfl, by decide, by decide⟩ ⟨fun _ _ e => e, fun _ q => absurd rfl q, fun _ _ e => nomatch e⟩ ⟨⟨rfl, vs, hI, hL⟩, trivial⟩ fun v val σ' h' t' G' S' rv q => ?_
  subst q
  obtain rfl : val = .bool true := rv
  exact h h' t' fun b o e => G'.keep b o e
theorem good_true {c : ClaimW} {cl : Str → Option Addr} {mean : ExcName → Option Value} {args : List WData} {s₁ : Shared} {h' : Heap} {t' : Nat} (hg : s₁.gens = #[]) (hk : ∀ b o, s₁.heap.get? b = some o → h'.get? b = some o)
    (hn : ∀ cls, c.raises args cls = false) (hp : c.post args (.bool true) args = true) : GoodW c cl mean args s₁ (.ok (.ret (.bool true))) { s₁ with heap := h', toks := t' } :=
  ⟨.inl ⟨_, _, [], rfl, hn, .bool true, hp, fun _ => ⟨List.nodup_nil, fun _ q => nomatch q⟩⟩, hk, rfl, hg⟩
end Pf
open PySem PySem.W PyProof.Rows PySem.Calls
theorem PySem.Challenge.cw_pf0099_01_holds : PySem.Challenge.rw_pf0099_01.Holds := by
  w_on
  refine holds_law Pf.wsd fun said => ?_
  refine holds_open (q := Pf.view) (loose := []) (Xt := Pf.xt) (XP := XL Pf.view []) (Yf := Hook.obs Pf.H) (Ya := Hook.val Pf.H) (YP := Hook.says Pf.H) (N := 4860) Pf.left (Hook.of Pf.H) (Hook.keeps Pf.H) (fun s e => xl_of s (Bool.and_eq_true_iff.mp e).1) XL.keeps (by rfl) (by rfl) (by rfl) (fun s e => recFacts_of (Bool.and_eq_true_iff.mp e).2) (by rfl) (by first | assumption | decide +kernel) (by decide +kernel) ⟨rfl, rfl, rfl, rfl, rfl, by decide +kernel⟩ ?hw ?hc
  case hw => w_witness2
  case hc =>
      intro w s₀ s₁ mg mb G Y fa o pm cd doc dV kV ho hd hcd hD hmg hg args vals as hpre hlay hrd hwl hlo
      obtain ⟨K, KX, KS⟩ := Y
      have X := (Ground.X G).1
      have V := (Ground.X G).2
      refine Ground.open G ?_
      intro T B D TE TW
      try (refine guard_noD D (by decide +kernel) ?_; clear D)
      have CX := Pf.cx_of KX T KS.1
      have hfa : fa = 346 := by
        have e1 := CX.fn 39 (by decide) (by decide) (by decide) (by decide)
        have e2 : mg (Pf.fname 39) = some (.ref fa) := hmg
        rw [e1] at e2; cases e2; rfl
      wrow_args hpre hlay hrd hwl hlo
      all_goals (
        first | refine callC_kw (enter_call ?_) | refine enter_call ?_ | refine callC_kw (enter_callW ?_) | refine enter_callW ?_ | w_how
        w_top on
        try refine codeAny_mono ?_ (fun _ _ g => GoodW.toG g))
      subst hfa
      refine Pf.run_law CX KS.2 (by assumption) (by assumption) (by assumption) fun h' t' hk => ?_
      refine Pf.good_true hg hk (fun _ => rfl) ?_
      first | kernel_rfl | (show (_ && _) = true; simp; done) | trace_state
