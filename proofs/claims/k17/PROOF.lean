import PyProof.Rows.All
import Wide.All
import OpenK.AllK
import Wide.FinOn
import HandS.ForMost
import HandS.Wide
import HandS.IsInst
import HandS.TupAny
import HandS.TupMul
import HandS.Iter
import PyProof.InstNe
import HandS.OwnEq
import HandS.Comp
import HandS.Flow
import HandS.Star
import HandS.Property
import HandS.MakeKw
import HandS.MakeKwOnly
import KE.KEqDeep
import HandS.RaiseMore
import PyProof.CallFns
import HandS.Style
import HandS.Defaults
import HandS.Codes
import HandS.Head0
import HandS.Head1
import HandS.Head2
import HandS.HeadEnd
import HandS.HeadHook1
import HandS.HeadHook2
import PySem.Challenge.RW_lanebanks_k17_rules_in_their_normal_form
set_option Elab.async false
set_option linter.all false
set_option maxRecDepth 100000
/-! MP1: abstract values, the mini syntax, its semantics as predicate transformers. -/
namespace MP
open PySem
/-- abstract values; refs point into the abstract heap, all else is a value for ever -/
inductive AV where
  | non | bl (b : Bool) | int (i : Int) | str (x : Str)
  | tup (xs : List AV) | lst (xs : List AV) | dct (ks vs : List AV) | obj (c : Nat) (ns : List Nat) (vs : List AV)
  | slst (xs : List Int) | ref (n : Nat) | fn (k : Nat) | cls (c : Nat) | ty (t : String)
  deriving Inhabited
/-- abstract objects -/
inductive AO where
  | dead | lst (xs : List AV) | dct (ks vs : List AV) | ins (c : Nat) (ns : List Nat) (vs : List AV)
  deriving Inhabited
abbrev HS := List AO
abbrev Sg := List (Option AV)
/-- built-in functions -/
inductive BI where
  | len | int | abs | list | tuple | all | any | repr | max2 | min2
  deriving DecidableEq
/-! ### the mini syntax -/
mutual
inductive ME where
  | c (v : AV) | var (i : Nat) | glo (x : Str) (v : AV)
  | bin (op : Operator) (a b : ME) | un (op : UnaryOp) (a : ME) | bop (op : BoolOp) (a r : ME)
  | cmp (op : CmpOp) (a b : ME) | chain (op op' : CmpOp) (a b c : ME) | ite (t a b : ME)
  | tup (es : MEs) | lst (z : Bool) (es : MEs) | sub (a i : ME) | slc (a : ME) (lo hi : MEs)
  | att (a : ME) (f : Nat) | call (k : Nat) (es : MEs) | new (c : Nat) (es : MEs) | meth (a : ME) (m : Nat) (es : MEs)
  | newk (c : Nat) (es : MEs) (ks : List Nat) (kes : MEs) | callk (k : Nat) (es : MEs) (ks : List Nat) (kes : MEs)
  | bi (f : BI) (es : MEs) | isi (a : ME) (cs : List AV)
  | lc (elt : ME) (g : MG) (it : MI) (ifs : MEs) (own : List Nat)
  | never
inductive MEs where
  | nil | cons (e : ME) (r : MEs) | star (e : ME) (r : MEs)
inductive MI where
  | e (a : ME) | range1 (a : ME) | range2 (a b : ME) | range3 (a b c : ME) | enum (a : ME) | zip (a b : ME)
inductive MG where
  | nm (i : Nat) | tup (gs : MGs) | sub (o i : ME) | att (o : ME) (f : Nat)
inductive MGs where
  | nil | cons (g : MG) (r : MGs)
end
mutual
inductive MS where
  | asg (g : MG) (e : ME) | par2 (i j : Nat) (a b : ME) | par3 (i j k : Nat) (a b c : ME)
  | setlc (i : Nat) (elt : ME) (g : MG) (it : MI) (ifs : MEs) (own : List Nat)
  | aug (i : Nat) (op : Operator) (e : ME) | ex (e : ME) | app (o e : ME) | ret (e : ME) | retN
  | iff (t : ME) (a b : MSs) | for_ (g : MG) (it : MI) (body : MSs) | while_ (t : ME) (body : MSs)
  | pass | brk | cont | never
inductive MSs where
  | nil | cons (s : MS) (r : MSs)
end
def MGs.len : MGs → Nat
  | .nil => 0
  | .cons _ r => r.len + 1
structure MDef where
  nm : Str
  qual : Str
  /-- slots: parameters first -/
  N : List Str
  np : Nat
  /-- how deep what is returned is frozen; 0: nothing is -/
  z : Nat
  body : MSs
structure MCls where
  nm : Str
  init : Option Nat
  /-- methods, properties: name, def -/
  meths : List (Nat × Nat)
  props : List (Nat × Nat)
  eq : Option Nat
  flds : List Nat
  /-- itself and all above it -/
  sup : List Nat
  /-- its instances are frozen when made -/
  frz : Bool
structure Prog where
  names : List Str
  defs : List MDef
  classes : List MCls
/-! ### values -/
def vw (S : HS) : AV → AV
  | .ref n => match S[n]? with
    | some (.lst xs) => .lst xs
    | some (.dct ks vs) => .dct ks vs
    | some (.ins c ns vs) => .obj c ns vs
    | _ => .ref n
  | v => v
def truth (S : HS) (v : AV) : Option Bool := match vw S v with
  | .non => some false
  | .bl b => some b
  | .int i => some (i != 0)
  | .tup xs => some (!xs.isEmpty)
  | .lst xs => some (!xs.isEmpty)
  | _ => none
mutual
def NoRef (k : Nat) : AV → Prop
  | .ref n => n < k
  | .tup xs => NoRefs k xs
  | .lst xs => NoRefs k xs
  | .dct ks vs => NoRefs k ks ∧ NoRefs k vs
  | .obj _ _ vs => NoRefs k vs
  | _ => True
def NoRefs (k : Nat) : List AV → Prop
  | [] => True
  | v :: vs => NoRef k v ∧ NoRefs k vs
end
def NoRefO (k : Nat) : AO → Prop
  | .dead => True
  | .lst xs => NoRefs k xs
  | .dct ks vs => NoRefs k ks ∧ NoRefs k vs
  | .ins _ _ vs => NoRefs k vs
def frz (S : HS) (k : Nat) : Nat → AV → AV
  | 0, v => v
  | z + 1, v => match v with
    | .ref n => if n < k then .ref n else match S[n]? with
      | some (.lst xs) => .lst (xs.map (frz S k z))
      | some (.dct ks vs) => .dct ks (vs.map (frz S k z))
      | some (.ins c ns vs) => .obj c ns (vs.map (frz S k z))
      | _ => .ref n
    | .tup xs => .tup (xs.map (frz S k z))
    | .lst xs => .lst (xs.map (frz S k z))
    | v => v
/-- what stood ahead of the call bears nothing of what is let go -/
def TakeOk (S0 S1 : HS) : Prop := ∀ n o, S1[n]? = some o → n < S0.length → S0[n]? = some o ∨ NoRefO S0.length o
def retF (z : Nat) (S0 : HS) (Q : AV → HS → Prop) (v : AV) (S1 : HS) : Prop := match z with
  | 0 => Q v S1
  | z + 1 => TakeOk S0 S1 ∧ NoRef S0.length (frz S1 S0.length (z + 1) v) ∧ Q (frz S1 S0.length (z + 1) v) (S1.take S0.length)
/-- a written field: behind the others, or in its place -/
def fset (f : Nat) (v : AV) : List Nat → List AV → List Nat × List AV
  | n :: ns, w :: ws => if f = n then (n :: ns, v :: ws) else let r := fset f v ns ws; (n :: r.1, w :: r.2)
  | _, _ => ([f], [v])
def fget (f : Nat) : List Nat → List AV → Option AV
  | n :: ns, v :: vs => if f = n then some v else fget f ns vs
  | _, _ => none
/-! ### operators -/
def LINE : Nat := 16777216
def wAdd (x y : AV) (Q : AV → Prop) : Prop := match x, y with
  | .int i, .int j => Q (.int (i + j))
  | .lst a, .lst b => a.length + b.length ≤ LINE ∧ Q (.lst (a ++ b))
  | .tup a, .tup b => a.length + b.length ≤ LINE ∧ Q (.tup (a ++ b))
  | .str a, .str b => a.length + b.length ≤ LINE ∧ Q (.str (a ++ b))
  | _, _ => False
def wMul (x y : AV) (Q : AV → Prop) : Prop := match x, y with
  | .int i, .int j => L2.CMul i j ∧ Q (.int (i * j))
  | .lst a, .int k => (0 ≤ k ∧ k < 2 ^ 63 ∧ a.length * k.toNat ≤ LINE) ∧ Q (.lst (List.replicate k.toNat a).flatten)
  | .tup a, .int k => (a ≠ [] ∧ 1 ≤ k ∧ k ≤ 1000 ∧ a.length ≤ 1000) ∧ Q (.tup (List.replicate k.toNat a).flatten)
  | _, _ => False
/-- two intsA -/
def w2I (x y : AV) (f : Int → Int → Prop) : Prop := match x, y with
  | .int i, .int j => f i j
  | _, _ => False
def wBin (op : Operator) (x y : AV) (Q : AV → Prop) : Prop := match op with
  | .Add => wAdd x y Q
  | .Mult => wMul x y Q
  | .Sub => w2I x y fun i j => Q (.int (i - j))
  | .FloorDiv => w2I x y fun i j => L2.CDivW i j ∧ Q (.int (i / j))
  | .Mod => w2I x y fun i j => 0 < j ∧ Q (.int (i % j))
  | .Pow => w2I x y fun i j => L2.CPow i j ∧ Q (.int (i ^ j.toNat))
  | .LShift => w2I x y fun i j => L2.CPow i j ∧ Q (.int (i * 2 ^ j.toNat))
  | .RShift => w2I x y fun i j => 0 ≤ j ∧ Q (.int (i / 2 ^ j.toNat))
  | .BitAnd => w2I x y fun i j => Q (.int (Builtin.bitAnd i j))
  | .BitOr => w2I x y fun i j => Q (.int (Builtin.bitOr i j))
  | .BitXor => w2I x y fun i j => Q (.int (Builtin.bitXor i j))
  | _ => False
def wUn (op : UnaryOp) (S : HS) (x : AV) (Q : AV → Prop) : Prop := match op with
  | .USub => (match x with
    | .int i => Q (.int (-i))
    | _ => False)
  | .Invert => (match x with
    | .int i => Q (.int (Builtin.bitNot i))
    | _ => False)
  | .Not => (match truth S x with
    | some k => Q (.bl (!k))
    | none => False)
  | .UAdd => False
/-! ### data -/
mutual
def toPD : AV → Option PyData
  | .non => some .none
  | .bl b => some (.bool b)
  | .int i => some (.int i)
  | .str x => some (.str x)
  | .tup xs => (toPDs xs).map .tuple
  | .lst xs => (toPDs xs).map .list
  | _ => none
def toPDs : List AV → Option (List PyData)
  | [] => some []
  | v :: vs => match toPD v, toPDs vs with
    | some d, some ds => some (d :: ds)
    | _, _ => none
end
def wEqD (x y : AV) (Q : Bool → Prop) : Prop := match toPD x, toPD y with
  | some d, some e => SeqAt.shaped d = true ∧ SeqAt.shaped e = true ∧ Q (PyData.eqv d e)
  | _, _ => False
abbrev CallW := Nat → List AV → HS → (AV → HS → Prop) → Prop
section
variable (P : Prog) (cl : CallW)
def Prog.cl? (c : Nat) : MCls := P.classes.getD c ⟨Str.empty, none, [], [], none, [], [], false⟩
/-- the built-in type of a value; an own class is none here -/
def tyN : AV → Option String
  | .non => some "NoneType"
  | .bl _ => some "bool"
  | .int _ => some "int"
  | .str _ => some "str"
  | .tup _ => some "tuple"
  | .lst _ => some "list"
  | .dct _ _ => some "dict"
  | _ => none
/-- the type is known -/
def known (x : AV) : Bool := match x with
  | .obj k _ _ => decide (k < P.classes.length)
  | x => (tyN x).isSome
/-- == of what has an own __eq__, of data -/
def wEq (x y : AV) (S : HS) (Q : Bool → HS → Prop) : Prop := match vw S x with
  | .obj c _ _ => (match (P.cl? c).eq with
    | some k => known P (vw S y) = true ∧ cl k [x, y] S fun v S1 => match v with
      | .bl b => Q b S1
      | _ => False
    | none => False)
  | x' => wEqD x' (vw S y) fun b => Q b S
def flat : AV → Bool
  | .non => true
  | .bl _ => true
  | .int _ => true
  | .str _ => true
  | _ => false
def eqF : AV → AV → Bool
  | .non, .non => true
  | .bl a, .bl b => a == b
  | .bl a, .int b => (if a then 1 else 0) == b
  | .int a, .bl b => a == (if b then 1 else 0)
  | .int a, .int b => a == b
  | .str a, .str b => a == b
  | _, _ => false
def wIn (x y : AV) (Q : Bool → Prop) : Prop := match y with
  | .tup ys => (flat x = true ∧ ys.all flat = true) ∧ Q (ys.any fun z => eqF z x)
  | .lst ys => (flat x = true ∧ ys.all flat = true) ∧ Q (ys.any fun z => eqF z x)
  | _ => False
def isNon : AV → Bool
  | .non => true
  | _ => false
def wCmp (op : CmpOp) (x y : AV) (S : HS) (Q : Bool → HS → Prop) : Prop := match op with
  | .Lt => w2I x y fun i j => Q (decide (i < j)) S
  | .LtE => w2I x y fun i j => Q (decide (i ≤ j)) S
  | .Gt => w2I x y fun i j => Q (decide (j < i)) S
  | .GtE => w2I x y fun i j => Q (decide (j ≤ i)) S
  | .Eq => wEq P cl x y S Q
  | .NotEq => wEq P cl x y S fun b S1 => Q (!b) S1
  | .Is => (match y with
    | .non => Q (isNon x) S
    | _ => False)
  | .IsNot => (match y with
    | .non => Q (!isNon x) S
    | _ => False)
  | .In => wIn x (vw S y) fun b => Q b S
  | .NotIn => wIn x (vw S y) fun b => Q (!b) S
def wSub (x i : AV) (Q : AV → Prop) : Prop := match x, i with
  | .tup xs, .int i => (match L2.atI xs i with
    | some v => Q v
    | none => False)
  | .lst xs, .int i => (match L2.atI xs i with
    | some v => Q v
    | none => False)
  | _, _ => False
def part : List AV → Option (Option Int)
  | [] => some none
  | [.int i] => some (some i)
  | _ => none
def cutA (xs : List AV) (lo hi : Option Int) : List AV := (xs.drop (HT.sIx xs.length 0 lo)).take (HT.sIx xs.length xs.length hi - HT.sIx xs.length 0 lo)
def wPart (l : List AV) (K : Option Int → Prop) : Prop := match part l with
  | some o => K o
  | none => False
def wSlc (x : AV) (l h : Option Int) (Q : AV → Prop) : Prop := match x with
  | .tup xs => Q (.tup (cutA xs l h))
  | .lst xs => Q (.lst (cutA xs l h))
  | .slst ns => Q (.lst (cutA (ns.map .int) l h))
  | _ => False
def wAtt (x : AV) (f : Nat) (S : HS) (Q : AV → HS → Prop) : Prop := match vw S x with
  | .obj c ns vs => (match fget f ns vs with
    | some v => f ∈ (P.cl? c).flds ∧ Q v S
    | none => (match (P.cl? c).props.lookup f with
      | some k => cl k [x] S Q
      | none => False))
  | _ => False
def wNew (c : Nat) (vs : List AV) (S : HS) (Q : AV → HS → Prop) : Prop := match (P.cl? c).init with
  | some k => cl k (.ref S.length :: vs) (S ++ [.ins c [] []]) fun r S1 => match r with
    | .non => (if (P.cl? c).frz = true then (match S1[S.length]? with
        | some (.ins c' ns ws) => c' = c ∧ S1.length = S.length + 1 ∧ TakeOk S S1 ∧ NoRefs S.length ws ∧ Q (.obj c ns ws) (S1.take S.length)
        | _ => False)
      else Q (.ref S.length) S1)
    | _ => False
  | none => False
/-- the def that a method's name stands for -/
def wMeth (x : AV) (m : Nat) (S : HS) (K : Nat → Prop) : Prop := match vw S x with
  | .obj c _ _ => (match (P.cl? c).meths.lookup m with
    | some k => K k
    | none => False)
  | _ => False
/-- a list of the abstract heap -/
def isL (x : AV) (S : HS) : Prop := match x with
  | .ref n => (match S[n]? with
    | some (.lst _) => True
    | _ => False)
  | _ => False
/-- positional values, then those of the parameters ks, in the parameters' order (all are given) -/
def kwArgs (vs : List AV) (ks : List Nat) (ws : List AV) : List AV := vs ++ (List.range ks.length).map fun i => ((ks.zip ws).lookup (vs.length + i)).getD .non
def isB : AV → Option Bool
  | .bl b => some b
  | _ => none
def wBi (f : BI) (vs : List AV) (Q : AV → Prop) : Prop := match f, vs with
  | .len, [.lst xs] => Q (.int xs.length)
  | .len, [.tup xs] => Q (.int xs.length)
  | .len, [.str x] => x.length ≤ LINE ∧ Q (.int x.length)
  | .int, [.int i] => Q (.int i)
  | .int, [.bl b] => Q (.int (if b then 1 else 0))
  | .abs, [.int i] => Q (.int (if i < 0 then -i else i))
  | .list, [.lst xs] => Q (.lst xs)
  | .list, [.tup xs] => Q (.lst xs)
  | .tuple, [.lst xs] => Q (.tup xs)
  | .tuple, [.tup xs] => Q (.tup xs)
  | .all, [.lst xs] => (xs.all fun v => (isB v).isSome) = true ∧ Q (.bl (xs.all fun v => (isB v).getD false))
  | .any, [.lst xs] => (xs.all fun v => (isB v).isSome) = true ∧ Q (.bl (xs.any fun v => (isB v).getD false))
  | .repr, [.bl b] => Q (.str (if b then "True" else "False"))
  | .max2, [.int i, .int j] => Q (.int (if j > i then j else i))
  | .min2, [.int i, .int j] => Q (.int (if j < i then j else i))
  | _, _ => False
def isiB (t u : String) : Bool := t == u || (t == "bool" && u == "int")
def isi1 (x c : AV) : Option Bool := match x, c with
  | .obj k _ _, .cls c => if k < P.classes.length then some ((P.cl? k).sup.contains c) else none
  | .obj k _ _, .ty _ => if k < P.classes.length then some false else none
  | x, .cls _ => (tyN x).map fun _ => false
  | x, .ty u => (tyN x).map fun t => isiB t u
  | _, _ => none
def isi (x : AV) : List AV → Option Bool
  | [] => some false
  | c :: cs => match isi1 P x c with
    | some true => some true
    | some false => isi x cs
    | none => none
/-! ### loops -/
structure WK where
  nx : Sg → HS → Prop
  rt : AV → HS → Prop
  bk : Sg → HS → Prop := fun _ _ => False
  ct : Sg → HS → Prop := fun _ _ => False
def wipeA (σ : Sg) : List Nat → Sg
  | [] => σ
  | v :: vs => (wipeA σ vs).set v none
def wForL (G : HS → Prop) (bind : AV → Sg → HS → (Sg → HS → Prop) → Prop) (body : WK → Sg → HS → Prop) : List AV → WK → Sg → HS → Prop
  | [], D, σ, S => G S ∧ D.nx σ S
  | x :: r, D, σ, S => G S ∧ bind x σ S fun σ1 S1 => body { D with nx := wForL G bind body r D, ct := wForL G bind body r D, bk := D.nx } σ1 S1
def wLcL (G : HS → Prop) (bind : AV → HS → (Sg → HS → Prop) → Prop) (tst : Sg → HS → (Bool → HS → Prop) → Prop) (el : Sg → HS → (AV → HS → Prop) → Prop) : List AV → List AV → HS → (List AV → HS → Prop) → Prop
  | [], acc, S, Q => G S ∧ Q acc S
  | x :: r, acc, S, Q => G S ∧ bind x S fun σ1 S1 => tst σ1 S1 fun b S2 => if b = true then el σ1 S2 fun v S3 => acc.length < LINE ∧ wLcL G bind tst el r (acc ++ [v]) S3 Q else wLcL G bind tst el r acc S2 Q
/-- a while, by what holds at each turn's start and a number that falls -/
def wWhileL (tst : Sg → HS → (Bool → HS → Prop) → Prop) (body : WK → Sg → HS → Prop) (D : WK) (σ : Sg) (S : HS) : Prop :=
  ∃ W : Nat → Sg → HS → Prop, (∃ m, W m σ S) ∧ ∀ m σ S, W m σ S → tst σ S fun b S1 =>
    if b = true then body { D with nx := fun σ' S' => ∃ m', m' < m ∧ W m' σ' S', ct := fun σ' S' => ∃ m', m' < m ∧ W m' σ' S', bk := D.nx } σ S1 else D.nx σ S1
def wTru (S : HS) (x : AV) (Q : Bool → Prop) : Prop := match truth S x with
  | some k => Q k
  | none => False
def wItems (x : AV) (S : HS) (K : List AV → (HS → Prop) → Prop) : Prop := match x with
  | .tup xs => K xs fun _ => True
  | .lst xs => K xs fun _ => True
  | .ref n => (match S[n]? with
    | some (.lst xs) => K xs fun S => S[n]? = some (.lst xs)
    | _ => False)
  | _ => False
/-- n numbers from lo on -/
def intsA (lo : Int) (n : Nat) : List AV := (List.range n).map fun i => .int (lo + (i : Nat))
def stepsA (lo c : Int) (n : Nat) : List AV := (List.range n).map fun i => .int (lo + (i : Nat) * c)
def Rg (i : Int) : Prop := -(2 ^ 62) ≤ i ∧ i < 2 ^ 62
/-! ### the semantics -/
mutual
def wE : ME → Sg → HS → (AV → HS → Prop) → Prop
  | .c v, _, S, Q => Q v S
  | .var i, σ, S, Q => (match σ[i]? with
    | some (some v) => Q v S
    | _ => False)
  | .glo _ v, _, S, Q => Q v S
  | .bin op a b, σ, S, Q => wE a σ S fun x S1 => wE b σ S1 fun y S2 => wBin op (vw S2 x) (vw S2 y) fun v => Q v S2
  | .un op a, σ, S, Q => wE a σ S fun x S1 => wUn op S1 x fun v => Q v S1
  | .bop op a r, σ, S, Q => wE a σ S fun x S1 => wTru S1 x fun k => if k = (op == .Or) then Q x S1 else wE r σ S1 Q
  | .cmp op a b, σ, S, Q => wE a σ S fun x S1 => wE b σ S1 fun y S2 => wCmp P cl op x y S2 fun k S3 => Q (.bl k) S3
  | .chain op op' a b c, σ, S, Q => wE a σ S fun x S1 => wE b σ S1 fun y S2 => wCmp P cl op x y S2 fun k S3 => if k = true then wE c σ S3 fun w S4 => wCmp P cl op' y w S4 fun k S5 => Q (.bl k) S5 else Q (.bl false) S3
  | .ite t a b, σ, S, Q => wE t σ S fun x S1 => wTru S1 x fun k => if k = true then wE a σ S1 Q else wE b σ S1 Q
  | .tup es, σ, S, Q => wEs es σ S fun vs S1 => vs.length ≤ LINE ∧ Q (.tup vs) S1
  | .lst z es, σ, S, Q => wEs es σ S fun vs S1 => vs.length ≤ LINE ∧ if z = true then Q (.lst vs) S1 else Q (.ref S1.length) (S1 ++ [.lst vs])
  | .sub a i, σ, S, Q => wE a σ S fun x S1 => wE i σ S1 fun y S2 => wSub (vw S2 x) y fun v => Q v S2
  | .slc a lo hi, σ, S, Q => wE a σ S fun x S1 => wEs lo σ S1 fun l S2 => wPart l fun l => wEs hi σ S2 fun h S3 => wPart h fun h => wSlc (vw S3 x) l h fun v => Q v S3
  | .att a f, σ, S, Q => wE a σ S fun x S1 => wAtt P cl x f S1 Q
  | .call k es, σ, S, Q => wEs es σ S fun vs S1 => cl k vs S1 Q
  | .callk k es ks kes, σ, S, Q => wEs es σ S fun vs S1 => wEs kes σ S1 fun ws S2 => cl k (kwArgs vs ks ws) S2 Q
  | .new c es, σ, S, Q => wEs es σ S fun vs S1 => wNew P cl c vs S1 Q
  | .newk c es ks kes, σ, S, Q => wEs es σ S fun vs S1 => wEs kes σ S1 fun ws S2 => wNew P cl c (kwArgs vs ks ws) S2 Q
  | .meth a m es, σ, S, Q => wE a σ S fun x S1 => wMeth P x m S1 fun k => wEs es σ S1 fun vs S2 => cl k (x :: vs) S2 Q
  | .bi f es, σ, S, Q => wEs es σ S fun vs S1 => wBi f (vs.map (vw S1)) fun v => Q v S1
  | .isi a cs, σ, S, Q => wE a σ S fun x S1 => (match isi P (vw S1 x) cs with
    | some b => Q (.bl b) S1
    | none => False)
  | .lc elt g it ifs own, σ, S, Q => wI it σ S fun xs G S1 => wLcL G (fun x S => wG g x (wipeA σ own) S) (wTs ifs) (wE elt) xs [] S1 fun acc S2 => Q (.lst acc) S2
  | .never, _, _, _ => False
def wEs : MEs → Sg → HS → (List AV → HS → Prop) → Prop
  | .nil, _, S, Q => Q [] S
  | .cons e r, σ, S, Q => wE e σ S fun v S1 => wEs r σ S1 fun vs S2 => Q (v :: vs) S2
  | .star e r, σ, S, Q => wE e σ S fun x S1 => wItems x S1 fun xs _ => wEs r σ S1 fun vs S2 => Q (xs ++ vs) S2
/-- tests one behind the other -/
def wTs : MEs → Sg → HS → (Bool → HS → Prop) → Prop
  | .nil, _, S, Q => Q true S
  | .cons e _, σ, S, Q => wE e σ S fun x S1 => wTru S1 x fun k => Q k S1
  | .star _ _, _, _, _ => False
def wI : MI → Sg → HS → (List AV → (HS → Prop) → HS → Prop) → Prop
  | .e a, σ, S, K => wE a σ S fun x S1 => wItems x S1 fun xs G => K xs G S1
  | .range1 a, σ, S, K => wE a σ S fun x S1 => (match x with
    | .int n => Rg n ∧ K (intsA 0 n.toNat) (fun _ => True) S1
    | _ => False)
  | .range2 a b, σ, S, K => wE a σ S fun x S1 => wE b σ S1 fun y S2 => w2I x y fun i j => (Rg i ∧ Rg j) ∧ K (intsA i (j - i).toNat) (fun _ => True) S2
  | .range3 a b c, σ, S, K => wE a σ S fun x S1 => wE b σ S1 fun y S2 => wE c σ S2 fun z S3 => w2I x y fun i j => (match z with
    | .int k => L2.RgC i j k (Builtin.Range.rangeSize i j k).toNat ∧ K (stepsA i k (Builtin.Range.rangeSize i j k).toNat) (fun _ => True) S3
    | _ => False)
  | _, _, _, _ => False
def wG : MG → AV → Sg → HS → (Sg → HS → Prop) → Prop
  | .nm i, v, σ, S, Q => Q (σ.set i (some v)) S
  | .tup gs, v, σ, S, Q => (match v with
    | .tup xs => xs.length = gs.len ∧ wGs gs xs σ S Q
    | _ => False)
  | .sub o i, v, σ, S, Q => wE o σ S fun x S1 => wE i σ S1 fun y S2 => (match x, y with
    | .ref n, .int k => (match S2[n]? with
      | some (.lst xs) => (match L2.ixN xs.length k with
        | some j => Q σ (S2.set n (.lst (xs.set j v)))
        | none => False)
      | _ => False)
    | _, _ => False)
  | .att o f, v, σ, S, Q => wE o σ S fun x S1 => (match x with
    | .ref n => (match S1[n]? with
      | some (.ins c ns vs) => f ∈ (P.cl? c).flds ∧ ns.length < 1000 ∧ Q σ (S1.set n (.ins c (fset f v ns vs).1 (fset f v ns vs).2))
      | _ => False)
    | _ => False)
def wGs : MGs → List AV → Sg → HS → (Sg → HS → Prop) → Prop
  | .nil, xs, σ, S, Q => (match xs with
    | [] => Q σ S
    | _ => False)
  | .cons g r, xs, σ, S, Q => (match xs with
    | x :: xs => wG g x σ S fun σ1 S1 => wGs r xs σ1 S1 Q
    | [] => False)
end
mutual
def wS : MS → WK → Sg → HS → Prop
  | .asg g e, D, σ, S => wE P cl e σ S fun v S1 => wG P cl g v σ S1 D.nx
  | .par2 i j a b, D, σ, S => wE P cl a σ S fun x S1 => wE P cl b σ S1 fun y S2 => D.nx ((σ.set i (some x)).set j (some y)) S2
  | .par3 i j k a b c, D, σ, S => wE P cl a σ S fun x S1 => wE P cl b σ S1 fun y S2 => wE P cl c σ S2 fun z S3 => D.nx (((σ.set i (some x)).set j (some y)).set k (some z)) S3
  | .setlc i elt g it ifs own, D, σ, S => wI P cl it σ S fun xs G S1 => wLcL G (fun x S => wG P cl g x (wipeA σ own) S) (wTs P cl ifs) (wE P cl elt) xs [] S1 fun acc S2 => D.nx (σ.set i (some (.lst acc))) S2
  | .aug i op e, D, σ, S => (match σ[i]? with
    | some (some x) => wE P cl e σ S fun y S1 => (match op with
      | .Add => w2I x y fun i' j' => D.nx (σ.set i (some (.int (i' + j')))) S1
      | .Sub => w2I x y fun i' j' => D.nx (σ.set i (some (.int (i' - j')))) S1
      | _ => False)
    | _ => False)
  | .ex e, D, σ, S => wE P cl e σ S fun _ S1 => D.nx σ S1
  | .app o e, D, σ, S => wE P cl o σ S fun x S1 => isL x S1 ∧ wE P cl e σ S1 fun v S2 => (match x with
    | .ref n => (match S2[n]? with
      | some (.lst xs) => xs.length < LINE ∧ D.nx σ (S2.set n (.lst (xs ++ [v])))
      | _ => False)
    | _ => False)
  | .ret e, D, σ, S => wE P cl e σ S D.rt
  | .retN, D, _, S => D.rt .non S
  | .iff t a b, D, σ, S => wE P cl t σ S fun x S1 => wTru S1 x fun k => if k = true then wSs a D σ S1 else wSs b D σ S1
  | .for_ g it body, D, σ, S => wI P cl it σ S fun xs G S1 => wForL G (wG P cl g) (wSs body) xs D σ S1
  | .while_ t body, D, σ, S => wWhileL (fun σ S Q => wE P cl t σ S fun x S1 => wTru S1 x fun k => Q k S1) (wSs body) D σ S
  | .pass, D, σ, S => D.nx σ S
  | .brk, D, σ, S => D.bk σ S
  | .cont, D, σ, S => D.ct σ S
  | .never, _, _, _ => False
def wSs : MSs → WK → Sg → HS → Prop
  | .nil, D, σ, S => D.nx σ S
  | .cons s r, D, σ, S => wS s { D with nx := wSs r D } σ S
end
end
/-- the slots at a def's entry -/
def startA (D : MDef) (vs : List AV) : Sg := vs.map some ++ List.replicate (D.N.length - vs.length) none
def wcall (P : Prog) : Nat → CallW
  | 0, _, _, _, _ => False
  | d + 1, k, vs, S, Q => match P.defs[k]? with
    | some D => vs.length = D.np ∧ wSs P (wcall P d) D.body { nx := fun _ S1 => retF D.z S Q .non S1, rt := retF D.z S Q } (startA D vs) S
    | none => False
end MP
/-! MP1b: the semantics is monotone. -/
namespace MP
open PySem
def CallMono (cl : CallW) : Prop := ∀ k vs S (Q Q' : AV → HS → Prop), (∀ v S, Q v S → Q' v S) → cl k vs S Q → cl k vs S Q'
theorem w2I_mono {x y : AV} {f g : Int → Int → Prop} (h : ∀ i j, f i j → g i j) (w : w2I x y f) : w2I x y g := by
  unfold w2I at w ⊢
  split at w <;> first | exact h _ _ w | exact w.elim
theorem wTru_mono {S : HS} {x : AV} {Q Q' : Bool → Prop} (h : ∀ k, Q k → Q' k) (w : wTru S x Q) : wTru S x Q' := by
  unfold wTru at w ⊢
  cases e : truth S x with
  | none => rw [e] at w; exact w.elim
  | some k => rw [e] at w; exact h _ w
theorem wBin_mono {op : Operator} {x y : AV} {Q Q' : AV → Prop} (h : ∀ v, Q v → Q' v) (w : wBin op x y Q) : wBin op x y Q' := by
  cases op with
  | Add =>
    replace w : wAdd x y Q := w
    show wAdd x y Q'
    unfold wAdd at w ⊢
    split at w
    · exact h _ w
    · exact ⟨w.1, h _ w.2⟩
    · exact ⟨w.1, h _ w.2⟩
    · exact ⟨w.1, h _ w.2⟩
    · exact w.elim
  | Mult =>
    replace w : wMul x y Q := w
    show wMul x y Q'
    unfold wMul at w ⊢
    split at w
    · exact ⟨w.1, h _ w.2⟩
    · exact ⟨w.1, h _ w.2⟩
    · exact ⟨w.1, h _ w.2⟩
    · exact w.elim
  | Sub => exact w2I_mono (fun i j q => h _ q) w
  | FloorDiv => exact w2I_mono (fun i j q => ⟨q.1, h _ q.2⟩) w
  | Mod => exact w2I_mono (fun i j q => ⟨q.1, h _ q.2⟩) w
  | Pow => exact w2I_mono (fun i j q => ⟨q.1, h _ q.2⟩) w
  | LShift => exact w2I_mono (fun i j q => ⟨q.1, h _ q.2⟩) w
  | RShift => exact w2I_mono (fun i j q => ⟨q.1, h _ q.2⟩) w
  | BitAnd => exact w2I_mono (fun i j q => h _ q) w
  | BitOr => exact w2I_mono (fun i j q => h _ q) w
  | BitXor => exact w2I_mono (fun i j q => h _ q) w
  | MatMult => exact False.elim w
  | Div => exact False.elim w
theorem wUn_mono {op : UnaryOp} {S : HS} {x : AV} {Q Q' : AV → Prop} (h : ∀ v, Q v → Q' v) (w : wUn op S x Q) : wUn op S x Q' := by
  unfold wUn at w ⊢
  split at w
  · split at w <;> first | exact h _ w | exact w.elim
  · split at w <;> first | exact h _ w | exact w.elim
  · show (match truth S x with
      | some k => Q' (.bl (!k))
      | none => False)
    cases e : truth S x with
    | none => rw [e] at w; exact w.elim
    | some k => rw [e] at w; exact h _ w
  · exact w
theorem wEqD_mono {x y : AV} {Q Q' : Bool → Prop} (h : ∀ k, Q k → Q' k) (w : wEqD x y Q) : wEqD x y Q' := by
  unfold wEqD at w ⊢
  cases e1 : toPD x with
  | none => rw [e1] at w; exact w.elim
  | some d =>
    cases e2 : toPD y with
    | none => rw [e1, e2] at w; exact w.elim
    | some e => rw [e1, e2] at w; exact ⟨w.1, w.2.1, h _ w.2.2⟩
section
variable {P : Prog} {cl : CallW}
theorem wEq_mono (hc : CallMono cl) {x y : AV} {S : HS} {Q Q' : Bool → HS → Prop} (h : ∀ k S, Q k S → Q' k S) (w : wEq P cl x y S Q) : wEq P cl x y S Q' := by
  unfold wEq at w ⊢
  split
  · rename_i c ns vs e
    rw [e] at w
    dsimp only at w
    cases e2 : (P.cl? c).eq with
    | none => rw [e2] at w; exact w.elim
    | some k =>
      rw [e2] at w
      refine ⟨w.1, hc _ _ _ _ _ (fun v S q => ?_) w.2⟩
      split at q <;> first | exact h _ _ q | exact q.elim
  · rename_i hn
    split at w
    · rename_i c ns vs e; exact absurd e (hn _ _ _)
    · exact wEqD_mono (fun k q => h _ _ q) w
theorem wIn_mono {x y : AV} {Q Q' : Bool → Prop} (h : ∀ k, Q k → Q' k) (w : wIn x y Q) : wIn x y Q' := by
  unfold wIn at w ⊢
  split at w
  · exact ⟨w.1, h _ w.2⟩
  · exact ⟨w.1, h _ w.2⟩
  · exact w.elim
theorem wCmp_mono (hc : CallMono cl) {op : CmpOp} {x y : AV} {S : HS} {Q Q' : Bool → HS → Prop} (h : ∀ k S, Q k S → Q' k S) (w : wCmp P cl op x y S Q) : wCmp P cl op x y S Q' := by
  cases op with
  | Lt => exact w2I_mono (fun i j q => h _ _ q) w
  | LtE => exact w2I_mono (fun i j q => h _ _ q) w
  | Gt => exact w2I_mono (fun i j q => h _ _ q) w
  | GtE => exact w2I_mono (fun i j q => h _ _ q) w
  | Eq => exact wEq_mono hc h w
  | NotEq => exact wEq_mono hc (fun k S q => h _ _ q) w
  | Is => cases y <;> first | exact h _ _ w | exact False.elim w
  | IsNot => cases y <;> first | exact h _ _ w | exact False.elim w
  | In => exact wIn_mono (Q := fun b => Q b S) (fun k q => h _ S q) w
  | NotIn => exact wIn_mono (Q := fun b => Q (!b) S) (fun k q => h _ S q) w
theorem wSub_mono {x i : AV} {Q Q' : AV → Prop} (h : ∀ v, Q v → Q' v) (w : wSub x i Q) : wSub x i Q' := by
  unfold wSub at w ⊢
  split at w
  · rename_i xs k
    cases e : L2.atI xs k with
    | none => rw [e] at w; exact w.elim
    | some v => rw [e] at w; exact h _ w
  · rename_i xs k
    cases e : L2.atI xs k with
    | none => rw [e] at w; exact w.elim
    | some v => rw [e] at w; exact h _ w
  · exact w.elim
theorem wPart_mono {l : List AV} {K K' : Option Int → Prop} (h : ∀ o, K o → K' o) (w : wPart l K) : wPart l K' := by
  unfold wPart at w ⊢
  cases e : part l with
  | none => rw [e] at w; exact w.elim
  | some k => rw [e] at w; exact h _ w
theorem wSlc_mono {x : AV} {l u : Option Int} {Q Q' : AV → Prop} (h : ∀ v, Q v → Q' v) (w : wSlc x l u Q) : wSlc x l u Q' := by
  unfold wSlc at w ⊢
  split at w <;> first | exact h _ w | exact w.elim
theorem wAtt_mono (hc : CallMono cl) {x : AV} {f : Nat} {S : HS} {Q Q' : AV → HS → Prop} (h : ∀ v S, Q v S → Q' v S) (w : wAtt P cl x f S Q) : wAtt P cl x f S Q' := by
  unfold wAtt at w ⊢
  split
  · rename_i c ns vs e
    rw [e] at w
    dsimp only at w
    cases e2 : fget f ns vs with
    | some v => rw [e2] at w; exact ⟨w.1, h _ _ w.2⟩
    | none =>
      rw [e2] at w
      dsimp only at w ⊢
      cases e3 : (P.cl? c).props.lookup f with
      | some k => rw [e3] at w; exact hc _ _ _ _ _ h w
      | none => rw [e3] at w; exact w.elim
  · rename_i hn
    split at w
    · rename_i c ns vs e; exact absurd e (hn _ _ _)
    · exact w
theorem wNew_mono (hc : CallMono cl) {c : Nat} {vs : List AV} {S : HS} {Q Q' : AV → HS → Prop} (h : ∀ v S, Q v S → Q' v S) (w : wNew P cl c vs S Q) : wNew P cl c vs S Q' := by
  unfold wNew at w ⊢
  cases e : (P.cl? c).init with
  | none => rw [e] at w; exact w.elim
  | some k =>
    rw [e] at w
    refine hc _ _ _ _ _ (fun v S1 q => ?_) w
    split at q
    · by_cases hf : (P.cl? c).frz = true
      · rw [if_pos hf] at q ⊢
        split at q
        · rename_i e2
          exact ⟨q.1, q.2.1, q.2.2.1, q.2.2.2.1, h _ _ q.2.2.2.2⟩
        · exact q.elim
      · rw [if_neg hf] at q ⊢
        exact h _ _ q
    · exact q.elim
theorem wMeth_mono {x : AV} {m : Nat} {S : HS} {K K' : Nat → Prop} (h : ∀ k, K k → K' k) (w : wMeth P x m S K) : wMeth P x m S K' := by
  unfold wMeth at w ⊢
  split
  · rename_i c ns vs e
    rw [e] at w
    dsimp only at w
    cases e3 : (P.cl? c).meths.lookup m with
    | some k => rw [e3] at w; exact h _ w
    | none => rw [e3] at w; exact w.elim
  · rename_i hn
    split at w
    · rename_i c ns vs e; exact absurd e (hn _ _ _)
    · exact w
theorem wBi_mono {f : BI} {vs : List AV} {Q Q' : AV → Prop} (h : ∀ v, Q v → Q' v) (w : wBi f vs Q) : wBi f vs Q' := by
  unfold wBi at w ⊢
  split at w <;> first | exact h _ w | exact ⟨w.1, h _ w.2⟩ | exact w.elim
theorem wItems_mono {x : AV} {S : HS} {K K' : List AV → (HS → Prop) → Prop} (h : ∀ xs G, K xs G → K' xs G) (w : wItems x S K) : wItems x S K' := by
  unfold wItems at w ⊢
  split at w
  · exact h _ _ w
  · exact h _ _ w
  · rename_i n
    split at w
    · exact h _ _ w
    · exact w.elim
  · exact w.elim
theorem wLcL_mono {G : HS → Prop} {bind : AV → HS → (Sg → HS → Prop) → Prop} {tst : Sg → HS → (Bool → HS → Prop) → Prop} {el : Sg → HS → (AV → HS → Prop) → Prop}
    (hb : ∀ x S (Q Q' : Sg → HS → Prop), (∀ σ S, Q σ S → Q' σ S) → bind x S Q → bind x S Q') (ht : ∀ σ S (Q Q' : Bool → HS → Prop), (∀ k S, Q k S → Q' k S) → tst σ S Q → tst σ S Q') (he : ∀ σ S (Q Q' : AV → HS → Prop), (∀ v S, Q v S → Q' v S) → el σ S Q → el σ S Q')
    {Q Q' : List AV → HS → Prop} (h : ∀ vs S, Q vs S → Q' vs S) : ∀ (xs acc : List AV) (S : HS), wLcL G bind tst el xs acc S Q → wLcL G bind tst el xs acc S Q'
  | [], acc, S, w => ⟨w.1, h _ _ w.2⟩
  | x :: r, acc, S, w => ⟨w.1, hb _ _ _ _ (fun σ1 S1 w1 => ht _ _ _ _ (fun b S2 w2 => by
      by_cases hb' : b = true
      · rw [if_pos hb'] at w2 ⊢
        exact he _ _ _ _ (fun v S3 w3 => ⟨w3.1, wLcL_mono hb ht he h r _ _ w3.2⟩) w2
      · rw [if_neg hb'] at w2 ⊢
        exact wLcL_mono hb ht he h r _ _ w2) w1) w.2⟩
mutual
theorem wE_mono (hc : CallMono cl) : ∀ (m : ME) (σ : Sg) (S : HS) (Q Q' : AV → HS → Prop), (∀ v S, Q v S → Q' v S) → wE P cl m σ S Q → wE P cl m σ S Q'
  | .c v, σ, S, Q, Q', h, w => h _ _ w
  | .var i, σ, S, Q, Q', h, w => by
    unfold wE at w ⊢
    split at w
    · exact h _ _ w
    · exact w.elim
  | .glo _ v, σ, S, Q, Q', h, w => h _ _ w
  | .bin op a b, σ, S, Q, Q', h, w => wE_mono hc a _ _ _ _ (fun x S1 w => wE_mono hc b _ _ _ _ (fun y S2 w => wBin_mono (fun v q => h _ _ q) w) w) w
  | .un op a, σ, S, Q, Q', h, w => wE_mono hc a _ _ _ _ (fun x S1 w => wUn_mono (fun v q => h _ _ q) w) w
  | .bop op a r, σ, S, Q, Q', h, w => wE_mono hc a _ _ _ _ (fun x S1 w => wTru_mono (fun k q => by
      by_cases hk : k = (op == .Or)
      · rw [if_pos hk] at q ⊢; exact h _ _ q
      · rw [if_neg hk] at q ⊢; exact wE_mono hc r _ _ _ _ h q) w) w
  | .cmp op a b, σ, S, Q, Q', h, w => wE_mono hc a _ _ _ _ (fun x S1 w => wE_mono hc b _ _ _ _ (fun y S2 w => wCmp_mono hc (fun v S q => h _ _ q) w) w) w
  | .chain op op' a b c, σ, S, Q, Q', h, w => wE_mono hc a _ _ _ _ (fun x S1 w => wE_mono hc b _ _ _ _ (fun y S2 w => wCmp_mono hc (fun k S q => by
      by_cases hk : k = true
      · rw [if_pos hk] at q ⊢; exact wE_mono hc c _ _ _ _ (fun z S3 w => wCmp_mono hc (fun v S q => h _ _ q) w) q
      · rw [if_neg hk] at q ⊢; exact h _ _ q) w) w) w
  | .ite t a b, σ, S, Q, Q', h, w => wE_mono hc t _ _ _ _ (fun x S1 w => wTru_mono (fun k q => by
      by_cases hk : k = true
      · rw [if_pos hk] at q ⊢; exact wE_mono hc a _ _ _ _ h q
      · rw [if_neg hk] at q ⊢; exact wE_mono hc b _ _ _ _ h q) w) w
  | .tup es, σ, S, Q, Q', h, w => wEs_mono hc es _ _ _ _ (fun vs S1 w => ⟨w.1, h _ _ w.2⟩) w
  | .lst z es, σ, S, Q, Q', h, w => wEs_mono hc es _ _ _ _ (fun vs S1 w => ⟨w.1, by
      by_cases hz : z = true
      · have := w.2; rw [if_pos hz] at this ⊢; exact h _ _ this
      · have := w.2; rw [if_neg hz] at this ⊢; exact h _ _ this⟩) w
  | .sub a i, σ, S, Q, Q', h, w => wE_mono hc a _ _ _ _ (fun x S1 w => wE_mono hc i _ _ _ _ (fun y S2 w => wSub_mono (fun v q => h _ _ q) w) w) w
  | .slc a lo hi, σ, S, Q, Q', h, w => wE_mono hc a _ _ _ _ (fun x S1 w => wEs_mono hc lo _ _ _ _ (fun y S2 w => wPart_mono (fun o w => wEs_mono hc hi _ _ _ _ (fun z S3 w => wPart_mono (fun o w => wSlc_mono (fun v q => h _ _ q) w) w) w) w) w) w
  | .att a f, σ, S, Q, Q', h, w => wE_mono hc a _ _ _ _ (fun x S1 w => wAtt_mono hc h w) w
  | .call k es, σ, S, Q, Q', h, w => wEs_mono hc es _ _ _ _ (fun vs S1 w => hc _ _ _ _ _ h w) w
  | .callk k es ks kes, σ, S, Q, Q', h, w => wEs_mono hc es _ _ _ _ (fun vs S1 w => wEs_mono hc kes _ _ _ _ (fun ws S2 w => hc _ _ _ _ _ h w) w) w
  | .new c es, σ, S, Q, Q', h, w => wEs_mono hc es _ _ _ _ (fun vs S1 w => wNew_mono hc h w) w
  | .newk c es ks kes, σ, S, Q, Q', h, w => wEs_mono hc es _ _ _ _ (fun vs S1 w => wEs_mono hc kes _ _ _ _ (fun ws S2 w => wNew_mono hc h w) w) w
  | .meth a m es, σ, S, Q, Q', h, w => wE_mono hc a _ _ _ _ (fun x S1 w => wMeth_mono (fun k w => wEs_mono hc es _ _ _ _ (fun vs S2 w => hc _ _ _ _ _ h w) w) w) w
  | .bi f es, σ, S, Q, Q', h, w => wEs_mono hc es _ _ _ _ (fun vs S1 w => wBi_mono (fun v q => h _ _ q) w) w
  | .isi a cs, σ, S, Q, Q', h, w => wE_mono hc a _ _ _ _ (fun x S1 w => by
      cases e : isi P (vw S1 x) cs with
      | none => rw [e] at w; exact w.elim
      | some b => rw [e] at w; exact h _ _ w) w
  | .lc elt g it ifs own, σ, S, Q, Q', h, w => wI_mono hc it _ _ _ _ (fun xs G S1 w => wLcL_mono (bind := fun x S => wG P cl g x (wipeA σ own) S) (tst := wTs P cl ifs) (el := wE P cl elt) (fun x S Q Q' h w => wG_mono hc g _ _ _ _ _ h w) (fun σ S Q Q' h w => wTs_mono hc ifs _ _ _ _ h w) (fun σ S Q Q' h w => wE_mono hc elt _ _ _ _ h w) (fun vs S q => h _ _ q) _ _ _ w) w
  | .never, σ, S, Q, Q', h, w => False.elim w
theorem wEs_mono (hc : CallMono cl) : ∀ (m : MEs) (σ : Sg) (S : HS) (Q Q' : List AV → HS → Prop), (∀ v S, Q v S → Q' v S) → wEs P cl m σ S Q → wEs P cl m σ S Q'
  | .nil, σ, S, Q, Q', h, w => h _ _ w
  | .cons e r, σ, S, Q, Q', h, w => wE_mono hc e _ _ _ _ (fun x S1 w => wEs_mono hc r _ _ _ _ (fun vs S2 w => h _ _ w) w) w
  | .star e r, σ, S, Q, Q', h, w => wE_mono hc e _ _ _ _ (fun x S1 w => wItems_mono (fun xs G w => wEs_mono hc r _ _ _ _ (fun vs S2 w => h _ _ w) w) w) w
theorem wTs_mono (hc : CallMono cl) : ∀ (m : MEs) (σ : Sg) (S : HS) (Q Q' : Bool → HS → Prop), (∀ v S, Q v S → Q' v S) → wTs P cl m σ S Q → wTs P cl m σ S Q'
  | .nil, σ, S, Q, Q', h, w => h _ _ w
  | .cons e r, σ, S, Q, Q', h, w => wE_mono hc e _ _ _ _ (fun x S1 w => wTru_mono (fun k q => h _ _ q) w) w
  | .star e r, σ, S, Q, Q', h, w => False.elim w
theorem wI_mono (hc : CallMono cl) : ∀ (m : MI) (σ : Sg) (S : HS) (Q Q' : List AV → (HS → Prop) → HS → Prop), (∀ v G S, Q v G S → Q' v G S) → wI P cl m σ S Q → wI P cl m σ S Q'
  | .e a, σ, S, Q, Q', h, w => wE_mono hc a _ _ _ _ (fun x S1 w => wItems_mono (fun xs G w => h _ _ _ w) w) w
  | .range1 a, σ, S, Q, Q', h, w => wE_mono hc a _ _ _ _ (fun x S1 w => by
      split at w <;> first | exact ⟨w.1, h _ _ _ w.2⟩ | exact w.elim) w
  | .range2 a b, σ, S, Q, Q', h, w => wE_mono hc a _ _ _ _ (fun x S1 w => wE_mono hc b _ _ _ _ (fun y S2 w => w2I_mono (fun i j w => ⟨w.1, h _ _ _ w.2⟩) w) w) w
  | .range3 a b c, σ, S, Q, Q', h, w => wE_mono hc a _ _ _ _ (fun x S1 w => wE_mono hc b _ _ _ _ (fun y S2 w => wE_mono hc c _ _ _ _ (fun z S3 w => w2I_mono (fun i j w => by
      split at w <;> first | exact ⟨w.1, h _ _ _ w.2⟩ | exact w.elim) w) w) w) w
  | .enum _, σ, S, Q, Q', h, w => False.elim w
  | .zip _ _, σ, S, Q, Q', h, w => False.elim w
theorem wG_mono (hc : CallMono cl) : ∀ (g : MG) (v : AV) (σ : Sg) (S : HS) (Q Q' : Sg → HS → Prop), (∀ σ S, Q σ S → Q' σ S) → wG P cl g v σ S Q → wG P cl g v σ S Q'
  | .nm i, v, σ, S, Q, Q', h, w => h _ _ w
  | .tup gs, v, σ, S, Q, Q', h, w => by
    unfold wG at w ⊢
    split at w
    · exact ⟨w.1, wGs_mono hc gs _ _ _ _ _ h w.2⟩
    · exact w.elim
  | .sub o i, v, σ, S, Q, Q', h, w => wE_mono hc o _ _ _ _ (fun x S1 w1 => wE_mono hc i _ _ _ _ (fun y S2 w2 => by
      split at w2
      · rename_i n k
        show (match S2[n]? with
          | some (.lst xs) => (match L2.ixN xs.length k with
            | some j => Q' σ (S2.set n (.lst (xs.set j v)))
            | none => False)
          | _ => False)
        cases e : S2[n]? with
        | none => rw [e] at w2; exact w2.elim
        | some ob =>
          rw [e] at w2
          cases ob with
          | lst xs =>
            replace w2 : (match L2.ixN xs.length k with
              | some j => Q σ (S2.set n (.lst (xs.set j v)))
              | none => False) := w2
            show (match L2.ixN xs.length k with
              | some j => Q' σ (S2.set n (.lst (xs.set j v)))
              | none => False)
            cases e2 : L2.ixN xs.length k with
            | none => rw [e2] at w2; exact w2.elim
            | some j => rw [e2] at w2; exact h _ _ w2
          | _ => exact w2.elim
      · exact w2.elim) w1) w
  | .att o f, v, σ, S, Q, Q', h, w => wE_mono hc o _ _ _ _ (fun x S1 w1 => by
      split at w1
      · rename_i n
        show (match S1[n]? with
          | some (.ins c ns vs) => f ∈ (P.cl? c).flds ∧ ns.length < 1000 ∧ Q' σ (S1.set n (.ins c (fset f v ns vs).1 (fset f v ns vs).2))
          | _ => False)
        cases e : S1[n]? with
        | none => rw [e] at w1; exact w1.elim
        | some ob =>
          rw [e] at w1
          cases ob with
          | ins c ns vs => exact ⟨w1.1, w1.2.1, h _ _ w1.2.2⟩
          | _ => exact w1.elim
      · exact w1.elim) w
theorem wGs_mono (hc : CallMono cl) : ∀ (g : MGs) (v : List AV) (σ : Sg) (S : HS) (Q Q' : Sg → HS → Prop), (∀ σ S, Q σ S → Q' σ S) → wGs P cl g v σ S Q → wGs P cl g v σ S Q'
  | .nil, v, σ, S, Q, Q', h, w => by
    cases v with
    | nil => exact h _ _ w
    | cons _ _ => exact False.elim w
  | .cons g r, v, σ, S, Q, Q', h, w => by
    cases v with
    | nil => exact False.elim w
    | cons x xs => exact wG_mono hc g _ _ _ _ _ (fun σ1 S1 w => wGs_mono hc r _ _ _ _ _ h w) w
end
end
end MP
/-! MP1c: statements and calls are monotone. -/
namespace MP
open PySem
/-- one wish is within another -/
structure WK.Sub (D D' : WK) : Prop where
  nx : ∀ σ S, D.nx σ S → D'.nx σ S
  rt : ∀ v S, D.rt v S → D'.rt v S
  bk : ∀ σ S, D.bk σ S → D'.bk σ S
  ct : ∀ σ S, D.ct σ S → D'.ct σ S
section
variable {P : Prog} {cl : CallW}
theorem wForL_mono {G : HS → Prop} {bind : AV → Sg → HS → (Sg → HS → Prop) → Prop} {body : WK → Sg → HS → Prop} (hb : ∀ x σ S (Q Q' : Sg → HS → Prop), (∀ σ S, Q σ S → Q' σ S) → bind x σ S Q → bind x σ S Q')
    (ht : ∀ (D D' : WK) σ S, D.Sub D' → body D σ S → body D' σ S) {D D' : WK} (h : D.Sub D') : ∀ (xs : List AV) (σ : Sg) (S : HS), wForL G bind body xs D σ S → wForL G bind body xs D' σ S
  | [], σ, S, w => ⟨w.1, h.nx _ _ w.2⟩
  | x :: r, σ, S, w => ⟨w.1, hb _ _ _ _ _ (fun σ1 S1 w1 => ht { D with nx := wForL G bind body r D, ct := wForL G bind body r D, bk := D.nx } { D' with nx := wForL G bind body r D', ct := wForL G bind body r D', bk := D'.nx } _ _ ⟨fun σ S q => wForL_mono hb ht h r _ _ q, h.rt, h.nx, fun σ S q => wForL_mono hb ht h r _ _ q⟩ w1) w.2⟩
mutual
theorem wS_mono (hc : CallMono cl) : ∀ (m : MS) (D D' : WK) (σ : Sg) (S : HS), D.Sub D' → wS P cl m D σ S → wS P cl m D' σ S
  | .asg g e, D, D', σ, S, h, w => wE_mono hc e _ _ _ _ (fun v S1 w => wG_mono hc g _ _ _ _ _ h.nx w) w
  | .par2 i j a b, D, D', σ, S, h, w => wE_mono hc a _ _ _ _ (fun v S1 w => wE_mono hc b _ _ _ _ (fun v S1 w => h.nx _ _ w) w) w
  | .par3 i j k a b c, D, D', σ, S, h, w => wE_mono hc a _ _ _ _ (fun v S1 w => wE_mono hc b _ _ _ _ (fun v S1 w => wE_mono hc c _ _ _ _ (fun v S1 w => h.nx _ _ w) w) w) w
  | .setlc i elt g it ifs own, D, D', σ, S, h, w => wI_mono hc it _ _ _ _ (fun xs G S1 w => wLcL_mono (bind := fun x S => wG P cl g x (wipeA σ own) S) (tst := wTs P cl ifs) (el := wE P cl elt) (fun x S Q Q' h w => wG_mono hc g _ _ _ _ _ h w) (fun σ S Q Q' h w => wTs_mono hc ifs _ _ _ _ h w) (fun σ S Q Q' h w => wE_mono hc elt _ _ _ _ h w) (fun vs S q => h.nx _ _ q) _ _ _ w) w
  | .aug i op e, D, D', σ, S, h, w => by
    unfold wS at w ⊢
    split at w
    · refine wE_mono hc e _ _ _ _ (fun v S1 w => ?_) w
      split at w
      · exact w2I_mono (fun i j q => h.nx _ _ q) w
      · exact w2I_mono (fun i j q => h.nx _ _ q) w
      · exact w.elim
    · exact w.elim
  | .ex e, D, D', σ, S, h, w => wE_mono hc e _ _ _ _ (fun v S1 w => h.nx _ _ w) w
  | .app o e, D, D', σ, S, h, w => wE_mono hc o _ _ _ _ (fun x S1 w1 => ⟨w1.1, wE_mono hc e _ _ _ _ (fun v S2 w2 => by
      split at w2
      · rename_i n
        show (match S2[n]? with
          | some (.lst xs) => xs.length < LINE ∧ D'.nx σ (S2.set n (.lst (xs ++ [v])))
          | _ => False)
        cases e : S2[n]? with
        | none => rw [e] at w2; exact w2.elim
        | some ob => rw [e] at w2; cases ob with
          | lst xs => exact ⟨w2.1, h.nx _ _ w2.2⟩
          | _ => exact w2.elim
      · exact w2.elim) w1.2⟩) w
  | .ret e, D, D', σ, S, h, w => wE_mono hc e _ _ _ _ h.rt w
  | .retN, D, D', σ, S, h, w => h.rt _ _ w
  | .iff t a b, D, D', σ, S, h, w => wE_mono hc t _ _ _ _ (fun x S1 w => wTru_mono (fun k q => by
      by_cases hk : k = true
      · rw [if_pos hk] at q ⊢; exact wSs_mono hc a _ _ _ _ h q
      · rw [if_neg hk] at q ⊢; exact wSs_mono hc b _ _ _ _ h q) w) w
  | .for_ g it body, D, D', σ, S, h, w => wI_mono hc it _ _ _ _ (fun xs G S1 w => wForL_mono (bind := wG P cl g) (body := wSs P cl body) (fun x σ S Q Q' h w => wG_mono hc g _ _ _ _ _ h w) (fun D D' σ S h w => wSs_mono hc body _ _ _ _ h w) h _ _ _ w) w
  | .while_ t body, D, D', σ, S, h, ⟨W, w0, w1⟩ => ⟨W, w0, fun m σ S w => wE_mono hc t _ _ _ _ (fun x S1 w => wTru_mono (fun k q => by
      cases k with
      | true => exact wSs_mono hc body { D with nx := fun σ' S' => ∃ m', m' < m ∧ W m' σ' S', ct := fun σ' S' => ∃ m', m' < m ∧ W m' σ' S', bk := D.nx } { D' with nx := fun σ' S' => ∃ m', m' < m ∧ W m' σ' S', ct := fun σ' S' => ∃ m', m' < m ∧ W m' σ' S', bk := D'.nx } _ _ ⟨fun _ _ q => q, h.rt, h.nx, fun _ _ q => q⟩ q
      | false => exact h.nx _ _ q) w) (w1 m σ S w)⟩
  | .pass, D, D', σ, S, h, w => h.nx _ _ w
  | .brk, D, D', σ, S, h, w => h.bk _ _ w
  | .cont, D, D', σ, S, h, w => h.ct _ _ w
  | .never, D, D', σ, S, h, w => False.elim w
theorem wSs_mono (hc : CallMono cl) : ∀ (m : MSs) (D D' : WK) (σ : Sg) (S : HS), D.Sub D' → wSs P cl m D σ S → wSs P cl m D' σ S
  | .nil, D, D', σ, S, h, w => h.nx _ _ w
  | .cons s r, D, D', σ, S, h, w => wS_mono hc s { D with nx := wSs P cl r D } { D' with nx := wSs P cl r D' } _ _ ⟨fun σ S q => wSs_mono hc r _ _ _ _ h q, h.rt, h.bk, h.ct⟩ w
end
theorem retF_mono {z : Nat} {S0 : HS} {Q Q' : AV → HS → Prop} (h : ∀ v S, Q v S → Q' v S) {v : AV} {S1 : HS} (w : retF z S0 Q v S1) : retF z S0 Q' v S1 := by
  cases z with
  | zero => exact h _ _ w
  | succ z => exact ⟨w.1, w.2.1, h _ _ w.2.2⟩
theorem wcall_mono : ∀ d, CallMono (wcall P d)
  | 0 => fun _ _ _ _ _ _ w => False.elim w
  | d + 1 => fun k vs S Q Q' h w => by
    unfold wcall at w ⊢
    split at w
    · refine ⟨w.1, wSs_mono (wcall_mono d) _ _ _ _ _ ?_ w.2⟩; exact ⟨fun σ S q => retF_mono h q, fun v S q => retF_mono h q, fun _ _ q => q, fun _ _ q => q⟩
    · exact w.elim
theorem wcall_len {d k : Nat} {vs : List AV} {S : HS} {Q : AV → HS → Prop} (w : wcall P d k vs S Q) : ∃ D, P.defs[k]? = some D ∧ vs.length = D.np := by
  cases d with
  | zero => exact False.elim w
  | succ d =>
    unfold wcall at w
    split at w
    · exact ⟨_, by assumption, w.1⟩
    · exact w.elim
end
end MP
/-! MP2: abstract values as they lie in the layer's heap. -/
namespace MP
open PySem PySem.Spec PyProof.Rows L2
/-- what the checks look at: the program, its calls with keywords (def, positional values, the keywords' places), its global names: defs, constants, free ones -/
structure Stat where
  P : Prog
  kw : List (Nat × Nat × List Nat)
  gd : List (Str × Nat)
  gc : List (Str × Const)
  fr : List Str
/-- the program and where its parts stand -/
structure Cfg where
  s : Stat
  K : PySem.W.Frag
  fa : Nat → Addr
  ca : Nat → Addr
abbrev Cfg.P (C : Cfg) : Prog := C.s.P
abbrev Cfg.kw (C : Cfg) : List (Nat × Nat × List Nat) := C.s.kw
def Cfg.nm (C : Cfg) (i : Nat) : Str := C.P.names.getD i Str.empty
/-- what is frozen; what is left alone for a while -/
structure FZ where
  f : Addr → Prop
  z : Addr → Prop
instance : CoeFun FZ fun _ => Addr → Prop := ⟨FZ.f⟩
/-- attributes by name -/
def namesZ (C : Cfg) : List Nat → List V → List (Str × V)
  | n :: ns, v :: vs => (C.nm n, v) :: namesZ C ns vs
  | _, _ => []
mutual
inductive Rep (C : Cfg) (φ : List Addr) (F : FZ) (H : Hp) : AV → V → Prop
  | non : Rep C φ F H .non .non
  | bl (b : Bool) : Rep C φ F H (.bl b) (.bl b)
  | int (i : Int) : Rep C φ F H (.int i) (.int i)
  | str (x : Str) : Rep C φ F H (.str x) (.str x)
  | tup {p : Addr} {xs : List AV} {ys : List V} : F p → H p = some (.tup ys) → RepL C φ F H xs ys → Rep C φ F H (.tup xs) (.ref p)
  | lst {p : Addr} {xs : List AV} {ys : List V} : F p → H p = some (.lst ys) → RepL C φ F H xs ys → Rep C φ F H (.lst xs) (.ref p)
  | obj {p dx : Addr} {c : Nat} {ns : List Nat} {vs : List AV} {ys : List V} : F p → H p = some (.ins (C.ca c) dx (namesZ C ns ys)) → (∀ n ∈ ns, n ∈ (C.P.cl? c).flds) → ns.length = vs.length → RepL C φ F H vs ys → Rep C φ F H (.obj c ns vs) (.ref p)
  | slst {p : Addr} {ns : List Int} {o : Obj} : F p → H p = some (.frz o (.lst (ns.map V.int))) → Rep C φ F H (.slst ns) (.ref p)
  | slstK {p : Addr} {ns : List Int} : (∀ H', SqL C.K H' p (ns.map V.int)) → Rep C φ F H (.slst ns) (.ref p)
  | ref {n : Nat} {p : Addr} : φ[n]? = some p → Rep C φ F H (.ref n) (.ref p)
  | fn (k : Nat) : Rep C φ F H (.fn k) (.ref (C.fa k))
  | cls (c : Nat) : Rep C φ F H (.cls c) (.ref (C.ca c))
  | ty (t : String) : Rep C φ F H (.ty t) (.ty t)
inductive RepL (C : Cfg) (φ : List Addr) (F : FZ) (H : Hp) : List AV → List V → Prop
  | nil : RepL C φ F H [] []
  | cons {v : AV} {vs : List AV} {x : V} {xs : List V} : Rep C φ F H v x → RepL C φ F H vs xs → RepL C φ F H (v :: vs) (x :: xs)
end
def Le (φ φ' : List Addr) : Prop := ∃ t, φ' = φ ++ t
structure Ext (F : FZ) (H : Hp) (F' : FZ) (H' : Hp) : Prop where
  f : ∀ p, F p → F' p ∧ H' p = H p
  z : ∀ p, F.z p → F'.z p ∧ H' p = H p
theorem Le.rfl' {φ : List Addr} : Le φ φ := ⟨[], by simp⟩
theorem Le.trans {a b c : List Addr} (h : Le a b) (h' : Le b c) : Le a c := by
  obtain ⟨t, rfl⟩ := h
  obtain ⟨u, rfl⟩ := h'
  exact ⟨t ++ u, by simp⟩
theorem Le.get {φ φ' : List Addr} (h : Le φ φ') {n : Nat} {p : Addr} (e : φ[n]? = some p) : φ'[n]? = some p := by
  obtain ⟨t, rfl⟩ := h
  have hl : n < φ.length := (List.getElem?_eq_some_iff.mp e).1
  rw [List.getElem?_append_left hl]
  exact e
theorem Ext.rfl' {F : FZ} {H : Hp} : Ext F H F H := ⟨fun _ h => ⟨h, rfl⟩, fun _ h => ⟨h, rfl⟩⟩
theorem Ext.trans {F F1 F2 : FZ} {H H1 H2 : Hp} (a : Ext F H F1 H1) (b : Ext F1 H1 F2 H2) : Ext F H F2 H2 := ⟨fun p h => by
  obtain ⟨h1, e1⟩ := a.f p h
  obtain ⟨h2, e2⟩ := b.f p h1
  exact ⟨h2, e2.trans e1⟩, fun p h => by
  obtain ⟨h1, e1⟩ := a.z p h
  obtain ⟨h2, e2⟩ := b.z p h1
  exact ⟨h2, e2.trans e1⟩⟩
section
variable {C : Cfg} {φ φ' : List Addr} {F F' : FZ} {H H' : Hp}
mutual
theorem Rep.monoF (l : Le φ φ') (x : ∀ p, F p → F' p ∧ H' p = H p) : ∀ (v : AV) (u : V), Rep C φ F H v u → Rep C φ' F' H' v u
  | .non, _, h => by cases h; exact .non
  | .bl _, _, h => by cases h; exact .bl _
  | .int _, _, h => by cases h; exact .int _
  | .str _, _, h => by cases h; exact .str _
  | .tup xs, _, h => by
    cases h with
    | tup h1 h2 h3 => exact .tup (x _ h1).1 ((x _ h1).2.trans h2) (RepL.monoF l x xs _ h3)
  | .lst xs, _, h => by
    cases h with
    | lst h1 h2 h3 => exact .lst (x _ h1).1 ((x _ h1).2.trans h2) (RepL.monoF l x xs _ h3)
  | .dct _ _, _, h => by cases h
  | .obj c ns vs, _, h => by
    cases h with
    | obj h1 h2 h3 h4 h5 => exact .obj (x _ h1).1 ((x _ h1).2.trans h2) h3 h4 (RepL.monoF l x vs _ h5)
  | .slst ns, _, h => by
    cases h with
    | slst h1 h2 => exact .slst (x _ h1).1 ((x _ h1).2.trans h2)
    | slstK h1 => exact .slstK h1
  | .ref n, _, h => by
    cases h with
    | ref h1 => exact .ref (l.get h1)
  | .fn k, _, h => by cases h; exact .fn k
  | .cls k, _, h => by cases h; exact .cls k
  | .ty k, _, h => by cases h; exact .ty k
theorem RepL.monoF (l : Le φ φ') (x : ∀ p, F p → F' p ∧ H' p = H p) : ∀ (vs : List AV) (us : List V), RepL C φ F H vs us → RepL C φ' F' H' vs us
  | [], _, h => by cases h; exact .nil
  | v :: vs, _, h => by
    cases h with
    | cons h1 h2 => exact .cons (Rep.monoF l x v _ h1) (RepL.monoF l x vs _ h2)
end
theorem Rep.mono (l : Le φ φ') (x : Ext F H F' H') (v : AV) (u : V) (h : Rep C φ F H v u) : Rep C φ' F' H' v u := Rep.monoF l x.f v u h
theorem RepL.mono (l : Le φ φ') (x : Ext F H F' H') (vs : List AV) (us : List V) (h : RepL C φ F H vs us) : RepL C φ' F' H' vs us := RepL.monoF l x.f vs us h
theorem RepL.length : ∀ {vs : List AV} {us : List V}, RepL C φ F H vs us → vs.length = us.length
  | [], _, h => by cases h; rfl
  | v :: vs, _, h => by
    cases h with
    | cons h1 h2 => simp [RepL.length h2]
theorem RepL.append : ∀ {vs ws : List AV} {us xs : List V}, RepL C φ F H vs us → RepL C φ F H ws xs → RepL C φ F H (vs ++ ws) (us ++ xs)
  | [], _, _, _, h, h' => by cases h; exact h'
  | v :: vs, _, _, _, h, h' => by
    cases h with
    | cons h1 h2 => exact .cons h1 (RepL.append h2 h')
theorem RepL.get : ∀ {vs : List AV} {us : List V} {i : Nat} {v : AV}, RepL C φ F H vs us → vs[i]? = some v → ∃ u, us[i]? = some u ∧ Rep C φ F H v u
  | _, _, _, _, .nil, e => by simp at e
  | _, _, 0, v, .cons h1 _, e => by simp at e; subst e; exact ⟨_, rfl, h1⟩
  | _, _, i + 1, v, .cons _ h2, e => by
    obtain ⟨u, e1, r⟩ := RepL.get (i := i) h2 (by simpa using e)
    exact ⟨u, by simpa using e1, r⟩
theorem RepL.get' : ∀ {vs : List AV} {us : List V} {i : Nat} {u : V}, RepL C φ F H vs us → us[i]? = some u → ∃ v, vs[i]? = some v ∧ Rep C φ F H v u
  | _, _, _, _, .nil, e => by simp at e
  | _, _, 0, v, .cons h1 _, e => by simp at e; subst e; exact ⟨_, rfl, h1⟩
  | _, _, i + 1, v, .cons _ h2, e => by
    obtain ⟨u, e1, r⟩ := RepL.get' (i := i) h2 (by simpa using e)
    exact ⟨u, by simpa using e1, r⟩
theorem RepL.set {v : AV} {u : V} (r : Rep C φ F H v u) : ∀ {vs : List AV} {us : List V} (i : Nat), RepL C φ F H vs us → RepL C φ F H (vs.set i v) (us.set i u)
  | _, _, _, .nil => .nil
  | _, _, 0, .cons _ h2 => .cons r h2
  | _, _, i + 1, .cons h1 h2 => .cons h1 (RepL.set r i h2)
theorem RepL.drop : ∀ {vs : List AV} {us : List V} (n : Nat), RepL C φ F H vs us → RepL C φ F H (vs.drop n) (us.drop n)
  | _, _, 0, h => by simpa using h
  | _, _, n + 1, .nil => by simpa using RepL.nil
  | _, _, n + 1, .cons _ h2 => by simpa using RepL.drop n h2
theorem RepL.take : ∀ {vs : List AV} {us : List V} (n : Nat), RepL C φ F H vs us → RepL C φ F H (vs.take n) (us.take n)
  | _, _, 0, h => by simpa using RepL.nil
  | _, _, n + 1, .nil => by simpa using RepL.nil
  | _, _, n + 1, .cons h1 h2 => by simpa using RepL.cons h1 (RepL.take n h2)
theorem RepL.rep {vs : List AV} {us : List V} (h : RepL C φ F H vs us) : ∀ k : Nat, RepL C φ F H (List.replicate k vs).flatten (List.replicate k us).flatten
  | 0 => by simpa using RepL.nil
  | k + 1 => by
    rw [List.replicate_succ, List.replicate_succ, List.flatten_cons, List.flatten_cons]
    exact h.append (RepL.rep h k)
theorem RepL.slice {vs : List AV} {us : List V} (h : RepL C φ F H vs us) (lo hi : Option Int) : RepL C φ F H (cutA vs lo hi) (cutV us lo hi) := by
  unfold cutA cutV
  rw [h.length]
  exact (h.drop _).take _
theorem RepL.nil_iff {vs : List AV} {us : List V} (h : RepL C φ F H vs us) : vs.isEmpty = us.isEmpty := by
  cases h <;> rfl
theorem RepL.intsR : ∀ (ns : List Int), RepL C φ F H (ns.map .int) (ns.map .int)
  | [] => .nil
  | n :: ns => .cons (.int n) (RepL.intsR ns)
/-- an object of the abstract heap -/
def ORep (C : Cfg) (φ : List Addr) (F : FZ) (H : Hp) (p : Addr) : AO → Prop
  | .lst xs => ¬ F p ∧ ∃ ys, H p = some (.lst ys) ∧ RepL C φ F H xs ys
  | .ins c ns vs => ¬ F p ∧ ∃ dx ys, H p = some (.ins (C.ca c) dx (namesZ C ns ys)) ∧ (∀ n ∈ ns, n ∈ (C.P.cl? c).flds) ∧ ns.length = vs.length ∧ RepL C φ F H vs ys
  | _ => False
structure HR (C : Cfg) (φ : List Addr) (F : FZ) (S : HS) (H : Hp) : Prop where
  len : φ.length = S.length
  nd : φ.Nodup
  obj : ∀ (n : Nat) (o : AO) (p : Addr), S[n]? = some o → φ[n]? = some p → ORep C φ F H p o
  frz : ∀ p, F p → H p ≠ none
  zj : ∀ p, F.z p → H p ≠ none ∧ ¬ F p ∧ p ∉ φ
theorem ORep.there {p : Addr} {o : AO} (h : ORep C φ F H p o) : H p ≠ none := by
  cases o with
  | lst xs => obtain ⟨_, ys, e, _⟩ := h; rw [e]; simp
  | ins c ns vs => obtain ⟨_, dx, ys, e, _⟩ := h; rw [e]; simp
  | dead => exact h.elim
  | dct _ _ => exact h.elim
theorem ORep.nf {p : Addr} {o : AO} (h : ORep C φ F H p o) : ¬ F p := by
  cases o with
  | lst xs => exact h.1
  | ins c ns vs => exact h.1
  | dead => exact h.elim
  | dct _ _ => exact h.elim
/-- the object's own address kept, the rest as told -/
theorem ORep.monoF {p : Addr} {o : AO} (l : Le φ φ') (x : ∀ p, F p → F' p ∧ H' p = H p) (hp : H' p = H p) (hf : ¬ F' p) (h : ORep C φ F H p o) : ORep C φ' F' H' p o := by
  cases o with
  | lst xs => obtain ⟨_, ys, e, r⟩ := h; exact ⟨hf, ys, hp.trans e, RepL.monoF l x _ _ r⟩
  | ins c ns vs => obtain ⟨_, dx, ys, e, r1, r2, r⟩ := h; exact ⟨hf, dx, ys, hp.trans e, r1, r2, RepL.monoF l x _ _ r⟩
  | dead => exact h.elim
  | dct _ _ => exact h.elim
theorem ORep.mono {p : Addr} {o : AO} (l : Le φ φ') (x : Ext F H F' H') (hp : H' p = H p) (hf : ¬ F' p) (h : ORep C φ F H p o) : ORep C φ' F' H' p o := h.monoF l x.f hp hf
variable {S : HS}
theorem HR.at (R : HR C φ F S H) {n : Nat} {o : AO} (e : S[n]? = some o) : ∃ p, φ[n]? = some p ∧ ORep C φ F H p o := by
  have hl : n < φ.length := by rw [R.len]; exact (List.getElem?_eq_some_iff.mp e).1
  exact ⟨φ[n], by simp [hl], R.obj n o _ e (by simp [hl])⟩
theorem HR.at' (R : HR C φ F S H) {n : Nat} {p : Addr} (e : φ[n]? = some p) : ∃ o, S[n]? = some o ∧ ORep C φ F H p o := by
  have hl : n < S.length := by rw [← R.len]; exact (List.getElem?_eq_some_iff.mp e).1
  exact ⟨S[n], by simp [hl], R.obj n _ p (by simp [hl]) e⟩
theorem HR.freshZ (R : HR C φ F S H) {p : Addr} (h : H p = none) : ¬ F.z p := fun q => (R.zj p q).1 h
theorem HR.fresh (R : HR C φ F S H) {p : Addr} (h : H p = none) : ¬ F p ∧ p ∉ φ := by
  refine ⟨fun q => R.frz p q h, fun q => ?_⟩
  obtain ⟨n, e⟩ := List.getElem?_of_mem q
  obtain ⟨o, _, r⟩ := R.at' e
  exact r.there h
theorem nodup_at {α : Type} : ∀ {l : List α} {i j : Nat} {a : α}, l.Nodup → l[i]? = some a → l[j]? = some a → i = j
  | [], _, _, _, _, h, _ => by simp at h
  | b :: l, 0, 0, a, _, _, _ => rfl
  | b :: l, 0, j + 1, a, nd, h1, h2 => by
    simp at h1 h2; subst h1
    exact absurd (List.mem_of_getElem? h2) (List.nodup_cons.mp nd).1
  | b :: l, i + 1, 0, a, nd, h1, h2 => by
    simp at h1 h2; subst h2
    exact absurd (List.mem_of_getElem? h1) (List.nodup_cons.mp nd).1
  | b :: l, i + 1, j + 1, a, nd, h1, h2 => by
    have := nodup_at (List.nodup_cons.mp nd).2 (i := i) (j := j) (by simpa using h1) (by simpa using h2)
    omega
/-- a new thing that is frozen at once -/
def FZ.add (F : FZ) (p : Addr) : FZ := ⟨fun q => F q ∨ q = p, F.z⟩
theorem HR.newF (R : HR C φ F S H) {p : Addr} (h : H p = none) (o : HO) : HR C φ (F.add p) S (upd H p o) ∧ Ext F H (F.add p) (upd H p o) := by
  obtain ⟨hF, hφ⟩ := R.fresh h
  have hZ := R.freshZ h
  have x : Ext F H (F.add p) (upd H p o) := ⟨fun q hq => ⟨.inl hq, upd_ne fun e => hF (e ▸ hq)⟩, fun q hq => ⟨hq, upd_ne fun e => hZ (e ▸ hq)⟩⟩
  refine ⟨⟨R.len, R.nd, fun n o' q e1 e2 => ?_, fun q hq => ?_, fun q hq => ?_⟩, x⟩
  · have hq : q ≠ p := fun e => hφ (e ▸ List.mem_of_getElem? e2)
    have r := R.obj n o' q e1 e2
    exact r.mono Le.rfl' x (upd_ne hq) fun z => z.elim r.nf hq
  · rcases hq with hq | rfl
    · rw [upd_ne (show q ≠ p from fun e => hF (e ▸ hq))]; exact R.frz q hq
    · rw [upd_same]; simp
  · have hq' : F.z q := hq
    have hne : q ≠ p := fun e => hZ (e ▸ hq')
    obtain ⟨h1, h2, h3⟩ := R.zj q hq'
    exact ⟨by rw [upd_ne hne]; exact h1, fun z => z.elim h2 hne, h3⟩
/-- a new object of the abstract heap -/
theorem HR.newL (R : HR C φ F S H) {p : Addr} (h : H p = none) {o : HO} {a : AO} (ho : ∀ H', H' p = some o → Ext F H F H' → ORep C (φ ++ [p]) F H' p a) : HR C (φ ++ [p]) F (S ++ [a]) (upd H p o) ∧ Ext F H F (upd H p o) := by
  obtain ⟨hF, hφ⟩ := R.fresh h
  have hZ := R.freshZ h
  have x : Ext F H F (upd H p o) := ⟨fun q hq => ⟨hq, upd_ne fun e => hF (e ▸ hq)⟩, fun q hq => ⟨hq, upd_ne fun e => hZ (e ▸ hq)⟩⟩
  refine ⟨⟨by simp [R.len], by rw [List.nodup_append]; exact ⟨R.nd, by simp, fun a ha b hb => by simp at hb; subst hb; exact fun e => hφ (e ▸ ha)⟩, fun n o' q e1 e2 => ?_, fun q hq => ?_, fun q hq => ?_⟩, x⟩
  · by_cases hn : n < S.length
    · rw [List.getElem?_append_left hn] at e1
      rw [List.getElem?_append_left (by rw [R.len]; exact hn)] at e2
      have hq : q ≠ p := fun e => hφ (e ▸ List.mem_of_getElem? e2)
      have r := R.obj n o' q e1 e2
      exact r.mono ⟨[p], rfl⟩ x (upd_ne hq) r.nf
    · have hn' : n = S.length := by
        have := (List.getElem?_eq_some_iff.mp e1).1
        simp at this
        omega
      subst hn'
      rw [List.getElem?_append_right (Nat.le_refl _)] at e1
      rw [List.getElem?_append_right (by rw [R.len]; exact Nat.le_refl _)] at e2
      simp [R.len] at e1 e2
      subst e1 e2
      exact ho _ upd_same x
  · rw [upd_ne (show q ≠ p from fun e => hF (e ▸ hq))]; exact R.frz q hq
  · have hne : q ≠ p := fun e => hZ (e ▸ hq)
    obtain ⟨h1, h2, h3⟩ := R.zj q hq
    exact ⟨by rw [upd_ne hne]; exact h1, h2, by simp [h3, hne]⟩
/-- an object of the abstract heap is written -/
theorem HR.put (R : HR C φ F S H) {n : Nat} {p : Addr} (e : φ[n]? = some p) {o : HO} {a : AO} (ho : ∀ H', H' p = some o → Ext F H F H' → ORep C φ F H' p a) : HR C φ F (S.set n a) (upd H p o) ∧ Ext F H F (upd H p o) := by
  obtain ⟨o0, e0, r0⟩ := R.at' e
  have hF := r0.nf
  have hZ : ¬ F.z p := fun z => (R.zj p z).2.2 (List.mem_of_getElem? e)
  have x : Ext F H F (upd H p o) := ⟨fun q hq => ⟨hq, upd_ne fun e => hF (e ▸ hq)⟩, fun q hq => ⟨hq, upd_ne fun e => hZ (e ▸ hq)⟩⟩
  refine ⟨⟨by simp [R.len], R.nd, fun m o' q e1 e2 => ?_, fun q hq => ?_, fun q hq => ?_⟩, x⟩
  · by_cases hm : n = m
    · subst hm
      rw [e] at e2; cases e2
      have hl := (List.getElem?_eq_some_iff.mp e0).1
      rw [List.getElem?_set_self hl] at e1
      cases e1
      exact ho _ upd_same x
    · rw [List.getElem?_set_ne hm] at e1
      have hq : q ≠ p := fun z => by
        subst z
        exact hm (nodup_at R.nd e e2)
      have r := R.obj m o' q e1 e2
      exact r.mono Le.rfl' x (upd_ne hq) r.nf
  · rw [upd_ne (show q ≠ p from fun z => hF (z ▸ hq))]; exact R.frz q hq
  · have hne : q ≠ p := fun e => hZ (e ▸ hq)
    obtain ⟨h1, h2, h3⟩ := R.zj q hq
    exact ⟨by rw [upd_ne hne]; exact h1, h2, h3⟩
/-! ### what is let go is frozen -/
mutual
theorem Rep.noRef : ∀ (v : AV) (u : V), Rep C φ F H v u → NoRef φ.length v
  | .non, _, _ => trivial
  | .bl _, _, _ => trivial
  | .int _, _, _ => trivial
  | .str _, _, _ => trivial
  | .tup xs, _, h => by
    cases h with
    | tup _ _ h3 => exact RepL.noRef xs _ h3
  | .lst xs, _, h => by
    cases h with
    | lst _ _ h3 => exact RepL.noRef xs _ h3
  | .dct _ _, _, h => by cases h
  | .obj c ns vs, _, h => by
    cases h with
    | obj _ _ _ _ h5 => exact RepL.noRef vs _ h5
  | .slst _, _, _ => trivial
  | .ref n, _, h => by
    cases h with
    | ref h1 => exact (List.getElem?_eq_some_iff.mp h1).1
  | .fn _, _, _ => trivial
  | .cls _, _, _ => trivial
  | .ty _, _, _ => trivial
theorem RepL.noRef : ∀ (vs : List AV) (us : List V), RepL C φ F H vs us → NoRefs φ.length vs
  | [], _, _ => trivial
  | v :: vs, _, h => by
    cases h with
    | cons h1 h2 => exact ⟨Rep.noRef v _ h1, RepL.noRef vs _ h2⟩
end
theorem ORep.noRef {p : Addr} {o : AO} (h : ORep C φ F H p o) : NoRefO φ.length o := by
  cases o with
  | lst xs => obtain ⟨_, ys, _, r⟩ := h; exact RepL.noRef xs _ r
  | ins c ns vs => obtain ⟨_, dx, ys, _, _, _, r⟩ := h; exact RepL.noRef vs _ r
  | dead => exact h.elim
  | dct _ _ => exact h.elim
mutual
theorem Rep.cut (k : Nat) : ∀ (v : AV) (u : V), Rep C φ F H v u → NoRef k v → Rep C (φ.take k) F H v u
  | .non, _, h, _ => by cases h; exact .non
  | .bl _, _, h, _ => by cases h; exact .bl _
  | .int _, _, h, _ => by cases h; exact .int _
  | .str _, _, h, _ => by cases h; exact .str _
  | .tup xs, _, h, n => by
    cases h with
    | tup h1 h2 h3 => exact .tup h1 h2 (RepL.cut k xs _ h3 n)
  | .lst xs, _, h, n => by
    cases h with
    | lst h1 h2 h3 => exact .lst h1 h2 (RepL.cut k xs _ h3 n)
  | .dct _ _, _, h, _ => by cases h
  | .obj c ns vs, _, h, n => by
    cases h with
    | obj h1 h2 h3 h4 h5 => exact .obj h1 h2 h3 h4 (RepL.cut k vs _ h5 n)
  | .slst _, _, h, _ => by
    cases h with
    | slst h1 h2 => exact .slst h1 h2
    | slstK h1 => exact .slstK h1
  | .ref m, _, h, n => by
    cases h with
    | ref h1 => exact .ref (by rw [List.getElem?_take_of_lt (show m < k from n)]; exact h1)
  | .fn _, _, h, _ => by cases h; exact .fn _
  | .cls _, _, h, _ => by cases h; exact .cls _
  | .ty _, _, h, _ => by cases h; exact .ty _
theorem RepL.cut (k : Nat) : ∀ (vs : List AV) (us : List V), RepL C φ F H vs us → NoRefs k vs → RepL C (φ.take k) F H vs us
  | [], _, h, _ => by cases h; exact .nil
  | v :: vs, _, h, n => by
    cases h with
    | cons h1 h2 => exact .cons (Rep.cut k v _ h1 n.1) (RepL.cut k vs _ h2 n.2)
end
/-- all from the k-th on is frozen -/
def FrzF (F : FZ) (φ : List Addr) (k : Nat) : FZ := ⟨fun p => F p ∨ ∃ n, k ≤ n ∧ φ[n]? = some p, F.z⟩
theorem FrzF.ext {k : Nat} : Ext F H (FrzF F φ k) H := ⟨fun _ h => ⟨.inl h, rfl⟩, fun _ h => ⟨h, rfl⟩⟩
theorem frz_ok (R : HR C φ F S H) (k : Nat) : ∀ (z : Nat) (v : AV) (u : V), Rep C φ F H v u → Rep C φ (FrzF F φ k) H (frz S k z v) u := by
  have x : Ext F H (FrzF F φ k) H := FrzF.ext
  intro z
  induction z with
  | zero => intro v u h; exact Rep.mono Le.rfl' x v u h
  | succ z ih =>
    have ihL : ∀ (vs : List AV) (us : List V), RepL C φ F H vs us → RepL C φ (FrzF F φ k) H (vs.map (frz S k z)) us := by
      intro vs
      induction vs with
      | nil => intro us h; cases h; exact .nil
      | cons v vs ihv =>
        intro us h
        cases h with
        | cons h1 h2 => exact .cons (ih _ _ h1) (ihv _ h2)
    intro v u h
    cases h with
    | ref h1 =>
      rename_i n p
      show Rep C φ (FrzF F φ k) H (if n < k then .ref n else _) _
      by_cases hn : n < k
      · rw [if_pos hn]; exact .ref h1
      · rw [if_neg hn]
        obtain ⟨o, e, r⟩ := R.at' h1
        have hF : FrzF F φ k p := .inr ⟨n, by omega, h1⟩
        rw [e]
        cases o with
        | lst xs => obtain ⟨_, ys, e2, r2⟩ := r; exact .lst hF e2 (ihL _ _ r2)
        | ins c ns vs => obtain ⟨_, dx, ys, e2, r3, r4, r2⟩ := r; exact .obj hF e2 r3 (by simpa using r4) (ihL _ _ r2)
        | dead => exact r.elim
        | dct _ _ => exact r.elim
    | tup h1 h2 h3 => exact .tup (x.f _ h1).1 h2 (ihL _ _ h3)
    | lst h1 h2 h3 => exact .lst (x.f _ h1).1 h2 (ihL _ _ h3)
    | non => exact .non
    | bl b => exact .bl b
    | int i => exact .int i
    | str s => exact .str s
    | obj h1 h2 h3 h4 h5 => exact Rep.mono Le.rfl' x _ _ (.obj h1 h2 h3 h4 h5)
    | slst h1 h2 => exact .slst (x.f _ h1).1 h2
    | slstK h1 => exact .slstK h1
    | fn k => exact .fn k
    | cls k => exact .cls k
    | ty k => exact .ty k
theorem Le.take {φ0 : List Addr} (l : Le φ0 φ) : φ.take φ0.length = φ0 := by
  obtain ⟨t, rfl⟩ := l
  simp
/-- what is new is let go: the old objects stand -/
theorem HR.let_go {φ0 : List Addr} {F0 : FZ} {S0 : HS} {H0 : Hp} (R0 : HR C φ0 F0 S0 H0) (l : Le φ0 φ) (R : HR C φ F S H) (tk : TakeOk S0 S) : HR C φ0 (FrzF F φ S0.length) (S.take S0.length) H := by
  have x : Ext F H (FrzF F φ S0.length) H := FrzF.ext
  have hlen : φ0.length ≤ φ.length := by
    obtain ⟨t, rfl⟩ := l
    simp
  have hl0 := R0.len
  have hl := R.len
  refine ⟨?_, R0.nd, fun n o p e1 e2 => ?_, fun p hp => ?_, fun p hp => ?_⟩
  · rw [List.length_take]; omega
  · have hn : n < S0.length := by rw [← hl0]; exact (List.getElem?_eq_some_iff.mp e2).1
    rw [List.getElem?_take_of_lt hn] at e1
    have e3 := l.get e2
    have r := R.obj n o p e1 e3
    have nr : NoRefO S0.length o := by
      rcases tk n o e1 hn with h | h
      · have h2 := (R0.obj n o p h e2).noRef
        rw [hl0] at h2
        exact h2
      · exact h
    have hF : ¬ FrzF F φ S0.length p := by
      rintro (q | ⟨m, hm, q⟩)
      · exact r.nf q
      · have := nodup_at R.nd e3 q
        omega
    have et : φ.take S0.length = φ0 := by rw [← hl0]; exact l.take
    cases o with
    | lst xs =>
      obtain ⟨_, ys, e4, r2⟩ := r
      have r3 := RepL.mono Le.rfl' x _ _ (RepL.cut S0.length xs ys r2 nr)
      rw [et] at r3
      exact ⟨hF, ys, e4, r3⟩
    | ins c ns vs =>
      obtain ⟨_, dx, ys, e4, r4, r5, r2⟩ := r
      have r3 := RepL.mono Le.rfl' x _ _ (RepL.cut S0.length vs ys r2 nr)
      rw [et] at r3
      exact ⟨hF, dx, ys, e4, r4, r5, r3⟩
    | dead => exact r.elim
    | dct _ _ => exact r.elim
  · rcases hp with hp | ⟨n, _, e⟩
    · exact R.frz p hp
    · obtain ⟨o, _, r⟩ := R.at' e
      exact r.there
  · obtain ⟨h1, h2, h3⟩ := R.zj p hp
    refine ⟨h1, fun z => ?_, fun z => ?_⟩
    · rcases z with z | ⟨n, _, e⟩
      · exact h2 z
      · exact h3 (List.mem_of_getElem? e)
    · obtain ⟨t, rfl⟩ := l
      exact h3 (List.mem_append_left _ z)
theorem ret_ok {φ0 : List Addr} {F0 : FZ} {S0 : HS} {H0 : Hp} (R0 : HR C φ0 F0 S0 H0) (l : Le φ0 φ) (R : HR C φ F S H) {v : AV} {u : V} (r : Rep C φ F H v u) {z : Nat} (tk : TakeOk S0 S) (nr : NoRef S0.length (frz S S0.length z v)) :
    HR C φ0 (FrzF F φ S0.length) (S.take S0.length) H ∧ Rep C φ0 (FrzF F φ S0.length) H (frz S S0.length z v) u := by
  refine ⟨R0.let_go l R tk, ?_⟩
  have r2 := Rep.cut S0.length _ _ (frz_ok R S0.length z v u r) nr
  have et : φ.take S0.length = φ0 := by rw [← R0.len]; exact l.take
  rw [et] at r2
  exact r2
end
end MP
namespace MP
open PySem PySem.Spec L2
open PyProof.Rows hiding St
/-! tuple * 1: the tuple itself; () * k -/
theorem tuple_mul1 (l : Addr) (items : Array Value) (n : Nat) (dd : Option Addr) (sl : Array (Option Value)) (x : Int) (u : Tok) (c0 : (decide (x < -(2 ^ 63)) || decide (x ≥ 2 ^ 63)) = false) (c1 : (items.isEmpty || x == 1) = true) :
    Meets (Builtin.«tuple.__mul__» ⟨[.ref l, .int x u], []⟩) (fun _ R s => s.heap.get? l = some { cls := .type "tuple", dict := dd, data := .seq items n, slots := sl } ∧
      R (.ok (.ret (Value.ref l))) s) :=
  .of_wp fun prog w A R s h => by
    obtain ⟨hp, g, d, tk, os⟩ := s
    obtain ⟨hl, h⟩ := h
    have f1 := AutoSeq1.idx_int
    wp_walk using wpAny_loadPart' hl
    repeat (first
      | (refine wpAny_ite_false (decide_eq_false (by rw [c0]; exact Bool.false_ne_true)) ?_; wp_walk using wpAny_loadPart' hl)
      | (refine wpAny_ite_true (decide_eq_true (by rw [c1])) ?_; wp_walk using wpAny_loadPart' hl))
    exact ⟨_, rfl, h⟩
section
variable {X : Cx}
def rRepT1 (K : PySem.W.Frag) : R2 := fun x y H Q => ∃ l xs, x = .ref l ∧ y = .int 1 ∧ SqT K H l xs ∧ Q (.ref l) H
theorem op_repT1 : OpR X (binaryOp .Mult) (rRepT1 X.K) := by
  intro pins s σ H x y v u Q I rx ry h
  obtain ⟨l, xs, rfl, rfl, hT, q⟩ := h
  cases rx
  obtain ⟨t, rfl⟩ := ry
  obtain ⟨its, r, ⟨⟨cls, dd, data, sl⟩, ho, hc, n, hd⟩, hs⟩ := I.tuple hT
  simp only at hc hd
  subst hc hd
  exact wpAny_binaryOp_repeat_ref (T := "tuple") (U := "int") (by decide) ⟨_, ho, rfl⟩ (fun s' => typeIs_int s' 1 t) noFill_tuple_mul F.fills_int_mul F.slot_int_rmul repeat_tuple F.slot_int_index.lookup
    (call_meets F.slot_int_rmul (typeIs_int s 1 t) F.entry_int_rmul (F.args_int_rmul_2 _ _) (int_rmul_tuple 1 t l its.toArray n dd sl)
      ⟨ho, rfl, ⟨_, ho, rfl⟩, call_meets F.slot_tuple_mul ⟨_, ho, rfl⟩ F.entry_tuple_mul (F.args_tuple_mul_2 _ _) (tuple_mul1 l its.toArray n dd sl 1 t (by decide) (by simp)) ⟨ho, ⟨.ref l, H, I, rfl, q⟩⟩⟩)
end
end MP
/-! MP2c: x != y where the class has an own == and no own !=. -/
namespace MP
open PySem PySem.Spec PySem.W
section
variable {prog : Program} {w : World} {A A₀ : Around} {E : Value → Shared → Prop} {s : Shared} {K : Frag} {x C L f : Addr} {h₀ : Heap} {m : Str → Option Value} {ox : Obj} {od : Option Obj} {name : Str} {b tb : Value}
theorem slot_obj_ne : Slot "object" "__ne__" "object.__ne__" :=
  .of (owner := "object") (n := "__ne__") (by rw [typeLookup_type, builtinLookup_eq_fast]; kernel_rfl) (by decide +kernel) (by decide +kernel) (by decide +kernel)
    (.inl (by decide +kernel)) (by rw [isSubtype_type]; kernel_rfl)
/-- the built-in != of objects calls the own == -/
theorem objNe_K {Q : PySem.Fin → Shared → Prop} (hu : A.units < cLine) (X : K.In s.heap) (I : InstAt s.heap x ox C od) (hs : findIn K (.ref C) "__eq__" = some (some (.ref f))) (hf : isFn K (.ref f) = true)
    (h : wpAny (model prog w) A (call (.ref f) [.ref x, b]) (fun v s' => ∃ k, v = .bool k ∧ Q (.done (.ret (.bool (!k)))) s') E s) : wpAny (model prog w) A (Builtin.«object.__ne__» ⟨[.ref x, b], []⟩) Q E s := by
  obtain ⟨hp, g, d, t, os⟩ := s
  unfold Builtin.«object.__ne__»
  repeat (first
    | with_reducible refine wpAny_cRoomFor hu ?_
    | (refine wpAny_bind (m := callSpecialIfBound? (.ref x) (Str.ofString "__eq__") [b])
        (ifBound_K X I hs hf (wpAny_mono h (fun r s' hr => by
          obtain ⟨b, rfl, hq⟩ := hr
          repeat (first | exact hq | exact wpAny_pure hq | exact wpAny_truthy_bool hq | (refine wpAny_bind (m := truthy (.bool _)) (wpAny_truthy_bool ?_)) | wp_step)) fun _ _ e => e)))
    | wp_step)
theorem ne_K {Q : Value → Shared → Prop} (hu : A.units + 1 < cLine) (X : K.In s.heap) (I : InstAt s.heap x ox C od) (hb : Looks (model prog w) s.heap (typeOf b) tb) (hn : notFirst K C tb = true)
    (hne : findIn K (.ref C) "__ne__" = some (some (.builtin "object.__ne__"))) (hm : mroIn K C (.type "object") = some true)
    (hs : findIn K (.ref C) "__eq__" = some (some (.ref f))) (hf : isFn K (.ref f) = true)
    (h : wpAny (model prog w) A.in1 (call (.ref f) [.ref x, b]) (fun v s' => ∃ k, v = .bool k ∧ Q (.bool (!k)) s') E s) : wpAny (model prog w) A (richCompare .NotEq (.ref x) b) Q E s := by
  have hb1 := slot_obj_ne.bind (.ref x)
  have sub : Looks (model prog w) s.heap (isInstance (.ref x) (.type "object")) true := I.type.andThen (looks_mroIn X hm)
  have fin : wpAny (model prog w) A (call (.builtin "object.__ne__") ([.ref x] ++ [b])) (fun v s' => ∃ k, v = .bool k ∧ Q (.bool k) s') E s := by
    refine wpAny_call (codeAny_call_builtin slot_obj_ne.plain F.cmpEntry_ne (check_slot F.cmpKind_ne F.cmpSplit_ne sub (F.cmpArgs_ne _ _) ?_))
    refine objNe_K (A := A.in1) hu X I hs hf (wpAny_mono h (fun v s' hv => ?_) fun _ _ e => e)
    obtain ⟨k, rfl, q⟩ := hv
    exact ⟨k, rfl, _, rfl, q⟩
  have one : wpAny (model prog w) A (tryCompare (.ref x) "__ne__" b) (fun r s' => ∃ v, r = some v ∧ Q v s') E s := by
    unfold tryCompare
    simp only [callSpecialIfBound?, bindSpecialIfBound?]
    refine wpAny_bind (wpAny_holding (wpAny_bind (wpAny_bind (wpAny_bind (I.type.here ((looks_findIn X hne).here ?_))))))
    have fin2 : wpAny (model prog w) A (call (.builtin "object.__ne__") ([.ref x] ++ [b]) >>= fun v => pure (some v)) (fun r s' => wpAny (model prog w) A (match r with
        | some .notImplemented | none => pure none
        | some v => pure (some v)) (fun r s' => ∃ v, r = some v ∧ Q v s') E s') E s := wpAny_bind (wpAny_mono fin (fun v s' h' => by
      obtain ⟨k, rfl, q⟩ := h'
      exact wpAny_pure (wpAny_pure ⟨_, rfl, q⟩)) fun _ _ h' => h')
    refine wpAny_bind (wpAny_askSetting (wpAny_ite ?_))
    split
    · rw [hb1]
      exact wpAny_bind (wpAny_pure (wpAny_pure (by exact fin2)))
    · rw [hb1]
      exact wpAny_tryCatch (wpAny_bind (wpAny_pure (wpAny_pure (by exact fin2))))
  unfold richCompare
  simp only [oneThing_ref]
  refine wpAny_holding (wpAny_bind (wpAny_cRoomFor (Nat.lt_of_succ_lt hu) ?_))
  refine wpAny_bind (I.type.here (wpAny_bind (hb.here ?_)))
  split
  · rename_i q
    have e : subIn K tb (.ref C) = some false := by
      rcases Bool.or_eq_true_iff.mp hn with e | e
      · rw [beq_iff_eq.mp e] at q; simp at q
      · exact beq_iff_eq.mp e
    refine wpAny_bind ((looks_subIn X e).here ?_)
    simp only [Bool.false_eq_true, if_false]
    refine wpAny_bind (wpAny_mono one (fun r s' z => ?_) fun _ _ e => e)
    obtain ⟨v, rfl, hq⟩ := z
    exact wpAny_pure hq
  · refine wpAny_bind (wpAny_pure ?_)
    simp only [Bool.false_eq_true, if_false]
    refine wpAny_bind (wpAny_mono one (fun r s' z => ?_) fun _ _ e => e)
    obtain ⟨v, rfl, hq⟩ := z
    exact wpAny_pure hq
end
end MP
/-! MP3: the mini semantics is sound for the layer's judgements: expressions. -/
namespace MP
open PySem PySem.Spec L2
open PyProof.Rows hiding St
theorem line_eq : LINE = sizeLine := by rw [sizeLine_eq]; rfl
/-- slots -/
def RepS (C : Cfg) (φ : List Addr) (F : FZ) (H : Hp) (σa : Sg) (σ : St) : Prop := σa.length = σ.length ∧ ∀ (i : Nat) (v : AV), σa[i]? = some (some v) → ∃ u, σ[i]? = some (some u) ∧ Rep C φ F H v u
/-- what is wanted of a value, lifted -/
def NxV (C : Cfg) (φ : List Addr) (F : FZ) (H : Hp) (Qa : AV → HS → Prop) (Q : VK) : Prop :=
  ∀ v S' φ' F' H' u, Le φ φ' → Ext F H F' H' → HR C φ' F' S' H' → Rep C φ' F' H' v u → Qa v S' → Q u H'
def NxL (C : Cfg) (φ : List Addr) (F : FZ) (H : Hp) (Qa : List AV → HS → Prop) (Q : List V → Hp → Prop) : Prop :=
  ∀ vs S' φ' F' H' us, Le φ φ' → Ext F H F' H' → HR C φ' F' S' H' → RepL C φ' F' H' vs us → Qa vs S' → Q us H'
def NxB (C : Cfg) (φ : List Addr) (F : FZ) (H : Hp) (Qa : Bool → HS → Prop) (Q : Bool → Hp → Prop) : Prop :=
  ∀ b S' φ' F' H', Le φ φ' → Ext F H F' H' → HR C φ' F' S' H' → Qa b S' → Q b H'
def NxS (C : Cfg) (φ : List Addr) (F : FZ) (H : Hp) (Qa : Sg → HS → Prop) (Q : St → Hp → Prop) : Prop :=
  ∀ σa S' φ' F' H' σ, Le φ φ' → Ext F H F' H' → HR C φ' F' S' H' → RepS C φ' F' H' σa σ → Qa σa S' → Q σ H'
section
variable {C : Cfg} {φ φ' : List Addr} {F F' : FZ} {H H' : Hp} {S S' : HS}
theorem RepS.mono {σa : Sg} {σ : St} (l : Le φ φ') (x : Ext F H F' H') (r : RepS C φ F H σa σ) : RepS C φ' F' H' σa σ := ⟨r.1, fun i v e => by
  obtain ⟨u, h1, h2⟩ := r.2 i v e
  exact ⟨u, h1, Rep.mono l x v u h2⟩⟩
theorem RepS.set {σa : Sg} {σ : St} (r : RepS C φ F H σa σ) {i : Nat} {v : AV} {u : V} (h : Rep C φ F H v u) : RepS C φ F H (σa.set i (some v)) (σ.set i (some u)) := ⟨by rw [List.length_set, List.length_set]; exact r.1, fun j w e => by
  by_cases hj : i = j
  · subst hj
    by_cases hl : i < σa.length
    · rw [List.getElem?_set_self hl] at e
      cases e
      exact ⟨u, by rw [List.getElem?_set_self (r.1 ▸ hl)], h⟩
    · rw [List.getElem?_eq_none (by simpa using hl)] at e; cases e
  · rw [List.getElem?_set_ne hj] at e
    obtain ⟨x, h1, h2⟩ := r.2 j w e
    exact ⟨x, by rw [List.getElem?_set_ne hj]; exact h1, h2⟩⟩
theorem RepS.wipe {σa : Sg} {σ : St} (r : RepS C φ F H σa σ) : ∀ vs : List Nat, RepS C φ F H (wipeA σa vs) (L2.wipe σ vs)
  | [] => r
  | v :: vs => by
    have r' := RepS.wipe r vs
    unfold wipeA L2.wipe
    refine ⟨by rw [List.length_set, List.length_set]; exact r'.1, fun j w e => ?_⟩
    by_cases hj : v = j
    · subst hj
      by_cases hl : v < (wipeA σa vs).length
      · rw [List.getElem?_set_self hl] at e; cases e
      · rw [List.getElem?_eq_none (by simpa using hl)] at e; cases e
    · rw [List.getElem?_set_ne hj] at e
      obtain ⟨x, h1, h2⟩ := r'.2 j w e
      exact ⟨x, by rw [List.getElem?_set_ne hj]; exact h1, h2⟩
theorem NxV.mono {Qa : AV → HS → Prop} {Q : VK} (l : Le φ φ') (x : Ext F H F' H') (n : NxV C φ F H Qa Q) : NxV C φ' F' H' Qa Q := fun v S1 φ1 F1 H1 u l1 x1 => n v S1 φ1 F1 H1 u (l.trans l1) (x.trans x1)
theorem NxL.mono {Qa : List AV → HS → Prop} {Q : List V → Hp → Prop} (l : Le φ φ') (x : Ext F H F' H') (n : NxL C φ F H Qa Q) : NxL C φ' F' H' Qa Q := fun v S1 φ1 F1 H1 u l1 x1 => n v S1 φ1 F1 H1 u (l.trans l1) (x.trans x1)
theorem NxB.mono {Qa : Bool → HS → Prop} {Q : Bool → Hp → Prop} (l : Le φ φ') (x : Ext F H F' H') (n : NxB C φ F H Qa Q) : NxB C φ' F' H' Qa Q := fun b S1 φ1 F1 H1 l1 x1 => n b S1 φ1 F1 H1 (l.trans l1) (x.trans x1)
theorem NxS.mono {Qa : Sg → HS → Prop} {Q : St → Hp → Prop} (l : Le φ φ') (x : Ext F H F' H') (n : NxS C φ F H Qa Q) : NxS C φ' F' H' Qa Q := fun v S1 φ1 F1 H1 u l1 x1 => n v S1 φ1 F1 H1 u (l.trans l1) (x.trans x1)
/-- what is wanted at once -/
theorem NxV.now {Qa : AV → HS → Prop} {Q : VK} (n : NxV C φ F H Qa Q) (R : HR C φ F S H) {v : AV} {u : V} (r : Rep C φ F H v u) (q : Qa v S) : Q u H := n v S φ F H u Le.rfl' Ext.rfl' R r q
/-- a new frozen thing is what is wanted -/
theorem NxV.new {Qa : AV → HS → Prop} {Q : VK} (n : NxV C φ F H Qa Q) (R : HR C φ F S H) {p : Addr} (hp : H p = none) {o : HO} {v : AV}
    (h : ∀ (F' : FZ) H', F' p → H' p = some o → Ext F H F' H' → Rep C φ F' H' v (.ref p)) (q : Qa v S) : Q (.ref p) (upd H p o) := by
  obtain ⟨R', x⟩ := R.newF hp o
  exact n v S φ _ _ _ Le.rfl' x R' (h _ _ (.inr rfl) upd_same x) q
/-! ### values seen through the abstract heap -/
theorem view_int (R : HR C φ F S H) {v : AV} {u : V} (r : Rep C φ F H v u) {i : Int} (e : vw S v = .int i) : u = .int i := by
  cases r with
  | ref h1 =>
    obtain ⟨o, e2, r2⟩ := R.at' h1
    unfold vw at e
    simp only [e2] at e
    cases o with
    | lst xs => cases e
    | ins c ns vs => cases e
    | dead => exact r2.elim
    | dct _ _ => exact r2.elim
  | int j => cases e; rfl
  | _ => cases e
theorem view_str (R : HR C φ F S H) {v : AV} {u : V} (r : Rep C φ F H v u) {x : Str} (e : vw S v = .str x) : u = .str x := by
  cases r with
  | ref h1 =>
    obtain ⟨o, e2, r2⟩ := R.at' h1
    unfold vw at e
    simp only [e2] at e
    cases o with
    | lst xs => cases e
    | ins c ns vs => cases e
    | dead => exact r2.elim
    | dct _ _ => exact r2.elim
  | str j => cases e; rfl
  | _ => cases e
theorem view_bl (R : HR C φ F S H) {v : AV} {u : V} (r : Rep C φ F H v u) {x : Bool} (e : vw S v = .bl x) : u = .bl x := by
  cases r with
  | ref h1 =>
    obtain ⟨o, e2, r2⟩ := R.at' h1
    unfold vw at e
    simp only [e2] at e
    cases o with
    | lst xs => cases e
    | ins c ns vs => cases e
    | dead => exact r2.elim
    | dct _ _ => exact r2.elim
  | bl j => cases e; rfl
  | _ => cases e
theorem view_non (R : HR C φ F S H) {v : AV} {u : V} (r : Rep C φ F H v u) (e : vw S v = .non) : u = .non := by
  cases r with
  | ref h1 =>
    obtain ⟨o, e2, r2⟩ := R.at' h1
    unfold vw at e
    simp only [e2] at e
    cases o with
    | lst xs => cases e
    | ins c ns vs => cases e
    | dead => exact r2.elim
    | dct _ _ => exact r2.elim
  | non => rfl
  | _ => cases e
theorem view_tup (R : HR C φ F S H) {v : AV} {u : V} (r : Rep C φ F H v u) {xs : List AV} (e : vw S v = .tup xs) : ∃ p ys, u = .ref p ∧ F p ∧ H p = some (.tup ys) ∧ RepL C φ F H xs ys := by
  cases r with
  | ref h1 =>
    obtain ⟨o, e2, r2⟩ := R.at' h1
    unfold vw at e
    simp only [e2] at e
    cases o with
    | lst xs => cases e
    | ins c ns vs => cases e
    | dead => exact r2.elim
    | dct _ _ => exact r2.elim
  | tup h1 h2 h3 => cases e; exact ⟨_, _, rfl, h1, h2, h3⟩
  | _ => cases e
theorem view_lst (R : HR C φ F S H) {v : AV} {u : V} (r : Rep C φ F H v u) {xs : List AV} (e : vw S v = .lst xs) : ∃ p ys, u = .ref p ∧ H p = some (.lst ys) ∧ RepL C φ F H xs ys := by
  cases r with
  | ref h1 =>
    obtain ⟨o, e2, r2⟩ := R.at' h1
    unfold vw at e
    simp only [e2] at e
    cases o with
    | lst xs => cases e; obtain ⟨_, ys, h3, h4⟩ := r2; exact ⟨_, ys, rfl, h3, h4⟩
    | ins c ns vs => cases e
    | dead => exact r2.elim
    | dct _ _ => exact r2.elim
  | lst h1 h2 h3 => cases e; exact ⟨_, _, rfl, h2, h3⟩
  | _ => cases e
theorem view_slst (R : HR C φ F S H) {v : AV} {u : V} (r : Rep C φ F H v u) {xs : List Int} (e : vw S v = .slst xs) : ∃ p, u = .ref p ∧ SqL C.K H p (xs.map V.int) := by
  cases r with
  | ref h1 =>
    obtain ⟨o, e2, r2⟩ := R.at' h1
    unfold vw at e
    simp only [e2] at e
    cases o with
    | lst xs => cases e
    | ins c ns vs => cases e
    | dead => exact r2.elim
    | dct _ _ => exact r2.elim
  | slst h1 h2 => cases e; exact ⟨_, rfl, .inl (.inr ⟨_, h2⟩)⟩
  | slstK h1 => cases e; exact ⟨_, rfl, h1 H⟩
  | _ => cases e
theorem view_obj (R : HR C φ F S H) {v : AV} {u : V} (r : Rep C φ F H v u) {c : Nat} {ns : List Nat} {vs : List AV} (e : vw S v = .obj c ns vs) :
    ∃ p dx ys, u = .ref p ∧ H p = some (.ins (C.ca c) dx (namesZ C ns ys)) ∧ (∀ n ∈ ns, n ∈ (C.P.cl? c).flds) ∧ ns.length = vs.length ∧ RepL C φ F H vs ys := by
  cases r with
  | ref h1 =>
    obtain ⟨o, e2, r2⟩ := R.at' h1
    unfold vw at e
    simp only [e2] at e
    cases o with
    | lst xs => cases e
    | ins c ns vs => cases e; obtain ⟨_, dx, ys, h3, h4, h5, h6⟩ := r2; exact ⟨_, dx, ys, rfl, h3, h4, h5, h6⟩
    | dead => exact r2.elim
    | dct _ _ => exact r2.elim
  | obj h1 h2 h3 h4 h5 => cases e; exact ⟨_, _, _, rfl, h2, h3, h4, h5⟩
  | _ => cases e
theorem truth_ok (R : HR C φ F S H) {v : AV} {u : V} (r : Rep C φ F H v u) {k : Bool} (e : truth S v = some k) : TruV C.K u H k := by
  unfold truth at e
  split at e
  · rename_i h; rw [view_non R r h]; cases e; rfl
  · rename_i h; rw [view_bl R r h]; cases e; rfl
  · rename_i h; rw [view_int R r h]; cases e; rfl
  · rename_i h
    obtain ⟨p, ys, rfl, h1, h2, h3⟩ := view_tup R r h
    cases e
    exact .inr (.inl ⟨ys, .inl (.inl h2), by rw [h3.nil_iff]⟩)
  · rename_i h
    obtain ⟨p, ys, rfl, h2, h3⟩ := view_lst R r h
    cases e
    exact .inl ⟨ys, .inl (.inl h2), by rw [h3.nil_iff]⟩
  · cases e
end
/-! ### judgements -/
def tE (C : Cfg) (cl : CallW) (m : ME) : TE := fun σ H Q => ∃ φ F S σa Qa, HR C φ F S H ∧ RepS C φ F H σa σ ∧ wE C.P cl m σa S Qa ∧ NxV C φ F H Qa Q
def tEs (C : Cfg) (cl : CallW) (m : MEs) : TA := fun σ H Q => ∃ φ F S σa Qa, HR C φ F S H ∧ RepS C φ F H σa σ ∧ wEs C.P cl m σa S Qa ∧ NxL C φ F H Qa Q
/-- a test by its value's truth -/
def tTs (C : Cfg) (cl : CallW) (m : ME) : TT := fun σ H Q => ∃ φ F S σa Qa, HR C φ F S H ∧ RepS C φ F H σa σ ∧ wE C.P cl m σa S (fun x S1 => wTru S1 x fun k => Qa k S1) ∧ NxB C φ F H Qa Q
theorem PE.weak {X : Cx} {e : Expr} {t t' : TE} (h : PE X e t) (w : ∀ σ H Q, t' σ H Q → t σ H Q) : PE X e t' := ⟨fun pins s σ H Q I q => h.run pins s σ H Q I (w σ H Q q)⟩
theorem PT.weak {X : Cx} {e : Expr} {t t' : TT} (h : PT X e t) (w : ∀ σ H Q, t' σ H Q → t σ H Q) : PT X e t' := ⟨fun pins s σ H Q I q => h.run pins s σ H Q I (w σ H Q q)⟩
theorem PW.weak {X : Cx} {e : Expr} {t t' : TT} (h : PW X e t) (w : ∀ σ H Q, t' σ H Q → t σ H Q) : PW X e t' := ⟨fun wh pins s σ H Q I q => h.run wh pins s σ H Q I (w σ H Q q)⟩
theorem PA.weak {X : Cx} {e : List Expr} {t t' : TA} (h : PA X e t) (w : ∀ σ H Q, t' σ H Q → t σ H Q) : PA X e t' := ⟨fun p pins s σ H Q I q => h.run p pins s σ H Q I (w σ H Q q)⟩
section
variable {C : Cfg} {cl : CallW} {φ : List Addr} {F : FZ} {H : Hp} {S : HS} {σa : Sg} {σ : St}
theorem tE_bind {m : ME} {W : AV → HS → Prop} {Q : VK} (R : HR C φ F S H) (Rs : RepS C φ F H σa σ) (w : wE C.P cl m σa S W)
    (h : ∀ x S1 φ1 F1 H1 u, Le φ φ1 → Ext F H F1 H1 → HR C φ1 F1 S1 H1 → Rep C φ1 F1 H1 x u → RepS C φ1 F1 H1 σa σ → W x S1 → Q u H1) : tE C cl m σ H Q :=
  ⟨φ, F, S, σa, W, R, Rs, w, fun v S1 φ1 F1 H1 u l x R1 r q => h v S1 φ1 F1 H1 u l x R1 r (Rs.mono l x) q⟩
theorem tEs_bind {m : MEs} {W : List AV → HS → Prop} {Q : List V → Hp → Prop} (R : HR C φ F S H) (Rs : RepS C φ F H σa σ) (w : wEs C.P cl m σa S W)
    (h : ∀ x S1 φ1 F1 H1 u, Le φ φ1 → Ext F H F1 H1 → HR C φ1 F1 S1 H1 → RepL C φ1 F1 H1 x u → RepS C φ1 F1 H1 σa σ → W x S1 → Q u H1) : tEs C cl m σ H Q :=
  ⟨φ, F, S, σa, W, R, Rs, w, fun v S1 φ1 F1 H1 u l x R1 r q => h v S1 φ1 F1 H1 u l x R1 r (Rs.mono l x) q⟩
theorem tT_bind {m : ME} {W : AV → HS → Prop} {Q : Bool → Hp → Prop} (R : HR C φ F S H) (Rs : RepS C φ F H σa σ) (w : wE C.P cl m σa S W)
    (h : ∀ x S1, W x S1 → ∃ k, truth S1 x = some k ∧ ∀ φ1 F1 H1, Le φ φ1 → Ext F H F1 H1 → HR C φ1 F1 S1 H1 → RepS C φ1 F1 H1 σa σ → Q k H1) (mono : ∀ W', (∀ x S1, W x S1 → W' x S1) → wE C.P cl m σa S W') : tTs C cl m σ H Q :=
  ⟨φ, F, S, σa, fun k S1 => ∀ φ1 F1 H1, Le φ φ1 → Ext F H F1 H1 → HR C φ1 F1 S1 H1 → RepS C φ1 F1 H1 σa σ → Q k H1, R, Rs, mono _ fun x S1 q => by
    obtain ⟨k, e, q2⟩ := h x S1 q
    unfold wTru
    rw [e]
    exact q2, fun b S1 φ1 F1 H1 l x R1 q => q φ1 F1 H1 l x R1 (Rs.mono l x)⟩
end
/-! ### operators -/
section
variable {C : Cfg} {X : Cx}
/-- two values, where they stand in the abstract heap -/
def r2 (C : Cfg) (w : AV → AV → HS → (AV → HS → Prop) → Prop) : R2 := fun x y H Q => ∃ φ F S a b Qa, HR C φ F S H ∧ Rep C φ F H a x ∧ Rep C φ F H b y ∧ w a b S Qa ∧ NxV C φ F H Qa Q
theorem w2I_of {x y : AV} {f : Int → Int → Prop} (h : w2I x y f) : ∃ i j, x = .int i ∧ y = .int j ∧ f i j := by
  unfold w2I at h
  split at h
  · exact ⟨_, _, rfl, rfl, h⟩
  · exact h.elim
theorem op_bin (hK : X.K = C.K) (op : Operator) : OpR X (binaryOp op) (r2 C fun a b S Q => wBin op (vw S a) (vw S b) fun v => Q v S) := by
  intro pins s σ H x y v u Q I rx ry h
  obtain ⟨φ, F, S, a, b, Qa, R, ra, rb, w, n⟩ := h
  have hz := line_eq
  have i2 : ∀ {f : Int → Int → Prop}, w2I (vw S a) (vw S b) f → ∃ i j, x = .int i ∧ y = .int j ∧ f i j := fun w => by
    obtain ⟨i, j, e1, e2, q⟩ := w2I_of w
    exact ⟨i, j, view_int R ra e1, view_int R rb e2, q⟩
  cases op with
  | Add =>
    have w : wAdd (vw S a) (vw S b) fun v => Qa v S := w
    unfold wAdd at w
    split at w
    · rename_i i j e1 e2
      exact op_add pins s σ H x y v u Q I rx ry ⟨i, j, view_int R ra e1, view_int R rb e2, n.now R (.int _) w⟩
    · rename_i l1 l2 e1 e2
      obtain ⟨p, ys, rfl, h1, h2⟩ := view_lst R ra e1
      obtain ⟨q, zs, rfl, h3, h4⟩ := view_lst R rb e2
      refine op_cat pins s σ H _ _ v u Q I rx ry ⟨p, q, ys, zs, rfl, rfl, h1, h3, by rw [← h2.length, ← h4.length, ← hz]; exact w.1, fun l hl => ?_⟩
      exact n.new R hl (fun F' H' f e x => .lst f e ((RepL.mono Le.rfl' x _ _ h2).append (RepL.mono Le.rfl' x _ _ h4))) w.2
    · rename_i l1 l2 e1 e2
      obtain ⟨p, ys, rfl, f1, h1, h2⟩ := view_tup R ra e1
      obtain ⟨q, zs, rfl, f2, h3, h4⟩ := view_tup R rb e2
      refine op_catA pins s σ H _ _ v u Q I rx ry ⟨p, q, ys, zs, rfl, rfl, .inl (.inl h1), .inl (.inl h3), by rw [← h2.length, ← h4.length, ← hz]; exact w.1, fun e => ?_, fun _ e => ?_, fun _ _ l hl => ?_⟩
      · subst e
        cases h2
        exact n.now R (.tup f2 h3 h4) w.2
      · subst e
        cases h4
        exact n.now R (.tup f1 h1 h2) (by simpa using w.2)
      · exact n.new R hl (fun F' H' f e x => .tup f e ((RepL.mono Le.rfl' x _ _ h2).append (RepL.mono Le.rfl' x _ _ h4))) w.2
    · rename_i x1 x2 e1 e2
      exact op_add_str pins s σ H x y v u Q I rx ry ⟨_, _, view_str R ra e1, view_str R rb e2, by rw [← hz]; exact w.1, n.now R (.str _) w.2⟩
    · exact w.elim
  | Mult =>
    have w : wMul (vw S a) (vw S b) fun v => Qa v S := w
    unfold wMul at w
    split at w
    · rename_i i j e1 e2
      exact op_mul pins s σ H x y v u Q I rx ry ⟨i, j, view_int R ra e1, view_int R rb e2, w.1, n.now R (.int _) w.2⟩
    · rename_i l1 k e1 e2
      obtain ⟨p, ys, rfl, h1, h2⟩ := view_lst R ra e1
      obtain ⟨⟨w1, w2, w3⟩, w⟩ := w
      have e3 := view_int R rb e2
      refine op_rep pins s σ H _ _ v u Q I rx ry ⟨p, k, ys, rfl, e3, h1, by omega, w2, by rw [← h2.length, ← hz]; exact w3, fun l hl => ?_⟩
      exact n.new R hl (fun F' H' f e x => .lst f e ((RepL.mono Le.rfl' x _ _ h2).rep _)) w
    · rename_i l1 k e1 e2
      obtain ⟨p, ys, rfl, f1, h1, h2⟩ := view_tup R ra e1
      obtain ⟨⟨w0, w1, w2, w3⟩, w⟩ := w
      have e3 := view_int R rb e2
      subst e3
      by_cases hk : k = 1
      · subst hk
        exact op_repT1 pins s σ H _ _ v u Q I rx ry ⟨p, ys, rfl, rfl, .inl (.inl h1), n.now R (.tup f1 h1 h2) (by simpa using w)⟩
      · refine op_repT pins s σ H _ _ v u Q I rx ry ⟨p, k, ys, rfl, rfl, .inl (.inl h1), fun e => ?_, by omega, w2, by rw [← h2.length]; exact w3, fun l hl => ?_⟩
        · subst e
          cases h2
          exact w0 rfl
        · exact n.new R hl (fun F' H' f e x => .tup f e ((RepL.mono Le.rfl' x _ _ h2).rep _)) w
    · exact w.elim
  | Sub =>
    obtain ⟨i, j, rfl, rfl, q⟩ := i2 (show w2I _ _ _ from w)
    exact op_sub pins s σ H _ _ v u Q I rx ry ⟨i, j, rfl, rfl, n.now R (.int _) q⟩
  | FloorDiv =>
    obtain ⟨i, j, rfl, rfl, q⟩ := i2 (show w2I _ _ _ from w)
    exact op_fdivW pins s σ H _ _ v u Q I rx ry ⟨i, j, rfl, rfl, q.1, n.now R (.int _) q.2⟩
  | Mod =>
    obtain ⟨i, j, rfl, rfl, q⟩ := i2 (show w2I _ _ _ from w)
    exact op_mod pins s σ H _ _ v u Q I rx ry ⟨i, j, rfl, rfl, q.1, n.now R (.int _) q.2⟩
  | Pow =>
    obtain ⟨i, j, rfl, rfl, q⟩ := i2 (show w2I _ _ _ from w)
    exact op_pow pins s σ H _ _ v u Q I rx ry ⟨i, j, rfl, rfl, q.1, n.now R (.int _) q.2⟩
  | LShift =>
    obtain ⟨i, j, rfl, rfl, q⟩ := i2 (show w2I _ _ _ from w)
    exact op_shl pins s σ H _ _ v u Q I rx ry ⟨i, j, rfl, rfl, q.1, n.now R (.int _) q.2⟩
  | RShift =>
    obtain ⟨i, j, rfl, rfl, q⟩ := i2 (show w2I _ _ _ from w)
    exact op_shr pins s σ H _ _ v u Q I rx ry ⟨i, j, rfl, rfl, q.1, n.now R (.int _) q.2⟩
  | BitAnd =>
    obtain ⟨i, j, rfl, rfl, q⟩ := i2 (show w2I _ _ _ from w)
    exact op_and pins s σ H _ _ v u Q I rx ry ⟨i, j, rfl, rfl, n.now R (.int _) q⟩
  | BitOr =>
    obtain ⟨i, j, rfl, rfl, q⟩ := i2 (show w2I _ _ _ from w)
    exact op_or pins s σ H _ _ v u Q I rx ry ⟨i, j, rfl, rfl, n.now R (.int _) q⟩
  | BitXor =>
    obtain ⟨i, j, rfl, rfl, q⟩ := i2 (show w2I _ _ _ from w)
    exact op_xor pins s σ H _ _ v u Q I rx ry ⟨i, j, rfl, rfl, n.now R (.int _) q⟩
  | MatMult => exact False.elim w
  | Div => exact False.elim w
end
end MP
/-! MP3b: expressions of one, two, three parts. -/
namespace MP
open PySem PySem.Spec L2
open PyProof.Rows hiding St
section
variable {C : Cfg} {cl : CallW} {X : Cx} {a b c : Expr} {ma mb mc : ME} {es : List Expr} {mes : MEs} {pos : Pos}
theorem wTru_of {S : HS} {x : AV} {Q : Bool → Prop} (h : wTru S x Q) : ∃ k, truth S x = some k ∧ Q k := by
  unfold wTru at h
  split at h
  · exact ⟨_, by assumption, h⟩
  · exact h.elim
theorem se_c {v : AV} {x : V} (h : PE X a (tC x)) (r : ∀ φ F H, Rep C φ F H v x) : PE X a (tE C cl (.c v)) :=
  PE.weak h fun σ H Q ⟨φ, F, S, σa, Qa, R, Rs, w, n⟩ => n.now R (r φ F H) w
theorem se_glo {s : Str} {v : AV} {x : V} (h : PE X a (tC x)) (r : ∀ φ F H, Rep C φ F H v x) : PE X a (tE C cl (.glo s v)) :=
  PE.weak h fun σ H Q ⟨φ, F, S, σa, Qa, R, Rs, w, n⟩ => n.now R (r φ F H) w
theorem se_var {i : Nat} (h : PE X a (tVar i)) : PE X a (tE C cl (.var i)) :=
  PE.weak h fun σ H Q ⟨φ, F, S, σa, Qa, R, Rs, w, n⟩ => by
    have w : match σa[i]? with
      | some (some v) => Qa v S
      | _ => False := w
    split at w
    · rename_i v e
      obtain ⟨u, h1, h2⟩ := Rs.2 i v e
      exact ⟨u, h1, n.now R h2 w⟩
    · exact w.elim
theorem se_bin {op : Operator} (hK : X.K = C.K) (ha : PE X a (tE C cl ma)) (hb : PE X b (tE C cl mb)) : PE X (.BinOp a op b pos) (tE C cl (.bin op ma mb)) :=
  PE.weak (pe_op (op_bin hK op) ha hb) fun σ H Q ⟨φ, F, S, σa, Qa, R, Rs, w, n⟩ =>
    tE_bind R Rs w fun x S1 φ1 F1 H1 u l1 x1 R1 r1 Rs1 w1 => tE_bind R1 Rs1 w1 fun y S2 φ2 F2 H2 v l2 x2 R2 rr2 Rs2 w2 =>
      ⟨φ2, F2, S2, x, y, Qa, R2, Rep.mono l2 x2 _ _ r1, rr2, w2, n.mono (l1.trans l2) (x1.trans x2)⟩
theorem un_ok (op : UnaryOp) (hop : op ≠ .Not) : UnR X (unaryOp op) (fun x H Q => ∃ φ F S a Qa, HR C φ F S H ∧ Rep C φ F H a x ∧ wUn op S a (fun v => Qa v S) ∧ NxV C φ F H Qa Q) := by
  intro pins s σ H x v Q I rx h
  obtain ⟨φ, F, S, a, Qa, R, r, w, n⟩ := h
  cases op with
  | Not => exact absurd rfl hop
  | UAdd => exact False.elim w
  | USub =>
    cases r with
    | int i => exact un_neg pins s σ H _ v Q I rx ⟨i, rfl, n.now R (.int _) w⟩
    | _ => exact False.elim w
  | Invert =>
    cases r with
    | int i => exact un_inv pins s σ H _ v Q I rx ⟨i, rfl, n.now R (.int _) w⟩
    | _ => exact False.elim w
theorem se_un {op : UnaryOp} (hK : X.K = C.K) (ha : PE X a (tE C cl ma)) : PE X (.UnaryOp op a pos) (tE C cl (.un op ma)) := by
  by_cases hop : op = .Not
  · subst hop
    refine PE.weak (pe_notT ha) fun σ H Q ⟨φ, F, S, σa, Qa, R, Rs, w, n⟩ => tE_bind R Rs w fun x S1 φ1 F1 H1 u l1 x1 R1 r1 Rs1 w1 => ?_
    have w1 : match truth S1 x with
      | some k => Qa (.bl (!k)) S1
      | none => False := w1
    split at w1
    · rename_i k e
      exact ⟨k, by rw [hK]; exact truth_ok R1 r1 e, (n.mono l1 x1).now R1 (.bl _) w1⟩
    · exact w1.elim
  · exact PE.weak (pe_un (un_ok (C := C) op hop) ha) fun σ H Q ⟨φ, F, S, σa, Qa, R, Rs, w, n⟩ =>
      tE_bind R Rs w fun x S1 φ1 F1 H1 u l1 x1 R1 r1 Rs1 w1 => ⟨φ1, F1, S1, x, Qa, R1, r1, w1, n.mono l1 x1⟩
theorem se_bop {op : BoolOp} {rest : List Expr} (hK : X.K = C.K) (ha : PE X a (tE C cl ma)) (hb : PE X (.BoolOp op (b :: rest) pos) (tE C cl mb)) : PE X (.BoolOp op (a :: b :: rest) pos) (tE C cl (.bop op ma mb)) := by
  cases op with
  | And =>
    refine PE.weak (pe_andT ha hb) fun σ H Q ⟨φ, F, S, σa, Qa, R, Rs, w, n⟩ => tE_bind R Rs w fun x S1 φ1 F1 H1 u l1 x1 R1 r1 Rs1 w1 => ?_
    obtain ⟨k, e, q⟩ := wTru_of w1
    refine ⟨k, by rw [hK]; exact truth_ok R1 r1 e, ?_⟩
    cases k with
    | true => exact iteT ⟨φ1, F1, S1, σa, Qa, R1, Rs1, q, n.mono l1 x1⟩
    | false => exact iteF ((n.mono l1 x1).now R1 r1 q)
  | Or =>
    refine PE.weak (pe_orT ha hb) fun σ H Q ⟨φ, F, S, σa, Qa, R, Rs, w, n⟩ => tE_bind R Rs w fun x S1 φ1 F1 H1 u l1 x1 R1 r1 Rs1 w1 => ?_
    obtain ⟨k, e, q⟩ := wTru_of w1
    refine ⟨k, by rw [hK]; exact truth_ok R1 r1 e, ?_⟩
    cases k with
    | true => exact iteT ((n.mono l1 x1).now R1 r1 q)
    | false => exact iteF ⟨φ1, F1, S1, σa, Qa, R1, Rs1, q, n.mono l1 x1⟩
theorem se_ite {t : Expr} {mt : ME} (ht : PT X t (tTs C cl mt)) (ha : PE X a (tE C cl ma)) (hb : PE X b (tE C cl mb)) : PE X (.IfExp t a b pos) (tE C cl (.ite mt ma mb)) :=
  PE.weak (pe_ifExp ht ha hb) fun σ H Q ⟨φ, F, S, σa, Qa, R, Rs, w, n⟩ =>
    ⟨φ, F, S, σa, fun k S1 => if k = true then wE C.P cl ma σa S1 Qa else wE C.P cl mb σa S1 Qa, R, Rs, w, fun k S1 φ1 F1 H1 l1 x1 R1 q => by
      have Rs1 := Rs.mono l1 x1
      cases k with
      | true => exact iteT ⟨φ1, F1, S1, σa, Qa, R1, Rs1, q, n.mono l1 x1⟩
      | false => exact iteF ⟨φ1, F1, S1, σa, Qa, R1, Rs1, q, n.mono l1 x1⟩⟩
/-- displays -/
theorem se_tup {k : Nat} (h : PA X es (tEs C cl mes)) : PE X (.Tuple es k pos) (tE C cl (.tup mes)) :=
  PE.weak (pe_tup h) fun σ H Q ⟨φ, F, S, σa, Qa, R, Rs, w, n⟩ => tEs_bind R Rs w fun vs S1 φ1 F1 H1 us l1 x1 R1 r1 Rs1 w1 =>
    ⟨by rw [← r1.length, ← line_eq]; exact w1.1, fun p hp => (n.mono l1 x1).new R1 hp (fun F' H' f e x => .tup f e (RepL.mono Le.rfl' x _ _ r1)) w1.2⟩
theorem se_lst {z : Bool} (h : PA X es (tEs C cl mes)) : PE X (.List es pos) (tE C cl (.lst z mes)) :=
  PE.weak (pe_lst h) fun σ H Q ⟨φ, F, S, σa, Qa, R, Rs, w, n⟩ => tEs_bind R Rs w fun vs S1 φ1 F1 H1 us l1 x1 R1 r1 Rs1 w1 => by
    refine ⟨by rw [← r1.length, ← line_eq]; exact w1.1, fun p hp => ?_⟩
    have w2 := w1.2
    cases z with
    | true => exact (n.mono l1 x1).new R1 hp (fun F' H' f e x => .lst f e (RepL.mono Le.rfl' x _ _ r1)) w2
    | false =>
      have w2 : Qa (.ref S1.length) (S1 ++ [.lst vs]) := w2
      obtain ⟨R2, x2⟩ := R1.newL hp (o := .lst us) (a := .lst vs) fun H' e x => ⟨(R1.fresh hp).1, us, e, RepL.mono ⟨[p], rfl⟩ x _ _ r1⟩
      refine n (.ref S1.length) _ (φ1 ++ [p]) _ _ _ (l1.trans ⟨[p], rfl⟩) (x1.trans x2) R2 (.ref ?_) w2
      rw [← R1.len]
      simp
/-- argument lists -/
theorem sa_nil : PA X [] (tEs C cl .nil) :=
  PA.weak pa_nil fun σ H Q ⟨φ, F, S, σa, Qa, R, Rs, w, n⟩ => n [] S φ F H [] Le.rfl' Ext.rfl' R .nil w
theorem sa_cons (ha : PE X a (tE C cl ma)) (hr : PA X es (tEs C cl mes)) (hs : starEach (a :: es) X.env = (false, eval a X.env) :: starEach es X.env) : PA X (a :: es) (tEs C cl (.cons ma mes)) :=
  PA.weak (pa_cons ha hr hs) fun σ H Q ⟨φ, F, S, σa, Qa, R, Rs, w, n⟩ => tE_bind R Rs w fun x S1 φ1 F1 H1 u l1 x1 R1 r1 Rs1 w1 =>
    tEs_bind R1 Rs1 w1 fun vs S2 φ2 F2 H2 us l2 x2 R2 r2 Rs2 w2 => n _ S2 φ2 F2 H2 _ (l1.trans l2) (x1.trans x2) R2 (.cons (Rep.mono l2 x2 _ _ r1) r2) w2
theorem wItems_of {x : AV} {S : HS} {K : List AV → (HS → Prop) → Prop} (h : wItems x S K) :
    (∃ xs, x = .tup xs ∧ K xs fun _ => True) ∨ (∃ xs, x = .lst xs ∧ K xs fun _ => True) ∨ ∃ n xs, x = .ref n ∧ S[n]? = some (.lst xs) ∧ K xs fun S => S[n]? = some (.lst xs) := by
  unfold wItems at h
  split at h
  · exact .inl ⟨_, rfl, h⟩
  · exact .inr (.inl ⟨_, rfl, h⟩)
  · split at h
    · exact .inr (.inr ⟨_, _, rfl, by assumption, h⟩)
    · exact h.elim
  · exact h.elim
theorem items_rep {φ : List Addr} {F : FZ} {H : Hp} {S : HS} (R : HR C φ F S H) {x : AV} {u : V} (r : Rep C φ F H x u) {K : List AV → (HS → Prop) → Prop} (h : wItems x S K) :
    ∃ p xs ys G, u = .ref p ∧ (SqT C.K H p ys ∨ SqL C.K H p ys) ∧ RepL C φ F H xs ys ∧ K xs G := by
  rcases wItems_of h with ⟨xs, rfl, k⟩ | ⟨xs, rfl, k⟩ | ⟨n, xs, rfl, e, k⟩
  · cases r with
    | tup h1 h2 h3 => exact ⟨_, xs, _, _, rfl, .inl (.inl (.inl h2)), h3, k⟩
  · cases r with
    | lst h1 h2 h3 => exact ⟨_, xs, _, _, rfl, .inr (.inl (.inl h2)), h3, k⟩
  · cases r with
    | ref h1 =>
      obtain ⟨o, e2, r2⟩ := R.at' h1
      rw [e] at e2; cases e2
      obtain ⟨_, ys, h3, h4⟩ := r2
      exact ⟨_, xs, ys, _, rfl, .inr (.inl (.inl h3)), h4, k⟩
theorem sa_star {p : Pos} (hK : X.K = C.K) (ha : PE X a (tE C cl ma)) (hr : PA X es (tEs C cl mes)) : PA X (.Starred a p :: es) (tEs C cl (.star ma mes)) :=
  PA.weak (StX.pa_star ha hr) fun σ H Q ⟨φ, F, S, σa, Qa, R, Rs, w, n⟩ => tE_bind R Rs w fun x S1 φ1 F1 H1 u l1 x1 R1 r1 Rs1 w1 => by
    obtain ⟨q, xs, ys, G, e, hs, rr, w2⟩ := items_rep R1 r1 w1
    refine ⟨q, ys, e, by rw [hK]; exact hs, ?_⟩
    exact tEs_bind R1 Rs1 w2 fun vs S2 φ2 F2 H2 us l2 x2 R2 r2 Rs2 w2 => n _ S2 φ2 F2 H2 _ (l1.trans l2) (x1.trans x2) R2 ((RepL.mono l2 x2 _ _ rr).append r2) w2
/-- subscripts -/
theorem atI_rep {φ : List Addr} {F : FZ} {H : Hp} {xs : List AV} {ys : List V} (r : RepL C φ F H xs ys) {i : Int} {v : AV} (e : L2.atI xs i = some v) : ∃ u, L2.atI ys i = some u ∧ Rep C φ F H v u := by
  unfold L2.atI at e ⊢
  rw [← r.length]
  cases q : ixN xs.length i with
  | none => rw [q] at e; cases e
  | some j =>
    rw [q] at e
    exact r.get e
theorem ix_ok (hK : X.K = C.K) : IxR X (r2 C fun a i S Q => wSub (vw S a) i fun v => Q v S) := by
  have e := ix_seq (X := X)
  rw [show X.K = C.K from hK] at e
  intro value slice pins s σ H x y v u Q I rx ry h hsl
  obtain ⟨φ, F, S, a, i, Qa, R, ra, ri, w, n⟩ := h
  replace w : wSub (vw S a) i fun v => Qa v S := w
  refine e value slice pins s σ H x y v u Q I rx ry ?_ hsl
  unfold wSub at w
  split at w
  · rename_i xs k e1
    split at w
    · rename_i z e2
      cases ri
      obtain ⟨p, ys, rfl, f, h1, h2⟩ := view_tup R ra e1
      obtain ⟨zu, e3, rz⟩ := atI_rep h2 e2
      exact .inr (.inl ⟨p, ys, k, zu, rfl, rfl, .inl (.inl h1), e3, n.now R rz w⟩)
    · exact w.elim
  · rename_i xs k e1
    split at w
    · rename_i z e2
      cases ri
      obtain ⟨p, ys, rfl, h1, h2⟩ := view_lst R ra e1
      obtain ⟨zu, e3, rz⟩ := atI_rep h2 e2
      exact .inl ⟨p, ys, k, zu, rfl, rfl, .inl (.inl h1), e3, n.now R rz w⟩
    · exact w.elim
  · exact w.elim
theorem se_sub (hK : X.K = C.K) (ha : PE X a (tE C cl ma)) (hb : PE X b (tE C cl mb)) (hs : PlainIx b) : PE X (.Subscript a b pos) (tE C cl (.sub ma mb)) :=
  PE.weak (pe_ix (ix_ok hK) ha hb hs) fun σ H Q ⟨φ, F, S, σa, Qa, R, Rs, w, n⟩ =>
    tE_bind R Rs w fun x S1 φ1 F1 H1 u l1 x1 R1 r1 Rs1 w1 => tE_bind R1 Rs1 w1 fun y S2 φ2 F2 H2 v l2 x2 R2 rr2 Rs2 w2 =>
      ⟨φ2, F2, S2, x, y, Qa, R2, Rep.mono l2 x2 _ _ r1, rr2, w2, n.mono (l1.trans l2) (x1.trans x2)⟩
/-! ### slices -/
def rSlA' (C : Cfg) : V → Option Int → Option Int → Hp → VK → Prop := fun x lo hi H Q => ∃ φ F S a Qa, HR C φ F S H ∧ Rep C φ F H a x ∧ NxV C φ F H Qa Q ∧ (match vw S a with
  | .tup xs => Qa (.tup (cutA xs lo hi)) S
  | .lst xs => Qa (.lst (cutA xs lo hi)) S
  | .slst ns => Qa (.lst (cutA (ns.map .int) lo hi)) S
  | _ => False)
theorem sl_ok (hK : X.K = C.K) : SlR X (rSlA' C) := by
  have e1 := sl_tupA (X := X)
  have e2 := sl_list (X := X)
  rw [show X.K = C.K from hK] at e1 e2
  intro pins s σ H x v vl vu lo hi sl Q I rx hs pl pu h
  obtain ⟨φ, F, S, a, Qa, R, r, n, w⟩ := h
  split at w
  · rename_i xs e
    obtain ⟨p, ys, rfl, f, h1, h2⟩ := view_tup R r e
    refine e1 pins s σ H _ v vl vu lo hi sl Q I rx hs pl pu ⟨p, ys, rfl, .inl (.inl h1), fun hw => ?_, fun _ l hl => ?_⟩
    · have ec : cutA xs lo hi = xs := by
        unfold cutA
        rw [h2.length, hw.1, hw.2, ← h2.length]
        simp
      rw [ec] at w
      exact n.now R (.tup f h1 h2) w
    · exact n.new R hl (fun F' H' f e x => .tup f e (RepL.slice (RepL.mono Le.rfl' x _ _ h2) lo hi)) w
  · rename_i xs e
    obtain ⟨p, ys, rfl, h1, h2⟩ := view_lst R r e
    exact e2 pins s σ H _ v vl vu lo hi sl Q I rx hs pl pu ⟨p, ys, rfl, .inl (.inl h1), fun l hl => n.new R hl (fun F' H' f e x => .lst f e (RepL.slice (RepL.mono Le.rfl' x _ _ h2) lo hi)) w⟩
  · rename_i ns e
    obtain ⟨p, rfl, h1⟩ := view_slst R r e
    exact e2 pins s σ H _ v vl vu lo hi sl Q I rx hs pl pu ⟨p, _, rfl, h1, fun l hl => n.new R hl (fun F' H' f e x => .lst f e (RepL.slice (RepL.intsR ns) lo hi)) w⟩
  · exact w.elim
/-- what is asked of a part -/
def tPs (C : Cfg) (cl : CallW) (m : MEs) : TO := fun σ H Q => ∃ φ F S σa Qa, HR C φ F S H ∧ RepS C φ F H σa σ ∧ wEs C.P cl m σa S Qa ∧
  ∀ v S' φ' F' H', Le φ φ' → Ext F H F' H' → HR C φ' F' S' H' → Qa v S' → ∃ o, part v = some o ∧ Q o H'
theorem PO.weak {e : Option Expr} {t t' : TO} (h : PO X e t) (w : ∀ σ H Q, t' σ H Q → t σ H Q) : PO X e t' := ⟨fun pins s σ H Q I q => h.run pins s σ H Q I (w σ H Q q)⟩
theorem spo_none : PO X none (tPs C cl .nil) := PO.weak po_none fun σ H Q ⟨φ, F, S, σa, Qa, R, Rs, w, n⟩ => by
  obtain ⟨o, e, q⟩ := n [] S φ F H Le.rfl' Ext.rfl' R w
  cases e
  exact q
theorem spo_some (h : PE X a (tE C cl ma)) : PO X (some a) (tPs C cl (.cons ma .nil)) := PO.weak (po_some h) fun σ H Q ⟨φ, F, S, σa, Qa, R, Rs, w, n⟩ =>
  tE_bind R Rs w fun x S1 φ1 F1 H1 u l1 x1 R1 r1 Rs1 w1 => by
    obtain ⟨o, e, q⟩ := n [x] S1 φ1 F1 H1 l1 x1 R1 w1
    unfold part at e
    split at e
    · rename_i h; cases h
    · rename_i i h
      cases h
      cases e
      cases r1
      exact ⟨i, rfl, q⟩
    · cases e
theorem wPart_of {l : List AV} {K : Option Int → Prop} (h : wPart l K) : ∃ o, part l = some o ∧ K o := by
  unfold wPart at h
  split at h
  · exact ⟨_, by assumption, h⟩
  · exact h.elim
theorem se_slc {lo hi : Option Expr} {ml mh : MEs} {p2 : Pos} (hK : X.K = C.K) (ha : PE X a (tE C cl ma)) (hl : PO X lo (tPs C cl ml)) (hh : PO X hi (tPs C cl mh)) : PE X (.Subscript a (.Slice lo hi none p2) pos) (tE C cl (.slc ma ml mh)) :=
  PE.weak (pe_slice (sl_ok (C := C) hK) ha hl hh) fun σ H Q ⟨φ, F, S, σa, Qa, R, Rs, w, n⟩ => tE_bind R Rs w fun x S1 φ1 F1 H1 u l1 x1 R1 r1 Rs1 w1 => by
    refine ⟨φ1, F1, S1, σa, _, R1, Rs1, w1, fun l S2 φ2 F2 H2 l2 x2 R2 w2 => ?_⟩
    obtain ⟨o, e, w2⟩ := wPart_of w2
    refine ⟨o, e, φ2, F2, S2, σa, _, R2, Rs1.mono l2 x2, w2, fun h S3 φ3 F3 H3 l3 x3 R3 w3 => ?_⟩
    obtain ⟨o', e', w3⟩ := wPart_of w3
    refine ⟨o', e', φ3, F3, S3, x, Qa, R3, Rep.mono (l2.trans l3) (x2.trans x3) _ _ r1, n.mono (l1.trans (l2.trans l3)) (x1.trans (x2.trans x3)), ?_⟩
    unfold wSlc at w3
    exact w3
end
end MP
/-! MP3c: comparisons, attributes, calls. -/
namespace MP
open PySem PySem.Spec L2
open PyProof.Rows hiding St
/-- the built-in types that values have -/
def TYS : List String := ["NoneType", "bool", "int", "str", "tuple", "list", "dict"]
theorem tys_kit : ∀ a ∈ TYS, ∀ b ∈ TYS, kitB a b = some (isiB a b) := by decide +kernel
/-- what the written part says of a class -/
structure ClsOk (C : Cfg) (mg : Str → Option Value) (c : Nat) (D : MCls) : Prop where
  cls : Cls C.K (C.ca c)
  glob : mg D.nm = some (.ref (C.ca c))
  noat : ∀ f ∈ D.flds, f < C.P.names.length ∧ NoAttr C.K (C.ca c) (C.nm f)
  mkr : ∀ k, D.init = some k → Mk C.K (C.ca c) (C.fa k)
  meth : ∀ m k, D.meths.lookup m = some k → m < C.P.names.length ∧ m ∉ D.flds ∧ Meth C.K (C.ca c) (C.nm m) (C.fa k)
  prop : ∀ f k, D.props.lookup f = some k → ∃ p, PropOf C.K (C.ca c) (C.nm f) p (C.fa k)
  eq : ∀ k, D.eq = some k → PySem.W.findIn C.K (.ref (C.ca c)) "__eq__" = some (some (.ref (C.fa k))) ∧ PySem.W.isFn C.K (.ref (C.fa k)) = true ∧ PySem.W.findIn C.K (.ref (C.ca c)) "__ne__" = some (some (.builtin "object.__ne__"))
  ha : PySem.W.findIn C.K (.ref (C.ca c)) "__class__" = some (some (.builtin "object.__class__"))
  hm : PySem.W.mroIn C.K (C.ca c) (.type "object") = some true
  isiT : ∀ t ∈ TYS, PySem.W.kitOne C.K (.type t) (.ref (C.ca c)) = some false ∧ PySem.W.kitOne C.K (.ref (C.ca c)) (.type t) = some false ∧ PySem.W.subIn C.K (.type t) (.ref (C.ca c)) = some false
  isiC : ∀ c' D', C.P.classes[c']? = some D' → PySem.W.kitOne C.K (.ref (C.ca c)) (.ref (C.ca c')) = some (D.sup.contains c') ∧ PySem.W.notFirst C.K (C.ca c) (.ref (C.ca c')) = true
/-- what the written part says of the program -/
structure Lk (C : Cfg) (mg : Str → Option Value) : Prop where
  nd : C.P.names.Nodup
  cls : ∀ c D, C.P.classes[c]? = some D → ClsOk C mg c D
  hn : PySem.W.specialIn C.K (.builtin "object.__class__") "__get__" = some (some (.builtin "getset_descriptor.__get__"))
  htk : PySem.W.takesIn C.K (.builtin "object.__class__") = some true
  gd : ∀ x k, C.s.gd.lookup x = some k → mg x = some (.ref (C.fa k))
  gc : ∀ x c, C.s.gc.lookup x = some c → ∃ u, mg x = some u ∧ (match c with
    | .int i => RelV (.int i) u
    | .str y => RelV (.str y) u
    | .bool b => RelV (.bl b) u
    | .none => RelV .non u
    | _ => False)
  fr : ∀ x ∈ C.s.fr, mg x = none
  kp : ∀ k D, C.P.defs[k]? = some D → PySem.W.keepIn C.K (.ref (C.fa k)) = true
/-- a def's promise by the mini semantics -/
def spC (C : Cfg) (cl : CallW) (k : Nat) : Sp := fun vs H Q _ => ∃ φ F S args Qa, HR C φ F S H ∧ RepL C φ F H args vs ∧ cl k args S Qa ∧ NxV C φ F H Qa Q
/-- positional values, then those of the keywords at their places -/
def kwP {α : Type} (d : α) (ks : List Nat) (us ws : List α) : List α := us ++ (List.range ks.length).map fun i => ((ks.zip ws).lookup (us.length + i)).getD d
/-- the context of a def's body that is told by the mini semantics -/
structure XOk (C : Cfg) (cl : CallW) (L : Nat) (X : Cx) : Prop where
  hK : X.K = C.K
  nd : X.N.Nodup
  calm : X.calm = true
  room : Room (L + 4) X.A
  pass : PassesOwn (model X.prog X.w) X.A X.env X.xe
  lk : Lk C X.mg
  clm : CallMono cl
  cll : ∀ k vs S Q, cl k vs S Q → ∃ D, C.P.defs[k]? = some D ∧ vs.length = D.np
  fns : ∀ k D, C.P.defs[k]? = some D → ∃ fd ps, ps.length = D.np ∧ FnOk X.prog X.w X.K X.mg X.base CX0 L (C.fa k) fd ps (spC C cl k) ∧ Binds X.K fd ps [] ∧ ∀ n ks, (k, n, ks) ∈ C.kw → KBn X.K fd ps n (ks.map fun i => D.N.getD i Str.empty) (kwP Value.none ks) (kwP V.non ks)
section
variable {C : Cfg} {φ : List Addr} {F : FZ} {H : Hp} {S : HS}
theorem nm_inj (nd : C.P.names.Nodup) {a b : Nat} (ha : a < C.P.names.length) (hb : b < C.P.names.length) (e : C.nm a = C.nm b) : a = b := by
  unfold Cfg.nm at e
  have h1 : C.P.names[a]? = some (C.P.names.getD a Str.empty) := by simp [List.getD, ha]
  have h2 : C.P.names[b]? = some (C.P.names.getD b Str.empty) := by simp [List.getD, hb]
  rw [← e] at h2
  exact nodup_at nd h1 h2
theorem fget_rep (nd : C.P.names.Nodup) {f : Nat} (hf : f < C.P.names.length) : ∀ {ns : List Nat} {vs : List AV} {ys : List V} {v : AV}, (∀ n ∈ ns, n < C.P.names.length) → RepL C φ F H vs ys → fget f ns vs = some v → ∃ u, (namesZ C ns ys).lookup (C.nm f) = some u ∧ Rep C φ F H v u
  | [], _, _, _, _, _, e => by simp [fget] at e
  | n :: ns, [], _, _, _, _, e => by simp [fget] at e
  | n :: ns, w :: vs, _, v, hn, .cons (x := x) h1 h2, e => by
    unfold fget at e
    by_cases q : f = n
    · rw [if_pos q] at e
      cases e
      subst q
      exact ⟨x, by simp [namesZ, List.lookup_cons], h1⟩
    · rw [if_neg q] at e
      obtain ⟨u, h3, h4⟩ := fget_rep nd hf (fun m hm => hn m (List.mem_cons_of_mem _ hm)) h2 e
      refine ⟨u, ?_, h4⟩
      have hne : (C.nm f == C.nm n) = false := beq_eq_false_iff_ne.mpr fun z => q (nm_inj nd hf (hn n List.mem_cons_self) z)
      simp [namesZ, List.lookup_cons, hne, h3]
theorem lookup_no (nd : C.P.names.Nodup) {m : Nat} (hm : m < C.P.names.length) : ∀ {ns : List Nat} {ys : List V}, (∀ n ∈ ns, n < C.P.names.length ∧ n ≠ m) → (namesZ C ns ys).lookup (C.nm m) = none
  | [], _, _ => by simp [namesZ]
  | n :: ns, [], _ => by simp [namesZ]
  | n :: ns, y :: ys, h => by
    have hne : (C.nm m == C.nm n) = false := beq_eq_false_iff_ne.mpr fun z => (h n List.mem_cons_self).2 (nm_inj nd hm (h n List.mem_cons_self).1 z).symm
    simp [namesZ, List.lookup_cons, hne, lookup_no nd hm fun n' h' => h n' (List.mem_cons_of_mem _ h')]
theorem fset_rep (nd : C.P.names.Nodup) {f : Nat} (hf : f < C.P.names.length) {v : AV} {u : V} (r : Rep C φ F H v u) : ∀ {ns : List Nat} {vs : List AV} {ys : List V}, (∀ n ∈ ns, n < C.P.names.length) → ns.length = vs.length → RepL C φ F H vs ys →
    ∃ zs, putF (C.nm f) u (namesZ C ns ys) = namesZ C (fset f v ns vs).1 zs ∧ RepL C φ F H (fset f v ns vs).2 zs ∧ (fset f v ns vs).1.length = (fset f v ns vs).2.length ∧ (∀ n ∈ (fset f v ns vs).1, n = f ∨ n ∈ ns)
  | [], [], _, _, _, .nil => ⟨[u], by simp [putF, namesZ, fset], by simp only [fset]; exact .cons r .nil, rfl, fun n hn => .inl (by simpa [fset] using hn)⟩
  | [], w :: vs, _, _, e, _ => by simp at e
  | n :: ns, [], _, _, e, _ => by simp at e
  | n :: ns, w :: vs, _, hn, e, .cons (x := x) (xs := xs) h1 h2 => by
    unfold fset
    by_cases q : f = n
    · subst q
      rw [if_pos rfl]
      exact ⟨u :: xs, by simp [namesZ, putF], .cons r h2, e, fun m hm => .inr hm⟩
    · rw [if_neg q]
      obtain ⟨zs, e1, r1, l1, m1⟩ := fset_rep nd hf r (fun m hm => hn m (List.mem_cons_of_mem _ hm)) (by simpa using e) h2
      have hne : ¬ C.nm n = C.nm f := fun z => q (nm_inj nd hf (hn n List.mem_cons_self) z.symm)
      refine ⟨x :: zs, ?_, .cons h1 r1, by simpa using l1, fun m hm => ?_⟩
      · show (if C.nm n = C.nm f then _ else _) = _
        rw [if_neg hne, e1]
        rfl
      · rcases List.mem_cons.mp hm with e | hm
        · exact .inr (e ▸ List.mem_cons_self)
        · rcases m1 m hm with e | e
          · exact .inl e
          · exact .inr (List.mem_cons_of_mem _ e)
theorem cl_at {c : Nat} {D : MCls} (e : C.P.classes[c]? = some D) : C.P.cl? c = D := by
  unfold Prog.cl?
  simp [List.getD, e]
theorem cl_of {c : Nat} (h : C.P.classes[c]? = none) : C.P.cl? c = ⟨Str.empty, none, [], [], none, [], [], false⟩ := by
  unfold Prog.cl?
  simp [List.getD, h]
end
section
variable {C : Cfg} {cl : CallW} {L : Nat} {X : Cx} {a b : Expr} {ma mb : ME} {pos : Pos}
/-- the call of a def, from a state -/
theorem call_ok (O : XOk C cl L X) {pins : List (Addr × Obj)} {s : Shared} {σ : St} {H : Hp} {Q : VK} {us : List Value} {vs : List V} {φ : List Addr} {F : FZ} {S : HS} {args : List AV} {Qa : AV → HS → Prop} {k : Nat}
    (I : Inv X pins σ H s) (r : Vals vs us) (R : HR C φ F S H) (rr : RepL C φ F H args vs) (w : cl k args S Qa) (n : NxV C φ F H Qa Q) : wpAny (model X.prog X.w) X.A (call (.ref (C.fa k)) us) (EP X pins σ Q) X.xe s := by
  obtain ⟨D, hD, _⟩ := O.cll _ _ _ _ w
  obtain ⟨fd, ps, _, hF, hb, _⟩ := O.fns k D hD
  exact run_fn (dvs := []) (ds := []) hF (O.room.mono (by omega)) hb .nil pass0 I r (by rw [List.append_nil]; exact ⟨φ, F, S, args, Qa, R, rr, w, n⟩)
/-- f(e, ..) -/
theorem se_call (O : XOk C cl L X) {k : Nat} {D : MDef} {x : Str} {p : Pos} {e : Expr} {es : List Expr} {mes : MEs} (hD : C.P.defs[k]? = some D) (hg : Gl X x) (hm : X.mg x = some (.ref (C.fa k))) (ha : PA X (e :: es) (tEs C cl mes))
    (hdb : (x == ("__debug__" : Str)) = false) (he : starEach (e :: es) X.env = (false, eval e X.env) :: starEach es X.env) (hpl : (backTo pos (starEach es X.env)).any (·.1) = false) : PE X (.Call (.Name x p) (e :: es) [] pos) (tE C cl (.call k mes)) := by
  obtain ⟨fd, ps, _, hF, hb, _⟩ := O.fns k D hD
  refine PE.weak (pe_call (dvs := []) (ds := []) hF (O.room.mono (by omega)) hg hm (by rw [O.hK]; exact O.lk.kp k D hD) hb .nil pass0 ha hdb he hpl) fun σ H Q ⟨φ, F, S, σa, Qa, R, Rs, w, n⟩ => ?_
  exact tEs_bind R Rs w fun vs S1 φ1 F1 H1 us l1 x1 R1 r1 Rs1 w1 => by
    rw [List.append_nil]
    exact ⟨φ1, F1, S1, vs, Qa, R1, r1, w1, n.mono l1 x1⟩
theorem se_call0 (O : XOk C cl L X) {k : Nat} {D : MDef} {x : Str} {p : Pos} (hD : C.P.defs[k]? = some D) (hg : Gl X x) (hm : X.mg x = some (.ref (C.fa k))) (hdb : (x == ("__debug__" : Str)) = false) :
    PE X (.Call (.Name x p) [] [] pos) (tE C cl (.call k .nil)) := by
  obtain ⟨fd, ps, _, hF, hb, _⟩ := O.fns k D hD
  refine PE.weak (pe_call0 (dvs := []) (ds := []) hF (O.room.mono (by omega)) hg hm (by rw [O.hK]; exact O.lk.kp k D hD) hb .nil pass0 hdb) fun σ H Q ⟨φ, F, S, σa, Qa, R, Rs, w, n⟩ => ?_
  exact ⟨φ, F, S, [], Qa, R, .nil, w, n⟩
/-- an instance's class -/
theorem obj_cls (O : XOk C cl L X) {c f : Nat} (hf : f ∈ (C.P.cl? c).flds) : ∃ D, C.P.classes[c]? = some D ∧ ClsOk C X.mg c D ∧ C.P.cl? c = D := by
  cases e : C.P.classes[c]? with
  | none => rw [cl_of e] at hf; cases hf
  | some D => exact ⟨D, rfl, O.lk.cls c D e, cl_at e⟩
theorem se_att (O : XOk C cl L X) {f : Nat} (ha : PE X a (tE C cl ma)) (hb : attributeBase a (C.nm f) X.env (eval a X.env) = eval a X.env) : PE X (.Attribute a (C.nm f) pos) (tE C cl (.att ma f)) := by
  refine ⟨fun pins s σ H Q I h => ?_⟩
  obtain ⟨φ, F, S, σa, Qa, R, Rs, w, n⟩ := h
  have hw : tE C cl ma σ H fun u H1 => ∃ φ1 F1 S1 x, Le φ φ1 ∧ Ext F H F1 H1 ∧ HR C φ1 F1 S1 H1 ∧ Rep C φ1 F1 H1 x u ∧ wAtt C.P cl x f S1 Qa := tE_bind R Rs w fun x S1 φ1 F1 H1 u l1 x1 R1 r1 Rs1 w1 => ⟨φ1, F1, S1, x, l1, x1, R1, r1, w1⟩
  refine attr_of hb (thn (ha.run pins s σ H _ I hw) fun v s1 ⟨u, H1, I1, rv, φ1, F1, S1, x, l1, x1, R1, r1, w1⟩ => ?_)
  unfold wAtt at w1
  split at w1
  · rename_i c ns vs e
    obtain ⟨p, dx, ys, rfl, e1, e2, e3, rr⟩ := view_obj R1 r1 e
    cases rv
    split at w1
    · rename_i z e4
      obtain ⟨hf, q⟩ := w1
      obtain ⟨D, hD, K1, eD⟩ := obj_cls O hf
      rw [eD] at e2 hf
      have hfl : ∀ n ∈ ns, n < C.P.names.length := fun n hn => (K1.noat n (e2 n hn)).1
      obtain ⟨u, e5, ru⟩ := fget_rep O.lk.nd (K1.noat f hf).1 hfl rr e4
      have kc := K1.cls
      have kn := (K1.noat f hf).2
      rw [← O.hK] at kc kn
      exact getattr_ok I1 e1 kc kn e5 fun w' s' I' r' => ⟨u, H1, I', r', (n.mono l1 x1).now R1 ru q⟩
    · split at w1
      · rename_i k e5
        cases hD : C.P.classes[c]? with
        | none => rw [cl_of hD] at e5; cases e5
        | some D =>
          rw [cl_at hD] at e5
          have K1 := O.lk.cls c D hD
          obtain ⟨pp, hp⟩ := K1.prop f k e5
          obtain ⟨D', hD', _⟩ := O.cll _ _ _ _ w1
          obtain ⟨fd, ps, _, hF, hbd, _⟩ := O.fns k D' hD'
          have kc := K1.cls
          rw [← O.hK] at kc hp
          exact getprop_ok (dvs := []) (ds := []) I1 e1 kc hp hF (O.room.mono (by omega)) hbd .nil pass0 ⟨φ1, F1, S1, _, Qa, R1, .cons r1 .nil, w1, n.mono l1 x1⟩
      · exact w1.elim
  · exact w1.elim
end
end MP
/-! MP3d: new instances, methods, comparisons, isinstance. -/
namespace MP
open PySem PySem.Spec L2
open PyProof.Rows hiding St
section
variable {C : Cfg} {φ : List Addr} {F : FZ} {H : Hp} {S : HS}
/-- something else is tracked -/
theorem HR.junk (R : HR C φ F S H) {p : Addr} (h : H p = none) (o : HO) : HR C φ F S (upd H p o) ∧ Ext F H F (upd H p o) := by
  obtain ⟨hF, hφ⟩ := R.fresh h
  have hZ := R.freshZ h
  have x : Ext F H F (upd H p o) := ⟨fun q hq => ⟨hq, upd_ne fun e => hF (e ▸ hq)⟩, fun q hq => ⟨hq, upd_ne fun e => hZ (e ▸ hq)⟩⟩
  refine ⟨⟨R.len, R.nd, fun n o' q e1 e2 => ?_, fun q hq => ?_, fun q hq => ?_⟩, x⟩
  · have hq : q ≠ p := fun e => hφ (e ▸ List.mem_of_getElem? e2)
    have r := R.obj n o' q e1 e2
    exact r.mono Le.rfl' x (upd_ne hq) r.nf
  · rw [upd_ne (show q ≠ p from fun e => hF (e ▸ hq))]; exact R.frz q hq
  · obtain ⟨h1, h2, h3⟩ := R.zj q hq
    exact ⟨by rw [upd_ne (show q ≠ p from fun e => hZ (e ▸ hq))]; exact h1, h2, h3⟩
end
section
variable {C : Cfg} {cl : CallW} {L : Nat} {X : Cx} {a b c : Expr} {ma mb mc : ME} {pos : Pos}
theorem cl_init {c k : Nat} (h : (C.P.cl? c).init = some k) : ∃ D, C.P.classes[c]? = some D ∧ D.init = some k ∧ C.P.cl? c = D := by
  cases e : C.P.classes[c]? with
  | none => rw [cl_of e] at h; cases h
  | some D => exact ⟨D, rfl, by rw [cl_at e] at h; exact h, cl_at e⟩
/-- what a new instance's making asks -/
theorem make_read {c : Nat} {φ : List Addr} {F : FZ} {H : Hp} {S : HS} {args : List AV} {vs : List V} {Qa : AV → HS → Prop} {Q : VK} (R : HR C φ F S H) (rr : RepL C φ F H args vs) (w : wNew C.P cl c args S Qa) (n : NxV C φ F H Qa Q) :
    ∃ k, (C.P.cl? c).init = some k ∧ ∀ x dx, H x = none → H dx = none → dx ≠ x → spC C cl k (.ref x :: vs) (upd (upd H dx (.own x)) x (.ins (C.ca c) dx [])) (fun v H2 => v = .non ∧ Q (.ref x) H2) E0 := by
  unfold wNew at w
  split at w
  · rename_i k ek
    refine ⟨k, ek, fun x dx hx hdx hne => ?_⟩
    obtain ⟨R1, x1⟩ := R.junk hdx (.own x)
    have hx1 : upd H dx (.own x) x = none := by rw [upd_ne (Ne.symm hne)]; exact hx
    obtain ⟨R2, x2⟩ := R1.newL hx1 (o := .ins (C.ca c) dx []) (a := .ins c [] []) fun H' e _ => ⟨(R1.fresh hx1).1, dx, [], e, fun _ h => (by cases h), rfl, .nil⟩
    have hl : φ.length = S.length := R.len
    have l2 : Le φ (φ ++ [x]) := ⟨[x], rfl⟩
    have x12 := x1.trans x2
    refine ⟨φ ++ [x], F, _, _, _, R2, .cons (.ref ?_) (RepL.mono l2 x12 _ _ rr), w, fun v S1 φ1 F1 H1 u l3 x3 R3 r3 q => ?_⟩
    · rw [← hl]; simp
    · split at q
      · cases r3
        refine ⟨rfl, ?_⟩
        have lt : Le φ φ1 := l2.trans l3
        have xt := x12.trans x3
        have e1 : φ1[S.length]? = some x := l3.get (by rw [← hl]; simp)
        split at q
        · split at q
          · rename_i hfz c' ns ws e
            obtain ⟨rfl, hlen, tk, nr, q⟩ := q
            have R4 := R.let_go lt R3 tk
            obtain ⟨_, dx', ys, e2, e3, e4, r5⟩ := R3.obj _ _ _ e e1
            have r6 := RepL.mono Le.rfl' (FrzF.ext (φ := φ1) (k := S.length)) _ _ (RepL.cut S.length ws ys r5 nr)
            rw [← hl, lt.take, hl] at r6
            exact n _ _ φ _ H1 _ Le.rfl' (xt.trans FrzF.ext) R4 (.obj (.inr ⟨S.length, Nat.le_refl _, e1⟩) e2 e3 e4 r6) q
          · exact q.elim
        · exact n _ _ φ1 F1 H1 _ lt xt R3 (.ref e1) q
      · exact q.elim
  · exact w.elim
theorem se_new (O : XOk C cl L X) {c : Nat} {D : MCls} {x : Str} {p : Pos} {e : Expr} {es : List Expr} {mes : MEs} (hD : C.P.classes[c]? = some D) (hg : Gl X x) (hx : x = D.nm) (hi : D.init.isSome = true) (ha : PA X (e :: es) (tEs C cl mes)) 
    (hdb : (x == ("__debug__" : Str)) = false) (he : starEach (e :: es) X.env = (false, eval e X.env) :: starEach es X.env) (hpl : (backTo pos (starEach es X.env)).any (·.1) = false)
    (hd : ∀ k, D.init = some k → ∃ D', C.P.defs[k]? = some D') : PE X (.Call (.Name x p) (e :: es) [] pos) (tE C cl (.new c mes)) := by
  obtain ⟨k, hk⟩ := Option.isSome_iff_exists.mp hi
  obtain ⟨D', hD'⟩ := hd k hk
  have K1 := O.lk.cls c D hD
  obtain ⟨fd, ps, _, hF, hb, _⟩ := O.fns k D' hD'
  have M := K1.mkr k hk
  rw [← O.hK] at M
  refine PE.weak (pe_make (dvs := []) (ds := []) M hF (O.room.mono (by omega)) hg (by rw [hx]; exact K1.glob) hb .nil pass0 ha hdb he hpl) fun σ H Q ⟨φ, F, S, σa, Qa, R, Rs, w, n⟩ => ?_
  exact tEs_bind R Rs w fun vs S1 φ1 F1 H1 us l1 x1 R1 r1 Rs1 w1 => by
    obtain ⟨k', ek, h⟩ := make_read R1 r1 w1 (n.mono l1 x1)
    rw [cl_at hD, hk] at ek
    cases ek
    intro y dy h1 h2 h3
    rw [List.append_nil]
    exact h y dy h1 h2 h3
/-- o.m(e, ..) -/
theorem wMeth_of {x : AV} {m : Nat} {S : HS} {K : Nat → Prop} (h : wMeth C.P x m S K) : ∃ c ns ws k D, vw S x = .obj c ns ws ∧ C.P.classes[c]? = some D ∧ D.meths.lookup m = some k ∧ C.P.cl? c = D ∧ K k := by
  unfold wMeth at h
  split at h
  · rename_i c ns ws e
    split at h
    · rename_i k e2
      cases hD : C.P.classes[c]? with
      | none => rw [cl_of hD] at e2; cases e2
      | some D => exact ⟨c, ns, ws, k, D, e, rfl.trans hD, by rw [cl_at hD] at e2; exact e2, cl_at hD, h⟩
    · exact h.elim
  · exact h.elim
theorem no_meth (O : XOk C cl L X) {φ : List Addr} {F : FZ} {H : Hp} {S : HS} (R : HR C φ F S H) {x : AV} {u : V} (r : Rep C φ F H x u) {c : Nat} {ns : List Nat} {ws : List AV} {D : MCls} {m k : Nat} (e : vw S x = .obj c ns ws) (hD : C.P.classes[c]? = some D) (hk : D.meths.lookup m = some k) :
    ∃ p dx fs, u = .ref p ∧ H p = some (.ins (C.ca c) dx fs) ∧ Cls X.K (C.ca c) ∧ Meth X.K (C.ca c) (C.nm m) (C.fa k) ∧ fs.lookup (C.nm m) = none := by
  obtain ⟨p, dx, ys, rfl, e1, e2, e3, rr⟩ := view_obj R r e
  have K1 := O.lk.cls c D hD
  obtain ⟨h1, h2, h3⟩ := K1.meth m k hk
  rw [cl_at hD] at e2
  rw [O.hK]
  refine ⟨p, dx, _, rfl, e1, K1.cls, h3, lookup_no O.lk.nd h1 fun n hn => ⟨(K1.noat n (e2 n hn)).1, fun z => ?_⟩⟩
  subst z
  exact h2 (e2 _ hn)
theorem se_meth (O : XOk C cl L X) {pl : Sem Bool} {m : Nat} {o e : Expr} {es : List Expr} {mo : ME} {mes : MEs} {apos : Pos} (ho : PE X o (tE C cl mo)) (ha : PA X (e :: es) (tEs C cl mes))
    (hst : starEach (e :: es) X.env = (false, eval e X.env) :: starEach es X.env) (hpl : (backTo pos (starEach es X.env)).any (·.1) = false)
    (ht : eval (.Call (.Attribute o (C.nm m) apos) (e :: es) [] pos) X.env = (do
      let ov ← eval o X.env
      standAt apos.atName
      let (f, first) ← holding [ov] (getMethod ov (C.nm m) pl)
      callWith pos f first (backTo pos (starEach (e :: es) X.env)) (backToKw pos (keywordEach [] X.env)))) :
    PE X (.Call (.Attribute o (C.nm m) apos) (e :: es) [] pos) (tE C cl (.meth mo m mes)) := by
  refine ⟨fun pins s σ H Q I h => ?_⟩
  obtain ⟨φ, F, S, σa, Qa, R, Rs, w, n⟩ := h
  have hw : tE C cl mo σ H fun u H1 => ∃ φ1 F1 S1 x, Le φ φ1 ∧ Ext F H F1 H1 ∧ HR C φ1 F1 S1 H1 ∧ Rep C φ1 F1 H1 x u ∧ RepS C φ1 F1 H1 σa σ ∧ wMeth C.P x m S1 fun k => wEs C.P cl mes σa S1 fun vs S2 => cl k (x :: vs) S2 Qa :=
    tE_bind R Rs w fun x S1 φ1 F1 H1 u l1 x1 R1 r1 Rs1 w1 => ⟨φ1, F1, S1, x, l1, x1, R1, r1, Rs1, w1⟩
  refine PySem.W.methodCall_KW (pl := pl) (thn (ho.run pins s σ H _ I hw) fun v s1 ⟨u, H1, I1, rv, φ1, F1, S1, x, l1, x1, R1, r1, Rs1, w1⟩ => ?_) ht
  obtain ⟨c, ns, ws, k, D, e1, hD, hk, _, w1⟩ := wMeth_of w1
  obtain ⟨p, dx, fs, rfl, e2, kc, km, e3⟩ := no_meth O R1 r1 e1 hD hk
  cases rv
  refine getmeth_ok I1 e2 kc km e3 ?_
  have hv : tEs C cl mes σ H1 fun us H2 => ∃ φ2 F2 S2 vs, Le φ φ2 ∧ Ext F H F2 H2 ∧ HR C φ2 F2 S2 H2 ∧ RepL C φ2 F2 H2 (x :: vs) (.ref p :: us) ∧ cl k (x :: vs) S2 Qa :=
    tEs_bind R1 Rs1 w1 fun vs S2 φ2 F2 H2 us l2 x2 R2 r2 Rs2 w2 => ⟨φ2, F2, S2, vs, l1.trans l2, x1.trans x2, R2, .cons (Rep.mono l2 x2 _ _ r1) r2, w2⟩
  refine PySem.W.callWith_K (first := [.ref p]) (h₀ := X.base) I.ok.mod.kin km.kp (thn (ha.run pos pins s1 σ H1 _ I1 hv) fun us s2 ⟨vs, H2, I2, r, φ2, F2, S2, ws', l2, x2, R2, r2, w2⟩ => ⟨I2.kIn, ?_⟩) hst hpl
  exact call_ok O (us := .ref p :: us) (vs := .ref p :: vs) I2 (.cons rfl r) R2 r2 w2 (n.mono l2 x2)
theorem se_meth0 (O : XOk C cl L X) {pl : Sem Bool} {m : Nat} {o : Expr} {mo : ME} {apos : Pos} (ho : PE X o (tE C cl mo))
    (ht : eval (.Call (.Attribute o (C.nm m) apos) [] [] pos) X.env = (do
      let ov ← eval o X.env
      standAt apos.atName
      let (f, first) ← holding [ov] (getMethod ov (C.nm m) pl)
      callWith pos f first (backTo pos (starEach [] X.env)) (backToKw pos (keywordEach [] X.env)))) :
    PE X (.Call (.Attribute o (C.nm m) apos) [] [] pos) (tE C cl (.meth mo m .nil)) := by
  refine ⟨fun pins s σ H Q I h => ?_⟩
  obtain ⟨φ, F, S, σa, Qa, R, Rs, w, n⟩ := h
  have hw : tE C cl mo σ H fun u H1 => ∃ φ1 F1 S1 x, Le φ φ1 ∧ Ext F H F1 H1 ∧ HR C φ1 F1 S1 H1 ∧ Rep C φ1 F1 H1 x u ∧ RepS C φ1 F1 H1 σa σ ∧ wMeth C.P x m S1 fun k => cl k [x] S1 Qa :=
    tE_bind R Rs w fun x S1 φ1 F1 H1 u l1 x1 R1 r1 Rs1 w1 => ⟨φ1, F1, S1, x, l1, x1, R1, r1, Rs1, w1⟩
  refine PySem.W.methodCall_KW (pl := pl) (thn (ho.run pins s σ H _ I hw) fun v s1 ⟨u, H1, I1, rv, φ1, F1, S1, x, l1, x1, R1, r1, Rs1, w1⟩ => ?_) ht
  obtain ⟨c, ns, ws, k, D, e1, hD, hk, _, w1⟩ := wMeth_of w1
  obtain ⟨p, dx, fs, rfl, e2, kc, km, e3⟩ := no_meth O R1 r1 e1 hD hk
  cases rv
  refine getmeth_ok I1 e2 kc km e3 ?_
  exact PySem.W.callWith_K0 (first := [.ref p]) I1.kIn km.kp (call_ok O (us := [.ref p]) (vs := [.ref p]) I1 (.cons rfl .nil) R1 (.cons r1 .nil) w1 (n.mono l1 x1))
end
end MP
/-! MP3e: comparisons, isinstance, built-in functions. -/
namespace MP
open PySem PySem.Spec L2
open PyProof.Rows hiding St
section
variable {C : Cfg} {φ : List Addr} {F : FZ} {H : Hp} {S : HS}
mutual
theorem Rep.pd {K : PySem.W.Frag} : ∀ (v : AV) (u : V) (d : PyData), Rep C φ F H v u → toPD v = some d → Dp K H u d
  | .non, _, _, h, e => by cases h; cases e; exact .non
  | .bl _, _, _, h, e => by cases h; cases e; exact .bl _
  | .int _, _, _, h, e => by cases h; cases e; exact .int _
  | .str _, _, _, h, e => by cases h; cases e; exact .str _
  | .tup xs, _, _, h, e => by
    unfold toPD at e
    obtain ⟨ds, e1, rfl⟩ := Option.map_eq_some_iff.mp e
    cases h with
    | tup h1 h2 h3 => exact .tup (.inl (.inl h2)) (RepL.pd xs _ ds h3 e1)
  | .lst xs, _, _, h, e => by
    unfold toPD at e
    obtain ⟨ds, e1, rfl⟩ := Option.map_eq_some_iff.mp e
    cases h with
    | lst h1 h2 h3 => exact .lst (.inl (.inl h2)) (RepL.pd xs _ ds h3 e1)
  | .dct _ _, _, _, h, e => by cases h
  | .obj _ _ _, _, _, h, e => by cases e
  | .slst _, _, _, h, e => by cases e
  | .ref _, _, _, h, e => by cases e
  | .fn _, _, _, h, e => by cases e
  | .cls _, _, _, h, e => by cases e
  | .ty _, _, _, h, e => by cases e
theorem RepL.pd {K : PySem.W.Frag} : ∀ (vs : List AV) (us : List V) (ds : List PyData), RepL C φ F H vs us → toPDs vs = some ds → DpAll K H us ds
  | [], _, _, h, e => by cases h; cases e; exact .nil
  | v :: vs, _, _, h, e => by
    unfold toPDs at e
    cases h with
    | cons h1 h2 =>
      split at e
      · rename_i d ds' e1 e2
        cases e
        exact .cons (Rep.pd v _ d h1 e1) (RepL.pd vs _ ds' h2 e2)
      · cases e
end
theorem view_pd {K : PySem.W.Frag} (R : HR C φ F S H) {v : AV} {u : V} (r : Rep C φ F H v u) {d : PyData} (e : toPD (vw S v) = some d) : Dp K H u d := by
  cases hv : vw S v with
  | non => rw [hv] at e; cases e; rw [view_non R r hv]; exact .non
  | bl b => rw [hv] at e; cases e; rw [view_bl R r hv]; exact .bl b
  | int b => rw [hv] at e; cases e; rw [view_int R r hv]; exact .int b
  | str b => rw [hv] at e; cases e; rw [view_str R r hv]; exact .str b
  | tup xs =>
    rw [hv] at e
    obtain ⟨p, ys, rfl, f, h1, h2⟩ := view_tup R r hv
    exact Rep.pd (.tup xs) _ d (.tup f h1 h2) e
  | lst xs =>
    rw [hv] at e
    obtain ⟨p, ys, rfl, h1, h2⟩ := view_lst R r hv
    unfold toPD at e
    obtain ⟨ds, e1, rfl⟩ := Option.map_eq_some_iff.mp e
    exact .lst (.inl (.inl h1)) (RepL.pd xs _ ds h2 e1)
  | _ => rw [hv] at e; cases e
theorem flat_rep {v : AV} {u : V} (r : Rep C φ F H v u) (f : flat v = true) : flatV u = true := by
  cases r <;> first | rfl | exact absurd f Bool.false_ne_true
theorem flatL_rep : ∀ {vs : List AV} {us : List V}, RepL C φ F H vs us → vs.all flat = true → us.all flatV = true
  | _, _, .nil, _ => rfl
  | _, _, .cons h1 h2, f => by
    rw [List.all_cons, Bool.and_eq_true] at f ⊢
    exact ⟨flat_rep h1 f.1, flatL_rep h2 f.2⟩
theorem eqF_rep {v w : AV} {u x : V} (r : Rep C φ F H v u) (r' : Rep C φ F H w x) (f : flat v = true) (f' : flat w = true) : eqV u x = eqF v w := by
  cases r <;> first | (exact absurd f Bool.false_ne_true) | (cases r' <;> first | rfl | exact absurd f' Bool.false_ne_true)
theorem inV_rep {w : AV} {x : V} (r' : Rep C φ F H w x) (f' : flat w = true) : ∀ {vs : List AV} {us : List V}, RepL C φ F H vs us → vs.all flat = true → inV x us = vs.any fun z => eqF z w
  | _, _, .nil, _ => rfl
  | _, _, .cons h1 h2, f => by
    rw [List.all_cons, Bool.and_eq_true] at f
    unfold inV
    rw [List.any_cons, List.any_cons, eqF_rep h1 r' f.1 f']
    have := inV_rep r' f' h2 f.2
    unfold inV at this
    rw [this]
/-- the type of a value as isinstance takes it -/
theorem ty_rep (R : HR C φ F S H) {K : PySem.W.Frag} {v : AV} {u : V} (r : Rep C φ F H v u) {t : String} (e : tyN (vw S v) = some t) : TyX K H u (.type t) ∧ t ∈ TYS := by
  cases hv : vw S v with
  | non => rw [hv] at e; cases e; rw [view_non R r hv]; exact ⟨.base .non, by decide⟩
  | bl b => rw [hv] at e; cases e; rw [view_bl R r hv]; exact ⟨.base (.bl _), by decide⟩
  | int b => rw [hv] at e; cases e; rw [view_int R r hv]; exact ⟨.base (.int _), by decide⟩
  | str b => rw [hv] at e; cases e; rw [view_str R r hv]; exact ⟨.base (.str _), by decide⟩
  | tup xs =>
    rw [hv] at e; cases e
    obtain ⟨p, ys, rfl, f, h1, h2⟩ := view_tup R r hv
    exact ⟨.base (.tup h1), by decide⟩
  | lst xs =>
    rw [hv] at e; cases e
    obtain ⟨p, ys, rfl, h1, h2⟩ := view_lst R r hv
    exact ⟨.base (.lst h1), by decide⟩
  | dct ks vs =>
    cases r with
    | ref h1 =>
      obtain ⟨o, e2, r2⟩ := R.at' h1
      unfold vw at hv
      simp only [e2] at hv
      cases o with
      | lst xs => cases hv
      | ins c ns vs => cases hv
      | dead => exact r2.elim
      | dct _ _ => exact r2.elim
    | _ => cases hv
  | _ => rw [hv] at e; cases e
end
section
variable {C : Cfg} {cl : CallW} {L : Nat} {X : Cx} {a b c : Expr} {ma mb mc : ME} {pos : Pos}
theorem ty_obj (O : XOk C cl L X) {φ : List Addr} {F : FZ} {H : Hp} {S : HS} (R : HR C φ F S H) {v : AV} {u : V} (r : Rep C φ F H v u) {k : Nat} {ns : List Nat} {vs : List AV} (e : vw S v = .obj k ns vs) {D : MCls} (hD : C.P.classes[k]? = some D) :
    TyX X.K H u (.ref (C.ca k)) := by
  obtain ⟨p, dx, ys, rfl, e1, _, _, _⟩ := view_obj R r e
  have K1 := O.lk.cls k D hD
  have h1 := K1.cls
  have h2 := K1.ha
  have h3 := O.lk.hn
  have h4 := O.lk.htk
  have h5 := K1.hm
  rw [← O.hK] at h1 h2 h3 h4 h5
  exact .base (.ins e1 h1 h2 h3 h4 h5)
/-- one class as a value -/
def clsV (C : Cfg) : AV → Option V
  | .cls c => if c < C.P.classes.length then some (.ref (C.ca c)) else none
  | .ty t => if t ∈ TYS then some (.ty t) else none
  | _ => none
def clsU (C : Cfg) : AV → Value
  | .cls c => .ref (C.ca c)
  | .ty t => .type t
  | _ => .none
theorem clsV_of {x : AV} {v : V} (h : clsV C x = some v) : ClsV v (clsU C x) := by
  unfold clsV at h
  split at h
  · split at h
    · cases h; exact .own _
    · cases h
  · split at h
    · cases h; exact .ty _
    · cases h
  · cases h
theorem clsV_cls {c : Nat} {v : V} (h : clsV C (.cls c) = some v) : c < C.P.classes.length := by
  have h : (if c < C.P.classes.length then some (V.ref (C.ca c)) else none) = some v := h
  split at h
  · assumption
  · cases h
theorem clsV_ty {c : String} {v : V} (h : clsV C (.ty c) = some v) : c ∈ TYS := by
  have h : (if c ∈ TYS then some (V.ty c) else none) = some v := h
  split at h
  · assumption
  · cases h
theorem isi1_ok (O : XOk C cl L X) {φ : List Addr} {F : FZ} {H : Hp} {S : HS} (R : HR C φ F S H) {v : AV} {u : V} (r : Rep C φ F H v u) {c : AV} {b : Bool} {w : V} (hc : clsV C c = some w) (e : isi1 C.P (vw S v) c = some b) :
    ∀ t, (∃ s, tyN (vw S v) = some s ∧ t = .type s) ∨ (∃ k ns vs D, vw S v = .obj k ns vs ∧ C.P.classes[k]? = some D ∧ t = .ref (C.ca k)) → PySem.W.kitOne X.K t (clsU C c) = some b := by
  intro t ht
  rw [O.hK]
  rcases ht with ⟨s, hs, rfl⟩ | ⟨k, ns, vs, D, ho, hD, rfl⟩
  · have hm := (ty_rep R (K := X.K) r hs).2
    cases c with
    | cls c =>
      have hl := clsV_cls hc
      have hcl : C.P.classes[c]? = some C.P.classes[c] := by simp [hl]
      have K1 := O.lk.cls c _ hcl
      have e2 : b = false := by
        cases hv : vw S v <;> rw [hv] at e hs <;> simp [isi1, tyN] at e hs <;> first | exact e | exact e.symm
      rw [e2]
      exact (K1.isiT s hm).1
    | ty w' =>
      have hw := clsV_ty hc
      have e2 : b = isiB s w' := by
        cases hv : vw S v <;> rw [hv] at e hs <;> simp [isi1, tyN] at e hs <;> (subst hs; first | exact e | exact e.symm)
      rw [e2]
      exact kit_ty (tys_kit s hm w' hw)
    | _ => cases hc
  · have K1 := O.lk.cls k D hD
    cases c with
    | cls c =>
      have hl := clsV_cls hc
      have hcl : C.P.classes[c]? = some C.P.classes[c] := by simp [hl]
      rw [ho] at e
      have e2 : b = D.sup.contains c := by
        have hl2 : k < C.P.classes.length := (List.getElem?_eq_some_iff.mp hD).1
        have e : (if k < C.P.classes.length then some ((C.P.cl? k).sup.contains c) else none) = some b := e
        rw [if_pos hl2, cl_at hD] at e
        exact (Option.some.inj e).symm
      rw [e2]
      exact (K1.isiC c _ hcl).1
    | ty w' =>
      have hw := clsV_ty hc
      rw [ho] at e
      have e2 : b = false := by
        have hl2 : k < C.P.classes.length := (List.getElem?_eq_some_iff.mp hD).1
        have e : (if k < C.P.classes.length then some false else none) = some b := e
        rw [if_pos hl2] at e
        exact (Option.some.inj e).symm
      rw [e2]
      exact (K1.isiT w' hw).2.1
    | _ => cases hc
theorem isi_obj {x : AV} : ∀ {cs : List AV} {b : Bool}, cs ≠ [] → isi C.P x cs = some b → (∃ s, tyN x = some s) ∨ ∃ k ns vs, x = .obj k ns vs ∧ k < C.P.classes.length
  | [], _, h, _ => absurd rfl h
  | c :: cs, b, _, e => by
    unfold isi at e
    cases h : isi1 C.P x c with
    | none => rw [h] at e; cases e
    | some q =>
      cases x <;> first
        | exact .inl ⟨_, rfl⟩
        | (rename_i k ns vs; refine .inr ⟨k, ns, vs, rfl, ?_⟩; by_cases hk : k < C.P.classes.length; exact hk; (cases c <;> simp [isi1, tyN, hk] at h))
        | (cases c <;> simp [isi1, tyN] at h)
theorem isi_any (O : XOk C cl L X) {φ : List Addr} {F : FZ} {H : Hp} {S : HS} (R : HR C φ F S H) {v : AV} {u : V} (r : Rep C φ F H v u) {t : Value}
    (ht : (∃ s, tyN (vw S v) = some s ∧ t = .type s) ∨ (∃ k ns vs D, vw S v = .obj k ns vs ∧ C.P.classes[k]? = some D ∧ t = .ref (C.ca k))) :
    ∀ {cs : List AV} {b : Bool}, (∀ c ∈ cs, (clsV C c).isSome = true) → isi C.P (vw S v) cs = some b → PySem.W.kitAny X.K t (cs.map (clsU C)) = some b
  | [], b, _, e => by
    have e : some false = some b := e
    cases e
    rfl
  | c :: cs, b, hc, e => by
    unfold isi at e
    obtain ⟨w, hw⟩ := Option.isSome_iff_exists.mp (hc c List.mem_cons_self)
    cases h : isi1 C.P (vw S v) c with
    | none => rw [h] at e; cases e
    | some q =>
      rw [h] at e
      have h1 := isi1_ok O R r hw h t ht
      cases q with
      | true =>
        cases e
        exact kitAny_cons h1 (fun z => by cases z) fun _ => rfl
      | false => exact kitAny_cons h1 (fun _ => isi_any O R r ht (fun c' h' => hc c' (List.mem_cons_of_mem _ h')) e) fun z => by cases z
theorem isi_ty (O : XOk C cl L X) {φ : List Addr} {F : FZ} {H : Hp} {S : HS} (R : HR C φ F S H) {v : AV} {u : V} (r : Rep C φ F H v u) {cs : List AV} {b : Bool} (hne : cs ≠ []) (hc : ∀ c ∈ cs, (clsV C c).isSome = true) (e : isi C.P (vw S v) cs = some b) :
    ∃ t, TyX X.K H u t ∧ PySem.W.kitAny X.K t (cs.map (clsU C)) = some b ∧ ∀ c, cs = [c] → PySem.W.kitOne X.K t (clsU C c) = some b := by
  have fin : ∀ t, TyX X.K H u t → ((∃ s, tyN (vw S v) = some s ∧ t = .type s) ∨ (∃ k ns vs D, vw S v = .obj k ns vs ∧ C.P.classes[k]? = some D ∧ t = .ref (C.ca k))) →
      ∃ t, TyX X.K H u t ∧ PySem.W.kitAny X.K t (cs.map (clsU C)) = some b ∧ ∀ c, cs = [c] → PySem.W.kitOne X.K t (clsU C c) = some b := fun t ty ht =>
    ⟨t, ty, isi_any O R r ht hc e, fun c hcs => by
      subst hcs
      obtain ⟨w, hw⟩ := Option.isSome_iff_exists.mp (hc c List.mem_cons_self)
      refine isi1_ok O R r hw ?_ t ht
      unfold isi at e
      cases q : isi1 C.P (vw S v) c with
      | none => rw [q] at e; cases e
      | some z =>
        rw [q] at e
        cases z with
        | true => exact e
        | false => exact e⟩
  rcases isi_obj hne e with ⟨s, hs⟩ | ⟨k, ns, vs, ho, hk⟩
  · exact fin _ (ty_rep R r hs).1 (.inl ⟨s, hs, rfl⟩)
  · have hD : C.P.classes[k]? = some C.P.classes[k] := by simp [hk]
    exact fin _ (ty_obj O R r ho hD) (.inr ⟨k, ns, vs, _, ho, hD, rfl⟩)
theorem wIsi_of {S : HS} {x : AV} {cs : List AV} {Q : AV → HS → Prop} (h : match isi C.P (vw S x) cs with
    | some b => Q (.bl b) S
    | none => False) : ∃ b, isi C.P (vw S x) cs = some b ∧ Q (.bl b) S := by
  split at h
  · exact ⟨_, by assumption, h⟩
  · exact h.elim
/-- isinstance(a, C) -/
theorem se_isi1 (O : XOk C cl L X) {f : Expr} {x : Str} {p : Pos} {k : AV} {w : V} (hg : Gl X x) (hm : X.mg x = none) (hv : bootBuiltins x = some (.builtin "isinstance")) (hk : clsV C k = some w) (ha : PE X a (tE C cl ma)) (hc : PE X f (tC w))
    (hn : x ≠ "__name__") (hdb : (x == ("__debug__" : Str)) = false) (h1 : starEach [a, f] X.env = (false, eval a X.env) :: starEach [f] X.env) (h2 : starEach [f] X.env = (false, eval f X.env) :: starEach [] X.env) (hpl : (backTo pos (starEach [f] X.env)).any (·.1) = false) :
    PE X (.Call (.Name x p) [a, f] [] pos) (tE C cl (.isi ma [k])) := by
  have hcl := clsV_of hk
  refine PE.weak (pe_callB call_isi hg hm hv (pa_cons ha (pa_cons hc pa_nil h2) h1) hn hdb h1 hpl) fun σ H Q ⟨φ, F, S, σa, Qa, R, Rs, w', n⟩ => ?_
  exact tE_bind R Rs w' fun y S1 φ1 F1 H1 u l1 x1 R1 r1 Rs1 w1 => by
    obtain ⟨b, e, q⟩ := wIsi_of w1
    obtain ⟨t, ty, _, k1⟩ := isi_ty O R1 r1 (by simp) (fun c hc => by simp at hc; subst hc; rw [hk]; rfl) e
    exact ⟨u, w, t, _, b, rfl, hcl, ty, k1 _ rfl, (n.mono l1 x1).now R1 (.bl b) q⟩
/-- names of classes -/
def tWs (ws : List V) : TA := fun _ H Q => Q ws H
theorem pws_nil : PA X [] (tWs []) := pa_nil
theorem pws_cons {f : Expr} {fs : List Expr} {w : V} {ws : List V} (h : PE X f (tC w)) (hr : PA X fs (tWs ws)) (hs : starEach (f :: fs) X.env = (false, eval f X.env) :: starEach fs X.env) : PA X (f :: fs) (tWs (w :: ws)) := pa_cons h hr hs
theorem clsVs_of : ∀ {cs : List AV} {ws : List V}, cs.map (clsV C) = ws.map some → Paired ClsV ws (cs.map (clsU C)) ∧ ∀ c ∈ cs, (clsV C c).isSome = true
  | [], [], _ => ⟨.nil, fun _ h => by cases h⟩
  | [], w :: ws, h => by simp at h
  | c :: cs, [], h => by simp at h
  | c :: cs, w :: ws, h => by
    simp only [List.map_cons, List.cons.injEq] at h
    obtain ⟨h1, h2⟩ := clsVs_of h.2
    exact ⟨.cons (clsV_of h.1) h1, fun c' hc => by
      rcases List.mem_cons.mp hc with e | hc
      · rw [e, h.1]; rfl
      · exact h2 c' hc⟩
/-- isinstance(a, (C1, C2, ..)) -/
theorem se_isiT (O : XOk C cl L X) {fs : List Expr} {x : Str} {p p2 : Pos} {cs : List AV} {ws : List V} {kk : Nat} (hg : Gl X x) (hm : X.mg x = none) (hv : bootBuiltins x = some (.builtin "isinstance")) (hk : cs.map (clsV C) = ws.map some) (hne : cs ≠ []) (hl : ws.length ≤ 100)
    (ha : PE X a (tE C cl ma)) (hc : PA X fs (tWs ws)) (hn : x ≠ "__name__") (hdb : (x == ("__debug__" : Str)) = false) (h1 : starEach [a, .Tuple fs kk p2] X.env = (false, eval a X.env) :: starEach [.Tuple fs kk p2] X.env) :
    PE X (.Call (.Name x p) [a, .Tuple fs kk p2] [] pos) (tE C cl (.isi ma cs)) := by
  obtain ⟨hp, hcs⟩ := clsVs_of hk
  refine PE.weak (pe_callB call_isiT hg hm hv (pa_cons ha (pa_cons (pe_tup hc) pa_nil rfl) h1) hn hdb h1 rfl) fun σ H Q ⟨φ, F, S, σa, Qa, R, Rs, w', n⟩ => ?_
  exact tE_bind R Rs w' fun y S1 φ1 F1 H1 u l1 x1 R1 r1 Rs1 w1 => by
    obtain ⟨b, e, q⟩ := wIsi_of w1
    refine ⟨Nat.le_trans hl (by decide), fun tp htp => ?_⟩
    obtain ⟨R2, x2⟩ := R1.newF htp (.tup ws)
    obtain ⟨t, ty, k1, _⟩ := isi_ty O R2 (Rep.mono Le.rfl' x2 _ _ r1) hne hcs e
    exact ⟨u, tp, ws, t, _, b, rfl, upd_same, hp, ty, k1, (n.mono l1 (x1.trans x2)).now R2 (.bl b) q⟩
/-! ### comparisons -/
theorem looks_at {M : Model} {h : Heap} {p : Addr} {o : Obj} {tb : Value} (e : h.get? p = some o) (hc : o.cls = tb) : PySem.W.Looks M h (typeOf (.ref p)) tb := fun A Q E s k q => wpAny_typeOf_ref (k _ _ e) (by rw [hc]; exact q)
/-- the type of what is compared with -/
theorem type_known (O : XOk C cl L X) {φ : List Addr} {F : FZ} {H : Hp} {S : HS} (R : HR C φ F S H) {b : AV} {y : V} {u : Value} {pins : List (Addr × Obj)} {s : Shared} {σ : St} (I : Inv X pins σ H s) (rb : Rep C φ F H b y) (ry : RelV y u) (hk : known C.P (vw S b) = true) {c : Nat} {D : MCls} (hD : C.P.classes[c]? = some D) :
    ∃ tb, PySem.W.Looks (model X.prog X.w) s.heap (typeOf u) tb ∧ PySem.W.notFirst X.K (C.ca c) tb = true := by
  have K1 := O.lk.cls c D hD
  have nf : ∀ t ∈ TYS, PySem.W.notFirst X.K (C.ca c) (.type t) = true := fun t ht => by
    unfold PySem.W.notFirst
    rw [O.hK, (K1.isiT t ht).2.2]
    simp
  cases hv : vw S b with
  | non => rw [view_non R rb hv] at ry; cases ry; exact ⟨_, .of_pure rfl, nf "NoneType" (by decide)⟩
  | bl z => rw [view_bl R rb hv] at ry; cases ry; exact ⟨_, .of_pure rfl, nf "bool" (by decide)⟩
  | int z => rw [view_int R rb hv] at ry; obtain ⟨t, rfl⟩ := ry; exact ⟨_, .of_pure rfl, nf "int" (by decide)⟩
  | str z => rw [view_str R rb hv] at ry; obtain ⟨t, rfl⟩ := ry; exact ⟨_, .of_pure rfl, nf "str" (by decide)⟩
  | tup xs =>
    obtain ⟨p, ys, rfl, f, h1, h2⟩ := view_tup R rb hv
    cases ry
    obtain ⟨_, _, _, o, ho, hc, _⟩ := (show ObjOk X.prog X.w H s.heap p (.tup ys) from I.hok p _ h1)
    exact ⟨_, looks_at ho hc, nf "tuple" (by decide)⟩
  | lst xs =>
    obtain ⟨p, ys, rfl, h1, h2⟩ := view_lst R rb hv
    cases ry
    obtain ⟨_, _, n, _, ho⟩ := (show ObjOk X.prog X.w H s.heap p (.lst ys) from I.hok p _ h1)
    exact ⟨_, looks_at ho rfl, nf "list" (by decide)⟩
  | obj k ns vs =>
    rw [hv] at hk
    have hl : k < C.P.classes.length := of_decide_eq_true hk
    obtain ⟨p, dx, ys, rfl, h1, _⟩ := view_obj R rb hv
    cases ry
    obtain ⟨mB, J, _⟩ := ins_get I.hok h1
    obtain ⟨od, J, _⟩ := J.look
    exact ⟨_, J.type, by rw [O.hK]; exact (K1.isiC k C.P.classes[k] (by simp [hl])).2⟩
  | dct ks vs =>
    cases rb with
    | ref h1 =>
      obtain ⟨o, e2, r2⟩ := R.at' h1
      unfold vw at hv
      simp only [e2] at hv
      cases o with
      | lst xs => cases hv
      | ins c ns vs => cases hv
      | dead => exact r2.elim
      | dct _ _ => exact r2.elim
    | _ => cases hv
  | _ => rw [hv] at hk; cases hk
theorem cl_eq {c k : Nat} (h : (C.P.cl? c).eq = some k) : ∃ D, C.P.classes[c]? = some D ∧ D.eq = some k := by
  cases e : C.P.classes[c]? with
  | none => rw [cl_of e] at h; cases h
  | some D => exact ⟨D, rfl, by rw [cl_at e] at h; exact h⟩
/-- the call of a def from a deeper place -/
theorem call_in1 (O : XOk C cl L X) {pins : List (Addr × Obj)} {s : Shared} {σ : St} {H : Hp} {Q : VK} {us : List Value} {vs : List V} {φ : List Addr} {F : FZ} {S : HS} {args : List AV} {Qa : AV → HS → Prop} {k : Nat} {E : Value → Shared → Prop}
    (I : Inv X pins σ H s) (r : Vals vs us) (R : HR C φ F S H) (rr : RepL C φ F H args vs) (w : cl k args S Qa) (n : NxV C φ F H Qa Q) : wpAny (model X.prog X.w) X.A.in1 (call (.ref (C.fa k)) us) (EP X pins σ Q) E s := by
  obtain ⟨D, hD, _⟩ := O.cll _ _ _ _ w
  obtain ⟨fd, ps, _, hF, hb, _⟩ := O.fns k D hD
  have hsp : spC C cl k vs H Q E0 := ⟨φ, F, S, args, Qa, R, rr, w, n⟩
  have hl : us.length = ps.length := by rw [← r.length]; exact hF.len _ _ _ _ hsp
  refine wpAny_call (codeAny_mono (hF.run X.A.in1 X.stack s H ⟨us, []⟩ us vs Q E0 ((O.room.mono (show L + 1 ≤ L + 4 by omega)).in1) I.env0.in1 (by
    have := hb s us I.kIn (by simpa using hl)
    simpa using this) r hsp) fun r s' hq => ?_)
  cases r with
  | error er => exact False.elim hq
  | ok fl =>
    cases fl with
    | ret u => exact I.after hq
    | next => exact False.elim hq
    | brk => exact False.elim hq
    | cont => exact False.elim hq
theorem own_eq (O : XOk C cl L X) {φ : List Addr} {F : FZ} {H : Hp} {S : HS} {a b : AV} {x y : V} {v u : Value} {pins : List (Addr × Obj)} {s : Shared} {σ : St} {Q : VK} {Qb : Bool → HS → Prop} (I : Inv X pins σ H s) (rx : RelV x v) (ry : RelV y u)
    (R : HR C φ F S H) (ra : Rep C φ F H a x) (rb : Rep C φ F H b y) {c k : Nat} {ns : List Nat} {vs : List AV} (e : vw S a = .obj c ns vs) (hk : (C.P.cl? c).eq = some k) (w : known C.P (vw S b) = true ∧ cl k [a, b] S fun v S1 => match v with
      | .bl b => Qb b S1
      | _ => False) :
    (NxV C φ F H (fun v S1 => ∃ b, v = .bl b ∧ Qb b S1) Q → wpAny (model X.prog X.w) X.A (richCompare .Eq v u) (EP X pins σ Q) X.xe s) ∧
    (NxV C φ F H (fun v S1 => ∃ b, v = .bl (!b) ∧ Qb b S1) Q → wpAny (model X.prog X.w) X.A (richCompare .NotEq v u) (EP X pins σ Q) X.xe s) := by
  obtain ⟨hkn, w⟩ := w
  obtain ⟨D, hD, hk⟩ := cl_eq hk
  have K1 := O.lk.cls c D hD
  obtain ⟨q1, q2, q3⟩ := K1.eq k hk
  obtain ⟨tb, hb, hn⟩ := type_known O R I rb ry hkn hD
  obtain ⟨p, dx, ys, rfl, e1, e2, e3, rr⟩ := view_obj R ra e
  cases rx
  obtain ⟨mA, J, _⟩ := ins_get I.hok e1
  obtain ⟨od, J, _⟩ := J.look
  have hu := O.room.units
  rw [← O.hK] at q1 q2 q3
  have hm := K1.hm
  rw [← O.hK] at hm
  refine ⟨fun n => ?_, fun n => ?_⟩
  · obtain ⟨m, hF⟩ := I.fr
    refine PySem.W.cmp_K (op := .Eq) (tb := tb) (by omega) hF I.ok.mod.kin J hb hn q1 q2 ?_
    refine thn (call_ok (Q := fun z H1 => ∃ b, z = .bl b ∧ Q (.bl b) H1) O I (vs := [.ref p, y]) (.cons rfl (.cons ry .nil)) R (.cons ra (.cons rb .nil)) w fun z S1 φ1 F1 H1 uu l1 x1 R1 r1 q => ?_) fun r s1 ⟨z, H1, I1, rz, b', ez, q⟩ => ?_
    · split at q
      · cases r1
        exact ⟨_, rfl, n _ S1 φ1 F1 H1 _ l1 x1 R1 (.bl _) ⟨_, rfl, q⟩⟩
      · exact q.elim
    · subst ez
      cases rz
      exact ⟨.bl b', H1, I1, rfl, q⟩
  · refine ne_K (tb := tb) (by omega) I.kIn J hb hn q3 hm q1 q2 ?_
    refine thn (call_in1 (Q := fun z H1 => ∃ b, z = .bl b ∧ Q (.bl (!b)) H1) O I (vs := [.ref p, y]) (.cons rfl (.cons ry .nil)) R (.cons ra (.cons rb .nil)) w fun z S1 φ1 F1 H1 uu l1 x1 R1 r1 q => ?_) fun r s1 ⟨z, H1, I1, rz, b', ez, q⟩ => ?_
    · split at q
      · cases r1
        exact ⟨_, rfl, n _ S1 φ1 F1 H1 _ l1 x1 R1 (.bl _) ⟨_, rfl, q⟩⟩
      · exact q.elim
    · subst ez
      cases rz
      exact ⟨_, rfl, .bl (!b'), H1, I1, rfl, q⟩
theorem op_cmp (O : XOk C cl L X) (op : CmpOp) : OpR X (compareOp op) (r2 C fun a b S Q => wCmp C.P cl op a b S fun k S1 => Q (.bl k) S1) := by
  intro pins s σ H x y v u Q I rx ry h
  obtain ⟨φ, F, S, a, b, Qa, R, ra, rb, w, n⟩ := h
  have hu : X.A.units + 64 < cLine := O.room.units
  have i2 : ∀ {f : Int → Int → Prop}, w2I a b f → ∃ i j, x = .int i ∧ y = .int j ∧ f i j := fun w => by
    obtain ⟨i, j, e1, e2, q⟩ := w2I_of w
    subst e1 e2
    cases ra
    cases rb
    exact ⟨i, j, rfl, rfl, q⟩
  have eqD : ∀ {W : Bool → Prop}, wEqD (vw S a) (vw S b) W → ∃ d e, Dp X.K H x d ∧ Dp X.K H y e ∧ SeqAt.shaped d = true ∧ SeqAt.shaped e = true ∧ W (PyData.eqv d e) := fun {W} w => by
    unfold wEqD at w
    split at w
    · rename_i d e e1 e2
      exact ⟨d, e, view_pd R ra e1, view_pd R rb e2, w.1, w.2.1, w.2.2⟩
    · exact w.elim
  cases op with
  | Lt =>
    obtain ⟨i, j, rfl, rfl, q⟩ := i2 (show w2I _ _ _ from w)
    exact op_lt pins s σ H _ _ v u Q I rx ry ⟨i, j, rfl, rfl, n.now R (.bl _) q⟩
  | LtE =>
    obtain ⟨i, j, rfl, rfl, q⟩ := i2 (show w2I _ _ _ from w)
    exact op_le pins s σ H _ _ v u Q I rx ry ⟨i, j, rfl, rfl, n.now R (.bl _) q⟩
  | Gt =>
    obtain ⟨i, j, rfl, rfl, q⟩ := i2 (show w2I _ _ _ from w)
    exact op_gt pins s σ H _ _ v u Q I rx ry ⟨i, j, rfl, rfl, n.now R (.bl _) q⟩
  | GtE =>
    obtain ⟨i, j, rfl, rfl, q⟩ := i2 (show w2I _ _ _ from w)
    exact op_ge pins s σ H _ _ v u Q I rx ry ⟨i, j, rfl, rfl, n.now R (.bl _) q⟩
  | Eq =>
    replace w : wEq C.P cl a b S fun b S1 => Qa (.bl b) S1 := w
    unfold wEq at w
    split at w
    · rename_i c ns vs e
      split at w
      · rename_i k hk
        have := (own_eq (Q := Q) O I rx ry R ra rb e hk w).1 fun v S1 φ1 F1 H1 u l1 x1 R1 r1 ⟨b, e, q⟩ => by
          subst e
          exact n _ S1 φ1 F1 H1 _ l1 x1 R1 r1 q
        unfold compareOp
        exact this
      · exact w.elim
    · obtain ⟨d, e, h1, h2, h3, h4, q⟩ := eqD w
      exact op_eqD hu pins s σ H _ _ v u Q I rx ry ⟨d, e, h1, h2, h3, h4, n.now R (.bl _) q⟩
  | NotEq =>
    replace w : wEq C.P cl a b S fun b S1 => Qa (.bl (!b)) S1 := w
    unfold wEq at w
    split at w
    · rename_i c ns vs e
      split at w
      · rename_i k hk
        have := (own_eq (Q := Q) O I rx ry R ra rb e hk w).2 fun v S1 φ1 F1 H1 u l1 x1 R1 r1 ⟨b, e, q⟩ => by
          subst e
          exact n _ S1 φ1 F1 H1 _ l1 x1 R1 r1 q
        unfold compareOp
        exact this
      · exact w.elim
    · obtain ⟨d, e, h1, h2, h3, h4, q⟩ := eqD w
      exact op_neD hu pins s σ H _ _ v u Q I rx ry ⟨d, e, h1, h2, h3, h4, n.now R (.bl _) q⟩
  | Is =>
    cases rb with
    | non =>
      have e : decide (x = V.non) = isNon a := by cases ra <;> rfl
      exact op_isN pins s σ H _ _ v u Q I rx ry ⟨rfl, by rw [e]; exact n.now R (.bl _) w⟩
    | _ => exact False.elim w
  | IsNot =>
    cases rb with
    | non =>
      have e : decide (x = V.non) = isNon a := by cases ra <;> rfl
      exact op_notN pins s σ H _ _ v u Q I rx ry ⟨rfl, by rw [e]; exact n.now R (.bl _) w⟩
    | _ => exact False.elim w
  | In =>
    replace w : wIn a (vw S b) fun b => Qa (.bl b) S := w
    unfold wIn at w
    split at w
    · rename_i ys e
      obtain ⟨p, zs, rfl, f, h1, h2⟩ := view_tup R rb e
      obtain ⟨⟨f1, f2⟩, q⟩ := w
      exact op_in_seq pins s σ H _ _ v u Q I rx ry ⟨p, zs, rfl, .inr (.inl (.inl h1)), flat_rep ra f1, flatL_rep h2 f2, by rw [inV_rep ra f1 h2 f2]; exact n.now R (.bl _) q⟩
    · rename_i ys e
      obtain ⟨p, zs, rfl, h1, h2⟩ := view_lst R rb e
      obtain ⟨⟨f1, f2⟩, q⟩ := w
      exact op_in_seq pins s σ H _ _ v u Q I rx ry ⟨p, zs, rfl, .inl (.inl (.inl h1)), flat_rep ra f1, flatL_rep h2 f2, by rw [inV_rep ra f1 h2 f2]; exact n.now R (.bl _) q⟩
    · exact w.elim
  | NotIn =>
    replace w : wIn a (vw S b) fun b => Qa (.bl (!b)) S := w
    unfold wIn at w
    split at w
    · rename_i ys e
      obtain ⟨p, zs, rfl, f, h1, h2⟩ := view_tup R rb e
      obtain ⟨⟨f1, f2⟩, q⟩ := w
      exact op_notIn_seq pins s σ H _ _ v u Q I rx ry ⟨p, zs, rfl, .inr (.inl (.inl h1)), flat_rep ra f1, flatL_rep h2 f2, by rw [inV_rep ra f1 h2 f2]; exact n.now R (.bl _) q⟩
    · rename_i ys e
      obtain ⟨p, zs, rfl, h1, h2⟩ := view_lst R rb e
      obtain ⟨⟨f1, f2⟩, q⟩ := w
      exact op_notIn_seq pins s σ H _ _ v u Q I rx ry ⟨p, zs, rfl, .inl (.inl (.inl h1)), flat_rep ra f1, flatL_rep h2 f2, by rw [inV_rep ra f1 h2 f2]; exact n.now R (.bl _) q⟩
    · exact w.elim
end
end MP
/-! MP3f: built-in functions; comparisons as expressions. -/
namespace MP
open PySem PySem.Spec L2
open PyProof.Rows hiding St
section
variable {C : Cfg} {cl : CallW} {L : Nat} {X : Cx} {a b c : Expr} {ma mb mc : ME} {pos : Pos}
theorem se_cmp (O : XOk C cl L X) {op : CmpOp} (ha : PE X a (tE C cl ma)) (hb : PE X b (tE C cl mb)) (hm : behindInMarks op b = false) : PE X (.Compare a [op] [b] pos) (tE C cl (.cmp op ma mb)) :=
  PE.weak (pe_cmpR (op_cmp O op) ha hb hm) fun σ H Q ⟨φ, F, S, σa, Qa, R, Rs, w, n⟩ =>
    tE_bind R Rs w fun x S1 φ1 F1 H1 u l1 x1 R1 r1 Rs1 w1 => tE_bind R1 Rs1 w1 fun y S2 φ2 F2 H2 v l2 x2 R2 rr2 Rs2 w2 =>
      ⟨φ2, F2, S2, x, y, Qa, R2, Rep.mono l2 x2 _ _ r1, rr2, w2, n.mono (l1.trans l2) (x1.trans x2)⟩
/-- a wish of a truth value, of values -/
def ofB (Q : Bool → HS → Prop) : AV → HS → Prop := fun v S => match v with
  | .bl k => Q k S
  | _ => False
theorem st_cmp (O : XOk C cl L X) {op : CmpOp} (ha : PE X a (tE C cl ma)) (hb : PE X b (tE C cl mb)) (hm : behindInMarks op b = false) : PT X (.Compare a [op] [b] pos) (tTs C cl (.cmp op ma mb)) := by
  refine PT.weak (pt_cmpR (op_cmp (C := C) O op) ha hb hm) fun σ H Q ⟨φ, F, S, σa, Qa, R, Rs, w, n⟩ =>
    tE_bind R Rs w fun x S1 φ1 F1 H1 u l1 x1 R1 r1 Rs1 w1 => tE_bind R1 Rs1 w1 fun y S2 φ2 F2 H2 v l2 x2 R2 rr2 Rs2 w2 =>
      ⟨φ2, F2, S2, x, y, ofB Qa, R2, Rep.mono l2 x2 _ _ r1, rr2, w2, fun z S3 φ3 F3 H3 uu l3 x3 R3 r3 q => ?_⟩
  cases r3 with
  | bl k => exact ⟨k, rfl, n k S3 φ3 F3 H3 (l1.trans (l2.trans l3)) (x1.trans (x2.trans x3)) R3 q⟩
  | _ => exact False.elim q
theorem chain_bind (O : XOk C cl L X) {op op' : CmpOp} {φ : List Addr} {F : FZ} {H : Hp} {S : HS} {σa : Sg} {σ : St} {Qb : Bool → HS → Prop} {T : V → Hp → Prop} (R : HR C φ F S H) (Rs : RepS C φ F H σa σ) 
    (w : wE C.P cl ma σa S fun x S1 => wE C.P cl mb σa S1 fun y S2 => wCmp C.P cl op x y S2 fun k S3 => if k = true then wE C.P cl mc σa S3 fun w S4 => wCmp C.P cl op' y w S4 fun k S5 => Qb k S5 else Qb false S3)
    (n : ∀ k S' φ' F' H', Le φ φ' → Ext F H F' H' → HR C φ' F' S' H' → Qb k S' → T (.bl k) H') :
    tChain (r2 C fun a b S Q => wCmp C.P cl op a b S fun k S1 => Q (.bl k) S1) (r2 C fun a b S Q => wCmp C.P cl op' a b S fun k S1 => Q (.bl k) S1) (tE C cl ma) (tE C cl mb) (tE C cl mc) σ H T := by
  refine tE_bind R Rs w fun x S1 φ1 F1 H1 u l1 x1 R1 r1 Rs1 w1 => tE_bind R1 Rs1 w1 fun y S2 φ2 F2 H2 v l2 x2 R2 rr2 Rs2 w2 =>
      ⟨φ2, F2, S2, x, y, ofB fun k S3 => if k = true then wE C.P cl mc σa S3 fun w S4 => wCmp C.P cl op' y w S4 fun k S5 => Qb k S5 else Qb false S3, R2, Rep.mono l2 x2 _ _ r1, rr2, w2, fun z S3 φ3 F3 H3 uu l3 x3 R3 r3 q => ?_⟩
  have l13 := l1.trans (l2.trans l3)
  have x13 := x1.trans (x2.trans x3)
  cases r3 with
  | bl k =>
    refine ⟨k, rfl, ?_⟩
    cases k with
    | false => exact iteF (n false S3 φ3 F3 H3 l13 x13 R3 q)
    | true =>
      refine iteT (tE_bind R3 (Rs2.mono l3 x3) q fun w S4 φ4 F4 H4 ww l4 x4 R4 r4 Rs4 w4 => ?_)
      refine ⟨φ4, F4, S4, y, w, ofB Qb, R4, Rep.mono (l3.trans l4) (x3.trans x4) _ _ rr2, r4, w4, fun z' S5 φ5 F5 H5 u5 l5 x5 R5 r5 q5 => ?_⟩
      cases r5 with
      | bl k => exact n k S5 φ5 F5 H5 (l13.trans (l4.trans l5)) (x13.trans (x4.trans x5)) R5 q5
      | _ => exact False.elim q5
  | _ => exact False.elim q
theorem se_chain (O : XOk C cl L X) {op op' : CmpOp} (ha : PE X a (tE C cl ma)) (hb : PE X b (tE C cl mb)) (hc : PE X c (tE C cl mc)) (hm : lastMarks [op, op'] [b, c] = false) : PE X (.Compare a [op, op'] [b, c] pos) (tE C cl (.chain op op' ma mb mc)) :=
  PE.weak (pe_chain (op_cmp O op) (op_cmp O op') ha hb hc hm) fun σ H Q ⟨φ, F, S, σa, Qa, R, Rs, w, n⟩ =>
    chain_bind O (Qb := fun k S => Qa (.bl k) S) R Rs w fun k S' φ' F' H' l x R' q => n _ S' φ' F' H' _ l x R' (.bl k) q
theorem st_chain (O : XOk C cl L X) {op op' : CmpOp} (ha : PE X a (tE C cl ma)) (hb : PE X b (tE C cl mb)) (hc : PE X c (tE C cl mc)) (hm : lastMarks [op, op'] [b, c] = false) : PT X (.Compare a [op, op'] [b, c] pos) (tTs C cl (.chain op op' ma mb mc)) :=
  PT.weak (pt_chain (op_cmp O op) (op_cmp O op') ha hb hc hm) fun σ H Q ⟨φ, F, S, σa, Qa, R, Rs, w, n⟩ =>
    chain_bind O (Qb := Qa) (T := fun z H' => ∃ k, z = .bl k ∧ Q k H') R Rs w fun k S' φ' F' H' l x R' q => ⟨k, rfl, n k S' φ' F' H' l x R' q⟩
/-- tests -/
theorem st_plain (O : XOk C cl L X) (ha : PE X a (tE C cl ma)) (he : ∀ whole, isTrue a X.env whole = (do let v ← whole; standAt a.pos; holding [v] (truthy v))) : PT X a (tTs C cl ma) :=
  PT.weak (pt_truth ha he) fun σ H Q ⟨φ, F, S, σa, Qa, R, Rs, w, n⟩ => tE_bind R Rs w fun x S1 φ1 F1 H1 u l1 x1 R1 r1 Rs1 w1 => by
    obtain ⟨k, e, q⟩ := wTru_of w1
    exact ⟨k, by rw [O.hK]; exact truth_ok R1 r1 e, n k S1 φ1 F1 H1 l1 x1 R1 q⟩
theorem tTs_not {φ : List Addr} {F : FZ} {H : Hp} {S : HS} {σa : Sg} {σ : St} {Qa : Bool → HS → Prop} {Q : Bool → Hp → Prop} (R : HR C φ F S H) (Rs : RepS C φ F H σa σ) (w : wE C.P cl ma σa S fun x S1 => wTru S1 x fun k => Qa k S1) (n : NxB C φ F H Qa Q) : tTs C cl ma σ H Q :=
  ⟨φ, F, S, σa, Qa, R, Rs, w, n⟩
end
end MP
/-! MP3g: tests; built-in functions. -/
namespace MP
open PySem PySem.Spec L2
open PyProof.Rows hiding St
section
variable {C : Cfg} {cl : CallW} {L : Nat} {X : Cx} {a b c : Expr} {ma mb mc : ME} {pos : Pos}
theorem st_not (O : XOk C cl L X) (ha : PT X a (tTs C cl ma)) : PT X (.UnaryOp .Not a pos) (tTs C cl (.un .Not ma)) :=
  PT.weak (pt_not ha) fun σ H Q ⟨φ, F, S, σa, Qa, R, Rs, w, n⟩ =>
    ⟨φ, F, S, σa, fun k S1 => Qa (!k) S1, R, Rs, wE_mono O.clm ma _ _ _ _ (fun x S1 q => by
      have q : match truth S1 x with
        | some k => wTru S1 (.bl (!k)) fun k => Qa k S1
        | none => False := q
      unfold wTru
      split at q
      · rename_i k e; first | (rw [e]; exact q) | exact q
      · exact q.elim) w, fun k S' φ' F' H' l x R' q => n (!k) S' φ' F' H' l x R' q⟩
/-- and, or as a test: whatever the whole is -/
theorem sw_bop (O : XOk C cl L X) {op : BoolOp} {rest : List Expr} (ha : PT X a (tTs C cl ma)) (hb : PW X (.BoolOp op (b :: rest) pos) (tTs C cl mb)) : PW X (.BoolOp op (a :: b :: rest) pos) (tTs C cl (.bop op ma mb)) := by
  have key : ∀ {φ : List Addr} {F : FZ} {H : Hp} {S : HS} {σa : Sg} {σ : St} {Qa : Bool → HS → Prop}, wE C.P cl (.bop op ma mb) σa S (fun x S1 => wTru S1 x fun k => Qa k S1) →
      wE C.P cl ma σa S fun x S1 => wTru S1 x fun k => if k = (op == .Or) then Qa k S1 else wE C.P cl mb σa S1 fun x S1 => wTru S1 x fun k => Qa k S1 := fun w =>
    wE_mono O.clm ma _ _ _ _ (fun x S1 q => by
      unfold wTru at q ⊢
      cases e : truth S1 x with
      | none => rw [e] at q; exact q
      | some k =>
        simp only [e] at q ⊢
        by_cases hk : k = (op == .Or)
        · rw [if_pos hk] at q ⊢; simpa only [e] using q
        · rw [if_neg hk] at q ⊢; exact q) w
  cases op with
  | And =>
    refine PW.weak (pw_and ha hb) fun σ H Q ⟨φ, F, S, σa, Qa, R, Rs, w, n⟩ => ⟨φ, F, S, σa, _, R, Rs, key (φ := φ) (F := F) (H := H) (σ := σ) w, fun k S1 φ1 F1 H1 l x R1 q => ?_⟩
    cases k with
    | true => exact iteT ⟨φ1, F1, S1, σa, Qa, R1, Rs.mono l x, q, n.mono l x⟩
    | false => exact iteF (n false S1 φ1 F1 H1 l x R1 q)
  | Or =>
    refine PW.weak (pw_or ha hb) fun σ H Q ⟨φ, F, S, σa, Qa, R, Rs, w, n⟩ => ⟨φ, F, S, σa, _, R, Rs, key (φ := φ) (F := F) (H := H) (σ := σ) w, fun k S1 φ1 F1 H1 l x R1 q => ?_⟩
    cases k with
    | true => exact iteT (n true S1 φ1 F1 H1 l x R1 q)
    | false => exact iteF ⟨φ1, F1, S1, σa, Qa, R1, Rs.mono l x, q, n.mono l x⟩
theorem sw_bop1 {op : BoolOp} (ha : PT X a (tTs C cl ma)) : PW X (.BoolOp op [a] pos) (tTs C cl ma) := by
  cases op with
  | And => exact pw_and1 ha
  | Or => exact pw_or1 ha
theorem se_bop1 {op : BoolOp} (ha : PE X a (tE C cl ma)) : PE X (.BoolOp op [a] pos) (tE C cl ma) := pe_one ha
/-! ### built-in functions -/
def biV : BI → Value
  | .len => .builtin "len" | .int => .type "int" | .abs => .builtin "abs" | .list => .type "list" | .tuple => .type "tuple" | .all => .builtin "all" | .any => .builtin "any" | .repr => .builtin "repr" | .max2 => .builtin "max" | .min2 => .builtin "min"
def rBi (C : Cfg) (f : BI) : List V → Hp → VK → Prop := fun us H Q => ∃ φ F S vs Qa, HR C φ F S H ∧ RepL C φ F H vs us ∧ wBi f (vs.map (vw S)) (fun v => Qa v S) ∧ NxV C φ F H Qa Q
theorem map1 {S : HS} {vs : List AV} {y : AV} (h : vs.map (vw S) = [y]) : ∃ v, vs = [v] ∧ vw S v = y := by
  match vs, h with
  | [v], h => exact ⟨v, rfl, by simpa using h⟩
theorem map2 {S : HS} {vs : List AV} {y z : AV} (h : vs.map (vw S) = [y, z]) : ∃ v w, vs = [v, w] ∧ vw S v = y ∧ vw S w = z := by
  match vs, h with
  | [v, w], h => exact ⟨v, w, rfl, by simpa using h⟩
theorem reps1 {φ : List Addr} {F : FZ} {H : Hp} {v : AV} {us : List V} (r : RepL C φ F H [v] us) : ∃ u, us = [u] ∧ Rep C φ F H v u := by
  cases r with
  | cons h1 h2 => cases h2; exact ⟨_, rfl, h1⟩
theorem reps2 {φ : List Addr} {F : FZ} {H : Hp} {v w : AV} {us : List V} (r : RepL C φ F H [v, w] us) : ∃ u x, us = [u, x] ∧ Rep C φ F H v u ∧ Rep C φ F H w x := by
  cases r with
  | cons h1 h2 =>
    cases h2 with
    | cons h3 h4 => cases h4; exact ⟨_, _, rfl, h1, h3⟩
theorem bools_rep {φ : List Addr} {F : FZ} {H : Hp} : ∀ {xs : List AV} {ys : List V}, RepL C φ F H xs ys → (xs.all fun v => (isB v).isSome) = true → ys = (xs.map fun v => (isB v).getD false).map V.bl
  | [], _, .nil, _ => rfl
  | x :: xs, _, .cons h1 h2, h => by
    simp only [List.all_cons, Bool.and_eq_true] at h
    have ih := bools_rep h2 h.2
    cases h1 with
    | bl b => rw [ih]; rfl
    | _ => exact absurd h.1 (by simp [isB])
theorem cr_repr_bl : CallR X (.builtin "repr") (fun xs H Q => ∃ b, xs = [.bl b] ∧ Q (.str (if b then "True" else "False")) H) := by
  intro pins s σ H xs us Q I r h
  obtain ⟨b, rfl, q⟩ := h
  obtain ⟨u, rfl, r1⟩ := vals1 r
  cases r1
  exact PySem.P.repr_of_bool ⟨.str _, H, I.tok _, ⟨_, rfl⟩, q⟩
theorem bi_ok (hK : X.K = C.K) (hc : X.calm = true) (f : BI) : CallR X (biV f) (rBi C f) := by
  intro pins s σ H xs us Q I r h
  obtain ⟨φ, F, S, vs, Qa, R, rr, w, n⟩ := h
  have e1 := call_len (X := X)
  have e2 := call_list_of (X := X)
  have e3 := call_tuple_of (X := X)
  have e4 := cr_all (X := X) hc
  have e5 := cr_any (X := X) hc
  rw [hK] at e1 e2 e3 e4 e5
  generalize hy : vs.map (vw S) = ys at w
  unfold wBi at w
  split at w
  · obtain ⟨v, rfl, ev⟩ := map1 hy
    obtain ⟨u, rfl, ru⟩ := reps1 rr
    obtain ⟨p, zs, rfl, h1, h2⟩ := view_lst R ru ev
    exact e1 pins s σ H _ us Q I r ⟨_, _, rfl, .inl ⟨zs, .inl (.inl h1), rfl⟩, by rw [← h2.length]; exact n.now R (.int _) w⟩
  · obtain ⟨v, rfl, ev⟩ := map1 hy
    obtain ⟨u, rfl, ru⟩ := reps1 rr
    obtain ⟨p, zs, rfl, _, h1, h2⟩ := view_tup R ru ev
    exact e1 pins s σ H _ us Q I r ⟨_, _, rfl, .inr ⟨zs, .inl (.inl h1), rfl⟩, by rw [← h2.length]; exact n.now R (.int _) w⟩
  · obtain ⟨v, rfl, ev⟩ := map1 hy
    obtain ⟨u, rfl, ru⟩ := reps1 rr
    cases view_str R ru ev
    exact e1 pins s σ H _ us Q I r ⟨_, _, rfl, ⟨by rw [← line_eq]; exact w.1, rfl⟩, n.now R (.int _) w.2⟩
  · obtain ⟨v, rfl, ev⟩ := map1 hy
    obtain ⟨u, rfl, ru⟩ := reps1 rr
    cases view_int R ru ev
    exact call_int1 pins s σ H _ us Q I r (.inl ⟨_, rfl, n.now R (.int _) w⟩)
  · obtain ⟨v, rfl, ev⟩ := map1 hy
    obtain ⟨u, rfl, ru⟩ := reps1 rr
    cases view_bl R ru ev
    exact call_int1 pins s σ H _ us Q I r (.inr ⟨_, rfl, n.now R (.int _) w⟩)
  · obtain ⟨v, rfl, ev⟩ := map1 hy
    obtain ⟨u, rfl, ru⟩ := reps1 rr
    cases view_int R ru ev
    exact call_abs pins s σ H _ us Q I r ⟨_, rfl, n.now R (.int _) w⟩
  · obtain ⟨v, rfl, ev⟩ := map1 hy
    obtain ⟨u, rfl, ru⟩ := reps1 rr
    obtain ⟨p, zs, rfl, h1, h2⟩ := view_lst R ru ev
    exact e2 pins s σ H _ us Q I r ⟨_, _, rfl, .inl (.inl (.inl h1)), fun l hl => n.new R hl (fun F' H' f e x => .lst f e (RepL.mono Le.rfl' x _ _ h2)) w⟩
  · obtain ⟨v, rfl, ev⟩ := map1 hy
    obtain ⟨u, rfl, ru⟩ := reps1 rr
    obtain ⟨p, zs, rfl, _, h1, h2⟩ := view_tup R ru ev
    exact e2 pins s σ H _ us Q I r ⟨_, _, rfl, .inr (.inl (.inl h1)), fun l hl => n.new R hl (fun F' H' f e x => .lst f e (RepL.mono Le.rfl' x _ _ h2)) w⟩
  · obtain ⟨v, rfl, ev⟩ := map1 hy
    obtain ⟨u, rfl, ru⟩ := reps1 rr
    obtain ⟨p, zs, rfl, h1, h2⟩ := view_lst R ru ev
    exact e3 pins s σ H _ us Q I r ⟨_, _, rfl, .inl ⟨.inl (.inl h1), fun l hl => n.new R hl (fun F' H' f e x => .tup f e (RepL.mono Le.rfl' x _ _ h2)) w⟩⟩
  · obtain ⟨v, rfl, ev⟩ := map1 hy
    obtain ⟨u, rfl, ru⟩ := reps1 rr
    obtain ⟨p, zs, rfl, h0, h1, h2⟩ := view_tup R ru ev
    exact e3 pins s σ H _ us Q I r ⟨_, _, rfl, .inr ⟨.inl (.inl h1), n.now R (.tup h0 h1 h2) w⟩⟩
  · obtain ⟨v, rfl, ev⟩ := map1 hy
    obtain ⟨u, rfl, ru⟩ := reps1 rr
    obtain ⟨p, zs, rfl, h1, h2⟩ := view_lst R ru ev
    have hb := bools_rep h2 w.1
    refine e4 pins s σ H _ us Q I r ⟨_, _, rfl, .inl (.inl (hb ▸ h1)), ?_⟩
    rw [List.all_map]
    exact n.now R (.bl _) w.2
  · obtain ⟨v, rfl, ev⟩ := map1 hy
    obtain ⟨u, rfl, ru⟩ := reps1 rr
    obtain ⟨p, zs, rfl, h1, h2⟩ := view_lst R ru ev
    have hb := bools_rep h2 w.1
    refine e5 pins s σ H _ us Q I r ⟨_, _, rfl, .inl (.inl (hb ▸ h1)), ?_⟩
    rw [List.any_map]
    exact n.now R (.bl _) w.2
  · obtain ⟨v, rfl, ev⟩ := map1 hy
    obtain ⟨u, rfl, ru⟩ := reps1 rr
    cases view_bl R ru ev
    exact cr_repr_bl pins s σ H _ us Q I r ⟨_, rfl, n.now R (.str _) w⟩
  · obtain ⟨v, v', rfl, ev, ev'⟩ := map2 hy
    obtain ⟨u, u', rfl, ru, ru'⟩ := reps2 rr
    cases view_int R ru ev
    cases view_int R ru' ev'
    exact call_max2 hc pins s σ H _ us Q I r ⟨_, _, rfl, n.now R (.int _) w⟩
  · obtain ⟨v, v', rfl, ev, ev'⟩ := map2 hy
    obtain ⟨u, u', rfl, ru, ru'⟩ := reps2 rr
    cases view_int R ru ev
    cases view_int R ru' ev'
    exact call_min2 hc pins s σ H _ us Q I r ⟨_, _, rfl, n.now R (.int _) w⟩
  · exact w.elim
end
end MP
/-! MP4: targets, what is walked, comprehensions. -/
namespace MP
open PySem PySem.Spec L2
open PyProof.Rows hiding St
/-- a walked thing that gives xs while G holds -/
structure Walk (C : Cfg) (J : It) (xs : List AV) (G : HS → Prop) (φ : List Addr) (F : FZ) (H : Hp) : Prop where
  go : ∀ φ' F' S' H' i, Le φ φ' → Ext F H F' H' → HR C φ' F' S' H' → G S' → i < xs.length → J.go i H'
  yld : ∀ φ' F' S' H' i x H'', Le φ φ' → Ext F H F' H' → HR C φ' F' S' H' → G S' → J.yld i H' x H'' → H'' = H' ∧ ∀ v, xs[i]? = some v → Rep C φ' F' H' v x
  stop : ∀ φ' F' S' H' i, Le φ φ' → Ext F H F' H' → HR C φ' F' S' H' → G S' → xs.length ≤ i → J.stop i H'
def tI (C : Cfg) (cl : CallW) (m : MI) : TI := fun σ H R => ∃ φ F S σa Ka, HR C φ F S H ∧ RepS C φ F H σa σ ∧ wI C.P cl m σa S Ka ∧
  ∀ xs G S' φ' F' H' J, Le φ φ' → Ext F H F' H' → HR C φ' F' S' H' → Ka xs G S' → Walk C J xs G φ' F' H' → R J H'
/-- outside some slots nothing is changed -/
def Keep (sl : List Nat) (σ σ' : St) : Prop := σ'.length = σ.length ∧ ∀ j, j ∉ sl → σ'[j]? = σ[j]?
theorem Keep.rfl' {sl : List Nat} {σ : St} : Keep sl σ σ := ⟨rfl, fun _ _ => rfl⟩
theorem Keep.trans {sl sl' : List Nat} {σ σ' σ'' : St} (h : Keep sl σ σ') (h' : Keep sl' σ' σ'') : Keep (sl ++ sl') σ σ'' :=
  ⟨h'.1.trans h.1, fun j hj => (h'.2 j fun z => hj (List.mem_append_right _ z)).trans (h.2 j fun z => hj (List.mem_append_left _ z))⟩
def NxG (C : Cfg) (φ : List Addr) (F : FZ) (H : Hp) (sl : List Nat) (σ : St) (Qa : Sg → HS → Prop) (Q : St → Hp → Prop) : Prop :=
  ∀ σa S' φ' F' H' σ', Le φ φ' → Ext F H F' H' → HR C φ' F' S' H' → RepS C φ' F' H' σa σ' → Keep sl σ σ' → Qa σa S' → Q σ' H'
theorem NxS.g {C : Cfg} {φ : List Addr} {F : FZ} {H : Hp} {sl : List Nat} {σ : St} {Qa : Sg → HS → Prop} {Q : St → Hp → Prop} (n : NxS C φ F H Qa Q) : NxG C φ F H sl σ Qa Q := fun σa S' φ' F' H' σ' l x R Rs _ q => n σa S' φ' F' H' σ' l x R Rs q
mutual
def MG.slots : MG → List Nat
  | .nm i => [i]
  | .tup gs => gs.slots
  | _ => []
def MGs.slots : MGs → List Nat
  | .nil => []
  | .cons g r => g.slots ++ r.slots
end
def tG (C : Cfg) (cl : CallW) (g : MG) : TG := fun v σ H Q => ∃ φ F S σa a Qa, HR C φ F S H ∧ RepS C φ F H σa σ ∧ Rep C φ F H a v ∧ wG C.P cl g a σa S Qa ∧ NxG C φ F H g.slots σ Qa Q
def tGs (C : Cfg) (cl : CallW) (g : MGs) : TGs := fun vs σ H Q => ∃ φ F S σa as Qa, HR C φ F S H ∧ RepS C φ F H σa σ ∧ RepL C φ F H as vs ∧ wGs C.P cl g as σa S Qa ∧ NxG C φ F H g.slots σ Qa Q
theorem PI.weak {X : Cx} {tg it : Expr} {t t' : TI} (h : PI X tg it t) (w : ∀ σ H Q, t' σ H Q → t σ H Q) : PI X tg it t' := ⟨fun pins s σ H R I q => h.run pins s σ H R I (w σ H R q)⟩
theorem PG.weak {X : Cx} {tg : Expr} {t t' : TG} (h : PG X tg t) (w : ∀ v σ H Q, t' v σ H Q → t v σ H Q) : PG X tg t' := ⟨fun pins s σ H v u Q I r q => h.run pins s σ H v u Q I r (w v σ H Q q)⟩
theorem PGs.weak {X : Cx} {tg : List Expr} {t t' : TGs} (h : PGs X tg t) (w : ∀ v σ H Q, t' v σ H Q → t v σ H Q) : PGs X tg t' := ⟨fun pins s σ H v u Q I r q => h.run pins s σ H v u Q I r (w v σ H Q q)⟩
theorem PTs.weak {X : Cx} {tg : List Expr} {t t' : TT} (h : PTs X tg t) (w : ∀ σ H Q, t' σ H Q → t σ H Q) : PTs X tg t' := ⟨fun pins s σ H Q I q => h.run pins s σ H Q I (w σ H Q q)⟩
section
variable {C : Cfg} {cl : CallW} {L : Nat} {X : Cx} {a b c : Expr} {ma mb mc : ME} {pos : Pos}
/-! ### built-in calls -/
theorem se_biB (O : XOk C cl L X) {f : BI} {id : String} {x : Str} {p : Pos} {e : Expr} {es : List Expr} {mes : MEs} (hf : biV f = .builtin id) (hg : Gl X x) (hm : X.mg x = none) (hv : bootBuiltins x = some (.builtin id)) (ha : PA X (e :: es) (tEs C cl mes)) (hn : x ≠ "__name__") (hdb : (x == ("__debug__" : Str)) = false)
    (he : starEach (e :: es) X.env = (false, eval e X.env) :: starEach es X.env) (hpl : (backTo pos (starEach es X.env)).any (·.1) = false) : PE X (.Call (.Name x p) (e :: es) [] pos) (tE C cl (.bi f mes)) := by
  have h := bi_ok (C := C) O.hK O.calm f
  rw [hf] at h
  exact PE.weak (pe_callB h hg hm hv ha hn hdb he hpl) fun σ H Q ⟨φ, F, S, σa, Qa, R, Rs, w, n⟩ => tEs_bind R Rs w fun vs S1 φ1 F1 H1 us l1 x1 R1 r1 Rs1 w1 => ⟨φ1, F1, S1, vs, Qa, R1, r1, w1, n.mono l1 x1⟩
theorem se_biT (O : XOk C cl L X) {f : BI} {id : String} {x : Str} {p : Pos} {e : Expr} {es : List Expr} {mes : MEs} (hf : biV f = .type id) (hg : Gl X x) (hm : X.mg x = none) (hv : bootBuiltins x = some (.type id)) (ha : PA X (e :: es) (tEs C cl mes)) (hn : x ≠ "__name__") (hdb : (x == ("__debug__" : Str)) = false)
    (he : starEach (e :: es) X.env = (false, eval e X.env) :: starEach es X.env) (hpl : (backTo pos (starEach es X.env)).any (·.1) = false) : PE X (.Call (.Name x p) (e :: es) [] pos) (tE C cl (.bi f mes)) := by
  have h := bi_ok (C := C) O.hK O.calm f
  rw [hf] at h
  exact PE.weak (pe_callTy h hg hm hv ha hn hdb he hpl) fun σ H Q ⟨φ, F, S, σa, Qa, R, Rs, w, n⟩ => tEs_bind R Rs w fun vs S1 φ1 F1 H1 us l1 x1 R1 r1 Rs1 w1 => ⟨φ1, F1, S1, vs, Qa, R1, r1, w1, n.mono l1 x1⟩
/-! ### walked things -/
variable {φ : List Addr} {F : FZ} {H : Hp} {S : HS} {σa : Sg} {σ : St}
theorem walk_tup {p : Addr} {xs : List AV} {ys : List V} (f : F p) (h : H p = some (.tup ys)) (r : RepL C φ F H xs ys) : Walk C (Itt C.K p) xs (fun _ => True) φ F H where
  go := fun φ' F' S' H' i l x R _ hi => by
    have e := (x.f p f).2.trans h
    rw [r.length] at hi
    exact ⟨ys, ys[i], .inl (.inl e), by simp [hi]⟩
  yld := fun φ' F' S' H' i y H'' l x R _ q => by
    have e := (x.f p f).2.trans h
    refine ⟨q.1, fun v hv => ?_⟩
    obtain ⟨u, e1, r1⟩ := (RepL.mono l x _ _ r).get hv
    have e2 := q.2 ys (.inl (.inl e))
    rw [e1] at e2; cases e2
    exact r1
  stop := fun φ' F' S' H' i l x R _ hi => by
    rw [r.length] at hi
    exact ⟨ys, .inl (.inl ((x.f p f).2.trans h)), hi⟩
theorem walk_lst {p : Addr} {xs : List AV} {ys : List V} (f : F p) (h : H p = some (.lst ys)) (r : RepL C φ F H xs ys) : Walk C (Itl C.K p) xs (fun _ => True) φ F H where
  go := fun φ' F' S' H' i l x R _ hi => by
    have e := (x.f p f).2.trans h
    rw [r.length] at hi
    exact ⟨ys, ys[i], .inl (.inl e), by simp [hi]⟩
  yld := fun φ' F' S' H' i y H'' l x R _ q => by
    have e := (x.f p f).2.trans h
    refine ⟨q.1, fun v hv => ?_⟩
    obtain ⟨u, e1, r1⟩ := (RepL.mono l x _ _ r).get hv
    have e2 := q.2 ys (.inl (.inl e))
    rw [e1] at e2; cases e2
    exact r1
  stop := fun φ' F' S' H' i l x R _ hi => by
    rw [r.length] at hi
    exact ⟨ys, .inl (.inl ((x.f p f).2.trans h)), hi⟩
theorem walk_ref {p : Addr} {n : Nat} {xs : List AV} (h : φ[n]? = some p) : Walk C (Itl C.K p) xs (fun S => S[n]? = some (.lst xs)) φ F H := by
  have key : ∀ {φ' F' S' H'}, Le φ φ' → HR C φ' F' S' H' → S'[n]? = some (.lst xs) → ∃ ys, H' p = some (.lst ys) ∧ RepL C φ' F' H' xs ys := fun l R e => by
    obtain ⟨_, ys, e1, r⟩ := R.obj _ _ _ e (l.get h)
    exact ⟨ys, e1, r⟩
  refine ⟨fun φ' F' S' H' i l x R e hi => ?_, fun φ' F' S' H' i y H'' l x R e q => ?_, fun φ' F' S' H' i l x R e hi => ?_⟩
  · obtain ⟨ys, e1, r⟩ := key l R e
    rw [r.length] at hi
    exact ⟨ys, ys[i], .inl (.inl e1), by simp [hi]⟩
  · obtain ⟨ys, e1, r⟩ := key l R e
    refine ⟨q.1, fun v hv => ?_⟩
    obtain ⟨u, e2, r1⟩ := r.get hv
    have e3 := q.2 ys (.inl (.inl e1))
    rw [e2] at e3; cases e3
    exact r1
  · obtain ⟨ys, e1, r⟩ := key l R e
    rw [r.length] at hi
    exact ⟨ys, .inl (.inl e1), hi⟩
theorem walk_range (lo : Int) (n : Nat) : Walk C (Itr lo n) (intsA lo n) (fun _ => True) φ F H where
  go := fun φ' F' S' H' i l x R _ hi => (show (intsA lo n).length = n by simp [intsA]) ▸ hi
  yld := fun φ' F' S' H' i y H'' l x R _ q => by
    refine ⟨q.1, fun v hv => ?_⟩
    rw [q.2]
    simp only [intsA, List.getElem?_map, Option.map_eq_some_iff] at hv
    obtain ⟨j, hj, rfl⟩ := hv
    obtain ⟨h1, h2⟩ := List.getElem?_eq_some_iff.mp hj
    simp at h2; subst h2
    exact .int _
  stop := fun φ' F' S' H' i l x R _ hi => (show (intsA lo n).length = n by simp [intsA]) ▸ hi
theorem walk_steps (lo c : Int) (n : Nat) : Walk C (Itc lo c n) (stepsA lo c n) (fun _ => True) φ F H where
  go := fun φ' F' S' H' i l x R _ hi => (show (stepsA lo c n).length = n by simp [stepsA]) ▸ hi
  yld := fun φ' F' S' H' i y H'' l x R _ q => by
    refine ⟨q.1, fun v hv => ?_⟩
    rw [q.2]
    simp only [stepsA, List.getElem?_map, Option.map_eq_some_iff] at hv
    obtain ⟨j, hj, rfl⟩ := hv
    obtain ⟨h1, h2⟩ := List.getElem?_eq_some_iff.mp hj
    simp at h2; subst h2
    exact .int _
  stop := fun φ' F' S' H' i l x R _ hi => (show (stepsA lo c n).length = n by simp [stepsA]) ▸ hi
/-- pi_list or pi_tup -/
def iSeq (K : PySem.W.Frag) (tl : TE) : TI := fun σ H R => tl σ H fun x H1 => ∃ a, x = .ref a ∧ ((∃ xs, SqL K H1 a xs) ∧ R (Itl K a) H1 ∨ (∃ xs, SqT K H1 a xs) ∧ R (Itt K a) H1)
theorem pi_seq {tg l : Expr} {tl : TE} (hl : PE X l tl) : PI X tg l (iSeq X.K tl) := by
  refine ⟨fun pins s σ H R I h => ?_⟩
  refine thn (hl.run pins s σ H _ I h) fun v s1 ⟨x, H1, I1, r1, q1⟩ => ?_
  obtain ⟨a, e, q⟩ := q1
  subst e
  cases r1
  rcases q with ⟨⟨xs, hq⟩, q⟩ | ⟨⟨xs, hq⟩, q⟩
  · obtain ⟨its, rv, p, hz⟩ := I1.list hq
    refine wpAny_pyIter_list p.isList ?_
    refine ⟨s1.heap.objs.size, [s1.heap.objs.size], _, _, H1, rfl, I1.kept (t' := s1.toks) fun b o e => Heap.get?_push_of_some _ e, turn_list a _, ⟨_, Heap.get?_push_size _ rfl, rfl, rfl⟩, fun b hb => ?_, q⟩
    have e : b = s1.heap.objs.size := by simpa using hb
    subst e
    exact I1.fpOk (Nat.le_refl _) (I1.hok.fresh (Nat.le_refl _))
  · obtain ⟨its, rv, p, hz⟩ := I1.tuple hq
    refine wpAny_pyIter_tuple (show s1.heap.IsTuple a its.toArray from p) ?_
    refine ⟨s1.heap.objs.size, [s1.heap.objs.size], _, _, H1, rfl, I1.kept (t' := s1.toks) fun b o e => Heap.get?_push_of_some _ e, turn_tuple a _, ⟨_, Heap.get?_push_size _ rfl, rfl, rfl⟩, fun b hb => ?_, q⟩
    have e : b = s1.heap.objs.size := by simpa using hb
    subst e
    exact I1.fpOk (Nat.le_refl _) (I1.hok.fresh (Nat.le_refl _))
theorem si_e (hK : X.K = C.K) {tg : Expr} (ha : PE X a (tE C cl ma)) : PI X tg a (tI C cl (.e ma)) :=
  PI.weak (pi_seq ha) fun σ H Q ⟨φ, F, S, σa, Ka, R, Rs, w, n⟩ => tE_bind R Rs w fun x S1 φ1 F1 H1 u l1 x1 R1 r1 Rs1 w1 => by
    rw [hK]
    rcases wItems_of w1 with ⟨xs, rfl, k⟩ | ⟨xs, rfl, k⟩ | ⟨m, xs, rfl, e, k⟩
    · cases r1 with
      | tup h1 h2 h3 => exact ⟨_, rfl, .inr ⟨⟨_, .inl (.inl h2)⟩, n _ _ _ _ _ _ _ l1 x1 R1 k (walk_tup h1 h2 h3)⟩⟩
    · cases r1 with
      | lst h1 h2 h3 => exact ⟨_, rfl, .inl ⟨⟨_, .inl (.inl h2)⟩, n _ _ _ _ _ _ _ l1 x1 R1 k (walk_lst h1 h2 h3)⟩⟩
    · cases r1 with
      | ref h1 =>
        obtain ⟨_, ys, h2, _⟩ := R1.obj _ _ _ e h1
        exact ⟨_, rfl, .inl ⟨⟨_, .inl (.inl h2)⟩, n _ _ _ _ _ _ _ l1 x1 R1 k (walk_ref h1)⟩⟩
theorem si_range1 {tg : Expr} {p : Pos} (hg : Gl X "range") (hm : X.mg "range" = none) (ha : PE X a (tE C cl ma)) (hs : starEach [a] X.env = [(false, eval a X.env)]) : PI X tg (.Call (.Name "range" p) [a] [] pos) (tI C cl (.range1 ma)) :=
  PI.weak (pi_range1 hg hm (pa_cons ha pa_nil hs) hs) fun σ H Q ⟨φ, F, S, σa, Ka, R, Rs, w, n⟩ => tE_bind R Rs w fun x S1 φ1 F1 H1 u l1 x1 R1 r1 Rs1 w1 => by
    split at w1
    · rename_i i
      cases r1
      exact ⟨_, rfl, w1.1.1, w1.1.2, n _ _ _ _ _ _ _ l1 x1 R1 w1.2 (walk_range 0 _)⟩
    · exact w1.elim
theorem si_range2 {tg : Expr} {p : Pos} (hg : Gl X "range") (hm : X.mg "range" = none) (ha : PE X a (tE C cl ma)) (hb : PE X b (tE C cl mb)) (hs : starEach [a, b] X.env = [(false, eval a X.env), (false, eval b X.env)]) (hs2 : starEach [b] X.env = [(false, eval b X.env)]) :
    PI X tg (.Call (.Name "range" p) [a, b] [] pos) (tI C cl (.range2 ma mb)) :=
  PI.weak (pi_range2 hg hm (pa_cons ha (pa_cons hb pa_nil hs2) (by rw [hs, hs2])) hs hs2) fun σ H Q ⟨φ, F, S, σa, Ka, R, Rs, w, n⟩ => tE_bind R Rs w fun x S1 φ1 F1 H1 u l1 x1 R1 r1 Rs1 w1 =>
    tE_bind R1 Rs1 w1 fun y S2 φ2 F2 H2 v l2 x2 R2 r2 Rs2 w2 => by
      obtain ⟨i, j, rfl, rfl, ⟨h1, h2⟩, k⟩ := w2I_of w2
      cases r1; cases r2
      exact ⟨i, j, rfl, ⟨h1.1, h1.2, h2.1, h2.2⟩, n _ _ _ _ _ _ _ (l1.trans l2) (x1.trans x2) R2 k (walk_range i _)⟩
theorem si_range3 {tg : Expr} {p : Pos} (hg : Gl X "range") (hm : X.mg "range" = none) (ha : PE X a (tE C cl ma)) (hb : PE X b (tE C cl mb)) (hc : PE X c (tE C cl mc)) (h1 : starEach [a, b, c] X.env = (false, eval a X.env) :: starEach [b, c] X.env) (h2 : starEach [b, c] X.env = (false, eval b X.env) :: starEach [c] X.env) (h3 : starEach [c] X.env = (false, eval c X.env) :: starEach [] X.env)
    (hpl : (backTo pos (starEach [b, c] X.env)).any (·.1) = false) : PI X tg (.Call (.Name "range" p) [a, b, c] [] pos) (tI C cl (.range3 ma mb mc)) :=
  PI.weak (pi_range3 hg hm (pa_cons ha (pa_cons hb (pa_cons hc pa_nil h3) h2) h1) h1 hpl) fun σ H Q ⟨φ, F, S, σa, Ka, R, Rs, w, n⟩ => tE_bind R Rs w fun x S1 φ1 F1 H1 u l1 x1 R1 r1 Rs1 w1 =>
    tE_bind R1 Rs1 w1 fun y S2 φ2 F2 H2 v l2 x2 R2 r2 Rs2 w2 => tE_bind R2 Rs2 w2 fun z S3 φ3 F3 H3 v3 l3 x3 R3 r3 Rs3 w3 => by
      obtain ⟨i, j, rfl, rfl, w3⟩ := w2I_of w3
      cases r1; cases r2
      split at w3
      · cases r3
        exact ⟨i, j, _, _, rfl, w3.1, n _ _ _ _ _ _ _ (l1.trans (l2.trans l3)) (x1.trans (x2.trans x3)) R3 w3.2 (walk_steps i _ _)⟩
      · exact w3.elim
/-! ### targets -/
theorem wG_tup_of {P : Prog} {gs : MGs} {x : AV} {σ : Sg} {S : HS} {Q : Sg → HS → Prop} (w : wG P cl (.tup gs) x σ S Q) : ∃ xs, x = .tup xs ∧ xs.length = gs.len ∧ wGs P cl gs xs σ S Q := by
  unfold wG at w
  split at w
  · exact ⟨_, rfl, w⟩
  · exact w.elim
theorem wGs_nil_of {P : Prog} {xs : List AV} {σ : Sg} {S : HS} {Q : Sg → HS → Prop} (w : wGs P cl .nil xs σ S Q) : xs = [] ∧ Q σ S := by
  unfold wGs at w
  split at w
  · exact ⟨rfl, w⟩
  · exact w.elim
theorem wGs_cons_of {P : Prog} {g : MG} {gs : MGs} {xs : List AV} {σ : Sg} {S : HS} {Q : Sg → HS → Prop} (w : wGs P cl (.cons g gs) xs σ S Q) : ∃ y ys, xs = y :: ys ∧ wG P cl g y σ S fun σ1 S1 => wGs P cl gs ys σ1 S1 Q := by
  unfold wGs at w
  split at w
  · exact ⟨_, _, rfl, w⟩
  · exact w.elim
theorem sg_nm {i : Nat} (h : PG X a (gName i)) : PG X a (tG C cl (.nm i)) :=
  PG.weak h fun v σ H Q ⟨φ, F, S, σa, x, Qa, R, Rs, r, w, n⟩ => n _ S φ F H _ Le.rfl' Ext.rfl' R (Rs.set r) ⟨by simp, fun j hj => by rw [List.getElem?_set_ne (fun e => hj (by simp [MG.slots, e]))]⟩ w
theorem sg_tup (hK : X.K = C.K) {es : List Expr} {k : Nat} {gs : MGs} {m : Nat} (hc : X.calm = true) (h : PGs X es (tGs C cl gs)) (hn : (assignEach es X.env).length = m) (hst : (assignEach es X.env).findIdx? (·.1) = none) (hl : gs.len = m) :
    PG X (.Tuple es k pos) (tG C cl (.tup gs)) :=
  PG.weak (pg_tup hc h hn hst) fun v σ H Q ⟨φ, F, S, σa, x, Qa, R, Rs, r, w, n⟩ => by
    obtain ⟨xs, rfl, el, w⟩ := wG_tup_of w
    cases r with
    | tup h1 h2 h3 => exact ⟨_, _, rfl, by rw [hK]; exact .inl (.inl h2), by rw [← h3.length]; exact el.trans hl, φ, F, S, σa, _, Qa, R, Rs, h3, w, n⟩
theorem sgs_nil : PGs X [] (tGs C cl .nil) := PGs.weak pgs_nil fun vs σ H Q ⟨φ, F, S, σa, xs, Qa, R, Rs, r, w, n⟩ => by
  obtain ⟨rfl, w⟩ := wGs_nil_of w
  cases r
  exact ⟨rfl, n _ S φ F H _ Le.rfl' Ext.rfl' R Rs Keep.rfl' w⟩
theorem sgs_cons {es : List Expr} {g : MG} {gs : MGs} (h1 : PG X a (tG C cl g)) (h2 : PGs X es (tGs C cl gs)) (hs : (assignEach (a :: es) X.env).map (·.2) = assign a X.env :: (assignEach es X.env).map (·.2)) : PGs X (a :: es) (tGs C cl (.cons g gs)) :=
  PGs.weak (pgs_cons h1 h2 hs) fun vs σ H Q ⟨φ, F, S, σa, xs, Qa, R, Rs, r, w, n⟩ => by
    obtain ⟨x, xs, rfl, w⟩ := wGs_cons_of w
    cases r with
    | cons r1 r2 => exact ⟨_, _, rfl, φ, F, S, σa, _, _, R, Rs, r1, w, fun σa1 S1 φ1 F1 H1 σ1 l x R1 Rs1 k q => ⟨φ1, F1, S1, σa1, _, Qa, R1, Rs1, RepL.mono l x _ _ r2, q, fun σa2 S2 φ2 F2 H2 σ2 l2 x2 R2 Rs2 k2 q2 => n _ _ _ _ _ _ (l.trans l2) (x.trans x2) R2 Rs2 (by unfold MGs.slots; exact k.trans k2) q2⟩⟩
theorem sg_sub {i : Expr} {mo mi : ME} (ho : PE X a (tE C cl mo)) (hi : PE X i (tE C cl mi)) (hs : ∀ v, assign (.Subscript a i pos) X.env v = (do
      let ov ← holding [v] (eval a X.env)
      let iv ← holding [v, ov] (eval i X.env)
      standAt pos
      holding [v, ov, iv] (setItem ov iv v)
      release [v, ov, iv] [])) : PG X (.Subscript a i pos) (tG C cl (.sub mo mi)) :=
  PG.weak (pg_sub ho hi set_list hs) fun v σ H Q ⟨φ, F, S, σa, y, Qa, R, Rs, r, w, n⟩ => tE_bind R Rs w fun x S1 φ1 F1 H1 u l1 x1 R1 r1 Rs1 w1 =>
    tE_bind R1 Rs1 w1 fun z S2 φ2 F2 H2 u2 l2 x2 R2 r2 Rs2 w2 => by
      split at w2
      · split at w2
        · rename_i m k _ xs e
          split at w2
          · rename_i j ej
            cases r2
            have r1' := Rep.mono l2 x2 _ _ r1
            cases r1' with
            | ref h1 =>
              obtain ⟨_, ys, h2, rr⟩ := R2.obj _ _ _ e h1
              have rv := Rep.mono (l1.trans l2) (x1.trans x2) _ _ r
              refine ⟨_, ys, k, j, rfl, rfl, h2, by rw [← rr.length]; exact ej, ?_⟩
              obtain ⟨R3, x3⟩ := R2.put h1 (o := .lst (ys.set j v)) (a := .lst (xs.set j y)) fun H' e' x' => ⟨(R2.obj _ _ _ e h1).nf, _, e', RepL.mono Le.rfl' x' _ _ (rr.set rv j)⟩
              exact n _ _ _ _ _ _ (l1.trans l2) ((x1.trans x2).trans x3) R3 (Rs2.mono Le.rfl' x3) Keep.rfl' w2
          · exact w2.elim
        · exact w2.elim
      · exact w2.elim
theorem att_of {P : Prog} {f : Nat} {x y : AV} {S : HS} {Qa : HS → Prop} (w : match x with
    | .ref n => (match S[n]? with
      | some (.ins c ns vs) => f ∈ (P.cl? c).flds ∧ ns.length < 1000 ∧ Qa (S.set n (.ins c (fset f y ns vs).1 (fset f y ns vs).2))
      | _ => False)
    | _ => False) : ∃ n c ns vs, x = .ref n ∧ S[n]? = some (.ins c ns vs) ∧ f ∈ (P.cl? c).flds ∧ ns.length < 1000 ∧ Qa (S.set n (.ins c (fset f y ns vs).1 (fset f y ns vs).2)) := by
  split at w
  · split at w
    · exact ⟨_, _, _, _, rfl, by assumption, w.1, w.2.1, w.2.2⟩
    · exact w.elim
  · exact w.elim
theorem namesZ_len : ∀ (ns : List Nat) (ys : List V), (namesZ C ns ys).length ≤ ns.length
  | [], _ => by simp [namesZ]
  | n :: ns, [] => by simp [namesZ]
  | n :: ns, y :: ys => by simpa [namesZ] using namesZ_len ns ys
theorem att_write (O : XOk C cl L X) {f m c : Nat} {ns : List Nat} {vs : List AV} {u : V} {y : AV} {v : V} (R : HR C φ F S H) (r : Rep C φ F H (.ref m) u) (ry : Rep C φ F H y v) (e : S[m]? = some (.ins c ns vs)) (hf : f ∈ (C.P.cl? c).flds) (hl : ns.length < 1000) :
    ∃ p A dx fs, u = .ref p ∧ H p = some (.ins A dx fs) ∧ Cls X.K A ∧ NoAttr X.K A (C.nm f) ∧ fs.length < 1000 ∧ HR C φ F (S.set m (.ins c (fset f y ns vs).1 (fset f y ns vs).2)) (upd H p (.ins A dx (putF (C.nm f) v fs))) ∧ Ext F H F (upd H p (.ins A dx (putF (C.nm f) v fs))) := by
  cases r with
  | ref h1 =>
    obtain ⟨hnf, dx, ys, h2, h3, h4, rr⟩ := R.obj _ _ _ e h1
    obtain ⟨D, hD, K1, eD⟩ := obj_cls O hf
    rw [eD] at hf h3
    obtain ⟨zs, e1, r1, l1, m1⟩ := fset_rep O.lk.nd (K1.noat f hf).1 ry (fun n hn => (K1.noat n (h3 n hn)).1) h4 rr
    have hlen := namesZ_len (C := C) ns ys
    obtain ⟨R3, x3⟩ := R.put h1 (o := .ins (C.ca c) dx (putF (C.nm f) v (namesZ C ns ys))) (a := .ins c (fset f y ns vs).1 (fset f y ns vs).2) fun H' e' x' => ⟨hnf, dx, zs, by rw [e', e1], fun n hn => by
      rw [eD]
      rcases m1 n hn with h | h
      · rw [h]; exact hf
      · exact h3 n h, l1, RepL.mono Le.rfl' x' _ _ r1⟩
    exact ⟨_, _, dx, _, rfl, h2, by rw [O.hK]; exact K1.cls, by rw [O.hK]; exact (K1.noat f hf).2, by omega, R3, x3⟩
theorem sg_att (O : XOk C cl L X) {f : Nat} {mo : ME} (ho : PE X a (tE C cl mo)) (hs : ∀ u, assign (.Attribute a (C.nm f) pos) X.env u = (do
      let o ← holding [u] (eval a X.env)
      standAt pos.atName
      holding [u, o] (setAttr o (C.nm f) u)
      release [u, o] [])) : PG X (.Attribute a (C.nm f) pos) (tG C cl (.att mo f)) := by
  refine ⟨fun pins s σ H v u Q I rv h => ?_⟩
  obtain ⟨φ, F, S, σa, y, Qa, R, Rs, r, w, n⟩ := h
  have hw : tE C cl mo σ H fun z H1 => ∃ φ1 F1 S1 x, Le φ φ1 ∧ Ext F H F1 H1 ∧ HR C φ1 F1 S1 H1 ∧ Rep C φ1 F1 H1 x z ∧ RepS C φ1 F1 H1 σa σ ∧ (match x with
    | .ref n => (match S1[n]? with
      | some (.ins c ns vs) => f ∈ (C.P.cl? c).flds ∧ ns.length < 1000 ∧ Qa σa (S1.set n (.ins c (fset f y ns vs).1 (fset f y ns vs).2))
      | _ => False)
    | _ => False) := tE_bind R Rs w fun x S1 φ1 F1 H1 z l1 x1 R1 r1 Rs1 w1 => ⟨φ1, F1, S1, x, l1, x1, R1, r1, Rs1, w1⟩
  rw [hs]
  refine wpAny_bind (wpAny_holding (thn (ho.run pins s σ H _ I hw) fun o s1 ⟨z, H1, I1, rz, φ1, F1, S1, x, l1, x1, R1, r1, Rs1, w1⟩ => ?_))
  obtain ⟨m, c, ns, vs, rfl, e, hf, hl, q⟩ := att_of w1
  obtain ⟨p, A, dx, fs, rfl, h2, h3, h4, h5, R3, x3⟩ := att_write O R1 r1 (Rep.mono l1 x1 _ _ r) e hf hl
  cases rz
  refine wpAny_bind (wpAny_standAt (wpAny_bind (wpAny_holding ?_)))
  refine setattr_ok I1 h2 h3 h4 h5 rv fun s' I' => ?_
  exact wpAny_release ⟨σ, _, I', n _ _ _ _ _ _ l1 (x1.trans x3) R3 (Rs1.mono Le.rfl' x3) Keep.rfl' q⟩
end
end MP
/-! MP5: comprehensions. -/
namespace MP
open PySem PySem.Spec L2
open PyProof.Rows hiding St
/-- the tests of a clause -/
def tTss (C : Cfg) (cl : CallW) (m : MEs) : TT := fun σ H Q => ∃ φ F S σa Qa, HR C φ F S H ∧ RepS C φ F H σa σ ∧ wTs C.P cl m σa S Qa ∧ NxB C φ F H Qa Q
section
variable {C : Cfg} {cl : CallW} {L : Nat} {X : Cx} {a b c : Expr} {ma mb mc : ME} {pos : Pos}
theorem sts_nil : PTs X [] (tTss C cl .nil) := PTs.weak pts_nil fun σ H Q ⟨φ, F, S, σa, Qa, R, Rs, w, n⟩ => n true S φ F H Le.rfl' Ext.rfl' R w
theorem sts_one {r : MEs} (h : PT X a (tTs C cl ma)) : PTs X [a] (tTss C cl (.cons ma r)) := PTs.weak (pts_one h) fun σ H Q q => q
/-! ### comprehensions -/
variable {φ : List Addr} {F : FZ} {H : Hp} {S : HS} {σa : Sg} {σ : St}
/-- a list while it grows: left alone; then: frozen -/
def FZ.hold (F : FZ) (D : Addr) : FZ := ⟨F.f, fun q => F.z q ∨ q = D⟩
def FZ.drop (F : FZ) (D : Addr) : FZ := ⟨fun q => F.f q ∨ q = D, fun q => F.z q ∧ q ≠ D⟩
theorem HR.hold (R : HR C φ F S H) {D : Addr} (h : H D = none) (o : HO) : HR C φ (F.hold D) S (upd H D o) ∧ Ext F H (F.hold D) (upd H D o) := by
  obtain ⟨hF, hφ⟩ := R.fresh h
  have hZ := R.freshZ h
  have x : Ext F H (F.hold D) (upd H D o) := ⟨fun q hq => ⟨hq, upd_ne fun e => hF (e ▸ hq)⟩, fun q hq => ⟨.inl hq, upd_ne fun e => hZ (e ▸ hq)⟩⟩
  refine ⟨⟨R.len, R.nd, fun n o' q e1 e2 => ?_, fun q hq => ?_, fun q hq => ?_⟩, x⟩
  · have hq : q ≠ D := fun e => hφ (e ▸ List.mem_of_getElem? e2)
    have r := R.obj n o' q e1 e2
    exact r.mono Le.rfl' x (upd_ne hq) r.nf
  · rw [upd_ne (show q ≠ D from fun e => hF (e ▸ hq))]; exact R.frz q hq
  · rcases hq with hq | rfl
    · obtain ⟨h1, h2, h3⟩ := R.zj q hq
      exact ⟨by rw [upd_ne (show q ≠ D from fun e => hZ (e ▸ hq))]; exact h1, h2, h3⟩
    · exact ⟨by rw [upd_same]; simp, hF, hφ⟩
theorem grow_x {D : Addr} (hF : ¬ F D) (o : HO) : ∀ p, F p → F p ∧ upd H D o p = H p := fun q hq => ⟨hq, upd_ne fun e => hF (e ▸ hq)⟩
/-- it grows -/
theorem HR.grow (R : HR C φ F S H) {D : Addr} (hz : F.z D) (o : HO) : HR C φ F S (upd H D o) := by
  obtain ⟨_, hF, hφ⟩ := R.zj D hz
  refine ⟨R.len, R.nd, fun n o' q e1 e2 => ?_, fun q hq => ?_, fun q hq => ?_⟩
  · have hq : q ≠ D := fun e => hφ (e ▸ List.mem_of_getElem? e2)
    have r := R.obj n o' q e1 e2
    exact r.monoF Le.rfl' (grow_x hF o) (upd_ne hq) r.nf
  · rw [(grow_x hF o q hq).2]; exact R.frz q hq
  · obtain ⟨h1, h2, h3⟩ := R.zj q hq
    refine ⟨?_, h2, h3⟩
    by_cases e : q = D
    · subst e; rw [upd_same]; simp
    · rw [upd_ne e]; exact h1
theorem Ext.grow {F0 : FZ} {H0 : Hp} {D : Addr} (x : Ext F0 H0 F H) (h0 : ¬ F0 D) (h1 : ¬ F0.z D) (o : HO) : Ext F0 H0 F (upd H D o) :=
  ⟨fun q hq => ⟨(x.f q hq).1, (upd_ne (show q ≠ D from fun e => h0 (e ▸ hq))).trans (x.f q hq).2⟩, fun q hq => ⟨(x.z q hq).1, (upd_ne (show q ≠ D from fun e => h1 (e ▸ hq))).trans (x.z q hq).2⟩⟩
theorem HR.drop (R : HR C φ F S H) {D : Addr} (hz : F.z D) : HR C φ (F.drop D) S H := by
  obtain ⟨h0, hF, hφ⟩ := R.zj D hz
  refine ⟨R.len, R.nd, fun n o' q e1 e2 => ?_, fun q hq => ?_, fun q hq => ?_⟩
  · have hq : q ≠ D := fun e => hφ (e ▸ List.mem_of_getElem? e2)
    have r := R.obj n o' q e1 e2
    exact r.monoF Le.rfl' (fun q h => ⟨.inl h, rfl⟩) rfl fun z => z.elim r.nf hq
  · rcases hq with hq | rfl
    · exact R.frz q hq
    · exact h0
  · obtain ⟨h1, h2, h3⟩ := R.zj q hq.1
    exact ⟨h1, fun z => z.elim h2 hq.2, h3⟩
theorem Ext.drop {F0 : FZ} {H0 : Hp} {D : Addr} (x : Ext F0 H0 F H) (h1 : ¬ F0.z D) : Ext F0 H0 (F.drop D) H :=
  ⟨fun q hq => ⟨.inl (x.f q hq).1, (x.f q hq).2⟩, fun q hq => ⟨⟨(x.z q hq).1, fun e => h1 (e ▸ hq)⟩, (x.z q hq).2⟩⟩
/-- the slots outside are as they were -/
theorem wipe_keep {σ σ' : St} : ∀ {vs sl : List Nat}, (∀ j ∈ sl, j ∈ vs) → Keep sl (wipe σ vs) σ' → wipe σ' vs = wipe σ vs := by
  intro vs sl hs k
  have key : ∀ (vs : List Nat) (τ : St) (j : Nat), (wipe τ vs)[j]? = if j ∈ vs ∧ j < τ.length then some none else τ[j]? := by
    intro vs τ
    induction vs with
    | nil => intro j; simp [wipe]
    | cons v vs ih =>
      intro j
      unfold wipe
      by_cases hj : v = j
      · subst hj
        by_cases hl : v < τ.length
        · rw [List.getElem?_set_self (by rw [wipe_length]; exact hl)]; simp [hl]
        · rw [List.getElem?_eq_none (by rw [List.length_set, wipe_length]; omega), if_neg (by omega), List.getElem?_eq_none (by omega)]
      · rw [List.getElem?_set_ne hj, ih j]
        simp [show j ≠ v from fun e => hj e.symm]
  apply List.ext_getElem?
  intro j
  have hl := k.1
  rw [wipe_length] at hl
  rw [key, key]
  by_cases hj : j ∈ vs
  · rw [hl]
    by_cases h2 : j < σ.length
    · simp [hj, h2]
    · rw [if_neg (by omega), if_neg (by omega), List.getElem?_eq_none (by omega), List.getElem?_eq_none (by omega)]
  · rw [if_neg (by simp [hj]), if_neg (by simp [hj]), k.2 j (fun z => hj (hs j z)), key, if_neg (by simp [hj])]
theorem lc_ok {mi : MI} {mg : MG} {mifs : MEs} {melt : ME} {vs : List Nat} {Qc : List AV → HS → Prop} {Q : VK} (hsl : ∀ j ∈ mg.slots, j ∈ vs) (R : HR C φ F S H) (Rs : RepS C φ F H σa σ)
    (w : wI C.P cl mi σa S fun xs G S1 => wLcL G (fun x S => wG C.P cl mg x (wipeA σa vs) S) (wTs C.P cl mifs) (wE C.P cl melt) xs [] S1 Qc)
    (nx : ∀ acc S' φ' F' H' p, Le φ φ' → Ext F H F' H' → HR C φ' F' S' H' → Rep C φ' F' H' (.lst acc) (.ref p) → Qc acc S' → Q (.ref p) H') :
    tLc (tI C cl mi) (tG C cl mg) (tTss C cl mifs) (tE C cl melt) vs σ H Q := by
  refine ⟨φ, F, S, σa, _, R, Rs, w, fun xs G S1 φ1 F1 H1 J l1 x1 R1 w1 wk D hD => ?_⟩
  obtain ⟨hDF, hDφ⟩ := R1.fresh hD
  have hDZ := R1.freshZ hD
  refine ⟨fun i m H2 => m = xs.length - i ∧ i ≤ xs.length ∧ ∃ φ2 F2 S2 accA acc, Le φ1 φ2 ∧ Ext F1 H1 F2 H2 ∧ F2.z D ∧ HR C φ2 F2 S2 H2 ∧ H2 D = some (.lst acc) ∧ RepL C φ2 F2 H2 accA acc ∧
    wLcL G (fun x S => wG C.P cl mg x (wipeA σa vs) S) (wTs C.P cl mifs) (wE C.P cl melt) (xs.drop i) accA S2 Qc, ⟨xs.length, by simp, Nat.zero_le _, ?_⟩, ?_⟩
  · obtain ⟨R2, x2⟩ := R1.hold hD (.lst [])
    exact ⟨φ1, _, S1, [], [], Le.rfl', x2, .inr rfl, R2, upd_same, .nil, by simpa using w1⟩
  · rintro i m H2 ⟨rfl, hi, φ2, F2, S2, accA, acc, l2, x2, hz, R2, eD, ra, w2⟩
    by_cases hlt : i < xs.length
    · rw [List.drop_eq_getElem_cons hlt] at w2
      obtain ⟨hG, w2⟩ := w2
      refine .inr ⟨wk.go _ _ _ _ _ l2 x2 R2 hG hlt, fun H' => (xs.length - (i + 1)) = xs.length - (i + 1) ∧ i + 1 ≤ xs.length ∧ ∃ φ2 F2 S2 accA acc, Le φ1 φ2 ∧ Ext F1 H1 F2 H' ∧ F2.z D ∧ HR C φ2 F2 S2 H' ∧ H' D = some (.lst acc) ∧ RepL C φ2 F2 H' accA acc ∧
        wLcL G (fun x S => wG C.P cl mg x (wipeA σa vs) S) (wTs C.P cl mifs) (wE C.P cl melt) (xs.drop (i + 1)) accA S2 Qc, fun H' q => ⟨xs.length - (i + 1), by omega, q⟩, fun y H' hy => ?_⟩
      obtain ⟨rfl, hv⟩ := wk.yld _ _ _ _ _ _ _ l2 x2 R2 hG hy
      have hv := hv xs[i] (by simp [hlt])
      refine ⟨φ2, F2, S2, wipeA σa vs, xs[i], _, R2, ((Rs.mono l1 x1).mono l2 x2).wipe vs, hv, w2, fun σa3 S3 φ3 F3 H3 σ3 l3 x3 R3 Rs3 kp w3 => ⟨wipe_keep hsl kp, φ3, F3, S3, σa3, _, R3, Rs3, w3, fun k S4 φ4 F4 H4 l4 x4 R4 w4 => ?_⟩⟩
      have x34 := x3.trans x4
      have l34 := l3.trans l4
      have eD4 : H4 D = some (.lst acc) := (x34.z D hz).2.trans eD
      have hz4 := (x34.z D hz).1
      cases k with
      | false => exact iteF ⟨rfl, hlt, φ4, F4, S4, accA, acc, l2.trans l34, x2.trans x34, hz4, R4, eD4, RepL.mono l34 x34 _ _ ra, w4⟩
      | true =>
        refine iteT ⟨φ4, F4, S4, σa3, _, R4, Rs3.mono l4 x4, w4, fun v S5 φ5 F5 H5 u l5 x5 R5 r5 w5 => ?_⟩
        obtain ⟨hL, w5⟩ := w5
        have x35 := x34.trans x5
        have l35 := l34.trans l5
        have hz5 := (x35.z D hz).1
        obtain ⟨_, hF5, _⟩ := R5.zj D hz5
        refine ⟨acc, (x35.z D hz).2.trans eD, by rw [← ra.length, ← line_eq]; exact hL, rfl, hlt, φ5, F5, S5, accA ++ [v], acc ++ [u], l2.trans l35, (x2.trans x35).grow hDF hDZ _, hz5, R5.grow hz5 _, upd_same, ?_, w5⟩
        exact RepL.monoF Le.rfl' (grow_x hF5 _) _ _ ((RepL.mono l35 x35 _ _ ra).append (.cons r5 .nil))
    · have e : i = xs.length := by omega
      subst e
      rw [List.drop_length] at w2
      obtain ⟨hG, w2⟩ := w2
      refine .inl ⟨wk.stop _ _ _ _ _ l2 x2 R2 hG (Nat.le_refl _), nx accA S2 φ2 (F2.drop D) H2 D (l1.trans l2) (x1.trans (x2.drop hDZ)) (R2.drop hz) (.lst (.inr rfl) eD (RepL.monoF (F := F2) (F' := F2.drop D) Le.rfl' (fun q h => ⟨.inl h, rfl⟩) _ _ ra)) w2⟩
theorem se_lc (O : XOk C cl L X) {elt tg iter : Expr} {ifs : List Expr} {scope : Scope} {own : List (Str × Nat)} {mi : MI} {mg : MG} {mifs : MEs} {melt : ME} (hi : PI X tg iter (tI C cl mi)) (ok : BlkOk X.N X.env.scope scope own)
    (hg : ∀ (s : Shared) (H : Hp) (A : Addr) (ce : List (Str × Addr)) (fp : List Addr), PG (X.blk s H scope (compEnvC scope ce A X.env) fp) tg (tG C cl mg)) (ht : ∀ (s : Shared) (H : Hp) (A : Addr) (ce : List (Str × Addr)) (fp : List Addr), PTs (X.blk s H scope (compEnvC scope ce A X.env) fp) ifs (tTss C cl mifs))
    (he : ∀ (s : Shared) (H : Hp) (A : Addr) (ce : List (Str × Addr)) (fp : List Addr), PE (X.blk s H scope (compEnvC scope ce A X.env) fp) elt (tE C cl melt)) (hsl : ∀ j ∈ mg.slots, j ∈ own.map (·.2)) (hs : ∀ x, foldedSetIterable iter X.env x = pure x) :
    PE X (.ListComp elt [⟨tg, iter, ifs, 0⟩] scope pos) (tE C cl (.lc melt mg mi mifs (own.map (·.2)))) :=
  PE.weak (pe_lc O.calm O.nd hi ok hg ht he hs) fun σ H Q ⟨φ, F, S, σa, Qa, R, Rs, w, n⟩ => lc_ok hsl R Rs w fun acc S' φ' F' H' p l x R' r q => n _ _ _ _ _ _ l x R' r q
end
end MP
/-! MP6: statements. -/
namespace MP
open PySem PySem.Spec L2
open PyProof.Rows hiding St
structure NxD (C : Cfg) (φ : List Addr) (F : FZ) (H : Hp) (Da : WK) (D : Ends) : Prop where
  nx : NxS C φ F H Da.nx D.nx
  rt : NxV C φ F H Da.rt D.rt
  bk : NxS C φ F H Da.bk D.bk
  ct : NxS C φ F H Da.ct D.ct
theorem NxD.mono {C : Cfg} {φ φ' : List Addr} {F F' : FZ} {H H' : Hp} {Da : WK} {D : Ends} (l : Le φ φ') (x : Ext F H F' H') (n : NxD C φ F H Da D) : NxD C φ' F' H' Da D := ⟨n.nx.mono l x, n.rt.mono l x, n.bk.mono l x, n.ct.mono l x⟩
def tS (C : Cfg) (cl : CallW) (m : MS) : TS := fun D σ H => ∃ φ F S σa Da, HR C φ F S H ∧ RepS C φ F H σa σ ∧ wS C.P cl m Da σa S ∧ NxD C φ F H Da D
def tSs (C : Cfg) (cl : CallW) (m : MSs) : TS := fun D σ H => ∃ φ F S σa Da, HR C φ F S H ∧ RepS C φ F H σa σ ∧ wSs C.P cl m Da σa S ∧ NxD C φ F H Da D
theorem PS.weak {X : Cx} {e : Stmt} {t t' : TS} (h : PS X e t) (w : ∀ D σ H, t' D σ H → t D σ H) : PS X e t' := ⟨fun pins s σ H D I q => h.run pins s σ H D I (w D σ H q)⟩
theorem PSs.weak {X : Cx} {e : List Stmt} {t t' : TS} (h : PSs X e t) (w : ∀ D σ H, t' D σ H → t D σ H) : PSs X e t' := ⟨fun pins s σ H D I q => h.run pins s σ H D I (w D σ H q)⟩
section
variable {C : Cfg} {cl : CallW} {L : Nat} {X : Cx} {a b c : Expr} {ma mb mc : ME} {pos : Pos} {st : Stmt} {sts : List Stmt} {ms : MS} {mss : MSs}
variable {φ : List Addr} {F : FZ} {H : Hp} {S : HS} {σa : Sg} {σ : St}
theorem ss_nil : PSs X [] (tSs C cl .nil) := PSs.weak pss_nil fun D σ H ⟨φ, F, S, σa, Da, R, Rs, w, n⟩ => n.nx _ _ _ _ _ _ Le.rfl' Ext.rfl' R Rs w
theorem ss_cons (h1 : PS X st (tS C cl ms)) (h2 : PSs X sts (tSs C cl mss)) : PSs X (st :: sts) (tSs C cl (.cons ms mss)) :=
  PSs.weak (pss_cons h1 h2) fun D σ H ⟨φ, F, S, σa, Da, R, Rs, w, n⟩ => ⟨φ, F, S, σa, _, R, Rs, w, ⟨fun σa1 S1 φ1 F1 H1 σ1 l x R1 Rs1 q => ⟨φ1, F1, S1, σa1, Da, R1, Rs1, q, n.mono l x⟩, n.rt, n.bk, n.ct⟩⟩
theorem ss_never : PSs X sts (tSs C cl (.cons .never .nil)) := PSs.weak pss_never fun D σ H ⟨φ, F, S, σa, Da, R, Rs, w, n⟩ => w
theorem ss_pass : PS X (.Pass pos) (tS C cl .pass) := PS.weak ps_pass fun D σ H ⟨φ, F, S, σa, Da, R, Rs, w, n⟩ => n.nx _ _ _ _ _ _ Le.rfl' Ext.rfl' R Rs w
theorem ss_brk : PS X (.Break pos) (tS C cl .brk) := PS.weak ps_break fun D σ H ⟨φ, F, S, σa, Da, R, Rs, w, n⟩ => n.bk _ _ _ _ _ _ Le.rfl' Ext.rfl' R Rs w
theorem ss_cont : PS X (.Continue pos) (tS C cl .cont) := PS.weak ps_continue fun D σ H ⟨φ, F, S, σa, Da, R, Rs, w, n⟩ => n.ct _ _ _ _ _ _ Le.rfl' Ext.rfl' R Rs w
theorem ss_asg {tg : Expr} {g : MG} (he : PE X a (tE C cl ma)) (hg : PG X tg (tG C cl g)) (hs : swapsWithSole [tg] a pos.line X.env = pure false) (hw : swappedStores [tg] a X.env = pure none) (h1 : (assignEach [tg] X.env).map (·.2) = [assign tg X.env]) :
    PS X (.Assign [tg] a pos) (tS C cl (.asg g ma)) :=
  PS.weak (ps_asg he hg hs hw h1) fun D σ H ⟨φ, F, S, σa, Da, R, Rs, w, n⟩ => tE_bind R Rs w fun x S1 φ1 F1 H1 u l1 x1 R1 r1 Rs1 w1 => ⟨φ1, F1, S1, σa, x, Da.nx, R1, Rs1, r1, w1, (n.nx.mono l1 x1).g⟩
theorem ss_set {i : Nat} {x : Str} {p : Pos} (O : XOk C cl L X) (hi : X.N[i]? = some x) (hx : Loc X.env.scope x) (he : PE X a (tE C cl ma)) (hs : swapsWith a (some (.Name x p)) pos.line X.env = pure false) (hf : X.env.scope.names.lookup x = some .local) :
    PS X (.Assign [.Name x p] a pos) (tS C cl (.asg (.nm i) ma)) :=
  PS.weak (ps_set O.nd hi hx he hs (.inr hf)) fun D σ H ⟨φ, F, S, σa, Da, R, Rs, w, n⟩ => tE_bind R Rs w fun x S1 φ1 F1 H1 u l1 x1 R1 r1 Rs1 w1 => n.nx _ _ _ _ _ _ l1 x1 R1 (Rs1.set r1) w1
theorem ss_par2 {i j : Nat} {x y : Str} {px py pt pt2 : Pos} {kt k2 : Nat} (O : XOk C cl L X) (hi : X.N[i]? = some x) (hj : X.N[j]? = some y) (hij : i ≠ j) (hx : X.env.scope.names.lookup x = some .local) (hy : X.env.scope.names.lookup y = some .local)
    (ha : PE X a (tE C cl ma)) (hb : PE X b (tE C cl mb)) (h1 : starEach [a, b] X.env = (false, eval a X.env) :: starEach [b] X.env) (h2 : starEach [b] X.env = (false, eval b X.env) :: starEach [] X.env)
    (hw : swappedStores [.Tuple [.Name x px, .Name y py] kt pt] (.Tuple [a, b] k2 pt2) X.env = pure (some [x, y]))
    (hs : swapsWithSole [.Tuple [.Name x px, .Name y py] kt pt] (.Tuple [a, b] k2 pt2) pos.line X.env = pure false) :
    PS X (.Assign [.Tuple [.Name x px, .Name y py] kt pt] (.Tuple [a, b] k2 pt2) pos) (tS C cl (.par2 i j ma mb)) :=
  PS.weak (ps_par O.calm O.nd hi hj hij hx hy (pa_cons ha (pa_cons hb pa_nil h2) h1) hw hs) fun D σ H ⟨φ, F, S, σa, Da, R, Rs, w, n⟩ => tE_bind R Rs w fun x S1 φ1 F1 H1 u l1 x1 R1 r1 Rs1 w1 =>
    tE_bind R1 Rs1 w1 fun y S2 φ2 F2 H2 v l2 x2 R2 r2 Rs2 w2 => ⟨u, v, rfl, n.nx _ _ _ _ _ _ (l1.trans l2) (x1.trans x2) R2 ((Rs2.set (Rep.mono l2 x2 _ _ r1)).set r2) w2⟩
theorem ss_par3 {i j k : Nat} {x y z : Str} {px py pz pt pt2 : Pos} {kt k2 : Nat} (O : XOk C cl L X) (hi : X.N[i]? = some x) (hj : X.N[j]? = some y) (hk : X.N[k]? = some z) (hij : i ≠ j) (hik : i ≠ k) (hjk : j ≠ k)
    (hx : X.env.scope.names.lookup x = some .local) (hy : X.env.scope.names.lookup y = some .local) (hz : X.env.scope.names.lookup z = some .local)
    (ha : PE X a (tE C cl ma)) (hb : PE X b (tE C cl mb)) (hc : PE X c (tE C cl mc)) (h1 : starEach [a, b, c] X.env = (false, eval a X.env) :: starEach [b, c] X.env) (h2 : starEach [b, c] X.env = (false, eval b X.env) :: starEach [c] X.env) (h3 : starEach [c] X.env = (false, eval c X.env) :: starEach [] X.env)
    (hw : swappedStores [.Tuple [.Name x px, .Name y py, .Name z pz] kt pt] (.Tuple [a, b, c] k2 pt2) X.env = pure (some [x, y, z]))
    (hs : swapsWithSole [.Tuple [.Name x px, .Name y py, .Name z pz] kt pt] (.Tuple [a, b, c] k2 pt2) pos.line X.env = pure false) :
    PS X (.Assign [.Tuple [.Name x px, .Name y py, .Name z pz] kt pt] (.Tuple [a, b, c] k2 pt2) pos) (tS C cl (.par3 i j k ma mb mc)) :=
  PS.weak (ps_par3 O.calm O.nd hi hj hk hij hik hjk hx hy hz (pa_cons ha (pa_cons hb (pa_cons hc pa_nil h3) h2) h1) hw hs) fun D σ H ⟨φ, F, S, σa, Da, R, Rs, w, n⟩ => tE_bind R Rs w fun x S1 φ1 F1 H1 u l1 x1 R1 r1 Rs1 w1 =>
    tE_bind R1 Rs1 w1 fun y S2 φ2 F2 H2 v l2 x2 R2 r2 Rs2 w2 => tE_bind R2 Rs2 w2 fun z S3 φ3 F3 H3 v3 l3 x3 R3 r3 Rs3 w3 => ⟨u, v, v3, rfl, n.nx _ _ _ _ _ _ (l1.trans (l2.trans l3)) (x1.trans (x2.trans x3)) R3 (((Rs3.set (Rep.mono (l2.trans l3) (x2.trans x3) _ _ r1)).set (Rep.mono l3 x3 _ _ r2)).set r3) w3⟩
theorem ss_setlc {i : Nat} {y : Str} {py : Pos} {elt tg iter : Expr} {ifs : List Expr} {scope : Scope} {own : List (Str × Nat)} {spos : Pos} {mi : MI} {mg : MG} {mifs : MEs} {melt : ME} (O : XOk C cl L X) (hy : X.N[i]? = some y) (hyl : X.env.scope.names.lookup y = some .local)
    (hsw : swapsWith (.ListComp elt [⟨tg, iter, ifs, 0⟩] scope pos) (some (.Name y py)) spos.line X.env = pure true) (hi : PI X tg iter (tI C cl mi)) (ok : BlkOk X.N X.env.scope scope own)
    (hg : ∀ (s : Shared) (H : Hp) (A : Addr) (ce : List (Str × Addr)) (fp : List Addr), PG (X.blk s H scope (compEnvC scope ce A X.env) fp) tg (tG C cl mg)) (ht : ∀ (s : Shared) (H : Hp) (A : Addr) (ce : List (Str × Addr)) (fp : List Addr), PTs (X.blk s H scope (compEnvC scope ce A X.env) fp) ifs (tTss C cl mifs))
    (he : ∀ (s : Shared) (H : Hp) (A : Addr) (ce : List (Str × Addr)) (fp : List Addr), PE (X.blk s H scope (compEnvC scope ce A X.env) fp) elt (tE C cl melt)) (hsl : ∀ j ∈ mg.slots, j ∈ own.map (·.2)) (hs : ∀ x, foldedSetIterable iter X.env x = pure x) :
    PS X (.Assign [.Name y py] (.ListComp elt [⟨tg, iter, ifs, 0⟩] scope pos) spos) (tS C cl (.setlc i melt mg mi mifs (own.map (·.2)))) :=
  PS.weak (ps_setLc O.calm O.nd hy hyl hsw hi ok hg ht he hs) fun D σ H ⟨φ, F, S, σa, Da, R, Rs, w, n⟩ => lc_ok hsl R Rs w fun acc S' φ' F' H' p l x R' r q => n.nx _ _ _ _ _ _ l x R' ((Rs.mono l x).set r) q
theorem ss_aug {i : Nat} {x : Str} {p : Pos} {op : Operator} (O : XOk C cl L X) (hi : X.N[i]? = some x) (hx : Loc X.env.scope x) (he : PE X a (tE C cl ma)) (hf : X.env.scope.names.lookup x = some .local) (hop : op = .Add ∨ op = .Sub) : PS X (.AugAssign (.Name x p) op a pos) (tS C cl (.aug i op ma)) := by
  have key : ∀ {D : Ends} {σ : St} {H : Hp} {f : Int → Int → Int}, (∃ φ F S σa Da x, HR C φ F S H ∧ RepS C φ F H σa σ ∧ σa[i]? = some (some x) ∧ wE C.P cl ma σa S (fun y S1 => w2I x y fun i' j' => Da.nx (σa.set i (some (.int (f i' j')))) S1) ∧ NxD C φ F H Da D) → tAug i (tE C cl ma) (ipI f) D σ H := by
    rintro D σ H f ⟨φ, F, S, σa, Da, x, R, Rs, e, w, n⟩
    obtain ⟨u, e1, r⟩ := Rs.2 i x e
    refine ⟨u, e1, tE_bind R Rs w fun y S1 φ1 F1 H1 v l1 x1 R1 r1 Rs1 w1 => ?_⟩
    obtain ⟨i', j', rfl, rfl, q⟩ := w2I_of w1
    cases r; cases r1
    exact ⟨i', j', rfl, rfl, n.nx _ _ _ _ _ _ l1 x1 R1 (Rs1.set (.int _)) q⟩
  rcases hop with rfl | rfl
  · refine PS.weak (ps_aug O.nd hi hx he ip_add (.inr hf)) fun D σ H ⟨φ, F, S, σa, Da, R, Rs, w, n⟩ => ?_
    unfold wS at w
    split at w
    · exact key ⟨φ, F, S, σa, Da, _, R, Rs, by assumption, w, n⟩
    · exact w.elim
  · refine PS.weak (ps_aug O.nd hi hx he ip_sub (.inr hf)) fun D σ H ⟨φ, F, S, σa, Da, R, Rs, w, n⟩ => ?_
    unfold wS at w
    split at w
    · exact key ⟨φ, F, S, σa, Da, _, R, Rs, by assumption, w, n⟩
    · exact w.elim
theorem ss_ex (he : PE X a (tE C cl ma)) (hs : swapsWith a none pos.line X.env = pure false) : PS X (.Expr a pos) (tS C cl (.ex ma)) :=
  PS.weak (ps_expr he hs) fun D σ H ⟨φ, F, S, σa, Da, R, Rs, w, n⟩ => tE_bind R Rs w fun x S1 φ1 F1 H1 u l1 x1 R1 r1 Rs1 w1 => n.nx _ _ _ _ _ _ l1 x1 R1 Rs1 w1
theorem ss_doc {x : Str} {j : Nat} {p : Pos} : PS X (.Expr (.Constant (.str x) j p) pos) (tS C cl .pass) := PS.weak ps_doc fun D σ H ⟨φ, F, S, σa, Da, R, Rs, w, n⟩ => n.nx _ _ _ _ _ _ Le.rfl' Ext.rfl' R Rs w
theorem ss_ret (he : PE X a (tE C cl ma)) : PS X (.Return (some a) pos) (tS C cl (.ret ma)) :=
  PS.weak (ps_ret he) fun D σ H ⟨φ, F, S, σa, Da, R, Rs, w, n⟩ => ⟨φ, F, S, σa, _, R, Rs, w, n.rt⟩
theorem ss_retN : PS X (.Return none pos) (tS C cl .retN) := PS.weak ps_retN fun D σ H ⟨φ, F, S, σa, Da, R, Rs, w, n⟩ => n.rt.now R .non w
theorem ss_if {p q : List Stmt} {mp mq : MSs} (hc : PT X a (tTs C cl ma)) (hp : PSs X p (tSs C cl mp)) (hq : PSs X q (tSs C cl mq)) : PS X (.If a p q pos) (tS C cl (.iff ma mp mq)) :=
  PS.weak (ps_if hc hp hq) fun D σ H ⟨φ, F, S, σa, Da, R, Rs, w, n⟩ => ⟨φ, F, S, σa, fun k S1 => if k = true then wSs C.P cl mp Da σa S1 else wSs C.P cl mq Da σa S1, R, Rs, w, fun k S1 φ1 F1 H1 l x R1 q => by
    cases k with
    | true => exact iteT ⟨φ1, F1, S1, σa, Da, R1, Rs.mono l x, q, n.mono l x⟩
    | false => exact iteF ⟨φ1, F1, S1, σa, Da, R1, Rs.mono l x, q, n.mono l x⟩⟩
theorem ss_app {apos cpos : Pos} {mo : ME} (O : XOk C cl L X) (ho : PE X b (tE C cl mo)) (ha : PE X a (tE C cl ma)) (hbase : attributeBase b "append" X.env (eval b X.env) = eval b X.env)
    (hfew : ((backTo cpos (starEach [a] X.env)).all (fun x => !x.1) && (backToKw cpos (keywordEach [] X.env)).all (fun x => x.1.isSome)
      && decide (([a] : List Expr).length + ([] : List Keyword).length + (if ([] : List Keyword).isEmpty then 0 else 1) < 30)) = true)
    (hline : (apos.endLine == cpos.line) = true) (hs1 : starEach [a] X.env = (false, eval a X.env) :: starEach [] X.env) (hs : swapsWith (.Call (.Attribute b "append" apos) [a] [] cpos) none pos.line X.env = pure false) :
    PS X (.Expr (.Call (.Attribute b "append" apos) [a] [] cpos) pos) (tS C cl (.app mo ma)) :=
  PS.weak (ps_expr (pe_bm PySem.F.plainAttrs_list PySem.F.slot_list_append PySem.F.type_list_append mt_append ho (pa_cons ha pa_nil hs1) hbase hfew hline hs1 rfl) hs) fun D σ H ⟨φ, F, S, σa, Da, R, Rs, w, n⟩ =>
    tE_bind R Rs w fun x S1 φ1 F1 H1 u l1 x1 R1 r1 Rs1 w1 => by
      obtain ⟨hL, w1⟩ := w1
      have hty : tyV X.K "list" u H1 := by
        unfold isL at hL
        split at hL
        · split at hL
          · rename_i m _ xs e
            cases r1 with
            | ref h1 =>
              obtain ⟨_, ys, h2, _⟩ := R1.obj _ _ _ e h1
              exact .inl ⟨rfl, _, .inl (.inl h2)⟩
          · exact hL.elim
        · exact hL.elim
      refine ⟨hty, tE_bind R1 Rs1 w1 fun y S2 φ2 F2 H2 v l2 x2 R2 r2 Rs2 w2 => ?_⟩
      split at w2
      · split at w2
        · rename_i m _ xs e
          have r1' := Rep.mono l2 x2 _ _ r1
          cases r1' with
          | ref h1 =>
            obtain ⟨hnf, ys, h2, rr⟩ := R2.obj _ _ _ e h1
            obtain ⟨R3, x3⟩ := R2.put h1 (o := .lst (ys ++ [v])) (a := .lst (xs ++ [y])) fun H' e' x' => ⟨hnf, _, e', RepL.mono Le.rfl' x' _ _ (rr.append (.cons r2 .nil))⟩
            exact ⟨_, ys, v, rfl, rfl, h2, by rw [← rr.length, ← line_eq]; exact w2.1, n.nx _ _ _ _ _ _ (l1.trans l2) ((x1.trans x2).trans x3) R3 (Rs2.mono Le.rfl' x3) w2.2⟩
        · exact w2.elim
      · exact w2.elim
/-! ### loops -/
theorem ss_for {tg iter : Expr} {mg : MG} {mi : MI} {body : List Stmt} {mb : MSs} (O : XOk C cl L X) (hi : PI X tg iter (tI C cl mi)) (hg : PG X tg (tG C cl mg)) (hb : PSs X body (tSs C cl mb)) (hs : ∀ x, foldedSetIterable iter X.env x = pure x) :
    PS X (.For tg iter body [] pos) (tS C cl (.for_ mg mi mb)) :=
  PS.weak (ps_for O.pass O.calm hi hg hb hs) fun D σ H ⟨φ, F, S, σa, Da, R, Rs, w, n⟩ => by
    refine ⟨φ, F, S, σa, _, R, Rs, w, fun xs G S1 φ1 F1 H1 J l1 x1 R1 w1 wk => ?_⟩
    refine ⟨fun i m σ2 H2 => m = xs.length - i ∧ i ≤ xs.length ∧ ∃ φ2 F2 S2 σa2, Le φ1 φ2 ∧ Ext F1 H1 F2 H2 ∧ HR C φ2 F2 S2 H2 ∧ RepS C φ2 F2 H2 σa2 σ2 ∧ wForL G (wG C.P cl mg) (wSs C.P cl mb) (xs.drop i) Da σa2 S2,
      ⟨xs.length, by simp, Nat.zero_le _, φ1, F1, S1, σa, Le.rfl', Ext.rfl', R1, Rs.mono l1 x1, by simpa using w1⟩, ?_⟩
    rintro i m σ2 H2 ⟨rfl, hi, φ2, F2, S2, σa2, l2, x2, R2, Rs2, w2⟩
    by_cases hlt : i < xs.length
    · rw [List.drop_eq_getElem_cons hlt] at w2
      obtain ⟨hG, w2⟩ := w2
      refine .inr ⟨wk.go _ _ _ _ _ l2 x2 R2 hG hlt, fun σ' H' => (xs.length - (i + 1)) = xs.length - (i + 1) ∧ i + 1 ≤ xs.length ∧ ∃ φ2 F2 S2 σa2, Le φ1 φ2 ∧ Ext F1 H1 F2 H' ∧ HR C φ2 F2 S2 H' ∧ RepS C φ2 F2 H' σa2 σ' ∧ wForL G (wG C.P cl mg) (wSs C.P cl mb) (xs.drop (i + 1)) Da σa2 S2,
        fun σ' H' q => ⟨xs.length - (i + 1), by omega, q⟩, fun y H' hy => ?_⟩
      obtain ⟨rfl, hv⟩ := wk.yld _ _ _ _ _ _ _ l2 x2 R2 hG hy
      have hv := hv xs[i] (by simp [hlt])
      refine ⟨φ2, F2, S2, σa2, xs[i], _, R2, Rs2, hv, w2, fun σa3 S3 φ3 F3 H3 σ3 l3 x3 R3 Rs3 _ w3 => ⟨φ3, F3, S3, σa3, _, R3, Rs3, w3, ?_⟩⟩
      have nn := (n.mono (l1.trans l2) (x1.trans x2)).mono l3 x3
      exact ⟨fun σa4 S4 φ4 F4 H4 σ4 l4 x4 R4 Rs4 q => ⟨rfl, hlt, φ4, F4, S4, σa4, l2.trans (l3.trans l4), x2.trans (x3.trans x4), R4, Rs4, q⟩, nn.rt, nn.nx,
        fun σa4 S4 φ4 F4 H4 σ4 l4 x4 R4 Rs4 q => ⟨rfl, hlt, φ4, F4, S4, σa4, l2.trans (l3.trans l4), x2.trans (x3.trans x4), R4, Rs4, q⟩⟩
    · have e : i = xs.length := by omega
      subst e
      rw [List.drop_length] at w2
      exact .inl ⟨wk.stop _ _ _ _ _ l2 x2 R2 w2.1 (Nat.le_refl _), n.nx _ _ _ _ _ _ (l1.trans l2) (x1.trans x2) R2 Rs2 w2.2⟩
theorem ss_while {body : List Stmt} {mb : MSs} (O : XOk C cl L X) (hc : PT X a (tTs C cl ma)) (hb : PSs X body (tSs C cl mb)) : PS X (.While a body [] pos) (tS C cl (.while_ ma mb)) :=
  PS.weak (ps_while O.pass hc hb) fun D σ H ⟨φ, F, S, σa, Da, R, Rs, w, n⟩ => by
    obtain ⟨W, ⟨m0, w0⟩, turn⟩ := w
    refine ⟨fun m σ2 H2 => ∃ φ2 F2 S2 σa2, Le φ φ2 ∧ Ext F H F2 H2 ∧ HR C φ2 F2 S2 H2 ∧ RepS C φ2 F2 H2 σa2 σ2 ∧ W m σa2 S2, ⟨m0, φ, F, S, σa, Le.rfl', Ext.rfl', R, Rs, w0⟩, ?_⟩
    rintro m σ2 H2 ⟨φ2, F2, S2, σa2, l2, x2, R2, Rs2, w2⟩
    refine ⟨φ2, F2, S2, σa2, _, R2, Rs2, turn m σa2 S2 w2, fun k S3 φ3 F3 H3 l3 x3 R3 w3 => ?_⟩
    have nn := n.mono (l2.trans l3) (x2.trans x3)
    have Rs3 := Rs2.mono l3 x3
    cases k with
    | false => exact iteF (nn.nx _ _ _ _ _ _ Le.rfl' Ext.rfl' R3 Rs3 w3)
    | true =>
      refine iteT ⟨fun σ' H' => ∃ m', m' < m ∧ ∃ φ2 F2 S2 σa2, Le φ φ2 ∧ Ext F H F2 H' ∧ HR C φ2 F2 S2 H' ∧ RepS C φ2 F2 H' σa2 σ' ∧ W m' σa2 S2, fun σ' H' q => q, φ3, F3, S3, σa2, _, R3, Rs3, w3, ?_⟩
      exact ⟨fun σa4 S4 φ4 F4 H4 σ4 l4 x4 R4 Rs4 ⟨m', hm, q⟩ => ⟨m', hm, φ4, F4, S4, σa4, (l2.trans l3).trans l4, (x2.trans x3).trans x4, R4, Rs4, q⟩, nn.rt, nn.nx,
        fun σa4 S4 φ4 F4 H4 σ4 l4 x4 R4 Rs4 ⟨m', hm, q⟩ => ⟨m', hm, φ4, F4, S4, σa4, (l2.trans l3).trans l4, (x2.trans x3).trans x4, R4, Rs4, q⟩⟩
end
end MP
/-! MP7: calls with keywords. -/
namespace MP
open PySem PySem.Spec L2
open PyProof.Rows hiding St
section
variable {C : Cfg} {cl : CallW} {L : Nat} {X : Cx} {a b c : Expr} {ma mb mc : ME} {pos : Pos}
/-- keywords' values -/
def NxN (C : Cfg) (φ : List Addr) (F : FZ) (H : Hp) (m : Nat) (Qa : List AV → HS → Prop) (Q : List V → Hp → Prop) : Prop :=
  ∀ vs S' φ' F' H' us, Le φ φ' → Ext F H F' H' → HR C φ' F' S' H' → RepL C φ' F' H' vs us → us.length = m → Qa vs S' → Q us H'
def tKs (C : Cfg) (cl : CallW) (m : MEs) (k : Nat) : TA := fun σ H Q => ∃ φ F S σa Qa, HR C φ F S H ∧ RepS C φ F H σa σ ∧ wEs C.P cl m σa S Qa ∧ NxN C φ F H k Qa Q
theorem sk_nil : PK X [] (tKs C cl .nil 0) := ⟨fun pos pins s σ H Q I ⟨φ, F, S, σa, Qa, R, Rs, w, n⟩ => pk_nil.run pos pins s σ H Q I (n [] S φ F H [] Le.rfl' Ext.rfl' R .nil rfl w)⟩
theorem sk_cons {nm : Option Str} {kp : Pos} {kws : List Keyword} {mes : MEs} {k : Nat} (ha : PE X a (tE C cl ma)) (hr : PK X kws (tKs C cl mes k)) : PK X (⟨nm, a, kp⟩ :: kws) (tKs C cl (.cons ma mes) (k + 1)) :=
  ⟨fun pos pins s σ H Q I ⟨φ, F, S, σa, Qa, R, Rs, w, n⟩ => (pk_cons ha hr).run pos pins s σ H Q I (tE_bind R Rs w fun x S1 φ1 F1 H1 u l1 x1 R1 r1 Rs1 w1 =>
    ⟨φ1, F1, S1, σa, _, R1, Rs1, w1, fun vs S2 φ2 F2 H2 us l2 x2 R2 r2 el w2 => n _ S2 φ2 F2 H2 _ (l1.trans l2) (x1.trans x2) R2 (.cons (Rep.mono l2 x2 _ _ r1) r2) (congrArg Nat.succ el) w2⟩)⟩
theorem san_nil : PA X [] (tKs C cl .nil 0) := PA.weak pa_nil fun σ H Q ⟨φ, F, S, σa, Qa, R, Rs, w, n⟩ => n [] S φ F H [] Le.rfl' Ext.rfl' R .nil rfl w
theorem san_cons {es : List Expr} {mes : MEs} {k : Nat} (ha : PE X a (tE C cl ma)) (hr : PA X es (tKs C cl mes k)) (hs : starEach (a :: es) X.env = (false, eval a X.env) :: starEach es X.env) : PA X (a :: es) (tKs C cl (.cons ma mes) (k + 1)) :=
  PA.weak (pa_cons ha hr hs) fun σ H Q ⟨φ, F, S, σa, Qa, R, Rs, w, n⟩ => tE_bind R Rs w fun x S1 φ1 F1 H1 u l1 x1 R1 r1 Rs1 w1 =>
    ⟨φ1, F1, S1, σa, _, R1, Rs1, w1, fun vs S2 φ2 F2 H2 us l2 x2 R2 r2 el w2 => n _ S2 φ2 F2 H2 _ (l1.trans l2) (x1.trans x2) R2 (.cons (Rep.mono l2 x2 _ _ r1) r2) (congrArg Nat.succ el) w2⟩
theorem lookup_rep {φ : List Addr} {F : FZ} {H : Hp} (i : Nat) : ∀ {ks : List Nat} {ws : List AV} {us : List V}, RepL C φ F H ws us → Rep C φ F H (((ks.zip ws).lookup i).getD .non) (((ks.zip us).lookup i).getD .non)
  | [], _, _, _ => by simp; exact .non
  | k :: ks, _, _, .nil => by simp; exact .non
  | k :: ks, _, _, .cons h1 h2 => by
    simp only [List.zip_cons_cons, List.lookup_cons]
    cases i == k with
    | true => exact h1
    | false => exact lookup_rep i h2
theorem kw_rep {φ : List Addr} {F : FZ} {H : Hp} {vs ws : List AV} {us xs : List V} (h1 : RepL C φ F H vs us) (h2 : RepL C φ F H ws xs) (ks : List Nat) : RepL C φ F H (kwArgs vs ks ws) (kwP V.non ks us xs) := by
  unfold kwArgs kwP
  refine h1.append ?_
  rw [h1.length]
  generalize List.range ks.length = l
  induction l with
  | nil => exact .nil
  | cons i l ih => exact .cons (lookup_rep (ks := ks) (us.length + i) h2) ih
theorem kw_rel_at (i : Nat) : ∀ {ks : List Nat} {ws : List V} {us : List Value}, Vals ws us → RelV (((ks.zip ws).lookup i).getD V.non) (((ks.zip us).lookup i).getD Value.none)
  | [], _, _, _ => by simp; rfl
  | k :: ks, _, _, .nil => by simp; rfl
  | k :: ks, _, _, .cons h1 h2 => by
    simp only [List.zip_cons_cons, List.lookup_cons]
    cases i == k with
    | true => exact h1
    | false => exact kw_rel_at i h2
theorem kw_rel {ks : List Nat} {vs : List V} {us : List Value} {zs : List V} {ws : List Value} (h1 : Vals vs us) (h2 : Vals zs ws) : Vals (kwP V.non ks vs zs) (kwP Value.none ks us ws) := by
  unfold kwP
  refine h1.append ?_
  rw [h1.length]
  generalize List.range ks.length = l
  induction l with
  | nil => exact .nil
  | cons i l ih => exact .cons (kw_rel_at (ks := ks) (us.length + i) h2) ih
/-- C(k = v, ..) -/
theorem se_newk0 (O : XOk C cl L X) {c : Nat} {D : MCls} {D' : MDef} {k m : Nat} {x : Str} {p : Pos} {kws : List Keyword} {ks : List Nat} {kes : MEs} (hD : C.P.classes[c]? = some D) (hg : Gl X x) (hx : x = D.nm) (hk : D.init = some k) (hD' : C.P.defs[k]? = some D')
    (hq : (k, 1, ks.map (· + 1)) ∈ C.kw) (hkw : PK X kws (tKs C cl kes m)) (hm : ks.length = m)
    (hall : (backToKw pos (keywordEach kws X.env)).all (·.1.isSome) = true) (hks : (backToKw pos (keywordEach kws X.env)).filterMap (·.1) = (ks.map (· + 1)).map fun i => D'.N.getD i Str.empty) (hdb : (x == ("__debug__" : Str)) = false)
    (hpl : ((backTo pos (starEach [] X.env)).any (·.1) || (backToKw pos (keywordEach kws X.env)).any (·.1.isNone)) = false) :
    PE X (.Call (.Name x p) [] kws pos) (tE C cl (.newk c .nil ks kes)) := by
  have K1 := O.lk.cls c D hD
  obtain ⟨fd, ps, _, hF, hb, hkb⟩ := O.fns k D' hD'
  have M := K1.mkr k hk
  rw [← O.hK] at M
  refine PE.weak (pe_makeK0 M hF (O.room.mono (by omega)) hg (by rw [hx]; exact K1.glob) (hkb _ _ hq) pass0 hkw hall hks hdb hpl) fun σ H Q ⟨φ, F, S, σa, Qa, R, Rs, w, n⟩ => ?_
  refine ⟨φ, F, S, σa, _, R, Rs, w, fun ws S1 φ1 F1 H1 zs l1 x1 R1 r1 el w1 => ⟨rfl, by rw [el, List.length_map, List.length_map, hm], ?_⟩⟩
  obtain ⟨k', ek, h⟩ := make_read R1 (kw_rep .nil r1 ks) w1 (n.mono l1 x1)
  rw [cl_at hD, hk] at ek
  cases ek
  intro y dy h1 h2 h3
  have h4 := h y dy h1 h2 h3
  have e : V.ref y :: kwP V.non ks [] zs = kwP V.non (ks.map (· + 1)) (V.ref y :: []) zs := by
    unfold kwP
    simp only [List.nil_append, List.singleton_append, List.length_map, List.length_nil, List.length_singleton]
    refine congrArg _ (List.map_congr_left fun i _ => ?_)
    have : ∀ (ks : List Nat) (zs : List V) (i : Nat), (ks.zip zs).lookup (0 + i) = ((ks.map (· + 1)).zip zs).lookup (1 + i) := fun ks => by
      induction ks with
      | nil => intro zs i; simp
      | cons k ks ih =>
        intro zs i
        cases zs with
        | nil => simp
        | cons z zs =>
          simp only [List.map_cons, List.zip_cons_cons, List.lookup_cons, ih]
          have : (0 + i == k) = (1 + i == k + 1) := by rw [Bool.eq_iff_iff]; simp; omega
          rw [this]
    rw [this]
  rw [← e]
  exact h4
end
end MP
/-! MP8: the checker: a syntax tree of the row is told by a mini tree. -/
namespace MP
open PySem PySem.Spec L2
open PyProof.Rows hiding St
def noSt : Expr → Bool
  | .Starred .. => false
  | _ => true
def noSl : Expr → Bool
  | .Slice .. => false
  | _ => true
def noSet : Expr → Bool
  | .Set .. => false
  | _ => true
/-- what a super form's base would be is left out -/
def noSup : Expr → Bool
  | .Call (.Name ..) [] [] _ => false
  | _ => true
def plainT : Expr → Bool
  | .UnaryOp .Not _ _ => false
  | .BoolOp .. => false
  | .IfExp .. => false
  | .Compare .. => false
  | _ => true
def notDebug (x : Str) : Bool := !(x == ("__debug__" : Str))
def glB (sc : Scope) (x : Str) : Bool := decide (sc.names.lookup x = some .globalImplicit) && notDebug x
def visB (sc : Scope) (x : Str) : Bool := (match sc.names.lookup x with
  | some .local => true
  | some .cell => true
  | some .free => true
  | _ => false) && notDebug x && !(x == ("__classdict__" : Str))
def ck : Const → AV → Bool
  | .none, .non => true
  | .bool b, .bl c => b == c
  | .int i, .int j => decide (i = j)
  | .str x, .str y => decide (x = y)
  | _, _ => false
def biN : BI → Str × Value
  | .len => ("len", .builtin "len") | .int => ("int", .type "int") | .abs => ("abs", .builtin "abs") | .list => ("list", .type "list") | .tuple => ("tuple", .type "tuple") | .all => ("all", .builtin "all")
  | .any => ("any", .builtin "any") | .repr => ("repr", .builtin "repr") | .max2 => ("max", .builtin "max") | .min2 => ("min", .builtin "min")
def freeB (s : Stat) (sc : Scope) (x : Str) : Bool := glB sc x && decide (x ∈ s.fr) && decide (x ≠ ("__name__" : Str))
/-- a class's name, for isinstance -/
def clsB (s : Stat) (sc : Scope) : Expr → AV → Bool
  | .Name x _, .cls c => glB sc x && (match s.P.classes[c]? with
    | some D => decide (x = D.nm)
    | none => false)
  | .Name x _, .ty t => freeB s sc x && decide (t ∈ TYS) && decide (bootBuiltins x = some (.type t))
  | _, _ => false
def clsBs (s : Stat) (sc : Scope) : List Expr → List AV → Bool
  | [], [] => true
  | e :: es, c :: cs => noSt e && clsB s sc e c && clsBs s sc es cs
  | _, _ => false
/-- names of a block's own slots -/
def ownOf (N : List Str) (own : List Nat) : List (Str × Nat) := own.map fun i => (N.getD i Str.empty, i)
mutual
/-- the shape of a test -/
def tf : ME → Expr → Bool
  | .un _ a, e => (match e with
    | .UnaryOp .Not x _ => tf a x
    | e => plainT e)
  | .bop _ a r, e => (match e with
    | .BoolOp op [x, y] _ => tf a x && tf r y
    | .BoolOp op (x :: y :: z :: l) p => tf a x && tf r (.BoolOp op (y :: z :: l) p)
    | e => plainT e)
  | .cmp .., e => (match e with
    | .Compare .. => true
    | e => plainT e)
  | .chain .., e => (match e with
    | .Compare .. => true
    | e => plainT e)
  | .never, _ => true
  | _, e => plainT e
end
mutual
def okE (s : Stat) (N : List Str) : ME → Scope → Expr → Bool
  | .c v, sc, e => (match e with
    | .Constant c _ _ => ck c v
    | _ => false)
  | .var i, sc, e => (match e with
    | .Name x _ => decide (N[i]? = some x) && visB sc x
    | _ => false)
  | .glo y v, sc, e => (match e with
    | .Name x _ => decide (x = y) && glB sc x && (match s.gc.lookup x with
      | some c => ck c v
      | none => false)
    | _ => false)
  | .bin op a b, sc, e => (match e with
    | .BinOp x op' y _ => decide (op = op') && okE s N a sc x && okE s N b sc y
    | _ => false)
  | .un op a, sc, e => (match e with
    | .UnaryOp op' x _ => decide (op = op') && okE s N a sc x
    | _ => false)
  | .bop op a r, sc, e => (match e with
    | .BoolOp op' [x, y] _ => decide (op = op') && okE s N a sc x && okE s N r sc y
    | .BoolOp op' (x :: y :: z :: l) p => decide (op = op') && okE s N a sc x && okE s N r sc (.BoolOp op' (y :: z :: l) p)
    | _ => false)
  | .cmp op a b, sc, e => (match e with
    | .Compare x [op'] [y] _ => decide (op = op') && okE s N a sc x && okE s N b sc y && !behindInMarks op y
    | _ => false)
  | .chain op op' a b c, sc, e => (match e with
    | .Compare x [o, o'] [y, z] _ => decide (op = o) && decide (op' = o') && okE s N a sc x && okE s N b sc y && okE s N c sc z && !lastMarks [op, op'] [y, z]
    | _ => false)
  | .ite t a b, sc, e => (match e with
    | .IfExp x y z _ => okE s N t sc x && tf t x && okE s N a sc y && okE s N b sc z
    | _ => false)
  | .tup es, sc, e => (match e with
    | .Tuple l _ _ => okEs s N es sc l
    | _ => false)
  | .lst _ es, sc, e => (match e with
    | .List l _ => okEs s N es sc l
    | _ => false)
  | .sub a i, sc, e => (match e with
    | .Subscript x y _ => okE s N a sc x && okE s N i sc y && noSl y
    | _ => false)
  | .slc a lo hi, sc, e => (match e with
    | .Subscript x (.Slice l h none _) _ => okE s N a sc x && (match l, lo with
      | none, .nil => true
      | some y, .cons m .nil => okE s N m sc y
      | _, _ => false) && (match h, hi with
      | none, .nil => true
      | some y, .cons m .nil => okE s N m sc y
      | _, _ => false)
    | _ => false)
  | .att a f, sc, e => (match e with
    | .Attribute x y _ => okE s N a sc x && decide (y = s.P.names.getD f Str.empty) && noSup x
    | _ => false)
  | .call k es, sc, e => (match e with
    | .Call (.Name x _) l [] _ => glB sc x && decide (s.gd.lookup x = some k) && decide (k < s.P.defs.length) && okEs s N es sc l && l.all noSt
    | _ => false)
  | .callk .., _, _ => false
  | .new c es, sc, e => (match e with
    | .Call (.Name x _) (y :: l) [] _ => glB sc x && (match s.P.classes[c]? with
      | some D => decide (x = D.nm) && (match D.init with
        | some k => decide (k < s.P.defs.length)
        | none => false)
      | none => false) && okEs s N es sc (y :: l) && (y :: l).all noSt
    | _ => false)
  | .newk c es ks kes, sc, e => (match e, es with
    | .Call (.Name x _) [] kws _, .nil => glB sc x && (match s.P.classes[c]? with
      | some D => decide (x = D.nm) && (match D.init with
        | some k => (match s.P.defs[k]? with
          | some D' => decide ((k, 1, ks.map (· + 1)) ∈ s.kw) && decide (kws.map (·.arg) = ks.map fun i => some (D'.N.getD (i + 1) Str.empty))
          | none => false)
        | none => false)
      | none => false) && okK s N kes sc kws && decide (ks.length = kws.length)
    | _, _ => false)
  | .meth a m es, sc, e => (match e with
    | .Call (.Attribute x y ap) l [] p => okE s N a sc x && decide (y = s.P.names.getD m Str.empty) && noSup x && okEs s N es sc l && l.all noSt && decide (l.length < 30) && (ap.endLine == p.line)
    | _ => false)
  | .bi f es, sc, e => (match e with
    | .Call (.Name x _) (y :: l) [] _ => freeB s sc x && decide (x = (biN f).1) && okEs s N es sc (y :: l) && (y :: l).all noSt
    | _ => false)
  | .isi a cs, sc, e => (match e with
    | .Call (.Name x _) [y, z] [] _ => freeB s sc x && decide (x = ("isinstance" : Str)) && noSt y && okE s N a sc y && (match z with
      | .Tuple l _ _ => !cs.isEmpty && decide (cs.length ≤ 100) && clsBs s sc l cs
      | z => noSt z && clsBs s sc [z] cs)
    | _ => false)
  | .lc elt g it ifs own, sc, e => (match e with
    | .ListComp x [⟨tg, iter, l, 0⟩] scope _ => blkC N sc scope (ownOf N own) && okI s N it sc iter && noSet iter && okG s N g false (relS scope sc) tg && okTs s N ifs (relS scope sc) l && okE s N elt (relS scope sc) x && g.slots.all (fun j => decide (j ∈ own))
    | _ => false)
  | .never, _, _ => true
def okEs (s : Stat) (N : List Str) : MEs → Scope → List Expr → Bool
  | .nil, _, l => l.isEmpty
  | .cons m r, sc, l => (match l with
    | x :: l => noSt x && okE s N m sc x && okEs s N r sc l
    | [] => false)
  | .star m r, sc, l => (match l with
    | .Starred x _ :: l => okE s N m sc x && okEs s N r sc l
    | _ => false)
/-- keywords' values -/
def okK (s : Stat) (N : List Str) : MEs → Scope → List Keyword → Bool
  | .nil, _, l => l.isEmpty
  | .cons m r, sc, l => (match l with
    | x :: l => okE s N m sc x.value && okK s N r sc l
    | [] => false)
  | .star .., _, _ => false
/-- a clause's tests -/
def okTs (s : Stat) (N : List Str) : MEs → Scope → List Expr → Bool
  | .nil, _, l => l.isEmpty
  | .cons m _, sc, l => (match l with
    | [x] => okE s N m sc x && tf m x
    | _ => false)
  | .star .., _, _ => false
def okI (s : Stat) (N : List Str) : MI → Scope → Expr → Bool
  | .e a, sc, e => okE s N a sc e
  | .range1 a, sc, e => (match e with
    | .Call (.Name x _) [y] [] _ => freeB s sc x && decide (x = ("range" : Str)) && noSt y && okE s N a sc y
    | _ => false)
  | .range2 a b, sc, e => (match e with
    | .Call (.Name x _) [y, z] [] _ => freeB s sc x && decide (x = ("range" : Str)) && noSt y && noSt z && okE s N a sc y && okE s N b sc z
    | _ => false)
  | .range3 a b c, sc, e => (match e with
    | .Call (.Name x _) [y, z, w] [] _ => freeB s sc x && decide (x = ("range" : Str)) && noSt y && noSt z && noSt w && okE s N a sc y && okE s N b sc z && okE s N c sc w
    | _ => false)
  | _, _, _ => false
/-- targets; top: not within a block -/
def okG (s : Stat) (N : List Str) : MG → Bool → Scope → Expr → Bool
  | .nm i, top, sc, e => (match e with
    | .Name x _ => decide (N[i]? = some x) && (decide (sc.names.lookup x = some .local) || (top && decide (sc.names.lookup x = some .cell)))
    | _ => false)
  | .tup gs, top, sc, e => (match e with
    | .Tuple l _ _ => okGs s N gs top sc l
    | _ => false)
  | .sub o i, top, sc, e => (match e with
    | .Subscript x y _ => okE s N o sc x && okE s N i sc y && noSl y
    | _ => false)
  | .att o f, top, sc, e => (match e with
    | .Attribute x y _ => okE s N o sc x && decide (y = s.P.names.getD f Str.empty)
    | _ => false)
def okGs (s : Stat) (N : List Str) : MGs → Bool → Scope → List Expr → Bool
  | .nil, _, _, l => l.isEmpty
  | .cons g r, top, sc, l => (match l with
    | x :: l => noSt x && okG s N g top sc x && okGs s N r top sc l
    | [] => false)
end
/-- a comprehension's value swapped with the frame's -/
def swW (sc : Scope) (value : Expr) (target : Option Expr) : Option Bool := match value with
  | .ListComp _ _ s p => (match target with
    | none => none
    | some (.Name t pos) => some (ScopeKind.function == ScopeKind.function && sc.names.lookup t == some .local && pos.line == p.line && !(s.names.any fun (n, k) => n == t && (k == .local || k == .cell)))
    | some _ => some false)
  | .SetComp .. => none
  | .DictComp .. => none
  | _ => some false
/-- stores swapped by the compiler -/
def swS (sc : Scope) (targets : List Expr) (value : Expr) : Option (Option (List Str)) := match targets, value with
  | [.Tuple ts _ _], .Tuple vs _ _ =>
    if !(ts.length == 2 || ts.length == 3) || vs.length != ts.length then some none
    else if vs.any (fun | .Starred .. => true | _ => false) then some none
    else
      let line := (ts.head?.map (·.pos.line)).getD 0
      let names := ts.filterMap fun
        | .Name id pos => if sc.names.lookup id == some .local && pos.line == line then some id else none
        | _ => none
      if names.length != ts.length || names.eraseDups.length != names.length then some none
      else if vs.all (foldedForSure 8) then some none
      else if vs.all (constantsAlone 8) then none
      else some (some names)
  | [.Tuple ..], _ => some none
  | [.Name ..], _ => some none
  | [.Subscript ..], _ => some none
  | [.Attribute ..], _ => some none
  | _, _ => none
mutual
def okS (s : Stat) (N : List Str) : MS → Scope → Stmt → Bool
  | .asg g e, sc, st => (match st with
    | .Assign [tg] v _ => okG s N g true sc tg && okE s N e sc v && noSt tg && decide (swW sc v (some tg) = some false) && decide (swS sc [tg] v = some none)
    | _ => false)
  | .par2 i j a b, sc, st => (match st with
    | .Assign [.Tuple [.Name x px, .Name y py] kt pt] (.Tuple [u, v] k2 pt2) _ => decide (N[i]? = some x) && decide (N[j]? = some y) && decide (i ≠ j) && decide (sc.names.lookup x = some .local) && decide (sc.names.lookup y = some .local) &&
        noSt u && noSt v && okE s N a sc u && okE s N b sc v && decide (swS sc [.Tuple [.Name x px, .Name y py] kt pt] (.Tuple [u, v] k2 pt2) = some (some [x, y]))
    | _ => false)
  | .par3 i j k a b c, sc, st => (match st with
    | .Assign [.Tuple [.Name x px, .Name y py, .Name z pz] kt pt] (.Tuple [u, v, w] k2 pt2) _ => decide (N[i]? = some x) && decide (N[j]? = some y) && decide (N[k]? = some z) && decide (i ≠ j) && decide (i ≠ k) && decide (j ≠ k) &&
        decide (sc.names.lookup x = some .local) && decide (sc.names.lookup y = some .local) && decide (sc.names.lookup z = some .local) && noSt u && noSt v && noSt w && okE s N a sc u && okE s N b sc v && okE s N c sc w &&
        decide (swS sc [.Tuple [.Name x px, .Name y py, .Name z pz] kt pt] (.Tuple [u, v, w] k2 pt2) = some (some [x, y, z]))
    | _ => false)
  | .setlc i elt g it ifs own, sc, st => (match st with
    | .Assign [.Name y py] (.ListComp x [⟨tg, iter, l, 0⟩] scope p) _ => decide (N[i]? = some y) && decide (sc.names.lookup y = some .local) && decide (swW sc (.ListComp x [⟨tg, iter, l, 0⟩] scope p) (some (.Name y py)) = some true) &&
        okE s N (.lc elt g it ifs own) sc (.ListComp x [⟨tg, iter, l, 0⟩] scope p)
    | _ => false)
  | .aug i op e, sc, st => (match st with
    | .AugAssign (.Name x _) op' v _ => decide (N[i]? = some x) && decide (sc.names.lookup x = some .local) && decide (op = op') && (decide (op = .Add) || decide (op = .Sub)) && okE s N e sc v
    | _ => false)
  | .ex e, sc, st => (match st with
    | .Expr v _ => okE s N e sc v && decide (swW sc v none = some false)
    | _ => false)
  | .app o e, sc, st => (match st with
    | .Expr (.Call (.Attribute x y ap) [v] [] cp) _ => okE s N o sc x && okE s N e sc v && decide (y = ("append" : Str)) && noSup x && noSt v && (ap.endLine == cp.line)
    | _ => false)
  | .ret e, sc, st => (match st with
    | .Return (some v) _ => okE s N e sc v
    | _ => false)
  | .retN, sc, st => (match st with
    | .Return none _ => true
    | _ => false)
  | .iff t a b, sc, st => (match st with
    | .If x p q _ => okE s N t sc x && tf t x && okSs s N a sc p && okSs s N b sc q
    | _ => false)
  | .for_ g it body, sc, st => (match st with
    | .For tg iter l [] _ => okG s N g true sc tg && okI s N it sc iter && noSet iter && okSs s N body sc l
    | _ => false)
  | .while_ t body, sc, st => (match st with
    | .While x l [] _ => okE s N t sc x && tf t x && okSs s N body sc l
    | _ => false)
  | .pass, sc, st => (match st with
    | .Pass _ => true
    | .Expr (.Constant (.str _) _ _) _ => true
    | _ => false)
  | .brk, sc, st => (match st with
    | .Break _ => true
    | _ => false)
  | .cont, sc, st => (match st with
    | .Continue _ => true
    | _ => false)
  | .never, _, _ => true
def okSs (s : Stat) (N : List Str) : MSs → Scope → List Stmt → Bool
  | .nil, _, l => l.isEmpty
  | .cons m r, sc, l => (match l with
    | x :: l => okS s N m sc x && okSs s N r sc l
    | [] => false)
end
end MP
/-! MP9: what the checker takes for granted. -/
namespace MP
open PySem PySem.Spec L2
open PyProof.Rows hiding St
theorem star_cons {x : Expr} {l : List Expr} {env : Env} (h : noSt x = true) : starEach (x :: l) env = (false, eval x env) :: starEach l env := by
  cases x <;> first | rfl | simp [noSt] at h
theorem star_plain {pos : Pos} {env : Env} : ∀ {l : List Expr}, l.all noSt = true → (backTo pos (starEach l env)).any (·.1) = false
  | [], _ => rfl
  | x :: l, h => by
    simp only [List.all_cons, Bool.and_eq_true] at h
    rw [star_cons h.1]
    show (false || (backTo pos (starEach l env)).any (·.1)) = false
    rw [star_plain h.2]
    rfl
theorem star_all {pos : Pos} {env : Env} : ∀ {l : List Expr}, l.all noSt = true → (backTo pos (starEach l env)).all (fun x => !x.1) = true
  | [], _ => rfl
  | x :: l, h => by
    simp only [List.all_cons, Bool.and_eq_true] at h
    rw [star_cons h.1]
    show (!false && (backTo pos (starEach l env)).all (fun x => !x.1)) = true
    rw [star_all h.2]
    rfl
theorem base_plain {o : Expr} {a : Str} {env : Env} {whole : Sem Value} (h : noSup o = true) : attributeBase o a env whole = whole := by
  unfold attributeBase
  split
  · simp [noSup] at h
  · rfl
theorem fold_plain {e : Expr} {env : Env} {x : Value} (h : noSet e = true) : foldedSetIterable e env x = pure x := by
  unfold foldedSetIterable
  cases e <;> first | rfl | simp [noSet] at h
theorem plainIx {e : Expr} (h : noSl e = true) : PlainIx e := fun o i => by
  unfold subscripted
  cases e <;> first | rfl | simp [noSl] at h
theorem plain_true {e : Expr} {env : Env} (h : plainT e = true) : ∀ whole, isTrue e env whole = (do let v ← whole; standAt e.pos; holding [v] (truthy v)) := fun whole => by
  cases e with
  | UnaryOp op x p => cases op <;> first | rfl | simp [plainT] at h
  | BoolOp _ _ _ => simp [plainT] at h
  | IfExp _ _ _ _ => simp [plainT] at h
  | Compare _ _ _ _ => simp [plainT] at h
  | _ => rfl
theorem each_cons {x : Expr} {l : List Expr} {env : Env} (h : noSt x = true) : assignEach (x :: l) env = (false, assign x env) :: assignEach l env := by
  cases x <;> first | rfl | simp [noSt] at h
theorem backTo_len {pos : Pos} {l : List (Bool × Sem Value)} : (backTo pos l).length = l.length := by simp [backTo]
/-- the road of a method's call -/
theorem meth_road {o : Expr} {m : Str} {l : List Expr} {apos pos : Pos} {env : Env} (h : noSup o = true) (hl : l.all noSt = true) (hn : l.length < 30) (hp : (apos.endLine == pos.line) = true) :
    eval (.Call (.Attribute o m apos) l [] pos) env = (do
      let ov ← eval o env
      standAt apos.atName
      let (f, first) ← holding [ov] (getMethod ov m (do return (← importBound o env).getD true))
      callWith pos f first (backTo pos (starEach l env)) (backToKw pos (keywordEach [] env))) := by
  rw [PySem.arm_eval_Call, base_plain h]
  have e : methodCallForm (l.length + ([] : List Keyword).length) (backTo pos (starEach l env)) (backToKw pos (keywordEach [] env)) = true := by
    unfold methodCallForm
    rw [star_all hl]
    simp [backToKw, keywordEach, hn]
  unfold methodCall
  rw [e]
  have e2 : methodCallPos true o env apos pos = pure pos := by
    unfold methodCallPos
    rw [hp]
    rfl
  rw [e2]
  rfl
theorem swW_ok {sc : Scope} {env : Env} {v : Expr} {t : Option Expr} {b : Bool} {l : Nat} (hsc : env.scope = sc) (hk : sc.kind = .function) (h : swW sc v t = some b) : swapsWith v t l env = pure b := by
  have hb : env.blockKind = .function := by unfold Env.blockKind; rw [hsc, hk]; rfl
  cases v with
  | ListComp x g s p =>
    cases t with
    | none => cases h
    | some t =>
      cases t with
      | Name t pos =>
        cases h
        unfold swapsWith
        simp only [hb, Env.kindOf, hsc, Expr.pos]
      | _ => cases h; rfl
  | SetComp => cases h
  | DictComp => cases h
  | _ => cases h; rfl
theorem swS_ok {sc : Scope} {env : Env} {v : Expr} {t : List Expr} {b : Option (List Str)} (hsc : env.scope = sc) (hk : sc.kind = .function) (h : swS sc t v = some b) : swappedStores t v env = pure b := by
  have hb : env.blockKind = .function := by unfold Env.blockKind; rw [hsc, hk]; rfl
  have hf : (ScopeKind.function != ScopeKind.function) = false := rfl
  unfold swS at h
  split at h
  · rename_i ts k p vs k2 p2
    unfold swappedStores
    simp only [hb, Env.kindOf, hsc, hf, Bool.or_false]
    split at h
    · rename_i c
      cases h
      exact if_pos c
    · rename_i c
      refine (if_neg c).trans ?_
      split at h
      · rename_i c2
        cases h
        exact if_pos c2
      · rename_i c2
        refine (if_neg c2).trans ?_
        simp only at h
        split at h
        · rename_i c3
          cases h
          exact if_pos c3
        · rename_i c3
          refine (if_neg c3).trans ?_
          split at h
          · rename_i c4
            cases h
            exact if_pos c4
          · rename_i c4
            refine (if_neg c4).trans ?_
            split at h
            · cases h
            · rename_i c5
              refine (if_neg c5).trans ?_
              cases h
              rfl
  · cases h; rename_i hv; cases v <;> first | rfl | exact absurd rfl (hv _ _ _)
  · cases h; rfl
  · cases h; rfl
  · cases h; rfl
  · cases h
end MP
/-! MP10: what the checker passes is told by the mini semantics: expressions. -/
namespace MP
open PySem PySem.Spec L2
open PyProof.Rows hiding St
structure XS (C : Cfg) (cl : CallW) (L : Nat) (N : List Str) (sc : Scope) (X : Cx) : Prop where
  O : XOk C cl L X
  n : X.N = N
  hs : X.env.scope = sc
  kind : sc.kind = .function
section
variable {C : Cfg} {cl : CallW} {L : Nat} {N : List Str} {sc : Scope} {X : Cx} {a b c e : Expr} {m ma mb mc : ME} {pos : Pos}
theorem XS.blk (I : XS C cl L N sc X) {scope : Scope} {own : List (Str × Nat)} (ok : BlkOk X.N X.env.scope scope own) (s : Shared) (H : Hp) (A : Addr) (ce : List (Str × Addr)) (fp : List Addr) : XS C cl L N (relS scope sc) (X.blk s H scope (compEnvC scope ce A X.env) fp) :=
  ⟨⟨I.O.hK, I.O.nd, I.O.calm, I.O.room, PassesOwn.never, I.O.lk, I.O.clm, I.O.cll, I.O.fns⟩, I.n, by rw [← I.hs]; rfl, ok.kind⟩
/-- the parts of a tree's telling -/
structure Snd (C : Cfg) (cl : CallW) (X : Cx) (m : ME) (e : Expr) : Prop where
  E : PE X e (tE C cl m)
  T : tf m e = true → PT X e (tTs C cl m)
  W : tf m e = true → ∀ op x y l p, e = .BoolOp op (x :: y :: l) p → PW X e (tTs C cl m)
theorem snd_plain (I : XS C cl L N sc X) (h : PE X e (tE C cl m)) (ht : tf m e = true → plainT e = true) : Snd C cl X m e :=
  ⟨h, fun q => st_plain I.O h (plain_true (ht q)), fun q op x y l p z => by subst z; have := ht q; simp [plainT] at this⟩
theorem glB_ok (I : XS C cl L N sc X) {x : Str} (h : glB sc x = true) : Gl X x ∧ (x == ("__debug__" : Str)) = false := by
  unfold glB notDebug at h
  simp only [Bool.and_eq_true, decide_eq_true_eq, Bool.not_eq_true'] at h
  exact ⟨by unfold Gl Env.kindOf; rw [I.hs]; exact h.1, h.2⟩
theorem freeB_ok (I : XS C cl L N sc X) {x : Str} (h : freeB C.s sc x = true) : Gl X x ∧ (x == ("__debug__" : Str)) = false ∧ X.mg x = none ∧ x ≠ "__name__" := by
  unfold freeB at h
  simp only [Bool.and_eq_true, decide_eq_true_eq] at h
  obtain ⟨h1, h2⟩ := glB_ok I h.1.1
  exact ⟨h1, h2, I.O.lk.fr x h.1.2, h.2⟩
theorem visB_ok (I : XS C cl L N sc X) {x : Str} (h : visB sc x = true) : Vis X.env.scope x ∧ (x == ("__debug__" : Str)) = false ∧ (x == ("__classdict__" : Str)) = false := by
  unfold visB notDebug at h
  simp only [Bool.and_eq_true, Bool.not_eq_true'] at h
  refine ⟨?_, h.1.2, h.2⟩
  rw [I.hs]
  have q := h.1.1
  unfold Vis
  split at q
  · exact .inl (by assumption)
  · exact .inr (.inl (by assumption))
  · exact .inr (.inr (by assumption))
  · cases q
theorem ck_ok {c : Const} {v : AV} {j : Nat} {p : Pos} (h : ck c v = true) : PE X (.Constant c j p) (tE C cl (.c v)) := by
  unfold ck at h
  split at h
  · exact se_c pe_non fun _ _ _ => .non
  · rename_i b b'
    have e : b = b' := by simpa using h
    subst e
    exact se_c pe_bl fun _ _ _ => .bl _
  · rename_i i j
    have e : i = j := by simpa using h
    subst e
    exact se_c pe_int fun _ _ _ => .int _
  · rename_i i j
    have e : i = j := by simpa using h
    subst e
    exact se_c pe_str fun _ _ _ => .str _
  · cases h
theorem ck_glo (I : XS C cl L N sc X) {c : Const} {v : AV} {x y : Str} {p : Pos} (hg : Gl X x) (hd : (x == ("__debug__" : Str)) = false) (hx : C.s.gc.lookup x = some c) (h : ck c v = true) : PE X (.Name x p) (tE C cl (.glo y v)) := by
  obtain ⟨u, hu, hr⟩ := I.O.lk.gc x c hx
  unfold ck at h
  split at h
  · exact se_glo (pe_glob (v := .non) hg hu hr hd) fun _ _ _ => .non
  · rename_i b b'
    have e : b = b' := by simpa using h
    subst e
    exact se_glo (pe_glob (v := .bl b) hg hu hr hd) fun _ _ _ => .bl _
  · rename_i i j
    have e : i = j := by simpa using h
    subst e
    exact se_glo (pe_glob (v := .int i) hg hu hr hd) fun _ _ _ => .int _
  · rename_i i j
    have e : i = j := by simpa using h
    subst e
    exact se_glo (pe_glob (v := .str i) hg hu hr hd) fun _ _ _ => .str _
  · cases h
theorem tE_never : PE X e (tE C cl .never) := ⟨fun pins s σ H Q I ⟨φ, F, S, σa, Qa, R, Rs, w, n⟩ => False.elim w⟩
theorem tT_never : PT X e (tTs C cl .never) := ⟨fun pins s σ H Q I ⟨φ, F, S, σa, Qa, R, Rs, w, n⟩ => False.elim w⟩
theorem tW_never : PW X e (tTs C cl .never) := ⟨fun wh pins s σ H Q I ⟨φ, F, S, σa, Qa, R, Rs, w, n⟩ => False.elim w⟩
theorem clsB_ok (I : XS C cl L N sc X) {k : AV} (h : clsB C.s sc e k = true) : ∃ w, clsV C k = some w ∧ PE X e (tC w) := by
  unfold clsB at h
  split at h
  · rename_i x p c
    simp only [Bool.and_eq_true] at h
    obtain ⟨hg, hd⟩ := glB_ok I h.1
    have q := h.2
    split at q
    · rename_i D hD
      have e : x = D.nm := by simpa using q
      refine ⟨.ref (C.ca c), ?_, pe_glob hg (by rw [e]; exact (I.O.lk.cls c D hD).glob) rfl hd⟩
      unfold clsV
      have hl : c < C.P.classes.length := (List.getElem?_eq_some_iff.mp hD).1
      simp [hl]
    · cases q
  · rename_i x p t
    simp only [Bool.and_eq_true, decide_eq_true_eq] at h
    obtain ⟨h1, h2, h3, h4⟩ := freeB_ok I h.1.1
    refine ⟨.ty t, ?_, pe_bltn h1 h3 h.2 rfl h4 h2⟩
    unfold clsV
    simp [h.1.2]
  · cases h
theorem clsBs_ok (I : XS C cl L N sc X) : ∀ {es : List Expr} {cs : List AV}, clsBs C.s sc es cs = true → ∃ ws, cs.map (clsV C) = ws.map some ∧ PA X es (tWs ws)
  | [], [], _ => ⟨[], rfl, pws_nil⟩
  | e :: es, c :: cs, h => by
    unfold clsBs at h
    simp only [Bool.and_eq_true] at h
    obtain ⟨w, h1, h2⟩ := clsB_ok I h.1.2
    obtain ⟨ws, h3, h4⟩ := clsBs_ok I h.2
    exact ⟨w :: ws, by simp [h1, h3], pws_cons h2 h4 (star_cons h.1.1)⟩
  | [], _ :: _, h => by simp [clsBs] at h
  | _ :: _, [], h => by simp [clsBs] at h
theorem lcok (O : XOk C cl L X) {k : Nat} (h : k < C.P.defs.length) : ∃ D, C.P.defs[k]? = some D := ⟨_, List.getElem?_eq_getElem h⟩
theorem biN_ok (f : BI) : biV f = (biN f).2 ∧ bootBuiltins (biN f).1 = some (biN f).2 := by
  cases f <;> exact ⟨rfl, by decide +kernel⟩
theorem bi_snd (I : XS C cl L N sc X) {f : BI} {x : Str} {p : Pos} {es : List Expr} {mes : MEs} (h : freeB C.s sc x = true) (hx : x = (biN f).1) (hs : (e :: es).all noSt = true) (ha : PA X (e :: es) (tEs C cl mes)) : PE X (.Call (.Name x p) (e :: es) [] pos) (tE C cl (.bi f mes)) := by
  obtain ⟨h1, h2, h3, h4⟩ := freeB_ok I h
  obtain ⟨b1, b2⟩ := biN_ok f
  simp only [List.all_cons, Bool.and_eq_true] at hs
  have s1 := star_cons (l := es) (env := X.env) hs.1
  have s2 := star_plain (pos := pos) (env := X.env) hs.2
  subst hx
  cases f with
  | int => exact se_biT I.O rfl h1 h3 b2 ha h4 h2 s1 s2
  | list => exact se_biT I.O rfl h1 h3 b2 ha h4 h2 s1 s2
  | tuple => exact se_biT I.O rfl h1 h3 b2 ha h4 h2 s1 s2
  | _ => exact se_biB I.O rfl h1 h3 b2 ha h4 h2 s1 s2
end
end MP
set_option maxHeartbeats 4000000
/-! MP11: the checker is sound: expressions. -/
namespace MP
open PySem PySem.Spec L2
open PyProof.Rows hiding St
section
variable {C : Cfg} {cl : CallW} {L : Nat} {N : List Str}
theorem kw_names_aux {pos : Pos} {env : Env} : ∀ {kws : List Keyword}, (backToKw pos (keywordEach kws env)).map (·.1) = kws.map (·.arg)
  | [] => rfl
  | k :: l => by
    obtain ⟨nm, v, p⟩ := k
    exact congrArg (nm :: ·) (kw_names_aux (pos := pos) (env := env) (kws := l))
theorem kw_names_all {D' : MDef} : ∀ {ks : List Nat} {l : List (Option Str × Sem Value)}, (l.map (·.1) = ks.map fun i => some (D'.N.getD (i + 1) Str.empty)) → l.all (·.1.isSome) = true ∧ l.any (·.1.isNone) = false ∧ l.filterMap (·.1) = ks.map fun i => D'.N.getD (i + 1) Str.empty
  | [], [], _ => ⟨rfl, rfl, rfl⟩
  | [], _ :: _, h => by simp at h
  | _ :: _, [], h => by simp at h
  | k :: ks, y :: l, hl => by
    simp only [List.map_cons, List.cons.injEq] at hl
    obtain ⟨i1, i2, i3⟩ := kw_names_all hl.2
    refine ⟨?_, ?_, ?_⟩
    · rw [List.all_cons, hl.1, i1]; rfl
    · rw [List.any_cons, hl.1, i2]; rfl
    · rw [List.filterMap_cons, hl.1]
      simp [i3]
theorem kw_names {pos : Pos} {env : Env} {D' : MDef} {ks : List Nat} {kws : List Keyword} (h : kws.map (·.arg) = ks.map fun i => some (D'.N.getD (i + 1) Str.empty)) :
    (backToKw pos (keywordEach kws env)).all (·.1.isSome) = true ∧ (backToKw pos (keywordEach kws env)).any (·.1.isNone) = false ∧ (backToKw pos (keywordEach kws env)).filterMap (·.1) = ks.map fun i => D'.N.getD (i + 1) Str.empty :=
  kw_names_all (kw_names_aux.trans h)
theorem each_map {x : Expr} {l : List Expr} {env : Env} (h : noSt x = true) : (assignEach (x :: l) env).map (·.2) = assign x env :: (assignEach l env).map (·.2) := by
  rw [each_cons h]; rfl
theorem gs_len {s : Stat} {top : Bool} {sc : Scope} {env : Env} : ∀ (gs : MGs) (l : List Expr), okGs s N gs top sc l = true → (assignEach l env).length = gs.len ∧ (assignEach l env).findIdx? (·.1) = none
  | .nil, [], _ => ⟨rfl, rfl⟩
  | .nil, _ :: _, h => by simp [okGs] at h
  | .cons g r, [], h => by simp [okGs] at h
  | .cons g r, x :: l, h => by
    unfold okGs at h
    simp only [Bool.and_eq_true] at h
    obtain ⟨i1, i2⟩ := gs_len (env := env) r l h.2
    rw [each_cons h.1.1]
    exact ⟨by simp [i1, MGs.len], by simp [List.findIdx?_cons, i2]⟩
mutual
theorem snd : ∀ (m : ME) {sc : Scope} {e : Expr} {X : Cx}, XS C cl L N sc X → okE C.s N m sc e = true → Snd C cl X m e
  | .c v, sc, e, X, I, h => by
    unfold okE at h
    split at h
    · exact snd_plain I (ck_ok h) fun q => q
    · cases h
  | .var i, sc, e, X, I, h => by
    unfold okE at h
    split at h
    · simp only [Bool.and_eq_true, decide_eq_true_eq] at h
      obtain ⟨h1, h2, h3⟩ := visB_ok I h.2
      exact snd_plain I (se_var (pe_var (by rw [I.n]; exact h.1) h1 h2 h3)) fun q => q
    · cases h
  | .glo y v, sc, e, X, I, h => by
    unfold okE at h
    split at h
    · simp only [Bool.and_eq_true, decide_eq_true_eq] at h
      obtain ⟨h1, h2⟩ := glB_ok I h.1.2
      have q := h.2
      split at q
      · exact snd_plain I (ck_glo I h1 h2 (by assumption) q) fun q => q
      · cases q
    · cases h
  | .bin op a b, sc, e, X, I, h => by
    unfold okE at h
    split at h
    · simp only [Bool.and_eq_true, decide_eq_true_eq] at h
      obtain ⟨⟨rfl, h1⟩, h2⟩ := h
      exact snd_plain I (se_bin I.O.hK (snd a I h1).E (snd b I h2).E) fun q => q
    · cases h
  | .un op a, sc, e, X, I, h => by
    unfold okE at h
    split at h
    · rename_i op' x p
      simp only [Bool.and_eq_true, decide_eq_true_eq] at h
      obtain ⟨rfl, h1⟩ := h
      have sa := snd a I h1
      refine ⟨se_un I.O.hK sa.E, fun q => ?_, fun q op2 x2 y2 l2 p2 z => by cases z⟩
      by_cases hop : op = .Not
      · subst hop
        exact st_not I.O (sa.T q)
      · refine st_plain I.O (se_un I.O.hK sa.E) (plain_true ?_)
        cases op <;> first | rfl | exact absurd rfl hop
    · cases h
  | .bop op a r, sc, e, X, I, h => by
    unfold okE at h
    split at h
    · simp only [Bool.and_eq_true, decide_eq_true_eq] at h
      obtain ⟨⟨rfl, h1⟩, h2⟩ := h
      have sa := snd a I h1
      have sr := snd r I h2
      have w : ∀ p, tf (.bop op a r) (.BoolOp op [_, _] p) = true → PW X (.BoolOp op [_, _] p) (tTs C cl (.bop op a r)) := fun p q => by
        unfold tf at q
        simp only [Bool.and_eq_true] at q
        exact sw_bop I.O (sa.T q.1) (sw_bop1 (sr.T q.2))
      refine ⟨se_bop I.O.hK sa.E (se_bop1 sr.E), fun q => (w _ q).pt, fun q op2 x2 y2 l2 p2 z => ?_⟩
      cases z
      exact w _ q
    · simp only [Bool.and_eq_true, decide_eq_true_eq] at h
      obtain ⟨⟨rfl, h1⟩, h2⟩ := h
      have sa := snd a I h1
      have sr := snd r I h2
      have w : tf (.bop op a r) (.BoolOp op (_ :: _ :: _ :: _) _) = true → PW X (.BoolOp op (_ :: _ :: _ :: _) _) (tTs C cl (.bop op a r)) := fun q => by
        unfold tf at q
        simp only [Bool.and_eq_true] at q
        exact sw_bop I.O (sa.T q.1) (sr.W q.2 _ _ _ _ _ rfl)
      refine ⟨se_bop I.O.hK sa.E sr.E, fun q => (w q).pt, fun q op2 x2 y2 l2 p2 z => ?_⟩
      cases z
      exact w q
    · cases h
  | .cmp op a b, sc, e, X, I, h => by
    unfold okE at h
    split at h
    · simp only [Bool.and_eq_true, decide_eq_true_eq, Bool.not_eq_true'] at h
      obtain ⟨⟨⟨rfl, h1⟩, h2⟩, h3⟩ := h
      exact ⟨se_cmp I.O (snd a I h1).E (snd b I h2).E h3, fun _ => st_cmp I.O (snd a I h1).E (snd b I h2).E h3, fun q op2 x2 y2 l2 p2 z => by cases z⟩
    · cases h
  | .chain op op' a b c, sc, e, X, I, h => by
    unfold okE at h
    split at h
    · simp only [Bool.and_eq_true, decide_eq_true_eq, Bool.not_eq_true'] at h
      obtain ⟨⟨⟨⟨⟨rfl, rfl⟩, h1⟩, h2⟩, h3⟩, h4⟩ := h
      exact ⟨se_chain I.O (snd a I h1).E (snd b I h2).E (snd c I h3).E h4, fun _ => st_chain I.O (snd a I h1).E (snd b I h2).E (snd c I h3).E h4, fun q op2 x2 y2 l2 p2 z => by cases z⟩
    · cases h
  | .ite t a b, sc, e, X, I, h => by
    unfold okE at h
    split at h
    · simp only [Bool.and_eq_true, decide_eq_true_eq] at h
      obtain ⟨⟨⟨h1, h2⟩, h3⟩, h4⟩ := h
      exact snd_plain I (se_ite ((snd t I h1).T h2) (snd a I h3).E (snd b I h4).E) fun q => q
    · cases h
  | .tup es, sc, e, X, I, h => by
    unfold okE at h
    split at h
    · exact snd_plain I (se_tup (snds es I h)) fun q => q
    · cases h
  | .lst z es, sc, e, X, I, h => by
    unfold okE at h
    split at h
    · exact snd_plain I (se_lst (snds es I h)) fun q => q
    · cases h
  | .sub a i, sc, e, X, I, h => by
    unfold okE at h
    split at h
    · simp only [Bool.and_eq_true] at h
      obtain ⟨⟨h1, h2⟩, h3⟩ := h
      exact snd_plain I (se_sub I.O.hK (snd a I h1).E (snd i I h2).E (plainIx h3)) fun q => q
    · cases h
  | .slc a lo hi, sc, e, X, I, h => by
    unfold okE at h
    split at h
    · simp only [Bool.and_eq_true] at h
      obtain ⟨⟨h1, h2⟩, h3⟩ := h
      refine snd_plain I (se_slc I.O.hK (snd a I h1).E ?_ ?_) fun q => q
      · split at h2
        · exact spo_none
        · exact spo_some (snd _ I h2).E
        · cases h2
      · split at h3
        · exact spo_none
        · exact spo_some (snd _ I h3).E
        · cases h3
    · cases h
  | .att a f, sc, e, X, I, h => by
    unfold okE at h
    split at h
    · simp only [Bool.and_eq_true, decide_eq_true_eq] at h
      obtain ⟨⟨h1, h2⟩, h3⟩ := h
      subst h2
      exact snd_plain I (se_att I.O (snd a I h1).E (base_plain h3)) fun q => q
    · cases h
  | .call k es, sc, e, X, I, h => by
    unfold okE at h
    split at h
    · rename_i x p l p2
      simp only [Bool.and_eq_true, decide_eq_true_eq] at h
      obtain ⟨⟨⟨⟨h1, h2⟩, h3⟩, h4⟩, h5⟩ := h
      obtain ⟨g1, g2⟩ := glB_ok I h1
      obtain ⟨D, hD⟩ := lcok I.O h3
      have hm := I.O.lk.gd x k h2
      refine snd_plain I ?_ fun q => q
      have sa := snds es I h4
      cases l with
      | nil =>
        cases es with
        | nil => exact se_call0 I.O hD g1 hm g2
        | _ => simp [okEs] at h4
      | cons y l =>
        simp only [List.all_cons, Bool.and_eq_true] at h5
        exact se_call I.O hD g1 hm sa g2 (star_cons h5.1) (star_plain h5.2)
    · cases h
  | .callk .., sc, e, X, I, h => by simp [okE] at h
  | .new c es, sc, e, X, I, h => by
    unfold okE at h
    split at h
    · rename_i x p y l p2
      simp only [Bool.and_eq_true] at h
      obtain ⟨⟨⟨h1, h2⟩, h4⟩, h5⟩ := h
      obtain ⟨g1, g2⟩ := glB_ok I h1
      simp only [List.all_cons, Bool.and_eq_true] at h5
      split at h2
      · rename_i D hD
        simp only [Bool.and_eq_true, decide_eq_true_eq] at h2
        obtain ⟨hx, h2⟩ := h2
        refine snd_plain I (se_new I.O hD g1 hx ?_ (snds es I h4) g2 (star_cons h5.1) (star_plain h5.2) fun k hk => ?_) fun q => q
        · split at h2
          · simp [*]
          · cases h2
        · rw [hk] at h2
          simp only [decide_eq_true_eq] at h2
          exact lcok I.O h2
      · cases h2
    · cases h
  | .newk c es ks kes, sc, e, X, I, h => by
    unfold okE at h
    split at h
    · rename_i x p kws p2
      simp only [Bool.and_eq_true, decide_eq_true_eq] at h
      obtain ⟨⟨⟨h1, h2⟩, h4⟩, h5⟩ := h
      obtain ⟨g1, g2⟩ := glB_ok I h1
      split at h2
      · rename_i D hD
        simp only [Bool.and_eq_true, decide_eq_true_eq] at h2
        obtain ⟨hx, h2⟩ := h2
        split at h2
        · rename_i k hk
          split at h2
          · rename_i D' hD'
            simp only [Bool.and_eq_true, decide_eq_true_eq] at h2
            obtain ⟨a1, a2, a3⟩ := kw_names (pos := p2) (env := X.env) (D' := D') h2.2
            refine snd_plain I (se_newk0 I.O hD g1 hx hk hD' h2.1 (sndk kes I h4) h5 a1 (by rw [a3, List.map_map]; rfl) g2 (by rw [a2]; rfl)) fun q => q
          · cases h2
        · cases h2
      · cases h2
    · cases h
  | .meth a m es, sc, e, X, I, h => by
    unfold okE at h
    split at h
    · rename_i x y ap l p2
      simp only [Bool.and_eq_true, decide_eq_true_eq] at h
      obtain ⟨⟨⟨⟨⟨⟨h1, h2⟩, h3⟩, h4⟩, h5⟩, h6⟩, h7⟩ := h
      subst h2
      have sa := snds es I h4
      refine snd_plain I ?_ fun q => q
      have hr := meth_road (m := C.nm m) (env := X.env) h3 h5 h6 h7
      cases l with
      | nil =>
        cases es with
        | nil => exact se_meth0 I.O (snd a I h1).E hr
        | _ => simp [okEs] at h4
      | cons y l =>
        simp only [List.all_cons, Bool.and_eq_true] at h5
        exact se_meth I.O (snd a I h1).E sa (star_cons h5.1) (star_plain h5.2) hr
    · cases h
  | .bi f es, sc, e, X, I, h => by
    unfold okE at h
    split at h
    · simp only [Bool.and_eq_true, decide_eq_true_eq] at h
      obtain ⟨⟨⟨h1, h2⟩, h3⟩, h4⟩ := h
      exact snd_plain I (bi_snd I h1 h2 h4 (snds es I h3)) fun q => q
    · cases h
  | .isi a cs, sc, e, X, I, h => by
    unfold okE at h
    split at h
    · rename_i x p y z p2
      simp only [Bool.and_eq_true, decide_eq_true_eq] at h
      obtain ⟨⟨⟨⟨h1, h2⟩, h3⟩, h4⟩, h5⟩ := h
      obtain ⟨f1, f2, f3, f4⟩ := freeB_ok I h1
      subst h2
      refine snd_plain I ?_ fun q => q
      have hb : bootBuiltins ("isinstance" : Str) = some (.builtin "isinstance") := by decide +kernel
      split at h5
      · rename_i l kk p3
        simp only [Bool.and_eq_true, decide_eq_true_eq, Bool.not_eq_true'] at h5
        obtain ⟨ws, hw, ha⟩ := clsBs_ok I h5.2
        have hl : ws.length ≤ 100 := by
          have := congrArg List.length hw
          simp only [List.length_map] at this
          omega
        exact se_isiT I.O f1 f3 hb hw (by intro z; subst z; simp at h5) hl (snd a I h4).E ha f4 f2 (star_cons h3)
      · simp only [Bool.and_eq_true] at h5
        obtain ⟨h5, h6⟩ := h5
        match cs, h6 with
        | [k], h6 =>
          unfold clsBs at h6
          simp only [Bool.and_eq_true] at h6
          obtain ⟨w, k1, k2⟩ := clsB_ok I h6.1.2
          exact se_isi1 I.O f1 f3 hb k1 (snd a I h4).E k2 f4 f2 (star_cons h3) (star_cons h5) (star_plain (by simp [h5]))
        | [], h6 => simp [clsBs] at h6
        | _ :: _ :: _, h6 => simp [clsBs] at h6
    · cases h
  | .lc elt g it ifs own, sc, e, X, I, h => by
    unfold okE at h
    split at h
    · simp only [Bool.and_eq_true, List.all_eq_true, decide_eq_true_eq] at h
      obtain ⟨⟨⟨⟨⟨⟨h1, h2⟩, h3⟩, h4⟩, h5⟩, h6⟩, h7⟩ := h
      have ok := blkOk_by h1
      rw [← I.n, ← I.hs] at ok
      have e1 : own = (ownOf N own).map (·.2) := by
        unfold ownOf
        rw [List.map_map]
        exact (List.map_id own).symm
      rename_i x0 tg0 iter0 l0 scope0 p0
      have q := se_lc I.O (pos := p0) (sndi it I h2) ok (fun s H A ce fp => sndg g (I.blk ok s H A ce fp) (fun z => by cases z) h4) (fun s H A ce fp => sndt ifs (I.blk ok s H A ce fp) h5) (fun s H A ce fp => (snd elt (I.blk ok s H A ce fp) h6).E) (fun j hj => by rw [I.n, ← e1]; exact h7 j hj) (fun x => fold_plain h3)
      rw [I.n, ← e1] at q
      exact snd_plain I q fun q => q
    · cases h
  | .never, sc, e, X, I, h => ⟨tE_never, fun _ => tT_never, fun _ _ _ _ _ _ _ => tW_never⟩
theorem snds : ∀ (m : MEs) {sc : Scope} {l : List Expr} {X : Cx}, XS C cl L N sc X → okEs C.s N m sc l = true → PA X l (tEs C cl m)
  | .nil, sc, l, X, I, h => by
    cases l with
    | nil => exact sa_nil
    | cons _ _ => simp [okEs] at h
  | .cons m r, sc, l, X, I, h => by
    unfold okEs at h
    split at h
    · simp only [Bool.and_eq_true] at h
      exact sa_cons (snd m I h.1.2).E (snds r I h.2) (star_cons h.1.1)
    · cases h
  | .star m r, sc, l, X, I, h => by
    unfold okEs at h
    split at h
    · simp only [Bool.and_eq_true] at h
      exact sa_star I.O.hK (snd m I h.1).E (snds r I h.2)
    · cases h
theorem sndk : ∀ (m : MEs) {sc : Scope} {l : List Keyword} {X : Cx}, XS C cl L N sc X → okK C.s N m sc l = true → PK X l (tKs C cl m l.length)
  | .nil, sc, l, X, I, h => by
    cases l with
    | nil => exact sk_nil
    | cons _ _ => simp [okK] at h
  | .cons m r, sc, l, X, I, h => by
    cases l with
    | nil => simp [okK] at h
    | cons x l =>
      obtain ⟨nm, e, p⟩ := x
      unfold okK at h
      simp only [Bool.and_eq_true] at h
      exact sk_cons (snd m I h.1).E (sndk r I h.2)
  | .star m r, sc, l, X, I, h => by simp [okK] at h
theorem sndt : ∀ (m : MEs) {sc : Scope} {l : List Expr} {X : Cx}, XS C cl L N sc X → okTs C.s N m sc l = true → PTs X l (tTss C cl m)
  | .nil, sc, l, X, I, h => by
    cases l with
    | nil => exact sts_nil
    | cons _ _ => simp [okTs] at h
  | .cons m r, sc, l, X, I, h => by
    unfold okTs at h
    split at h
    · simp only [Bool.and_eq_true] at h
      exact sts_one ((snd m I h.1).T h.2)
    · cases h
  | .star m r, sc, l, X, I, h => by simp [okTs] at h
theorem sndi : ∀ (m : MI) {sc : Scope} {e : Expr} {X : Cx} {tg : Expr}, XS C cl L N sc X → okI C.s N m sc e = true → PI X tg e (tI C cl m)
  | .e a, sc, e, X, tg, I, h => si_e I.O.hK (snd a I h).E
  | .range1 a, sc, e, X, tg, I, h => by
    unfold okI at h
    split at h
    · simp only [Bool.and_eq_true, decide_eq_true_eq] at h
      obtain ⟨⟨⟨h1, h2⟩, h3⟩, h4⟩ := h
      obtain ⟨f1, f2, f3, f4⟩ := freeB_ok I h1
      subst h2
      exact si_range1 f1 f3 (snd a I h4).E (star_cons h3)
    · cases h
  | .range2 a b, sc, e, X, tg, I, h => by
    unfold okI at h
    split at h
    · simp only [Bool.and_eq_true, decide_eq_true_eq] at h
      obtain ⟨⟨⟨⟨⟨h1, h2⟩, h3⟩, h3'⟩, h4⟩, h5⟩ := h
      obtain ⟨f1, f2, f3, f4⟩ := freeB_ok I h1
      subst h2
      exact si_range2 f1 f3 (snd a I h4).E (snd b I h5).E (by rw [star_cons h3, star_cons h3']; rfl) (star_cons h3')
    · cases h
  | .range3 a b c, sc, e, X, tg, I, h => by
    unfold okI at h
    split at h
    · simp only [Bool.and_eq_true, decide_eq_true_eq] at h
      obtain ⟨⟨⟨⟨⟨⟨⟨h1, h2⟩, h3⟩, h3'⟩, h3''⟩, h4⟩, h5⟩, h6⟩ := h
      obtain ⟨f1, f2, f3, f4⟩ := freeB_ok I h1
      subst h2
      exact si_range3 f1 f3 (snd a I h4).E (snd b I h5).E (snd c I h6).E (star_cons h3) (star_cons h3') (star_cons h3'') (star_plain (by simp [h3', h3'']))
    · cases h
  | .enum _, sc, e, X, tg, I, h => by simp [okI] at h
  | .zip _ _, sc, e, X, tg, I, h => by simp [okI] at h
theorem sndg : ∀ (m : MG) {top : Bool} {sc : Scope} {e : Expr} {X : Cx}, XS C cl L N sc X → (top = true → ∀ x, X.fn x = true) → okG C.s N m top sc e = true → PG X e (tG C cl m)
  | .nm i, top, sc, e, X, I, ht, h => by
    unfold okG at h
    split at h
    · simp only [Bool.and_eq_true, decide_eq_true_eq, Bool.or_eq_true] at h
      obtain ⟨h1, h2⟩ := h
      rw [← I.n] at h1
      rw [← I.hs] at h2
      rcases h2 with h2 | ⟨h2, h3⟩
      · exact sg_nm (pg_name I.O.nd h1 (.inl h2) (.inr h2))
      · exact sg_nm (pg_name I.O.nd h1 (.inr h3) (.inl (ht h2 _)))
    · cases h
  | .tup gs, top, sc, e, X, I, ht, h => by
    unfold okG at h
    split at h
    · rename_i l k p
      obtain ⟨l1, l2⟩ := gs_len (env := X.env) gs l h
      exact sg_tup I.O.hK I.O.calm (sndgs gs I ht h) l1 l2 rfl
    · cases h
  | .sub o i, top, sc, e, X, I, ht, h => by
    unfold okG at h
    split at h
    · simp only [Bool.and_eq_true] at h
      refine sg_sub (snd o I h.1.1).E (snd i I h.1.2).E fun v => ?_
      have hs := h.2
      rename_i x y p
      cases y <;> first | rfl | simp [noSl] at hs
    · cases h
  | .att o f, top, sc, e, X, I, ht, h => by
    unfold okG at h
    split at h
    · simp only [Bool.and_eq_true, decide_eq_true_eq] at h
      obtain ⟨h1, h2⟩ := h
      subst h2
      exact sg_att I.O (snd o I h1).E fun v => rfl
    · cases h
theorem sndgs : ∀ (m : MGs) {top : Bool} {sc : Scope} {l : List Expr} {X : Cx}, XS C cl L N sc X → (top = true → ∀ x, X.fn x = true) → okGs C.s N m top sc l = true → PGs X l (tGs C cl m)
  | .nil, top, sc, l, X, I, ht, h => by
    cases l with
    | nil => exact sgs_nil
    | cons _ _ => unfold okGs at h; cases h
  | .cons g r, top, sc, l, X, I, ht, h => by
    cases l with
    | nil => unfold okGs at h; cases h
    | cons x l =>
      have h : (noSt x && okG C.s N g top sc x && okGs C.s N r top sc l) = true := h
      have h := (Bool.and_eq_true_iff.mp h)
      have h := And.intro (Bool.and_eq_true_iff.mp h.1) h.2
      exact sgs_cons (sndg g I ht h.1.2) (sndgs r I ht h.2) (each_map h.1.1)
end
end
end MP
set_option maxHeartbeats 4000000
/-! MP12: the checker is sound: statements; defs. -/
namespace MP
open PySem PySem.Spec L2
open PyProof.Rows hiding St
section
variable {C : Cfg} {cl : CallW} {L : Nat} {N : List Str}
mutual
theorem sns : ∀ (m : MS) {sc : Scope} {st : Stmt} {X : Cx}, XS C cl L N sc X → (∀ x, X.fn x = true) → okS C.s N m sc st = true → PS X st (tS C cl m)
  | .asg g e, sc, st, X, I, ht, h => by
    unfold okS at h
    split at h
    · simp only [Bool.and_eq_true, decide_eq_true_eq] at h
      obtain ⟨⟨⟨⟨h1, h2⟩, h3⟩, h4⟩, h5⟩ := h
      exact ss_asg (snd e I h2).E (sndg g I (fun _ => ht) h1) (swW_ok I.hs I.kind h4) (swS_ok I.hs I.kind h5) (each_map h3)
    · cases h
  | .par2 i j a b, sc, st, X, I, ht, h => by
    unfold okS at h
    split at h
    · simp only [Bool.and_eq_true, decide_eq_true_eq] at h
      obtain ⟨⟨⟨⟨⟨⟨⟨⟨⟨h1, h2⟩, h3⟩, h4⟩, h5⟩, h6⟩, h7⟩, h8⟩, h9⟩, h10⟩ := h
      rw [← I.n] at h1 h2
      have hsw := swS_ok I.hs I.kind h10
      rw [← I.hs] at h4 h5
      exact ss_par2 I.O h1 h2 h3 h4 h5 (snd a I h8).E (snd b I h9).E (star_cons h6) (star_cons h7) hsw rfl
    · cases h
  | .par3 i j k a b c, sc, st, X, I, ht, h => by
    unfold okS at h
    split at h
    · simp only [Bool.and_eq_true, decide_eq_true_eq] at h
      obtain ⟨⟨⟨⟨⟨⟨⟨⟨⟨⟨⟨⟨⟨⟨⟨h1, h2⟩, h3⟩, i1⟩, i2⟩, i3⟩, h4⟩, h5⟩, h6⟩, s1⟩, s2⟩, s3⟩, e1⟩, e2⟩, e3⟩, h10⟩ := h
      rw [← I.n] at h1 h2 h3
      have hsw := swS_ok I.hs I.kind h10
      rw [← I.hs] at h4 h5 h6
      exact ss_par3 I.O h1 h2 h3 i1 i2 i3 h4 h5 h6 (snd a I e1).E (snd b I e2).E (snd c I e3).E (star_cons s1) (star_cons s2) (star_cons s3) hsw rfl
    · cases h
  | .setlc i elt g it ifs own, sc, st, X, I, ht, h => by
    unfold okS at h
    split at h
    · rename_i y py x0 tg0 iter0 l0 scope0 p0 sp0
      simp only [Bool.and_eq_true, decide_eq_true_eq] at h
      obtain ⟨⟨⟨h1, h2⟩, hw⟩, h⟩ := h
      have hsw := swW_ok (l := sp0.line) I.hs I.kind hw
      rw [← I.n] at h1
      rw [← I.hs] at h2
      unfold okE at h
      simp only [Bool.and_eq_true, List.all_eq_true, decide_eq_true_eq] at h
      obtain ⟨⟨⟨⟨⟨⟨h1', h2'⟩, h3⟩, h4⟩, h5⟩, h6⟩, h7⟩ := h
      have ok := blkOk_by h1'
      rw [← I.n, ← I.hs] at ok
      have e1 : own = (ownOf N own).map (·.2) := by
        unfold ownOf
        rw [List.map_map]
        exact (List.map_id own).symm
      have q := ss_setlc (py := py) (spos := sp0) (pos := p0) I.O h1 h2 hsw (sndi it I h2') ok (fun s H A ce fp => sndg g (I.blk ok s H A ce fp) (fun z => by cases z) h4) (fun s H A ce fp => sndt ifs (I.blk ok s H A ce fp) h5) (fun s H A ce fp => (snd elt (I.blk ok s H A ce fp) h6).E) (fun j hj => by rw [I.n, ← e1]; exact h7 j hj) (fun x => fold_plain h3)
      rw [I.n, ← e1] at q
      exact q
    · cases h
  | .aug i op e, sc, st, X, I, ht, h => by
    unfold okS at h
    split at h
    · simp only [Bool.and_eq_true, decide_eq_true_eq, Bool.or_eq_true] at h
      obtain ⟨⟨⟨⟨h1, h2⟩, rfl⟩, h4⟩, h5⟩ := h
      rw [← I.n] at h1
      rw [← I.hs] at h2
      exact ss_aug I.O h1 (.inl h2) (snd e I h5).E h2 h4
    · cases h
  | .ex e, sc, st, X, I, ht, h => by
    unfold okS at h
    split at h
    · simp only [Bool.and_eq_true, decide_eq_true_eq] at h
      exact ss_ex (snd e I h.1).E (swW_ok I.hs I.kind h.2)
    · cases h
  | .app o e, sc, st, X, I, ht, h => by
    unfold okS at h
    split at h
    · rename_i x y ap v cp p
      simp only [Bool.and_eq_true, decide_eq_true_eq] at h
      obtain ⟨⟨⟨⟨⟨h1, h2⟩, h3⟩, h4⟩, h5⟩, h6⟩ := h
      subst h3
      have hst := star_all (pos := cp) (env := X.env) (l := [v]) (by simp [h5])
      exact ss_app I.O (snd o I h1).E (snd e I h2).E (base_plain h4) (by rw [hst]; rfl) h6 (star_cons h5) rfl
    · cases h
  | .ret e, sc, st, X, I, ht, h => by
    unfold okS at h
    split at h
    · exact ss_ret (snd e I h).E
    · cases h
  | .retN, sc, st, X, I, ht, h => by
    unfold okS at h
    split at h
    · exact ss_retN
    · cases h
  | .iff t a b, sc, st, X, I, ht, h => by
    unfold okS at h
    split at h
    · simp only [Bool.and_eq_true] at h
      obtain ⟨⟨⟨h1, h2⟩, h3⟩, h4⟩ := h
      exact ss_if ((snd t I h1).T h2) (snss a I ht h3) (snss b I ht h4)
    · cases h
  | .for_ g it body, sc, st, X, I, ht, h => by
    unfold okS at h
    split at h
    · simp only [Bool.and_eq_true] at h
      obtain ⟨⟨⟨h1, h2⟩, h3⟩, h4⟩ := h
      exact ss_for I.O (sndi it I h2) (sndg g I (fun _ => ht) h1) (snss body I ht h4) fun x => fold_plain h3
    · cases h
  | .while_ t body, sc, st, X, I, ht, h => by
    unfold okS at h
    split at h
    · simp only [Bool.and_eq_true] at h
      obtain ⟨⟨h1, h2⟩, h3⟩ := h
      exact ss_while I.O ((snd t I h1).T h2) (snss body I ht h3)
    · cases h
  | .pass, sc, st, X, I, ht, h => by
    unfold okS at h
    split at h
    · exact ss_pass
    · exact ss_doc
    · cases h
  | .brk, sc, st, X, I, ht, h => by
    unfold okS at h
    split at h
    · exact ss_brk
    · cases h
  | .cont, sc, st, X, I, ht, h => by
    unfold okS at h
    split at h
    · exact ss_cont
    · cases h
  | .never, sc, st, X, I, ht, h => ⟨fun pins s σ H D I ⟨φ, F, S, σa, Da, R, Rs, w, n⟩ => False.elim w⟩
theorem snss : ∀ (m : MSs) {sc : Scope} {l : List Stmt} {X : Cx}, XS C cl L N sc X → (∀ x, X.fn x = true) → okSs C.s N m sc l = true → PSs X l (tSs C cl m)
  | .nil, sc, l, X, I, ht, h => by
    cases l with
    | nil => exact ss_nil
    | cons _ _ => unfold okSs at h; cases h
  | .cons m r, sc, l, X, I, ht, h => by
    cases l with
    | nil => exact absurd (show false = true from h) (by decide)
    | cons x l =>
      have h : (okS C.s N m sc x && okSs C.s N r sc l) = true := h
      have h := Bool.and_eq_true_iff.mp h
      exact ss_cons (sns m I ht h.1) (snss r I ht h.2)
end
end
end MP
/-! MP13: the defs keep what the mini semantics says of them. -/
namespace MP
open PySem PySem.Spec L2
open PyProof.Rows hiding St
/-- a def as it stands, checked -/
structure DefOk (C : Cfg) (k : Nat) (D : MDef) (fd : FuncData) (ps : List Str) : Prop where
  ex : ∃ (x qual : Str) (params : Arguments) (body : List Stmt) (scope : Scope), FunD C.K x qual params body scope [] [] (C.fa k) fd ∧ FnScope D.N ps scope ∧ okSs C.s D.N D.body scope body = true
  len : ps.length = D.np
  bind : Binds C.K fd ps []
  kb : ∀ n ks, (k, n, ks) ∈ C.kw → KBn C.K fd ps n (ks.map fun i => D.N.getD i Str.empty) (kwP Value.none ks) (kwP V.non ks)
section
variable {C : Cfg} {φ φ' : List Addr} {F F' : FZ} {H H' : Hp} {S S' : HS}
theorem start_rep {D : MDef} {args : List AV} {vs : List V} (r : RepL C φ F H args vs) : RepS C φ F H (startA D args) (L2.start D.N vs) := by
  have hl := r.length
  unfold startA L2.start
  rw [hl]
  refine ⟨by simp [hl], fun i v e => ?_⟩
  have hi : i < args.length := by
    by_cases hi : i < args.length
    · exact hi
    · rw [List.getElem?_append_right (by simpa using hi), List.getElem?_replicate] at e
      split at e <;> cases e
  rw [List.getElem?_append_left (by simpa using hi), List.getElem?_map] at e
  cases ea : args[i]? with
  | none => rw [ea] at e; cases e
  | some a =>
    rw [ea] at e
    cases e
    obtain ⟨u, h1, h2⟩ := r.get ea
    exact ⟨u, by rw [List.getElem?_append_left (by simp; omega), List.getElem?_map, h1]; rfl, h2⟩
theorem ret_nx {Qa : AV → HS → Prop} {Q : VK} (R : HR C φ F S H) (n : NxV C φ F H Qa Q) {z : Nat} {v : AV} {u : V} (l : Le φ φ') (x : Ext F H F' H') (R' : HR C φ' F' S' H') (r : Rep C φ' F' H' v u) (q : retF z S Qa v S') : Q u H' := by
  cases z with
  | zero => exact n v S' φ' F' H' u l x R' r q
  | succ z =>
    obtain ⟨tk, nr, q⟩ := q
    obtain ⟨R2, r2⟩ := ret_ok R l R' r tk nr
    exact n _ _ φ _ H' u Le.rfl' (x.trans FrzF.ext) R2 r2 q
end
section
variable {C : Cfg} {P : Program} {w : World} {mg : Str → Option Value} {base : Heap} {fd : Nat → FuncData} {ps : Nat → List Str}
theorem level (lk : Lk C mg) (hd : ∀ k D, C.P.defs[k]? = some D → DefOk C k D (fd k) (ps k)) : ∀ (d k : Nat) (D : MDef), C.P.defs[k]? = some D → FnOk P w C.K mg base CX0 (5 * d + 1) (C.fa k) (fd k) (ps k) (spC C (wcall C.P d) k)
  | 0, k, D, e => ⟨fun vs H Q E ⟨φ, F, S, args, Qa, R, rr, w, n⟩ => False.elim w, fun A outer s H args us vs Q E hr he hb hv ⟨φ, F, S, args', Qa, R, rr, w, n⟩ => False.elim w⟩
  | d + 1, k, D, e => by
    have ih := level lk hd d
    obtain ⟨⟨x, qual, params, body, scope, hF, hS, hok⟩, hlen, hb, hk⟩ := hd k D e
    have key : ∀ {args : List AV} {S : HS} {Qa : AV → HS → Prop}, wcall C.P (d + 1) k args S Qa → args.length = D.np ∧ wSs C.P (wcall C.P d) D.body { nx := fun _ S1 => retF D.z S Qa .non S1, rt := retF D.z S Qa } (startA D args) S := fun w => by
      unfold wcall at w
      rw [e] at w
      exact w
    show FnOk P w C.K mg base CX0 (5 * d + 5 + 1) _ _ _ _
    refine hF.ok hS (fun vs H Q E ⟨φ, F, S, args, Qa, R, rr, w, n⟩ => ?_) fun cdv A outer s H vs Q E hr ⟨φ, F, S, args, Qa, R, rr, w, n⟩ => ?_
    · rw [← rr.length, hlen]
      exact (key w).1
    · obtain ⟨_, w⟩ := key w
      refine ⟨tSs C (wcall C.P d) D.body, PSs.nox (snss (L := 5 * d + 1) (N := D.N) (sc := scope) D.body ?_ (fun _ => rfl) hok), φ, F, S, startA D args, _, R, start_rep rr, w, ?_⟩
      · refine ⟨⟨rfl, hS.nd, rfl, hr, PassesOwn.never, lk, wcall_mono d, fun k vs S Q w => wcall_len w, fun k' D' e' => ?_⟩, rfl, rfl, hS.kind⟩
        have h' := hd k' D' e'
        exact ⟨fd k', ps k', h'.len, ih k' D' e', h'.bind, h'.kb⟩
      · exact ⟨fun σa S' φ' F' H' σ l x R' _ q => ret_nx R n l x R' .non q, fun v S' φ' F' H' u l x R' r q => ret_nx R n l x R' r q, fun σa S' φ' F' H' σ l x R' _ q => q.elim, fun σa S' φ' F' H' σ l x R' _ q => q.elim⟩
/-- the law's promise -/
def spLaw (K : PySem.W.Frag) (m : Nat) : Sp := fun vs H Q _ => ∃ (a : Addr) (ns : List Int), vs = [.ref a] ∧ ns.length ≤ m ∧ Only H ∧ SqL K H a (ns.map V.int) ∧ ∀ H', Q (.bl true) H'
theorem law_fn (lk : Lk C mg) (hd : ∀ k D, C.P.defs[k]? = some D → DefOk C k D (fd k) (ps k)) {d k m : Nat} {D : MDef} (e : C.P.defs[k]? = some D) (h : ∀ ns : List Int, ns.length ≤ m → wcall C.P d k [.slst ns] [] fun v _ => v = .bl true) :
    FnOk P w C.K mg base CX0 (5 * d + 1) (C.fa k) (fd k) (ps k) (spLaw C.K m) :=
  (level lk hd d k D e).imp fun vs H Q E ⟨a, ns, hv, hl, hO, hS, hQ⟩ => by
    subst hv
    have fin : ∀ (F : FZ), HR C [] F [] H → Rep C [] F H (.slst ns) (.ref a) → spC C (wcall C.P d) k [.ref a] H Q E := fun F R r =>
      ⟨[], F, [], [.slst ns], _, R, .cons r .nil, h ns hl, fun v S' φ' F' H' u l x R' r' q => by
        subst q
        cases r'
        exact hQ H'⟩
    rcases hS with (hS | ⟨o, hS⟩) | hS
    · rcases hO a with z | ⟨o, xs, z⟩ <;> (rw [hS] at z; cases z)
    · refine fin ⟨fun p => p = a, fun _ => False⟩ ⟨rfl, List.nodup_nil, fun n o p e _ => by simp at e, fun p hp => ?_, fun p hp => hp.elim⟩ (.slst rfl hS)
      have hp : p = a := hp
      subst hp
      rw [hS]
      simp
    · exact fin ⟨fun p => False, fun _ => False⟩ ⟨rfl, List.nodup_nil, fun n o p e _ => by simp at e, fun p hp => hp.elim, fun p hp => hp.elim⟩ (.slstK fun H' => .inr hS)
end
end MP
set_option maxHeartbeats 4000000
/-! MP14: the head: what the written part says, as one truth value. -/
namespace MP
open PySem PySem.Spec L2
open PyProof.Rows hiding St
/-- where a def stands: a global's name; a class's method; a property's getter -/
inductive At where
  | glo (x : Str) | meth (c m : Str) | prop (c m : Str)
def At.ad (K : PySem.W.Frag) : At → Addr
  | .glo x => He.ga K x
  | .meth c m => He.ma K (He.ga K c) m
  | .prop c m => match PySem.W.recIn K (He.ma K (He.ga K c) m) "property" with
    | some (.ref g :: _) => g
    | _ => 0
/-- a program's static side, with where its defs stand -/
structure Row where
  s : Stat
  at_ : List At
def Row.C (r : Row) (K : PySem.W.Frag) : Cfg := ⟨r.s, K, fun k => (r.at_.getD k (.glo Str.empty)).ad K, fun c => He.ga K (r.s.P.cl? c).nm⟩
/-- a def as the row writes it -/
structure DefM where
  at_ : At
  name : Str
  qual : Str
  params : Arguments
  body : List Stmt
  scope : PySem.Scope
def DefM.val (d : DefM) : He.FnW := some (d.name, d.qual, d.params, .stmts d.body, d.scope, mainGlobals, [], builtinsNs)
def DefM.fnW (K : PySem.W.Frag) (d : DefM) : He.FnW := match K.lookup (d.at_.ad K) with
  | some ⟨_, _, .func fd, _⟩ => some (fd.name, fd.qualname, fd.params, fd.body, fd.scope, fd.globals, fd.closure, fd.builtins)
  | _ => none
def DefM.ok (K : PySem.W.Frag) (d : DefM) : Bool := PySem.W.keepIn K (.ref (d.at_.ad K)) && (match K.lookup (d.at_.ad K) with
  | some ⟨_, _, .func fd, _⟩ => PySem.W.codeIn K fd.code d.qual && He.dflB K fd.defaults []
  | _ => false)
theorem DefM.funD {K : PySem.W.Frag} {d : DefM} (e : d.fnW K = d.val) (c : d.ok K = true) : ∃ fd, FunD K d.name d.qual d.params d.body d.scope [] [] (d.at_.ad K) fd := by
  obtain ⟨kp, c2⟩ := He.ba c
  unfold DefM.fnW at e
  cases q : K.lookup (d.at_.ad K) with
  | none =>
    rw [q] at c2
    cases c2
  | some o =>
    obtain ⟨oc, od, dt, osl⟩ := o
    rw [q] at c2 e
    cases dt with
    | func fd =>
      obtain ⟨n1, n2, n3, n4, n5, n6, n7, n8, n9, n10, n11, n12, n13, n14, n15⟩ := fd
      have e2 : (some (n1, n2, n3, n4, n5, n6, n7, n15) : He.FnW) = some (d.name, d.qual, d.params, .stmts d.body, d.scope, mainGlobals, [], builtinsNs) := e
      simp only [Option.some.injEq, Prod.mk.injEq] at e2
      obtain ⟨h1, h2, h3, h4, h5, h6, h7, h8⟩ := e2
      subst h1 h2 h3 h4 h5 h6 h7 h8
      obtain ⟨k1, k2⟩ := He.ba (show (PySem.W.codeIn K n13 d.qual && He.dflB K n8 []) = true from c2)
      exact ⟨_, ⟨oc, od, n8, n9, n10, n11, n12, n13, n14, osl, rfl, q, k1, He.dflB_ok k2, .inl rfl⟩, kp⟩
    | _ => cases c2
abbrev oN : Value := .builtin "object.__class__"
/-- a class's facts -/
def clsFB (r : Row) (K : PySem.W.Frag) (c : Nat) (D : MCls) : Bool :=
  let a := (r.C K).ca c
  let nm := (r.C K).nm
  (He.Fa.cls D.nm).ok K && He.eqO (PySem.W.nsIn K mainGlobals D.nm) (some (some (.ref a))) && decide (a = He.ga K D.nm) &&
  D.flds.all (fun f => decide (f < r.s.P.names.length) && He.eqO (PySem.W.findIn K (.ref a) (nm f)) (some none)) &&
  (match D.init with
    | some k => (He.Fa.mkr D.nm).ok K && decide (He.ma K a "__init__" = (r.C K).fa k)
    | none => true) &&
  D.meths.all (fun p => decide (p.1 < r.s.P.names.length) && decide (p.1 ∉ D.flds) && (He.Fa.meth D.nm (nm p.1)).ok K && decide (He.ma K a (nm p.1) = (r.C K).fa p.2)) &&
  D.props.all (fun p => He.eqO (PySem.W.findIn K (.ref a) (nm p.1)) (some (some (.ref (He.ma K a (nm p.1))))) && He.eqO (PySem.W.specialIn K (.ref (He.ma K a (nm p.1))) "__get__") (some (some (.builtin "property.__get__"))) &&
    decide (PySem.W.takesIn K (.ref (He.ma K a (nm p.1))) = some true) && (match PySem.W.recIn K (He.ma K a (nm p.1)) "property" with
      | some (.ref g :: _) => decide (g = (r.C K).fa p.2)
      | _ => false)) &&
  (match D.eq with
    | some k => He.eqO (PySem.W.findIn K (.ref a) "__eq__") (some (some (.ref ((r.C K).fa k)))) && PySem.W.isFn K (.ref ((r.C K).fa k)) && He.eqO (PySem.W.findIn K (.ref a) "__ne__") (some (some (.builtin "object.__ne__")))
    | none => true) &&
  He.eqO (PySem.W.findIn K (.ref a) "__class__") (some (some oN)) && decide (PySem.W.mroIn K a (.type "object") = some true) &&
  TYS.all (fun t => decide (PySem.W.kitOne K (.type t) (.ref a) = some false) && decide (PySem.W.kitOne K (.ref a) (.type t) = some false) && decide (PySem.W.subIn K (.type t) (.ref a) = some false)) &&
  (List.range r.s.P.classes.length).all (fun c' => decide (PySem.W.kitOne K (.ref a) (.ref ((r.C K).ca c')) = some (D.sup.contains c')) && PySem.W.notFirst K a (.ref ((r.C K).ca c')))
def constB (K : PySem.W.Frag) (x : Str) (c : Const) : Bool := match PySem.W.nsIn K mainGlobals x with
  | some (some u) => (match c with
    | .int i => He.relB (.int i) u
    | .str y => He.relB (.str y) u
    | .bool b => He.relB (.bl b) u
    | .none => He.relB .non u
    | _ => false)
  | _ => false
def rowB (r : Row) (K : PySem.W.Frag) : Bool :=
  decide r.s.P.names.Nodup &&
  (List.range r.s.P.classes.length).all (fun c => clsFB r K c (r.s.P.cl? c)) &&
  He.eqO (PySem.W.specialIn K oN "__get__") (some (some (.builtin "getset_descriptor.__get__"))) && decide (PySem.W.takesIn K oN = some true) &&
  (List.range r.s.P.defs.length).all (fun k => PySem.W.keepIn K (.ref ((r.C K).fa k))) &&
  r.s.gd.all (fun p => He.eqO (PySem.W.nsIn K mainGlobals p.1) (some (some (.ref ((r.C K).fa p.2))))) &&
  r.s.gc.all (fun p => constB K p.1 p.2) &&
  r.s.fr.all (fun x => He.eqO (PySem.W.nsIn K mainGlobals x) (some none))
section
variable {r : Row} {K : PySem.W.Frag} {h : Heap} {mg : Str → Option Value}
theorem mem_lookup {α β : Type} [BEq α] [LawfulBEq α] {x : α} {y : β} : ∀ {l : List (α × β)}, l.lookup x = some y → (x, y) ∈ l
  | [], h => by simp at h
  | (a, b) :: l, h => by
    rw [List.lookup_cons] at h
    cases e : x == a with
    | true =>
      rw [e] at h
      cases h
      rw [eq_of_beq e]
      exact List.mem_cons_self
    | false =>
      rw [e] at h
      exact List.mem_cons_of_mem _ (mem_lookup h)
theorem clsFB_ok (X : K.In h) (G : h.Ns mainGlobals mg) {c : Nat} {D : MCls} (hD : (r.C K).P.classes[c]? = some D) (b : clsFB r K c D = true) : ClsOk (r.C K) mg c D := by
  unfold clsFB at b
  simp only [Bool.and_eq_true, decide_eq_true_eq, List.all_eq_true] at b
  obtain ⟨⟨⟨⟨⟨⟨⟨⟨⟨⟨⟨b1, b2⟩, b3⟩, b4⟩, b5⟩, b6⟩, b7⟩, b8⟩, b9⟩, b10⟩, b11⟩, b12⟩ := b
  refine ⟨by rw [b3]; exact He.cls_ok b1, PySem.W.mg_of X G (He.eqO_ok b2), fun f hf => ⟨(b4 f hf).1, He.eqO_ok (b4 f hf).2⟩, fun k hk => ?_, fun m k hk => ?_, fun f k hk => ?_, fun k hk => ?_, He.eqO_ok b9, b10, fun t ht => ?_, fun c' D' e => ?_⟩
  · rw [hk] at b5
    simp only [Bool.and_eq_true, decide_eq_true_eq] at b5
    have q := He.mkr_ok b5.1
    rw [← b3, b5.2] at q
    exact q
  · obtain ⟨⟨⟨h1, h2⟩, h3⟩, h4⟩ := b6 (m, k) (mem_lookup hk)
    have q := He.meth_ok h3
    rw [← b3, h4] at q
    exact ⟨h1, h2, q⟩
  · obtain ⟨⟨⟨h1, h2⟩, h3⟩, h4⟩ := b7 (f, k) (mem_lookup hk)
    refine ⟨_, He.eqO_ok h1, He.eqO_ok h2, h3, ?_⟩
    split at h4
    · rename_i g rest e
      have e2 : g = (r.C K).fa k := by simpa using h4
      subst e2
      exact ⟨rest, e⟩
    · cases h4
  · rw [hk] at b8
    simp only [Bool.and_eq_true] at b8
    exact ⟨He.eqO_ok b8.1.1, b8.1.2, He.eqO_ok b8.2⟩
  · obtain ⟨⟨h1, h2⟩, h3⟩ := b11 t ht
    exact ⟨h1, h2, h3⟩
  · have hl : c' < r.s.P.classes.length := (List.getElem?_eq_some_iff.mp e).1
    obtain ⟨h1, h2⟩ := b12 c' (List.mem_range.mpr hl)
    exact ⟨h1, h2⟩
theorem rowB_ok (X : K.In h) (G : h.Ns mainGlobals mg) (b : rowB r K = true) : Lk (r.C K) mg := by
  unfold rowB at b
  simp only [Bool.and_eq_true, decide_eq_true_eq, List.all_eq_true] at b
  obtain ⟨⟨⟨⟨⟨⟨⟨b1, b2⟩, b3⟩, b4⟩, b5⟩, b6⟩, b7⟩, b8⟩ := b
  refine ⟨b1, fun c D e => ?_, He.eqO_ok b3, b4, fun x k e => PySem.W.mg_of X G (He.eqO_ok (b6 (x, k) (mem_lookup e))), fun x c e => ?_, fun x hx => PySem.W.mg_none_of X G (He.eqO_ok (b8 x hx)), fun k D e => b5 k (List.mem_range.mpr (List.getElem?_eq_some_iff.mp e).1)⟩
  · have hl : c < r.s.P.classes.length := (List.getElem?_eq_some_iff.mp e).1
    have q := b2 c (List.mem_range.mpr hl)
    have e2 : r.s.P.cl? c = D := cl_at (C := r.C K) e
    rw [e2] at q
    exact clsFB_ok X G e q
  · have q := b7 (x, c) (mem_lookup e)
    unfold constB at q
    split at q
    · rename_i u hu
      refine ⟨u, PySem.W.mg_of X G hu, ?_⟩
      cases c with
      | none => exact He.relB_ok q
      | bool b => exact He.relB_ok q
      | int b => exact He.relB_ok q
      | str b => exact He.relB_ok q
      | _ => cases q
    · cases q
end
/-! ### the hook -/
def valM (fn : List DefM) : He.AlD := (true, fn.map DefM.val)
def obsM (r : Row) (fn : List DefM) (K : PySem.W.Frag) : He.AlD := (rowB r K && fn.all (fun d => d.ok K), fn.map fun d => d.fnW K)
def obsMG (n : Nat) (r : Row) (fn : List DefM) (g : Addr → Option Obj) : He.AlD := obsM r fn (He.frG g (He.asD g n))
def SaysM (r : Row) (fn : List DefM) (K : PySem.W.Frag) : Prop := obsM r fn K = valM fn
def hookM (n : Nat) (r : Row) (fn : List DefM) : PySem.W.Hook where
  α := He.AlD
  obs := fun s => obsMG n r fn s.heap.get?
  val := fun _ => valM fn
  says := fun _ h => ∃ K : PySem.W.Frag, K.In h ∧ SaysM r fn K
  of := fun _ _ e => ⟨_, He.frG_in, e⟩
  keeps := fun _ _ _ ⟨K, hK, c⟩ k => ⟨K, PySem.W.Frag.In.keeps hK k, c⟩
theorem obsMG_eq {n : Nat} {r : Row} {fn : List DefM} {g : Addr → Option Obj} {s : Shared} (h : ∀ a, g a = s.heap.get? a) : obsMG n r fn g = (hookM n r fn).obs s := by
  have e : g = s.heap.get? := funext h
  rw [e] <;> rfl
theorem SaysM.row {r : Row} {fn : List DefM} {K : PySem.W.Frag} (c : SaysM r fn K) : rowB r K = true :=
  (He.ba (show (rowB r K && fn.all fun d => d.ok K) = true from congrArg (fun z : He.AlD => z.1) c)).1
theorem SaysM.def_ {r : Row} {fn : List DefM} {K : PySem.W.Frag} (c : SaysM r fn K) (i : Nat) {d : DefM} (h : fn[i]? = some d) : ∃ fd, FunD K d.name d.qual d.params d.body d.scope [] [] (d.at_.ad K) fd := by
  have c2 := (He.ba (show (rowB r K && fn.all fun d => d.ok K) = true from congrArg (fun z : He.AlD => z.1) c)).2
  have e : fn.map (fun d => d.fnW K) = fn.map DefM.val := congrArg (fun z : He.AlD => z.2) c
  have e2 : (fn.map fun d => d.fnW K)[i]? = (fn.map DefM.val)[i]? := by rw [e]
  rw [List.getElem?_map, List.getElem?_map, h] at e2
  exact DefM.funD (Option.some.inj e2) (List.all_eq_true.mp c2 d (List.mem_of_getElem? h))
/-! ### the whole row -/
def rowOf (s : Stat) (fn : List DefM) : Row := ⟨s, fn.map (·.at_)⟩
/-- the static check of one def -/
def defB (s : Stat) (D : MDef) (d : DefM) : Bool := C8.scC D.N (D.N.take D.np) d.scope && decide (D.np ≤ D.N.length) && okSs s D.N D.body d.scope d.body
/-- how a def binds, by its parameters -/
def BindP (d : DefM) (ps : List Str) : Prop := ∀ (kV doc pm : Value) (an : Option Addr) (cdv ct : Value) (us : List Value), us.length = ps.length → bindArgs (PySem.W.fnOf d.name d.qual d.params d.body d.scope .none kV doc pm an cdv ct) ⟨us, []⟩ = pure (ps.zip us)
def BindK (d : DefM) (ps : List Str) (n : Nat) (ns : List Str) (ks : List Nat) : Prop := ∀ (kV doc pm : Value) (an : Option Addr) (cdv ct : Value) (us ws : List Value), us.length = n → ws.length = ns.length → bindArgs (PySem.W.fnOf d.name d.qual d.params d.body d.scope .none kV doc pm an cdv ct) ⟨us, ns.zip ws⟩ = pure (ps.zip (kwP Value.none ks us ws))
theorem kbn_of {K : PySem.W.Frag} {d : DefM} {f : Addr} {fd : FuncData} {ps : List Str} {n : Nat} {ns : List Str} {ks : List Nat} (F : FunD K d.name d.qual d.params d.body d.scope [] [] f fd) (h : BindK d ps n ns ks) : KBn K fd ps n ns (kwP Value.none ks) (kwP V.non ks) := by
  obtain ⟨oc, od, dV, kV, doc, pm, an, cdv, ct, osl, rfl, lk, hcd, hD, hK⟩ := F.ex
  rcases hD with ⟨_, rfl⟩ | ⟨e, _⟩
  · exact ⟨fun s us ws _ l1 l2 => BindsTo.of_eq (h kV doc pm an cdv ct us ws l1 l2), fun r1 r2 => kw_rel r1 r2⟩
  · exact absurd rfl e
/-- all defs of a row keep what the mini semantics says -/
theorem row_fn {s : Stat} {fn : List DefM} {K : PySem.W.Frag} {h : Heap} {mg : Str → Option Value} {P : Program} {w : World} {d m kl : Nat} (X : K.In h) (G : h.Ns mainGlobals mg) (c : SaysM (rowOf s fn) fn K)
    (hl : fn.length = s.P.defs.length) (hc : ∀ (k : Nat) (D : MDef) (dd : DefM), s.P.defs[k]? = some D → fn[k]? = some dd → defB s D dd = true)
    (hb : ∀ (k : Nat) (D : MDef) (dd : DefM), s.P.defs[k]? = some D → fn[k]? = some dd → BindP dd (D.N.take D.np))
    (hk : ∀ (k : Nat) (D : MDef) (dd : DefM) (n : Nat) (ks : List Nat), (k, n, ks) ∈ s.kw → s.P.defs[k]? = some D → fn[k]? = some dd → BindK dd (D.N.take D.np) n (ks.map fun i => D.N.getD i Str.empty) ks)
    {D : MDef} {dd : DefM} (e : s.P.defs[kl]? = some D) (ed : fn[kl]? = some dd) {x : Str} (hx : D.N.take D.np = [x]) (law : ∀ ns : List Int, ns.length ≤ m → wcall s.P d kl [.slst ns] [] fun v _ => v = .bl true) :
    ∃ fd : FuncData, (∀ (s : Shared) (v : Value), BindsTo s fd ⟨[v], []⟩ [(x, v)]) ∧ ∀ base : Heap, K.In base → base.Ns mainGlobals mg → FnOk P w K mg base CX0 (5 * d + 1) (dd.at_.ad K) fd [x] (spLaw K m) := by
  have lk := rowB_ok X G c.row
  have hat : ∀ (k : Nat) (dd : DefM), fn[k]? = some dd → ((rowOf s fn).C K).fa k = dd.at_.ad K := fun k dd e => by
    show ((fn.map DefM.at_).getD k (At.glo Str.empty)).ad K = _
    rw [List.getD_eq_getElem?_getD, List.getElem?_map, e]
    rfl
  have all : ∀ k : Nat, ∃ fd : FuncData, (∀ dd : DefM, fn[k]? = some dd → s.P.defs[k]? ≠ none → FunD K dd.name dd.qual dd.params dd.body dd.scope [] [] (dd.at_.ad K) fd) ∧ ∀ D, s.P.defs[k]? = some D → DefOk ((rowOf s fn).C K) k D fd (D.N.take D.np) := fun k => by
    cases eD : s.P.defs[k]? with
    | none => exact ⟨default, fun _ _ z => absurd rfl z, fun D e => by cases e⟩
    | some D =>
      have hlt : k < fn.length := by rw [hl]; exact (List.getElem?_eq_some_iff.mp eD).1
      have ed : fn[k]? = some fn[k] := List.getElem?_eq_getElem hlt
      obtain ⟨fd, F⟩ := c.def_ k ed
      refine ⟨fd, fun dd e _ => ?_, fun D' e => ?_⟩
      · rw [ed] at e; cases e; exact F
      cases e
      have q := hc k D _ eD ed
      unfold defB at q
      simp only [Bool.and_eq_true, decide_eq_true_eq] at q
      obtain ⟨⟨q1, q2⟩, q3⟩ := q
      refine ⟨⟨_, _, _, _, _, by rw [hat k _ ed]; exact F, C8.fnScope_by q1, q3⟩, by rw [List.length_take]; omega, F.bindsN (hb k D _ eD ed), fun n ks hq => kbn_of F (hk k D _ n ks hq eD ed)⟩
  obtain ⟨fdK, hfd⟩ := Classical.axiomOfChoice all
  refine ⟨fdK kl, fun s' v => ?_, fun base hKb hGb => ?_⟩
  · have F := (hfd kl).1 dd ed (by rw [e]; simp)
    have q := F.bindsA (hb kl D dd e ed) s' [v] (by rw [hx]; rfl)
    rw [hx] at q
    exact q
  · have q := law_fn (P := P) (w := w) (base := base) (C := (rowOf s fn).C K) (fd := fdK) (ps := fun k => ((s.P.defs.getD k ⟨Str.empty, Str.empty, [], 0, 0, .nil⟩).N.take (s.P.defs.getD k ⟨Str.empty, Str.empty, [], 0, 0, .nil⟩).np)) (m := m) lk (fun k D e => ?_) (d := d) e law
    · have eq : (s.P.defs.getD kl ⟨Str.empty, Str.empty, [], 0, 0, .nil⟩) = D := by rw [List.getD_eq_getElem?_getD, e]; rfl
      rw [eq, hx, hat kl dd ed] at q
      exact q
    · have eq : (s.P.defs.getD k ⟨Str.empty, Str.empty, [], 0, 0, .nil⟩) = D := by
        have e : s.P.defs[k]? = some D := e
        rw [List.getD_eq_getElem?_getD, e]; rfl
      rw [eq]
      exact (hfd k).2 D e
end MP
set_option maxHeartbeats 40000000
namespace K17
open PySem PySem.Spec L2 MP
open PyProof.Rows hiding St
/-- 0: law -/
def d_law : MDef := ⟨"law", "law", ["_law_script", "_law_pen_here", "_law_turn", "_law_told", "_law_five", "_law_seven"], 1, 1,
  (.cons (.asg (.nm 1) (.call 6 (.cons (.var 0) .nil))) (.cons (.for_ (.nm 2) (.range1 (.c (.int 12))) (.cons (.iff (.un .Not (.call 5 (.cons (.var 1) .nil))) (.cons (.ret (.c (.bl false))) .nil) .nil) .nil)) (.cons (.asg (.nm 3) (.lst true (.cons (.att (.new 0 (.cons (.tup (.cons (.c (.int 4)) .nil)) (.cons (.lst true (.cons (.c (.int 1)) (.cons (.c (.int 2)) (.cons (.c (.int 1)) (.cons (.c (.int 2)) .nil))))) (.cons (.lst true (.cons (.c (.int 1)) (.cons (.c (.int 2)) .nil))) .nil)))) 1) (.cons (.att (.new 0 (.cons (.tup (.cons (.c (.int 4)) .nil)) (.cons (.lst true (.cons (.c (.int 1)) (.cons (.c (.int 2)) .nil))) (.cons (.tup (.cons (.c (.int 0)) (.cons (.c (.int 0)) (.cons (.c (.int 0)) .nil)))) .nil)))) 2) (.cons (.att (.new 0 (.cons (.tup (.cons (.c (.int 2)) (.cons (.c (.int 2)) .nil))) (.cons (.tup .nil) (.cons (.tup (.cons (.c (.int 0)) .nil)) .nil)))) 4) (.cons (.att (.new 0 (.cons (.tup (.cons (.c (.int 2)) .nil)) (.cons (.tup (.cons (.c (.int 1)) .nil)) (.cons (.tup (.cons (.c (.int 0)) (.cons (.c (.int 1)) .nil))) .nil)))) 2) .nil)))))) (.cons (.par2 4 5 (.lst true (.cons (.c (.int 1)) (.cons (.c (.int 0)) (.cons (.c (.int 0)) (.cons (.c (.int 1)) (.cons (.c (.int 1)) .nil)))))) (.lst true (.cons (.c (.int 1)) (.cons (.c (.int 0)) (.cons (.c (.int 0)) (.cons (.c (.int 0)) (.cons (.c (.int 1)) (.cons (.c (.int 1)) (.cons (.c (.int 0)) .nil))))))))) (.cons (.iff (.bop .Or (.cmp .NotEq (.att (.new 0 (.cons (.tup (.cons (.c (.int 2)) .nil)) (.cons (.tup .nil) (.cons (.bin .Mult (.var 4) (.c (.int 2))) .nil)))) 2) (.bi .tuple (.cons (.var 4) .nil))) (.bop .Or (.cmp .NotEq (.new 0 (.cons (.tup (.cons (.c (.int 2)) .nil)) (.cons (.tup .nil) (.cons (.bin .Mult (.var 5) (.c (.int 2))) .nil)))) (.new 0 (.cons (.tup (.cons (.c (.int 2)) .nil)) (.cons (.tup .nil) (.cons (.var 5) .nil))))) (.cmp .NotEq (.att (.new 0 (.cons (.tup (.cons (.c (.int 2)) .nil)) (.cons (.tup .nil) (.cons (.bin .Mult (.var 4) (.c (.int 4))) .nil)))) 3) (.c (.int 5))))) (.cons (.ret (.c (.bl false))) .nil) .nil) (.cons (.ret (.bop .And (.cmp .Eq (.var 3) (.lst true (.cons (.tup .nil) (.cons (.tup (.cons (.c (.int 0)) .nil)) (.cons (.c (.bl true)) (.cons (.tup (.cons (.c (.int 1)) (.cons (.c (.int 0)) .nil))) .nil)))))) (.cmp .NotEq (.new 0 (.cons (.tup (.cons (.c (.int 4)) .nil)) (.cons (.tup .nil) (.cons (.tup (.cons (.c (.int 1)) .nil)) .nil)))) (.new 0 (.cons (.tup (.cons (.c (.int 2)) (.cons (.c (.int 2)) .nil))) (.cons (.tup .nil) (.cons (.tup (.cons (.c (.int 1)) .nil)) .nil))))))) .nil))))))⟩
/-- 1: Rule.__init__ -/
def d_Rule_init : MDef := ⟨"__init__", "Rule.__init__", ["self", "moduli", "ahead", "turn"], 4, 1,
  (.cons (.iff (.un .Not (.call 10 (.cons (.var 1) .nil))) (.cons .never .nil) .nil) (.cons (.iff (.un .Not (.call 8 (.cons (.var 2) (.cons (.call 9 (.cons (.var 1) .nil)) .nil)))) (.cons .never .nil) .nil) (.cons (.iff (.bop .Or (.un .Not (.call 8 (.cons (.var 3) (.cons (.call 9 (.cons (.var 1) .nil)) .nil)))) (.cmp .Eq (.bi .len (.cons (.var 3) .nil)) (.c (.int 0)))) (.cons .never .nil) .nil) (.cons (.asg (.tup (.cons (.nm 2) (.cons (.nm 3) .nil))) (.call 7 (.cons (.var 2) (.cons (.var 3) .nil)))) (.cons (.iff (.cmp .Gt (.bin .Add (.bi .len (.cons (.var 2) .nil)) (.bi .len (.cons (.var 3) .nil))) (.glo "MOST_PLACES_rules" (.int 24))) (.cons .never .nil) .nil) (.cons (.asg (.att (.var 0) 0) (.bi .tuple (.cons (.var 1) .nil))) (.cons (.asg (.att (.var 0) 1) (.var 2)) (.cons (.asg (.att (.var 0) 2) (.var 3)) .nil))))))))⟩
/-- 2: Rule.__eq__ -/
def d_Rule_eq : MDef := ⟨"__eq__", "Rule.__eq__", ["self", "other"], 2, 1,
  (.cons (.iff (.bop .Or (.un .Not (.isi (.var 1) [.cls 0])) (.cmp .NotEq (.att (.var 0) 0) (.att (.var 1) 0))) (.cons (.ret (.c (.bl false))) .nil) .nil) (.cons (.ret (.bop .And (.cmp .Eq (.att (.var 0) 1) (.att (.var 1) 1)) (.cmp .Eq (.att (.var 0) 2) (.att (.var 1) 2)))) .nil))⟩
/-- 3: Rule.classes -/
def d_Rule_classes : MDef := ⟨"classes", "Rule.classes", ["self"], 1, 1,
  (.cons (.ret (.bi .len (.cons (.lst true (.star (.att (.var 0) 1) (.star (.att (.var 0) 2) .nil))) .nil))) .nil)⟩
/-- 4: Rule.is_cut -/
def d_Rule_is_cut : MDef := ⟨"is_cut", "Rule.is_cut", ["self"], 1, 1,
  (.cons (.ret (.cmp .Eq (.att (.var 0) 2) (.tup (.cons (.c (.int 0)) .nil)))) .nil)⟩
/-- 5: _law_turn_right -/
def d__law_turn_right : MDef := ⟨"_law_turn_right", "_law_turn_right", ["_law_pen_here", "_law_plain_here", "_law_other", "_law_moduli", "_law_ahead", "_law_turn", "_law_rule_so", "_law_due", "_law_banks", "_law_modulus", "_law_longer", "_law_changed"], 1, 1,
  (.cons (.par2 1 2 (.call 14 (.cons (.var 0) .nil)) (.call 14 (.cons (.var 0) .nil))) (.cons (.asg (.tup (.cons (.nm 3) (.cons (.nm 4) (.cons (.nm 5) .nil)))) (.var 1)) (.cons (.par2 6 7 (.new 0 (.cons (.var 3) (.cons (.bi .list (.cons (.var 4) .nil)) (.cons (.var 5) .nil)))) (.call 13 (.cons (.var 1) .nil))) (.cons (.iff (.bop .Or (.cmp .NotEq (.tup (.cons (.att (.var 6) 0) (.cons (.att (.var 6) 1) (.cons (.att (.var 6) 2) .nil)))) (.var 7)) (.cmp .NotEq (.newk 0 .nil [2, 1, 0] (.cons (.bi .list (.cons (.var 5) .nil)) (.cons (.var 4) (.cons (.bi .list (.cons (.var 3) .nil)) .nil)))) (.var 6))) (.cons (.ret (.c (.bl false))) .nil) .nil) (.cons (.asg (.nm 8) (.c (.int 1))) (.cons (.for_ (.nm 9) (.e (.var 3)) (.cons (.asg (.nm 8) (.bin .Mult (.var 8) (.var 9))) .nil)) (.cons (.iff (.bop .Or (.cmp .NotEq (.att (.var 6) 5) (.var 8)) (.bop .Or (.cmp .NotEq (.att (.var 6) 3) (.bin .Add (.bi .len (.cons (.sub (.var 7) (.c (.int 1))) .nil)) (.bi .len (.cons (.sub (.var 7) (.c (.int 2))) .nil)))) (.cmp .NotEq (.bi .repr (.cons (.att (.var 6) 4) .nil)) (.bi .repr (.cons (.cmp .Eq (.sub (.var 7) (.c (.int 2))) (.tup (.cons (.c (.int 0)) .nil))) .nil))))) (.cons (.ret (.c (.bl false))) .nil) .nil) (.cons (.iff (.bop .Or (.cmp .NotEq (.cmp .Eq (.var 6) (.new 0 (.cons (.sub (.var 2) (.c (.int 0))) (.cons (.sub (.var 2) (.c (.int 1))) (.cons (.sub (.var 2) (.c (.int 2))) .nil))))) (.call 11 (.cons (.var 1) (.cons (.var 2) .nil)))) (.cmp .Eq (.var 6) (.var 1))) (.cons (.ret (.c (.bl false))) .nil) .nil) (.cons (.asg (.nm 10) (.tup (.cons (.var 3) (.cons (.bin .Add (.var 4) (.slc (.var 5) .nil (.cons (.c (.int 1)) .nil))) (.cons (.bin .Add (.slc (.var 5) (.cons (.c (.int 1)) .nil) .nil) (.slc (.var 5) .nil (.cons (.c (.int 1)) .nil))) .nil))))) (.cons (.asg (.nm 11) (.tup (.cons (.var 3) (.cons (.bin .Add (.var 4) (.tup (.cons (.bin .Mod (.bin .Add (.sub (.var 5) (.c (.int 0))) (.c (.int 1))) (.var 8)) .nil))) (.cons (.bin .Add (.slc (.var 5) (.cons (.c (.int 1)) .nil) .nil) (.slc (.var 5) .nil (.cons (.c (.int 1)) .nil))) .nil))))) (.cons (.ret (.bop .And (.cmp .Eq (.new 0 (.cons (.sub (.var 10) (.c (.int 0))) (.cons (.sub (.var 10) (.c (.int 1))) (.cons (.sub (.var 10) (.c (.int 2))) .nil)))) (.var 6)) (.cmp .NotEq (.new 0 (.cons (.var 3) (.cons (.sub (.var 11) (.c (.int 1))) (.cons (.sub (.var 11) (.c (.int 2))) .nil)))) (.var 6)))) .nil)))))))))))⟩
/-- 6: _law_pen -/
def d__law_pen : MDef := ⟨"_law_pen", "_law_pen", ["_law_script"], 1, 0,
  (.cons (.ret (.lst false (.cons (.bi .list (.cons (.slc (.var 0) .nil (.cons (.c (.int 63)) .nil)) .nil)) (.cons (.c (.int 0)) (.cons (.c (.int 0)) .nil))))) .nil)⟩
/-- 7: normal_weights -/
def d_normal_weights : MDef := ⟨"normal_weights", "normal_weights", ["ahead", "turn"], 2, 1,
  (.cons (.asg (.nm 1) (.call 15 (.cons (.bi .tuple (.cons (.var 1) .nil)) .nil))) (.cons (.asg (.nm 0) (.bi .tuple (.cons (.var 0) .nil))) (.cons (.while_ (.bop .And (.cmp .Gt (.bi .len (.cons (.var 0) .nil)) (.c (.int 0))) (.cmp .Eq (.sub (.var 0) (.un .USub (.c (.int 1)))) (.sub (.var 1) (.un .USub (.c (.int 1)))))) (.cons (.asg (.nm 1) (.tup (.cons (.sub (.var 1) (.un .USub (.c (.int 1)))) (.star (.slc (.var 1) .nil (.cons (.un .USub (.c (.int 1))) .nil)) .nil)))) (.cons (.asg (.nm 0) (.slc (.var 0) .nil (.cons (.un .USub (.c (.int 1))) .nil))) .nil))) (.cons (.ret (.tup (.cons (.var 0) (.cons (.var 1) .nil)))) .nil))))⟩
/-- 8: are_banks -/
def d_are_banks : MDef := ⟨"are_banks", "are_banks", ["value", "banks", "bank"], 2, 1,
  (.cons (.ret (.bop .And (.isi (.var 0) [.ty "list", .ty "tuple"]) (.bi .all (.cons (.lc (.call 16 (.cons (.var 2) (.cons (.c (.int 0)) (.cons (.bin .Sub (.var 1) (.c (.int 1))) .nil)))) (.nm 2) (.e (.var 0)) .nil [2]) .nil)))) .nil)⟩
/-- 9: banks_of -/
def d_banks_of : MDef := ⟨"banks_of", "banks_of", ["moduli", "found", "modulus"], 1, 1,
  (.cons (.asg (.nm 1) (.c (.int 1))) (.cons (.for_ (.nm 2) (.e (.var 0)) (.cons (.asg (.nm 1) (.bin .Mult (.var 1) (.var 2))) .nil)) (.cons (.ret (.var 1)) .nil)))⟩
/-- 10: are_moduli -/
def d_are_moduli : MDef := ⟨"are_moduli", "are_moduli", ["value", "modulus"], 1, 1,
  (.cons (.iff (.bop .Or (.un .Not (.isi (.var 0) [.ty "list", .ty "tuple"])) (.un .Not (.chain .LtE .LtE (.c (.int 1)) (.bi .len (.cons (.var 0) .nil)) (.glo "MOST_MODULI" (.int 5))))) (.cons (.ret (.c (.bl false))) .nil) .nil) (.cons (.iff (.un .Not (.bi .all (.cons (.lc (.call 16 (.cons (.var 1) (.cons (.c (.int 2)) (.cons (.glo "MOST_BANKS" (.int 32)) .nil)))) (.nm 1) (.e (.var 0)) .nil [1]) .nil))) (.cons (.ret (.c (.bl false))) .nil) .nil) (.cons (.ret (.cmp .LtE (.call 9 (.cons (.var 0) .nil)) (.glo "MOST_BANKS" (.int 32)))) .nil)))⟩
/-- 11: _law_same -/
def d__law_same : MDef := ⟨"_law_same", "_law_same", ["_law_one", "_law_other", "_law_place"], 2, 1,
  (.cons (.ret (.bop .And (.cmp .Eq (.sub (.var 0) (.c (.int 0))) (.sub (.var 1) (.c (.int 0)))) (.cmp .Eq (.lc (.call 17 (.cons (.var 0) (.cons (.var 2) .nil))) (.nm 2) (.range1 (.c (.int 60))) .nil [2]) (.lc (.call 17 (.cons (.var 1) (.cons (.var 2) .nil))) (.nm 2) (.range1 (.c (.int 60))) .nil [2])))) .nil)⟩
/-- 12: Rule.banks -/
def d_Rule_banks : MDef := ⟨"banks", "Rule.banks", ["self", "found", "modulus"], 1, 1,
  (.cons (.asg (.nm 1) (.c (.int 1))) (.cons (.for_ (.nm 2) (.e (.att (.var 0) 0)) (.cons (.asg (.nm 1) (.bin .Mult (.var 1) (.var 2))) .nil)) (.cons (.ret (.var 1)) .nil)))⟩
/-- 13: _law_normal -/
def d__law_normal : MDef := ⟨"_law_normal", "_law_normal", ["_law_plain_here", "_law_moduli", "_law_ahead", "_law_turn", "_law_many"], 1, 1,
  (.cons (.asg (.tup (.cons (.nm 1) (.cons (.nm 2) (.cons (.nm 3) .nil)))) (.var 0)) (.cons (.for_ (.nm 4) (.range3 (.bi .len (.cons (.var 3) .nil)) (.c (.int 0)) (.un .USub (.c (.int 1)))) (.cons (.iff (.bop .And (.cmp .Eq (.bin .Mod (.bi .int (.cons (.bi .len (.cons (.var 3) .nil)) .nil)) (.var 4)) (.c (.int 0))) (.cmp .Eq (.var 3) (.bin .Mult (.slc (.var 3) .nil (.cons (.var 4) .nil)) (.bin .FloorDiv (.bi .len (.cons (.var 3) .nil)) (.var 4))))) (.cons (.asg (.nm 3) (.slc (.var 3) .nil (.cons (.var 4) .nil))) .nil) .nil) .nil)) (.cons (.while_ (.bop .And (.cmp .NotEq (.var 2) (.tup .nil)) (.cmp .Eq (.sub (.var 2) (.un .USub (.c (.int 1)))) (.sub (.var 3) (.un .USub (.c (.int 1)))))) (.cons (.par2 2 3 (.slc (.var 2) .nil (.cons (.un .USub (.c (.int 1))) .nil)) (.bin .Add (.slc (.var 3) (.cons (.un .USub (.c (.int 1))) .nil) .nil) (.slc (.var 3) .nil (.cons (.un .USub (.c (.int 1))) .nil)))) .nil)) (.cons (.ret (.tup (.cons (.var 1) (.cons (.var 2) (.cons (.var 3) .nil))))) .nil))))⟩
/-- 14: _law_plain -/
def d__law_plain : MDef := ⟨"_law_plain", "_law_plain", ["_law_pen_here", "_law_some", "_law_moduli", "_law_banks", "_law_modulus", "_law_ahead", "_law_turn", "_law_place"], 1, 1,
  (.cons (.asg (.nm 1) (.lst true (.cons (.tup (.cons (.c (.int 2)) .nil)) (.cons (.tup (.cons (.c (.int 3)) .nil)) (.cons (.tup (.cons (.c (.int 4)) .nil)) (.cons (.tup (.cons (.c (.int 2)) (.cons (.c (.int 2)) .nil))) (.cons (.tup (.cons (.c (.int 5)) .nil)) (.cons (.tup (.cons (.c (.int 2)) (.cons (.c (.int 3)) .nil))) (.cons (.tup (.cons (.c (.int 8)) .nil)) (.cons (.tup (.cons (.c (.int 2)) (.cons (.c (.int 2)) (.cons (.c (.int 2)) .nil)))) (.cons (.tup (.cons (.c (.int 3)) (.cons (.c (.int 2)) (.cons (.c (.int 2)) .nil)))) (.cons (.tup (.cons (.c (.int 32)) .nil)) (.cons (.tup (.cons (.c (.int 2)) (.cons (.c (.int 2)) (.cons (.c (.int 2)) (.cons (.c (.int 2)) (.cons (.c (.int 2)) .nil)))))) (.cons (.tup (.cons (.c (.int 4)) (.cons (.c (.int 2)) .nil))) .nil)))))))))))))) (.cons (.asg (.tup (.cons (.nm 2) (.cons (.nm 3) .nil))) (.tup (.cons (.call 19 (.cons (.var 0) (.cons (.var 1) .nil))) (.cons (.c (.int 1)) .nil)))) (.cons (.for_ (.nm 4) (.e (.var 2)) (.cons (.asg (.nm 3) (.bin .Mult (.var 3) (.var 4))) .nil)) (.cons (.setlc 5 (.call 18 (.cons (.var 0) (.cons (.var 3) .nil))) (.nm 7) (.range1 (.call 18 (.cons (.var 0) (.cons (.c (.int 5)) .nil)))) .nil [7]) (.cons (.setlc 6 (.call 18 (.cons (.var 0) (.cons (.var 3) .nil))) (.nm 7) (.range1 (.bin .Add (.c (.int 1)) (.call 18 (.cons (.var 0) (.cons (.c (.int 4)) .nil))))) .nil [7]) (.cons (.iff (.cmp .Eq (.call 18 (.cons (.var 0) (.cons (.c (.int 4)) .nil))) (.c (.int 0))) (.cons (.asg (.nm 6) (.bin .Mult (.var 6) (.c (.int 2)))) .nil) .nil) (.cons (.iff (.cmp .Eq (.call 18 (.cons (.var 0) (.cons (.c (.int 4)) .nil))) (.c (.int 0))) (.cons (.asg (.nm 5) (.bin .Add (.var 5) (.lst true (.cons (.sub (.var 6) (.un .USub (.c (.int 1)))) .nil)))) .nil) .nil) (.cons (.ret (.tup (.cons (.var 2) (.cons (.bi .tuple (.cons (.var 5) .nil)) (.cons (.bi .tuple (.cons (.var 6) .nil)) .nil))))) .nil))))))))⟩
/-- 15: shortest_turn -/
def d_shortest_turn : MDef := ⟨"shortest_turn", "shortest_turn", ["turn", "many"], 1, 1,
  (.cons (.for_ (.nm 1) (.range2 (.c (.int 1)) (.bi .len (.cons (.var 0) .nil))) (.cons (.iff (.bop .And (.cmp .Eq (.bin .Mod (.bi .int (.cons (.bi .len (.cons (.var 0) .nil)) .nil)) (.var 1)) (.c (.int 0))) (.cmp .Eq (.var 0) (.bin .Mult (.slc (.var 0) .nil (.cons (.var 1) .nil)) (.bin .FloorDiv (.bi .len (.cons (.var 0) .nil)) (.var 1))))) (.cons (.ret (.slc (.var 0) .nil (.cons (.var 1) .nil))) .nil) .nil) .nil)) (.cons (.ret (.var 0)) .nil))⟩
/-- 16: is_within -/
def d_is_within : MDef := ⟨"is_within", "is_within", ["value", "least", "most"], 3, 1,
  (.cons (.ret (.bop .And (.call 20 (.cons (.var 0) .nil)) (.chain .LtE .LtE (.var 1) (.var 0) (.var 2)))) .nil)⟩
/-- 17: _law_weight -/
def d__law_weight : MDef := ⟨"_law_weight", "_law_weight", ["_law_plain_here", "_law_place", "_law_moduli", "_law_ahead", "_law_turn"], 2, 1,
  (.cons (.asg (.tup (.cons (.nm 2) (.cons (.nm 3) (.cons (.nm 4) .nil)))) (.var 0)) (.cons (.ret (.ite (.cmp .Lt (.var 1) (.bi .len (.cons (.var 3) .nil))) (.sub (.var 3) (.var 1)) (.sub (.var 4) (.bin .Mod (.bi .int (.cons (.bin .Sub (.var 1) (.bi .len (.cons (.var 3) .nil))) .nil)) (.bi .len (.cons (.var 4) .nil)))))) .nil))⟩
/-- 18: _law_draw -/
def d__law_draw : MDef := ⟨"_law_draw", "_law_draw", ["_law_pen_here", "_law_many", "_law_digit", "_law_at", "_law_cell", "_law_great", "_law_mixed"], 2, 1,
  (.cons (.iff (.cmp .Gt (.sub (.var 0) (.c (.int 2))) (.c (.int 0))) (.cons (.asg (.nm 2) (.bin .Mod (.bi .int (.cons (.sub (.var 0) (.c (.int 2))) .nil)) (.var 1))) (.cons (.asg (.sub (.var 0) (.c (.int 2))) (.bin .FloorDiv (.bi .int (.cons (.sub (.var 0) (.c (.int 2))) .nil)) (.var 1))) (.cons (.ret (.var 2)) .nil))) .nil) (.cons (.asg (.nm 3) (.sub (.var 0) (.c (.int 1)))) (.cons (.asg (.sub (.var 0) (.c (.int 1))) (.bin .Add (.var 3) (.c (.int 1)))) (.cons (.asg (.nm 4) (.bin .Add (.bin .Mult (.c (.int 65519)) (.var 3)) (.c (.int 4403)))) (.cons (.iff (.cmp .NotEq (.sub (.var 0) (.c (.int 0))) (.lst true .nil)) (.cons (.asg (.nm 4) (.sub (.sub (.var 0) (.c (.int 0))) (.bin .Mod (.bi .int (.cons (.var 3) .nil)) (.bi .len (.cons (.sub (.var 0) (.c (.int 0))) .nil))))) .nil) .nil) (.cons (.iff (.bop .And (.cmp .Lt (.var 3) (.bi .len (.cons (.sub (.var 0) (.c (.int 0))) .nil))) (.cmp .GtE (.bi .abs (.cons (.var 4) .nil)) (.bin .Pow (.c (.int 10)) (.c (.int 18))))) (.cons (.asg (.nm 5) (.bin .Add (.bin .Mult (.c (.int 2)) (.bin .Sub (.bi .abs (.cons (.var 4) .nil)) (.bin .Pow (.c (.int 10)) (.c (.int 18))))) (.bi .int (.cons (.cmp .Lt (.var 4) (.c (.int 0))) .nil)))) (.cons (.asg (.sub (.var 0) (.c (.int 2))) (.bin .FloorDiv (.bi .int (.cons (.var 5) .nil)) (.var 1))) (.cons (.ret (.bin .Mod (.bi .int (.cons (.var 5) .nil)) (.var 1))) .nil))) .nil) (.cons (.asg (.nm 6) (.bin .Mod (.bi .int (.cons (.bin .Pow (.bin .Add (.bin .Add (.bin .Mod (.bi .int (.cons (.var 4) .nil)) (.c (.int 2147483563))) (.bin .Mult (.c (.int 77791)) (.var 3))) (.c (.int 4403))) (.c (.int 5))) .nil)) (.c (.int 2147483629)))) (.cons (.asg (.nm 6) (.bin .Mod (.bi .int (.cons (.bin .Pow (.bin .Add (.bin .Add (.bin .Mult (.var 6) (.bin .Add (.bin .Mult (.c (.int 2)) (.var 3)) (.c (.int 375)))) (.bin .Mult (.bin .Mult (.c (.int 51123)) (.var 3)) (.var 3))) (.c (.int 13))) (.c (.int 3))) .nil)) (.c (.int 2147483587)))) (.cons (.ret (.bin .Mod (.bi .int (.cons (.bin .FloorDiv (.var 6) (.c (.int 32))) .nil)) (.var 1))) .nil)))))))))⟩
/-- 19: _law_pick -/
def d__law_pick : MDef := ⟨"_law_pick", "_law_pick", ["_law_pen_here", "_law_some"], 2, 1,
  (.cons (.ret (.sub (.var 1) (.call 18 (.cons (.var 0) (.cons (.bi .len (.cons (.var 1) .nil)) .nil))))) .nil)⟩
/-- 20: is_integer -/
def d_is_integer : MDef := ⟨"is_integer", "is_integer", ["value"], 1, 1,
  (.cons (.ret (.bop .And (.isi (.var 0) [.ty "int"]) (.un .Not (.isi (.var 0) [.ty "bool"])))) .nil)⟩
def P : Prog := ⟨["moduli", "ahead", "turn", "classes", "is_cut", "banks"], [d_law, d_Rule_init, d_Rule_eq, d_Rule_classes, d_Rule_is_cut, d__law_turn_right, d__law_pen, d_normal_weights, d_are_banks, d_banks_of, d_are_moduli, d__law_same, d_Rule_banks, d__law_normal, d__law_plain, d_shortest_turn, d_is_within, d__law_weight, d__law_draw, d__law_pick, d_is_integer],
  [⟨"Rule", some 1, [], [(3, 3), (4, 4), (5, 12)], some 2, [0, 1, 2], [0], true⟩]⟩
def st : Stat := ⟨P, [(1, 1, [3, 2, 1])], [("_law_turn_right", 5), ("_law_pen", 6), ("normal_weights", 7), ("are_banks", 8), ("banks_of", 9), ("are_moduli", 10), ("_law_same", 11), ("_law_normal", 13), ("_law_plain", 14), ("shortest_turn", 15), ("is_within", 16), ("_law_weight", 17), ("_law_draw", 18), ("_law_pick", 19), ("is_integer", 20), ("law", 0)], [("MOST_PLACES_rules", .int 24), ("MOST_BANKS", .int 32), ("MOST_MODULI", .int 5)], ["abs", "all", "bool", "int", "isinstance", "len", "list", "range", "repr", "tuple"]⟩
def top (i : Nat) : Stmt := PySem.Challenge.pw_lanebanks_k17_rules_in_their_normal_form.main.body.getD i (.Pass ⟨0, 0, 0, 0⟩)
def inCls (i j : Nat) : Stmt := (C8.clsBody (top i)).getD j (.Pass ⟨0, 0, 0, 0⟩)
def fns : List DefM := [
  ⟨.glo "law", "law", "law", C8.fnArgs (top 46), C8.fnBody (top 46), C8.fnScope (top 46)⟩,
  ⟨.meth "Rule" "__init__", "__init__", "Rule.__init__", C8.fnArgs (inCls 21 2), C8.fnBody (inCls 21 2), C8.fnScope (inCls 21 2)⟩,
  ⟨.meth "Rule" "__eq__", "__eq__", "Rule.__eq__", C8.fnArgs (inCls 21 24), C8.fnBody (inCls 21 24), C8.fnScope (inCls 21 24)⟩,
  ⟨.prop "Rule" "classes", "classes", "Rule.classes", C8.fnArgs (inCls 21 8), C8.fnBody (inCls 21 8), C8.fnScope (inCls 21 8)⟩,
  ⟨.prop "Rule" "is_cut", "is_cut", "Rule.is_cut", C8.fnArgs (inCls 21 9), C8.fnBody (inCls 21 9), C8.fnScope (inCls 21 9)⟩,
  ⟨.glo "_law_turn_right", "_law_turn_right", "_law_turn_right", C8.fnArgs (top 45), C8.fnBody (top 45), C8.fnScope (top 45)⟩,
  ⟨.glo "_law_pen", "_law_pen", "_law_pen", C8.fnArgs (top 36), C8.fnBody (top 36), C8.fnScope (top 36)⟩,
  ⟨.glo "normal_weights", "normal_weights", "normal_weights", C8.fnArgs (top 19), C8.fnBody (top 19), C8.fnScope (top 19)⟩,
  ⟨.glo "are_banks", "are_banks", "are_banks", C8.fnArgs (top 17), C8.fnBody (top 17), C8.fnScope (top 17)⟩,
  ⟨.glo "banks_of", "banks_of", "banks_of", C8.fnArgs (top 15), C8.fnBody (top 15), C8.fnScope (top 15)⟩,
  ⟨.glo "are_moduli", "are_moduli", "are_moduli", C8.fnArgs (top 16), C8.fnBody (top 16), C8.fnScope (top 16)⟩,
  ⟨.glo "_law_same", "_law_same", "_law_same", C8.fnArgs (top 44), C8.fnBody (top 44), C8.fnScope (top 44)⟩,
  ⟨.prop "Rule" "banks", "banks", "Rule.banks", C8.fnArgs (inCls 21 7), C8.fnBody (inCls 21 7), C8.fnScope (inCls 21 7)⟩,
  ⟨.glo "_law_normal", "_law_normal", "_law_normal", C8.fnArgs (top 43), C8.fnBody (top 43), C8.fnScope (top 43)⟩,
  ⟨.glo "_law_plain", "_law_plain", "_law_plain", C8.fnArgs (top 39), C8.fnBody (top 39), C8.fnScope (top 39)⟩,
  ⟨.glo "shortest_turn", "shortest_turn", "shortest_turn", C8.fnArgs (top 18), C8.fnBody (top 18), C8.fnScope (top 18)⟩,
  ⟨.glo "is_within", "is_within", "is_within", C8.fnArgs (top 3), C8.fnBody (top 3), C8.fnScope (top 3)⟩,
  ⟨.glo "_law_weight", "_law_weight", "_law_weight", C8.fnArgs (top 40), C8.fnBody (top 40), C8.fnScope (top 40)⟩,
  ⟨.glo "_law_draw", "_law_draw", "_law_draw", C8.fnArgs (top 37), C8.fnBody (top 37), C8.fnScope (top 37)⟩,
  ⟨.glo "_law_pick", "_law_pick", "_law_pick", C8.fnArgs (top 38), C8.fnBody (top 38), C8.fnScope (top 38)⟩,
  ⟨.glo "is_integer", "is_integer", "is_integer", C8.fnArgs (top 2), C8.fnBody (top 2), C8.fnScope (top 2)⟩]
theorem checked : (List.range st.P.defs.length).all (fun k => match st.P.defs[k]?, fns[k]? with
  | some D, some d => defB st D d
  | _, _ => false) = true := by decide +kernel
end K17
/-! MPL: plain lemmas for contracts. -/
namespace MP
open PySem
mutual
theorem NoRef.up {j k : Nat} (h : j ≤ k) : ∀ (v : AV), NoRef j v → NoRef k v
  | .non, _ => trivial
  | .bl _, _ => trivial
  | .int _, _ => trivial
  | .str _, _ => trivial
  | .tup xs, q => NoRefs.up h xs q
  | .lst xs, q => NoRefs.up h xs q
  | .dct ks vs, q => ⟨NoRefs.up h ks q.1, NoRefs.up h vs q.2⟩
  | .obj _ _ vs, q => NoRefs.up h vs q
  | .slst _, _ => trivial
  | .ref n, q => Nat.lt_of_lt_of_le q h
  | .fn _, _ => trivial
  | .cls _, _ => trivial
  | .ty _, _ => trivial
theorem NoRefs.up {j k : Nat} (h : j ≤ k) : ∀ (vs : List AV), NoRefs j vs → NoRefs k vs
  | [], _ => trivial
  | v :: vs, q => ⟨NoRef.up h v q.1, NoRefs.up h vs q.2⟩
end
theorem NoRefs.iff {k : Nat} : ∀ {vs : List AV}, NoRefs k vs ↔ ∀ v ∈ vs, NoRef k v
  | [] => Iff.intro (fun _ _ h => nomatch h) (fun _ => trivial)
  | v :: vs => by
    rw [NoRefs, NoRefs.iff (vs := vs)]
    simp
/-- what bears no reference is frozen as it is -/
theorem frz_id (S : HS) (k : Nat) : ∀ (z : Nat) (v : AV), NoRef 0 v → frz S k z v = v
  | 0, v, _ => rfl
  | z + 1, v, h => by
    have mp : ∀ (xs : List AV), NoRefs 0 xs → xs.map (frz S k z) = xs := fun xs => by
      induction xs with
      | nil => intro _; rfl
      | cons x xs ih => intro q; rw [List.map_cons, frz_id S k z x q.1, ih q.2]
    cases v with
    | ref n => exact absurd h (Nat.not_lt_zero n)
    | tup xs => show AV.tup (xs.map _) = _; rw [mp xs h]
    | lst xs => show AV.lst (xs.map _) = _; rw [mp xs h]
    | _ => rfl
theorem takeOk_app (S T : HS) : TakeOk S (S ++ T) := fun n o e hn => .inl (by rw [List.getElem?_append_left hn] at e; exact e)
/-- a plain value is returned, the heap as it was but for new objects -/
theorem ret_plain {z : Nat} {S T : HS} {Q : AV → HS → Prop} {v : AV} (hz : z ≠ 0 ∨ T = []) (hv : NoRef 0 v) (q : Q v S) : retF z S Q v (S ++ T) := by
  cases z with
  | zero =>
    rcases hz with h | rfl
    · exact absurd rfl h
    · rw [List.append_nil]; exact q
  | succ z =>
    refine ⟨takeOk_app S T, ?_, ?_⟩
    · rw [frz_id _ _ _ _ hv]; exact NoRef.up (Nat.zero_le _) _ hv
    · rw [frz_id _ _ _ _ hv, List.take_append_of_le_length (Nat.le_refl _), List.take_length]
      exact q
theorem ret_same {z : Nat} {S : HS} {Q : AV → HS → Prop} {v : AV} (hv : NoRef 0 v) (q : Q v S) : retF z S Q v S := by
  have h := ret_plain (z := z) (T := []) (.inr rfl) hv q
  rw [List.append_nil] at h
  exact h
theorem ret_bl {z : Nat} {S : HS} {Q : AV → HS → Prop} {b : Bool} (q : Q (.bl b) S) : retF z S Q (.bl b) S := ret_same (v := .bl b) trivial q
theorem ret_int {z : Nat} {S : HS} {Q : AV → HS → Prop} {b : Int} (q : Q (.int b) S) : retF z S Q (.int b) S := ret_same (v := .int b) trivial q
theorem noRefs_ints : ∀ (ns : List Int), NoRefs 0 (ns.map .int)
  | [] => trivial
  | _ :: ns => ⟨trivial, noRefs_ints ns⟩
theorem ret_tupI {z : Nat} {S : HS} {Q : AV → HS → Prop} {ns : List Int} (q : Q (.tup (ns.map .int)) S) : retF z S Q (.tup (ns.map .int)) S := ret_same (v := .tup (ns.map .int)) (noRefs_ints ns) q
/-- the heap changed in its old objects, which bear no reference -/
theorem ret_int' {z : Nat} {S S1 : HS} {Q : AV → HS → Prop} {b : Int} (hl : S1.length = S.length) (hn : ∀ o ∈ S1, NoRefO S.length o) (q : Q (.int b) S1) : retF z S Q (.int b) S1 := by
  cases z with
  | zero => exact q
  | succ z =>
    refine ⟨fun n o e _ => .inr (hn o (List.mem_of_getElem? e)), trivial, ?_⟩
    show Q (.int b) _
    rw [← hl, List.take_length]
    exact q
/-- parts of a body -/
def MSs.nth : MSs → Nat → MS
  | .cons s _, 0 => s
  | .cons _ r, n + 1 => r.nth n
  | .nil, _ => .never
def MSs.drop : MSs → Nat → MSs
  | m, 0 => m
  | .cons _ r, n + 1 => r.drop n
  | .nil, _ => .nil
def MS.body : MS → MSs
  | .for_ _ _ b => b
  | .while_ _ b => b
  | .iff _ a _ => a
  | _ => .nil
theorem wE_c {P : Prog} {cl : CallW} {v : AV} {σ : Sg} {S : HS} {Q : AV → HS → Prop} : wE P cl (.c v) σ S Q = Q v S := rfl
section
variable {P : Prog} {cl : CallW}
theorem wSs_cons {s : MS} {r : MSs} {D : WK} {σ : Sg} {S : HS} : wSs P cl (.cons s r) D σ S = wS P cl s { D with nx := wSs P cl r D } σ S := rfl
theorem wS_asg {g : MG} {e : ME} {D : WK} {σ : Sg} {S : HS} : wS P cl (.asg g e) D σ S = wE P cl e σ S fun v S1 => wG P cl g v σ S1 D.nx := rfl
theorem wE_tup {es : MEs} {σ : Sg} {S : HS} {Q : AV → HS → Prop} : wE P cl (.tup es) σ S Q = wEs P cl es σ S fun vs S1 => vs.length ≤ LINE ∧ Q (.tup vs) S1 := rfl
theorem wE_bop {op : BoolOp} {a r : ME} {σ : Sg} {S : HS} {Q : AV → HS → Prop} : wE P cl (.bop op a r) σ S Q = wE P cl a σ S fun x S1 => wTru S1 x fun k => if k = (op == .Or) then Q x S1 else wE P cl r σ S1 Q := rfl
theorem wE_un {op : UnaryOp} {a : ME} {σ : Sg} {S : HS} {Q : AV → HS → Prop} : wE P cl (.un op a) σ S Q = wE P cl a σ S fun x S1 => wUn op S1 x fun v => Q v S1 := rfl
theorem wE_cmp {op : CmpOp} {a b : ME} {σ : Sg} {S : HS} {Q : AV → HS → Prop} : wE P cl (.cmp op a b) σ S Q = wE P cl a σ S fun x S1 => wE P cl b σ S1 fun y S2 => wCmp P cl op x y S2 fun k S3 => Q (.bl k) S3 := rfl
theorem wE_bin {op : Operator} {a b : ME} {σ : Sg} {S : HS} {Q : AV → HS → Prop} : wE P cl (.bin op a b) σ S Q = wE P cl a σ S fun x S1 => wE P cl b σ S1 fun y S2 => wBin op (vw S2 x) (vw S2 y) fun v => Q v S2 := rfl
theorem wE_bi {f : BI} {es : MEs} {σ : Sg} {S : HS} {Q : AV → HS → Prop} : wE P cl (.bi f es) σ S Q = wEs P cl es σ S fun vs S1 => wBi f (vs.map (vw S1)) fun v => Q v S1 := rfl
theorem wE_call {k : Nat} {es : MEs} {σ : Sg} {S : HS} {Q : AV → HS → Prop} : wE P cl (.call k es) σ S Q = wEs P cl es σ S fun vs S1 => cl k vs S1 Q := rfl
theorem wEs_nil {σ : Sg} {S : HS} {Q : List AV → HS → Prop} : wEs P cl .nil σ S Q = Q [] S := rfl
theorem wS_iff {t : ME} {a b : MSs} {D : WK} {σ : Sg} {S : HS} : wS P cl (.iff t a b) D σ S = wE P cl t σ S fun x S1 => wTru S1 x fun k => if k = true then wSs P cl a D σ S1 else wSs P cl b D σ S1 := rfl
theorem wSs_nil {D : WK} {σ : Sg} {S : HS} : wSs P cl .nil D σ S = D.nx σ S := rfl
theorem wTru_bl {S : HS} {b : Bool} {Q : Bool → Prop} : wTru S (.bl b) Q = Q b := rfl
theorem wUn_not {S : HS} {b : Bool} {Q : AV → Prop} : wUn .Not S (.bl b) Q = Q (.bl (!b)) := rfl
theorem wEs_cons {e : ME} {r : MEs} {σ : Sg} {S : HS} {Q : List AV → HS → Prop} : wEs P cl (.cons e r) σ S Q = wE P cl e σ S fun v S1 => wEs P cl r σ S1 fun vs S2 => Q (v :: vs) S2 := rfl
end
theorem enter {P : Prog} {d k : Nat} {vs : List AV} {S : HS} {Q : AV → HS → Prop} {D : MDef} (e : P.defs[k]? = some D) (hl : vs.length = D.np)
    (h : wSs P (wcall P d) D.body { nx := fun _ S1 => retF D.z S Q .non S1, rt := retF D.z S Q } (startA D vs) S) : wcall P (d + 1) k vs S Q := by
  unfold wcall
  rw [e]
  exact ⟨hl, h⟩
/-- a comprehension whose elements are computed with no change -/
theorem lc_nm {P : Prog} {cl : CallW} {σ : Sg} {S : HS} {own : List Nat} {i : Nat} {elt : ME} {G : HS → Prop} {f : AV → AV} (hG : G S) : ∀ (xs acc : List AV) (Q : List AV → HS → Prop), acc.length + xs.length ≤ LINE →
    (∀ x ∈ xs, ∀ K : AV → HS → Prop, K (f x) S → wE P cl elt ((wipeA σ own).set i (some x)) S K) → Q (acc ++ xs.map f) S →
    wLcL G (fun x S => wG P cl (.nm i) x (wipeA σ own) S) (wTs P cl .nil) (wE P cl elt) xs acc S Q
  | [], acc, Q, _, _, q => ⟨hG, by simpa using q⟩
  | x :: xs, acc, Q, hl, h, q => by
    simp only [List.length_cons] at hl
    have step : wE P cl elt ((wipeA σ own).set i (some x)) S fun v S3 => acc.length < LINE ∧ wLcL G (fun x S => wG P cl (.nm i) x (wipeA σ own) S) (wTs P cl .nil) (wE P cl elt) xs (acc ++ [v]) S3 Q :=
      h x List.mem_cons_self _ ⟨by omega, lc_nm hG xs (acc ++ [f x]) Q (by simp; omega) (fun y hy => h y (List.mem_cons_of_mem _ hy)) (by simpa using q)⟩
    exact ⟨hG, L2.iteT (B := wLcL G (fun x S => wG P cl (.nm i) x (wipeA σ own) S) (wTs P cl .nil) (wE P cl elt) xs acc S Q) step⟩
theorem get_new {S : HS} {o : AO} : (S ++ [o])[S.length]? = some o := by simp
theorem set_new {S : HS} {o o' : AO} : (S ++ [o]).set S.length o' = S ++ [o'] := by simp
theorem wE_var {P : Prog} {cl : CallW} {i : Nat} {σ : Sg} {S : HS} {Q : AV → HS → Prop} {v : AV} (hi : σ[i]? = some (some v)) : wE P cl (.var i) σ S Q = Q v S := by
  show (match σ[i]? with
    | some (some v) => Q v S
    | _ => False) = _
  rw [hi]
/-- a new object's field is written -/
theorem att_new {P : Prog} {cl : CallW} {i f c : Nat} {v : AV} {σ : Sg} {S : HS} {ns : List Nat} {vs : List AV} {Q : Sg → HS → Prop} (hi : σ[i]? = some (some (.ref S.length))) (hf : f ∈ (P.cl? c).flds) (hl : ns.length < 1000)
    (q : Q σ (S ++ [.ins c (fset f v ns vs).1 (fset f v ns vs).2])) : wG P cl (.att (.var i) f) v σ (S ++ [.ins c ns vs]) Q := by
  unfold wG
  rw [wE_var hi]
  simp only [get_new, set_new]
  exact ⟨hf, hl, q⟩
/-- a maker ends: the new object bears no reference -/
theorem ret_made {z : Nat} {S : HS} {c : Nat} {ns ns' : List Nat} {vs ws : List AV} {Q : AV → HS → Prop} (hw : NoRefs 0 ws) (q : Q .non (S ++ [.ins c ns' ws])) : retF z (S ++ [.ins c ns vs]) Q .non (S ++ [.ins c ns' ws]) := by
  cases z with
  | zero => exact q
  | succ z =>
    have hl : (S ++ [AO.ins c ns vs]).length = (S ++ [AO.ins c ns' ws]).length := by simp
    refine ⟨fun n o e hn => ?_, trivial, ?_⟩
    · by_cases h : n < S.length
      · rw [List.getElem?_append_left h] at e
        exact .inl (by rw [List.getElem?_append_left h]; exact e)
      · have hn' : n = S.length := by simp at hn; omega
        subst hn'
        rw [get_new] at e
        cases e
        exact .inr (NoRefs.up (Nat.zero_le _) _ hw)
    · show Q .non _
      rw [hl, List.take_length]
      exact q
/-- a frozen new instance -/
theorem new_frz {P : Prog} {cl : CallW} {c k : Nat} {vs ws : List AV} {ns : List Nat} {S : HS} {Q : AV → HS → Prop} (hm : CallMono cl) (hi : (P.cl? c).init = some k) (hf : (P.cl? c).frz = true)
    (h : cl k (.ref S.length :: vs) (S ++ [.ins c [] []]) fun r S1 => r = .non ∧ ∃ ns ws, S1 = S ++ [.ins c ns ws] ∧ NoRefs 0 ws ∧ Q (.obj c ns ws) S) : wNew P cl c vs S Q := by
  unfold wNew
  rw [hi]
  refine hm _ _ _ _ _ ?_ h
  rintro r S1 ⟨rfl, ns, ws, rfl, hw, q⟩
  show (if (P.cl? c).frz = true then _ else _)
  rw [if_pos hf]
  simp only [get_new]
  refine ⟨trivial, by simp, takeOk_app _ _, NoRefs.up (Nat.zero_le _) _ hw, ?_⟩
  rw [List.take_append_of_le_length (Nat.le_refl _), List.take_length]
  exact q
/-! steps -/
section
variable {Q : AV → Prop} {xs : List AV}
theorem bi_len_lst : wBi .len [.lst xs] Q = Q (.int xs.length) := rfl
theorem bi_len_tup : wBi .len [.tup xs] Q = Q (.int xs.length) := rfl
theorem bi_int_int {i : Int} : wBi .int [.int i] Q = Q (.int i) := rfl
theorem bi_int_bl {b : Bool} : wBi .int [.bl b] Q = Q (.int (if b then 1 else 0)) := rfl
theorem bi_abs {i : Int} : wBi .abs [.int i] Q = Q (.int (if i < 0 then -i else i)) := rfl
theorem bi_list_lst : wBi .list [.lst xs] Q = Q (.lst xs) := rfl
theorem bi_list_tup : wBi .list [.tup xs] Q = Q (.lst xs) := rfl
theorem bi_tuple_lst : wBi .tuple [.lst xs] Q = Q (.tup xs) := rfl
theorem bi_tuple_tup : wBi .tuple [.tup xs] Q = Q (.tup xs) := rfl
theorem bi_all : wBi .all [.lst xs] Q = ((xs.all fun v => (isB v).isSome) = true ∧ Q (.bl (xs.all fun v => (isB v).getD false))) := rfl
theorem bi_any : wBi .any [.lst xs] Q = ((xs.all fun v => (isB v).isSome) = true ∧ Q (.bl (xs.any fun v => (isB v).getD false))) := rfl
theorem bi_repr {b : Bool} : wBi .repr [.bl b] Q = Q (.str (if b then "True" else "False")) := rfl
theorem bi_max2 {i j : Int} : wBi .max2 [.int i, .int j] Q = Q (.int (if j > i then j else i)) := rfl
theorem bi_min2 {i j : Int} : wBi .min2 [.int i, .int j] Q = Q (.int (if j < i then j else i)) := rfl
end
section
variable {P : Prog} {cl : CallW} {S : HS} {Q : Bool → HS → Prop} {y : AV}
theorem eq_tup_d {xs : List AV} : wEq P cl (.tup xs) y S Q = wEqD (.tup xs) (vw S y) fun b => Q b S := rfl
theorem eq_lst_d {xs : List AV} : wEq P cl (.lst xs) y S Q = wEqD (.lst xs) (vw S y) fun b => Q b S := rfl
theorem eq_int_d {i : Int} : wEq P cl (.int i) y S Q = wEqD (.int i) (vw S y) fun b => Q b S := rfl
theorem eq_str_d {i : Str} : wEq P cl (.str i) y S Q = wEqD (.str i) (vw S y) fun b => Q b S := rfl
theorem eq_bl_d {i : Bool} : wEq P cl (.bl i) y S Q = wEqD (.bl i) (vw S y) fun b => Q b S := rfl
end
section
variable {Q : AV → Prop}
theorem add_int {i j : Int} : wAdd (.int i) (.int j) Q = Q (.int (i + j)) := rfl
theorem add_tup {a b : List AV} : wAdd (.tup a) (.tup b) Q = (a.length + b.length ≤ LINE ∧ Q (.tup (a ++ b))) := rfl
theorem add_lst {a b : List AV} : wAdd (.lst a) (.lst b) Q = (a.length + b.length ≤ LINE ∧ Q (.lst (a ++ b))) := rfl
theorem mul_int {i j : Int} : wMul (.int i) (.int j) Q = (L2.CMul i j ∧ Q (.int (i * j))) := rfl
theorem mul_lst {a : List AV} {k : Int} : wMul (.lst a) (.int k) Q = ((0 ≤ k ∧ k < 2 ^ 63 ∧ a.length * k.toNat ≤ LINE) ∧ Q (.lst (List.replicate k.toNat a).flatten)) := rfl
theorem slc_tup {xs : List AV} {l h : Option Int} : wSlc (.tup xs) l h Q = Q (.tup (cutA xs l h)) := rfl
theorem slc_lst {xs : List AV} {l h : Option Int} : wSlc (.lst xs) l h Q = Q (.lst (cutA xs l h)) := rfl
end
theorem part0 {K : Option Int → Prop} : wPart [] K = K none := rfl
theorem part1 {i : Int} {K : Option Int → Prop} : wPart [.int i] K = K (some i) := rfl
theorem or_or : (BoolOp.Or == BoolOp.Or) = true := rfl
theorem and_or : (BoolOp.And == BoolOp.Or) = false := rfl
theorem at0 {α : Type} (x : α) (xs : List α) : L2.atI (x :: xs) 0 = some x := by
  unfold L2.atI L2.ixN
  simp
theorem at1 {α : Type} (x y : α) (xs : List α) : L2.atI (x :: y :: xs) 1 = some y := by
  unfold L2.atI L2.ixN
  have h : (1 : Int) < ((x :: y :: xs).length : Int) := by simp only [List.length_cons]; omega
  rw [if_pos (by decide), if_pos h]
  rfl
theorem at2 {α : Type} (x y z : α) (xs : List α) : L2.atI (x :: y :: z :: xs) 2 = some z := by
  unfold L2.atI L2.ixN
  have h : (2 : Int) < ((x :: y :: z :: xs).length : Int) := by simp only [List.length_cons]; omega
  rw [if_pos (by decide), if_pos h]
  rfl
section
variable {Q : AV → Prop} {x y z : AV} {xs : List AV}
theorem sub_t {i : Int} {v : AV} (h : L2.atI xs i = some v) : wSub (.tup xs) (.int i) Q = Q v := by
  show (match L2.atI xs i with
    | some v => Q v
    | none => False) = _
  rw [h]
theorem sub_l {i : Int} {v : AV} (h : L2.atI xs i = some v) : wSub (.lst xs) (.int i) Q = Q v := by
  show (match L2.atI xs i with
    | some v => Q v
    | none => False) = _
  rw [h]
theorem sub0t : wSub (.tup (x :: xs)) (.int 0) Q = Q x := sub_t (at0 _ _)
theorem sub1t : wSub (.tup (x :: y :: xs)) (.int 1) Q = Q y := sub_t (at1 _ _ _)
theorem sub2t : wSub (.tup (x :: y :: z :: xs)) (.int 2) Q = Q z := sub_t (at2 _ _ _ _)
theorem sub0l : wSub (.lst (x :: xs)) (.int 0) Q = Q x := sub_l (at0 _ _)
theorem sub1l : wSub (.lst (x :: y :: xs)) (.int 1) Q = Q y := sub_l (at1 _ _ _)
theorem sub2l : wSub (.lst (x :: y :: z :: xs)) (.int 2) Q = Q z := sub_l (at2 _ _ _ _)
end
end MP
/-! MPD: comparisons of data, plain. -/
namespace MP
open PySem
theorem toPDs_ints : ∀ (ns : List Int), toPDs (ns.map .int) = some (ns.map PyData.int)
  | [] => rfl
  | n :: ns => by
    show (match some (PyData.int n), toPDs (ns.map .int) with
      | some d, some ds => some (d :: ds)
      | _, _ => none) = _
    rw [toPDs_ints ns]
    rfl
theorem lay_ints : ∀ (ns : List Int), PyData.canLayAll0 (ns.map PyData.int) = true
  | [] => by rw [List.map_nil, PyData.canLayAll0]
  | n :: ns => by rw [List.map_cons, PyData.canLayAll0, lay_ints ns, PyData.canLay0]; rfl
theorem depth_ints : ∀ (ns : List Int), PyData.depthAll (ns.map PyData.int) ≤ 1
  | [] => by rw [List.map_nil, PyData.depthAll]; omega
  | n :: ns => by
    rw [List.map_cons, PyData.depthAll, PyData.depth]
    have := depth_ints ns
    omega
theorem eqv_ints : ∀ (ms ns : List Int), PyData.eqvAll (ms.map PyData.int) (ns.map PyData.int) = decide (ms = ns)
  | [], [] => by rw [List.map_nil, PyData.eqvAll]; simp
  | [], n :: ns => by rw [List.map_nil, List.map_cons, PyData.eqvAll]; simp
  | m :: ms, [] => by rw [List.map_nil, List.map_cons, PyData.eqvAll]; simp
  | m :: ms, n :: ns => by
    rw [List.map_cons, List.map_cons, PyData.eqvAll, PyData.eqv, eqv_ints ms ns]
    by_cases h : m = n
    · subst h; simp
    · simp [h]
theorem shaped_tup (ns : List Int) : SeqAt.shaped (.tuple (ns.map PyData.int)) = true := by
  unfold SeqAt.shaped
  rw [PyData.canLay0, lay_ints, PyData.depth]
  have := depth_ints ns
  simp
  omega
theorem shaped_lst (ns : List Int) : SeqAt.shaped (.list (ns.map PyData.int)) = true := by
  unfold SeqAt.shaped
  rw [PyData.canLay0, lay_ints, PyData.depth]
  have := depth_ints ns
  simp
  omega
theorem eqD_tup {ms ns : List Int} {Q : Bool → Prop} (q : Q (decide (ms = ns))) : wEqD (.tup (ms.map .int)) (.tup (ns.map .int)) Q := by
  unfold wEqD
  show match (toPDs (ms.map .int)).map PyData.tuple, (toPDs (ns.map .int)).map PyData.tuple with
    | some d, some e => SeqAt.shaped d = true ∧ SeqAt.shaped e = true ∧ Q (PyData.eqv d e)
    | _, _ => False
  rw [toPDs_ints, toPDs_ints]
  refine ⟨shaped_tup ms, shaped_tup ns, ?_⟩
  rw [PyData.eqv, eqv_ints]
  exact q
theorem eqD_lst {ms ns : List Int} {Q : Bool → Prop} (q : Q (decide (ms = ns))) : wEqD (.lst (ms.map .int)) (.lst (ns.map .int)) Q := by
  unfold wEqD
  show match (toPDs (ms.map .int)).map PyData.list, (toPDs (ns.map .int)).map PyData.list with
    | some d, some e => SeqAt.shaped d = true ∧ SeqAt.shaped e = true ∧ Q (PyData.eqv d e)
    | _, _ => False
  rw [toPDs_ints, toPDs_ints]
  refine ⟨shaped_lst ms, shaped_lst ns, ?_⟩
  rw [PyData.eqv, eqv_ints]
  exact q
section
variable {P : Prog} {cl : CallW}
theorem ne_lst {ms ns : List Int} {S : HS} {Q : Bool → HS → Prop} (q : Q (!decide (ms = ns)) S) : wCmp P cl .NotEq (.lst (ms.map .int)) (.lst (ns.map .int)) S Q := eqD_lst (Q := fun b => Q (!b) S) q
theorem eq_lst {ms ns : List Int} {S : HS} {Q : Bool → HS → Prop} (q : Q (decide (ms = ns)) S) : wCmp P cl .Eq (.lst (ms.map .int)) (.lst (ns.map .int)) S Q := eqD_lst (Q := fun b => Q b S) q
theorem ne_tup {ms ns : List Int} {S : HS} {Q : Bool → HS → Prop} (q : Q (!decide (ms = ns)) S) : wCmp P cl .NotEq (.tup (ms.map .int)) (.tup (ns.map .int)) S Q := eqD_tup (Q := fun b => Q (!b) S) q
theorem eq_tup {ms ns : List Int} {S : HS} {Q : Bool → HS → Prop} (q : Q (decide (ms = ns)) S) : wCmp P cl .Eq (.tup (ms.map .int)) (.tup (ns.map .int)) S Q := eqD_tup (Q := fun b => Q b S) q
end
theorem shaped_int (i : Int) : SeqAt.shaped (.int i) = true := by
  unfold SeqAt.shaped
  rw [PyData.canLay0, PyData.depth]
  decide
theorem eqD_int {i j : Int} {Q : Bool → Prop} (q : Q (decide (i = j))) : wEqD (.int i) (.int j) Q := by
  refine ⟨shaped_int i, shaped_int j, ?_⟩
  rw [PyData.eqv]
  exact (show (i == j) = decide (i = j) from rfl) ▸ q
section
variable {P : Prog} {cl : CallW}
theorem eq_int {i j : Int} {S : HS} {Q : Bool → HS → Prop} (q : Q (decide (i = j)) S) : wCmp P cl .Eq (.int i) (.int j) S Q := eqD_int (Q := fun b => Q b S) q
theorem ne_int {i j : Int} {S : HS} {Q : Bool → HS → Prop} (q : Q (!decide (i = j)) S) : wCmp P cl .NotEq (.int i) (.int j) S Q := eqD_int (Q := fun b => Q (!b) S) q
end
/-- slices of numbers -/
theorem cut_head (ns : List Int) {m : Int} (h : 0 ≤ m) : cutA (ns.map AV.int) none (some m) = (ns.take m.toNat).map .int := by
  unfold cutA HT.sIx
  dsimp only
  rw [if_neg (by omega)]
  simp only [Nat.sub_zero, List.drop_zero, List.length_map]
  rw [← List.map_take]
  congr 1
  by_cases q : m.toNat ≤ ns.length
  · rw [Nat.min_eq_left q]
  · rw [Nat.min_eq_right (by omega), List.take_of_length_le (Nat.le_refl _), List.take_of_length_le (by omega)]
theorem cut_init (ns : List Int) : cutA (ns.map AV.int) none (some (-1)) = ns.dropLast.map .int := by
  unfold cutA HT.sIx
  dsimp only
  rw [if_pos (by decide)]
  simp only [Nat.sub_zero, List.drop_zero, List.length_map]
  rw [← List.map_take, List.dropLast_eq_take]
  congr 2
  omega
theorem cut_last {ns : List Int} (h : ns ≠ []) : cutA (ns.map AV.int) (some (-1)) none = [.int (ns.getLast h)] := by
  have hl : 0 < ns.length := List.length_pos_iff.mpr h
  unfold cutA HT.sIx
  dsimp only
  rw [if_pos (by decide)]
  simp only [List.length_map]
  rw [← List.map_drop, ← List.map_take, show (-1 + (ns.length : Int)).toNat = ns.length - 1 by omega, List.take_of_length_le (by simp), List.drop_eq_getElem_cons (by omega), List.drop_eq_nil_of_le (by omega), List.getLast_eq_getElem]
  rfl
theorem flat_map (ns : List Int) : ∀ k, (List.replicate k (ns.map AV.int)).flatten = (List.replicate k ns).flatten.map .int
  | 0 => rfl
  | k + 1 => by rw [List.replicate_succ, List.replicate_succ, List.flatten_cons, List.flatten_cons, List.map_append, flat_map ns k]
theorem mul_tup {S : HS} {ns : List Int} {k : Int} {Q : AV → Prop} (h : ns ≠ [] ∧ 1 ≤ k ∧ k ≤ 1000 ∧ ns.length ≤ 1000) (q : Q (.tup ((List.replicate k.toNat ns).flatten.map .int))) : wBin .Mult (vw S (.tup (ns.map .int))) (vw S (.int k)) Q := by
  have w : wMul (.tup (ns.map AV.int)) (.int k) Q := ⟨⟨by simpa using h.1, h.2.1, h.2.2.1, by simpa using h.2.2.2⟩, by rw [flat_map]; exact q⟩
  exact w
theorem noRefs_tups : ∀ (l : List (List Int)), NoRefs 0 (l.map fun ns => AV.tup (ns.map .int))
  | [] => trivial
  | ns :: l => ⟨noRefs_ints ns, noRefs_tups l⟩
theorem log_small {i : Int} (h : i.natAbs < 2 ^ 1000) (h0 : 0 < i) : i.natAbs.log2 < 9000 := by
  have := (Nat.log2_lt (show i.natAbs ≠ 0 by omega)).mpr h
  omega
/-- at a place -/
theorem at_nat {α : Type} {xs : List α} {i : Nat} (h : i < xs.length) : L2.atI xs (i : Int) = some xs[i] := by
  unfold L2.atI L2.ixN
  simp [h]
theorem at_ints {ns : List Int} {i : Int} (h0 : 0 ≤ i) (h : i < ns.length) : L2.atI (ns.map AV.int) i = some (.int (ns.getD i.toNat 0)) := by
  obtain ⟨j, rfl⟩ := Int.eq_ofNat_of_zero_le h0
  have hj : j < ns.length := by omega
  rw [at_nat (by simpa using hj)]
  simp [hj]
theorem at_last {ns : List Int} (h : ns ≠ []) : L2.atI (ns.map AV.int) (-1) = some (.int (ns.getLast h)) := by
  have hl : 0 < ns.length := List.length_pos_iff.mpr h
  unfold L2.atI L2.ixN
  have h1 : ¬ (0 : Int) ≤ -1 := by omega
  have h2 : -((ns.map AV.int).length : Int) ≤ -1 := by simp; omega
  rw [if_neg h1, if_pos h2]
  have e : (-1 + ((ns.map AV.int).length : Int)).toNat = ns.length - 1 := by simp; omega
  rw [e]
  simp only [Option.bind_some, List.getElem?_map, List.getLast_eq_getElem]
  rw [List.getElem?_eq_getElem (by omega)]
  rfl
section
variable {P : Prog} {cl : CallW}
theorem sub_last {i : Nat} {σ : Sg} {S : HS} {ns : List Int} {Q : AV → HS → Prop} (hi : σ[i]? = some (some (.tup (ns.map .int)))) (h : ns ≠ []) (q : Q (.int (ns.getLast h)) S) : wE P cl (.sub (.var i) (.un .USub (.c (.int 1)))) σ S Q := by
  show match σ[i]? with
    | some (some v) => wSub (vw S v) (.int (-1)) fun v => Q v S
    | _ => False
  rw [hi]
  show match L2.atI (ns.map AV.int) (-1) with
    | some v => Q v S
    | none => False
  rw [at_last h]
  exact q
theorem cmp_last {i j : Nat} {σ : Sg} {S : HS} {A T : List Int} {Q : AV → HS → Prop} (hi : σ[i]? = some (some (.tup (A.map .int)))) (hj : σ[j]? = some (some (.tup (T.map .int)))) (hA : A ≠ []) (hT : T ≠ []) (q : Q (.bl (decide (A.getLast hA = T.getLast hT))) S) :
    wE P cl (.cmp .Eq (.sub (.var i) (.un .USub (.c (.int 1)))) (.sub (.var j) (.un .USub (.c (.int 1))))) σ S Q :=
  sub_last hi hA (sub_last hj hT (eq_int q))
end
theorem len_tup {S : HS} {ns : List Int} {Q : AV → Prop} (q : Q (.int (ns.length : Int))) : wBi .len ([AV.tup (ns.map .int)].map (vw S)) Q := by
  have h : Q (.int ((ns.map AV.int).length : Int)) := by rw [List.length_map]; exact q
  exact h
theorem len_lst {S : HS} {ns : List Int} {Q : AV → Prop} (q : Q (.int (ns.length : Int))) : wBi .len ([AV.lst (ns.map .int)].map (vw S)) Q := by
  have h : Q (.int ((ns.map AV.int).length : Int)) := by rw [List.length_map]; exact q
  exact h
end MP
/-! K17m: rows of weights: the normal form is one. -/
namespace K17
/-- the weight at a place -/
def wt (A T : List Int) (n : Nat) : Int := if n < A.length then A.getD n 0 else T.getD ((n - A.length) % T.length) 0
/-- a period from a place on -/
def Per (W : Nat → Int) (n0 p : Nat) : Prop := ∀ n, n0 ≤ n → W (n + p) = W n
theorem Per.mul {W : Nat → Int} {n0 p : Nat} (h : Per W n0 p) : ∀ k, Per W n0 (k * p)
  | 0 => fun n _ => by rw [Nat.zero_mul, Nat.add_zero]
  | k + 1 => fun n hn => by
    rw [Nat.succ_mul, ← Nat.add_assoc, h (n + k * p) (by omega), Per.mul h k n hn]
theorem Per.gcd {W : Nat → Int} {n0 : Nat} : ∀ (m p q : Nat), p + q ≤ m → 0 < p → 0 < q → Per W n0 p → Per W n0 q → Per W n0 (Nat.gcd p q)
  | 0, p, q, h, h1, h2, _, _ => by omega
  | m + 1, p, q, h, h1, h2, hp, hq => by
    by_cases e : p = q
    · subst e; rw [Nat.gcd_self]; exact hp
    · by_cases lt : p < q
      · have d : Per W n0 (q - p) := fun n hn => by
          have a := hp (n + (q - p)) (by omega)
          have b := hq n hn
          rw [show n + (q - p) + p = n + q by omega] at a
          rw [← a, b]
        have g := Per.gcd m p (q - p) (by omega) h1 (by omega) hp d
        rw [Nat.gcd_sub_self_right (by omega)] at g
        exact g
      · have d : Per W n0 (p - q) := fun n hn => by
          have a := hq (n + (p - q)) (by omega)
          have b := hp n hn
          rw [show n + (p - q) + q = n + p by omega] at a
          rw [← a, b]
        have g := Per.gcd m (p - q) q (by omega) (by omega) h2 d hq
        rw [Nat.gcd_sub_self_left (by omega)] at g
        exact g
theorem wt_per (A : List Int) {T : List Int} : Per (wt A T) A.length T.length := fun n hn => by
  unfold wt
  rw [if_neg (by omega), if_neg (by omega), show n + T.length - A.length = (n - A.length) + T.length by omega, Nat.add_mod_right]
/-- no shorter round -/
def Short (T : List Int) : Prop := T ≠ [] ∧ ∀ q, 0 < q → q < T.length → q ∣ T.length → ¬ ∀ i, i < T.length → T.getD i 0 = T.getD (i % q) 0
structure Normal (A T : List Int) : Prop where
  short : Short T
  last : ∀ (h : A ≠ []) (h' : T ≠ []), A.getLast h ≠ T.getLast h'
theorem per_round {A T : List Int} {n0 q : Nat} (hT : T ≠ []) (hq : 0 < q) (hd : q ∣ T.length) (h : Per (wt A T) n0 q) : ∀ i, i < T.length → T.getD i 0 = T.getD (i % q) 0 := by
  intro i hi
  have hl : 0 < T.length := List.length_pos_iff.mpr hT
  -- far out
  have key : ∀ j, j < T.length → wt A T (A.length + (n0 * T.length + j)) = T.getD j 0 := fun j hj => by
    unfold wt
    rw [if_neg (by omega), show A.length + (n0 * T.length + j) - A.length = j + T.length * n0 by rw [Nat.mul_comm]; omega, Nat.add_mul_mod_self_left, Nat.mod_eq_of_lt hj]
  have hm := Nat.mod_lt i hq
  have hqT := Nat.le_of_dvd hl hd
  rw [← key i hi, ← key (i % q) (by omega)]
  have e := Nat.div_add_mod i q
  have hn0 : n0 ≤ n0 * T.length := Nat.le_mul_of_pos_right _ hl
  have := h.mul (i / q) (A.length + (n0 * T.length + i % q)) (by omega)
  rw [← this]
  congr 1
  have : q * (i / q) = i / q * q := Nat.mul_comm _ _
  omega
theorem Normal.len_dvd {A T A' T' : List Int} (h : Normal A T) (h' : Normal A' T') (e : wt A T = wt A' T') : T.length ∣ T'.length := by
  have hl : 0 < T.length := List.length_pos_iff.mpr h.short.1
  have hl' : 0 < T'.length := List.length_pos_iff.mpr h'.short.1
  have p1 : Per (wt A T) (A.length + A'.length) T.length := fun n hn => wt_per A n (by omega)
  have p2 : Per (wt A T) (A.length + A'.length) T'.length := fun n hn => by rw [e]; exact wt_per A' n (by omega)
  have g := Per.gcd _ _ _ (Nat.le_refl _) hl hl' p1 p2
  have gp : 0 < Nat.gcd T.length T'.length := Nat.gcd_pos_of_pos_left _ hl
  have gd := Nat.gcd_dvd_left T.length T'.length
  have gl := Nat.le_of_dvd hl gd
  by_cases q : Nat.gcd T.length T'.length < T.length
  · exact absurd (per_round h.short.1 gp gd g) (h.short.2 _ gp q gd)
  · have : Nat.gcd T.length T'.length = T.length := by omega
    rw [← this]
    exact Nat.gcd_dvd_right _ _
theorem last_wt {A T : List Int} (h : A ≠ []) : A.getLast h = wt A T (A.length - 1) := by
  have hl : 0 < A.length := List.length_pos_iff.mpr h
  unfold wt
  rw [if_pos (by omega), List.getLast_eq_getElem, List.getD_eq_getElem?_getD, List.getElem?_eq_getElem (by omega)]
  rfl
theorem last_round {A T : List Int} (h : T ≠ []) {n : Nat} (hn : A.length ≤ n + T.length) (hm : n + 1 = A.length) : T.getLast h = wt A T (n + T.length) := by
  have hl : 0 < T.length := List.length_pos_iff.mpr h
  unfold wt
  rw [if_neg (by omega), show n + T.length - A.length = T.length - 1 by omega, Nat.mod_eq_of_lt (by omega), List.getLast_eq_getElem, List.getD_eq_getElem?_getD, List.getElem?_eq_getElem (by omega)]
  rfl
theorem Normal.len_le {A T A' T' : List Int} (h : Normal A T) (h' : Normal A' T') (e : wt A T = wt A' T') (et : T.length = T'.length) : A'.length ≤ A.length := by
  by_cases q : A'.length ≤ A.length
  · exact q
  · have hA : A' ≠ [] := fun z => by subst z; simp at q
    have hl : 0 < T.length := List.length_pos_iff.mpr h.short.1
    refine absurd ?_ (h'.last hA h'.short.1)
    rw [last_wt (T := T') hA, last_round (A := A') (n := A'.length - 1) h'.short.1 (by omega) (by omega), ← e, ← et]
    exact (wt_per A (A'.length - 1) (by omega)).symm
/-- THE LAW of normal forms -/
theorem Normal.unique {A T A' T' : List Int} (h : Normal A T) (h' : Normal A' T') (e : wt A T = wt A' T') : A = A' ∧ T = T' := by
  have et : T.length = T'.length := Nat.dvd_antisymm (h.len_dvd h' e) (h'.len_dvd h e.symm)
  have ea : A.length = A'.length := Nat.le_antisymm (h'.len_le h e.symm et.symm) (h.len_le h' e et)
  have hl : 0 < T.length := List.length_pos_iff.mpr h.short.1
  refine ⟨List.ext_getElem ea fun i h1 h2 => ?_, List.ext_getElem et fun i h1 h2 => ?_⟩
  · have q := congrFun e i
    unfold wt at q
    rw [if_pos h1, if_pos h2] at q
    simpa [List.getD, h1, h2] using q
  · have q := congrFun e (A.length + i)
    unfold wt at q
    rw [if_neg (by omega), if_neg (by omega), ea, Nat.add_sub_cancel_left, Nat.mod_eq_of_lt h1, Nat.mod_eq_of_lt h2] at q
    simpa [List.getD, h1, h2] using q
/-- equal for long enough, equal for ever -/
theorem wt_same {A T A' T' : List Int} {N L : Nat} (hL : 0 < L) (d : T.length ∣ L) (d' : T'.length ∣ L) (ha : A.length ≤ N) (ha' : A'.length ≤ N) (h : ∀ n, n < N + L → wt A T n = wt A' T' n) : wt A T = wt A' T' := by
  obtain ⟨k, rfl⟩ := d
  obtain ⟨k', e'⟩ := d'
  have p1 : Per (wt A T) N (T.length * k) := fun n hn => by rw [Nat.mul_comm]; exact (wt_per A).mul k n (by omega)
  have p2 : Per (wt A' T') N (T.length * k) := fun n hn => by rw [e', Nat.mul_comm]; exact (wt_per A').mul k' n (by omega)
  have key : ∀ m n, n ≤ m → wt A T n = wt A' T' n := by
    intro m
    induction m with
    | zero => intro n hn; exact h n (by omega)
    | succ m ih =>
      intro n hn
      by_cases q : n < N + T.length * k
      · exact h n q
      · have a := p1 (n - T.length * k) (by omega)
        have b := p2 (n - T.length * k) (by omega)
        rw [show n - T.length * k + T.length * k = n by omega] at a b
        rw [a, b]
        exact ih _ (by omega)
  exact funext fun n => key n n (Nat.le_refl n)
end K17
/-! K17n: the steps towards the normal form. -/
namespace K17
/-- all weights of the round come back after q -/
def Back (T : List Int) (q : Nat) : Prop := ∀ i, i < T.length → T.getD i 0 = T.getD (i % q) 0
theorem rep_len {α : Type} (xs : List α) : ∀ k, (List.replicate k xs).flatten.length = k * xs.length
  | 0 => by simp
  | k + 1 => by rw [List.replicate_succ, List.flatten_cons, List.length_append, rep_len xs k, Nat.succ_mul]; omega
theorem rep_at (xs : List Int) : ∀ k i, i < k * xs.length → ((List.replicate k xs).flatten).getD i 0 = xs.getD (i % xs.length) 0
  | 0, i, h => by omega
  | k + 1, i, h => by
    rw [List.replicate_succ, List.flatten_cons, List.getD_eq_getElem?_getD]
    by_cases q : i < xs.length
    · rw [List.getElem?_append_left q, Nat.mod_eq_of_lt q, List.getD_eq_getElem?_getD]
    · rw [List.getElem?_append_right (by omega), ← List.getD_eq_getElem?_getD, rep_at xs k (i - xs.length) (by rw [Nat.succ_mul] at h; omega)]
      rw [← Nat.mod_eq_sub_mod (by omega)]
theorem take_at {T : List Int} {q i : Nat} (h : i < q) : (T.take q).getD i 0 = T.getD i 0 := by
  rw [List.getD_eq_getElem?_getD, List.getElem?_take_of_lt h, ← List.getD_eq_getElem?_getD]
theorem ext_getD {xs ys : List Int} (hl : xs.length = ys.length) (h : ∀ i, i < xs.length → xs.getD i 0 = ys.getD i 0) : xs = ys :=
  List.ext_getElem hl fun i h1 h2 => by
    have q := h i h1
    rw [List.getD_eq_getElem?_getD, List.getD_eq_getElem?_getD, List.getElem?_eq_getElem h1, List.getElem?_eq_getElem h2] at q
    exact q
theorem rep_iff {T : List Int} {q : Nat} (hq : 0 < q) (hd : q ∣ T.length) (hT : T ≠ []) : T = (List.replicate (T.length / q) (T.take q)).flatten ↔ Back T q := by
  have hl : 0 < T.length := List.length_pos_iff.mpr hT
  have hqT := Nat.le_of_dvd hl hd
  have lt : (T.take q).length = q := by rw [List.length_take]; omega
  have hm : T.length / q * q = T.length := Nat.div_mul_cancel hd
  constructor
  · intro e i hi
    have h1 := rep_at (T.take q) (T.length / q) i (by rw [lt, hm]; exact hi)
    rw [lt, take_at (Nat.mod_lt i hq)] at h1
    rw [← h1, ← e]
  · intro b
    refine ext_getD (by rw [rep_len, lt, hm]) fun i hi => ?_
    rw [rep_at _ _ _ (by rw [lt, hm]; exact hi), lt, take_at (Nat.mod_lt i hq)]
    exact b i hi
theorem take_short {T : List Int} {q : Nat} (hT : T ≠ []) (hq : 0 < q) (hd : q ∣ T.length) (b : Back T q) (least : ∀ r, 0 < r → r < q → r ∣ T.length → ¬ Back T r) : Short (T.take q) := by
  have hl : 0 < T.length := List.length_pos_iff.mpr hT
  have hqT := Nat.le_of_dvd hl hd
  have lt : (T.take q).length = q := by rw [List.length_take]; omega
  refine ⟨fun z => by rw [z] at lt; simp at lt; omega, fun r hr hrq hrd hb => ?_⟩
  rw [lt] at hrq hrd hb
  refine least r hr hrq (Nat.dvd_trans hrd hd) fun i hi => ?_
  have h1 := hb (i % q) (Nat.mod_lt i hq)
  rw [take_at (Nat.mod_lt i hq), Nat.mod_mod_of_dvd i hrd, take_at (by have := Nat.mod_lt i hr; omega)] at h1
  rw [b i hi, h1]
theorem take_wt {T : List Int} {q : Nat} (hT : T ≠ []) (hq : 0 < q) (hd : q ∣ T.length) (b : Back T q) (A : List Int) : wt A (T.take q) = wt A T := by
  have hl : 0 < T.length := List.length_pos_iff.mpr hT
  have hqT := Nat.le_of_dvd hl hd
  have lt : (T.take q).length = q := by rw [List.length_take]; omega
  funext n
  unfold wt
  by_cases h : n < A.length
  · rw [if_pos h, if_pos h]
  · rw [if_neg h, if_neg h, lt, take_at (Nat.mod_lt _ hq), b _ (Nat.mod_lt _ hl), Nat.mod_mod_of_dvd _ hd]
/-- the round turned by one -/
def turned (T : List Int) (h : T ≠ []) : List Int := T.getLast h :: T.dropLast
theorem turned_at {T : List Int} (h : T ≠ []) (i : Nat) (hi : i < T.length) : (turned T h).getD i 0 = T.getD ((i + (T.length - 1)) % T.length) 0 := by
  have hl : 0 < T.length := List.length_pos_iff.mpr h
  unfold turned
  cases i with
  | zero =>
    rw [List.getD_cons_zero, Nat.zero_add, Nat.mod_eq_of_lt (by omega), List.getLast_eq_getElem, List.getD_eq_getElem?_getD, List.getElem?_eq_getElem (by omega)]
    rfl
  | succ i =>
    rw [List.getD_cons_succ, show i + 1 + (T.length - 1) = i + T.length by omega, Nat.add_mod_right, Nat.mod_eq_of_lt (by omega), List.getD_eq_getElem?_getD, List.getElem?_dropLast, if_pos (by omega), ← List.getD_eq_getElem?_getD]
theorem turned_len {T : List Int} (h : T ≠ []) : (turned T h).length = T.length := by
  have hl : 0 < T.length := List.length_pos_iff.mpr h
  simp [turned]
  omega
theorem turned_short {T : List Int} (h : Short T) : Short (turned T h.1) := by
  have hl : 0 < T.length := List.length_pos_iff.mpr h.1
  refine ⟨by simp [turned], fun q hq hqT hd hb => ?_⟩
  rw [turned_len] at hqT hd hb
  refine h.2 q hq hqT hd fun i hi => ?_
  -- the next place
  have nx : ∀ j, j < T.length → T.getD j 0 = (turned T h.1).getD ((j + 1) % T.length) 0 := fun j hj => by
    rw [turned_at h.1 _ (Nat.mod_lt _ hl)]
    congr 1
    by_cases e : j + 1 = T.length
    · rw [e, Nat.mod_self, Nat.zero_add, Nat.mod_eq_of_lt (by omega)]; omega
    · rw [Nat.mod_eq_of_lt (show j + 1 < T.length by omega), show j + 1 + (T.length - 1) = j + T.length by omega, Nat.add_mod_right, Nat.mod_eq_of_lt hj]
  have hm := Nat.mod_lt i hq
  rw [nx i hi, nx (i % q) (by omega), hb _ (Nat.mod_lt _ hl), hb ((i % q + 1) % T.length) (Nat.mod_lt _ hl), Nat.mod_mod_of_dvd _ hd, Nat.mod_mod_of_dvd _ hd]
  congr 1
  exact (Nat.mod_add_mod i q 1).symm
theorem turned_wt {A T : List Int} (hA : A ≠ []) (hT : T ≠ []) (e : A.getLast hA = T.getLast hT) : wt A.dropLast (turned T hT) = wt A T := by
  have hl : 0 < T.length := List.length_pos_iff.mpr hT
  have ha : 0 < A.length := List.length_pos_iff.mpr hA
  funext n
  unfold wt
  rw [List.length_dropLast, turned_len]
  by_cases h1 : n < A.length - 1
  · rw [if_pos h1, if_pos (by omega), List.getD_eq_getElem?_getD, List.getElem?_dropLast, if_pos h1, ← List.getD_eq_getElem?_getD]
  · rw [if_neg h1, turned_at hT _ (Nat.mod_lt _ hl)]
    by_cases h2 : n < A.length
    · have hn : n = A.length - 1 := by omega
      subst hn
      rw [if_pos h2, Nat.sub_self, Nat.zero_mod, Nat.zero_add, Nat.mod_eq_of_lt (by omega)]
      rw [List.getLast_eq_getElem, List.getLast_eq_getElem] at e
      rw [List.getD_eq_getElem?_getD, List.getD_eq_getElem?_getD, List.getElem?_eq_getElem (show T.length - 1 < T.length by omega), List.getElem?_eq_getElem h2, e]
    · rw [if_neg h2]
      congr 1
      have e2 : n - (A.length - 1) = n - A.length + 1 := by omega
      rw [e2, Nat.mod_add_mod, show n - A.length + 1 + (T.length - 1) = n - A.length + T.length by omega, Nat.add_mod_right]
end K17
namespace K17
open PySem PySem.Spec L2 MP
open PyProof.Rows hiding St
theorem c_is_integer {d : Nat} {i : Int} {S : HS} {Q : AV → HS → Prop} (q : Q (.bl true) S) : wcall st.P (d + 1) 20 [.int i] S Q :=
  enter (D := d_is_integer) rfl rfl (ret_bl (z := 1) q)
theorem c_is_within {d : Nat} {i a b : Int} {S : HS} {Q : AV → HS → Prop} (q : Q (.bl (decide (a ≤ i) && decide (i ≤ b))) S) : wcall st.P (d + 2) 16 [.int i, .int a, .int b] S Q := by
  refine enter (D := d_is_within) rfl rfl ?_
  refine c_is_integer ?_
  show (if decide (a ≤ i) = true then _ else _)
  by_cases h : a ≤ i
  · rw [decide_eq_true h] at q ⊢
    exact ret_bl (z := 1) (by simpa using q)
  · rw [decide_eq_false h] at q ⊢
    exact ret_bl (z := 1) (by simpa using q)
/-- a list's product -/
def prod (ns : List Int) : Int := ns.foldl (· * ·) 1
theorem c_banks_of {d : Nat} {ms : List Int} {S : HS} {Q : AV → HS → Prop} (v : AV) (hv : v = .tup (ms.map .int) ∨ v = .lst (ms.map .int)) (hb : ∀ p t, ms = p ++ t → CMul (prod p) (t.headD 1)) (q : Q (.int (prod ms)) S) : wcall st.P (d + 1) 9 [v] S Q := by
  refine enter (D := d_banks_of) rfl rfl ?_
  have key : ∀ (t p : List Int) (w : Option AV), ms = p ++ t → wForL (fun _ => True) (wG st.P (wcall st.P d) (.nm 2)) (wSs st.P (wcall st.P d) (.cons (.asg (.nm 1) (.bin .Mult (.var 1) (.var 2))) .nil)) (t.map .int)
      { nx := fun σ S1 => wSs st.P (wcall st.P d) (.cons (.ret (.var 1)) .nil) { nx := fun _ S1 => retF 1 S Q .non S1, rt := retF 1 S Q } σ S1, rt := retF 1 S Q } [some v, some (.int (prod p)), w] S := by
    intro t
    induction t with
    | nil =>
      intro p w e
      rw [List.append_nil] at e
      subst e
      exact ⟨trivial, ret_int (z := 1) q⟩
    | cons m t ih =>
      intro p w e
      refine ⟨trivial, ?_⟩
      refine ⟨hb p (m :: t) e, ?_⟩
      have := ih (p ++ [m]) (some (.int m)) (by rw [e]; simp)
      have e2 : prod (p ++ [m]) = prod p * m := by simp [prod]
      rw [e2] at this
      exact this
  rcases hv with rfl | rfl
  · exact key ms [] none rfl
  · exact key ms [] none rfl
/-! ### the pen -/
def pen (cells : List Int) (at_ left : Int) : HS := [.lst [.lst (cells.map .int), .int at_, .int left]]
theorem pen_noref {cells : List Int} {a l : Int} {k : Nat} : ∀ o ∈ pen cells a l, NoRefO k o := fun o h => by
  simp only [pen, List.mem_singleton] at h
  subst h
  exact ⟨NoRefs.up (Nat.zero_le _) _ (noRefs_ints cells), trivial, trivial, trivial⟩
theorem c_draw {d : Nat} {cells : List Int} {a l many : Int} {Q : AV → HS → Prop} (hm : 1 ≤ many) (hm2 : many ≤ 1000) (ha : 0 ≤ a) (ha2 : a ≤ 100000) (hl : 0 ≤ l)
    (q : ∀ x a' l', 0 ≤ x → x < many → a ≤ a' → a' ≤ a + 1 → 0 ≤ l' → Q (.int x) (pen cells a' l')) : wcall st.P (d + 1) 18 [.ref 0, .int many] (pen cells a l) Q := by
  refine enter (D := d__law_draw) rfl rfl ?_
  have fin : ∀ x a' l', 0 ≤ x → x < many → a ≤ a' → a' ≤ a + 1 → 0 ≤ l' → retF 1 (pen cells a l) Q (.int x) (pen cells a' l') := fun x a' l' h1 h2 h3 h4 h5 => ret_int' (z := 1) rfl pen_noref (q x a' l' h1 h2 h3 h4 h5)
  have dv : many.natAbs.log2 < 9000 := by
    have h1 : many.natAbs < 2 ^ 11 := by omega
    have h2 : many.natAbs ≠ 0 := by omega
    have := (Nat.log2_lt h2).mpr h1
    omega
  show (if decide (0 < l) = true then _ else _)
  by_cases h : 0 < l
  · rw [if_pos (decide_eq_true h)]
    refine ⟨by omega, ⟨by omega, dv⟩, ?_⟩
    exact fin (l % many) a (l / many) (Int.emod_nonneg _ (by omega)) (Int.emod_lt_of_pos _ (by omega)) (by omega) (by omega) (Int.ediv_nonneg hl (by omega))
  · rw [if_neg (by simpa using h)]
    have key : ∀ c : Int, wSs st.P (wcall st.P d) (.cons (.iff (.bop .And (.cmp .Lt (.var 3) (.bi .len (.cons (.sub (.var 0) (.c (.int 0))) .nil))) (.cmp .GtE (.bi .abs (.cons (.var 4) .nil)) (.bin .Pow (.c (.int 10)) (.c (.int 18))))) (.cons (.asg (.nm 5) (.bin .Add (.bin .Mult (.c (.int 2)) (.bin .Sub (.bi .abs (.cons (.var 4) .nil)) (.bin .Pow (.c (.int 10)) (.c (.int 18))))) (.bi .int (.cons (.cmp .Lt (.var 4) (.c (.int 0))) .nil)))) (.cons (.asg (.sub (.var 0) (.c (.int 2))) (.bin .FloorDiv (.bi .int (.cons (.var 5) .nil)) (.var 1))) (.cons (.ret (.bin .Mod (.bi .int (.cons (.var 5) .nil)) (.var 1))) .nil))) .nil) (.cons (.asg (.nm 6) (.bin .Mod (.bi .int (.cons (.bin .Pow (.bin .Add (.bin .Add (.bin .Mod (.bi .int (.cons (.var 4) .nil)) (.c (.int 2147483563))) (.bin .Mult (.c (.int 77791)) (.var 3))) (.c (.int 4403))) (.c (.int 5))) .nil)) (.c (.int 2147483629)))) (.cons (.asg (.nm 6) (.bin .Mod (.bi .int (.cons (.bin .Pow (.bin .Add (.bin .Add (.bin .Mult (.var 6) (.bin .Add (.bin .Mult (.c (.int 2)) (.var 3)) (.c (.int 375)))) (.bin .Mult (.bin .Mult (.c (.int 51123)) (.var 3)) (.var 3))) (.c (.int 13))) (.c (.int 3))) .nil)) (.c (.int 2147483587)))) (.cons (.ret (.bin .Mod (.bi .int (.cons (.bin .FloorDiv (.var 6) (.c (.int 32))) .nil)) (.var 1))) .nil))))
        { nx := fun _ S1 => retF 1 (pen cells a l) Q .non S1, rt := retF 1 (pen cells a l) Q } [some (.ref 0), some (.int many), none, some (.int a), some (.int c), none, none] (pen cells (a + 1) l) := by
      intro c
      have rest : ∀ w, wSs st.P (wcall st.P d) (.cons (.asg (.nm 6) (.bin .Mod (.bi .int (.cons (.bin .Pow (.bin .Add (.bin .Add (.bin .Mod (.bi .int (.cons (.var 4) .nil)) (.c (.int 2147483563))) (.bin .Mult (.c (.int 77791)) (.var 3))) (.c (.int 4403))) (.c (.int 5))) .nil)) (.c (.int 2147483629)))) (.cons (.asg (.nm 6) (.bin .Mod (.bi .int (.cons (.bin .Pow (.bin .Add (.bin .Add (.bin .Mult (.var 6) (.bin .Add (.bin .Mult (.c (.int 2)) (.var 3)) (.c (.int 375)))) (.bin .Mult (.bin .Mult (.c (.int 51123)) (.var 3)) (.var 3))) (.c (.int 13))) (.c (.int 3))) .nil)) (.c (.int 2147483587)))) (.cons (.ret (.bin .Mod (.bi .int (.cons (.bin .FloorDiv (.var 6) (.c (.int 32))) .nil)) (.var 1))) .nil)))
        { nx := fun _ S1 => retF 1 (pen cells a l) Q .non S1, rt := retF 1 (pen cells a l) Q } [some (.ref 0), some (.int many), none, some (.int a), some (.int c), w, none] (pen cells (a + 1) l) := by
        intro w
        have b1 := Int.emod_nonneg c (show (2147483563 : Int) ≠ 0 by decide)
        have b2 := Int.emod_lt_of_pos c (show (0 : Int) < 2147483563 by decide)
        refine ⟨by decide, .inl (by decide), ⟨by decide, by decide, by omega⟩, by decide, ?_⟩
        generalize hm6 : (c % 2147483563 + 77791 * a + 4403) ^ Int.toNat 5 % 2147483629 = m6
        have b3 : 0 ≤ m6 := by rw [← hm6]; exact Int.emod_nonneg _ (by decide)
        have b4 : m6 < 2147483629 := by rw [← hm6]; exact Int.emod_lt_of_pos _ (by decide)
        refine ⟨.inl (by decide), .inl (by omega), .inl (by decide), .inl (by omega), ⟨by decide, by decide, ?_⟩, by decide, ?_⟩
        · have c1 : 0 ≤ m6 * (2 * a + 375) := Int.mul_nonneg b3 (by omega)
          have c2 : m6 * (2 * a + 375) ≤ 2147483629 * 200375 := Int.mul_le_mul (by omega) (by omega) (by omega) (by decide)
          have c3 : 0 ≤ 51123 * a * a := Int.mul_nonneg (by omega) ha
          have c4 : 51123 * a * a ≤ 5112300000 * 100000 := Int.mul_le_mul (by omega) (by omega) (by omega) (by decide)
          omega
        · generalize hm7 : (m6 * (2 * a + 375) + 51123 * a * a + 13) ^ Int.toNat 3 % 2147483587 = m7
          refine ⟨⟨by decide, by decide⟩, by omega, ?_⟩
          exact fin _ (a + 1) l (Int.emod_nonneg _ (by omega)) (Int.emod_lt_of_pos _ (by omega)) (by omega) (by omega) hl
      show (if decide (a < ((cells.map AV.int).length : Int)) = (BoolOp.And == BoolOp.Or) then _ else _)
      by_cases h2 : a < ((cells.map AV.int).length : Int)
      · rw [if_neg (by rw [decide_eq_true h2]; decide)]
        refine ⟨⟨by decide, by decide, by decide⟩, ?_⟩
        show (if decide ((10 : Int) ^ Int.toNat 18 ≤ (if c < 0 then -c else c)) = true then _ else _)
        by_cases h3 : (10 : Int) ^ Int.toNat 18 ≤ (if c < 0 then -c else c)
        · rw [if_pos (decide_eq_true h3)]
          refine ⟨⟨by decide, by decide, by decide⟩, .inl (by decide), ⟨by omega, dv⟩, by omega, ?_⟩
          generalize hg : 2 * ((if c < 0 then -c else c) - (10 : Int) ^ Int.toNat 18) + (if decide (c < 0) = true then 1 else 0) = g
          have g0 : 0 ≤ g := by
            rw [← hg]
            have : (0 : Int) ≤ (if decide (c < 0) = true then 1 else 0) := by split <;> decide
            omega
          exact fin _ (a + 1) (g / many) (Int.emod_nonneg _ (by omega)) (Int.emod_lt_of_pos _ (by omega)) (by omega) (by omega) (Int.ediv_nonneg g0 (by omega))
        · rw [if_neg (by simpa using h3)]
          exact rest none
      · rw [if_pos (by rw [decide_eq_false h2]; rfl)]
        show (if decide (a < ((cells.map AV.int).length : Int)) = true then _ else _)
        rw [if_neg (by simpa using h2)]
        exact rest none
    refine ⟨.inl (by decide), Nat.zero_le _, ?_⟩
    rw [if_pos rfl]
    refine ne_lst (ms := cells) (ns := []) ?_
    show (if (!decide (cells = [])) = true then _ else _)
    by_cases hc : cells = []
    · rw [if_neg (by simp [hc])]
      exact key _
    · rw [if_pos (by simp [hc])]
      have hpos : 0 < cells.length := List.length_pos_iff.mpr hc
      refine ⟨by simp; omega, ?_⟩
      show match L2.atI (cells.map AV.int) (a % ((cells.map AV.int).length : Int)) with
        | some v => _
        | none => False
      rw [List.length_map, at_ints (Int.emod_nonneg _ (by omega)) (Int.emod_lt_of_pos _ (by omega))]
      exact key _
/-! ### the shortest round -/
theorem c_shortest {d : Nat} {T : List Int} {S : HS} {Q : AV → HS → Prop} (hT : T ≠ []) (hl : T.length ≤ 1000)
    (q : ∀ T', Short T' → (∀ A, wt A T' = wt A T) → T'.length ∣ T.length → (∀ x ∈ T', x ∈ T) → Q (.tup (T'.map .int)) S) : wcall st.P (d + 1) 15 [.tup (T.map .int)] S Q := by
  refine enter (D := d_shortest_turn) rfl rfl ?_
  have hpos : 0 < T.length := List.length_pos_iff.mpr hT
  have key : ∀ (m i : Nat) (w : Option AV), i + m = T.length - 1 → (∀ r, 0 < r → r < 1 + i → r ∣ T.length → ¬ Back T r) →
      wForL (fun _ => True) (wG st.P (wcall st.P d) (.nm 1)) (wSs st.P (wcall st.P d) (d_shortest_turn.body.nth 0).body) ((List.range' i m).map fun j => AV.int (1 + (j : Nat)))
        { nx := wSs st.P (wcall st.P d) (d_shortest_turn.body.drop 1) { nx := fun _ S1 => retF 1 S Q .non S1, rt := retF 1 S Q }, rt := retF 1 S Q } [some (.tup (T.map .int)), w] S := by
    intro m
    induction m with
    | zero =>
      intro i w hi hr
      refine ⟨trivial, ?_⟩
      refine ret_tupI (z := 1) (q T ⟨hT, fun r h0 h1 hd hb => hr r h0 (by omega) hd hb⟩ (fun _ => rfl) (Nat.dvd_refl _) fun _ h => h)
    | succ m ih =>
      intro i w hi hr
      rw [List.range'_succ, List.map_cons]
      refine ⟨trivial, ?_⟩
      have e1 : (1 + (i : Int)) = ((1 + i : Nat) : Int) := by omega
      have next : ¬ ((1 + i) ∣ T.length ∧ Back T (1 + i)) → wForL (fun _ => True) (wG st.P (wcall st.P d) (.nm 1)) (wSs st.P (wcall st.P d) (d_shortest_turn.body.nth 0).body) ((List.range' (i + 1) m).map fun j => AV.int (1 + (j : Nat)))
        { nx := wSs st.P (wcall st.P d) (d_shortest_turn.body.drop 1) { nx := fun _ S1 => retF 1 S Q .non S1, rt := retF 1 S Q }, rt := retF 1 S Q } [some (.tup (T.map .int)), some (.int (1 + i))] S := fun hn =>
        ih (i + 1) _ (by omega) fun r h0 h1 hd hb => by
          by_cases e : r = 1 + i
          · subst e; exact hn ⟨hd, hb⟩
          · exact hr r h0 (by omega) hd hb
      refine ⟨by omega, ?_⟩
      dsimp only [wE_c]
      refine eq_int ?_
      show (if decide (((T.map AV.int).length : Int) % (1 + (i : Int)) = 0) = (BoolOp.And == BoolOp.Or) then _ else _)
      rw [List.length_map, e1]
      have em : (((T.length : Int) % ((1 + i : Nat) : Int)) = 0) ↔ (1 + i) ∣ T.length := by
        show ((T.length % (1 + i) : Nat) : Int) = 0 ↔ _
        rw [Nat.dvd_iff_mod_eq_zero]
        exact Int.natCast_eq_zero
      by_cases hd : (1 + i) ∣ T.length
      · rw [decide_eq_true (em.mpr hd), if_neg (by decide)]
        refine ⟨⟨by omega, log_small (by omega) (by omega)⟩, ?_⟩
        dsimp only
        rw [cut_head _ (by omega), Int.toNat_natCast, List.length_map]
        have hdp : 0 < T.length / (1 + i) := Nat.div_pos (Nat.le_of_dvd hpos hd) (by omega)
        have hdl : T.length / (1 + i) ≤ T.length := Nat.div_le_self _ _
        have ek : ((T.length : Int) / ((1 + i : Nat) : Int)) = ((T.length / (1 + i) : Nat) : Int) := (Int.natCast_ediv _ _).symm
        rw [ek]
        refine mul_tup ⟨by simp [hT], by omega, by omega, by simp; omega⟩ ?_
        rw [Int.toNat_natCast]
        refine eq_tup ?_
        by_cases hb : T = (List.replicate (T.length / (1 + i)) (T.take (1 + i))).flatten
        · rw [decide_eq_true hb]
          have bk := (rep_iff (by omega) hd hT).mp hb
          show retF 1 S Q (.tup (cutA (T.map AV.int) none (some ((1 + i : Nat) : Int)))) S
          rw [cut_head _ (by omega), Int.toNat_natCast]
          refine ret_tupI (z := 1) (q _ (take_short hT (by omega) hd bk fun r h0 h1 hd' hb' => hr r h0 h1 hd' hb') (take_wt hT (by omega) hd bk) ?_ fun x hx => List.mem_of_mem_take hx)
          rw [List.length_take, Nat.min_eq_left (Nat.le_of_dvd hpos hd)]
          exact hd
        · rw [decide_eq_false hb]
          exact next fun z => hb ((rep_iff (by omega) hd hT).mpr z.2)
      · rw [decide_eq_false (fun z => hd (em.mp z)), if_pos (by decide)]
        exact next fun z => hd z.1
  refine ⟨⟨⟨by decide, by decide⟩, by unfold Rg; simp; omega⟩, ?_⟩
  have e : intsA 1 ((((T.map AV.int).length : Nat) : Int) - 1).toNat = (List.range' 0 (T.length - 1)).map fun j => AV.int (1 + (j : Nat)) := by
    unfold intsA
    rw [List.range_eq_range', List.length_map]
    congr 2
    omega
  rw [e]
  exact key (T.length - 1) 0 none (by omega) fun r h0 h1 => by omega
/-! ### the normal form -/
theorem c_normal {d : Nat} {A T : List Int} {S : HS} {Q : AV → HS → Prop} (va vt : AV) (ha : va = .tup (A.map .int) ∨ va = .lst (A.map .int)) (ht : vt = .tup (T.map .int) ∨ vt = .lst (T.map .int)) (hT : T ≠ []) (hl : T.length ≤ 1000) (hA : A.length ≤ 1000)
    (q : ∀ A' T', Normal A' T' → wt A' T' = wt A T → A'.length ≤ A.length → T'.length ≤ T.length → (∀ x ∈ A', x ∈ A) → (∀ x ∈ T', x ∈ T) → Q (.tup [.tup (A'.map .int), .tup (T'.map .int)]) S) : wcall st.P (d + 2) 7 [va, vt] S Q := by
  refine enter (D := d_normal_weights) rfl rfl ?_
  have main : wcall st.P (d + 1) 15 [.tup (T.map .int)] S fun v1 S1 => wSs st.P (wcall st.P (d + 1)) (d_normal_weights.body.drop 2) { nx := fun _ S1 => retF 1 S Q .non S1, rt := retF 1 S Q } [some (.tup (A.map .int)), some v1] S1 := by
    refine c_shortest hT hl fun T1 s1 w1 d1 m1 => ?_
    have l1 : T1.length ≤ T.length := Nat.le_of_dvd (List.length_pos_iff.mpr hT) d1
    refine ⟨fun m σ S' => S' = S ∧ ∃ A' T', σ = [some (.tup (A'.map .int)), some (.tup (T'.map .int))] ∧ m = A'.length ∧ Short T' ∧ wt A' T' = wt A T ∧ A'.length ≤ A.length ∧ T'.length ≤ T.length ∧ (∀ x ∈ A', x ∈ A) ∧ (∀ x ∈ T', x ∈ T),
      ⟨A.length, rfl, A, T1, rfl, rfl, s1, w1 A, Nat.le_refl _, l1, fun _ h => h, m1⟩, ?_⟩
    rintro m σ S' ⟨rfl, A', T', rfl, rfl, sh, hw, hA', hT', mA, mT⟩
    have fin : Normal A' T' → retF 1 S' Q (.tup [.tup (A'.map .int), .tup (T'.map .int)]) S' := fun hn => ret_same (z := 1) (noRefs_tups [A', T']) (q A' T' hn hw hA' hT' mA mT)
    show (if decide (0 < ((A'.map AV.int).length : Int)) = (BoolOp.And == BoolOp.Or) then _ else _)
    by_cases h0 : A' = []
    · subst h0
      rw [if_pos (by decide)]
      exact ⟨by show 2 ≤ LINE; decide, fin ⟨sh, fun h => absurd rfl h⟩⟩
    · have hp : 0 < A'.length := List.length_pos_iff.mpr h0
      rw [if_neg (by rw [List.length_map, decide_eq_true (by omega)]; decide)]
      refine cmp_last (A := A') (T := T') rfl rfl h0 sh.1 ?_
      show (if decide (A'.getLast h0 = T'.getLast sh.1) = true then _ else _)
      by_cases he : A'.getLast h0 = T'.getLast sh.1
      · rw [if_pos (decide_eq_true he)]
        rw [wSs_cons, wS_asg, wE_tup, wEs_cons]
        refine sub_last (ns := T') rfl sh.1 ?_
        show (AV.int (T'.getLast sh.1) :: (cutA (T'.map AV.int) none (some (-1)) ++ [])).length ≤ LINE ∧ ∃ m', m' < A'.length ∧ S' = S' ∧ ∃ A2 T2, [some (AV.tup (cutA (A'.map AV.int) none (some (-1)))), some (AV.tup (AV.int (T'.getLast sh.1) :: (cutA (T'.map AV.int) none (some (-1)) ++ [])))] = [some (AV.tup (A2.map .int)), some (AV.tup (T2.map .int))] ∧
          m' = A2.length ∧ Short T2 ∧ wt A2 T2 = wt A T ∧ A2.length ≤ A.length ∧ T2.length ≤ T.length ∧ (∀ x ∈ A2, x ∈ A) ∧ (∀ x ∈ T2, x ∈ T)
        rw [cut_init, cut_init, List.append_nil]
        have tl := turned_len sh.1
        refine ⟨?_, A'.length - 1, by omega, rfl, A'.dropLast, turned T' sh.1, rfl, by rw [List.length_dropLast], turned_short sh, (turned_wt h0 sh.1 he).trans hw, by rw [List.length_dropLast]; omega, by omega, fun x hx => mA x (List.dropLast_subset _ hx), fun x hx => ?_⟩
        · have : (AV.int (T'.getLast sh.1) :: T'.dropLast.map AV.int).length = T'.length := by
            rw [List.length_cons, List.length_map, List.length_dropLast]
            have := List.length_pos_iff.mpr sh.1
            omega
          rw [this]
          unfold LINE
          omega
        · unfold turned at hx
          rcases List.mem_cons.mp hx with e | hx
          · rw [e]; exact mT _ (List.getLast_mem _)
          · exact mT x (List.dropLast_subset _ hx)
      · rw [if_neg (by simpa using he)]
        exact ⟨by show 2 ≤ LINE; decide, fin ⟨sh, fun _ _ => he⟩⟩
  rcases ha with rfl | rfl <;> rcases ht with rfl | rfl <;> exact main
/-! ### what a rule asks -/
theorem c_are_banks {d : Nat} {ns : List Int} {b : Int} {S : HS} {Q : AV → HS → Prop} (v : AV) (hv : v = .tup (ns.map .int) ∨ v = .lst (ns.map .int)) (hl : ns.length ≤ 1000) (hb : ∀ x ∈ ns, 0 ≤ x ∧ x ≤ b - 1) (q : Q (.bl true) S) : wcall st.P (d + 3) 8 [v, .int b] S Q := by
  refine enter (D := d_are_banks) rfl rfl ?_
  have inner : ∀ K : List AV → HS → Prop, K (ns.map fun _ => .bl true) S → wLcL (fun _ => True) (fun x S => wG st.P (wcall st.P (d + 2)) (.nm 2) x (wipeA [some v, some (.int b), none] [2]) S) (wTs st.P (wcall st.P (d + 2)) .nil)
      (wE st.P (wcall st.P (d + 2)) (.call 16 (.cons (.var 2) (.cons (.c (.int 0)) (.cons (.bin .Sub (.var 1) (.c (.int 1))) .nil))))) (ns.map .int) [] S K := fun K k => by
    refine lc_nm (f := fun _ => .bl true) trivial _ _ _ (by simp; unfold LINE; omega) (fun x hx K' k' => ?_) (by rw [List.nil_append, List.map_map]; exact k)
    obtain ⟨n, hn, rfl⟩ := List.mem_map.mp hx
    refine c_is_within ?_
    have := hb n hn
    rw [decide_eq_true this.1, decide_eq_true this.2]
    exact k'
  have fin : (((ns.map fun _ => AV.bl true).all fun v => (isB v).isSome) = true ∧ retF 1 S Q (.bl ((ns.map fun _ => AV.bl true).all fun v => (isB v).getD false)) S) := by
    have e1 : ((ns.map fun _ => AV.bl true).all fun v => (isB v).isSome) = true := by simp [isB]
    have e2 : ((ns.map fun _ => AV.bl true).all fun v => (isB v).getD false) = true := by simp [isB]
    rw [e2]
    exact ⟨e1, ret_bl (z := 1) q⟩
  rcases hv with rfl | rfl
  · exact inner _ fin
  · exact inner _ fin
theorem c_are_moduli {d : Nat} {ms : List Int} {S : HS} {Q : AV → HS → Prop} (v : AV) (hv : v = .tup (ms.map .int) ∨ v = .lst (ms.map .int)) (h1 : ms ≠ []) (h5 : ms.length ≤ 5) (hb : ∀ x ∈ ms, 2 ≤ x ∧ x ≤ 32) (hp : prod ms ≤ 32) (q : Q (.bl true) S) : wcall st.P (d + 3) 10 [v] S Q := by
  refine enter (D := d_are_moduli) rfl rfl ?_
  have hl : 0 < ms.length := List.length_pos_iff.mpr h1
  have inner : ∀ K : List AV → HS → Prop, K (ms.map fun _ => .bl true) S → wLcL (fun _ => True) (fun x S => wG st.P (wcall st.P (d + 2)) (.nm 1) x (wipeA [some v, none] [1]) S) (wTs st.P (wcall st.P (d + 2)) .nil)
      (wE st.P (wcall st.P (d + 2)) (.call 16 (.cons (.var 1) (.cons (.c (.int 2)) (.cons (.glo "MOST_BANKS" (.int 32)) .nil))))) (ms.map .int) [] S K := fun K k => by
    refine lc_nm (f := fun _ => .bl true) trivial _ _ _ (by simp; unfold LINE; omega) (fun x hx K' k' => ?_) (by rw [List.nil_append, List.map_map]; exact k)
    obtain ⟨n, hn, rfl⟩ := List.mem_map.mp hx
    refine c_is_within ?_
    have := hb n hn
    rw [decide_eq_true this.1, decide_eq_true this.2]
    exact k'
  have last : wSs st.P (wcall st.P (d + 2)) (d_are_moduli.body.drop 2) { nx := fun _ S1 => retF 1 S Q .non S1, rt := retF 1 S Q } [some v, none] S := by
    refine c_banks_of v hv (fun p t e => .inr ?_) ?_
    · cases t with
      | nil => exact ⟨by decide, by decide⟩
      | cons m t =>
        have := hb m (by rw [e]; simp)
        show -(2 ^ 64) < m ∧ m < 2 ^ 64
        omega
    · show retF 1 S Q (.bl (decide (prod ms ≤ 32))) S
      rw [decide_eq_true hp]
      exact ret_bl (z := 1) q
  have fin : (((ms.map fun _ => AV.bl true).all fun v => (isB v).isSome) = true ∧ (if (!((ms.map fun _ => AV.bl true).all fun v => (isB v).getD false)) = true then retF 1 S Q (.bl false) S else wSs st.P (wcall st.P (d + 2)) (d_are_moduli.body.drop 2) { nx := fun _ S1 => retF 1 S Q .non S1, rt := retF 1 S Q } [some v, none] S)) := by
    have e1 : ((ms.map fun _ => AV.bl true).all fun v => (isB v).isSome) = true := by simp [isB]
    have e2 : ((ms.map fun _ => AV.bl true).all fun v => (isB v).getD false) = true := by simp [isB]
    rw [e2]
    exact ⟨e1, last⟩
  have g1 : decide ((1 : Int) ≤ ((ms.map AV.int).length : Int)) = true := by rw [List.length_map]; exact decide_eq_true (by omega)
  have g2 : decide (((ms.map AV.int).length : Int) ≤ 5) = true := by rw [List.length_map]; exact decide_eq_true (by omega)
  rcases hv with rfl | rfl
  · show (if decide ((1 : Int) ≤ ((ms.map AV.int).length : Int)) = true then _ else _)
    rw [if_pos g1]
    show (if (!decide (((ms.map AV.int).length : Int) ≤ 5)) = true then _ else _)
    rw [g2]
    exact inner _ fin
  · show (if decide ((1 : Int) ≤ ((ms.map AV.int).length : Int)) = true then _ else _)
    rw [if_pos g1]
    show (if (!decide (((ms.map AV.int).length : Int) ≤ 5)) = true then _ else _)
    rw [g2]
    exact inner _ fin
/-! ### a rule is made -/
/-- plain moduli, ahead, round of a rule -/
structure Good (M A T : List Int) : Prop where
  m1 : M ≠ []
  m5 : M.length ≤ 5
  mb : ∀ x ∈ M, 2 ≤ x ∧ x ≤ 32
  mp : prod M ≤ 32
  ab : ∀ x ∈ A, 0 ≤ x ∧ x ≤ prod M - 1
  tb : ∀ x ∈ T, 0 ≤ x ∧ x ≤ prod M - 1
  t1 : T ≠ []
  len : A.length + T.length ≤ 24
def Seq (v : AV) (ns : List Int) : Prop := v = .tup (ns.map .int) ∨ v = .lst (ns.map .int)
theorem Good.cm {M A T : List Int} (g : Good M A T) : ∀ p t, M = p ++ t → CMul (prod p) (t.headD 1) := fun p t e => .inr (by
  cases t with
  | nil => exact ⟨by decide, by decide⟩
  | cons m t =>
    have := g.mb m (by rw [e]; simp)
    show -(2 ^ 64) < m ∧ m < 2 ^ 64
    omega)
theorem c_init {d n : Nat} {M A T : List Int} {S : HS} {Q : AV → HS → Prop} {vm va vt : AV} (g : Good M A T) (hm : Seq vm M) (ha : Seq va A) (ht : Seq vt T) (hn : n = S.length)
    (q : ∀ A' T', Normal A' T' → wt A' T' = wt A T → Good M A' T' → Q .non (S ++ [.ins 0 [0, 1, 2] [.tup (M.map .int), .tup (A'.map .int), .tup (T'.map .int)]])) : wcall st.P (d + 4) 1 [.ref n, vm, va, vt] (S ++ [.ins 0 [] []]) Q := by
  subst hn
  refine enter (D := d_Rule_init) rfl rfl ?_
  refine c_are_moduli vm hm g.m1 g.m5 g.mb g.mp ?_
  refine c_banks_of vm hm g.cm ?_
  refine c_are_banks va ha (by have := g.len; omega) g.ab ?_
  refine c_banks_of vm hm g.cm ?_
  refine c_are_banks vt ht (by have := g.len; omega) g.tb ?_
  have tail : wSs st.P (wcall st.P (d + 3)) (d_Rule_init.body.drop 3) { nx := fun _ S1 => retF 1 (S ++ [.ins 0 [] []]) Q .non S1, rt := retF 1 (S ++ [.ins 0 [] []]) Q } [some (.ref S.length), some vm, some va, some vt] (S ++ [.ins 0 [] []]) := by
    refine c_normal va vt ha ht g.t1 (by have := g.len; omega) (by have := g.len; omega) fun A' T' hn hw lA lT mA mT => ?_
    have g' : Good M A' T' := ⟨g.m1, g.m5, g.mb, g.mp, fun x hx => g.ab x (mA x hx), fun x hx => g.tb x (mT x hx), hn.short.1, by have := g.len; omega⟩
    refine ⟨rfl, ?_⟩
    have hs : decide ((24 : Int) < (((A'.map AV.int).length : Int) + ((T'.map AV.int).length : Int))) = false := decide_eq_false (by have := g'.len; simp only [List.length_map]; omega)
    show (if decide ((24 : Int) < (((A'.map AV.int).length : Int) + ((T'.map AV.int).length : Int))) = true then wSs st.P (wcall st.P (d + 3)) (.cons .never .nil) _ _ _ else wSs st.P (wcall st.P (d + 3)) (d_Rule_init.body.drop 5) { nx := fun _ S1 => retF 1 (S ++ [.ins 0 [] []]) Q .non S1, rt := retF 1 (S ++ [.ins 0 [] []]) Q } [some (.ref S.length), some vm, some (.tup (A'.map .int)), some (.tup (T'.map .int))] (S ++ [.ins 0 [] []]))
    rw [if_neg (by rw [hs]; decide)]
    have e5 : d_Rule_init.body.drop 5 = .cons (.asg (.att (.var 0) 0) (.bi .tuple (.cons (.var 1) .nil))) (.cons (.asg (.att (.var 0) 1) (.var 2)) (.cons (.asg (.att (.var 0) 2) (.var 3)) .nil)) := rfl
    rw [e5, wSs_cons, wS_asg, wE_bi, wEs_cons, wE_var rfl, wEs_nil]
    have f : wG st.P (wcall st.P (d + 3)) (.att (.var 0) 0) (.tup (M.map .int)) [some (.ref S.length), some vm, some (.tup (A'.map .int)), some (.tup (T'.map .int))] (S ++ [.ins 0 [] []]) (wSs st.P (wcall st.P (d + 3)) (.cons (.asg (.att (.var 0) 1) (.var 2)) (.cons (.asg (.att (.var 0) 2) (.var 3)) .nil)) { nx := fun _ S1 => retF 1 (S ++ [.ins 0 [] []]) Q .non S1, rt := retF 1 (S ++ [.ins 0 [] []]) Q }) := by
      refine att_new rfl (by decide) (by decide) ?_
      show wG st.P (wcall st.P (d + 3)) (.att (.var 0) 1) (.tup (A'.map .int)) [some (.ref S.length), some vm, some (.tup (A'.map .int)), some (.tup (T'.map .int))] (S ++ [.ins 0 [0] [.tup (M.map .int)]]) (wSs st.P (wcall st.P (d + 3)) (.cons (.asg (.att (.var 0) 2) (.var 3)) .nil) { nx := fun _ S1 => retF 1 (S ++ [.ins 0 [] []]) Q .non S1, rt := retF 1 (S ++ [.ins 0 [] []]) Q })
      refine att_new rfl (by decide) (by show 1 < 1000; decide) ?_
      show wG st.P (wcall st.P (d + 3)) (.att (.var 0) 2) (.tup (T'.map .int)) [some (.ref S.length), some vm, some (.tup (A'.map .int)), some (.tup (T'.map .int))] (S ++ [.ins 0 [0, 1] [.tup (M.map .int), .tup (A'.map .int)]]) (fun _ S1 => retF 1 (S ++ [.ins 0 [] []]) Q .non S1)
      refine att_new rfl (by decide) (by show 2 < 1000; decide) ?_
      exact ret_made (noRefs_tups [M, A', T']) (q A' T' hn hw g')
    rcases hm with rfl | rfl
    · exact f
    · exact f
  have hl : decide ((T.length : Int) = 0) = false := decide_eq_false (by have := List.length_pos_iff.mpr g.t1; omega)
  dsimp only [wUn_not, wTru_bl]
  rw [if_neg (by decide)]
  rcases ht with rfl | rfl
  · rw [wE_cmp, wE_bi, wEs_cons, wE_var rfl, wEs_nil]
    refine len_tup ?_
    rw [wE_c]
    refine MP.eq_int ?_
    rw [hl]
    exact tail
  · rw [wE_cmp, wE_bi, wEs_cons, wE_var rfl, wEs_nil]
    refine len_lst ?_
    rw [wE_c]
    refine MP.eq_int ?_
    rw [hl]
    exact tail
end K17
namespace K17
open PySem PySem.Spec L2 MP
open PyProof.Rows hiding St
/-- a kept rule -/
abbrev Ru (M A T : List Int) : AV := .obj 0 [0, 1, 2] [.tup (M.map .int), .tup (A.map .int), .tup (T.map .int)]
/-- a plain rule -/
abbrev Pl (M A T : List Int) : AV := .tup [.tup (M.map .int), .tup (A.map .int), .tup (T.map .int)]
theorem w_new {d : Nat} {M A T : List Int} {S : HS} {Q : AV → HS → Prop} {vm va vt : AV} (g : Good M A T) (hm : Seq vm M) (ha : Seq va A) (ht : Seq vt T)
    (q : ∀ A' T', Normal A' T' → wt A' T' = wt A T → Good M A' T' → Q (Ru M A' T') S) : wNew st.P (wcall st.P (d + 4)) 0 [vm, va, vt] S Q :=
  new_frz (ws := []) (ns := []) (wcall_mono _) rfl rfl (c_init g hm ha ht rfl fun A' T' hn hw g' => ⟨rfl, _, _, rfl, noRefs_tups [M, A', T'], q A' T' hn hw g'⟩)
theorem c_lawnormal {d : Nat} {M A T : List Int} {S : HS} {Q : AV → HS → Prop} (hT : T ≠ []) (hl : T.length ≤ 1000) (hA : A.length ≤ 1000)
    (q : ∀ A' T', Normal A' T' → wt A' T' = wt A T → Q (Pl M A' T') S) : wcall st.P (d + 1) 13 [Pl M A T] S Q := by
  refine enter (D := d__law_normal) rfl rfl ?_
  refine ⟨rfl, ?_⟩
  have hpos : 0 < T.length := List.length_pos_iff.mpr hT
  have loop2 : ∀ (T1 : List Int) (w : Option AV), Short T1 → (∀ A, wt A T1 = wt A T) → T1.length ≤ T.length →
      wSs st.P (wcall st.P d) (d__law_normal.body.drop 2) { nx := fun _ S1 => retF 1 S Q .non S1, rt := retF 1 S Q } [some (Pl M A T), some (.tup (M.map .int)), some (.tup (A.map .int)), some (.tup (T1.map .int)), w] S := by
    intro T1 w s1 w1 l1
    refine ⟨fun m σ S' => S' = S ∧ ∃ A' T', σ = [some (Pl M A T), some (.tup (M.map .int)), some (.tup (A'.map .int)), some (.tup (T'.map .int)), w] ∧ m = A'.length ∧ Short T' ∧ wt A' T' = wt A T ∧ A'.length ≤ A.length ∧ T'.length ≤ T.length,
      ⟨A.length, rfl, A, T1, rfl, rfl, s1, w1 A, Nat.le_refl _, l1⟩, ?_⟩
    rintro m σ S' ⟨rfl, A', T', rfl, rfl, sh, hw, hA', hT'⟩
    have fin : Normal A' T' → retF 1 S' Q (Pl M A' T') S' := fun hn => ret_same (z := 1) (noRefs_tups [M, A', T']) (q A' T' hn hw)
    refine ⟨Nat.zero_le _, ?_⟩
    refine ne_tup (ms := A') (ns := []) ?_
    show (if (!decide (A' = [])) = (BoolOp.And == BoolOp.Or) then _ else _)
    by_cases h0 : A' = []
    · subst h0
      rw [if_pos (by decide)]
      exact ⟨by show 3 ≤ LINE; decide, fin ⟨sh, fun h => absurd rfl h⟩⟩
    · have hp : 0 < A'.length := List.length_pos_iff.mpr h0
      rw [if_neg (by rw [decide_eq_false h0]; decide)]
      refine cmp_last (A := A') (T := T') rfl rfl h0 sh.1 ?_
      show (if decide (A'.getLast h0 = T'.getLast sh.1) = true then _ else _)
      by_cases he : A'.getLast h0 = T'.getLast sh.1
      · rw [if_pos (decide_eq_true he)]
        show (cutA (T'.map AV.int) (some (-1)) none).length + (cutA (T'.map AV.int) none (some (-1))).length ≤ LINE ∧ ∃ m', m' < A'.length ∧ S' = S' ∧ ∃ A2 T2, [some (Pl M A T), some (.tup (M.map .int)), some (AV.tup (cutA (A'.map AV.int) none (some (-1)))), some (AV.tup (cutA (T'.map AV.int) (some (-1)) none ++ cutA (T'.map AV.int) none (some (-1)))), w] = [some (Pl M A T), some (.tup (M.map .int)), some (AV.tup (A2.map .int)), some (AV.tup (T2.map .int)), w] ∧
          m' = A2.length ∧ Short T2 ∧ wt A2 T2 = wt A T ∧ A2.length ≤ A.length ∧ T2.length ≤ T.length
        rw [cut_init, cut_init, cut_last sh.1]
        have tl := turned_len sh.1
        refine ⟨?_, A'.length - 1, by omega, rfl, A'.dropLast, turned T' sh.1, rfl, by rw [List.length_dropLast], turned_short sh, (turned_wt h0 sh.1 he).trans hw, by rw [List.length_dropLast]; omega, by omega⟩
        rw [List.length_map, List.length_dropLast]
        unfold LINE
        simp
        omega
      · rw [if_neg (by simpa using he)]
        exact ⟨by show 3 ≤ LINE; decide, fin ⟨sh, fun _ _ => he⟩⟩
  have key : ∀ (m i : Nat) (T1 : List Int) (w : Option AV), i + m = T.length → T1 ≠ [] → T1.length ≤ T.length → (∀ A, wt A T1 = wt A T) → (∀ r, T.length - i < r → r < T1.length → r ∣ T1.length → ¬ Back T1 r) →
      wForL (fun _ => True) (wG st.P (wcall st.P d) (.nm 4)) (wSs st.P (wcall st.P d) (d__law_normal.body.nth 1).body) ((List.range' i m).map fun j => AV.int ((T.length : Int) + (j : Nat) * (-1)))
        { nx := wSs st.P (wcall st.P d) (d__law_normal.body.drop 2) { nx := fun _ S1 => retF 1 S Q .non S1, rt := retF 1 S Q }, rt := retF 1 S Q } [some (Pl M A T), some (.tup (M.map .int)), some (.tup (A.map .int)), some (.tup (T1.map .int)), w] S := by
    intro m
    induction m with
    | zero =>
      intro i T1 w hi h1 hl1 hw hr
      exact ⟨trivial, loop2 T1 w ⟨h1, fun r h0 hlt hd hb => hr r (by omega) hlt hd hb⟩ hw hl1⟩
    | succ m ih =>
      intro i T1 w hi h1 hl1 hw hr
      rw [List.range'_succ, List.map_cons]
      refine ⟨trivial, ?_⟩
      have hpos1 : 0 < T1.length := List.length_pos_iff.mpr h1
      obtain ⟨c, hc⟩ : ∃ c : Nat, c = T.length - i := ⟨_, rfl⟩
      have e1 : ((T.length : Int) + (i : Nat) * (-1)) = (c : Int) := by omega
      have next : ¬ (c ∣ T1.length ∧ Back T1 c) → wForL (fun _ => True) (wG st.P (wcall st.P d) (.nm 4)) (wSs st.P (wcall st.P d) (d__law_normal.body.nth 1).body) ((List.range' (i + 1) m).map fun j => AV.int ((T.length : Int) + (j : Nat) * (-1)))
        { nx := wSs st.P (wcall st.P d) (d__law_normal.body.drop 2) { nx := fun _ S1 => retF 1 S Q .non S1, rt := retF 1 S Q }, rt := retF 1 S Q } [some (Pl M A T), some (.tup (M.map .int)), some (.tup (A.map .int)), some (.tup (T1.map .int)), some (.int c)] S := fun hn =>
        ih (i + 1) T1 _ (by omega) h1 hl1 hw fun r h0 hlt hd hb => by
          by_cases e : r = c
          · subst e; exact hn ⟨hd, hb⟩
          · exact hr r (by omega) hlt hd hb
      rw [e1]
      refine ⟨by omega, ?_⟩
      dsimp only [wE_c]
      refine MP.eq_int ?_
      show (if decide (((T1.map AV.int).length : Int) % (c : Int) = 0) = (BoolOp.And == BoolOp.Or) then _ else _)
      rw [List.length_map]
      have em : (((T1.length : Int) % (c : Int)) = 0) ↔ c ∣ T1.length := by
        show ((T1.length % c : Nat) : Int) = 0 ↔ _
        rw [Nat.dvd_iff_mod_eq_zero]
        exact Int.natCast_eq_zero
      by_cases hd : c ∣ T1.length
      · rw [decide_eq_true (em.mpr hd), if_neg (by decide)]
        refine ⟨⟨by omega, log_small (by omega) (by omega)⟩, ?_⟩
        dsimp only
        rw [cut_head _ (by omega), Int.toNat_natCast, List.length_map]
        have hdp : 0 < T1.length / c := Nat.div_pos (Nat.le_of_dvd hpos1 hd) (by omega)
        have hdl : T1.length / c ≤ T1.length := Nat.div_le_self _ _
        have ek : ((T1.length : Int) / (c : Int)) = ((T1.length / c : Nat) : Int) := (Int.natCast_ediv _ _).symm
        rw [ek]
        have hc0 : 0 < c := by omega
        have hcl := Nat.le_of_dvd hpos1 hd
        refine mul_tup ⟨fun z => by rw [List.take_eq_nil_iff] at z; rcases z with z | z; omega; exact h1 z, by omega, by omega, by rw [List.length_take]; omega⟩ ?_
        rw [Int.toNat_natCast]
        refine eq_tup ?_
        by_cases hb : T1 = (List.replicate (T1.length / c) (T1.take c)).flatten
        · rw [decide_eq_true hb]
          have bk := (rep_iff hc0 hd h1).mp hb
          have lt : (T1.take c).length = c := by rw [List.length_take]; omega
          show wForL (fun _ => True) (wG st.P (wcall st.P d) (.nm 4)) (wSs st.P (wcall st.P d) (d__law_normal.body.nth 1).body) ((List.range' (i + 1) m).map fun j => AV.int ((T.length : Int) + (j : Nat) * (-1)))
            { nx := wSs st.P (wcall st.P d) (d__law_normal.body.drop 2) { nx := fun _ S1 => retF 1 S Q .non S1, rt := retF 1 S Q }, rt := retF 1 S Q } [some (Pl M A T), some (.tup (M.map .int)), some (.tup (A.map .int)), some (.tup (cutA (T1.map AV.int) none (some (c : Int)))), some (.int c)] S
          rw [cut_head _ (by omega), Int.toNat_natCast]
          refine ih (i + 1) (T1.take c) _ (by omega) (fun z => by rw [z] at lt; simp at lt; omega) (by omega) (fun A => by rw [take_wt h1 hc0 hd bk A, hw A]) fun r h0 hlt => ?_
          rw [lt] at hlt
          omega
        · rw [decide_eq_false hb]
          exact next fun z => hb ((rep_iff hc0 hd h1).mpr z.2)
      · rw [decide_eq_false (fun z => hd (em.mp z)), if_pos (by decide)]
        exact next fun z => hd z.1
  have rs : Builtin.Range.rangeSize ((T.map AV.int).length : Int) 0 (-1) = ((T.length : Nat) : Int) := by
    rw [List.length_map]
    unfold Builtin.Range.rangeSize
    rw [if_neg (by decide), if_pos (by omega), show (-(-1) : Int) = 1 from rfl, Int.ediv_one]
    omega
  have rg : RgC ((T.map AV.int).length : Int) 0 (-1) (Builtin.Range.rangeSize ((T.map AV.int).length : Int) 0 (-1)).toNat := by
    have h := RgC.neg (i := ((T.map AV.int).length : Int)) (j := 0) (by rw [List.length_map]; omega) (by rw [List.length_map]; omega) (by decide) (by decide)
    rw [rs]
    rw [List.length_map] at h ⊢
    simpa using h
  refine ⟨rg, ?_⟩
  have e : stepsA ((T.map AV.int).length : Int) (-1) (Builtin.Range.rangeSize ((T.map AV.int).length : Int) 0 (-1)).toNat = (List.range' 0 T.length).map fun j => AV.int ((T.length : Int) + (j : Nat) * (-1)) := by
    rw [rs]
    unfold stepsA
    rw [List.range_eq_range', List.length_map, Int.toNat_natCast]
  rw [e]
  exact key T.length 0 T none (by omega) hT (Nat.le_refl _) (fun _ => rfl) fun r h0 h1 => by omega
/-! ### a rule asked -/
theorem c_eq {d : Nat} {M A T M' A' T' : List Int} {S : HS} {Q : AV → HS → Prop} (q : Q (.bl (decide (M = M') && (decide (A = A') && decide (T = T')))) S) : wcall st.P (d + 1) 2 [Ru M A T, Ru M' A' T'] S Q := by
  refine enter (D := d_Rule_eq) rfl rfl ?_
  refine ⟨by decide, by decide, ?_⟩
  refine ne_tup ?_
  by_cases h : M = M'
  · subst h
    rw [decide_eq_true rfl]
    refine ⟨by decide, by decide, ?_⟩
    refine eq_tup ?_
    by_cases h2 : A = A'
    · subst h2
      rw [decide_eq_true rfl]
      refine ⟨by decide, by decide, ?_⟩
      refine eq_tup ?_
      refine ret_bl (z := 1) ?_
      simpa using q
    · rw [decide_eq_false h2]
      refine ret_bl (z := 1) ?_
      simpa [h2] using q
  · rw [decide_eq_false h]
    refine ret_bl (z := 1) ?_
    simpa [h] using q
theorem eq_ru {d : Nat} {M A T M' A' T' : List Int} {S : HS} {Q : Bool → HS → Prop} (q : Q (decide (M = M') && (decide (A = A') && decide (T = T'))) S) : wCmp st.P (wcall st.P (d + 1)) .Eq (Ru M A T) (Ru M' A' T') S Q :=
  ⟨rfl, c_eq q⟩
theorem ne_ru {d : Nat} {M A T M' A' T' : List Int} {S : HS} {Q : Bool → HS → Prop} (q : Q (!(decide (M = M') && (decide (A = A') && decide (T = T')))) S) : wCmp st.P (wcall st.P (d + 1)) .NotEq (Ru M A T) (Ru M' A' T') S Q :=
  ⟨rfl, c_eq q⟩
theorem eq_ru_tup {d : Nat} {M A T : List Int} {xs : List AV} {S : HS} {Q : Bool → HS → Prop} (q : Q false S) : wCmp st.P (wcall st.P (d + 1)) .Eq (Ru M A T) (.tup xs) S Q := by
  refine ⟨rfl, ?_⟩
  refine enter (D := d_Rule_eq) rfl rfl ?_
  show retF 1 S (fun v S1 => match v with | .bl b => Q b S1 | _ => False) (.bl false) S
  exact ret_bl (z := 1) (b := false) q
theorem c_classes {d : Nat} {M A T : List Int} {S : HS} {Q : AV → HS → Prop} (h : A.length + T.length ≤ 1000) (q : Q (.int ((A.length : Int) + (T.length : Int))) S) : wcall st.P (d + 1) 3 [Ru M A T] S Q := by
  refine enter (D := d_Rule_classes) rfl rfl ?_
  refine ⟨by decide, by decide, ?_⟩
  refine ⟨by simp; unfold LINE; omega, ?_⟩
  show retF 1 S Q (.int ((A.map AV.int ++ (T.map AV.int ++ [])).length : Int)) S
  have e : ((A.map AV.int ++ (T.map AV.int ++ [])).length : Int) = (A.length : Int) + (T.length : Int) := by simp
  rw [e]
  exact ret_int (z := 1) q
theorem c_is_cut {d : Nat} {M A T : List Int} {S : HS} {Q : AV → HS → Prop} (q : Q (.bl (decide (T = [0]))) S) : wcall st.P (d + 1) 4 [Ru M A T] S Q := by
  refine enter (D := d_Rule_is_cut) rfl rfl ?_
  refine ⟨by decide, by show 1 ≤ LINE; decide, ?_⟩
  exact eq_tup (ms := T) (ns := [0]) (ret_bl (z := 1) q)
theorem c_banks {d : Nat} {M A T : List Int} {S : HS} {Q : AV → HS → Prop} (hb : ∀ p t, M = p ++ t → CMul (prod p) (t.headD 1)) (q : Q (.int (prod M)) S) : wcall st.P (d + 1) 12 [Ru M A T] S Q := by
  refine enter (D := d_Rule_banks) rfl rfl ?_
  have key : ∀ (t p : List Int) (w : Option AV), M = p ++ t → wForL (fun _ => True) (wG st.P (wcall st.P d) (.nm 2)) (wSs st.P (wcall st.P d) (.cons (.asg (.nm 1) (.bin .Mult (.var 1) (.var 2))) .nil)) (t.map .int)
      { nx := fun σ S1 => wSs st.P (wcall st.P d) (.cons (.ret (.var 1)) .nil) { nx := fun _ S1 => retF 1 S Q .non S1, rt := retF 1 S Q } σ S1, rt := retF 1 S Q } [some (Ru M A T), some (.int (prod p)), w] S := by
    intro t
    induction t with
    | nil =>
      intro p w e
      rw [List.append_nil] at e
      subst e
      exact ⟨trivial, ret_int (z := 1) q⟩
    | cons m t ih =>
      intro p w e
      refine ⟨trivial, ?_⟩
      refine ⟨hb p (m :: t) e, ?_⟩
      have := ih (p ++ [m]) (some (.int m)) (by rw [e]; simp)
      have e2 : prod (p ++ [m]) = prod p * m := by simp [prod]
      rw [e2] at this
      exact this
  exact ⟨by decide, key M [] none rfl⟩
end K17
namespace K17
open PySem PySem.Spec L2 MP
open PyProof.Rows hiding St
theorem c_weight {d n : Nat} {M A T : List Int} {S : HS} {Q : AV → HS → Prop} (hT : T ≠ []) (q : Q (.int (wt A T n)) S) : wcall st.P (d + 1) 17 [Pl M A T, .int n] S Q := by
  have hpos : 0 < T.length := List.length_pos_iff.mpr hT
  refine enter (D := d__law_weight) rfl rfl ?_
  refine ⟨rfl, ?_⟩
  show (if decide ((n : Int) < ((A.map AV.int).length : Int)) = true then _ else _)
  rw [List.length_map]
  by_cases h : n < A.length
  · rw [if_pos (by simpa using h)]
    show match L2.atI (A.map AV.int) (n : Int) with
      | some v => _
      | none => False
    rw [at_ints (by omega) (by omega), Int.toNat_natCast]
    have e : wt A T n = A.getD n 0 := by unfold wt; rw [if_pos h]
    rw [e] at q
    exact ret_int (z := 1) q
  · rw [if_neg (by simpa using h)]
    refine ⟨by show (0 : Int) < ((T.map AV.int).length : Int); rw [List.length_map]; omega, ?_⟩
    show match L2.atI (T.map AV.int) (((n : Int) - ((A.map AV.int).length : Int)) % ((T.map AV.int).length : Int)) with
      | some v => _
      | none => False
    have e2 : ((n : Int) - ((A.map AV.int).length : Int)) % ((T.map AV.int).length : Int) = (((n - A.length) % T.length : Nat) : Int) := by
      rw [List.length_map, List.length_map, Int.natCast_emod, Int.ofNat_sub (by omega)]
    have hm := Nat.mod_lt (n - A.length) hpos
    rw [e2, at_ints (by omega) (by omega), Int.toNat_natCast]
    have e : wt A T n = T.getD ((n - A.length) % T.length) 0 := by unfold wt; rw [if_neg h]
    rw [e] at q
    exact ret_int (z := 1) q
def wts (A T : List Int) : List Int := (List.range 60).map (wt A T)
@[irreducible] def sameB (A T A' T' : List Int) : Bool := decide (wts A T = wts A' T')
theorem c_weights {d i : Nat} {M A T : List Int} {S : HS} {σ : Sg} {own : List Nat} {K : List AV → HS → Prop} (hT : T ≠ []) (h1 : ∀ x, ((wipeA σ own).set 2 (some x))[i]? = some (some (Pl M A T))) (h2 : ∀ x, ((wipeA σ own).set 2 (some x))[2]? = some (some x)) (k : K ((wts A T).map .int) S) :
    wLcL (fun _ => True) (fun x S => wG st.P (wcall st.P (d + 1)) (.nm 2) x (wipeA σ own) S) (wTs st.P (wcall st.P (d + 1)) .nil) (wE st.P (wcall st.P (d + 1)) (.call 17 (.cons (.var i) (.cons (.var 2) .nil)))) (intsA 0 60) [] S K := by
  refine lc_nm (f := fun x => match x with | .int n => .int (wt A T n.toNat) | _ => .non) trivial _ _ _ (by simp [intsA]; unfold LINE; omega) (fun x hx K' k' => ?_) ?_
  · obtain ⟨n, hn, rfl⟩ := List.mem_map.mp hx
    rw [wE_call, wEs_cons, wE_var (h1 _), wEs_cons, wE_var (h2 _), wEs_nil]
    rw [Int.zero_add] at k' ⊢
    exact c_weight hT k'
  · have e : (intsA 0 60).map (fun x => match x with | AV.int n => AV.int (wt A T n.toNat) | _ => .non) = (wts A T).map .int := by
      unfold intsA wts
      rw [List.map_map, List.map_map]
      refine List.map_congr_left fun n _ => ?_
      show AV.int (wt A T ((0 : Int) + (n : Nat)).toNat) = AV.int (wt A T n)
      rw [Int.zero_add, Int.toNat_natCast]
    rw [List.nil_append, e]
    exact k
theorem c_same {d : Nat} {M A T M' A' T' : List Int} {S : HS} {Q : AV → HS → Prop} (hT : T ≠ []) (hT' : T' ≠ []) (q : Q (.bl (decide (M = M') && sameB A T A' T')) S) : wcall st.P (d + 2) 11 [Pl M A T, Pl M' A' T'] S Q := by
  have es : sameB A T A' T' = decide (wts A T = wts A' T') := by unfold sameB; rfl
  rw [es] at q
  refine enter (D := d__law_same) rfl rfl ?_
  simp only [d__law_same, startA, wSs, MP.wS, MP.wE, MP.wEs, vw, wSub, at0, MP.wCmp, MP.wEq, List.map_cons, List.map_nil, List.length_cons, List.length_nil, List.cons_append, List.nil_append, List.getElem?_cons_zero, List.getElem?_cons_succ, List.replicate]
  refine eqD_tup ?_
  by_cases h : M = M'
  · rw [decide_eq_true h] at q ⊢
    refine ⟨⟨by decide, by decide⟩, ?_⟩
    refine c_weights hT (fun _ => rfl) (fun _ => rfl) ?_
    refine ⟨⟨by decide, by decide⟩, ?_⟩
    refine c_weights hT' (fun _ => rfl) (fun _ => rfl) ?_
    refine eqD_lst ?_
    exact ret_bl (z := 1) (by simpa using q)
  · rw [decide_eq_false h] at q ⊢
    exact ret_bl (z := 1) (by simpa using q)
/-! ### what is drawn -/
theorem ret_val {z : Nat} {S S1 : HS} {Q : AV → HS → Prop} {v : AV} (hv : NoRef 0 v) (hl : S1.length = S.length) (hn : ∀ o ∈ S1, NoRefO S.length o) (q : Q v S1) : retF z S Q v S1 := by
  cases z with
  | zero => exact q
  | succ z =>
    refine ⟨fun n o e _ => .inr (hn o (List.mem_of_getElem? e)), ?_, ?_⟩
    · rw [frz_id _ _ _ _ hv]; exact NoRef.up (Nat.zero_le _) _ hv
    · rw [frz_id _ _ _ _ hv, ← hl, List.take_length]
      exact q
theorem c_pen {d : Nat} {ns : List Int} {Q : AV → HS → Prop} (h : ns.length ≤ 63) (q : Q (.ref 0) (pen ns 0 0)) : wcall st.P (d + 1) 6 [.slst ns] [] Q := by
  refine enter (D := d__law_pen) rfl rfl ?_
  refine ⟨by show 3 ≤ LINE; decide, ?_⟩
  show Q (.ref 0) [.lst [.lst (cutA (ns.map AV.int) none (some 63)), .int 0, .int 0]]
  rw [cut_head _ (by decide), List.take_of_length_le (by simpa using h)]
  exact q
theorem c_pick {d : Nat} {cells : List Int} {a l : Int} {xs : List AV} {Q : AV → HS → Prop} (h1 : xs ≠ []) (h2 : xs.length ≤ 1000) (ha : 0 ≤ a) (ha2 : a ≤ 100000) (hl : 0 ≤ l) (hv : ∀ v ∈ xs, NoRef 0 v)
    (q : ∀ v a' l', v ∈ xs → a ≤ a' → a' ≤ a + 1 → 0 ≤ l' → Q v (pen cells a' l')) : wcall st.P (d + 2) 19 [.ref 0, .lst xs] (pen cells a l) Q := by
  have hp := List.length_pos_iff.mpr h1
  refine enter (D := d__law_pick) rfl rfl ?_
  refine c_draw (by omega) (by omega) ha ha2 hl fun x a' l' hx hx2 h3 h4 h5 => ?_
  obtain ⟨n, rfl⟩ := Int.eq_ofNat_of_zero_le hx
  have hn : n < xs.length := by omega
  show match L2.atI xs (n : Int) with
    | some v => _
    | none => False
  rw [at_nat hn]
  exact ret_val (z := 1) (hv _ (List.getElem_mem hn)) rfl pen_noref (q _ _ _ (List.getElem_mem hn) h3 h4 h5)
/-- drawn numbers below j's, one for each item -/
theorem lc_draw {d i j : Nat} {cells : List Int} {many : Int} {σ : Sg} {own : List Nat} (h1 : ∀ x, ((wipeA σ own).set i (some x))[0]? = some (some (.ref 0))) (h2 : ∀ x, ((wipeA σ own).set i (some x))[j]? = some (some (.int many))) (hm : 1 ≤ many) (hm2 : many ≤ 1000) :
    ∀ (xs acc : List AV) (a l : Int) (Q : List AV → HS → Prop), acc.length + xs.length ≤ LINE → 0 ≤ a → a + xs.length ≤ 100000 → 0 ≤ l →
    (∀ (ds : List Int) (a' l' : Int), ds.length = xs.length → (∀ x ∈ ds, 0 ≤ x ∧ x ≤ many - 1) → a ≤ a' → a' ≤ a + xs.length → 0 ≤ l' → Q (acc ++ ds.map .int) (pen cells a' l')) →
    wLcL (fun _ => True) (fun x S => wG st.P (wcall st.P (d + 1)) (.nm i) x (wipeA σ own) S) (wTs st.P (wcall st.P (d + 1)) .nil) (wE st.P (wcall st.P (d + 1)) (.call 18 (.cons (.var 0) (.cons (.var j) .nil)))) xs acc (pen cells a l) Q
  | [], acc, a, l, Q, _, _, _, hl, q => ⟨trivial, by have := q [] a l rfl (by simp) (by omega) (by simp) hl; simpa using this⟩
  | x :: xs, acc, a, l, Q, hn, ha, ha2, hl, q => by
    simp only [List.length_cons] at hn ha2
    have step : wE st.P (wcall st.P (d + 1)) (.call 18 (.cons (.var 0) (.cons (.var j) .nil))) ((wipeA σ own).set i (some x)) (pen cells a l) fun v S3 => acc.length < LINE ∧ wLcL (fun _ => True) (fun x S => wG st.P (wcall st.P (d + 1)) (.nm i) x (wipeA σ own) S) (wTs st.P (wcall st.P (d + 1)) .nil) (wE st.P (wcall st.P (d + 1)) (.call 18 (.cons (.var 0) (.cons (.var j) .nil)))) xs (acc ++ [v]) S3 Q := by
      rw [wE_call, wEs_cons, wE_var (h1 _), wEs_cons, wE_var (h2 _), wEs_nil]
      refine c_draw hm hm2 ha (by omega) hl fun y a' l' hy hy2 h3 h4 h5 => ⟨by omega, ?_⟩
      refine lc_draw h1 h2 hm hm2 xs (acc ++ [.int y]) a' l' Q (by simp; omega) (by omega) (by omega) h5 fun ds a2 l2 e1 e2 e3 e4 e5 => ?_
      have := q (y :: ds) a2 l2 (by simp [e1]) (fun z hz => by
        rcases List.mem_cons.mp hz with rfl | hz
        · omega
        · exact e2 z hz) (by omega) (by simp only [List.length_cons]; omega) e5
      simpa using this
    exact ⟨trivial, L2.iteT (B := wLcL (fun _ => True) (fun x S => wG st.P (wcall st.P (d + 1)) (.nm i) x (wipeA σ own) S) (wTs st.P (wcall st.P (d + 1)) .nil) (wE st.P (wcall st.P (d + 1)) (.call 18 (.cons (.var 0) (.cons (.var j) .nil)))) xs acc (pen cells a l) Q) step⟩
end K17
namespace K17
open PySem PySem.Spec L2 MP
open PyProof.Rows hiding St
local macro_rules
  | `(tactic| get_elem_tactic_trivial) => `(tactic| (rw [wSs_cons]; simp only [startA, MP.wS, MP.wE, MP.wEs, MP.wI, MP.wG, MP.wGs, MGs.len, vw, wSub, at0, MP.wCmp, MP.wEq, MP.wBin, MP.wTs, MP.wUn, truth, MP.wTru, w2I, wItems, MP.isNon, List.map_cons, List.map_nil, List.length_cons, List.length_nil, List.cons_append, List.nil_append, List.getElem?_cons_zero, List.getElem?_cons_succ, List.replicate, List.set_cons_zero, List.set_cons_succ, LINE, Nat.reduceAdd, Nat.zero_add, Nat.reduceLeDiff, true_and, eq_self, if_true, reduceCtorEq, if_false, Bool.false_eq_true, ↓reduceIte, bi_len_lst, bi_len_tup, bi_int_int, bi_int_bl, bi_abs, bi_list_lst, bi_list_tup, bi_tuple_lst, bi_tuple_tup, bi_repr]))
theorem mul_loop {P : Prog} {cl : CallW} {i j : Nat} {sg : Option AV → AV → Sg} {D : WK} {S : HS} (e1 : ∀ w v, (sg w v)[i]? = some (some v)) (e2 : ∀ w v x, (sg w v).set j (some x) = sg (some x) v) (e3 : ∀ w v x, (sg w v).set i (some x) = sg w x) (e4 : ∀ w v, (sg (some w) v)[j]? = some (some w)) :
    ∀ (t p : List Int) (w : Option AV), (∀ p' t', p ++ t = p' ++ t' → CMul (prod p') (t'.headD 1)) → (∀ w', D.nx (sg w' (.int (prod (p ++ t)))) S) →
    wForL (fun _ => True) (wG P cl (.nm j)) (wSs P cl (.cons (.asg (.nm i) (.bin .Mult (.var i) (.var j))) .nil)) (t.map .int) D (sg w (.int (prod p))) S
  | [], p, w, _, q => ⟨trivial, by simpa using q w⟩
  | m :: t, p, w, hb, q => by
    refine ⟨trivial, ?_⟩
    have e : prod (p ++ [m]) = prod p * m := by simp [prod]
    have ih := mul_loop (P := P) (cl := cl) (D := D) (S := S) e1 e2 e3 e4 t (p ++ [m]) (some (.int m)) (by simpa using hb) (by simpa using q)
    rw [e] at ih
    show wSs P cl _ _ ((sg w (.int (prod p))).set j (some (.int m))) S
    rw [e2, wSs_cons, wS_asg, wE_bin, wE_var (e1 _ _), wE_var (e4 _ _)]
    refine ⟨hb p (m :: t) rfl, ?_⟩
    show wForL _ _ _ _ _ ((sg (some (.int m)) (.int (prod p))).set i (some (.int (prod p * m)))) S
    rw [e3]
    exact ih
def moduliL : List (List Int) := [[2], [3], [4], [2, 2], [5], [2, 3], [8], [2, 2, 2], [3, 2, 2], [32], [2, 2, 2, 2, 2], [4, 2]]
/-- a drawn plain rule -/
structure Dr (M A T : List Int) : Prop where
  hM : M ∈ moduliL
  al : A.length ≤ 6
  td : T.length ∣ 24
  t0 : T ≠ []
  t8 : T.length ≤ 8
  ab : ∀ x ∈ A, 0 ≤ x ∧ x ≤ prod M - 1
  tb : ∀ x ∈ T, 0 ≤ x ∧ x ≤ prod M - 1
theorem mod_facts : ∀ M ∈ moduliL, M ≠ [] ∧ M.length ≤ 5 ∧ prod M ≤ 32 ∧ 2 ≤ prod M ∧ ∀ x ∈ M, 2 ≤ x ∧ x ≤ 32 := by decide
theorem Dr.good {M A T : List Int} (h : Dr M A T) : Good M A T := by
  obtain ⟨h1, h2, h3, h4, h5⟩ := mod_facts M h.hM
  exact ⟨h1, h2, h5, h3, h.ab, h.tb, h.t0, by have := h.al; have := h.t8; omega⟩
theorem mod_cm {M : List Int} (h : M ∈ moduliL) : ∀ p t, M = p ++ t → CMul (prod p) (t.headD 1) := fun p t e => .inr (by
  cases t with
  | nil => exact ⟨by decide, by decide⟩
  | cons m t =>
    have := (mod_facts M h).2.2.2.2 m (by rw [e]; simp)
    show -(2 ^ 64) < m ∧ m < 2 ^ 64
    omega)
def moduliA : List AV := [AV.tup [AV.int 2], AV.tup [AV.int 3], AV.tup [AV.int 4], AV.tup [AV.int 2, AV.int 2], AV.tup [AV.int 5],
          AV.tup [AV.int 2, AV.int 3], AV.tup [AV.int 8], AV.tup [AV.int 2, AV.int 2, AV.int 2],
          AV.tup [AV.int 3, AV.int 2, AV.int 2], AV.tup [AV.int 32],
          AV.tup [AV.int 2, AV.int 2, AV.int 2, AV.int 2, AV.int 2], AV.tup [AV.int 4, AV.int 2]]
theorem moduliA_eq : moduliA = moduliL.map fun ns => AV.tup (ns.map .int) := rfl
theorem moduliA_mem {v : AV} (h : v ∈ moduliA) : ∃ M ∈ moduliL, AV.tup (M.map .int) = v := by
  rw [moduliA_eq] at h
  exact List.mem_map.mp h
theorem c_plain {d : Nat} {cells : List Int} {a l : Int} {Q : AV → HS → Prop} (ha : 0 ≤ a) (ha2 : a ≤ 90000) (hl : 0 ≤ l)
    (q : ∀ M A T a' l', Dr M A T → a ≤ a' → a' ≤ a + 13 → 0 ≤ l' → Q (Pl M A T) (pen cells a' l')) : wcall st.P (d + 3) 14 [.ref 0] (pen cells a l) Q := by
  refine enter (D := d__law_plain) rfl rfl ?_
  simp only [d__law_plain]
  get_elem_tactic_trivial
  get_elem_tactic_trivial
  rw [← moduliA]
  refine c_pick (xs := moduliA) (by decide) (by decide) ha (by omega) hl (fun v hv => ?_) fun v a1 l1 hv h1 h2 h3 => ?_
  · obtain ⟨M, hM, rfl⟩ := moduliA_mem hv
    exact noRefs_ints M
  obtain ⟨M, hM, rfl⟩ := moduliA_mem hv
  obtain ⟨m1, m2, m3, m4, m5⟩ := mod_facts M hM
  get_elem_tactic_trivial
  refine mul_loop (sg := fun w v => [some (.ref 0), some (.lst moduliA), some (.tup (M.map .int)), some v, w, none, none, none]) (fun _ _ => rfl) (fun _ _ _ => rfl) (fun _ _ _ => rfl) (fun _ _ => rfl) M [] none (fun p t e => mod_cm hM p t e) fun w => ?_
  rw [List.nil_append]
  dsimp only
  get_elem_tactic_trivial
  refine c_draw (by omega) (by omega) (by omega) (by omega) h3 fun x a2 l2 h4 h5 h6 h7 h8 => ?_
  dsimp only
  refine ⟨⟨by omega, by omega⟩, ?_⟩
  obtain ⟨nA, rfl⟩ := Int.eq_ofNat_of_zero_le h4
  rw [Int.toNat_natCast]
  refine lc_draw (fun _ => rfl) (fun _ => rfl) (by omega) (by omega) (intsA 0 nA) [] a2 l2 _ (by simp [intsA]; unfold LINE; omega) (by omega) (by simp [intsA]; omega) h8 fun A a3 l3 e1 e2 e3 e4 e5 => ?_
  rw [List.nil_append]
  have eA : A.length = nA := by simpa [intsA] using e1
  have e4' : a3 ≤ a2 + nA := by simpa [intsA] using e4
  get_elem_tactic_trivial
  refine c_draw (by omega) (by omega) (by omega) (by omega) e5 fun x a4 l4 f4 f5 f6 f7 f8 => ?_
  dsimp only
  refine ⟨⟨by omega, by omega⟩, ?_⟩
  obtain ⟨nT, rfl⟩ := Int.eq_ofNat_of_zero_le f4
  rw [show ((1 : Int) + (nT : Int)).toNat = nT + 1 by omega]
  refine lc_draw (fun _ => rfl) (fun _ => rfl) (by omega) (by omega) (intsA 0 (nT + 1)) [] a4 l4 _ (by simp [intsA]; unfold LINE; omega) (by omega) (by simp [intsA]; omega) f8 fun T a5 l5 g1 g2 g3 g4 g5 => ?_
  rw [List.nil_append]
  have eT : T.length = nT + 1 := by simpa [intsA] using g1
  have g4' : a5 ≤ a4 + (nT + 1) := by simpa [intsA] using g4
  -- the end, for any weights
  have fin : ∀ (A T : List Int) (a6 l6 : Int) (w : Option AV), Dr M A T → a ≤ a6 → a6 ≤ a + 13 → 0 ≤ l6 → wSs st.P (wcall st.P (d + 2)) (d__law_plain.body.drop 7) { nx := fun x S1 => retF 1 (pen cells a l) Q AV.non S1, rt := retF 1 (pen cells a l) Q } [some (.ref 0), some (.lst moduliA), some (.tup (M.map .int)), some (.int (prod M)), w, some (.lst (A.map .int)), some (.lst (T.map .int)), none] (pen cells a6 l6) := by
    intro A T a6 l6 w hd k1 k2 k3
    simp only [d__law_plain, MSs.drop]
    get_elem_tactic_trivial
    exact ret_val (z := 1) (noRefs_tups [M, A, T]) rfl pen_noref (q M A T a6 l6 hd k1 k2 k3)
  have t0 : ∀ {T : List Int}, T.length ∣ 24 → T ≠ [] := fun h z => by subst z; simp at h
  have six : ∀ (A T : List Int) (a6 l6 : Int) (w : Option AV), T.length ∣ 24 → T.length ≤ 8 → A.length ≤ 5 → (∀ x ∈ A, 0 ≤ x ∧ x ≤ prod M - 1) → (∀ x ∈ T, 0 ≤ x ∧ x ≤ prod M - 1) → a ≤ a6 → a6 ≤ a + 12 → 0 ≤ l6 → wSs st.P (wcall st.P (d + 2)) (d__law_plain.body.drop 6) { nx := fun x S1 => retF 1 (pen cells a l) Q AV.non S1, rt := retF 1 (pen cells a l) Q } [some (.ref 0), some (.lst moduliA), some (.tup (M.map .int)), some (.int (prod M)), w, some (.lst (A.map .int)), some (.lst (T.map .int)), none] (pen cells a6 l6) := by
    intro A T a6 l6 w td t8 al ab tb k1 k2 k3
    simp only [d__law_plain, MSs.drop]
    get_elem_tactic_trivial
    refine c_draw (by omega) (by omega) (by omega) (by omega) k3 fun x a7 l7 m4 m5 m6 m7 m8 => ?_
    refine eqD_int ?_
    by_cases hx : x = 0
    · rw [if_pos (decide_eq_true hx)]
      have hT := t0 td
      get_elem_tactic_trivial
      rw [at_last hT]
      simp only [wAdd, List.length_cons, List.length_nil, List.length_map]
      refine ⟨by unfold LINE; omega, ?_⟩
      have e : A.map AV.int ++ [AV.int (T.getLast hT)] = (A ++ [T.getLast hT]).map .int := by simp
      rw [e, wSs_nil]
      exact fin _ T a7 l7 w ⟨hM, by simp; omega, td, hT, t8, fun x hx => by
        rcases List.mem_append.mp hx with h | h
        · exact ab x h
        · rw [List.mem_singleton] at h
          subst h
          exact tb _ (List.getLast_mem hT), tb⟩ (by omega) (by omega) m8
    · rw [if_neg (by simpa using hx)]
      exact fin A T a7 l7 w ⟨hM, by omega, td, t0 td, t8, ab, tb⟩ (by omega) (by omega) m8
  get_elem_tactic_trivial
  refine c_draw (by omega) (by omega) (by omega) (by omega) g5 fun x a6 l6 m4 m5 m6 m7 m8 => ?_
  refine eqD_int ?_
  have hT : T.length = 1 ∨ T.length = 2 ∨ T.length = 3 ∨ T.length = 4 := by omega
  by_cases hx : x = 0
  · rw [if_pos (decide_eq_true hx)]
    get_elem_tactic_trivial
    simp only [wMul]
    refine ⟨⟨by decide, by decide, by simp; unfold LINE; omega⟩, ?_⟩
    rw [show Int.toNat 2 = 2 from rfl, flat_map, wSs_nil]
    have el : (List.replicate 2 T).flatten.length = 2 * T.length := rep_len T 2
    refine six A _ a6 l6 _ (by rw [el]; rcases hT with h | h | h | h <;> rw [h] <;> decide) (by omega) (by omega) e2 (fun x hx => ?_) (by omega) (by omega) m8
    obtain ⟨ys, hy, hx⟩ := List.mem_flatten.mp hx
    rw [List.eq_of_mem_replicate hy] at hx
    exact g2 x hx
  · rw [if_neg (by simpa using hx), wSs_nil]
    exact six A T a6 l6 _ (by rcases hT with h | h | h | h <;> rw [h] <;> decide) (by omega) (by omega) e2 g2 (by omega) (by omega) m8
theorem eqv_tups : ∀ (ls ms : List (List Int)), PyData.eqvAll (ls.map fun ns => PyData.tuple (ns.map PyData.int)) (ms.map fun ns => PyData.tuple (ns.map PyData.int)) = decide (ls = ms)
  | [], [] => by rw [List.map_nil, PyData.eqvAll]; simp
  | [], n :: ns => by rw [List.map_nil, List.map_cons, PyData.eqvAll]; simp
  | m :: ms, [] => by rw [List.map_nil, List.map_cons, PyData.eqvAll]; simp
  | m :: ms, n :: ns => by
    rw [List.map_cons, List.map_cons, PyData.eqvAll, PyData.eqv, eqv_ints, eqv_tups ms ns]
    by_cases h : m = n
    · subst h; simp
    · simp [h]
theorem lay_tups : ∀ (ls : List (List Int)), PyData.canLayAll0 (ls.map fun ns => PyData.tuple (ns.map PyData.int)) = true
  | [] => by rw [List.map_nil, PyData.canLayAll0]
  | n :: ns => by rw [List.map_cons, PyData.canLayAll0, lay_tups ns, PyData.canLay0, lay_ints]; rfl
theorem depth_tups : ∀ (ls : List (List Int)), PyData.depthAll (ls.map fun ns => PyData.tuple (ns.map PyData.int)) ≤ 2
  | [] => by rw [List.map_nil, PyData.depthAll]; omega
  | n :: ns => by
    rw [List.map_cons, PyData.depthAll, PyData.depth]
    have := depth_ints n
    have := depth_tups ns
    omega
theorem toPDs_tups : ∀ (ls : List (List Int)), toPDs (ls.map fun ns => AV.tup (ns.map .int)) = some (ls.map fun ns => PyData.tuple (ns.map PyData.int))
  | [] => rfl
  | n :: ns => by
    show (match (toPDs (n.map .int)).map PyData.tuple, toPDs (ns.map fun ns => AV.tup (ns.map .int)) with
      | some d, some ds => some (d :: ds)
      | _, _ => none) = _
    rw [toPDs_tups ns, toPDs_ints]
    rfl
theorem shaped_tups (ls : List (List Int)) : SeqAt.shaped (.tuple (ls.map fun ns => PyData.tuple (ns.map PyData.int))) = true := by
  unfold SeqAt.shaped
  rw [PyData.canLay0, lay_tups, PyData.depth]
  have := depth_tups ls
  simp
  omega
theorem eqD_tups {ls ms : List (List Int)} {Q : Bool → Prop} (q : Q (decide (ls = ms))) : wEqD (.tup (ls.map fun ns => .tup (ns.map .int))) (.tup (ms.map fun ns => .tup (ns.map .int))) Q := by
  unfold wEqD
  show match (toPDs (ls.map fun ns => AV.tup (ns.map .int))).map PyData.tuple, (toPDs (ms.map fun ns => AV.tup (ns.map .int))).map PyData.tuple with
    | some d, some e => SeqAt.shaped d = true ∧ SeqAt.shaped e = true ∧ Q (PyData.eqv d e)
    | _, _ => False
  rw [toPDs_tups, toPDs_tups]
  refine ⟨shaped_tups ls, shaped_tups ms, ?_⟩
  rw [PyData.eqv, eqv_tups]
  exact q
theorem eqD_bl {a b : Bool} {Q : Bool → Prop} (q : Q (decide (a = b))) : wEqD (.bl a) (.bl b) Q := by
  have e : ∀ c : Bool, SeqAt.shaped (.bool c) = true := by decide
  refine ⟨e a, e b, ?_⟩
  have : PyData.eqv (.bool a) (.bool b) = decide (a = b) := by rw [PyData.eqv]; cases a <;> cases b <;> rfl
  rw [this]
  exact q
theorem eqD_str {a b : Str} {Q : Bool → Prop} (ha : PyData.strOk a = true) (hb : PyData.strOk b = true) (q : Q (decide (a = b))) : wEqD (.str a) (.str b) Q := by
  have e : ∀ c : Str, PyData.strOk c = true → SeqAt.shaped (.str c) = true := fun c h => by
    unfold SeqAt.shaped
    rw [PyData.canLay0, PyData.depth, h]
    decide
  refine ⟨e a ha, e b hb, ?_⟩
  have : PyData.eqv (.str a) (.str b) = decide (a = b) := by
    rw [PyData.eqv]
    by_cases h : a = b
    · subst h; simp
    · simp [h]
  rw [this]
  exact q
end K17
namespace K17
open PySem PySem.Spec L2 MP
open PyProof.Rows hiding St
theorem wt_longer (A : List Int) {T : List Int} (h : T ≠ []) : wt (A ++ T.take 1) (T.drop 1 ++ T.take 1) = wt A T := by
  cases T with
  | nil => exact absurd rfl h
  | cons t r =>
    have h1 : A ++ [t] ≠ [] := by simp
    have h2 : r ++ [t] ≠ [] := by simp
    have := turned_wt h1 h2 (by simp)
    unfold turned at this
    have e : (r ++ [t]).getLast h2 = t := by simp
    rw [e] at this
    simp only [List.dropLast_concat] at this
    exact this.symm
theorem wt_changed (A R : List Int) {T : List Int} {c : Int} (h : T ≠ []) (hc : c ≠ T.headD 0) : wt (A ++ [c]) R ≠ wt A T := by
  intro e
  have q := congrFun e A.length
  unfold wt at q
  rw [if_pos (by simp), if_neg (by omega), Nat.sub_self, Nat.zero_mod] at q
  cases T with
  | nil => exact h rfl
  | cons t r => simp at q; exact hc q
theorem same_iff {M A T M' A' T' : List Int} (h : Dr M A T) (h' : Dr M' A' T') : wts A T = wts A' T' ↔ wt A T = wt A' T' := by
  constructor
  · intro e
    refine wt_same (N := 6) (L := 24) (by decide) h.td h'.td h.al h'.al fun n hn => ?_
    have q := congrArg (fun l => l[n]?) e
    simp only [wts, List.getElem?_map] at q
    rw [List.getElem?_range (by omega)] at q
    simpa using q
  · intro e; unfold wts; rw [e]
theorem norm_iff {M M' A T A1 T1 A' T' A1' T1' : List Int} (h : Dr M A T) (h' : Dr M' A' T') (n : Normal A1 T1) (w : wt A1 T1 = wt A T) (n' : Normal A1' T1') (w' : wt A1' T1' = wt A' T') : (decide (A1 = A1') && decide (T1 = T1')) = sameB A T A' T' := by
  unfold sameB
  by_cases e : wts A T = wts A' T'
  · obtain ⟨h1, h2⟩ := n.unique n' (w.trans (((same_iff h h').mp e).trans w'.symm))
    simp [h1, h2, e]
  · rw [decide_eq_false e]
    by_cases h1 : A1 = A1'
    · by_cases h2 : T1 = T1'
      · subst h1; subst h2; exact absurd ((same_iff h h').mpr (w.symm.trans w')) e
      · simp [h2]
    · simp [h1]
local macro_rules
  | `(tactic| get_elem_tactic_trivial) => `(tactic| (rw [wSs_cons]; simp only [startA, MP.wS, MP.wE, MP.wEs, MP.wI, MP.wG, MP.wGs, MGs.len, vw, sub0t, sub1t, sub2t, sub0l, sub1l, sub2l, MP.wCmp, MP.wBin, MP.wTs, MP.wUn, truth, MP.wTru, w2I, wItems, MP.isNon, List.map_cons, List.map_nil, List.length_cons, List.length_nil, List.cons_append, List.nil_append, List.getElem?_cons_zero, List.getElem?_cons_succ, List.replicate, List.set_cons_zero, List.set_cons_succ, LINE, Nat.reduceAdd, Nat.zero_add, Nat.reduceLeDiff, true_and, eq_self, if_true, reduceCtorEq, if_false, Bool.false_eq_true, ↓reduceIte, eq_tup_d, eq_lst_d, eq_int_d, eq_str_d, eq_bl_d, MP.add_int, MP.add_tup, MP.add_lst, MP.mul_int, MP.mul_lst, MP.slc_tup, MP.slc_lst, MP.part0, MP.part1, or_or, and_or, bi_len_lst, bi_len_tup, bi_int_int, bi_int_bl, bi_abs, bi_list_lst, bi_list_tup, bi_tuple_lst, bi_tuple_tup, bi_repr]))
theorem att_m {cl : CallW} {M A T : List Int} {S : HS} {Q : AV → HS → Prop} : wAtt st.P cl (Ru M A T) 0 S Q = Q (.tup (M.map .int)) S := propext ⟨fun h => h.2, fun h => ⟨by decide, h⟩⟩
theorem att_a {cl : CallW} {M A T : List Int} {S : HS} {Q : AV → HS → Prop} : wAtt st.P cl (Ru M A T) 1 S Q = Q (.tup (A.map .int)) S := propext ⟨fun h => h.2, fun h => ⟨by decide, h⟩⟩
theorem att_t {cl : CallW} {M A T : List Int} {S : HS} {Q : AV → HS → Prop} : wAtt st.P cl (Ru M A T) 2 S Q = Q (.tup (T.map .int)) S := propext ⟨fun h => h.2, fun h => ⟨by decide, h⟩⟩
theorem eqE {d : Nat} {M A T M' A' T' : List Int} {S : HS} {Q : Bool → HS → Prop} (q : Q (decide (M = M') && (decide (A = A') && decide (T = T'))) S) : wEq st.P (wcall st.P (d + 1)) (Ru M A T) (Ru M' A' T') S Q :=
  ⟨rfl, c_eq q⟩
theorem eqE_tup {d : Nat} {M A T : List Int} {xs : List AV} {S : HS} {Q : Bool → HS → Prop} (q : Q false S) : wEq st.P (wcall st.P (d + 1)) (Ru M A T) (.tup xs) S Q := eq_ru_tup q
theorem cut_tail (ns : List Int) {m : Int} (h : 0 ≤ m) : cutA (ns.map AV.int) (some m) none = (ns.drop m.toNat).map .int := by
  unfold cutA HT.sIx
  dsimp only
  rw [if_neg (by omega)]
  simp only [List.length_map]
  rw [← List.map_drop, ← List.map_take]
  congr 1
  by_cases q : m.toNat ≤ ns.length
  · rw [Nat.min_eq_left q, List.take_of_length_le (by simp)]
  · rw [Nat.min_eq_right (by omega), List.drop_eq_nil_of_le (Nat.le_refl _), List.drop_eq_nil_of_le (by omega), List.take_nil]
theorem attB {d : Nat} {M A T : List Int} {S : HS} {Q : AV → HS → Prop} (g : Good M A T) (q : Q (.int (prod M)) S) : wAtt st.P (wcall st.P (d + 1)) (Ru M A T) 5 S Q := c_banks g.cm q
theorem attC {d : Nat} {M A T : List Int} {S : HS} {Q : AV → HS → Prop} (g : Good M A T) (q : Q (.int ((A.length : Int) + (T.length : Int))) S) : wAtt st.P (wcall st.P (d + 1)) (Ru M A T) 3 S Q := c_classes (by have := g.len; omega) q
theorem attI {d : Nat} {M A T : List Int} {S : HS} {Q : AV → HS → Prop} (q : Q (.bl (decide (T = [0]))) S) : wAtt st.P (wcall st.P (d + 1)) (Ru M A T) 4 S Q := c_is_cut q
section
variable {P : Prog} {cl : CallW} {S : HS} {Q : Bool → HS → Prop}
theorem eqW_int {i j : Int} (q : Q (decide (i = j)) S) : wEq P cl (.int i) (.int j) S Q := eqD_int (Q := fun b => Q b S) q
theorem eqW_bl {i j : Bool} (q : Q (decide (i = j)) S) : wEq P cl (.bl i) (.bl j) S Q := eqD_bl (Q := fun b => Q b S) q
theorem eqW_tup {i j : List Int} (q : Q (decide (i = j)) S) : wEq P cl (.tup (i.map .int)) (.tup (j.map .int)) S Q := eqD_tup (Q := fun b => Q b S) q
theorem eqW_str {i j : Str} (hi : PyData.strOk i = true) (hj : PyData.strOk j = true) (q : Q (decide (i = j)) S) : wEq P cl (.str i) (.str j) S Q := eqD_str (Q := fun b => Q b S) hi hj q
end
set_option maxHeartbeats 200000 in
theorem c_turn_right {d : Nat} {cells : List Int} {a l : Int} {Q : AV → HS → Prop} (ha : 0 ≤ a) (ha2 : a ≤ 80000) (hl : 0 ≤ l)
    (q : ∀ a' l', a ≤ a' → a' ≤ a + 26 → 0 ≤ l' → Q (.bl true) (pen cells a' l')) : wcall st.P (d + 6) 5 [.ref 0] (pen cells a l) Q := by
  refine enter (D := d__law_turn_right) rfl rfl ?_
  simp only [d__law_turn_right]
  get_elem_tactic_trivial
  refine c_plain ha (by omega) hl fun M A T a1 l1 h a11 a12 l11 => ?_
  refine c_plain (by omega) (by omega) l11 fun M' A' T' a2 l2 h' a21 a22 l21 => ?_
  have g := h.good
  have g' := h'.good
  have hpos : 0 < T.length := List.length_pos_iff.mpr h.t0
  get_elem_tactic_trivial
  get_elem_tactic_trivial
  refine w_new g (.inl rfl) (.inr rfl) (.inl rfl) fun A1 T1 n1 w1 g1 => ?_
  refine c_lawnormal h.t0 (by have := h.t8; omega) (by have := h.al; omega) fun A1' T1' n1' w1' => ?_
  obtain ⟨rfl, rfl⟩ := n1.unique n1' (w1.trans w1'.symm)
  get_elem_tactic_trivial
  simp only [att_m, att_a, att_t, eq_tup_d, vw, List.length_cons, List.length_nil, LINE, Nat.reduceAdd, Nat.reduceLeDiff, true_and, or_or]
  refine eqD_tups (ls := [M, A1, T1]) (ms := [M, A1, T1]) ?_
  simp only [eq_self, decide_true, Bool.not_true, Bool.false_eq_true, if_false]
  change wNew st.P (wcall st.P (d + 5)) 0 [.lst (M.map .int), .tup (A.map .int), .lst (T.map .int)] _ _
  refine w_new g (.inr rfl) (.inl rfl) (.inr rfl) fun A2 T2 n2 w2 g2 => ?_
  obtain ⟨rfl, rfl⟩ := n2.unique n1 (w2.trans w1.symm)
  refine eqE ?_
  simp only [eq_self, decide_true, Bool.and_self, Bool.not_true, Bool.false_eq_true, if_false, wSs_nil]
  get_elem_tactic_trivial
  get_elem_tactic_trivial
  refine mul_loop (sg := fun w v => [some (.ref 0), some (Pl M A T), some (Pl M' A' T'), some (.tup (M.map .int)), some (.tup (A.map .int)), some (.tup (T.map .int)), some (Ru M A2 T2), some (Pl M A2 T2), some v, w, none, none]) (fun _ _ => rfl) (fun _ _ _ => rfl) (fun _ _ _ => rfl) (fun _ _ => rfl) M [] none (fun p t e => g.cm p t e) fun w => ?_
  rw [List.nil_append]
  dsimp only
  get_elem_tactic_trivial
  refine attB g1 ?_
  refine eqW_int ?_
  simp only [eq_self, decide_true, Bool.not_true, Bool.false_eq_true, if_false]
  refine attC g1 ?_
  simp only [List.length_map]
  refine eqW_int ?_
  simp only [eq_self, decide_true, Bool.not_true, Bool.false_eq_true, if_false]
  refine attI ?_
  simp only [bi_repr]
  refine eqD_tup (ms := T2) (ns := [0]) ?_
  refine eqW_str (by split <;> decide +kernel) (by split <;> decide +kernel) ?_
  simp only [eq_self, decide_true, Bool.not_true, Bool.false_eq_true, if_false]
  rw [wSs_nil]; dsimp only
  get_elem_tactic_trivial
  refine w_new g' (.inl rfl) (.inl rfl) (.inl rfl) fun A3 T3 n3 w3 g3 => ?_
  refine eqE ?_
  refine c_same h.t0 h'.t0 ?_
  dsimp only
  refine eqD_bl ?_
  rw [norm_iff h h' n1 w1 n3 w3]
  simp only [eq_self, decide_true, Bool.not_true, Bool.false_eq_true, if_false]
  refine eqE_tup ?_
  simp only [eq_self, decide_true, Bool.not_true, Bool.false_eq_true, if_false]
  rw [wSs_nil]; dsimp only
  get_elem_tactic_trivial
  get_elem_tactic_trivial
  have b0 := h.tb (T.getD 0 0) (by rw [List.getD_eq_getElem?_getD, List.getElem?_eq_getElem hpos]; exact List.getElem_mem hpos)
  have b1 := (mod_facts M h.hM).2.2.2.1
  have hal := h.al
  have ht8 := h.t8
  have hb32 := (mod_facts M h.hM).2.2.1
  rw [cut_head _ (by decide), cut_tail _ (by decide), sub_t (at_ints (by decide) (by omega))]
  simp only [MP.add_int, show Int.toNat 1 = 1 from rfl, show Int.toNat 0 = 0 from rfl]
  refine ⟨by simp; omega, by simp; omega, by omega, by simp; omega, by simp; omega, ?_⟩
  generalize hc : (T.getD 0 0 + 1) % prod M = c
  have c0 : 0 ≤ c := by rw [← hc]; exact Int.emod_nonneg _ (by omega)
  have c1 : c < prod M := by rw [← hc]; exact Int.emod_lt_of_pos _ (by omega)
  have cne : c ≠ T.headD 0 := by
    have e : T.headD 0 = T.getD 0 0 := by cases T <;> rfl
    rw [e, ← hc]
    by_cases q : T.getD 0 0 + 1 < prod M
    · rw [Int.emod_eq_of_lt (by omega) q]; omega
    · have e2 : T.getD 0 0 + 1 = prod M := by omega
      rw [e2, Int.emod_self]; omega
  have tk : ∀ x ∈ T.take 1, 0 ≤ x ∧ x ≤ prod M - 1 := fun x hx => h.tb x (List.mem_of_mem_take hx)
  have rt : ∀ x ∈ T.drop 1 ++ T.take 1, 0 ≤ x ∧ x ≤ prod M - 1 := fun x hx => by
    rcases List.mem_append.mp hx with z | z
    · exact h.tb x (List.mem_of_mem_drop z)
    · exact tk x z
  have rl : (T.drop 1 ++ T.take 1).length = T.length := by simp; omega
  have rn : T.drop 1 ++ T.take 1 ≠ [] := fun z => by
    rw [z, List.length_nil] at rl
    omega
  have gl : Good M (A ++ T.take 1) (T.drop 1 ++ T.take 1) := ⟨g.m1, g.m5, g.mb, g.mp, fun x hx => by
    rcases List.mem_append.mp hx with z | z
    · exact h.ab x z
    · exact tk x z, rt, rn, by rw [rl]; simp; omega⟩
  have gc : Good M (A ++ [c]) (T.drop 1 ++ T.take 1) := ⟨g.m1, g.m5, g.mb, g.mp, fun x hx => by
    rcases List.mem_append.mp hx with z | z
    · exact h.ab x z
    · rw [List.mem_singleton] at z; omega, rt, rn, by rw [rl]; simp; omega⟩
  simp only [← List.map_append]
  rw [show A.map AV.int ++ [AV.int c] = (A ++ [c]).map .int by simp]
  get_elem_tactic_trivial
  refine w_new gl (.inl rfl) (.inl rfl) (.inl rfl) fun A4 T4 n4 w4 g4 => ?_
  obtain ⟨rfl, rfl⟩ := n4.unique n1 (w4.trans ((wt_longer A h.t0).trans w1.symm))
  refine eqE ?_
  simp only [eq_self, decide_true, Bool.and_self, Bool.true_eq_false, if_false]
  refine w_new gc (.inl rfl) (.inl rfl) (.inl rfl) fun A5 T5 n5 w5 g5 => ?_
  refine eqE ?_
  have ne : (decide (A5 = A4) && decide (T5 = T4)) = false := by
    by_cases e1 : A5 = A4
    · by_cases e2 : T5 = T4
      · subst e1; subst e2
        exact absurd (w5.symm.trans w1) (wt_changed A _ h.t0 cne)
      · simp [e2]
    · simp [e1]
  simp only [eq_self, decide_true, Bool.true_and]
  rw [ne]
  exact ret_val (z := 1) (v := .bl true) trivial rfl pen_noref (q a2 l2 (by omega) (by omega) l21)
end K17
namespace K17
open PySem PySem.Spec L2 MP
open PyProof.Rows hiding St
def shortB (T : List Int) : Bool := !T.isEmpty && (List.range T.length).all fun q => q == 0 || T.length % q != 0 || !((List.range T.length).all fun i => T.getD i 0 == T.getD (i % q) 0)
theorem short_of {T : List Int} (h : shortB T = true) : Short T := by
  unfold shortB at h
  rw [Bool.and_eq_true] at h
  refine ⟨fun e => by subst e; simp at h, fun q hq hl hd hb => ?_⟩
  have h2 := List.all_eq_true.mp h.2 q (List.mem_range.mpr hl)
  have e1 : (q == 0) = false := by simp; omega
  have e2 : (T.length % q != 0) = false := by simp [Nat.mod_eq_zero_of_dvd hd]
  have e3 : ((List.range T.length).all fun i => T.getD i 0 == T.getD (i % q) 0) = true := by
    rw [List.all_eq_true]
    intro i hi
    rw [beq_iff_eq]
    exact hb i (List.mem_range.mp hi)
  rw [e1, e2, e3] at h2
  exact absurd h2 (by decide)
def knownB (A T A0 T0 : List Int) : Bool := shortB T0 && (A0.isEmpty || A0.getLastD 0 != T0.getLastD 0) && T.length != 0 && (List.range (A.length + A0.length + T.length * T0.length)).all fun n => wt A0 T0 n == wt A T n
theorem known {A T A' T' : List Int} (A0 T0 : List Int) (n : Normal A' T') (w : wt A' T' = wt A T) (c : knownB A T A0 T0 = true) : A' = A0 ∧ T' = T0 := by
  unfold knownB at c
  simp only [Bool.and_eq_true] at c
  obtain ⟨⟨⟨c1, c2⟩, c3⟩, c4⟩ := c
  have s := short_of c1
  have n0 : Normal A0 T0 := ⟨s, fun h h' e => by
    have e1 : A0.isEmpty = false := by cases A0 with | nil => exact absurd rfl h | cons => rfl
    rw [e1, Bool.false_or, bne_iff_ne] at c2
    apply c2
    rw [List.getLastD_eq_getLast?, List.getLastD_eq_getLast?, List.getLast?_eq_some_getLast h, List.getLast?_eq_some_getLast h', e]⟩
  have hT0 : 0 < T0.length := List.length_pos_iff.mpr s.1
  have hT : 0 < T.length := Nat.pos_of_ne_zero (by simpa using c3)
  have e0 : wt A0 T0 = wt A T := wt_same (N := A.length + A0.length) (L := T.length * T0.length) (Nat.mul_pos hT hT0) (Nat.dvd_mul_left _ _) (Nat.dvd_mul_right _ _) (by omega) (by omega) fun m hm => by
    simpa using List.all_eq_true.mp c4 m (List.mem_range.mpr hm)
  exact n.unique n0 (w.trans e0.symm)
theorem new_known {d : Nat} {M A T : List Int} (A0 T0 : List Int) {S : HS} {Q : AV → HS → Prop} {vm va vt : AV} (g : Good M A T) (hm : Seq vm M) (ha : Seq va A) (ht : Seq vt T) (c : knownB A T A0 T0 = true)
    (q : Q (Ru M A0 T0) S) (g0 : Good M A0 T0) : wNew st.P (wcall st.P (d + 4)) 0 [vm, va, vt] S Q := by
  refine w_new g hm ha ht fun A' T' n w g' => ?_
  obtain ⟨rfl, rfl⟩ := known A0 T0 n w c
  exact q
def goodB (M A T : List Int) : Bool := !M.isEmpty && decide (M.length ≤ 5) && M.all (fun x => decide (2 ≤ x) && decide (x ≤ 32)) && decide (prod M ≤ 32) && A.all (fun x => decide (0 ≤ x) && decide (x ≤ prod M - 1)) && T.all (fun x => decide (0 ≤ x) && decide (x ≤ prod M - 1)) && !T.isEmpty && decide (A.length + T.length ≤ 24)
theorem good_of {M A T : List Int} (h : goodB M A T = true) : Good M A T := by
  unfold goodB at h
  simp only [Bool.and_eq_true, List.all_eq_true, decide_eq_true_eq] at h
  obtain ⟨⟨⟨⟨⟨⟨⟨h1, h2⟩, h3⟩, h4⟩, h5⟩, h6⟩, h7⟩, h8⟩ := h
  exact ⟨fun e => by subst e; simp at h1, h2, h3, h4, h5, h6, fun e => by subst e; simp at h7, h8⟩
theorem new_lit {d : Nat} (M A T A0 T0 : List Int) {S : HS} {Q : AV → HS → Prop} {vm va vt : AV} (g : goodB M A T = true) (hm : Seq vm M) (ha : Seq va A) (ht : Seq vt T) (c : knownB A T A0 T0 = true)
    (q : Q (Ru M A0 T0) S) : wNew st.P (wcall st.P (d + 4)) 0 [vm, va, vt] S Q := by
  refine w_new (good_of g) hm ha ht fun A' T' n w g' => ?_
  obtain ⟨rfl, rfl⟩ := known A0 T0 n w c
  exact q
local macro_rules
  | `(tactic| get_elem_tactic_trivial) => `(tactic| (rw [wSs_cons]; simp only [startA, MP.wS, MP.wE, MP.wEs, MP.wI, MP.wG, MP.wGs, MGs.len, vw, sub0t, sub1t, sub2t, sub0l, sub1l, sub2l, MP.wCmp, MP.wBin, MP.wTs, MP.wUn, truth, MP.wTru, w2I, wItems, MP.isNon, List.map_cons, List.map_nil, List.length_cons, List.length_nil, List.cons_append, List.nil_append, List.getElem?_cons_zero, List.getElem?_cons_succ, List.replicate, List.set_cons_zero, List.set_cons_succ, LINE, Nat.reduceAdd, Nat.zero_add, Nat.reduceLeDiff, true_and, eq_self, if_true, reduceCtorEq, if_false, Bool.false_eq_true, ↓reduceIte, eq_tup_d, eq_lst_d, eq_int_d, eq_str_d, eq_bl_d, MP.add_int, MP.add_tup, MP.add_lst, MP.mul_int, MP.mul_lst, MP.slc_tup, MP.slc_lst, MP.part0, MP.part1, or_or, and_or, bi_len_lst, bi_len_tup, bi_int_int, bi_int_bl, bi_abs, bi_list_lst, bi_list_tup, bi_tuple_lst, bi_tuple_tup, bi_repr]))
theorem told_eq {Q : Bool → Prop} (q : Q true) : wEqD (.lst [.tup [], .tup [.int 0], .bl true, .tup [.int 1, .int 0]]) (.lst [.tup [], .tup [.int 0], .bl true, .tup [.int 1, .int 0]]) Q := by
  have e : PyData.eqv (PyData.list [.tuple [], .tuple [.int 0], .bool true, .tuple [.int 1, .int 0]]) (PyData.list [.tuple [], .tuple [.int 0], .bool true, .tuple [.int 1, .int 0]]) = true := by decide +kernel
  have s : SeqAt.shaped (PyData.list [.tuple [], .tuple [.int 0], .bool true, .tuple [.int 1, .int 0]]) = true := by decide +kernel
  refine ⟨s, s, ?_⟩
  rw [e]
  exact q
theorem law_ok (ns : List Int) (h : ns.length ≤ 63) : wcall st.P 12 0 [.slst ns] [] fun v _ => v = .bl true := by
  refine enter (D := d_law) rfl rfl ?_
  simp only [d_law]
  get_elem_tactic_trivial
  refine c_pen h ?_
  get_elem_tactic_trivial
  refine ⟨⟨by decide, by decide⟩, ?_⟩
  have rest : ∀ (a l : Int) (w : Option AV), 0 ≤ a → 0 ≤ l → wSs st.P (wcall st.P 11) (d_law.body.drop 2) { nx := fun x S1 => retF 1 [] (fun v x => v = AV.bl true) AV.non S1, rt := retF 1 [] fun v x => v = AV.bl true } [some (.slst ns), some (.ref 0), w, none, none, none] (pen ns a l) := by
    intro a l w ha hl
    simp only [d_law, MSs.drop]
    get_elem_tactic_trivial
    refine new_lit [4] [1, 2, 1, 2] [1, 2] [] [1, 2] rfl (.inl rfl) (.inr rfl) (.inr rfl) rfl ?_
    rw [att_a]
    refine new_lit [4] [1, 2] [0, 0, 0] [1, 2] [0] rfl (.inl rfl) (.inr rfl) (.inl rfl) rfl ?_
    rw [att_t]
    refine new_lit [2, 2] [] [0] [] [0] rfl (.inl rfl) (.inl rfl) (.inl rfl) rfl ?_
    refine attI ?_
    refine new_lit [2] [1] [0, 1] [] [1, 0] rfl (.inl rfl) (.inl rfl) (.inl rfl) rfl ?_
    rw [att_t]
    get_elem_tactic_trivial
    get_elem_tactic_trivial
    refine ⟨by decide, ?_⟩
    refine new_lit [2] [] [1, 0, 0, 1, 1, 1, 0, 0, 1, 1] [] [1, 0, 0, 1, 1] rfl (.inl rfl) (.inl rfl) (.inr rfl) rfl ?_
    rw [att_t]
    refine eqW_tup (i := [1, 0, 0, 1, 1]) (j := [1, 0, 0, 1, 1]) ?_
    simp only [eq_self, decide_true, Bool.not_true, Bool.false_eq_true, if_false]
    refine ⟨by decide, ?_⟩
    refine new_lit [2] [] [1, 0, 0, 0, 1, 1, 0, 1, 0, 0, 0, 1, 1, 0] [] [1, 0, 0, 0, 1, 1, 0] rfl (.inl rfl) (.inl rfl) (.inr rfl) rfl ?_
    refine new_lit [2] [] [1, 0, 0, 0, 1, 1, 0] [] [1, 0, 0, 0, 1, 1, 0] rfl (.inl rfl) (.inl rfl) (.inr rfl) rfl ?_
    refine eqE ?_
    simp only [eq_self, decide_true, Bool.and_self, Bool.not_true, Bool.false_eq_true, if_false]
    refine ⟨by decide, ?_⟩
    refine new_lit [2] [] [1, 0, 0, 1, 1, 1, 0, 0, 1, 1, 1, 0, 0, 1, 1, 1, 0, 0, 1, 1] [] [1, 0, 0, 1, 1] rfl (.inl rfl) (.inl rfl) (.inr rfl) rfl ?_
    refine attC (good_of rfl) ?_
    refine eqW_int (i := 5) (j := 5) ?_
    simp only [eq_self, decide_true, Bool.not_true, Bool.false_eq_true, if_false]
    rw [wSs_nil]; dsimp only
    get_elem_tactic_trivial
    refine told_eq ?_
    rw [if_neg (by decide)]
    refine new_lit [4] [] [1] [] [1] rfl (.inl rfl) (.inl rfl) (.inl rfl) rfl ?_
    refine new_lit [2, 2] [] [1] [] [1] rfl (.inl rfl) (.inl rfl) (.inl rfl) rfl ?_
    refine eqE ?_
    exact ⟨fun n o _ hn => absurd hn (Nat.not_lt_zero n), trivial, rfl⟩
  have key : ∀ (m : Nat) (xs : List AV) (a l : Int) (w : Option AV), xs.length = m → 0 ≤ a → a + 26 * m ≤ 80000 → 0 ≤ l → wForL (fun _ => True) (wG st.P (wcall st.P 11) (.nm 2)) (wSs st.P (wcall st.P 11) (d_law.body.nth 1).body) xs
      { nx := wSs st.P (wcall st.P 11) (d_law.body.drop 2) { nx := fun x S1 => retF 1 [] (fun v x => v = AV.bl true) AV.non S1, rt := retF 1 [] fun v x => v = AV.bl true }, rt := retF 1 [] fun v x => v = AV.bl true } [some (.slst ns), some (.ref 0), w, none, none, none] (pen ns a l) := by
    intro m
    induction m with
    | zero =>
      intro xs a l w hx ha _ hl
      rw [List.eq_nil_of_length_eq_zero hx]
      exact ⟨trivial, rest a l w ha hl⟩
    | succ m ih =>
      intro xs a l w hx ha hm hl
      cases xs with
      | nil => simp at hx
      | cons x xs =>
        refine ⟨trivial, ?_⟩
        show wSs st.P (wcall st.P 11) (.cons (.iff (.un .Not (.call 5 (.cons (.var 1) .nil))) (.cons (.ret (.c (.bl false))) .nil) .nil) .nil) _ [some (.slst ns), some (.ref 0), some x, none, none, none] (pen ns a l)
        get_elem_tactic_trivial
        refine c_turn_right ha (by omega) hl fun a' l' h1 h2 h3 => ?_
        exact ih xs a' l' (some x) (by simpa using hx) (by omega) (by omega) h3
  exact key 12 _ 0 0 none (by simp [intsA]) (by decide) (by decide) (by decide)
end K17
set_option maxHeartbeats 0
namespace K17
open PySem PySem.Spec L2 MP
open PyProof.Rows hiding St
abbrev R : PySem.W.OpenRow := PySem.W.OpenLaw.row PySem.Challenge.rw_lanebanks_k17_rules_in_their_normal_form
abbrev hk : PySem.W.Hook := hookM 6 (rowOf st fns) fns
def ob (s : PySem.W.SharedT) : He.AlD := obsMG 6 (rowOf st fns) fns (HandSHeadRun.getT s)
theorem ob_eq (s : PySem.W.SharedT) : ob s = hk.obs s.abs := obsMG_eq (HandSHeadRun.getT_eq s)
def loose0 : List PySem.Str := [("_wall" : PySem.Str), ("__name__" : PySem.Str), ("is_integer" : PySem.Str), ("is_within" : PySem.Str), ("is_number" : PySem.Str), ("BankError" : PySem.Str), ("BadRule" : PySem.Str), ("BadNumber" : PySem.Str), ("BadText" : PySem.Str), ("TooMany" : PySem.Str), ("MOST_BANKS" : PySem.Str), ("MOST_MODULI" : PySem.Str), ("MOST_PLACES_rules" : PySem.Str), ("banks_of" : PySem.Str), ("are_moduli" : PySem.Str), ("are_banks" : PySem.Str), ("shortest_turn" : PySem.Str), ("normal_weights" : PySem.Str), ("common_multiple" : PySem.Str), ("Rule" : PySem.Str)]
def loose1 : List PySem.Str := [("need_rule" : PySem.Str), ("need_number" : PySem.Str), ("parts_of" : PySem.Str), ("joined" : PySem.Str), ("sum_of" : PySem.Str), ("opposite" : PySem.Str), ("weight_pairs" : PySem.Str), ("split_rule" : PySem.Str), ("upcoming" : PySem.Str), ("need_head" : PySem.Str), ("number_at" : PySem.Str), ("moduli_at" : PySem.Str), ("banks_at" : PySem.Str), ("_law_pen" : PySem.Str), ("_law_draw" : PySem.Str), ("_law_pick" : PySem.Str), ("_law_plain" : PySem.Str), ("_law_weight" : PySem.Str), ("_law_added" : PySem.Str), ("_law_bank" : PySem.Str)]
def loose2 : List PySem.Str := [("_law_normal" : PySem.Str), ("_law_same" : PySem.Str), ("_law_turn_right" : PySem.Str)]
abbrev loose : List PySem.Str := loose0 ++ loose1 ++ loose2
theorem run (w : World) : HandSHeadRun.RunEq R (PySem.W.view R.prog [46]) hk ob 10000 loose w := by
  intro os
  kernel_rfl
theorem binds : ∀ (k : Nat) (D : MDef) (dd : DefM), st.P.defs[k]? = some D → fns[k]? = some dd → BindP dd (D.N.take D.np)
  | 0, _, _, rfl, rfl => fun _ _ _ _ _ _ us hl => match us, hl with | [_], _ => rfl
  | 1, _, _, rfl, rfl => fun _ _ _ _ _ _ us hl => match us, hl with | [_, _, _, _], _ => rfl
  | 2, _, _, rfl, rfl => fun _ _ _ _ _ _ us hl => match us, hl with | [_, _], _ => rfl
  | 3, _, _, rfl, rfl => fun _ _ _ _ _ _ us hl => match us, hl with | [_], _ => rfl
  | 4, _, _, rfl, rfl => fun _ _ _ _ _ _ us hl => match us, hl with | [_], _ => rfl
  | 5, _, _, rfl, rfl => fun _ _ _ _ _ _ us hl => match us, hl with | [_], _ => rfl
  | 6, _, _, rfl, rfl => fun _ _ _ _ _ _ us hl => match us, hl with | [_], _ => rfl
  | 7, _, _, rfl, rfl => fun _ _ _ _ _ _ us hl => match us, hl with | [_, _], _ => rfl
  | 8, _, _, rfl, rfl => fun _ _ _ _ _ _ us hl => match us, hl with | [_, _], _ => rfl
  | 9, _, _, rfl, rfl => fun _ _ _ _ _ _ us hl => match us, hl with | [_], _ => rfl
  | 10, _, _, rfl, rfl => fun _ _ _ _ _ _ us hl => match us, hl with | [_], _ => rfl
  | 11, _, _, rfl, rfl => fun _ _ _ _ _ _ us hl => match us, hl with | [_, _], _ => rfl
  | 12, _, _, rfl, rfl => fun _ _ _ _ _ _ us hl => match us, hl with | [_], _ => rfl
  | 13, _, _, rfl, rfl => fun _ _ _ _ _ _ us hl => match us, hl with | [_], _ => rfl
  | 14, _, _, rfl, rfl => fun _ _ _ _ _ _ us hl => match us, hl with | [_], _ => rfl
  | 15, _, _, rfl, rfl => fun _ _ _ _ _ _ us hl => match us, hl with | [_], _ => rfl
  | 16, _, _, rfl, rfl => fun _ _ _ _ _ _ us hl => match us, hl with | [_, _, _], _ => rfl
  | 17, _, _, rfl, rfl => fun _ _ _ _ _ _ us hl => match us, hl with | [_, _], _ => rfl
  | 18, _, _, rfl, rfl => fun _ _ _ _ _ _ us hl => match us, hl with | [_, _], _ => rfl
  | 19, _, _, rfl, rfl => fun _ _ _ _ _ _ us hl => match us, hl with | [_, _], _ => rfl
  | 20, _, _, rfl, rfl => fun _ _ _ _ _ _ us hl => match us, hl with | [_], _ => rfl
  | _ + 21, _, _, h, _ => by cases h
theorem bindk (k : Nat) (D : MDef) (dd : DefM) (n : Nat) (ks : List Nat) (h : (k, n, ks) ∈ st.kw) (e : st.P.defs[k]? = some D) (ed : fns[k]? = some dd) : BindK dd (D.N.take D.np) n (ks.map fun i => D.N.getD i Str.empty) ks := by
  simp only [st, List.mem_cons, List.not_mem_nil, or_false, Prod.mk.injEq] at h
  obtain ⟨rfl, rfl, rfl⟩ := h
  · cases e; cases ed; exact fun _ _ _ _ _ _ us ws l1 l2 => match us, l1, ws, l2 with | [_], _, [_, _, _], _ => rfl
theorem facts {P' : Program} {w : World} {K : PySem.W.Frag} {h : Heap} {mg : Str → Option Value} {f : Addr} (X : K.In h) (G : h.Ns mainGlobals mg) (hfa : mg ("law" : Str) = some (.ref f)) (c : SaysM (rowOf st fns) fns K) :
    ∃ fd : FuncData, (∀ (s : Shared) (v : Value), BindsTo s fd ⟨[v], []⟩ [(("_law_script" : Str), v)]) ∧ ∀ base : Heap, K.In base → base.Ns mainGlobals mg → FnOk P' w K mg base CX0 (5 * 12 + 1) f fd ["_law_script"] (spLaw K 63) := by
  have q := row_fn (P := P') (w := w) (d := 12) (m := 63) (kl := 0) X G c rfl (fun k D dd e ed => ?_) binds bindk (D := d_law) (dd := fns.getD 0 ⟨.glo Str.empty, Str.empty, Str.empty, C8.fnArgs (top 0), [], C8.fnScope (top 0)⟩) rfl rfl (x := "_law_script") rfl law_ok
  · have q2 := (rowB_ok X G c.row).gd "law" 0 (show st.gd.lookup ("law" : Str) = some 0 from by decide +kernel)
    rw [hfa] at q2
    cases q2
    exact q
  · have q := List.all_eq_true.mp checked k (List.mem_range.mpr (List.getElem?_eq_some_iff.mp e).1)
    rw [e, ed] at q
    exact q
end K17
open PySem PySem.W PySem.Calls PyProof.Rows
theorem PySem.Challenge.cw_lanebanks_k17_rules_in_their_normal_form_holds : PySem.Challenge.rw_lanebanks_k17_rules_in_their_normal_form.Holds := by
  w_on; o_law
  refine HandSHeadRun.head_any (r := OpenLaw.row PySem.Challenge.rw_lanebanks_k17_rules_in_their_normal_form) (q := view (OpenLaw.row PySem.Challenge.rw_lanebanks_k17_rules_in_their_normal_form).prog [46]) (H := K17.hk) (ob := K17.ob) (M := 10000) (loose := K17.loose) (d := HandSHeadRun.topDef (OpenLaw.row PySem.Challenge.rw_lanebanks_k17_rules_in_their_normal_form).prog 46) (kwd := []) K17.ob_eq
    (by kernel_rfl) (fun s => by kernel_rfl) K17.run (by kernel_rfl) (by kernel_rfl) (by kernel_rfl) (by rfl) (by first | assumption | decide +kernel) (by decide +kernel) ⟨rfl, rfl, rfl, rfl, rfl, by decide +kernel⟩ ?hw ?hc
  case hw => w_witness2
  case hc =>
    refine L2.walk_ofE (l := PySem.Challenge.rw_lanebanks_k17_rules_in_their_normal_form) (n := 63) (k := 5 * 12 + 1) (x := "_law_script") (CX := L2.CX0) rfl (by decide) (by kernel_rfl) ⟨rfl, by decide, by decide⟩ ?F (fun _ _ _ _ z => z)
    intro w mg fa h Y G hmg0
    obtain ⟨K, KX, c⟩ := Y
    have hmg : mg ("law" : PySem.Str) = some (.ref fa) := by
      have e : (HandSHeadRun.topDef (OpenLaw.row PySem.Challenge.rw_lanebanks_k17_rules_in_their_normal_form).prog 46).name = ("law" : PySem.Str) := by kernel_rfl
      rw [← e]
      exact hmg0
    obtain ⟨fd, hb, hF⟩ := K17.facts (P' := (PySem.Challenge.rw_lanebanks_k17_rules_in_their_normal_form).prog) (w := w) KX G hmg c
    exact ⟨K, fd, MP.spLaw K 63, KX, hb, fun H a ns hl hO hS => ⟨a, ns, rfl, hl, hO, hS, fun _ => rfl⟩, hF⟩
