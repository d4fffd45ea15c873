import PyProof.Rows.All
import Wide.All
import OpenK.AllK
import Wide.FinOn
import KE.KUnpack
import KE.KDictOf
import PySem.Challenge.RW_np0228_01
open PySem PySem.W PyProof.Rows
set_option Elab.async false
set_option linter.unusedVariables false
set_option linter.unusedSimpArgs false
set_option maxRecDepth 100000
set_option maxHeartbeats 8000000
set_option genSizeOf false
namespace Gh

-- T0
open_top hd for PySem.Challenge.rw_np0228_01

-- G0
-- ghost values
inductive GV where
  | none
  | bool (b : Bool)
  | int (i : Int)
  | str (s : Str)
  | ref (a : Addr)

noncomputable def er : Value → Option GV
  | .none => some .none
  | .bool b => some (.bool b)
  | .int i _ => some (.int i)
  | .str s _ => some (.str s)
  | .ref a => some (.ref a)
  | _ => Option.none

-- ghost objects
inductive GO where
  | list (l : List GV)
  | flist (l : List GV)
  | tup (l : List GV)
  | dict (kvs : List (Str × GV))
  | inst (dx : Addr)
  | attrs (kvs : List (Str × GV))
  | range (n : Int)

abbrev GH := Addr → Option GO
abbrev Loc := Str → Option GV
abbrev EM := GH → (GV → GH → Prop) → Prop
abbrev Kd := Str → Option NameKind
abbrev Spec := Bool → Str → List GV → GH → (GV → GH → Prop) → Prop

noncomputable def hset (H : GH) (a : Addr) (o : GO) : GH := fun b => if b = a then some o else H b
noncomputable def lset (ρ : Loc) (x : Str) (v : GV) : Loc := fun y => if y = x then some v else ρ y

noncomputable def bnd : Nat := 1000000

noncomputable def gNew (o : GO) (H : GH) (Q : GV → GH → Prop) : Prop := ∀ a, H a = Option.none → Q (.ref a) (hset H a o)

-- python's place in a list
noncomputable def gIdx (i : Int) (n : Nat) : Option Nat :=
  if 0 ≤ i then (if i < n then some i.toNat else Option.none) else (if 0 ≤ i + n then some (i + n).toNat else Option.none)

noncomputable def gBin : Operator → GV → GV → EM
  | .Add, .int a, .int b, H, Q => Q (.int (a + b)) H
  | .Sub, .int a, .int b, H, Q => Q (.int (a - b)) H
  | .Mult, .int a, .int b, H, Q => ((-(2 ^ 62) ≤ a ∧ a ≤ 2 ^ 62) ∨ (-(2 ^ 62) ≤ b ∧ b ≤ 2 ^ 62)) ∧ Q (.int (a * b)) H
  | .FloorDiv, .int a, .int b, H, Q => 0 < b ∧ b < 2 ^ 30 ∧ 0 ≤ a ∧ Q (.int (a / b)) H
  | .Mod, .int a, .int b, H, Q => 0 < b ∧ b < 2 ^ 62 ∧ 0 ≤ a ∧ Q (.int (a % b)) H
  | .Pow, .int a, .int b, H, Q => a = 10 ∧ b = 18 ∧ Q (.int (10 ^ 18)) H
  | .Add, .ref a, .ref b, H, Q => ∃ l₁ l₂, H a = some (.list l₁) ∧ H b = some (.list l₂) ∧ l₁.length + l₂.length ≤ bnd ∧ gNew (.list (l₁ ++ l₂)) H Q
  | _, _, _, _, _ => False

noncomputable def strs? : List GV → Option (List Str)
  | [] => some []
  | .str s :: r => (strs? r).map (s :: ·)
  | _ => Option.none

noncomputable def gEq : GV → GV → GH → (Bool → Prop) → Prop
  | .int a, .int b, _, P => P (decide (a = b))
  | .str a, .str b, _, P => P (decide (a = b))
  | .bool a, .bool b, _, P => P (decide (a = b))
  | .ref a, .ref b, H, P => ∃ l₁ l₂ s₁ s₂, a ≠ b ∧ H a = some (.list l₁) ∧ H b = some (.list l₂) ∧ strs? l₁ = some s₁ ∧ strs? l₂ = some s₂ ∧ s₁.length ≤ bnd ∧ s₂.length ≤ bnd ∧ P (decide (s₁ = s₂))
  | _, _, _, _ => False

noncomputable def gIn : GV → GV → GH → (Bool → Prop) → Prop
  | .str x, .ref a, H, P => (∃ l ss, H a = some (.list l) ∧ strs? l = some ss ∧ ss.length ≤ bnd ∧ P (decide (x ∈ ss))) ∨ (∃ kvs, H a = some (.dict kvs) ∧ P ((kvs.lookup x).isSome))
  | _, _, _, _ => False

noncomputable def gCmp : CmpOp → GV → GV → GH → (Bool → Prop) → Prop
  | .Eq, a, b, H, P => gEq a b H P
  | .NotEq, a, b, H, P => gEq a b H fun c => P (!c)
  | .Lt, .int a, .int b, _, P => P (decide (a < b))
  | .Gt, .int a, .int b, _, P => P (decide (a > b))
  | .GtE, .int a, .int b, _, P => P (decide (a ≥ b))
  | .In, a, b, H, P => gIn a b H P
  | .NotIn, a, b, H, P => gIn a b H fun c => P (!c)
  | _, _, _, _, _ => False

noncomputable def gTruth : GV → GH → (Bool → Prop) → Prop
  | .bool b, _, P => P b
  | .ref a, H, P => ∃ l, H a = some (.list l) ∧ l.length ≤ bnd ∧ P (!l.isEmpty)
  | _, _, _ => False

noncomputable def gUn : UnaryOp → GV → EM
  | .USub, .int a, H, Q => Q (.int (-a)) H
  | .Not, v, H, Q => gTruth v H fun b => Q (.bool (!b)) H
  | _, _, _, _ => False

noncomputable def gItem : GV → GV → EM
  | .ref a, .int i, H, Q => ∃ l n v, (H a = some (.list l) ∨ H a = some (.flist l)) ∧ l.length ≤ bnd ∧ gIdx i l.length = some n ∧ l[n]? = some v ∧ Q v H
  | .ref a, .str k, H, Q => ∃ kvs v, H a = some (.dict kvs) ∧ kvs.lookup k = some v ∧ Q v H
  | _, _, _, _ => False

-- xs[lo:], xs[:hi] with 0 ≤ lo, hi
noncomputable def gSlice : GV → Option GV → Option GV → EM
  | .ref a, some (.int lo), Option.none, H, Q => ∃ l, H a = some (.list l) ∧ l.length ≤ bnd ∧ 0 ≤ lo ∧ lo ≤ l.length ∧ gNew (.list (l.drop lo.toNat)) H Q
  | .ref a, Option.none, some (.int hi), H, Q => ∃ l, H a = some (.list l) ∧ l.length ≤ bnd ∧ 0 ≤ hi ∧ hi ≤ l.length ∧ gNew (.list (l.take hi.toNat)) H Q
  | _, _, _, _, _ => False

noncomputable def attrNames : List Str := ["uses", "numbers", "lows", "open", "is_open", "found"]
noncomputable def methNames : List Str := ["enter", "leave", "walk", "look"]

noncomputable def gGetAttr : GV → Str → EM
  | .ref a, n, H, Q => n ∈ attrNames ∧ ∃ dx kvs v, H a = some (.inst dx) ∧ H dx = some (.attrs kvs) ∧ kvs.lookup n = some v ∧ Q v H
  | _, _, _, _ => False

-- a store under a key: in its place, or behind
noncomputable def put (k : Str) (v : GV) : List (Str × GV) → List (Str × GV)
  | [] => [(k, v)]
  | e :: r => if e.1 = k then (k, v) :: r else e :: put k v r

noncomputable def ints? : List GV → Option (List Int)
  | [] => some []
  | .int i :: r => (ints? r).map (i :: ·)
  | _ => Option.none

noncomputable def pairsOf (H : GH) : List GV → Option (List (Str × GV))
  | [] => some []
  | .ref a :: r => match H a, pairsOf H r with
    | some (.tup [.str k, v]), some t => some ((k, v) :: t)
    | _, _ => Option.none
  | _ => Option.none

noncomputable def ownNames : List Str := ["_law_pool", "_law_take", "_law_one", "_law_drawn", "_law_reached", "strong_groups", "_law_groups_right", "is_round", "Walker"]
noncomputable def bNames : List Str := ["len", "min", "max", "int", "range", "sorted", "dict"]

-- calls by a plain name
noncomputable def gCall (Φ : Spec) (f : Str) (vs : List GV) (H : GH) (Q : GV → GH → Prop) : Prop :=
  if f = "len" then match vs with
    | [.ref a] => (∃ l, (H a = some (.list l) ∨ H a = some (.flist l)) ∧ l.length ≤ bnd ∧ Q (.int l.length) H) ∨ (∃ kvs, H a = some (.dict kvs) ∧ kvs.length ≤ bnd ∧ Q (.int kvs.length) H)
    | _ => False
  else if f = "min" then match vs with | [.int a, .int b] => Q (.int (if b < a then b else a)) H | _ => False
  else if f = "max" then match vs with | [.int a, .int b] => Q (.int (if b > a then b else a)) H | _ => False
  else if f = "int" then match vs with | [.int a] => Q (.int a) H | [.bool b] => Q (.int (if b then 1 else 0)) H | _ => False
  else if f = "range" then match vs with | [.int n] => n ≤ bnd ∧ -bnd ≤ n ∧ gNew (.range n) H Q | _ => False
  else if f = "sorted" then match vs with | [.ref a] => ∃ l is, H a = some (.list l) ∧ ints? l = some is ∧ is.length < 64 ∧ ∀ js : List Int, js.Perm is → js.Pairwise (· ≤ ·) → gNew (.list (js.map .int)) H Q | _ => False
  else if f = "dict" then match vs with | [.ref a] => ∃ l ps, H a = some (.list l) ∧ pairsOf H l = some ps ∧ ps.length ≤ bnd ∧ (ps.map (·.1)).Nodup ∧ gNew (.dict ps) H Q | _ => False
  else Φ false f vs H Q

noncomputable def gListMeth (name : Str) (a : Addr) (vs : List GV) (H : GH) (Q : GV → GH → Prop) : Prop :=
  ∃ l, H a = some (.list l) ∧ l.length < bnd ∧
  if name = "append" then match vs with | [v] => Q .none (hset H a (.list (l ++ [v]))) | _ => False
  else if name = "pop" then match vs with
    | [] => ∃ l' v, l = l' ++ [v] ∧ Q v (hset H a (.list l'))
    | [.int i] => ∃ v, 0 ≤ i ∧ l[i.toNat]? = some v ∧ Q v (hset H a (.list (l.eraseIdx i.toNat)))
    | _ => False
  else False

noncomputable def gDictMeth (name : Str) (a : Addr) (vs : List GV) (H : GH) (Q : GV → GH → Prop) : Prop :=
  ∃ kvs, H a = some (.dict kvs) ∧
  if name = "get" then match vs with | [.str k, d] => Q ((kvs.lookup k).getD d) H | _ => False
  else False

noncomputable def itemsOf : GO → Option (List GV)
  | .list l => some l
  | .range n => if -(bnd : Int) ≤ n then some ((List.range n.toNat).map fun (i : Nat) => GV.int (i : Int)) else Option.none
  | _ => Option.none

noncomputable def gCompL (a : Addr) (o : GO) (cond : GV → GH → (Bool → GH → Prop) → Prop) (el : GV → EM) : List GV → GH → List GV → (List GV → GH → Prop) → Prop
  | [], H, acc, Q => H a = some o ∧ Q acc H
  | v :: r, H, acc, Q => H a = some o ∧ cond v H fun b H₁ => if b then el v H₁ fun y H₂ => gCompL a o cond el r H₂ (acc ++ [y]) Q else gCompL a o cond el r H₁ acc Q

noncomputable def compLoc (names : List (Str × NameKind)) (ρ : Loc) (x : Str) (v : GV) : Loc := fun y => if y = x then some v else if names.lookup y = some .free then ρ y else Option.none

noncomputable def isSet : Expr → Bool
  | .Set .. => true
  | _ => false
noncomputable def okBase : Expr → Bool
  | .Name .. | .Attribute .. => true
  | _ => false
noncomputable def noStar : List Expr → Bool
  | [] => true
  | .Starred .. :: _ => false
  | _ :: r => noStar r
noncomputable def nodupNames : List (Str × NameKind) → Bool
  | [] => true
  | p :: r => !(r.any fun q => q.1 == p.1) && nodupNames r
-- what is asked of a comprehension's block
noncomputable def compOk (kd : Kd) (scope : Scope) (x : Str) : Bool :=
  (scope.names.lookup x == some .local || scope.names.lookup x == some .cell) && nodupNames scope.names && (match scope.kind with | .function => true | _ => false) &&
  scope.names.all fun p => match p.2 with
    | .free => (kd p.1 == some .cell || kd p.1 == some .free)
    | .cell => p.1 == x
    | .globalExplicit => false
    | _ => true

mutual
noncomputable def gE (Φ : Spec) : Kd → Expr → Loc → EM
  | kd, .Constant (.int i) _ _, _, H, Q => Q (.int i) H
  | kd, .Constant (.str x) _ _, _, H, Q => Q (.str x) H
  | kd, .Constant (.bool b) _ _, _, H, Q => Q (.bool b) H
  | kd, .Name id _, ρ, H, Q => ((id == ("__debug__" : Str)) = false ∧ (id == ("__classdict__" : Str)) = false) ∧ ∃ v, ρ id = some v ∧ Q v H
  | kd, .BinOp l op r _, ρ, H, Q => gE Φ kd l ρ H fun a H₁ => gE Φ kd r ρ H₁ fun b H₂ => gBin op a b H₂ Q
  | kd, .UnaryOp op x _, ρ, H, Q => gE Φ kd x ρ H fun a H₁ => gUn op a H₁ Q
  | kd, .BoolOp op es _, ρ, H, Q => gBool Φ kd op es ρ H Q
  | kd, .Compare l [op] [r] _, ρ, H, Q => isSet r = false ∧ gE Φ kd l ρ H fun a H₁ => gE Φ kd r ρ H₁ fun b H₂ => gCmp op a b H₂ fun c => Q (.bool c) H₂
  | kd, .List es _, ρ, H, Q => noStar es = true ∧ gEs Φ kd es ρ H fun vs H₁ => vs.length ≤ bnd ∧ gNew (.list vs) H₁ Q
  | kd, .Tuple es _ _, ρ, H, Q => noStar es = true ∧ gEs Φ kd es ρ H fun vs H₁ => vs.length ≤ bnd ∧ gNew (.tup vs) H₁ Q
  | kd, .Dict [] [] _, _, H, Q => gNew (.dict []) H Q
  | kd, .Attribute o n _, ρ, H, Q => okBase o = true ∧ gE Φ kd o ρ H fun a H₁ => gGetAttr a n H₁ Q
  | kd, .Subscript v (.Slice (some lo) none none _) _, ρ, H, Q => gE Φ kd v ρ H fun a H₁ => gE Φ kd lo ρ H₁ fun b H₂ => gSlice a (some b) none H₂ Q
  | kd, .Subscript v (.Slice none (some hi) none _) _, ρ, H, Q => gE Φ kd v ρ H fun a H₁ => gE Φ kd hi ρ H₁ fun b H₂ => gSlice a none (some b) H₂ Q
  | kd, .Subscript _ (.Slice ..) _, _, _, _ => False
  | kd, .Subscript v i _, ρ, H, Q => gE Φ kd v ρ H fun a H₁ => gE Φ kd i ρ H₁ fun b H₂ => gItem a b H₂ Q
  | kd, .Call (.Name f _) es [] _, ρ, H, Q => (f == ("__debug__" : Str)) = false ∧ (kd f = some .globalImplicit ∧ noStar es = true ∧ (f ∈ ownNames ∨ f ∈ bNames)) ∧ gEs Φ kd es ρ H fun vs H₁ => gCall Φ f vs H₁ Q
  | kd, .Call (.Attribute o n ap) es [] pos, ρ, H, Q => (okBase o = true ∧ noStar es = true ∧ es.length < 30 ∧ (ap.endLine == pos.line) = true) ∧ gE Φ kd o ρ H fun ov H₁ => match ov with
    | .ref a => match H₁ a with
      | some (.list _) => (n = "append" ∨ n = "pop") ∧ gEs Φ kd es ρ H₁ fun vs H₂ => gListMeth n a vs H₂ Q
      | some (.dict _) => n = "get" ∧ gEs Φ kd es ρ H₁ fun vs H₂ => gDictMeth n a vs H₂ Q
      | some (.inst dx) => n ∈ methNames ∧ (∃ kvs, H₁ dx = some (.attrs kvs) ∧ kvs.lookup n = none) ∧ gEs Φ kd es ρ H₁ fun vs H₂ => Φ true n (.ref a :: vs) H₂ Q
      | _ => False
    | _ => False
  | kd, .ListComp elt [⟨.Name x _, iter, ifs, 0⟩] scope _, ρ, H, Q => (compOk kd scope x = true ∧ isSet iter = false) ∧ gE Φ kd iter ρ H fun v H₁ => ∃ a o l, v = .ref a ∧ H₁ a = some o ∧ itemsOf o = some l ∧ l.length ≤ bnd ∧
      gCompL a o (fun y => gIfs Φ (fun z => scope.names.lookup z) ifs (compLoc scope.names ρ x y)) (fun y => gE Φ (fun z => scope.names.lookup z) elt (compLoc scope.names ρ x y)) l H₁ [] fun acc H₂ => gNew (.list acc) H₂ Q
  | kd, _, _, _, _ => False
noncomputable def gEs (Φ : Spec) : Kd → List Expr → Loc → GH → (List GV → GH → Prop) → Prop
  | kd, [], _, H, Q => Q [] H
  | kd, .Starred .. :: _, _, _, _ => False
  | kd, e :: r, ρ, H, Q => gE Φ kd e ρ H fun v H₁ => gEs Φ kd r ρ H₁ fun vs H₂ => Q (v :: vs) H₂
noncomputable def gBool (Φ : Spec) : Kd → BoolOp → List Expr → Loc → EM
  | kd, _, [], _, _, _ => False
  | kd, _, [x], ρ, H, Q => gE Φ kd x ρ H Q
  | kd, op, x :: r, ρ, H, Q => gE Φ kd x ρ H fun v H₁ => gTruth v H₁ fun t => match op, t with
    | .And, false => Q v H₁
    | .Or, true => Q v H₁
    | _, _ => gBool Φ kd op r ρ H₁ Q
-- the tests of a comprehension (none, or one)
noncomputable def gIfs (Φ : Spec) : Kd → List Expr → Loc → GH → (Bool → GH → Prop) → Prop
  | kd, [], _, H, Q => Q true H
  | kd, [e], ρ, H, Q => gT Φ kd e ρ (gE Φ kd e ρ) H Q
  | kd, _, _, _, _ => False
noncomputable def gT (Φ : Spec) : Kd → Expr → Loc → EM → GH → (Bool → GH → Prop) → Prop
  | kd, .UnaryOp .Not x _, ρ, _, H, Q => gT Φ kd x ρ (gE Φ kd x ρ) H fun b H₁ => Q (!b) H₁
  | kd, .BoolOp op es _, ρ, _, H, Q => gAll Φ kd op es ρ H Q
  | kd, .IfExp .., _, _, _, _ => False
  | kd, .Compare l [op] [r] _, ρ, _, H, Q => isSet r = false ∧ gE Φ kd l ρ H fun a H₁ => gE Φ kd r ρ H₁ fun b H₂ => gCmp op a b H₂ fun c => Q c H₂
  | kd, .Compare .., _, _, _, _ => False
  | kd, _, _, whole, H, Q => whole H fun v H₁ => gTruth v H₁ fun b => Q b H₁
noncomputable def gAll (Φ : Spec) : Kd → BoolOp → List Expr → Loc → GH → (Bool → GH → Prop) → Prop
  | kd, op, [], _, H, Q => Q (op == .And) H
  | kd, op, x :: r, ρ, H, Q => gT Φ kd x ρ (gE Φ kd x ρ) H fun b H₁ => match op, b with
    | .And, false => Q false H₁
    | .Or, true => Q true H₁
    | _, _ => gAll Φ kd op r ρ H₁ Q
end

inductive GF where
  | next
  | ret (v : GV)

noncomputable def gSetItem : GV → GV → GV → GH → (GH → Prop) → Prop
  | .ref a, .int i, v, H, Q => ∃ l, H a = some (.list l) ∧ l.length ≤ bnd ∧ 0 ≤ i ∧ i < l.length ∧ Q (hset H a (.list (l.set i.toNat v)))
  | .ref a, .str k, v, H, Q => ∃ kvs, H a = some (.dict kvs) ∧ kvs.length ≤ bnd ∧ Q (hset H a (.dict (put k v kvs)))
  | _, _, _, _, _ => False

noncomputable def gSetAttr : GV → Str → GV → GH → (GH → Prop) → Prop
  | .ref a, n, v, H, Q => n ∈ attrNames ∧ ∃ dx kvs, H a = some (.inst dx) ∧ H dx = some (.attrs kvs) ∧ kvs.length ≤ 100 ∧ Q (hset H dx (.attrs (put n v kvs)))
  | _, _, _, _, _ => False

noncomputable def gAsgName (kd : Kd) (x : Str) (v : GV) (ρ : Loc) (Q : Loc → Prop) : Prop := (kd x = some .local ∨ kd x = some .cell) ∧ Q (lset ρ x v)

noncomputable def gAsgNames (kd : Kd) : List Expr → List GV → Loc → (Loc → Prop) → Prop
  | [], [], ρ, Q => Q ρ
  | .Name x _ :: ts, v :: vs, ρ, Q => gAsgName kd x v ρ fun ρ' => gAsgNames kd ts vs ρ' Q
  | _, _, _, _ => False

noncomputable def gUnpack : GV → GH → (List GV → Prop) → Prop
  | .ref a, H, P => ∃ l, (H a = some (.list l) ∨ H a = some (.tup l)) ∧ l.length ≤ bnd ∧ P l
  | _, _, _ => False

noncomputable def gAssign (Φ : Spec) (kd : Kd) : Expr → GV → Loc → GH → (Loc → GH → Prop) → Prop
  | .Name x _, v, ρ, H, Q => gAsgName kd x v ρ fun ρ' => Q ρ' H
  | .Attribute o n _, v, ρ, H, Q => gE Φ kd o ρ H fun ov H₁ => gSetAttr ov n v H₁ fun H₂ => Q ρ H₂
  | .Subscript _ (.Slice ..) _, _, _, _, _ => False
  | .Subscript o i _, v, ρ, H, Q => gE Φ kd o ρ H fun ov H₁ => gE Φ kd i ρ H₁ fun iv H₂ => gSetItem ov iv v H₂ fun H₃ => Q ρ H₃
  | .Tuple ts _ _, v, ρ, H, Q => gUnpack v H fun vs => gAsgNames kd ts vs ρ fun ρ' => Q ρ' H
  | _, _, _, _, _ => False

noncomputable def isComp : Expr → Bool
  | .ListComp .. | .SetComp .. | .DictComp .. => true
  | _ => false
noncomputable def tupleOk (kd : Kd) : Expr → Expr → Prop
  | .Tuple ts _ _, .Tuple .. => ∃ x p, Expr.Name x p ∈ ts ∧ kd x = some .cell
  | .List .., _ => False
  | .Starred .., _ => False
  | _, _ => True

noncomputable def gFor (kd : Kd) (x : Str) (a : Addr) (o : GO) (body : Loc → GH → (GF → Loc → GH → Prop) → Prop) : List GV → Loc → GH → (GF → Loc → GH → Prop) → Prop
  | [], ρ, H, Q => H a = some o ∧ Q .next ρ H
  | v :: r, ρ, H, Q => H a = some o ∧ gAsgName kd x v ρ fun ρ' => body ρ' H fun f ρ'' H' => match f with
    | .next => gFor kd x a o body r ρ'' H' Q
    | .ret y => Q (.ret y) ρ'' H'

mutual
noncomputable def gS (Φ : Spec) (kd : Kd) : Stmt → Loc → GH → (GF → Loc → GH → Prop) → Prop
  | .Expr (.Call f es ks p) _, ρ, H, Q => gE Φ kd (.Call f es ks p) ρ H fun _ H₁ => Q .next ρ H₁
  | .Return none _, ρ, H, Q => Q (.ret .none) ρ H
  | .Return (some e) _, ρ, H, Q => gE Φ kd e ρ H fun v H₁ => Q (.ret v) ρ H₁
  | .Assign [.Name x px] e _, ρ, H, Q => isComp e = false ∧ gE Φ kd e ρ H fun v H₁ => gAssign Φ kd (.Name x px) v ρ H₁ fun ρ' H₂ => Q .next ρ' H₂
  | .Assign [t] e _, ρ, H, Q => tupleOk kd t e ∧ gE Φ kd e ρ H fun v H₁ => gAssign Φ kd t v ρ H₁ fun ρ' H₂ => Q .next ρ' H₂
  | .If t b o _, ρ, H, Q => gT Φ kd t ρ (gE Φ kd t ρ) H fun c H₁ => if c then gSs Φ kd b ρ H₁ Q else gSs Φ kd o ρ H₁ Q
  | .While t b [] _, ρ, H, Q => ∃ (I : Nat → Loc → GH → Prop) (n : Nat), I n ρ H ∧ ∀ n ρ H, I n ρ H → gT Φ kd t ρ (gE Φ kd t ρ) H fun c H₁ =>
      if c then gSs Φ kd b ρ H₁ fun f ρ' H' => match f with
        | .next => ∃ m, m < n ∧ I m ρ' H'
        | .ret v => Q (.ret v) ρ' H'
      else Q .next ρ H₁
  | .For (.Name x _) iter b [] _, ρ, H, Q => isSet iter = false ∧ gE Φ kd iter ρ H fun v H₁ => ∃ a o l, v = .ref a ∧ H₁ a = some o ∧ itemsOf o = some l ∧ l.length ≤ bnd ∧ gFor kd x a o (gSs Φ kd b) l ρ H₁ Q
  | _, _, _, _ => False
noncomputable def gSs (Φ : Spec) (kd : Kd) : List Stmt → Loc → GH → (GF → Loc → GH → Prop) → Prop
  | [], ρ, H, Q => Q .next ρ H
  | s :: r, ρ, H, Q => gS Φ kd s ρ H fun f ρ' H' => match f with
    | .next => gSs Φ kd r ρ' H' Q
    | .ret v => Q (.ret v) ρ' H'
end

noncomputable def retOf : GF → GV
  | .next => .none
  | .ret v => v

-- a def's meaning: its body, its parameters bound
noncomputable def gDef (Φ : Spec) (sc : List (Str × NameKind)) (params : List Str) (body : List Stmt) (vs : List GV) (H : GH) (Q : GV → GH → Prop) : Prop :=
  vs.length = params.length ∧ gSs Φ (fun x => sc.lookup x) body (fun x => ((params.zip vs).reverse).lookup x) H fun f _ H' => Q (retOf f) H'

-- GE
noncomputable def noStar1 : Expr → Bool
  | .Starred .. => false
  | _ => true
noncomputable def notSlice : Expr → Bool
  | .Slice .. => false
  | _ => true
noncomputable def plainT : Expr → Bool
  | .UnaryOp .Not .. | .BoolOp .. | .IfExp .. | .Compare .. => false
  | _ => true
noncomputable def notName : Expr → Bool
  | .Name .. => false
  | _ => true

noncomputable def kdL (sc : List (Str × NameKind)) : Kd := fun x => sc.lookup x
theorem kdL_cons {p : Str × NameKind} {r : List (Str × NameKind)} {x : Str} : kdL (p :: r) x = if x = p.1 then some p.2 else kdL r x := by
  unfold kdL
  rw [List.lookup_cons]
  by_cases h : x = p.1
  · simp [h]
  · simp [h, beq_eq_false_iff_ne.mpr h]
section
variable {Φ : Spec} {kd : Kd} {ρ : Loc} {H : GH}
section
variable {Q : GV → GH → Prop}
theorem e_int {i : Int} {k : Nat} {p : Pos} : gE Φ kd (.Constant (.int i) k p) ρ H Q = Q (.int i) H := rfl
theorem e_str {x : Str} {k : Nat} {p : Pos} : gE Φ kd (.Constant (.str x) k p) ρ H Q = Q (.str x) H := rfl
theorem e_bool {b : Bool} {k : Nat} {p : Pos} : gE Φ kd (.Constant (.bool b) k p) ρ H Q = Q (.bool b) H := rfl
theorem e_bin {op : Operator} {l r : Expr} {p : Pos} : gE Φ kd (.BinOp l op r p) ρ H Q = gE Φ kd l ρ H fun a H₁ => gE Φ kd r ρ H₁ fun b H₂ => gBin op a b H₂ Q := rfl
theorem e_un {op : UnaryOp} {x : Expr} {p : Pos} : gE Φ kd (.UnaryOp op x p) ρ H Q = gE Φ kd x ρ H fun a H₁ => gUn op a H₁ Q := rfl
theorem e_bo {op : BoolOp} {es : List Expr} {p : Pos} : gE Φ kd (.BoolOp op es p) ρ H Q = gBool Φ kd op es ρ H Q := rfl
theorem e_cmp {op : CmpOp} {l r : Expr} {p : Pos} : gE Φ kd (.Compare l [op] [r] p) ρ H Q = (isSet r = false ∧ gE Φ kd l ρ H fun a H₁ => gE Φ kd r ρ H₁ fun b H₂ => gCmp op a b H₂ fun c => Q (.bool c) H₂) := rfl
theorem e_list {es : List Expr} {p : Pos} : gE Φ kd (.List es p) ρ H Q = (noStar es = true ∧ gEs Φ kd es ρ H fun vs H₁ => vs.length ≤ bnd ∧ gNew (.list vs) H₁ Q) := rfl
theorem e_tup {es : List Expr} {k : Nat} {p : Pos} : gE Φ kd (.Tuple es k p) ρ H Q = (noStar es = true ∧ gEs Φ kd es ρ H fun vs H₁ => vs.length ≤ bnd ∧ gNew (.tup vs) H₁ Q) := rfl
theorem e_dict {p : Pos} : gE Φ kd (.Dict [] [] p) ρ H Q = gNew (.dict []) H Q := rfl
theorem e_attr {o : Expr} {n : Str} {p : Pos} : gE Φ kd (.Attribute o n p) ρ H Q = (okBase o = true ∧ gE Φ kd o ρ H fun a H₁ => gGetAttr a n H₁ Q) := rfl
theorem e_from {v lo : Expr} {p q : Pos} : gE Φ kd (.Subscript v (.Slice (some lo) none none q) p) ρ H Q = gE Φ kd v ρ H fun a H₁ => gE Φ kd lo ρ H₁ fun b H₂ => gSlice a (some b) none H₂ Q := rfl
theorem e_upto {v hi : Expr} {p q : Pos} : gE Φ kd (.Subscript v (.Slice none (some hi) none q) p) ρ H Q = gE Φ kd v ρ H fun a H₁ => gE Φ kd hi ρ H₁ fun b H₂ => gSlice a none (some b) H₂ Q := rfl
theorem e_item {v i : Expr} {p : Pos} (h : notSlice i = true) : gE Φ kd (.Subscript v i p) ρ H Q = gE Φ kd v ρ H fun a H₁ => gE Φ kd i ρ H₁ fun b H₂ => gItem a b H₂ Q := by
  cases i <;> first | rfl | exact absurd h Bool.false_ne_true
theorem e_call {f : Str} {es : List Expr} {p q : Pos} : gE Φ kd (.Call (.Name f p) es [] q) ρ H Q = ((f == ("__debug__" : Str)) = false ∧ (kd f = some .globalImplicit ∧ noStar es = true ∧ (f ∈ ownNames ∨ f ∈ bNames)) ∧ gEs Φ kd es ρ H fun vs H₁ => gCall Φ f vs H₁ Q) := rfl
-- a method called on what ov is
noncomputable def gMeth (Φ : Spec) (n : Str) (ov : GV) (args : GH → (List GV → GH → Prop) → Prop) (H₁ : GH) (Q : GV → GH → Prop) : Prop := match ov with
  | .ref a => match H₁ a with
    | some (.list _) => (n = "append" ∨ n = "pop") ∧ args H₁ fun vs H₂ => gListMeth n a vs H₂ Q
    | some (.dict _) => n = "get" ∧ args H₁ fun vs H₂ => gDictMeth n a vs H₂ Q
    | some (.inst dx) => n ∈ methNames ∧ (∃ kvs, H₁ dx = some (.attrs kvs) ∧ kvs.lookup n = none) ∧ args H₁ fun vs H₂ => Φ true n (.ref a :: vs) H₂ Q
    | _ => False
  | _ => False
theorem gE_meth {o : Expr} {n : Str} {ap pos : Pos} {es : List Expr} :
    gE Φ kd (.Call (.Attribute o n ap) es [] pos) ρ H Q = ((okBase o = true ∧ noStar es = true ∧ es.length < 30 ∧ (ap.endLine == pos.line) = true) ∧ gE Φ kd o ρ H fun ov H₁ => gMeth Φ n ov (fun H R => gEs Φ kd es ρ H R) H₁ Q) := rfl
theorem bo_nil {op : BoolOp} : gBool Φ kd op [] ρ H Q = False := rfl
theorem bo_one {op : BoolOp} {x : Expr} : gBool Φ kd op [x] ρ H Q = gE Φ kd x ρ H Q := rfl
theorem gBool_or {x y : Expr} {r : List Expr} : gBool Φ kd .Or (x :: y :: r) ρ H Q = gE Φ kd x ρ H fun v H₁ => gTruth v H₁ fun t => if t then Q v H₁ else gBool Φ kd .Or (y :: r) ρ H₁ Q :=
  congrArg (gE Φ kd x ρ H) (funext fun v => funext fun H₁ => congrArg (gTruth v H₁) (funext fun t => by cases t <;> rfl))
theorem gBool_and {x y : Expr} {r : List Expr} : gBool Φ kd .And (x :: y :: r) ρ H Q = gE Φ kd x ρ H fun v H₁ => gTruth v H₁ fun t => if t then gBool Φ kd .And (y :: r) ρ H₁ Q else Q v H₁ :=
  congrArg (gE Φ kd x ρ H) (funext fun v => funext fun H₁ => congrArg (gTruth v H₁) (funext fun t => by cases t <;> rfl))
end
section
variable {Q : List GV → GH → Prop}
theorem es_nil : gEs Φ kd [] ρ H Q = Q [] H := rfl
theorem es_cons {e : Expr} {r : List Expr} (h : noStar1 e = true) : gEs Φ kd (e :: r) ρ H Q = gE Φ kd e ρ H fun v H₁ => gEs Φ kd r ρ H₁ fun vs H₂ => Q (v :: vs) H₂ := by
  cases e <;> first | rfl | exact absurd h Bool.false_ne_true
end
section
variable {Q : Bool → GH → Prop}
theorem if_nil : gIfs Φ kd [] ρ H Q = Q true H := rfl
theorem if_one {e : Expr} : gIfs Φ kd [e] ρ H Q = gT Φ kd e ρ (gE Φ kd e ρ) H Q := rfl
theorem t_not {x : Expr} {p : Pos} {w : EM} : gT Φ kd (.UnaryOp .Not x p) ρ w H Q = gT Φ kd x ρ (gE Φ kd x ρ) H fun b H₁ => Q (!b) H₁ := rfl
theorem t_bo {op : BoolOp} {es : List Expr} {p : Pos} {w : EM} : gT Φ kd (.BoolOp op es p) ρ w H Q = gAll Φ kd op es ρ H Q := rfl
theorem t_cmp {op : CmpOp} {l r : Expr} {p : Pos} {w : EM} : gT Φ kd (.Compare l [op] [r] p) ρ w H Q = (isSet r = false ∧ gE Φ kd l ρ H fun a H₁ => gE Φ kd r ρ H₁ fun b H₂ => gCmp op a b H₂ fun c => Q c H₂) := rfl
theorem t_name {id : Str} {p : Pos} {w : EM} : gT Φ kd (.Name id p) ρ w H Q = w H fun v H₁ => gTruth v H₁ fun b => Q b H₁ := rfl
theorem t_sub {v i : Expr} {p : Pos} {w : EM} : gT Φ kd (.Subscript v i p) ρ w H Q = w H fun v H₁ => gTruth v H₁ fun b => Q b H₁ := rfl
theorem t_call {f : Expr} {es : List Expr} {ks : List Keyword} {p : Pos} {w : EM} : gT Φ kd (.Call f es ks p) ρ w H Q = w H fun v H₁ => gTruth v H₁ fun b => Q b H₁ := rfl
theorem al_nil {op : BoolOp} : gAll Φ kd op [] ρ H Q = Q (op == .And) H := rfl
theorem gAll_or {x : Expr} {r : List Expr} : gAll Φ kd .Or (x :: r) ρ H Q = gT Φ kd x ρ (gE Φ kd x ρ) H fun b H₁ => if b then Q true H₁ else gAll Φ kd .Or r ρ H₁ Q :=
  congrArg (gT Φ kd x ρ (gE Φ kd x ρ) H) (funext fun b => funext fun H₁ => by cases b <;> rfl)
theorem gAll_and {x : Expr} {r : List Expr} : gAll Φ kd .And (x :: r) ρ H Q = gT Φ kd x ρ (gE Φ kd x ρ) H fun b H₁ => if b then gAll Φ kd .And r ρ H₁ Q else Q false H₁ :=
  congrArg (gT Φ kd x ρ (gE Φ kd x ρ) H) (funext fun b => funext fun H₁ => by cases b <;> rfl)
end
section
variable {Q : GF → Loc → GH → Prop} {A : Loc → GH → Prop}
theorem a_attr {o : Expr} {n : Str} {p : Pos} {v : GV} : gAssign Φ kd (.Attribute o n p) v ρ H A = gE Φ kd o ρ H fun ov H₁ => gSetAttr ov n v H₁ fun H₂ => A ρ H₂ := rfl
theorem a_item {o i : Expr} {p : Pos} {v : GV} (h : notSlice i = true) : gAssign Φ kd (.Subscript o i p) v ρ H A = gE Φ kd o ρ H fun ov H₁ => gE Φ kd i ρ H₁ fun iv H₂ => gSetItem ov iv v H₂ fun H₃ => A ρ H₃ := by
  cases i <;> first | rfl | exact absurd h Bool.false_ne_true
theorem a_tup {ts : List Expr} {k : Nat} {p : Pos} {v : GV} : gAssign Φ kd (.Tuple ts k p) v ρ H A = gUnpack v H fun vs => gAsgNames kd ts vs ρ fun ρ' => A ρ' H := rfl
theorem an_nil {R : Loc → Prop} : gAsgNames kd [] [] ρ R = R ρ := rfl
theorem s_expr {f : Expr} {es : List Expr} {ks : List Keyword} {p q : Pos} : gS Φ kd (.Expr (.Call f es ks p) q) ρ H Q = gE Φ kd (.Call f es ks p) ρ H fun _ H₁ => Q .next ρ H₁ := rfl
theorem s_ret0 {p : Pos} : gS Φ kd (.Return none p) ρ H Q = Q (.ret .none) ρ H := rfl
theorem s_ret {e : Expr} {p : Pos} : gS Φ kd (.Return (some e) p) ρ H Q = gE Φ kd e ρ H fun v H₁ => Q (.ret v) ρ H₁ := rfl
theorem s_asg {x : Str} {px p : Pos} {e : Expr} : gS Φ kd (.Assign [.Name x px] e p) ρ H Q = (isComp e = false ∧ gE Φ kd e ρ H fun v H₁ => gAssign Φ kd (.Name x px) v ρ H₁ fun ρ' H₂ => Q .next ρ' H₂) := rfl
theorem s_asg_ {t e : Expr} {p : Pos} (h : notName t = true) : gS Φ kd (.Assign [t] e p) ρ H Q = (tupleOk kd t e ∧ gE Φ kd e ρ H fun v H₁ => gAssign Φ kd t v ρ H₁ fun ρ' H₂ => Q .next ρ' H₂) := by
  cases t <;> first | rfl | exact absurd h Bool.false_ne_true
theorem s_if {t : Expr} {b o : List Stmt} {p : Pos} : gS Φ kd (.If t b o p) ρ H Q = gT Φ kd t ρ (gE Φ kd t ρ) H fun c H₁ => if c then gSs Φ kd b ρ H₁ Q else gSs Φ kd o ρ H₁ Q := rfl
theorem s_for {x : Str} {px p : Pos} {iter : Expr} {b : List Stmt} : gS Φ kd (.For (.Name x px) iter b [] p) ρ H Q = (isSet iter = false ∧ gE Φ kd iter ρ H fun v H₁ => ∃ a o l, v = .ref a ∧ H₁ a = some o ∧ itemsOf o = some l ∧ l.length ≤ bnd ∧ gFor kd x a o (gSs Φ kd b) l ρ H₁ Q) := rfl
-- what follows a statement
noncomputable def seqK (Φ : Spec) (kd : Kd) (r : List Stmt) (Q : GF → Loc → GH → Prop) (f : GF) (ρ : Loc) (H : GH) : Prop := match f with
  | .next => gSs Φ kd r ρ H Q
  | .ret v => Q (.ret v) ρ H
-- what follows a turn of a while
noncomputable def whK (I : Nat → Loc → GH → Prop) (n : Nat) (Q : GF → Loc → GH → Prop) (f : GF) (ρ : Loc) (H : GH) : Prop := match f with
  | .next => ∃ m, m < n ∧ I m ρ H
  | .ret v => Q (.ret v) ρ H
theorem s_while {t : Expr} {b : List Stmt} {p : Pos} : gS Φ kd (.While t b [] p) ρ H Q = (∃ (I : Nat → Loc → GH → Prop) (n : Nat), I n ρ H ∧ ∀ n ρ H, I n ρ H → gT Φ kd t ρ (gE Φ kd t ρ) H fun c H₁ => if c then gSs Φ kd b ρ H₁ (whK I n Q) else Q .next ρ H₁) := rfl
theorem whK_next {I : Nat → Loc → GH → Prop} {n : Nat} : whK I n Q .next ρ H = (∃ m, m < n ∧ I m ρ H) := rfl
theorem whK_ret {I : Nat → Loc → GH → Prop} {n : Nat} {v : GV} : whK I n Q (.ret v) ρ H = Q (.ret v) ρ H := rfl
theorem seqK_next {r : List Stmt} : seqK Φ kd r Q .next ρ H = gSs Φ kd r ρ H Q := rfl
theorem seqK_ret {r : List Stmt} {v : GV} : seqK Φ kd r Q (.ret v) ρ H = Q (.ret v) ρ H := rfl
theorem ss_cons {s : Stmt} {r : List Stmt} : gSs Φ kd (s :: r) ρ H Q = gS Φ kd s ρ H (seqK Φ kd r Q) := rfl
theorem gSs_nil : gSs Φ kd [] ρ H Q = Q .next ρ H := rfl
theorem peel {s : Stmt} {r : List Stmt} (h : gS Φ kd s ρ H (seqK Φ kd r Q)) : gSs Φ kd (s :: r) ρ H Q := h
end
end

section
variable {kd : Kd}
theorem tk_sub {a b e : Expr} {p : Pos} : tupleOk kd (.Subscript a b p) e = True := rfl
theorem tk_attr {a e : Expr} {n : Str} {p : Pos} : tupleOk kd (.Attribute a n p) e = True := rfl
theorem tk_call {ts es : List Expr} {k : Nat} {f : Expr} {ks : List Keyword} {p q : Pos} : tupleOk kd (.Tuple ts k p) (.Call f es ks q) = True := rfl
theorem tk_item {ts : List Expr} {k : Nat} {a b : Expr} {p q : Pos} : tupleOk kd (.Tuple ts k p) (.Subscript a b q) = True := rfl
theorem tk_tup {ts es : List Expr} {k l : Nat} {p q : Pos} : tupleOk kd (.Tuple ts k p) (.Tuple es l q) = (∃ x p, Expr.Name x p ∈ ts ∧ kd x = some .cell) := rfl
end

theorem p2_1 {a b : Nat} : a < 1 + a + b := by omega
theorem p2_2 {a b : Nat} : b < 1 + a + b := by omega
theorem p3_1 {a b c : Nat} : a < 1 + a + b + c := by omega
theorem p3_2 {a b c : Nat} : b < 1 + a + b + c := by omega
theorem p4_1 {a b c d : Nat} : a < 1 + a + b + c + d := by omega
theorem p4_2 {a b c d : Nat} : b < 1 + a + b + c + d := by omega
theorem p4_3 {a b c d : Nat} : c < 1 + a + b + c + d := by omega
theorem p5_3 {a b c d e : Nat} : c < 1 + a + b + c + d + e := by omega
theorem subs_of {i : Expr} (h : notSlice i = true) (o b : Value) : subscripted i false o b = operate [o, b] (getItem o b) := by cases i <;> first | rfl | cases h
theorem slice_of {i : Expr} (h : ¬ notSlice i = true) : ∃ l u st p, i = .Slice l u st p := by
  cases i with
  | Slice l u st p => exact ⟨l, u, st, p, rfl⟩
  | _ => exact absurd rfl h
noncomputable def callee : Expr → Nat
  | .Name .. => 0
  | .Attribute .. => 1
  | _ => 2
theorem name_of {f : Expr} (h : callee f = 0) : ∃ x p, f = .Name x p := by
  cases f with
  | Name x p => exact ⟨x, p, rfl⟩
  | _ => cases h
theorem attr_of {f : Expr} (h : callee f = 1) : ∃ o n p, f = .Attribute o n p := by
  cases f with
  | Attribute o n p => exact ⟨o, n, p, rfl⟩
  | _ => cases h
theorem other_call {Φ : Spec} {kd : Kd} {ρ : Loc} {H : GH} {Q : GV → GH → Prop} {f : Expr} {es : List Expr} {ks : List Keyword} {p : Pos} (h : callee f ≠ 0) (k : callee f ≠ 1) (q : gE Φ kd (.Call f es ks p) ρ H Q) : False := by
  cases f with
  | Name x p => exact h rfl
  | Attribute o n p => exact k rfl
  | _ => exact q
theorem comp_name {Φ : Spec} {kd : Kd} {ρ : Loc} {H : GH} {Q : GV → GH → Prop} {elt tg iter : Expr} {ifs : List Expr} {as : Int} {gs : List Comprehension} {sc : Scope} {p : Pos} (q : gE Φ kd (.ListComp elt (⟨tg, iter, ifs, as⟩ :: gs) sc p) ρ H Q) : ∃ x px, tg = .Name x px := by
  cases tg with
  | Name x px => exact ⟨x, px, rfl⟩
  | _ => exact (show False by cases gs <;> exact q).elim

theorem s_call_of {Φ : Spec} {kd : Kd} {ρ : Loc} {H : GH} {Q : GF → Loc → GH → Prop} {e : Expr} {p : Pos} (q : gS Φ kd (.Expr e p) ρ H Q) : ∃ f es ks p', e = .Call f es ks p' := by
  cases e with
  | Call f es ks p' => exact ⟨f, es, ks, p', rfl⟩
  | _ => exact (show False from q).elim
theorem name_of' {t : Expr} (h : ¬ notName t = true) : ∃ x p, t = .Name x p := by
  cases t with
  | Name x p => exact ⟨x, p, rfl⟩
  | _ => exact absurd rfl h
theorem asg_one {Φ : Spec} {kd : Kd} {ρ : Loc} {H : GH} {Q : GF → Loc → GH → Prop} {t e : Expr} {ts : List Expr} {p : Pos} (q : gS Φ kd (.Assign (t :: ts) e p) ρ H Q) : ts = [] := by
  cases ts with
  | nil => rfl
  | cons _ _ => exact (show False by cases t <;> exact q).elim
theorem for_name {Φ : Spec} {kd : Kd} {ρ : Loc} {H : GH} {Q : GF → Loc → GH → Prop} {t iter : Expr} {b o : List Stmt} {p : Pos} (q : gS Φ kd (.For t iter b o p) ρ H Q) : (∃ x px, t = .Name x px) ∧ o = [] := by
  cases t with
  | Name x px =>
    cases o with
    | nil => exact ⟨⟨x, px, rfl⟩, rfl⟩
    | cons _ _ => exact (show False from q).elim
  | _ => exact (show False by cases o <;> exact q).elim

theorem t_plain {Φ : Spec} {kd : Kd} {ρ : Loc} {H : GH} {Q : Bool → GH → Prop} {w : EM} {e : Expr} (h : plainT e = true) : gT Φ kd e ρ w H Q = w H fun v H₁ => gTruth v H₁ fun b => Q b H₁ := by
  cases e with
  | UnaryOp op x p => cases op <;> first | rfl | cases h
  | BoolOp _ _ _ => cases h
  | IfExp _ _ _ _ => cases h
  | Compare _ _ _ _ => cases h
  | _ => rfl
theorem is_plain {e : Expr} {env : Env} {w : Sem Value} (h : plainT e = true) : isTrue e env w = (do let v ← w; standAt e.pos; holding [v] (truthy v)) := by
  cases e with
  | UnaryOp op x p => cases op <;> first | rfl | cases h
  | BoolOp _ _ _ => cases h
  | IfExp _ _ _ _ => cases h
  | Compare _ _ _ _ => cases h
  | _ => rfl
theorem not_plain {e : Expr} (h : ¬ plainT e = true) : (∃ x p, e = .UnaryOp .Not x p) ∨ (∃ op es p, e = .BoolOp op es p) ∨ (∃ a b c p, e = .IfExp a b c p) ∨ ∃ l ops rs p, e = .Compare l ops rs p := by
  cases e with
  | UnaryOp op x p =>
    cases op with
    | Not => exact .inl ⟨x, p, rfl⟩
    | _ => exact absurd rfl h
  | BoolOp op es p => exact .inr (.inl ⟨op, es, p, rfl⟩)
  | IfExp a b c p => exact .inr (.inr (.inl ⟨a, b, c, p, rfl⟩))
  | Compare l ops rs p => exact .inr (.inr (.inr ⟨l, ops, rs, p, rfl⟩))
  | _ => exact absurd rfl h
theorem cmp_one {Φ : Spec} {kd : Kd} {ρ : Loc} {H : GH} {Q : Bool → GH → Prop} {w : EM} {l : Expr} {ops : List CmpOp} {rs : List Expr} {p : Pos} (q : gT Φ kd (.Compare l ops rs p) ρ w H Q) : ∃ op r, ops = [op] ∧ rs = [r] := by
  cases ops with
  | nil => exact (show False from q).elim
  | cons op ops =>
    cases ops with
    | cons _ _ => exact (show False from q).elim
    | nil =>
      cases rs with
      | nil => exact (show False from q).elim
      | cons r rs =>
        cases rs with
        | cons _ _ => exact (show False from q).elim
        | nil => exact ⟨op, r, rfl, rfl⟩
theorem cmp_one' {Φ : Spec} {kd : Kd} {ρ : Loc} {H : GH} {Q : GV → GH → Prop} {l : Expr} {ops : List CmpOp} {rs : List Expr} {p : Pos} (q : gE Φ kd (.Compare l ops rs p) ρ H Q) : ∃ op r, ops = [op] ∧ rs = [r] := by
  cases ops with
  | nil => exact (show False from q).elim
  | cons op ops =>
    cases ops with
    | cons _ _ => exact (show False from q).elim
    | nil =>
      cases rs with
      | nil => exact (show False from q).elim
      | cons r rs =>
        cases rs with
        | cons _ _ => exact (show False from q).elim
        | nil => exact ⟨op, r, rfl, rfl⟩

noncomputable def okN (id : Str) : Bool := !(id == ("__debug__" : Str)) && !(id == ("__classdict__" : Str))
noncomputable def okC (kd : Kd) (f : Str) (es : List Expr) : Bool := !(f == ("__debug__" : Str)) && (kd f == some .globalImplicit) && noStar es && (ownNames.contains f || bNames.contains f)
noncomputable def okM (o : Expr) (es : List Expr) (a b : Nat) : Bool := okBase o && noStar es && decide (es.length < 30) && (a == b)
noncomputable def okA (kd : Kd) (x : Str) : Bool := (kd x == some .local) || (kd x == some .cell)
theorem okA_spec {kd : Kd} {x : Str} (h : okA kd x = true) : kd x = some .local ∨ kd x = some .cell := by
  unfold okA at h
  rw [Bool.or_eq_true, beq_iff_eq, beq_iff_eq] at h
  exact h
theorem eq_right {a b : Prop} (h : a) : (a ∧ b) = b := propext ⟨fun h => h.2, fun k => ⟨h, k⟩⟩
section
variable {Φ : Spec} {kd : Kd} {ρ : Loc} {H : GH}
section
variable {Q : GV → GH → Prop}
theorem k_name {id : Str} {p : Pos} (h : okN id = true) : gE Φ kd (.Name id p) ρ H Q = ∃ v, ρ id = some v ∧ Q v H := by
  unfold okN at h
  rw [Bool.and_eq_true, Bool.not_eq_true', Bool.not_eq_true'] at h
  exact eq_right h
theorem k_call {f : Str} {es : List Expr} {p q : Pos} (h : okC kd f es = true) : gE Φ kd (.Call (.Name f p) es [] q) ρ H Q = gEs Φ kd es ρ H fun vs H₁ => gCall Φ f vs H₁ Q := by
  unfold okC at h
  rw [Bool.and_eq_true, Bool.and_eq_true, Bool.and_eq_true, Bool.not_eq_true', beq_iff_eq, Bool.or_eq_true, List.contains_iff_mem, List.contains_iff_mem] at h
  exact (eq_right (a := (f == ("__debug__" : Str)) = false) h.1.1.1).trans (eq_right ⟨h.1.1.2, h.1.2, h.2⟩)
theorem k_meth {o : Expr} {n : Str} {ap pos : Pos} {es : List Expr} (h : okM o es ap.endLine pos.line = true) : gE Φ kd (.Call (.Attribute o n ap) es [] pos) ρ H Q = gE Φ kd o ρ H fun ov H₁ => gMeth Φ n ov (fun H R => gEs Φ kd es ρ H R) H₁ Q := by
  unfold okM at h
  rw [Bool.and_eq_true, Bool.and_eq_true, Bool.and_eq_true, decide_eq_true_iff] at h
  exact eq_right ⟨h.1.1.1, h.1.1.2, h.1.2, h.2⟩
theorem k_attr {o : Expr} {n : Str} {p : Pos} (h : okBase o = true) : gE Φ kd (.Attribute o n p) ρ H Q = gE Φ kd o ρ H fun a H₁ => gGetAttr a n H₁ Q := eq_right h
theorem k_list {es : List Expr} {p : Pos} (h : noStar es = true) : gE Φ kd (.List es p) ρ H Q = gEs Φ kd es ρ H fun vs H₁ => vs.length ≤ bnd ∧ gNew (.list vs) H₁ Q := eq_right h
theorem k_tup {es : List Expr} {k : Nat} {p : Pos} (h : noStar es = true) : gE Φ kd (.Tuple es k p) ρ H Q = gEs Φ kd es ρ H fun vs H₁ => vs.length ≤ bnd ∧ gNew (.tup vs) H₁ Q := eq_right h
theorem k_cmp {op : CmpOp} {l r : Expr} {p : Pos} (h : isSet r = false) : gE Φ kd (.Compare l [op] [r] p) ρ H Q = gE Φ kd l ρ H fun a H₁ => gE Φ kd r ρ H₁ fun b H₂ => gCmp op a b H₂ fun c => Q (.bool c) H₂ := eq_right h
theorem k_comp {elt iter : Expr} {x : Str} {px pos : Pos} {ifs : List Expr} {scope : Scope} (h : (compOk kd scope x && !isSet iter) = true) :
    gE Φ kd (.ListComp elt [⟨.Name x px, iter, ifs, 0⟩] scope pos) ρ H Q = gE Φ kd iter ρ H fun v H₁ => ∃ a o l, v = .ref a ∧ H₁ a = some o ∧ itemsOf o = some l ∧ l.length ≤ bnd ∧
      gCompL a o (fun y X K => gIfs Φ (kdL scope.names) ifs (compLoc scope.names ρ x y) X K) (fun y X K => gE Φ (kdL scope.names) elt (compLoc scope.names ρ x y) X K) l H₁ [] fun acc H₂ => gNew (.list acc) H₂ Q := by
  rw [Bool.and_eq_true, Bool.not_eq_true'] at h
  exact eq_right h
end
theorem k_tcmp {op : CmpOp} {l r : Expr} {p : Pos} {w : EM} {Q : Bool → GH → Prop} (h : isSet r = false) : gT Φ kd (.Compare l [op] [r] p) ρ w H Q = gE Φ kd l ρ H fun a H₁ => gE Φ kd r ρ H₁ fun b H₂ => gCmp op a b H₂ fun c => Q c H₂ := eq_right h
section
variable {Q : GF → Loc → GH → Prop} {A : Loc → GH → Prop}
theorem k_aname {x : Str} {p : Pos} {v : GV} (h : okA kd x = true) : gAssign Φ kd (.Name x p) v ρ H A = A (lset ρ x v) H := eq_right (okA_spec h)
theorem k_ancons {x : Str} {p : Pos} {ts : List Expr} {v : GV} {vs : List GV} {R : Loc → Prop} (h : okA kd x = true) : gAsgNames kd (.Name x p :: ts) (v :: vs) ρ R = gAsgNames kd ts vs (lset ρ x v) R := eq_right (okA_spec h)
theorem k_asg {x : Str} {px p : Pos} {e : Expr} (h : (!isComp e && okA kd x) = true) : gS Φ kd (.Assign [.Name x px] e p) ρ H Q = gE Φ kd e ρ H fun v H₁ => Q .next (lset ρ x v) H₁ := by
  rw [Bool.and_eq_true, Bool.not_eq_true'] at h
  exact (eq_right h.1).trans (congrArg (gE Φ kd e ρ H) (funext fun v => funext fun H₁ => k_aname (p := px) h.2))
theorem k_for {x : Str} {px p : Pos} {iter : Expr} {b : List Stmt} (h : isSet iter = false) : gS Φ kd (.For (.Name x px) iter b [] p) ρ H Q = gE Φ kd iter ρ H fun v H₁ => ∃ a o l, v = .ref a ∧ H₁ a = some o ∧ itemsOf o = some l ∧ l.length ≤ bnd ∧ gFor kd x a o (gSs Φ kd b) l ρ H₁ Q := eq_right h
end
end

-- G1
-- what stays fixed: the program, the world, the heap behind the top, the class
set_option genInjectivity false in
structure Wd where
  prog : Program
  w : World
  h₀ : Heap
  s₀ : Shared
  C : Addr

noncomputable def GO.frozen : GO → Bool
  | .flist _ => true
  | _ => false

noncomputable def ers (vs : List Value) (gs : List GV) : Prop := vs.map er = gs.map some

noncomputable def attrsE : List DictEntry → List (Str × GV) → Prop
  | [], [] => True
  | e :: es, p :: kvs => (∃ t, e.key = .str p.1 t) ∧ er e.val = some p.2 ∧ attrsE es kvs
  | _, _ => False

noncomputable def ORel (W : Wd) (h : Heap) (a : Addr) : GO → Prop
  | .list l => ∃ vs : List Value, h.PlainList a vs.toArray ∧ ers vs l
  | .flist l => ∃ vs : List Value, h.IsList a vs.toArray ∧ ers vs l
  | .tup l => ∃ vs : List Value, h.IsTuple a vs.toArray ∧ ers vs l
  | .dict kvs => ∃ ps : List (Str × Value), h.DictOf (PySem.strKind W.prog W.w) a ps ∧ ps.map (·.1) = kvs.map (·.1) ∧ ers (ps.map (·.2)) (kvs.map (·.2))
  | .inst dx => ∃ sl, h.get? a = some ⟨.ref W.C, some dx, .plain, sl⟩
  | .attrs kvs => ∃ es n, h.get? a = some (dictOf es n) ∧ attrsE es kvs
  | .range n => ∃ t u v, IsRange h a 0 n 1 t u v

theorem ORel.there {W : Wd} {h : Heap} {a : Addr} {g : GO} (x : ORel W h a g) : ∃ o, h.get? a = some o := by
  cases g with
  | list l => obtain ⟨vs, ⟨n, e⟩, _⟩ := x; exact ⟨_, e⟩
  | flist l => obtain ⟨vs, ⟨o, e, _⟩, _⟩ := x; exact ⟨_, e⟩
  | tup l => obtain ⟨vs, ⟨o, e, _⟩, _⟩ := x; exact ⟨_, e⟩
  | dict l => obtain ⟨ps, ⟨o, es, ep, e, _⟩, _⟩ := x; exact ⟨_, e⟩
  | inst dx => obtain ⟨sl, e⟩ := x; exact ⟨_, e⟩
  | attrs kvs => obtain ⟨es, n, e, _⟩ := x; exact ⟨_, e⟩
  | range n => obtain ⟨t, u, v, e⟩ := x; exact ⟨_, e⟩
theorem ORel.at {W : Wd} {h h' : Heap} {a : Addr} {g : GO} (x : ORel W h a g) (k : ∀ o, h.get? a = some o → h'.get? a = some o) : ORel W h' a g := by
  cases g with
  | list l => obtain ⟨vs, e, r⟩ := x; exact ⟨vs, e.at k, r⟩
  | flist l => obtain ⟨vs, ⟨o, e, r⟩, q⟩ := x; exact ⟨vs, ⟨o, k _ e, r⟩, q⟩
  | tup l => obtain ⟨vs, ⟨o, e, r⟩, q⟩ := x; exact ⟨vs, ⟨o, k _ e, r⟩, q⟩
  | dict l => obtain ⟨ps, ⟨o, es, ep, e, r⟩, q⟩ := x; exact ⟨ps, ⟨o, es, ep, k _ e, r⟩, q⟩
  | inst dx => obtain ⟨sl, e⟩ := x; exact ⟨sl, k _ e⟩
  | attrs kvs => obtain ⟨es, n, e, r⟩ := x; exact ⟨es, n, k _ e, r⟩
  | range n => obtain ⟨t, u, v, e⟩ := x; exact ⟨t, u, v, k _ e⟩

abbrev Kp := Addr → Obj → Prop

structure HeapRep (W : Wd) (K : Kp) (H : GH) (s : Shared) : Prop where
  same : ∃ h tk, s = { W.s₀ with heap := h, toks := tk }
  base : ∀ b o, W.h₀.get? b = some o → K b o
  keep : ∀ b o, K b o → s.heap.get? b = some o
  objs : ∀ a g, H a = some g → ORel W s.heap a g
  apart : ∀ a g, H a = some g → g.frozen = false → ∀ o, ¬ K a o
  froz : ∀ a g, H a = some g → g.frozen = true → ∃ o, W.h₀.get? a = some o

section
variable {W : Wd} {K : Kp} {H : GH} {s : Shared}

theorem HeapRep.base_keep (x : HeapRep W K H s) : ∀ b o, W.h₀.get? b = some o → s.heap.get? b = some o := fun b o e => x.keep b o (x.base b o e)

theorem HeapRep.toks (x : HeapRep W K H s) (t : Nat) : HeapRep W K H { s with toks := t } :=
  ⟨(by obtain ⟨h, tk, e⟩ := x.same; exact ⟨h, t, by rw [e]⟩), x.base, x.keep, x.objs, x.apart, x.froz⟩

theorem HeapRep.fresh (x : HeapRep W K H s) : H s.heap.objs.size = none := by
  cases e : H s.heap.objs.size with
  | none => rfl
  | some g => obtain ⟨o, q⟩ := (x.objs _ _ e).there; exact absurd (Heap.lt_size q) (Nat.lt_irrefl _)
theorem HeapRep.freshK (x : HeapRep W K H s) {o : Obj} : ¬ K s.heap.objs.size o := fun q => absurd (Heap.lt_size (x.keep _ _ q)) (Nat.lt_irrefl _)

-- the heap has grown, all old objects stand
theorem HeapRep.grow (x : HeapRep W K H s) {h' : Heap} {tk : Nat} (k : ∀ b o, s.heap.get? b = some o → h'.get? b = some o) : HeapRep W K H { s with heap := h', toks := tk } :=
  ⟨(by obtain ⟨h, t, e⟩ := x.same; exact ⟨h', tk, by rw [e]⟩), x.base, fun b o q => k b o (x.keep b o q), fun a g e => (x.objs a g e).at (k a), x.apart, x.froz⟩

-- a new object
theorem HeapRep.new (x : HeapRep W K H s) {g : GO} {h' : Heap} {tk : Nat} (k : ∀ b o, s.heap.get? b = some o → h'.get? b = some o) {a : Addr} (ha : H a = none) (hK : ∀ o, ¬ K a o) (r : ORel W h' a g) (hf : g.frozen = false) :
    HeapRep W K (hset H a g) { s with heap := h', toks := tk } := by
  refine ⟨(by obtain ⟨h, t, e⟩ := x.same; exact ⟨h', tk, by rw [e]⟩), x.base, fun b o q => k b o (x.keep b o q), fun b g' e => ?_, fun b g' e hg => ?_, fun b g' e hg => ?_⟩
  · unfold hset at e
    split at e
    · rename_i q; cases e; subst q; exact r
    · exact (x.objs b g' e).at (k b)
  · unfold hset at e
    split at e
    · rename_i q; subst q; exact hK
    · exact x.apart b g' e hg
  · unfold hset at e
    split at e
    · cases e; rw [hf] at hg; cases hg
    · exact x.froz b g' e hg

-- an own object has turned
theorem HeapRep.upd (x : HeapRep W K H s) {a : Addr} {g g' : GO} {h' : Heap} {tk : Nat} (e : H a = some g) (hf : g.frozen = false) (sb : Heap.SameBut a s.heap h') (r : ORel W h' a g') (hf' : g'.frozen = false) :
    HeapRep W K (hset H a g') { s with heap := h', toks := tk } := by
  have ap := x.apart a g e hf
  refine ⟨(by obtain ⟨h, t, e⟩ := x.same; exact ⟨h', tk, by rw [e]⟩), x.base, fun b o q => ?_, fun b g₂ e₂ => ?_, fun b g₂ e₂ hg => ?_, fun b g₂ e₂ hg => ?_⟩
  · have : b ≠ a := by rintro rfl; exact ap _ q
    exact (sb.2 b this).trans (x.keep b o q)
  · unfold hset at e₂
    split at e₂
    · rename_i q; cases e₂; subst q; exact r
    · rename_i q; exact (x.objs b g₂ e₂).at fun o z => (sb.2 b q).trans z
  · unfold hset at e₂
    split at e₂
    · rename_i q; subst q; exact ap
    · exact x.apart b g₂ e₂ hg
  · unfold hset at e₂
    split at e₂
    · cases e₂; rw [hf'] at hg; cases hg
    · exact x.froz b g₂ e₂ hg
end

-- the addresses that are the frame's own
noncomputable def faddrs (env : Env) : List Addr := env.locals :: env.cells.map (·.2)

structure FrameAt (env : Env) (ρ : Loc) (h : Heap) : Prop where
  loc : ∃ m, h.Ns env.locals m ∧ ∀ x g, ρ x = some g → env.kindOf x = some .local → ∃ v, m x = some v ∧ er v = some g
  known : ∀ x g, ρ x = some g → env.kindOf x = some .local ∨ env.kindOf x = some .cell ∨ env.kindOf x = some .free
  cell : ∀ x c, (x, c) ∈ env.cells → ∃ ov, h.IsCell c ov ∧ ∀ g, ρ x = some g → ∃ v, ov = some v ∧ er v = some g

structure EnvOk (env : Env) : Prop where
  kind : env.scope.kind = .function
  glob : env.globals = mainGlobals
  blt : env.builtins = builtinsNs
  ck : ∀ x c, env.cells.lookup x = some c → env.kindOf x = some .cell ∨ env.kindOf x = some .free
  kc : ∀ x, env.kindOf x = some .cell ∨ env.kindOf x = some .free → ∃ c, env.cells.lookup x = some c
  nd : (faddrs env).Nodup
  nn : (env.cells.map (·.1)).Nodup

structure Rep (W : Wd) (K : Kp) (env : Env) (ρ : Loc) (H : GH) (s : Shared) : Prop where
  hr : HeapRep W K H s
  fr : FrameAt env ρ s.heap
  fa : ∀ a ∈ faddrs env, (∀ o, ¬ K a o) ∧ H a = none

theorem cell_mem {env : Env} {x : Str} {c : Addr} (e : (x, c) ∈ env.cells) : c ∈ faddrs env := List.mem_cons_of_mem _ (List.mem_map.mpr ⟨_, e, rfl⟩)

theorem FrameAt.at {env : Env} {ρ : Loc} {h h' : Heap} (x : FrameAt env ρ h) (k : ∀ a ∈ faddrs env, ∀ o, h.get? a = some o → h'.get? a = some o) : FrameAt env ρ h' := by
  obtain ⟨⟨m, n, q⟩, kn, ce⟩ := x
  refine ⟨⟨m, ?_, q⟩, kn, fun y c e => ?_⟩
  · obtain ⟨o, es, ep, z, r⟩ := n
    exact ⟨o, es, ep, k _ List.mem_cons_self _ z, r⟩
  · obtain ⟨ov, ⟨o, z, d⟩, r⟩ := ce y c e
    exact ⟨ov, ⟨o, k _ (cell_mem e) _ z, d⟩, r⟩

-- what a callee must keep: what is kept, and the frame
noncomputable def Kf (K : Kp) (env : Env) (h : Heap) : Kp := fun b o => K b o ∨ (b ∈ faddrs env ∧ h.get? b = some o)

section
variable {W : Wd} {K : Kp} {env : Env} {ρ : Loc} {H : GH} {s : Shared}

theorem Rep.heapRep (x : Rep W K env ρ H s) : HeapRep W (Kf K env s.heap) H s := by
  refine ⟨x.hr.same, fun b o e => .inl (x.hr.base b o e), fun b o q => ?_, x.hr.objs, fun a g e hf o q => ?_, x.hr.froz⟩
  · rcases q with q | q
    · exact x.hr.keep b o q
    · exact q.2
  · rcases q with q | q
    · exact x.hr.apart a g e hf o q
    · have := (x.fa a q.1).2; rw [e] at this; cases this

theorem FrameAt.there {env : Env} {ρ : Loc} {h : Heap} (x : FrameAt env ρ h) : ∀ a ∈ faddrs env, ∃ o, h.get? a = some o := by
  intro a ha
  rcases List.mem_cons.mp ha with rfl | ha
  · obtain ⟨m, ⟨o, es, ep, z, _⟩, _⟩ := x.loc; exact ⟨o, z⟩
  · obtain ⟨⟨n, c⟩, hm, rfl⟩ := List.mem_map.mp ha
    obtain ⟨ov, ⟨o, z, _⟩, _⟩ := x.cell n c hm
    exact ⟨o, z⟩

-- back from a callee
theorem Rep.back (x : Rep W K env ρ H s) {H' : GH} {s' : Shared} (y : HeapRep W (Kf K env s.heap) H' s') : Rep W K env ρ H' s' := by
  have k : ∀ a ∈ faddrs env, ∀ o, s.heap.get? a = some o → s'.heap.get? a = some o := fun a ha o e => y.keep a o (.inr ⟨ha, e⟩)
  refine ⟨⟨y.same, x.hr.base, fun b o q => y.keep b o (.inl q), y.objs, fun a g e hf o q => y.apart a g e hf o (.inl q), y.froz⟩, x.fr.at k, fun a ha => ⟨(x.fa a ha).1, ?_⟩⟩
  · cases e : H' a with
    | none => rfl
    | some g =>
      exfalso
      obtain ⟨o, z⟩ := x.fr.there a ha
      cases hf : g.frozen with
      | false => exact y.apart a g e hf o (.inr ⟨ha, z⟩)
      | true => obtain ⟨o', z'⟩ := y.froz a g e hf; exact (x.fa a ha).1 o' (x.hr.base a o' z')

-- all ways end well
noncomputable def Out (W : Wd) (K : Kp) (Q : GV → GH → Prop) (v : Value) (s' : Shared) : Prop := ∃ g H', er v = some g ∧ HeapRep W K H' s' ∧ Q g H'
noncomputable def OutF (W : Wd) (K : Kp) (env : Env) (ρ : Loc) (Q : GV → GH → Prop) (v : Value) (s' : Shared) : Prop := ∃ g H', er v = some g ∧ Rep W K env ρ H' s' ∧ Q g H'
abbrev NoE : Value → Shared → Prop := fun _ _ => False

theorem Rep.lift {A : Around} {t : Sem Value} {Q : GV → GH → Prop} (x : Rep W K env ρ H s) (h : wpAny (model W.prog W.w) A t (Out W (Kf K env s.heap) Q) NoE s) :
    wpAny (model W.prog W.w) A t (OutF W K env ρ Q) NoE s :=
  wpAny_mono h (fun v s' ⟨g, H', e, y, q⟩ => ⟨g, H', e, x.back y, q⟩) fun _ _ e => e

structure Room (A : Around) (n : Nat) : Prop where
  hh : A.handled = none
  dp : A.depth + n < 900
  un : A.units + 100 * n < 9000

theorem Room.depth {A : Around} {n : Nat} (r : Room A n) : A.depth < recursionLimit := by have := r.dp; unfold recursionLimit; omega
theorem Room.units {A : Around} {n : Nat} (r : Room A n) : A.units + 500 < cLine := by have := r.un; have := cLine_is; omega
theorem Room.deeper {A : Around} {n : Nat} (r : Room A (n + 1)) (env : Env) : Room (A.deeper env) n :=
  ⟨r.hh, by have := r.dp; show A.depth + 1 + n < 900; omega, by have := r.un; show A.units + 3 + 100 * n < 9000; omega⟩
theorem Room.le {A : Around} {n m : Nat} (r : Room A n) (h : m ≤ n) : Room A m := ⟨r.hh, by have := r.dp; omega, by have := r.un; omega⟩

-- the frame's store
theorem Rep.store {A : Around} {x : Str} {v : Value} {g : GV} {Q : Unit → Shared → Prop} (ok : EnvOk env) (r : Rep W K env ρ H s) (e : er v = some g) (hk : env.kindOf x = some .local ∨ env.kindOf x = some .cell)
    (h : ∀ s', Rep W K env (lset ρ x g) H s' → Q () s') : wpAny (model W.prog W.w) A (storeName env x v) Q NoE s := by
  have okp : (env.scope.kind == .class || (env.scope.kind == .module && env.locals != env.globals)) = false := by rw [ok.kind]; rfl
  obtain ⟨⟨m, hn, hm⟩, kn, ce⟩ := r.fr
  -- what a change at one own address keeps
  have keepHR : ∀ a h' tk, a ∈ faddrs env → Heap.SameBut a s.heap h' → HeapRep W K H { s with heap := h', toks := tk } := fun a h' tk ha sb => by
    refine ⟨(by obtain ⟨h, t, e⟩ := r.hr.same; exact ⟨h', tk, by rw [e]⟩), r.hr.base, fun b o q => ?_, fun b g' e' => ?_, r.hr.apart, r.hr.froz⟩
    · have : b ≠ a := by rintro rfl; exact (r.fa b ha).1 o q
      exact (sb.2 b this).trans (r.hr.keep b o q)
    · have : b ≠ a := by rintro rfl; have := (r.fa b ha).2; rw [e'] at this; cases this
      exact (r.hr.objs b g' e').at fun o z => (sb.2 b this).trans z
  have ndl : ∀ n c, (n, c) ∈ env.cells → c ≠ env.locals := fun n c hm' q => (List.nodup_cons.mp ok.nd).1 (by rw [← q]; exact List.mem_map.mpr ⟨_, hm', rfl⟩)
  rcases hk with hl | hc
  · refine wpAny_storeName_local hl hn (fun h' hn' sb => h _ ⟨keepHR env.locals h' _ List.mem_cons_self sb, ⟨⟨_, hn', ?_⟩, ?_, ?_⟩, r.fa⟩) okp
    · intro y gy hy hky
      unfold lset at hy
      by_cases q : y = x
      · rw [if_pos q] at hy; cases hy; exact ⟨v, by simp [q], e⟩
      · rw [if_neg q] at hy
        obtain ⟨v', h1, h2⟩ := hm y gy hy hky
        exact ⟨v', by simp [q, h1], h2⟩
    · intro y gy hy
      unfold lset at hy
      by_cases q : y = x
      · rw [q]; exact .inl hl
      · rw [if_neg q] at hy; exact kn y gy hy
    · intro y c hc
      obtain ⟨ov, ic, hv⟩ := ce y c hc
      refine ⟨ov, ic.sameBut sb (ndl y c hc), fun gy hy => ?_⟩
      unfold lset at hy
      by_cases q : y = x
      · exfalso
        subst q
        have : ∃ c', env.cells.lookup y = some c' := by
          cases z : env.cells.lookup y with
          | some c' => exact ⟨c', rfl⟩
          | none => rw [List.lookup_eq_none_iff] at z; have := z _ hc; simp at this
        obtain ⟨c', z⟩ := this
        rcases ok.ck y c' z with w | w <;> (rw [hl] at w; cases w)
      · rw [if_neg q] at hy; exact hv gy hy
  · obtain ⟨c, hcl⟩ := ok.kc x (.inl hc)
    obtain ⟨ov, ic, hv⟩ := ce x c (mem_of_lookup hcl)
    refine wpAny_storeName_cell ok.kind hc hcl ic fun h' ic' sb => h _ ?_
    have hr := keepHR c h' s.toks (cell_mem (mem_of_lookup hcl)) sb
    refine ⟨hr, ⟨⟨m, hn.sameBut sb (Ne.symm (ndl x c (mem_of_lookup hcl))), ?_⟩, ?_, ?_⟩, r.fa⟩
    · intro y gy hy hky
      unfold lset at hy
      by_cases q : y = x
      · subst q; rw [hc] at hky; cases hky
      · rw [if_neg q] at hy; exact hm y gy hy hky
    · intro y gy hy
      unfold lset at hy
      by_cases q : y = x
      · rw [q]; exact .inr (.inl hc)
      · rw [if_neg q] at hy; exact kn y gy hy
    · intro y c' hc'
      by_cases q : y = x
      · subst q
        have : c' = c := by
          have l := mem_of_lookup hcl
          have := ok.nn
          rw [List.nodup_iff_pairwise_ne, List.pairwise_map] at this
          exact Classical.byContradiction fun ne => by
            rcases List.mem_iff_getElem.mp hc' with ⟨i, hi, ei⟩
            rcases List.mem_iff_getElem.mp l with ⟨j, hj, ej⟩
            rw [List.pairwise_iff_getElem] at this
            rcases Nat.lt_trichotomy i j with h1 | h1 | h1
            · have := this i j hi hj h1; rw [ei, ej] at this; exact this rfl
            · subst h1; rw [ei] at ej; cases ej; exact ne rfl
            · have := this j i hj hi h1; rw [ei, ej] at this; exact this rfl
        subst this
        exact ⟨some v, ic', fun gy hy => by unfold lset at hy; rw [if_pos rfl] at hy; cases hy; exact ⟨v, rfl, e⟩⟩
      · obtain ⟨ov', ic₂, hv'⟩ := ce y c' hc'
        have hne : c' ≠ c := fun z => by
          have nd := (List.nodup_cons.mp ok.nd).2
          rw [List.nodup_iff_pairwise_ne, List.pairwise_map] at nd
          exact q (name_of_addr nd hc' (z ▸ mem_of_lookup hcl))
        refine ⟨ov', ic₂.sameBut sb hne, fun gy hy => ?_⟩
        unfold lset at hy
        rw [if_neg q] at hy
        exact hv' gy hy
end

-- G2
theorem er_int {v : Value} {i : Int} (h : er v = some (.int i)) : ∃ t, v = .int i t := by cases v <;> simp_all [er]
theorem er_str {v : Value} {x : Str} (h : er v = some (.str x)) : ∃ t, v = .str x t := by cases v <;> simp_all [er]
theorem er_bool {v : Value} {b : Bool} (h : er v = some (.bool b)) : v = .bool b := by cases v <;> simp_all [er]
theorem er_ref {v : Value} {a : Addr} (h : er v = some (.ref a)) : v = .ref a := by cases v <;> simp_all [er]
theorem er_none {v : Value} (h : er v = some .none) : v = .none := by cases v <;> simp_all [er]

theorem ers.length {vs : List Value} {gs : List GV} (h : ers vs gs) : vs.length = gs.length := by have := congrArg List.length h; simpa using this
theorem ers.get {vs : List Value} {gs : List GV} (h : ers vs gs) {i : Nat} {v : Value} (e : vs[i]? = some v) : ∃ g, gs[i]? = some g ∧ er v = some g := by
  have h' := congrArg (fun l : List (Option GV) => l[i]?) h
  simp only [List.getElem?_map, e, Option.map_some] at h'
  cases q : gs[i]? with
  | none => rw [q] at h'; cases h'
  | some g => rw [q] at h'; simp at h'; exact ⟨g, rfl, h'⟩
theorem ers.at {vs : List Value} {gs : List GV} (h : ers vs gs) {i : Nat} {g : GV} (e : gs[i]? = some g) : ∃ v, vs[i]? = some v ∧ er v = some g := by
  have h' := congrArg (fun l : List (Option GV) => l[i]?) h
  simp only [List.getElem?_map, e, Option.map_some] at h'
  cases q : vs[i]? with
  | none => rw [q] at h'; cases h'
  | some v => rw [q] at h'; simp at h'; exact ⟨v, rfl, h'⟩
theorem ers.nil : ers [] [] := rfl
theorem ers.cons {v : Value} {vs : List Value} {g : GV} {gs : List GV} (h : er v = some g) (hs : ers vs gs) : ers (v :: vs) (g :: gs) := by
  unfold ers at *; rw [List.map_cons, List.map_cons, h, hs]
theorem ers.append {vs ws : List Value} {gs fs : List GV} (h : ers vs gs) (k : ers ws fs) : ers (vs ++ ws) (gs ++ fs) := by
  unfold ers at *; rw [List.map_append, List.map_append, h, k]
theorem ers.cons_inv {v : Value} {vs : List Value} {gs : List GV} (h : ers (v :: vs) gs) : ∃ g gs', gs = g :: gs' ∧ er v = some g ∧ ers vs gs' := by
  cases gs with
  | nil => cases h
  | cons g gs' => unfold ers at h; rw [List.map_cons, List.map_cons] at h; injection h with h1 h2; exact ⟨g, gs', rfl, h1, h2⟩
theorem ers.inv_cons {vs : List Value} {g : GV} {gs : List GV} (h : ers vs (g :: gs)) : ∃ v vs', vs = v :: vs' ∧ er v = some g ∧ ers vs' gs := by
  cases vs with
  | nil => cases h
  | cons v vs' => unfold ers at h; rw [List.map_cons, List.map_cons] at h; injection h with h1 h2; exact ⟨v, vs', rfl, h1, h2⟩
theorem ers.inv_nil {vs : List Value} (h : ers vs []) : vs = [] := by cases vs with | nil => rfl | cons v vs => cases h
theorem ers.drop {vs : List Value} {gs : List GV} (h : ers vs gs) (k : Nat) : ers (vs.drop k) (gs.drop k) := by unfold ers at *; rw [List.map_drop, List.map_drop, h]
theorem ers.take {vs : List Value} {gs : List GV} (h : ers vs gs) (k : Nat) : ers (vs.take k) (gs.take k) := by unfold ers at *; rw [List.map_take, List.map_take, h]
theorem ers.set {vs : List Value} {gs : List GV} (h : ers vs gs) (k : Nat) {v : Value} {g : GV} (e : er v = some g) : ers (vs.set k v) (gs.set k g) := by unfold ers at *; rw [List.map_set, List.map_set, h, e]
theorem ers.erase {vs : List Value} {gs : List GV} (h : ers vs gs) (k : Nat) : ers (vs.eraseIdx k) (gs.eraseIdx k) := by
  unfold ers at *
  rw [List.eraseIdx_eq_take_drop_succ, List.eraseIdx_eq_take_drop_succ, List.map_append, List.map_append, List.map_take, List.map_drop, h, List.map_take, List.map_drop]

theorem bnd_le : bnd ≤ sizeLine := by decide
theorem bnd_fit {n : Nat} (h : n ≤ bnd) : (n : Int) < 2 ^ 63 := by unfold bnd at h; omega

section
variable {W : Wd} {K : Kp} {H : GH} {s : Shared} {A : Around}

theorem out_here {v : Value} {g : GV} {Q : GV → GH → Prop} (x : HeapRep W K H s) (e : er v = some g) (q : Q g H) (t : Nat) : Out W K Q v { s with toks := t } := ⟨g, H, e, x.toks t, q⟩
theorem out_now {v : Value} {g : GV} {Q : GV → GH → Prop} (x : HeapRep W K H s) (e : er v = some g) (q : Q g H) : Out W K Q v s := ⟨g, H, e, x, q⟩

-- a new list
theorem out_list {vs : List Value} {gs : List GV} {Q : GV → GH → Prop} (x : HeapRep W K H s) (r : ers vs gs) (q : gNew (.list gs) H Q) :
    Out W K Q (.ref s.heap.objs.size) { s with heap := s.heap.push { cls := .type "list", data := .seq vs.toArray } } :=
  ⟨_, _, rfl, x.new (tk := s.toks) (fun b o e => Heap.get?_push_of_some _ e) x.fresh (fun o => x.freshK) (g := .list gs) ⟨vs, ⟨0, Heap.get?_push_size _ rfl⟩, r⟩ rfl, q _ x.fresh⟩
theorem out_tup {vs : List Value} {gs : List GV} {Q : GV → GH → Prop} (x : HeapRep W K H s) (r : ers vs gs) (q : gNew (.tup gs) H Q) :
    Out W K Q (.ref s.heap.objs.size) { s with heap := s.heap.push { cls := .type "tuple", data := .seq vs.toArray } } :=
  ⟨_, _, rfl, x.new (tk := s.toks) (fun b o e => Heap.get?_push_of_some _ e) x.fresh (fun o => x.freshK) (g := .tup gs) ⟨vs, ⟨_, Heap.get?_push_size _ rfl, rfl, _, rfl⟩, r⟩ rfl, q _ x.fresh⟩

theorem fdiv_pos {a b : Int} (ha : 0 ≤ a) (hb : 0 < b) : a.fdiv b = a / b := Int.fdiv_eq_ediv_of_nonneg a (Int.le_of_lt hb)
theorem fmod_pos {a b : Int} (ha : 0 ≤ a) (hb : 0 < b) : a.fmod b = a % b := Int.fmod_eq_emod_of_nonneg a (Int.le_of_lt hb)

theorem bin_sound {op : Operator} {a b : GV} {u v : Value} {Q : GV → GH → Prop} (x : HeapRep W K H s) (ea : er u = some a) (eb : er v = some b) (h : gBin op a b H Q) :
    wpAny (model W.prog W.w) A (binaryOp op u v) (Out W K Q) NoE s := by
  cases a with
  | int a =>
    cases b with
    | int b =>
      obtain ⟨t, rfl⟩ := er_int ea; obtain ⟨t', rfl⟩ := er_int eb
      cases op with
      | Add => exact PyProof.Rows.add_int (out_here x rfl h _)
      | Sub => exact PySem.P.sub_int (out_here x rfl h _)
      | Mult =>
        refine PySem.P.mul_int (out_here x rfl h.2 _) ?_
        rcases h.1 with q | q
        · exact IntMulOk.of_left (intBits_le_64 (by omega) (by omega))
        · exact IntMulOk.of_right (intBits_le_64 (by omega) (by omega))
      | FloorDiv =>
        obtain ⟨h1, h2, h3, h4⟩ := h
        refine PyProof.Rows.floordiv_int (by omega) (out_here x (by rw [fdiv_pos h3 h1]; rfl) h4 _) (Or.inl (PyProof.noPylong_small (by omega)))
      | Mod =>
        obtain ⟨h1, h2, h3, h4⟩ := h
        exact PyProof.Rows.mod_int' (by omega) (out_here x (by rw [fmod_pos h3 h1]; rfl) h4 _)
      | Pow =>
        obtain ⟨rfl, rfl, h3⟩ := h
        exact PyProof.Rows.pow_int_small (by decide) (by decide) (by decide) (out_here x rfl h3 _)
      | _ => exact (show False from h).elim
    | _ => exact (show False by cases op <;> exact h).elim
  | ref a =>
    cases b with
    | ref b =>
      cases op with
      | Add =>
        obtain rfl := er_ref ea; obtain rfl := er_ref eb
        obtain ⟨l₁, l₂, h1, h2, h3, h4⟩ := h
        obtain ⟨vs, ⟨n, e1⟩, r1⟩ := x.objs _ _ h1
        obtain ⟨ws, ⟨m, e2⟩, r2⟩ := x.objs _ _ h2
        have := r1.length; have := r2.length
        refine PySem.P.add_list e1 e2 ?_ ?_
        · rw [show vs.toArray ++ ws.toArray = (vs ++ ws).toArray by simp]
          exact out_list x (r1.append r2) h4
        · have := bnd_le
          simp only [List.size_toArray]
          omega
      | _ => exact (show False from h).elim
    | _ => exact (show False by cases op <;> exact h).elim
  | _ => exact (show False by cases op <;> exact h).elim

theorem strs_get {gs : List GV} : ∀ {ss : List Str}, strs? gs = some ss → gs = ss.map .str := by
  induction gs with
  | nil => intro ss h; cases h; rfl
  | cons g r ih =>
    intro ss h
    cases g with
    | str x =>
      simp only [strs?, Option.map_eq_some_iff] at h
      obtain ⟨t, h1, rfl⟩ := h
      rw [List.map_cons, ih h1]
    | _ => cases h
theorem ers_strs {vs : List Value} {ss : List Str} (h : ers vs (ss.map .str)) : ∀ (i : Nat) (x : Str), ss[i]? = some x → ∃ t, vs[i]? = some (.str x t) := by
  intro i x e
  obtain ⟨v, h1, h2⟩ := h.at (i := i) (g := .str x) (by simp [e])
  obtain ⟨t, rfl⟩ := er_str h2
  exact ⟨t, h1⟩

noncomputable def eqS (ss rs : List Str) (j : Nat) : Bool := ss[j]? == rs[j]?
theorem all_eqS {ss rs : List Str} (h : ss.length = rs.length) : (List.range ss.length).all (eqS ss rs) = decide (ss = rs) := by
  rw [Bool.eq_iff_iff, List.all_eq_true, decide_eq_true_iff]
  constructor
  · intro q
    apply List.ext_getElem? 
    intro i
    by_cases hi : i < ss.length
    · have := q i (List.mem_range.mpr hi)
      exact eq_of_beq this
    · rw [List.getElem?_eq_none (by omega), List.getElem?_eq_none (by omega)]
  · rintro rfl i _
    exact beq_self_eq_true _

-- == and != of what the ghosts compare
theorem eq_sound {a b : GV} {u v : Value} {P : Bool → Prop} (x : HeapRep W K H s) (hu : A.units < cLine) (ea : er u = some a) (eb : er v = some b) (h : gEq a b H P) :
    ∃ c, P c ∧ ∀ (Q : Value → Shared → Prop) (E : Value → Shared → Prop), (Q (.bool c) s → wpAny (model W.prog W.w) A (compareOp .Eq u v) Q E s) ∧ (Q (.bool (!c)) s → wpAny (model W.prog W.w) A (compareOp .NotEq u v) Q E s) := by
  cases a with
  | int i =>
    cases b with
    | int j =>
      obtain ⟨t, rfl⟩ := er_int ea; obtain ⟨t', rfl⟩ := er_int eb
      exact ⟨_, h, fun Q E => ⟨fun q => PySem.P.eq_int (show Q (.bool (decide (i = j))) s from q), fun q => PySem.P.ne_int (show Q (.bool (!decide (i = j))) s from q)⟩⟩
    | _ => exact (show False from h).elim
  | str y =>
    cases b with
    | str z =>
      obtain ⟨t, rfl⟩ := er_str ea; obtain ⟨t', rfl⟩ := er_str eb
      exact ⟨_, h, fun Q E => ⟨fun q => PySem.P.eq_str (by rw [SeqAt.str_beq]; exact q), fun q => EqBoolInt.of_rcne (SeqAt.RcNeAt.str_str y t z t') q⟩⟩
    | _ => exact (show False from h).elim
  | bool y =>
    cases b with
    | bool z =>
      obtain rfl := er_bool ea; obtain rfl := er_bool eb
      refine ⟨_, h, fun Q E => ⟨fun q => PyProof.Rows.eq_bool ?_, fun q => EqBoolInt.of_rcne (SeqAt.RcNeAt.bool_bool y z) ?_⟩⟩
      · cases y <;> cases z <;> exact q
      · cases y <;> cases z <;> exact q
    | _ => exact (show False from h).elim
  | none => exact (show False from h).elim
  | ref l =>
    cases b with
    | ref b =>
      obtain rfl := er_ref ea; obtain rfl := er_ref eb
      obtain ⟨l₁, l₂, s₁, s₂, hne, h1, h2, h3, h4, h5, h6, h7⟩ := h
      obtain ⟨vs, p1, r1⟩ := x.objs _ _ h1
      obtain ⟨ws, p2, r2⟩ := x.objs _ _ h2
      rw [strs_get h3] at r1
      rw [strs_get h4] at r2
      have n1 := r1.length; have n2 := r2.length
      rw [List.length_map] at n1 n2
      by_cases hl : s₁.length = s₂.length
      · have hsz : vs.toArray.size = ws.toArray.size := by simp only [List.size_toArray]; omega
        have he : ∀ j (k1 : j < vs.toArray.size) (k2 : j < ws.toArray.size), SeqAt.EqAt A.in1 s vs.toArray[j] ws.toArray[j] (eqS s₁ s₂ j) := by
          intro j k1 k2
          simp only [List.size_toArray] at k1 k2
          have j1 : j < s₁.length := by omega
          have j2 : j < s₂.length := by omega
          obtain ⟨t, e1⟩ := ers_strs r1 j s₁[j] (List.getElem?_eq_getElem j1)
          obtain ⟨t', e2⟩ := ers_strs r2 j s₂[j] (List.getElem?_eq_getElem j2)
          have e1' : vs.toArray[j] = .str s₁[j] t := by rw [List.getElem?_eq_getElem k1] at e1; exact Option.some.inj e1
          have e2' : ws.toArray[j] = .str s₂[j] t' := by rw [List.getElem?_eq_getElem k2] at e2; exact Option.some.inj e2
          rw [e1', e2', show eqS s₁ s₂ j = (s₁[j] == s₂[j]) by unfold eqS; rw [List.getElem?_eq_getElem j1, List.getElem?_eq_getElem j2]; rfl]
          exact SeqAt.EqAt.str_str _ _ _ _
        have hd : (List.range vs.toArray.size).all (eqS s₁ s₂) = decide (s₁ = s₂) := by rw [← all_eqS hl, List.size_toArray, n1]
        exact ⟨_, h7, fun Q E => ⟨fun q => SeqAt.eq_listAt p1.isList p2.isList hsz hu he (by rw [hd]; exact q), fun q => EqBoolInt.of_rcne (SeqAt.RcNeAt.lists p1.isList p2.isList hsz hu he) (by rw [hd]; exact q)⟩⟩
      · have hsz : (vs.toArray.size != ws.toArray.size) = true := by simp only [List.size_toArray]; exact bne_iff_ne.mpr (by omega)
        have hd : decide (s₁ = s₂) = false := decide_eq_false fun e => hl (by rw [e])
        rw [hd] at h7
        exact ⟨_, h7, fun Q E => ⟨fun q => SeqAt.eq_list_lengthsAt p1.isList p2.isList hsz hu q, fun q => EqBoolInt.of_rcne (SeqAt.RcNeAt.lists_lengths p1.isList p2.isList hsz hu) q⟩⟩
    | _ => exact (show False from h).elim


theorem HeapRep.notMods (x : HeapRep W K H s) (hm : ∃ o, W.h₀.get? sysModules = some o) {a : Addr} {g : GO} (e : H a = some g) (hf : g.frozen = false) : (a == sysModules) = false := by
  obtain ⟨o, ho⟩ := hm
  refine beq_eq_false_iff_ne.mpr fun q => ?_
  subst q
  exact x.apart _ g e hf o (x.base _ o ho)

theorem look_at {ps : List (Str × Value)} {kvs : List (Str × GV)} (h1 : ps.map (·.1) = kvs.map (·.1)) (h2 : ers (ps.map (·.2)) (kvs.map (·.2))) (k : Str) : (valueAt ps k).bind er = kvs.lookup k ∧ ((valueAt ps k).isSome = (kvs.lookup k).isSome) := by
  induction ps generalizing kvs with
  | nil =>
    cases kvs with
    | nil => exact ⟨rfl, rfl⟩
    | cons _ _ => cases h1
  | cons p ps ih =>
    cases kvs with
    | nil => cases h1
    | cons q kvs =>
      simp only [List.map_cons, List.cons.injEq] at h1
      obtain ⟨g, gs', e1, e2, e3⟩ := ers.cons_inv h2
      injection e1 with e4 e5
      obtain ⟨p1, p2⟩ := p
      obtain ⟨q1, q2⟩ := q
      obtain ⟨i1, i2⟩ := ih h1.2 (by rw [e5]; exact e3)
      obtain rfl : p1 = q1 := h1.1
      dsimp only at e2 e4
      unfold valueAt at *
      by_cases hk : p1 = k
      · subst hk
        simp only [List.find?_cons, decide_true, Option.map_some, List.lookup_cons, beq_self_eq_true]
        exact ⟨by rw [Option.bind_some, e2, e4], rfl⟩
      · have hk' : (k == p1) = false := beq_eq_false_iff_ne.mpr fun e => hk e.symm
        simp only [List.find?_cons, hk, decide_false, List.lookup_cons, hk']
        exact ⟨i1, i2⟩

-- «in» and «not in»
theorem in_sound {a b : GV} {u v : Value} {P : Bool → Prop} (x : HeapRep W K H s) (hm : ∃ o, W.h₀.get? sysModules = some o) (ea : er u = some a) (eb : er v = some b) (h : gIn a b H P) :
    ∃ c t, P c ∧ ∀ (Q : Value → Shared → Prop) (E : Value → Shared → Prop), (Q (.bool c) { s with toks := t } → wpAny (model W.prog W.w) A (compareOp .In u v) Q E s) ∧ (Q (.bool (!c)) { s with toks := t } → wpAny (model W.prog W.w) A (compareOp .NotIn u v) Q E s) := by
  cases a with
  | str y =>
   cases b with
   | ref a =>
    obtain ⟨t, rfl⟩ := er_str ea; obtain rfl := er_ref eb
    rcases h with ⟨l, ss, h1, h2, h3, h4⟩ | ⟨kvs, h1, h2⟩
    · obtain ⟨vs, p1, r1⟩ := x.objs _ _ h1
      rw [strs_get h2] at r1
      have he : ∀ z, z ∈ vs.toArray → SeqAt.EqAt A.in1 s z (.str y t) (Value.isStrOf y z) := by
        intro z hz
        obtain ⟨i, hi, e⟩ := Array.mem_iff_getElem.mp hz
        simp only [List.size_toArray] at hi
        have n1 := r1.length
        rw [List.length_map] at n1
        obtain ⟨t', e1⟩ := ers_strs r1 i (ss[i]'(by omega)) (List.getElem?_eq_getElem (by omega))
        have : z = .str (ss[i]'(by omega)) t' := by rw [List.getElem?_eq_getElem hi] at e1; rw [← e]; simpa using e1
        subst this
        exact SeqAt.EqAt.str_str _ _ _ _
      have hd : vs.toArray.any (Value.isStrOf y) = decide (y ∈ ss) := by
        rw [List.any_toArray, Bool.eq_iff_iff, List.any_eq_true, decide_eq_true_iff]
        constructor
        · rintro ⟨z, hz, hy⟩
          obtain ⟨t', rfl⟩ := Value.isStrOf_shape hy
          obtain ⟨i, hi, e⟩ := List.mem_iff_getElem.mp hz
          obtain ⟨g, g1, g2⟩ := r1.get (i := i) (v := .str y t') (by rw [List.getElem?_eq_getElem hi, e])
          rw [List.getElem?_map] at g1
          cases q : ss[i]? with
          | none => rw [q] at g1; cases g1
          | some w => rw [q] at g1; cases g1; cases g2; exact List.mem_of_getElem? q
        · intro hy
          obtain ⟨i, hi, e⟩ := List.mem_iff_getElem.mp hy
          obtain ⟨t', e1⟩ := ers_strs r1 i y (by rw [List.getElem?_eq_getElem hi, e])
          exact ⟨_, List.mem_of_getElem? e1, by simp [Value.isStrOf]⟩
      refine ⟨_, s.toks, h4, fun Q E => ⟨fun q => SeqAt.in_listAt _ p1.isList he (by rw [hd]; exact q), fun q => SeqAt.notIn_listAt _ p1.isList he (by rw [hd]; exact q)⟩⟩
    · obtain ⟨ps, d, r1, r2⟩ := x.objs _ _ h1
      have hk : (PySem.strKind W.prog W.w).is y (.str y t) = true := by show Value.isStrOf y (.str y t) = true; simp [Value.isStrOf]
      have hs := (look_at r1 r2 y).2
      have hmods := x.notMods hm h1 rfl
      refine ⟨_, _, h2, fun Q E => ⟨fun q => wpAny_in_of hk hmods d.mapOf (by rw [hs]; exact q), fun q => wpAny_notIn_of hk hmods d.mapOf (by rw [hs]; exact q)⟩⟩
   | _ => exact (show False from h).elim
  | _ => exact (show False from h).elim

structure Wd.Ok (W : Wd) : Prop where
  mods : ∃ o, W.h₀.get? sysModules = some o
  lim : W.h₀.NoLimit

theorem cmp_sound {op : CmpOp} {a b : GV} {u v : Value} {P : Bool → Prop} (O : W.Ok) (x : HeapRep W K H s) (hu : A.units < cLine) (ea : er u = some a) (eb : er v = some b) (h : gCmp op a b H P) :
    wpAny (model W.prog W.w) A (compareOp op u v) (fun r s' => ∃ c t, r = .bool c ∧ s' = { s with toks := t } ∧ P c) NoE s := by
  cases op with
  | Eq =>
    obtain ⟨c, hc, q⟩ := eq_sound x hu ea eb h
    exact (q _ _).1 ⟨c, s.toks, rfl, rfl, hc⟩
  | NotEq =>
    obtain ⟨c, hc, q⟩ := eq_sound x hu ea eb h
    exact (q _ _).2 ⟨_, s.toks, rfl, rfl, hc⟩
  | In =>
    obtain ⟨c, t, hc, q⟩ := in_sound x O.mods ea eb h
    exact (q _ _).1 ⟨c, t, rfl, rfl, hc⟩
  | NotIn =>
    obtain ⟨c, t, hc, q⟩ := in_sound x O.mods ea eb h
    exact (q _ _).2 ⟨_, t, rfl, rfl, hc⟩
  | Lt =>
    cases a with
    | int i =>
      cases b with
      | int j =>
        obtain ⟨t, rfl⟩ := er_int ea; obtain ⟨t', rfl⟩ := er_int eb
        exact PySem.P.lt_int ⟨_, s.toks, rfl, rfl, h⟩
      | _ => exact (show False from h).elim
    | _ => exact (show False from h).elim
  | Gt =>
    cases a with
    | int i =>
      cases b with
      | int j =>
        obtain ⟨t, rfl⟩ := er_int ea; obtain ⟨t', rfl⟩ := er_int eb
        exact PySem.P.gt_int ⟨_, s.toks, rfl, rfl, h⟩
      | _ => exact (show False from h).elim
    | _ => exact (show False from h).elim
  | GtE =>
    cases a with
    | int i =>
      cases b with
      | int j =>
        obtain ⟨t, rfl⟩ := er_int ea; obtain ⟨t', rfl⟩ := er_int eb
        exact PySem.P.ge_int ⟨_, s.toks, rfl, rfl, h⟩
      | _ => exact (show False from h).elim
    | _ => exact (show False from h).elim
  | _ => exact (show False from h).elim

theorem truth_sound {a : GV} {u : Value} {P : Bool → Prop} (x : HeapRep W K H s) (ea : er u = some a) (h : gTruth a H P) :
    wpAny (model W.prog W.w) A (truthy u) (fun c s' => ∃ t, s' = { s with toks := t } ∧ P c) NoE s := by
  cases a with
  | bool b =>
    obtain rfl := er_bool ea
    exact wpAny_truthy_bool ⟨s.toks, rfl, h⟩
  | ref a =>
    obtain rfl := er_ref ea
    obtain ⟨l, h1, h2, h3⟩ := h
    obtain ⟨vs, p1, r1⟩ := x.objs _ _ h1
    have n := r1.length
    refine wpAny_truthy_list p1.isList (by simp only [List.size_toArray]; exact bnd_fit (by omega)) ⟨_, rfl, ?_⟩
    rw [show vs.toArray.isEmpty = l.isEmpty by rw [List.isEmpty_toArray]; cases vs <;> cases l <;> simp_all]
    exact h3
  | _ => exact (show False from h).elim

theorem un_sound {op : UnaryOp} {a : GV} {u : Value} {Q : GV → GH → Prop} (x : HeapRep W K H s) (ea : er u = some a) (h : gUn op a H Q) :
    wpAny (model W.prog W.w) A (unaryOp op u) (Out W K Q) NoE s := by
  cases op with
  | USub =>
    cases a with
    | int i =>
      obtain ⟨t, rfl⟩ := er_int ea
      exact PySem.P.neg_int (out_here x rfl h _)
    | _ => exact (show False from h).elim
  | Not =>
    refine not_of (wpAny_mono (truth_sound x ea h) (fun c s' ⟨t, e, q⟩ => ?_) fun _ _ e => e)
    subst e
    exact out_here x rfl q t
  | _ => exact (show False by cases a <;> exact h).elim
end

-- G3
-- what the proof asks of the class
structure ClsOk (W : Wd) (F : Frag) : Prop where
  inn : F.In W.h₀
  ga : findIn F (.ref W.C) "__getattribute__" = some (some (.builtin "object.__getattribute__"))
  gk : findIn F (.ref W.C) "__getattr__" = some none
  sa : findIn F (.ref W.C) "__setattr__" = some (some (.builtin "object.__setattr__"))
  po : plainOver F W.C = true
  hd : hasDictIn F W.C = true
  at_ : ∀ n ∈ attrNames, findIn F (.ref W.C) n = some none
  me : ∀ n ∈ methNames, ∃ f, findIn F (.ref W.C) n = some (some (.ref f)) ∧ typeIn F (.ref f) = some (.type "function")

theorem attrsE_get {n : Str} : ∀ {es : List DictEntry} {kvs : List (Str × GV)}, attrsE es kvs → ∃ r, getL n es = some r ∧ r.bind er = kvs.lookup n ∧ r.isSome = (kvs.lookup n).isSome
  | [], [], _ => ⟨none, rfl, rfl, rfl⟩
  | [], _ :: _, h => h.elim
  | _ :: _, [], h => h.elim
  | e :: es, p :: kvs, ⟨⟨t, h1⟩, h2, h3⟩ => by
    obtain ⟨r, e1, e2, e3⟩ := attrsE_get (n := n) h3
    rw [List.lookup_cons]
    by_cases q : p.1 = n
    · subst q
      refine ⟨some e.val, ?_, by simp [h2], by simp⟩
      unfold getL
      rw [List.find?_cons, h1]
      simp [Value.isStr]
    · have hk : (n == p.1) = false := beq_eq_false_iff_ne.mpr fun z => q z.symm
      rw [hk]
      refine ⟨r, ?_, e2, e3⟩
      have z : e.key.isStr n = false := by rw [h1]; exact beq_eq_false_iff_ne.mpr q
      have z2 : e.refKey = false := by unfold DictEntry.refKey; rw [h1]
      unfold getL at *
      rw [List.find?_cons, z, List.any_cons, z2, Bool.false_or]
      exact e1
theorem attrsE_put {n : Str} {hsh : Int} {t : Tok} {v : Value} {g : GV} (eg : er v = some g) : ∀ {es : List DictEntry} {kvs : List (Str × GV)}, attrsE es kvs → attrsE (putL n hsh (.str n t) v es) (put n g kvs)
  | [], [], _ => ⟨⟨t, rfl⟩, eg, trivial⟩
  | [], _ :: _, h => h.elim
  | _ :: _, [], h => h.elim
  | e :: es, p :: kvs, ⟨⟨u, h1⟩, h2, h3⟩ => by
    unfold putL put
    by_cases q : p.1 = n
    · have z : e.key.isStr n = true := by rw [h1]; exact beq_iff_eq.mpr q
      rw [if_pos z, if_pos q]
      exact ⟨⟨u, by rw [h1, q]⟩, eg, h3⟩
    · have z : ¬ (e.key.isStr n = true) := by rw [h1]; exact fun w => q (beq_iff_eq.mp w)
      rw [if_neg z, if_neg q]
      exact ⟨⟨u, h1⟩, h2, attrsE_put eg h3⟩
theorem attrsE_length : ∀ {es : List DictEntry} {kvs : List (Str × GV)}, attrsE es kvs → es.length = kvs.length
  | [], [], _ => rfl
  | [], _ :: _, h => h.elim
  | _ :: _, [], h => h.elim
  | e :: es, p :: kvs, ⟨_, _, h3⟩ => by rw [List.length_cons, List.length_cons, attrsE_length h3]
theorem put_length (n : Str) (g : GV) : ∀ kvs : List (Str × GV), (put n g kvs).length ≤ kvs.length + 1
  | [] => Nat.le_refl _
  | p :: r => by
    unfold put
    split
    · simp
    · have := put_length n g r; simp only [List.length_cons]; omega
theorem attrsE_keys : ∀ {es : List DictEntry} {kvs : List (Str × GV)}, attrsE es kvs → ∀ e ∈ es, e.refKey = false
  | [], [], _, _, h => nomatch h
  | [], _ :: _, h, _, _ => h.elim
  | _ :: _, [], h, _, _ => h.elim
  | e :: es, p :: kvs, ⟨⟨t, h1⟩, _, h3⟩, e', he => by
    rcases List.mem_cons.mp he with rfl | he
    · unfold DictEntry.refKey; rw [h1]
    · exact attrsE_keys h3 e' he

section
variable {W : Wd} {K : Kp} {H : GH} {s : Shared} {A : Around} {F : Frag}

theorem HeapRep.inst (x : HeapRep W K H s) {a dx : Addr} {kvs : List (Str × GV)} (h1 : H a = some (.inst dx)) (h2 : H dx = some (.attrs kvs)) :
    ∃ ox es n, InstAt s.heap a ox W.C (some (dictOf es n)) ∧ ox.dict = some dx ∧ s.heap.get? dx = some (dictOf es n) ∧ attrsE es kvs := by
  obtain ⟨sl, e⟩ := x.objs _ _ h1
  obtain ⟨es, n, ho, ok⟩ := x.objs _ _ h2
  exact ⟨_, es, n, ⟨e, rfl, rfl, ho⟩, rfl, ho, ok⟩

theorem getattr_sound {a : GV} {u : Value} {n : Str} {ex : Bool} {Q : GV → GH → Prop} (C : ClsOk W F) (x : HeapRep W K H s) (ea : er u = some a) (h : gGetAttr a n H Q) :
    wpAny (model W.prog W.w) A (getAttr u n ex) (Out W K Q) NoE s := by
  unfold gGetAttr at h
  split at h
  · obtain rfl := er_ref ea
    obtain ⟨hn, dx, kvs, g, h1, h2, h3, h4⟩ := h
    obtain ⟨ox, es, k, I, -, -, ok⟩ := x.inst h1 h2
    obtain ⟨r, k0, k1, k2⟩ := attrsE_get (n := n) ok
    rw [h3] at k1 k2
    cases r with
    | none => cases k2
    | some v =>
      have e : er v = some g := by simpa using k1
      have X : F.In s.heap := fun b o e => x.base_keep b o (C.inn b o e)
      refine get_value X I C.ga (findObj_own (attr := none) C.hd (C.at_ n hn) rfl (by rw [lookIn_dict]; exact k0)) ?_ (out_here x e h4 _)
      cases v <;> first | rfl | cases e
  · exact h.elim

theorem method_sound {a dx : Addr} {kvs : List (Str × GV)} {n : Str} {pl : Sem Bool} {Q : Value × List Value → Shared → Prop} (C : ClsOk W F) (x : HeapRep W K H s) (hn : n ∈ methNames)
    (h1 : H a = some (.inst dx)) (h2 : H dx = some (.attrs kvs)) (h3 : kvs.lookup n = none) (hQ : ∀ f, findIn F (.ref W.C) n = some (some (.ref f)) → Q (.ref f, [.ref a]) s) :
    wpAny (model W.prog W.w) A (getMethod (.ref a) n pl) Q NoE s := by
  obtain ⟨ox, es, k, I, -, -, ok⟩ := x.inst h1 h2
  obtain ⟨r, k0, k1, k2⟩ := attrsE_get (n := n) ok
  rw [h3] at k2
  obtain ⟨f, hf, ht⟩ := C.me n hn
  have X : F.In s.heap := fun b o e => x.base_keep b o (C.inn b o e)
  refine method_fn X I C.ga C.gk hf ht ?_ (hQ f hf)
  show (lookIn n (dictOf es k)).map _ = _
  rw [lookIn_dict, k0, Option.map_some, k2]; rfl

theorem osa_sound {a dx : Addr} {kvs : List (Str × GV)} {g : GV} {v : Value} {n : Str} {tk : Tok} {R : Result → Shared → Prop} (C : ClsOk W F) (x : HeapRep W K H s) (eg : er v = some g) (hn : n ∈ attrNames) (hsz : kvs.length ≤ 100)
    (h1 : H a = some (.inst dx)) (h2 : H dx = some (.attrs kvs)) (hR : ∀ s', HeapRep W K (hset H dx (.attrs (put n g kvs))) s' → R (.ok (.ret .none)) s') :
    codeAny (model W.prog W.w) A (.call (.builtin "object.__setattr__") ⟨[.ref a, .str n tk, v], []⟩) R s := by
  obtain ⟨ox, es, k, I, hdx, hod, ok⟩ := x.inst h1 h2
  have X : F.In s.heap := fun b o e => x.base_keep b o (C.inn b o e)
  have ht : takerIn F W.C n = some none := by unfold takerIn; rw [C.at_ n hn]; rfl
  refine osa_open X I C.po ht fun b => ?_
  obtain ⟨cd, hc, hd'⟩ := any_some C.hd
  obtain ⟨hx, hcl, -, -⟩ := I
  obtain ⟨oc, odi, oda, osl⟩ := ox
  dsimp only at hcl hdx
  subst hcl hdx
  refine wpAny_bind (wpAny_pure (wpAny_bind (wpAny_bind (wpAny_loadPart hx (wpAny_bind ((looks_clsIn X hc).here ?_))))))
  rw [hd']
  refine wpAny_pure (a := some dx) (wpAny_bind (wpAny_pure (wpAny_bind ?_)))
  unfold nsSet
  refine wpAny_bind (wpAny_bind (wpAny_askSetting (wpAny_pure (wpAny_bind (wpAny_mkText (wpAny_bind (wpAny_loadPart hod ?_)))))))
  have hno : es.toArray.any (·.refKey) = false := by
    rw [List.any_toArray, List.any_eq_false]
    intro e he
    rw [attrsE_keys ok e he]
    exact Bool.false_ne_true
  have c : (!es.toArray.any (·.key.isStr n) && es.toArray.any (·.refKey)) = false := by rw [hno, Bool.and_false]
  dsimp only
  rw [aRefKeyMayBeTheName_at, c]
  refine wpAny_updatePart hod ?_
  have D' := Heap.get?_update_self (Obj.putName n (PyData.keyHash W.w.params n) (.str n s.toks) v) hod (by rw [putName_dict]; rfl)
  rw [putName_dict] at D'
  have ok' := attrsE_put (n := n) (hsh := PyData.keyHash W.w.params n) (t := s.toks) eg ok
  have hl := attrsE_length ok'
  have hp := put_length n g kvs
  refine wpAny_bind (wpAny_lookBehind D' (pastItsLine_dict (by rw [List.size_toArray, sizeLine_eq]; omega)) ?_)
  exact wpAny_pure (hR _ (x.upd (tk := s.toks + 1) h2 rfl (Heap.SameBut.update ..) (g' := .attrs (put n g kvs)) ⟨_, _, D', ok'⟩ rfl))

theorem setattr_sound {a g : GV} {u v : Value} {n : Str} {Q : GH → Prop} (C : ClsOk W F) (x : HeapRep W K H s) (ea : er u = some a) (eg : er v = some g) (h : gSetAttr a n g H Q) :
    wpAny (model W.prog W.w) A (setAttr u n v) (fun _ s' => ∃ H', HeapRep W K H' s' ∧ Q H') NoE s := by
  unfold gSetAttr at h
  split at h
  · obtain rfl := er_ref ea
    obtain ⟨hn, dx, kvs, h1, h2, h3, h4⟩ := h
    obtain ⟨ox, es, k, I, -, -, -⟩ := x.inst h1 h2
    have X : F.In s.heap := fun b o e => x.base_keep b o (C.inn b o e)
    exact set_plain (prog := W.prog) (w := W.w) X I C.sa (osa_sound C (x.toks _) eg hn h3 h1 h2 fun s' y => ⟨_, y, h4⟩)
  · exact h.elim
end

-- G4
section
variable {W : Wd} {K : Kp} {H : GH} {s : Shared} {A : Around} {F : Frag}

theorem idx_pos {i : Int} {len n : Nat} (h : gIdx i len = some n) : (0 ≤ i ∧ i.toNat = n ∧ i < len) ∨ (i < 0 ∧ -(len : Int) ≤ i ∧ (i + len).toNat = n) := by
  unfold gIdx at h
  split at h
  · split at h
    · cases h; left; exact ⟨by assumption, rfl, by assumption⟩
    · cases h
  · split at h
    · cases h; right; refine ⟨by omega, by omega, rfl⟩
    · cases h

-- an item
theorem item_sound {value slice : Expr} {a b : GV} {u v : Value} {Q : GV → GH → Prop} (O : W.Ok) (x : HeapRep W K H s) (ea : er u = some a) (eb : er v = some b) (h : gItem a b H Q)
    (hs : subscripted slice false u v = operate [u, v] (getItem u v)) :
    wpAny (model W.prog W.w) A (subscriptTail value slice u v) (Out W K Q) NoE s := by
  unfold gItem at h
  split at h
  · obtain rfl := er_ref ea; obtain ⟨t, rfl⟩ := er_int eb
    rename_i i
    obtain ⟨l, n, g, h1, h2, h3, h4, h5⟩ := h
    obtain ⟨vs, p1, r1⟩ : ∃ vs : List Value, s.heap.IsList _ vs.toArray ∧ ers vs l := by
      rcases h1 with h1 | h1
      · obtain ⟨vs, p1, r1⟩ := x.objs _ _ h1; exact ⟨vs, p1.isList, r1⟩
      · exact x.objs _ _ h1
    obtain ⟨w, w1, w2⟩ := r1.at h4
    have ln := r1.length
    have hb := bnd_fit h2
    refine tail_any p1.typeIs slot_list_getitem.lookup ?_ hs
    rcases idx_pos h3 with ⟨q0, q1, q2⟩ | ⟨q0, q1, q2⟩
    · exact wpAny_getItem_list p1 q0 (by omega) (by subst q1; simpa using w1) (out_now x w2 h5)
    · exact wpAny_getItem_list_neg p1 q0 (by simp only [List.size_toArray]; omega) (by omega) (by simp only [List.size_toArray, ln, q2]; simpa using w1) (out_now x w2 h5)
  · obtain rfl := er_ref ea; obtain ⟨t, rfl⟩ := er_str eb
    obtain ⟨kvs, g, h1, h2, h3⟩ := h
    obtain ⟨ps, d, r1, r2⟩ := x.objs _ _ h1
    rename_i y
    have hk : (PySem.strKind W.prog W.w).is y (.str y t) = true := by show Value.isStrOf y (.str y t) = true; simp [Value.isStrOf]
    obtain ⟨k1, k2⟩ := look_at r1 r2 y
    rw [h2] at k1 k2
    cases q : valueAt ps y with
    | none => rw [q] at k2; cases k2
    | some w =>
      rw [q] at k1
      exact tail_any d.typeIs slot_dict_getitem.lookup (wpAny_getItem_of hk d.mapOf q (out_here x (by simpa using k1) h3 _)) hs
  · exact h.elim

-- a store into a list or a dict
theorem stored_at {ps : List (Str × Value)} {kvs : List (Str × GV)} (h1 : ps.map (·.1) = kvs.map (·.1)) (h2 : ers (ps.map (·.2)) (kvs.map (·.2))) (nd : (ps.map (·.1)).Nodup) {k : Str} {v : Value} {g : GV} (e : er v = some g) :
    (stored ps k v).map (·.1) = (put k g kvs).map (·.1) ∧ ers ((stored ps k v).map (·.2)) ((put k g kvs).map (·.2)) := by
  induction ps generalizing kvs with
  | nil =>
    cases kvs with
    | nil => exact ⟨rfl, by unfold ers stored put; simp [e]⟩
    | cons _ _ => cases h1
  | cons p ps ih =>
    cases kvs with
    | nil => cases h1
    | cons q kvs =>
      simp only [List.map_cons, List.cons.injEq] at h1
      obtain ⟨g', gs', e1, e2, e3⟩ := ers.cons_inv h2
      injection e1 with e4 e5
      obtain ⟨p1, p2⟩ := p
      obtain ⟨q1, q2⟩ := q
      obtain rfl : p1 = q1 := h1.1
      dsimp only at e2 e4 e5
      simp only [List.map_cons, List.nodup_cons] at nd
      rw [← e5] at e3
      obtain ⟨i1, i2⟩ := ih h1.2 e3 nd.2
      unfold put stored
      by_cases hk : p1 = k
      · subst hk
        have : (ps.map fun kv => if kv.1 = p1 then (kv.1, v) else kv) = ps := map_store_of_not_mem ps p1 v nd.1
        simp only [List.any_cons, decide_true, Bool.true_or, if_true, List.map_cons, this]
        exact ⟨by rw [h1.2], ers.cons e e3⟩
      · simp only [List.any_cons, hk, decide_false, Bool.false_or, List.map_cons, if_false]
        unfold stored at i1 i2
        cases hany : ps.any (fun kv => decide (kv.1 = k)) with
        | true =>
          rw [hany] at i1 i2
          simp only [if_true] at i1 i2 ⊢
          rw [List.map_cons, List.map_cons]
          refine ⟨by rw [i1], ers.cons (by rw [e2, ← e4]) i2⟩
        | false =>
          rw [hany] at i1 i2
          simp only [Bool.false_eq_true, if_false] at i1 i2 ⊢
          rw [List.cons_append, List.map_cons, List.map_cons]
          refine ⟨by rw [i1], ers.cons (by rw [e2, ← e4]) i2⟩

theorem setitem_sound {a b g : GV} {u v w : Value} {Q : GH → Prop} (O : W.Ok) (x : HeapRep W K H s) (ea : er u = some a) (eb : er v = some b) (eg : er w = some g) (h : gSetItem a b g H Q) :
    wpAny (model W.prog W.w) A (setItem u v w) (fun _ s' => ∃ H', HeapRep W K H' s' ∧ Q H') NoE s := by
  unfold gSetItem at h
  split at h
  · obtain rfl := er_ref ea; obtain ⟨t, rfl⟩ := er_int eb
    rename_i i
    obtain ⟨l, h1, h2, h3, h4, h5⟩ := h
    obtain ⟨vs, ⟨n, p1⟩, r1⟩ := x.objs _ _ h1
    have ln := r1.length
    have hb := bnd_fit h2
    refine ki_setAt (items := vs.toArray) (n := n) p1 h3 (by omega) (by simp only [List.size_toArray]; omega) ⟨_, x.upd (tk := s.toks) h1 rfl (Heap.SameBut.update ..) (g' := .list (l.set i.toNat g)) ⟨vs.set i.toNat w, ⟨n, ?_⟩, r1.set _ eg⟩ rfl, h5⟩
    refine (Heap.get?_update_self _ p1 rfl).trans ?_
    simp [Obj.mapSeq]
  · obtain rfl := er_ref ea; obtain ⟨t, rfl⟩ := er_str eb
    rename_i y
    obtain ⟨kvs, h1, h2, h3⟩ := h
    obtain ⟨ps, d, r1, r2⟩ := x.objs _ _ h1
    have hk : (PySem.strKind W.prog W.w).is y (.str y t) = true := by show Value.isStrOf y (.str y t) = true; simp [Value.isStrOf]
    have nd : (ps.map (·.1)).Nodup := let ⟨_, _, _, _, _, _, _, _, hn⟩ := d; hn
    obtain ⟨i1, i2⟩ := stored_at r1 r2 nd (k := y) eg
    have ln : ps.length = kvs.length := by have := congrArg List.length r1; simpa using this
    refine wpAny_setItem_pairs hk d (fun h' d' sb => ⟨_, x.upd (tk := s.toks + 1) h1 rfl sb (g' := .dict (put y g kvs)) ⟨_, d', i1, i2⟩ rfl, h3⟩) ?_
    have := bnd_le; omega
  · exact h.elim
end

-- G5
section
variable {W : Wd} {K : Kp} {H : GH} {s : Shared} {A : Around} {F : Frag} {n : Nat}

noncomputable def KeepsKeeper (W : Wd) (v : Value) : Prop := ∀ (A : Around) (s : Shared) (Q : Keeper → Shared → Prop) (E : Value → Shared → Prop), (∀ b o, W.h₀.get? b = some o → s.heap.get? b = some o) → (∀ k, Q k s) → wpAny (model W.prog W.w) A (keeperOf v) Q E s

theorem kk_fn {a : Addr} {o : Obj} {fd : FuncData} (ho : W.h₀.get? a = some o) (hd : o.data = .func fd) : KeepsKeeper W (.ref a) := by
  intro A s Q E k q
  unfold keeperOf
  refine wpAny_bind (wpAny_load (k _ _ ho) ?_)
  rw [hd]
  exact wpAny_pure (q _)
theorem kk_builtin (i : String) : KeepsKeeper W (.builtin i) := fun A s Q E _ q => by unfold keeperOf; exact wpAny_pure (q _)
theorem kk_type (i : String) : KeepsKeeper W (.type i) := fun A s Q E _ q => by unfold keeperOf; exact wpAny_pure (q _)

noncomputable def CallOk (W : Wd) (n : Nat) (v : Value) (S : List GV → GH → (GV → GH → Prop) → Prop) : Prop :=
  KeepsKeeper W v ∧ ∀ (A : Around) (K : Kp) (H : GH) (s : Shared) (vs : List Value) (gs : List GV) (Q : GV → GH → Prop), Room A n → HeapRep W K H s → ers vs gs → S gs H Q → wpAny (model W.prog W.w) A (call v vs) (Out W K Q) NoE s

structure PhiOk (W : Wd) (F : Frag) (Φ : Spec) (n : Nat) : Prop where
  fn : ∀ f ∈ ownNames, ∃ v, (∃ mg, W.h₀.Ns mainGlobals mg ∧ mg f = some v) ∧ CallOk W n v (Φ false f)
  me : ∀ m ∈ methNames, ∀ v, findIn F (.ref W.C) m = some (some v) → CallOk W n v (Φ true m)

noncomputable def bVals : List (Str × Value) := [("len", .builtin "len"), ("min", .builtin "min"), ("max", .builtin "max"), ("int", .type "int"), ("range", .type "range"), ("sorted", .builtin "sorted"), ("dict", .type "dict")]

structure GlobOk (W : Wd) : Prop where
  g : ∃ mg mb, W.h₀.Ns mainGlobals mg ∧ W.h₀.Ns builtinsNs mb ∧ ∀ p ∈ bVals, mg p.1 = none ∧ mb p.1 = some p.2

-- the arguments of a call
theorem args_eq {es : List Expr} {env : Env} {pos : Pos} (h : noStar es = true) : ∃ ts : List (Sem Value), backTo pos (starEach es env) = ts.map (fun t => (false, t)) ∧ ts = es.map (fun e => eval e env) := by
  refine ⟨_, ?_, rfl⟩
  induction es with
  | nil => rfl
  | cons e r ih =>
    cases e with
    | Starred => cases h
    | _ =>
      have := ih h
      show (false, _) :: backTo pos (starEach r env) = _
      rw [this]; rfl

theorem callWith_any {pos : Pos} {v : Value} {first : List Value} {ts : List (Sem Value)} {Q : Value → Shared → Prop} {E : Value → Shared → Prop} (kk : KeepsKeeper W v)
    (h : wpAny (model W.prog W.w) A (spliced (ts.map fun t => (false, t))) (fun vs s₁ => (∀ b o, W.h₀.get? b = some o → s₁.heap.get? b = some o) ∧ wpAny (model W.prog W.w) A (call v (first ++ vs)) Q E s₁) E s) :
    wpAny (model W.prog W.w) A (callWith pos v first (ts.map fun t => (false, t)) []) Q E s := by
  have ev : wpAny (model W.prog W.w) A (evalArgs v true (ts.map fun t => (false, t)) []) (fun a s₁ => a.kw = [] ∧ (∀ b o, W.h₀.get? b = some o → s₁.heap.get? b = some o) ∧ wpAny (model W.prog W.w) A (call v (first ++ a.pos)) Q E s₁) E s := by
    unfold evalArgs
    cases ts with
    | nil =>
      show wpAny _ A (spliced [] >>= _) _ E s
      refine wpAny_bind (wpAny_mono h (fun vs s₁ h₁ => ?_) fun _ _ x => x)
      refine wpAny_bind (wpAny_pure (wpAny_holding ?_))
      exact wpAny_bind (wpAny_pure (wpAny_bind (wpAny_pure (wpAny_pure ⟨rfl, h₁⟩))))
    | cons t ts =>
      show wpAny _ A (spliced ((false, t) :: ts.map fun t => (false, t)) >>= _) _ E s
      refine wpAny_bind (wpAny_mono h (fun vs s₁ h₁ => ?_) fun _ _ x => x)
      refine wpAny_bind (wpAny_pure (wpAny_holding ?_))
      exact wpAny_bind (wpAny_pure (wpAny_bind (wpAny_pure (wpAny_pure ⟨rfl, h₁⟩))))
  unfold callWith
  refine wpAny_bind (wpAny_holding (wpAny_mono ev (fun a s₁ h₁ => wpAny_bind (wpAny_standAt ?_)) fun _ _ x => x))
  obtain ⟨⟨ap, akw⟩, h1, h2, h3⟩ : ∃ a' : Args, a = a' ∧ (∀ b o, W.h₀.get? b = some o → s₁.heap.get? b = some o) ∧ True := ⟨a, rfl, h₁.2.1, trivial⟩
  subst h1
  obtain ⟨rfl, -, hc⟩ := h₁
  have hst : ((ts.map fun t => (false, t)).any (·.1) || ([] : List (Option Str × Sem Value)).any (·.1.isNone)) = false := by
    rw [List.any_map]; simp
  dsimp only
  rw [hst]
  have tail : ∀ {t : Sem Value}, wpAny (model W.prog W.w) A t Q E s₁ → wpAny (model W.prog W.w) A (t >>= fun r => holding [r] point >>= fun _ => pure r) Q E s₁ :=
    fun ht => wpAny_bind (wpAny_mono ht (fun r s₂ hr => wpAny_bind (wpAny_holding (wpAny_point (wpAny_pure hr)))) fun _ _ x => x)
  refine wpAny_bind (kk A s₁ _ _ h2 fun k => ?_)
  cases k with
  | frame =>
    dsimp only
    split
    · exact tail hc
    · exact tail (by unfold callMarked; exact Calls.wpAny_keep hc)
  | boundFrame =>
    dsimp only
    split
    · exact tail hc
    · exact tail (by unfold callMarked; exact Calls.wpAny_keep hc)
  | machine => exact tail hc
  | caller => exact tail (wpAny_operating hc)
end

-- G6
section
variable {W : Wd} {K : Kp} {H : GH} {s : Shared} {A : Around} {F : Frag} {n : Nat}

theorem ers_ints {vs : List Value} {is : List Int} (h : ers vs (is.map .int)) : IntsAre vs is := by
  induction is generalizing vs with
  | nil => rw [h.inv_nil]; exact .nil
  | cons i r ih =>
    obtain ⟨v, vs', rfl, e, q⟩ := h.inv_cons
    obtain ⟨t, rfl⟩ := er_int e
    exact .cons i t (ih q)
theorem ints_ers {vs : List Value} {is : List Int} (h : IntsAre vs is) : ers vs (is.map .int) := by
  induction h with
  | nil => rfl
  | cons i t _ ih => exact ers.cons rfl ih
theorem ints_get {gs : List GV} : ∀ {is : List Int}, ints? gs = some is → gs = is.map .int := by
  induction gs with
  | nil => intro is h; cases h; rfl
  | cons g r ih =>
    intro is h
    cases g with
    | int x =>
      simp only [ints?, Option.map_eq_some_iff] at h
      obtain ⟨t, h1, rfl⟩ := h
      rw [List.map_cons, ih h1]
    | _ => cases h

theorem len_sound {v : Value} {gs : List GV} {vs : List Value} {a : Addr} {Q : GV → GH → Prop} (O : W.Ok) (x : HeapRep W K H s)
    (h : (∃ l, (H a = some (.list l) ∨ H a = some (.flist l)) ∧ l.length ≤ bnd ∧ Q (.int l.length) H) ∨ (∃ kvs, H a = some (.dict kvs) ∧ kvs.length ≤ bnd ∧ Q (.int kvs.length) H)) :
    wpAny (model W.prog W.w) A (call (.builtin "len") [.ref a]) (Out W K Q) NoE s := by
  rcases h with ⟨l, h1, h2, h3⟩ | ⟨kvs, h1, h2, h3⟩
  · obtain ⟨us, p1, r1⟩ : ∃ vs : List Value, s.heap.IsList a vs.toArray ∧ ers vs l := by
      rcases h1 with h1 | h1
      · obtain ⟨vs, p1, r1⟩ := x.objs _ _ h1; exact ⟨vs, p1.isList, r1⟩
      · exact x.objs _ _ h1
    have ln := r1.length
    have hb := bnd_fit h2
    exact Calls.call_len_list p1 (by simp only [List.size_toArray]; omega) (out_here x (by simp only [List.size_toArray, ln]; rfl) h3 _)
  · obtain ⟨ps, d, r1, r2⟩ := x.objs _ _ h1
    have ln : ps.length = kvs.length := by have := congrArg List.length r1; simpa using this
    have hb := bnd_fit h2
    exact call_len_dict (x.notMods O.mods h1 rfl) d (by omega) (out_here x (by rw [ln]; rfl) h3 _)

theorem min_sound {a b : Int} {t u : Tok} {Q : GV → GH → Prop} (hh : A.handled = none) (x : HeapRep W K H s) (h : Q (.int (if b < a then b else a)) H) :
    wpAny (model W.prog W.w) A (call (.builtin "min") [.int a t, .int b u]) (Out W K Q) NoE s := by
  refine min_two_ints hh fun h' tk k => ⟨_, H, ?_, x.grow k, h⟩
  by_cases q : b < a
  · rw [if_pos q, if_pos q]; rfl
  · rw [if_neg q, if_neg q]; rfl
theorem max_sound {a b : Int} {t u : Tok} {Q : GV → GH → Prop} (hh : A.handled = none) (x : HeapRep W K H s) (h : Q (.int (if b > a then b else a)) H) :
    wpAny (model W.prog W.w) A (call (.builtin "max") [.int a t, .int b u]) (Out W K Q) NoE s := by
  refine max_two_ints hh fun h' tk k => ⟨_, H, ?_, x.grow k, h⟩
  by_cases q : b > a
  · rw [if_pos q, if_pos q]; rfl
  · rw [if_neg q, if_neg q]; rfl

theorem range_sound {i : Int} {t : Tok} {Q : GV → GH → Prop} (x : HeapRep W K H s) (h : gNew (.range i) H Q) : wpAny (model W.prog W.w) A (call (.type "range") [.int i t]) (Out W K Q) NoE s :=
  call_range_1 ⟨_, _, rfl, x.new (tk := s.toks + 1 + 1) (fun b o e => Heap.get?_push_of_some _ e) x.fresh (fun o => x.freshK) (g := .range i) ⟨_, _, _, Heap.get?_push_size _ rfl⟩ rfl, h _ x.fresh⟩

theorem above_free (x : HeapRep W K H s) {a : Addr} (h : s.heap.objs.size ≤ a) : H a = none ∧ ∀ o, ¬ K a o := by
  refine ⟨?_, fun o q => absurd (Heap.lt_size (x.keep _ _ q)) (Nat.not_lt.mpr h)⟩
  cases e : H a with
  | none => rfl
  | some g => obtain ⟨o, q⟩ := (x.objs _ _ e).there; exact absurd (Heap.lt_size q) (Nat.not_lt.mpr h)

theorem sorted_sound {a : Addr} {l : List GV} {is : List Int} {Q : GV → GH → Prop} (x : HeapRep W K H s) (h1 : H a = some (.list l)) (h2 : ints? l = some is) (h3 : is.length < 64)
    (h : ∀ js : List Int, js.Perm is → js.Pairwise (· ≤ ·) → gNew (.list (js.map .int)) H Q) : wpAny (model W.prog W.w) A (call (.builtin "sorted") [.ref a]) (Out W K Q) NoE s := by
  obtain ⟨vs, p1, r1⟩ := x.objs _ _ h1
  rw [ints_get h2] at r1
  have ln := r1.length
  rw [List.length_map] at ln
  refine sorted_ints p1.isList (ers_ints r1) (by omega) fun out js i1 i2 i3 => ?_
  obtain ⟨e, he⟩ := sortedAll_at s.heap vs out
  obtain ⟨f1, f2⟩ := above_free x (a := s.heap.objs.size + 1) (Nat.le_succ _)
  exact ⟨_, _, rfl, x.new (tk := s.toks) (fun b o q => sortedAll_old q) f1 f2 (g := .list (js.map .int)) ⟨out.toList, ⟨e, by simpa using he⟩, ints_ers i1⟩ rfl, h js i2 i3 _ f1⟩

-- methods of a list
theorem getm_list {a : Addr} {l : List GV} {nm : Str} {id : String} {pl : Sem Bool} {Q : Value × List Value → Shared → Prop} {E : Value → Shared → Prop} (x : HeapRep W K H s) (h1 : H a = some (.list l)) (slot : Slot "list" nm id) (hty : typeOf (.builtin id) = pure (.type "method_descriptor"))
    (h : Q (.builtin id, [.ref a]) s) : wpAny (model W.prog W.w) A (getMethod (.ref a) nm pl) Q E s := by
  obtain ⟨vs, ⟨k, p1⟩, r1⟩ := x.objs _ _ h1
  exact getMethod_builtin ⟨_, p1, rfl⟩ PySem.F.plainAttrs_list slot hty (fun b e => by cases e; exact ⟨_, p1, rfl⟩) h
theorem getm_dict {a : Addr} {kvs : List (Str × GV)} {nm : Str} {id : String} {pl : Sem Bool} {Q : Value × List Value → Shared → Prop} {E : Value → Shared → Prop} (x : HeapRep W K H s) (h1 : H a = some (.dict kvs)) (slot : Slot "dict" nm id) (hty : typeOf (.builtin id) = pure (.type "method_descriptor"))
    (h : Q (.builtin id, [.ref a]) s) : wpAny (model W.prog W.w) A (getMethod (.ref a) nm pl) Q E s := by
  obtain ⟨ps, d, r1, r2⟩ := x.objs _ _ h1
  exact getMethod_builtin d.typeIs PySem.F.plainAttrs_dict slot hty d.mapOf.noDict h

theorem append_sound {a : Addr} {l : List GV} {v : Value} {g : GV} {Q : GV → GH → Prop} (x : HeapRep W K H s) (h1 : H a = some (.list l)) (h2 : l.length < bnd) (e : er v = some g) (h : Q .none (hset H a (.list (l ++ [g])))) :
    wpAny (model W.prog W.w) A (call (.builtin "list.append") [.ref a, v]) (Out W K Q) NoE s := by
  obtain ⟨vs, p1, r1⟩ := x.objs _ _ h1
  have ln := r1.length
  have hb := bnd_le
  refine wpAny_list_append_plain p1 (fun h' p' sb => ⟨_, _, rfl, x.upd (tk := s.toks) h1 rfl sb (g' := .list (l ++ [g])) ⟨vs ++ [v], by simpa using p', r1.append (ers.cons e ers.nil)⟩ rfl, h⟩) (by simp only [List.size_toArray]; omega)

theorem pop_last_sound {a : Addr} {l l' : List GV} {g : GV} {Q : GV → GH → Prop} (x : HeapRep W K H s) (h1 : H a = some (.list l)) (h2 : l.length < bnd) (hl : l = l' ++ [g]) (h : Q g (hset H a (.list l'))) :
    wpAny (model W.prog W.w) A (call (.builtin "list.pop") [.ref a]) (Out W K Q) NoE s := by
  obtain ⟨vs, ⟨k, p1⟩, r1⟩ := x.objs _ _ h1
  have ln := r1.length
  have hb := bnd_le
  have lpos : 0 < l.length := by rw [hl]; simp
  obtain ⟨w, w1, w2⟩ := r1.at (i := l.length - 1) (g := g) (by rw [hl]; simp)
  have q := r1.erase (vs.length - 1)
  rw [hl] at q ln
  rw [show (l' ++ [g]).eraseIdx (vs.length - 1) = l' by rw [ln]; simp [List.eraseIdx_append_of_length_le]] at q
  have pl : (s.heap.update a (Obj.mapSeq fun xs => xs.eraseIdxIfInBounds (vs.toArray.size - 1))).PlainList a (vs.eraseIdx (vs.length - 1)).toArray :=
    ⟨_, by have := PySem.IsL.update (n := k) p1 (fun xs => xs.eraseIdxIfInBounds (vs.toArray.size - 1)); rw [show vs.toArray.eraseIdxIfInBounds (vs.toArray.size - 1) = (vs.eraseIdx (vs.length - 1)).toArray by simp] at this; exact this⟩
  exact call_meets PySem.F.slot_list_pop ⟨_, p1, rfl⟩ PySem.F.entry_list_pop (PySem.F.args_list_pop_1 _) (MeetsSeq.list_pop_last a vs.toArray k w (by rw [hl] at w1; simp only [List.size_toArray, ln]; simpa using w1) (by simp only [List.size_toArray]; rw [hl] at h2; omega))
    ⟨p1, ⟨g, _, w2, x.upd (tk := s.toks) h1 rfl (Heap.SameBut.update ..) (g' := .list l') ⟨_, pl, q⟩ rfl, h⟩⟩

theorem pop_at_sound {a : Addr} {l : List GV} {i : Int} {t : Tok} {g : GV} {Q : GV → GH → Prop} (x : HeapRep W K H s) (h1 : H a = some (.list l)) (h2 : l.length < bnd) (h0 : 0 ≤ i) (hl : l[i.toNat]? = some g) (h : Q g (hset H a (.list (l.eraseIdx i.toNat)))) :
    wpAny (model W.prog W.w) A (call (.builtin "list.pop") [.ref a, .int i t]) (Out W K Q) NoE s := by
  obtain ⟨vs, ⟨k, p1⟩, r1⟩ := x.objs _ _ h1
  have ln := r1.length
  have hb := bnd_le
  obtain ⟨w, w1, w2⟩ := r1.at hl
  have lt : i.toNat < vs.length := by rw [List.getElem?_eq_some_iff] at w1; exact w1.1
  have hfit := bnd_fit (n := l.length) (Nat.le_of_lt h2)
  have pl : (s.heap.update a (Obj.mapSeq fun xs => xs.eraseIdxIfInBounds i.toNat)).PlainList a (vs.eraseIdx i.toNat).toArray :=
    ⟨_, by have := PySem.IsL.update (n := k) p1 (fun xs => xs.eraseIdxIfInBounds i.toNat); rw [show vs.toArray.eraseIdxIfInBounds i.toNat = (vs.eraseIdx i.toNat).toArray by simp] at this; exact this⟩
  exact call_meets PySem.F.slot_list_pop ⟨_, p1, rfl⟩ PySem.F.entry_list_pop (PySem.F.args_list_pop_2 _ _) (MeetsSeq.list_pop_at a vs.toArray k i t i.toNat w (fitsIndex_of h0 (by omega)) (seqIndex_of h0 (by simp only [List.size_toArray]; omega)) (by simpa using w1) (by simp only [List.size_toArray]; omega))
    ⟨p1, ⟨g, _, w2, x.upd (tk := s.toks) h1 rfl (Heap.SameBut.update ..) (g' := .list (l.eraseIdx i.toNat)) ⟨_, pl, r1.erase _⟩ rfl, h⟩⟩

theorem get_sound {a : Addr} {kvs : List (Str × GV)} {y : Str} {t : Tok} {d : Value} {g : GV} {Q : GV → GH → Prop} (O : W.Ok) (x : HeapRep W K H s) (h1 : H a = some (.dict kvs)) (e : er d = some g) (h : Q ((kvs.lookup y).getD g) H) :
    wpAny (model W.prog W.w) A (call (.builtin "dict.get") [.ref a, .str y t, d]) (Out W K Q) NoE s := by
  obtain ⟨ps, dd, r1, r2⟩ := x.objs _ _ h1
  have hk : (PySem.strKind W.prog W.w).is y (.str y t) = true := by show Value.isStrOf y (.str y t) = true; simp [Value.isStrOf]
  obtain ⟨k1, k2⟩ := look_at r1 r2 y
  refine call_meetsIn PySem.F.slot_dict_get dd.typeIs PySem.F.entry_dict_get (PySem.F.args_dict_get_3 _ _ _) (meets_dict_get_default (PySem.strKind W.prog W.w) a hk (x.notMods O.mods h1 rfl) d) ⟨valueAt ps, dd.mapOf, ?_⟩
  refine ⟨_, H, ?_, x.toks _, h⟩
  cases q : valueAt ps y with
  | none =>
    rw [q] at k2
    cases z : kvs.lookup y with
    | none => exact e
    | some _ => rw [z] at k2; cases k2
  | some w =>
    rw [q] at k1
    rw [← k1]
    have : er w = (kvs.lookup y) := by simpa using k1
    cases z : kvs.lookup y with
    | none => rw [q, z] at k2; cases k2
    | some g' => rw [z] at this; simp [this]
end

-- G7
section
variable {W : Wd} {K : Kp} {H : GH} {s : Shared} {A : Around} {F : Frag} {n : Nat} {env : Env} {ρ : Loc}

-- an iterator I over the object at a, before its i-th item
noncomputable def ItAt (h : Heap) (I a : Addr) : GO → Nat → Prop
  | .list _, i => h.IsListIter I a i
  | .range n, i => IsRangeIter h I (i : Int) ((n.toNat : Int) - i) 1
  | _, _ => False

theorem ItAt.at {h h' : Heap} {I a : Addr} {o : GO} {i : Nat} (x : ItAt h I a o i) (k : ∀ ob, h.get? I = some ob → h'.get? I = some ob) : ItAt h' I a o i := by
  cases o with
  | list l => obtain ⟨ob, e, r⟩ := x; exact ⟨ob, k _ e, r⟩
  | range n => exact k _ x
  | _ => exact x.elim
theorem ItAt.there {h : Heap} {I a : Addr} {o : GO} {i : Nat} (x : ItAt h I a o i) : ∃ ob, h.get? I = some ob := by
  cases o with
  | list l => obtain ⟨ob, e, r⟩ := x; exact ⟨ob, e⟩
  | range n => exact ⟨_, x⟩
  | _ => exact x.elim

theorem rangeSize_one (n : Int) : Builtin.Range.rangeSize 0 n 1 = (n.toNat : Int) := by
  unfold Builtin.Range.rangeSize
  rw [if_pos (by decide)]
  split <;> omega
theorem range_small {n : Int} (h : n ≤ bnd) (h' : -(bnd : Int) ≤ n) : Builtin.Range.small 0 n 1 = true := by
  unfold Builtin.Range.small
  rw [rangeSize_one]
  unfold bnd at h h'
  simp only [Builtin.Range.rangeFitsLong, Bool.and_eq_true, Bool.or_eq_true, decide_eq_true_eq, beq_iff_eq]
  refine ⟨⟨⟨⟨?_, ?_⟩, ?_⟩, ?_⟩, ?_⟩
  · omega
  · omega
  · omega
  · omega
  · right
    rw [if_pos (by decide)]
    simp only [Bool.and_eq_true, decide_eq_true_eq]
    omega

theorem itemsOf_range {m : Int} {l : List GV} (h : itemsOf (.range m) = some l) : -(bnd : Int) ≤ m ∧ (List.range m.toNat).map (fun (i : Nat) => GV.int (i : Int)) = l := by
  have h' : (if -(bnd : Int) ≤ m then some ((List.range m.toNat).map fun (i : Nat) => GV.int (i : Int)) else Option.none) = some l := h
  split at h'
  · cases h'; exact ⟨by assumption, rfl⟩
  · cases h'

theorem iter_sound {a : Addr} {o : GO} {l : List GV} {Q : Value → Shared → Prop} {E : Value → Shared → Prop} (x : ORel W s.heap a o) (hl : itemsOf o = some l) (hb : l.length ≤ bnd)
    (h : ∀ ob, ItAt (s.heap.push ob) s.heap.objs.size a o 0 → ob.isFreed = false → Q (.ref s.heap.objs.size) { s with heap := s.heap.push ob }) : wpAny (model W.prog W.w) A (pyIter (.ref a)) Q E s := by
  cases o with
  | list l' =>
    obtain ⟨vs, p, r⟩ := x
    exact wpAny_pyIter_list p.isList (h _ ⟨_, Heap.get?_push_size _ rfl, rfl, rfl⟩ rfl)
  | range m =>
    obtain ⟨t, u, v, p⟩ := x
    obtain ⟨h2, rfl⟩ := itemsOf_range hl
    simp only [List.length_map, List.length_range] at hb
    refine wpAny_pyIter_range p (range_small (by omega) h2) (h _ ?_ rfl)
    show IsRangeIter _ _ _ _ _
    rw [rangeSize_one]
    rw [show ((0 : Nat) : Int) = 0 from rfl, Int.sub_zero]
    exact Heap.get?_push_size _ rfl
  | _ => cases hl

theorem next_item {I a : Addr} {o : GO} {l : List GV} {i : Nat} {g : GV} {Q : Option Value → Shared → Prop} {E : Value → Shared → Prop} (x : ORel W s.heap a o) (hl : itemsOf o = some l) (it : ItAt s.heap I a o i) (hi : l[i]? = some g)
    (h : ∀ v h' tk, er v = some g → ItAt h' I a o (i + 1) → Heap.SameBut I s.heap h' → Q (some v) { s with heap := h', toks := tk }) : wpAny (model W.prog W.w) A (pyNext (.ref I)) Q E s := by
  cases o with
  | list l' =>
    obtain ⟨vs, p, r⟩ := x
    cases hl
    obtain ⟨v, e1, e2⟩ := r.at hi
    exact wpAny_pyNext_list_item it p.isList (by simpa using e1) fun h' it' sb => h v h' s.toks e2 it' sb
  | range m =>
    obtain ⟨-, rfl⟩ := itemsOf_range hl
    have lt : i < m.toNat := by
      rw [List.getElem?_map] at hi
      cases q : (List.range m.toNat)[i]? with
      | none => rw [q] at hi; cases hi
      | some k => rw [List.getElem?_eq_some_iff] at q; have := q.1; simpa using this
    have hg : g = .int i := by
      rw [List.getElem?_map, List.getElem?_range lt] at hi
      simpa using hi.symm
    subst hg
    refine wpAny_pyNext_range_item it (by omega) fun h' it' sb => h _ h' _ rfl ?_ sb
    show IsRangeIter h' I _ _ _
    have e1 : ((i + 1 : Nat) : Int) = (i : Int) + 1 := by omega
    have e2 : (m.toNat : Int) - ((i + 1 : Nat) : Int) = (m.toNat : Int) - i - 1 := by omega
    rw [e2, e1]
    exact it'
  | _ => cases hl

theorem next_end {I a : Addr} {o : GO} {l : List GV} {i : Nat} {Q : Option Value → Shared → Prop} {E : Value → Shared → Prop} (hh : A.handled = none) (x : ORel W s.heap a o) (hl : itemsOf o = some l) (it : ItAt s.heap I a o i) (hi : i = l.length)
    (h : ∀ h', Heap.ExtBut I s.heap h' → Q none { s with heap := h' }) : wpAny (model W.prog W.w) A (pyNext (.ref I)) Q E s := by
  cases o with
  | list l' =>
    obtain ⟨vs, p, r⟩ := x
    cases hl
    have ln := r.length
    exact wpAny_pyNext_list_end hh it p.isList (by simp; omega) h
  | range m =>
    obtain ⟨-, rfl⟩ := itemsOf_range hl
    simp only [List.length_map, List.length_range] at hi
    exact wpAny_pyNext_range_end hh it (by omega) h
  | _ => cases hl

-- an address apart from what is kept, owned and the frame's
structure Apart (K : Kp) (env : Env) (H : GH) (I : Addr) : Prop where
  k : ∀ o, ¬ K I o
  f : I ∉ faddrs env
  h : H I = none

noncomputable def Kw (K : Kp) (I : Addr) (h : Heap) : Kp := fun b o => K b o ∨ (b = I ∧ h.get? b = some o)

theorem Rep.grow (x : Rep W K env ρ H s) {h' : Heap} {tk : Nat} (k : ∀ b o, s.heap.get? b = some o → h'.get? b = some o) : Rep W K env ρ H { s with heap := h', toks := tk } :=
  ⟨x.hr.grow k, x.fr.at fun a _ o e => k a o e, x.fa⟩

-- a change at an address apart
theorem Rep.but (x : Rep W K env ρ H s) {I : Addr} (ap : Apart K env H I) {h' : Heap} {tk : Nat} (k : Heap.ExtBut I s.heap h') : Rep W K env ρ H { s with heap := h', toks := tk } := by
  refine ⟨⟨(by obtain ⟨h, t, e⟩ := x.hr.same; exact ⟨h', tk, by rw [e]⟩), x.hr.base, fun b o q => ?_, fun b g e => ?_, x.hr.apart, x.hr.froz⟩, x.fr.at fun a ha o e => ?_, x.fa⟩
  · exact k b o (by rintro rfl; exact ap.k o q) (x.hr.keep b o q)
  · exact (x.hr.objs b g e).at fun o z => k b o (by rintro rfl; rw [ap.h] at e; cases e) z
  · exact k a o (by rintro rfl; exact ap.f ha) e

theorem Rep.watch (x : Rep W K env ρ H s) {I : Addr} (ap : Apart K env H I) : Rep W (Kw K I s.heap) env ρ H s := by
  refine ⟨⟨x.hr.same, fun b o e => .inl (x.hr.base b o e), fun b o q => ?_, x.hr.objs, fun a g e hf o q => ?_, x.hr.froz⟩, x.fr, fun a ha => ⟨fun o q => ?_, (x.fa a ha).2⟩⟩
  · rcases q with q | q
    · exact x.hr.keep b o q
    · exact q.2
  · rcases q with q | ⟨rfl, _⟩
    · exact x.hr.apart a g e hf o q
    · rw [ap.h] at e; cases e
  · rcases q with q | ⟨rfl, _⟩
    · exact (x.fa a ha).1 o q
    · exact ap.f ha

theorem Rep.unwatch {h₀ : Heap} {I : Addr} (x : Rep W (Kw K I h₀) env ρ H s) (b0 : ∀ b o, W.h₀.get? b = some o → K b o) {ob : Obj} (hI : h₀.get? I = some ob) (kI : ∀ o, ¬ K I o) :
    Rep W K env ρ H s ∧ Apart K env H I ∧ s.heap.get? I = some ob := by
  have z : s.heap.get? I = some ob := x.hr.keep I ob (.inr ⟨rfl, hI⟩)
  refine ⟨⟨⟨x.hr.same, b0, fun b o q => x.hr.keep b o (.inl q), x.hr.objs, fun a g e hf o q => x.hr.apart a g e hf o (.inl q), x.hr.froz⟩, x.fr, fun a ha => ⟨fun o q => (x.fa a ha).1 o (.inl q), (x.fa a ha).2⟩⟩, ⟨kI, fun hf => ?_, ?_⟩, z⟩
  · exact (x.fa I hf).1 ob (.inr ⟨rfl, hI⟩)
  · cases e : H I with
    | none => rfl
    | some g =>
      exfalso
      cases hf : g.frozen with
      | false => exact x.hr.apart I g e hf ob (.inr ⟨rfl, hI⟩)
      | true => obtain ⟨o', z'⟩ := x.hr.froz I g e hf; exact kI o' (b0 I o' z')

theorem Rep.fresh (x : Rep W K env ρ H s) {a : Addr} (h : s.heap.objs.size ≤ a) : Apart K env H a := by
  obtain ⟨h1, h2⟩ := above_free x.hr h
  refine ⟨h2, fun hf => ?_, h1⟩
  obtain ⟨o, q⟩ := x.fr.there a hf
  exact absurd (Heap.lt_size q) (Nat.not_lt.mpr h)

-- flows
noncomputable def fl : Flow → GF → Prop
  | .next, .next => True
  | .ret v, .ret g => er v = some g
  | _, _ => False

noncomputable def OutS (W : Wd) (K : Kp) (env : Env) (Q : GF → Loc → GH → Prop) (f : Flow) (s' : Shared) : Prop := ∃ gf ρ' H', fl f gf ∧ Rep W K env ρ' H' s' ∧ Q gf ρ' H'
noncomputable def OutB (W : Wd) (K : Kp) (env : Env) (ρ : Loc) (Q : Bool → GH → Prop) (b : Bool) (s' : Shared) : Prop := ∃ H', Rep W K env ρ H' s' ∧ Q b H'
noncomputable def OutL (W : Wd) (K : Kp) (env : Env) (ρ : Loc) (Q : List GV → GH → Prop) (vs : List Value) (s' : Shared) : Prop := ∃ gs H', ers vs gs ∧ Rep W K env ρ H' s' ∧ Q gs H'

theorem notE {A : Around} {e : Value} {s' : Shared} {R : Value → Shared → Prop} (h : NoE e s') : notedBy (model W.prog W.w) A env R e s' := h.elim

-- for x in .. over what is at a
theorem for_sound {kd : Kd} {x : Str} {px : Pos} {a I : Addr} {o : GO} {body : List Stmt} {bm : Loc → GH → (GF → Loc → GH → Prop) → Prop} {l : List GV} {Q : GF → Loc → GH → Prop} {m : Nat}
    (ok : EnvOk env) (hkd : ∀ x, kd x = some .local ∨ kd x = some .cell → env.kindOf x = some .local ∨ env.kindOf x = some .cell) (rm : Room A m) (hl : itemsOf o = some l)
    (hbody : ∀ K ρ H s Q, Rep W K env ρ H s → bm ρ H Q → wpAny (model W.prog W.w) A (execs body env) (OutS W K env Q) NoE s)
    (X : Rep W K env ρ H s) (ap : Apart K env H I) (it : ItAt s.heap I a o 0) (h : gFor kd x a o bm l ρ H Q) :
    codeAny (model W.prog W.w) A (.forLoop (.Name x px) (.ref I) body [] env) (fun r s' => match r with | .ok f => OutS W K env Q f s' | .error e => cameBackBy (model W.prog W.w) A env NoE e s') s := by
  refine codeAny_forLoop (fun k s' => ∃ ρ' H' done rest, l = done ++ rest ∧ k = rest.length ∧ Rep W K env ρ' H' s' ∧ Apart K env H' I ∧ ItAt s'.heap I a o done.length ∧ gFor kd x a o bm rest ρ' H' Q) ?_ l.length ⟨ρ, H, [], l, rfl, rfl, X, ap, it, h⟩
  rintro k s' ⟨ρ', H', done, rest, e, rfl, X', ap', it', h'⟩
  cases rest with
  | nil =>
    obtain ⟨ha, q⟩ := h'
    rw [List.append_nil] at e
    refine next_end rm.hh (X'.hr.objs a o ha) hl it' (by rw [e]) fun h₁ k₁ => ?_
    exact wpAny_execs_nil ⟨.next, ρ', H', trivial, X'.but (tk := s'.toks) ap' k₁, q⟩
  | cons g rest =>
    obtain ⟨ha, hk, hq⟩ := h'
    refine next_item (X'.hr.objs a o ha) hl it' (g := g) (by rw [e]; simp) fun v h₁ tk ev it₁ sb => ?_
    have X₁ := X'.but (tk := tk) ap' sb.extBut
    dsimp only
    obtain ⟨ob, hob⟩ := it₁.there
    refine wpAny_assign_Name (wpAny_mono ((X₁.watch ap').store ok ev (hkd x hk) (Q := fun _ s₂ => Rep W (Kw K I h₁) env (lset ρ' x g) H' s₂) fun s₂ X₂ => X₂) (fun _ s₂ X₂ => ?_) fun _ _ e => notE e)
    · refine wpAny_mono (hbody (Kw K I h₁) _ _ s₂ _ X₂ hq) (fun f s₃ h₃ => ?_) fun _ _ e => notE e
      obtain ⟨gf, ρ₃, H₃, hf, X₃, q₃⟩ := h₃
      obtain ⟨Y, ap₃, hI₃⟩ := X₃.unwatch X'.hr.base hob ap'.k
      have it₃ : ItAt s₃.heap I a o (done.length + 1) := it₁.at fun ob' e => by rw [hob] at e; cases e; exact hI₃
      cases f with
      | next =>
        cases gf with
        | next => exact ⟨rest.length, Nat.lt_succ_self _, ρ₃, H₃, done ++ [g], rest, by rw [e]; simp, rfl, Y, ap₃, by simpa using it₃, q₃⟩
        | ret y => exact hf.elim
      | ret v =>
        cases gf with
        | next => exact hf.elim
        | ret y => exact ⟨.ret y, ρ₃, H₃, hf, Y, q₃⟩
      | brk => cases gf <;> exact hf.elim
      | cont => cases gf <;> exact hf.elim
end

-- G8
-- the closure of a comprehension's block
noncomputable def clOf (env : Env) : List (Str × NameKind) → List (Str × Addr) → List (Str × Addr)
  | [], acc => acc
  | (n, k) :: r, acc => if k == .free then clOf env r ((n, (env.cells.lookup n).getD 0) :: acc) else clOf env r acc

theorem closure_eq {env : Env} {scope : Scope} (h : ∀ p ∈ scope.names, p.2 = .free → ∃ c, env.cells.lookup p.1 = some c) : closureFor scope env = pure (clOf env scope.names []) := by
  unfold closureFor
  generalize ([] : List (Str × Addr)) = acc
  show (forIn scope.names acc _ >>= fun r => pure r) = _
  have key : ∀ (names : List (Str × NameKind)) (acc : List (Str × Addr)), (∀ p ∈ names, p.2 = .free → ∃ c, env.cells.lookup p.1 = some c) →
      (forIn names acc fun x (r : List (Str × Addr)) => match x with
        | (name, kind) => if (kind == NameKind.free) = true then do let c ← cellOf env name; pure (ForInStep.yield ((name, c) :: r)) else pure (ForInStep.yield r) : Sem (List (Str × Addr))) = pure (clOf env names acc) := by
    intro names
    induction names with
    | nil => intro acc _; rw [List.forIn_nil]; rfl
    | cons p r ih =>
      intro acc hn
      obtain ⟨n, k⟩ := p
      rw [List.forIn_cons]
      unfold clOf
      dsimp only
      by_cases hk : (k == NameKind.free) = true
      · obtain ⟨c, hc⟩ := hn (n, k) List.mem_cons_self (by simpa using hk)
        have e : cellOf env n = pure c := by unfold cellOf; rw [hc]
        rw [if_pos hk, if_pos hk, hc, e]
        exact ih _ fun p hp => hn p (List.mem_cons_of_mem _ hp)
      · rw [if_neg hk, if_neg hk]
        exact ih _ fun p hp => hn p (List.mem_cons_of_mem _ hp)
  have := key scope.names acc h
  exact (congrArg (fun t => t >>= fun r => pure r) this).trans rfl

theorem clOf_mem {env : Env} : ∀ {names : List (Str × NameKind)} {acc : List (Str × Addr)} {n : Str} {c : Addr}, (n, c) ∈ clOf env names acc → (n, c) ∈ acc ∨ ((n, NameKind.free) ∈ names ∧ c = (env.cells.lookup n).getD 0)
  | [], _, _, _, h => .inl h
  | (m, k) :: r, acc, n, c, h => by
    unfold clOf at h
    split at h
    · rename_i hk
      rcases clOf_mem h with h | ⟨h1, h2⟩
      · rcases List.mem_cons.mp h with e | h
        · cases e; right; exact ⟨by rw [beq_iff_eq.mp hk]; exact List.mem_cons_self, rfl⟩
        · exact .inl h
      · exact .inr ⟨List.mem_cons_of_mem _ h1, h2⟩
    · rcases clOf_mem h with h | ⟨h1, h2⟩
      · exact .inl h
      · exact .inr ⟨List.mem_cons_of_mem _ h1, h2⟩
theorem clOf_has {env : Env} : ∀ {names : List (Str × NameKind)} {acc : List (Str × Addr)} {n : Str}, ((n, NameKind.free) ∈ names ∨ n ∈ acc.map (·.1)) → n ∈ (clOf env names acc).map (·.1)
  | [], _, _, h => by rcases h with h | h; cases h; exact h
  | (m, k) :: r, acc, n, h => by
    unfold clOf
    split
    · apply clOf_has
      rcases h with h | h
      · rcases List.mem_cons.mp h with e | h
        · cases e; right; simp
        · exact .inl h
      · right; rw [List.map_cons]; exact List.mem_cons_of_mem _ h
    · rename_i hk
      apply clOf_has
      rcases h with h | h
      · rcases List.mem_cons.mp h with e | h
        · cases e; exact absurd rfl hk
        · exact .inl h
      · exact .inr h
theorem nodupNames_spec : ∀ {names : List (Str × NameKind)}, nodupNames names = true → (names.map (·.1)).Nodup
  | [], _ => List.nodup_nil
  | p :: r, h => by
    unfold nodupNames at h
    rw [Bool.and_eq_true] at h
    rw [List.map_cons, List.nodup_cons]
    refine ⟨fun hm => ?_, nodupNames_spec h.2⟩
    obtain ⟨q, hq, e⟩ := List.mem_map.mp hm
    have := h.1
    rw [Bool.not_eq_true', List.any_eq_false] at this
    exact this q hq (beq_iff_eq.mpr e)
theorem lookup_of_mem {α : Type} : ∀ {l : List (Str × α)} {n : Str} {k : α}, (l.map (·.1)).Nodup → (n, k) ∈ l → l.lookup n = some k
  | p :: r, n, k, nd, h => by
    rw [List.map_cons, List.nodup_cons] at nd
    rcases List.mem_cons.mp h with e | h
    · rw [← e, List.lookup_cons]; simp
    · have : n ≠ p.1 := fun e => nd.1 (e ▸ List.mem_map.mpr ⟨_, h, rfl⟩)
      rw [List.lookup_cons, beq_eq_false_iff_ne.mpr this]
      exact lookup_of_mem nd.2 h
theorem clOf_nodup {env : Env} : ∀ {names : List (Str × NameKind)} {acc : List (Str × Addr)}, (names.map (·.1)).Nodup → (acc.map (·.1)).Nodup → (∀ n ∈ acc.map (·.1), n ∉ names.map (·.1)) → ((clOf env names acc).map (·.1)).Nodup
  | [], _, _, h, _ => h
  | (m, k) :: r, acc, nd, h, d => by
    rw [List.map_cons, List.nodup_cons] at nd
    unfold clOf
    split
    · refine clOf_nodup nd.2 ?_ ?_
      · rw [List.map_cons, List.nodup_cons]
        exact ⟨fun hm => d m hm (by simp), h⟩
      · intro n hn
        rw [List.map_cons] at hn
        rcases List.mem_cons.mp hn with e | hn
        · rw [e]; exact nd.1
        · exact fun hm => d n hn (List.mem_cons_of_mem _ hm)
    · exact clOf_nodup nd.2 h fun n hn hm => d n hn (List.mem_cons_of_mem _ hm)

theorem cells_none : ∀ {names : List (Str × NameKind)} {acc : List (Str × Addr)} {k : Nat} {h : Heap}, (∀ p ∈ names, p.2 ≠ .cell) → cellsFrom k names acc = acc ∧ pushCells h names = h
  | [], _, _, _, _ => ⟨rfl, rfl⟩
  | (m, q) :: r, acc, k, h, hn => by
    have hq : (q == NameKind.cell) = false := by
      have := hn (m, q) List.mem_cons_self
      simpa using this
    unfold cellsFrom pushCells
    rw [hq]
    exact cells_none fun p hp => hn p (List.mem_cons_of_mem _ hp)
-- none, or one, own cell
theorem cells_one {x : Str} : ∀ {names : List (Str × NameKind)} {acc : List (Str × Addr)} {k : Nat} {h : Heap}, (names.map (·.1)).Nodup → (∀ p ∈ names, p.2 = .cell → p.1 = x) → names.lookup x = some .cell →
    cellsFrom k names acc = (x, k) :: acc ∧ pushCells h names = h.push { cls := .type "cell", data := .cell none }
  | [], _, _, _, _, _, h => by cases h
  | (m, q) :: r, acc, k, h, nd, hn, hx => by
    rw [List.map_cons, List.nodup_cons] at nd
    unfold cellsFrom pushCells
    by_cases hq : (q == NameKind.cell) = true
    · have e : q = .cell := by simpa using hq
      have hm : m = x := hn (m, q) List.mem_cons_self e
      subst hm
      have hr : ∀ p ∈ r, p.2 ≠ .cell := fun p hp e' => nd.1 (by rw [← hn p (List.mem_cons_of_mem _ hp) e']; exact List.mem_map.mpr ⟨p, hp, rfl⟩)
      rw [if_pos hq, if_pos hq]
      obtain ⟨h1, h2⟩ := cells_none (acc := (m, k) :: acc) (k := k + 1) (h := h.push { cls := .type "cell", data := .cell none }) hr
      exact ⟨h1, h2⟩
    · rw [if_neg hq, if_neg hq]
      have hne : (x == m) = false := by
        refine beq_eq_false_iff_ne.mpr fun e => hq ?_
        subst e
        rw [List.lookup_cons] at hx
        simp only [beq_self_eq_true, Option.some.injEq] at hx
        rw [hx]; rfl
      rw [List.lookup_cons, hne] at hx
      exact cells_one nd.2 (fun p hp => hn p (List.mem_cons_of_mem _ hp)) hx

theorem relabel_lookup {env : Env} {scope : Scope} (y : Str) : (relabel scope env).names.lookup y = match scope.names.lookup y with
    | some .free => if (env.scope.kind == .function && env.kindOf y == some .cell) = true then some .cell else some .free
    | r => r := by
  show List.lookup y (scope.names.map _) = _
  generalize scope.names = names
  induction names with
  | nil => rfl
  | cons p r ih =>
    obtain ⟨m, k⟩ := p
    rw [List.map_cons]
    by_cases c : (k == NameKind.free && env.scope.kind == .function && env.kindOf m == some .cell) = true
    · dsimp only
      rw [if_pos c]
      have c' := c
      rw [Bool.and_assoc, Bool.and_eq_true] at c'
      have hk : k = .free := beq_iff_eq.mp c'.1
      cases hy : y == m with
      | true =>
        have e : y = m := beq_iff_eq.mp hy
        subst e
        subst hk
        rw [List.lookup_cons, List.lookup_cons, hy]
        show some NameKind.cell = if _ then _ else _
        rw [if_pos c'.2]
      | false => rw [List.lookup_cons, List.lookup_cons, hy]; exact ih
    · dsimp only
      rw [if_neg c]
      cases hy : y == m with
      | true =>
        have e : y = m := beq_iff_eq.mp hy
        subst e
        rw [List.lookup_cons, List.lookup_cons, hy]
        cases k with
        | free =>
          show some NameKind.free = if _ then _ else _
          rw [if_neg]
          intro q
          exact c (by rw [Bool.and_assoc, q]; rfl)
        | _ => rfl
      | false => rw [List.lookup_cons, List.lookup_cons, hy]; exact ih

noncomputable def KdOk (kd : Kd) (env : Env) : Prop :=
  ∀ x k, kd x = some k → match k with
    | .free => env.kindOf x = some .free ∨ env.kindOf x = some .cell
    | k => env.kindOf x = some k

structure CompFacts (kd : Kd) (scope : Scope) (x : Str) : Prop where
  var : scope.names.lookup x = some .local ∨ scope.names.lookup x = some .cell
  nd : (scope.names.map (·.1)).Nodup
  kind : scope.kind = .function
  free : ∀ p ∈ scope.names, p.2 = .free → kd p.1 = some .cell ∨ kd p.1 = some .free
  cell : ∀ p ∈ scope.names, p.2 = .cell → p.1 = x
theorem compOk_spec {kd : Kd} {scope : Scope} {x : Str} (h : compOk kd scope x = true) : CompFacts kd scope x := by
  unfold compOk at h
  simp only [Bool.and_eq_true, Bool.or_eq_true, beq_iff_eq] at h
  obtain ⟨⟨⟨h1, h2⟩, h3⟩, h4⟩ := h
  refine ⟨h1, nodupNames_spec h2, ?_, fun p hp e => ?_, fun p hp e => ?_⟩
  · revert h3; cases scope.kind <;> simp
  · have := List.all_eq_true.mp h4 p hp
    rw [e] at this
    simpa using this
  · have := List.all_eq_true.mp h4 p hp
    rw [e] at this
    simpa using this

theorem iter_self {W : Wd} {A : Around} {s : Shared} {I a : Addr} {o : GO} {i : Nat} {Q : Value → Shared → Prop} {E : Value → Shared → Prop} (it : ItAt s.heap I a o i) (h : Q (.ref I) s) : wpAny (model W.prog W.w) A (pyIter (.ref I)) Q E s := by
  cases o with
  | list l => exact wpAny_pyIter_listiter it h
  | range m => exact wpAny_pyIter_rangeiter it h
  | _ => exact it.elim

theorem newCompEnv {M : Model} {A : Around} {E : Value → Shared → Prop} {s : Shared} {scope : Scope} {globals : Addr} {cl : List (Str × Addr)} {qual : Str} {outer : Env} {Q : Env → Shared → Prop}
    (h : Q (newEnv scope s.heap.objs.size globals (cellsFrom (s.heap.objs.size + 1) scope.names cl) qual none .none (some outer) builtinsNs) { s with heap := pushCells (s.heap.push { cls := .type "dict", data := .dict #[] }) scope.names }) :
    wpAny M A (newFunctionEnv scope globals cl [] qual none .none (some outer)) Q E s := by
  simp only [newFunctionEnv, Option.isSome_some, if_true]
  refine wpAny_bind (wpAny_alloc ?_)
  refine wpAny_bind (wpAny_layCells _ (fun name kind cells => by cases kind == NameKind.cell <;> simp) _ _ _ _ ?_)
  rw [show ({ s with heap := s.heap.push { cls := .type "dict", data := .dict #[] } } : Shared).heap.objs.size = s.heap.objs.size + 1 from Heap.size_push ..]
  exact wpAny_bind (wpAny_pure (wpAny_pure h))

-- G9
section
variable {W : Wd} {K : Kp} {H : GH} {s : Shared} {A : Around} {F : Frag} {n : Nat} {env : Env} {ρ : Loc}

noncomputable def compLoc0 (names : List (Str × NameKind)) (ρ : Loc) : Loc := fun y => if names.lookup y = some .free then ρ y else none
theorem compLoc_eq (names : List (Str × NameKind)) (ρ : Loc) (x : Str) (v : GV) : lset (compLoc0 names ρ) x v = compLoc names ρ x v := rfl

theorem Rep.forget (X : Rep W K env ρ H s) {ρ' : Loc} (h : ∀ y g, ρ' y = some g → ρ y = some g) : Rep W K env ρ' H s := by
  obtain ⟨hr, ⟨⟨m, hn, q⟩, kn, ce⟩, fa⟩ := X
  refine ⟨hr, ⟨⟨m, hn, fun x g e => q x g (h x g e)⟩, fun x g e => kn x g (h x g e), fun x c hc => ?_⟩, fa⟩
  obtain ⟨ov, ic, r⟩ := ce x c hc
  exact ⟨ov, ic, fun g e => r g (h x g e)⟩

-- what the inner block keeps: the outer frame, but the cells it shares
noncomputable def Ki (K : Kp) (env : Env) (cl : List (Str × Addr)) (h : Heap) : Kp := fun b o => K b o ∨ ((b ∈ faddrs env ∧ b ∉ cl.map (·.2)) ∧ h.get? b = some o)

structure Inner (kd : Kd) (env : Env) (scope : Scope) (x : Str) (cl : List (Str × Addr)) (C : Addr) (cenv : Env) (own : List (Str × Addr)) : Prop where
  ceq : cenv = { newEnv scope C env.globals (own ++ cl) env.qual none .none (some env) builtinsNs with scope := relabel scope env }
  mem : ∀ y c, (y, c) ∈ cl → (y, c) ∈ env.cells ∧ scope.names.lookup y = some .free
  has : ∀ y, scope.names.lookup y = some .free → y ∈ cl.map (·.1)
  nn : (cl.map (·.1)).Nodup
  own_ : (own = [] ∧ scope.names.lookup x = some .local) ∨ (own = [(x, C + 1)] ∧ scope.names.lookup x = some .cell)
  lt : ∀ a ∈ faddrs env, a < C

theorem Inner.envs {kd : Kd} {scope : Scope} {x : Str} {cl own : List (Str × Addr)} {C : Addr} {cenv : Env} (ok : EnvOk env) (cf : CompFacts kd scope x) (hkd : KdOk kd env) (i : Inner kd env scope x cl C cenv own) :
    EnvOk cenv ∧ KdOk (fun z => scope.names.lookup z) cenv ∧ faddrs cenv = C :: (own ++ cl).map (·.2) ∧ cenv.cells = own ++ cl ∧ cenv.locals = C ∧ (∀ y, cenv.kindOf y = (relabel scope env).names.lookup y) := by
  obtain ⟨rfl, mem, has, nn, own_, lt⟩ := i
  have fa : faddrs { newEnv scope C env.globals (own ++ cl) env.qual none .none (some env) builtinsNs with scope := relabel scope env } = C :: (own ++ cl).map (·.2) := rfl
  have kof : ∀ y, Env.kindOf { newEnv scope C env.globals (own ++ cl) env.qual none .none (some env) builtinsNs with scope := relabel scope env } y = (relabel scope env).names.lookup y := fun y => rfl
  have clmem : ∀ c ∈ cl.map (·.2), c ∈ faddrs env := fun c hc => by
    obtain ⟨⟨y, c'⟩, hm, rfl⟩ := List.mem_map.mp hc
    exact cell_mem (mem y c' hm).1
  have clnd : (cl.map (·.2)).Nodup := by
    have ndc := (List.nodup_cons.mp ok.nd).2
    rw [List.nodup_iff_pairwise_ne, List.pairwise_map] at ndc
    rw [List.nodup_iff_pairwise_ne, List.pairwise_map]
    have nn' := nn
    rw [List.nodup_iff_pairwise_ne, List.pairwise_map] at nn'
    refine nn'.imp_of_mem fun {p q} hp hq hne e => hne ?_
    exact name_of_addr ndc (mem p.1 p.2 hp).1 (by rw [e]; exact (mem q.1 q.2 hq).1)
  have inl : ∀ y, y ∈ (own ++ cl).map (·.1) ↔ (scope.names.lookup y = some .free ∨ (y = x ∧ scope.names.lookup x = some .cell)) := fun y => by
    rw [List.map_append, List.mem_append]
    constructor
    · rintro (h | h)
      · rcases own_ with ⟨rfl, _⟩ | ⟨rfl, hx⟩
        · cases h
        · simp at h; exact .inr ⟨h, hx⟩
      · obtain ⟨⟨y', c⟩, hm, rfl⟩ := List.mem_map.mp h
        exact .inl (mem y' c hm).2
    · rintro (h | ⟨rfl, h⟩)
      · exact .inr (has y h)
      · rcases own_ with ⟨_, hx⟩ | ⟨rfl, hx⟩
        · rw [hx] at h; cases h
        · exact .inl (by simp)
  refine ⟨⟨?_, ?_, ?_, ?_, ?_, ?_, ?_⟩, ?_, fa, rfl, rfl, kof⟩
  · exact cf.kind
  · exact ok.glob
  · exact ok.blt
  · intro y c hc
    rw [kof, relabel_lookup]
    have : y ∈ (own ++ cl).map (·.1) := List.mem_map.mpr ⟨_, mem_of_lookup hc, rfl⟩
    rcases (inl y).mp this with h | ⟨rfl, h⟩
    · rw [h]
      by_cases q : (env.scope.kind == .function && env.kindOf y == some .cell) = true
      · left; simp only [q, if_true]
      · right; simp only [q]; rfl
    · rw [h]; exact .inl rfl
  · intro y hy
    rw [kof, relabel_lookup] at hy
    have : y ∈ (own ++ cl).map (·.1) := by
      apply (inl y).mpr
      cases q : scope.names.lookup y with
      | none => rw [q] at hy; rcases hy with h | h <;> cases h
      | some k =>
        rw [q] at hy
        cases k with
        | free => exact .inl rfl
        | cell =>
          right
          have : y = x := cf.cell (y, .cell) (mem_of_lookup q) rfl
          exact ⟨this, this ▸ q⟩
        | _ => rcases hy with h | h <;> cases h
    cases z : (own ++ cl).lookup y with
    | some c => exact ⟨c, z⟩
    | none =>
      rw [List.lookup_eq_none_iff] at z
      obtain ⟨p, hp, e⟩ := List.mem_map.mp this
      have := z p hp
      rw [e] at this
      simp at this
  · rw [fa, List.map_append]
    rcases own_ with ⟨rfl, _⟩ | ⟨rfl, _⟩
    · simp only [List.map_nil, List.nil_append, List.nodup_cons]
      exact ⟨fun h => Nat.lt_irrefl _ (lt _ (clmem _ h)), clnd⟩
    · simp only [List.map_cons, List.map_nil, List.cons_append, List.nil_append, List.nodup_cons, List.mem_cons, not_or]
      exact ⟨⟨Nat.ne_of_lt (Nat.lt_succ_self _), fun h => Nat.lt_irrefl _ (lt _ (clmem _ h))⟩, fun h => Nat.lt_irrefl _ (Nat.lt_of_succ_lt (lt _ (clmem _ h))), clnd⟩
  · rw [show Env.cells { newEnv scope C env.globals (own ++ cl) env.qual none .none (some env) builtinsNs with scope := relabel scope env } = own ++ cl from rfl, List.map_append]
    rcases own_ with ⟨rfl, _⟩ | ⟨rfl, hx⟩
    · exact nn
    · simp only [List.map_cons, List.map_nil, List.cons_append, List.nil_append, List.nodup_cons]
      refine ⟨fun h => ?_, nn⟩
      obtain ⟨⟨y', c⟩, hm, e⟩ := List.mem_map.mp h
      have := (mem y' c hm).2
      dsimp only at e
      rw [e, hx] at this
      cases this
  · intro y k hy
    dsimp only at hy
    have e := relabel_lookup (env := env) (scope := scope) y
    rw [hy] at e
    cases k with
    | free =>
      show _ = _ ∨ _ = _
      rw [kof, e]
      by_cases q : (env.scope.kind == .function && env.kindOf y == some .cell) = true
      · right; simp only [q, if_true]
      · left; simp only [q]; rfl
    | _ => exact (kof y).trans e

-- into the block
theorem Inner.rep {kd : Kd} {scope : Scope} {x : Str} {cl own : List (Str × Addr)} {C : Addr} {cenv : Env} (ok : EnvOk env) (cf : CompFacts kd scope x) (hkd : KdOk kd env) (i : Inner kd env scope x cl C cenv own)
    {s₁ : Shared} (X : Rep W K env ρ H s) (k : ∀ b o, s.heap.get? b = some o → s₁.heap.get? b = some o) (sm : ∃ h tk, s₁ = { s with heap := h, toks := tk }) (hC : s.heap.objs.size ≤ C)
    (ns : s₁.heap.Ns C fun _ => none) (hown : ∀ y c, (y, c) ∈ own → s₁.heap.IsCell c none) :
    Rep W (Ki K env cl s.heap) cenv (compLoc0 scope.names ρ) H s₁ := by
  obtain ⟨eok, _, fa, hcells, hloc, kof⟩ := i.envs ok cf hkd
  refine ⟨⟨?_, fun b o e => .inl (X.hr.base b o e), fun b o q => ?_, fun a g e => (X.hr.objs a g e).at (k a), fun a g e hf o q => ?_, X.hr.froz⟩, ⟨⟨_, by rw [hloc]; exact ns, fun y g hy hk => ?_⟩, fun y g hy => ?_, fun y c hc => ?_⟩, fun a ha => ?_⟩
  · obtain ⟨h, t, e⟩ := X.hr.same
    obtain ⟨h', t', e'⟩ := sm
    exact ⟨h', t', by rw [e', e]⟩
  · rcases q with q | ⟨_, q⟩
    · exact k b o (X.hr.keep b o q)
    · exact k b o q
  · rcases q with q | ⟨⟨q, _⟩, _⟩
    · exact X.hr.apart a g e hf o q
    · have := (X.fa a q).2; rw [e] at this; cases this
  · exfalso
    unfold compLoc0 at hy
    split at hy
    · rename_i hfr
      rw [kof, relabel_lookup, hfr] at hk
      dsimp only at hk
      split at hk <;> cases hk
    · cases hy
  · unfold compLoc0 at hy
    split at hy
    · rename_i hfr
      rw [kof, relabel_lookup, hfr]
      dsimp only
      split
      · exact .inr (.inl rfl)
      · exact .inr (.inr rfl)
    · cases hy
  · rw [hcells] at hc
    rcases List.mem_append.mp hc with hc | hc
    · refine ⟨none, hown y c hc, fun g hy => ?_⟩
      exfalso
      rcases i.own_ with ⟨e, _⟩ | ⟨e, hx⟩
      · rw [e] at hc; cases hc
      · rw [e] at hc
        simp only [List.mem_singleton, Prod.mk.injEq] at hc
        rw [hc.1] at hy
        unfold compLoc0 at hy
        rw [hx] at hy
        simp at hy
    · obtain ⟨ov, ic, r⟩ := X.fr.cell y c (i.mem y c hc).1
      refine ⟨ov, ic.keeps k, fun g hy => r g ?_⟩
      unfold compLoc0 at hy
      split at hy
      · exact hy
      · cases hy
  · rw [fa, List.map_append] at ha
    have big : s.heap.objs.size ≤ a → (∀ o, ¬ Ki K env cl s.heap a o) ∧ H a = none := fun hle => by
      obtain ⟨h1, h2⟩ := above_free X.hr hle
      refine ⟨fun o q => ?_, h1⟩
      rcases q with q | ⟨_, q⟩
      · exact h2 o q
      · exact absurd (Heap.lt_size q) (Nat.not_lt.mpr hle)
    rcases List.mem_cons.mp ha with rfl | ha
    · exact big hC
    · rcases List.mem_append.mp ha with ha | ha
      · rcases i.own_ with ⟨e, _⟩ | ⟨e, hx⟩
        · rw [e] at ha; cases ha
        · rw [e] at ha
          simp only [List.map_cons, List.map_nil, List.mem_singleton] at ha
          exact big (by rw [show a = C + 1 from ha]; exact Nat.le_succ_of_le hC)
      · obtain ⟨⟨y, c⟩, hm, rfl⟩ := List.mem_map.mp ha
        have hf := cell_mem (i.mem y c hm).1
        refine ⟨fun o q => ?_, (X.fa c hf).2⟩
        rcases q with q | ⟨⟨_, q⟩, _⟩
        · exact (X.fa c hf).1 o q
        · exact q ha

-- and back
theorem Inner.back {kd : Kd} {scope : Scope} {x : Str} {cl own : List (Str × Addr)} {C : Addr} {cenv : Env} (ok : EnvOk env) (cf : CompFacts kd scope x) (hkd : KdOk kd env) (i : Inner kd env scope x cl C cenv own)
    {s₁ : Shared} {H' : GH} (X : Rep W K env ρ H s) (Y : Rep W (Ki K env cl s.heap) cenv (compLoc0 scope.names ρ) H' s₁) : Rep W K env ρ H' s₁ := by
  obtain ⟨eok, _, fa, hcells, hloc, kof⟩ := i.envs ok cf hkd
  have keep : ∀ a ∈ faddrs env, a ∉ cl.map (·.2) → ∀ o, s.heap.get? a = some o → s₁.heap.get? a = some o := fun a ha hn o e => Y.hr.keep a o (.inr ⟨⟨ha, hn⟩, e⟩)
  have hLn : env.locals ∉ cl.map (·.2) := fun h => by
    obtain ⟨⟨y, c⟩, hm, e⟩ := List.mem_map.mp h
    exact (List.nodup_cons.mp ok.nd).1 (by rw [← e]; exact List.mem_map.mpr ⟨_, (i.mem y c hm).1, rfl⟩)
  refine ⟨⟨Y.hr.same, X.hr.base, fun b o q => Y.hr.keep b o (.inl q), Y.hr.objs, fun a g e hf o q => Y.hr.apart a g e hf o (.inl q), Y.hr.froz⟩, ⟨?_, X.fr.known, fun y c hc => ?_⟩, fun a ha => ⟨(X.fa a ha).1, ?_⟩⟩
  · obtain ⟨m, ⟨o, es, ep, z, r⟩, q⟩ := X.fr.loc
    exact ⟨m, ⟨o, es, ep, keep _ List.mem_cons_self hLn _ z, r⟩, q⟩
  · by_cases hcl : c ∈ cl.map (·.2)
    · obtain ⟨⟨y', c'⟩, hm, e⟩ := List.mem_map.mp hcl
      dsimp only at e
      subst e
      have nd := (List.nodup_cons.mp ok.nd).2
      rw [List.nodup_iff_pairwise_ne, List.pairwise_map] at nd
      have : y' = y := name_of_addr nd (i.mem y' c' hm).1 hc
      subst this
      obtain ⟨ov, ic, r⟩ := Y.fr.cell y' c' (by rw [hcells]; exact List.mem_append.mpr (.inr hm))
      refine ⟨ov, ic, fun g hy => r g ?_⟩
      unfold compLoc0
      rw [if_pos (i.mem y' c' hm).2]
      exact hy
    · obtain ⟨ov, ⟨o, z, d⟩, r⟩ := X.fr.cell y c hc
      exact ⟨ov, ⟨o, keep c (cell_mem hc) hcl o z, d⟩, r⟩
  · by_cases hcl : a ∈ cl.map (·.2)
    · exact (Y.fa a (by rw [fa, List.map_append]; exact List.mem_cons_of_mem _ (List.mem_append.mpr (.inr hcl)))).2
    · cases e : H' a with
      | none => rfl
      | some g =>
        exfalso
        obtain ⟨o, z⟩ := X.fr.there a ha
        cases hf : g.frozen with
        | false => exact Y.hr.apart a g e hf o (.inr ⟨⟨ha, hcl⟩, z⟩)
        | true => obtain ⟨o', z'⟩ := Y.hr.froz a g e hf; exact (X.fa a ha).1 o' (X.hr.base a o' z')

theorem ifs_sound {cenv : Env} {ρ' : Loc} {kd' : Kd} {Φ : Spec} {ifs : List Expr} {Q : Bool → GH → Prop}
    (ht : ∀ e, ifs = [e] → ∀ K H s Q, Rep W K cenv ρ' H s → gT Φ kd' e ρ' (gE Φ kd' e ρ') H Q → wpAny (model W.prog W.w) A (isTrue e cenv (eval e cenv)) (OutB W K cenv ρ' Q) NoE s)
    (X : Rep W K cenv ρ' H s) (h : gIfs Φ kd' ifs ρ' H Q) :
    wpAny (model W.prog W.w) A (forIn ifs true fun c r => if r = true then do let ok ← isTrue c cenv (eval c cenv); pure (ForInStep.yield ok) else pure (ForInStep.yield r)) (OutB W K cenv ρ' Q) NoE s := by
  cases ifs with
  | nil => rw [List.forIn_nil]; exact wpAny_pure ⟨H, X, h⟩
  | cons e r =>
    cases r with
    | nil =>
      rw [List.forIn_cons]
      simp only [if_true]
      refine wpAny_bind (wpAny_bind (wpAny_mono (ht e rfl K H s Q X h) (fun b s' hb => wpAny_pure ?_) fun _ _ e => e))
      dsimp only
      rw [List.forIn_nil]
      exact wpAny_pure hb
    | cons _ _ => exact h.elim

theorem lset_compLoc (names : List (Str × NameKind)) (ρ : Loc) (x : Str) (v w : GV) : lset (compLoc names ρ x v) x w = compLoc names ρ x w := by
  funext y
  unfold lset compLoc
  by_cases q : y = x <;> simp [q]
theorem compLoc_forget {names : List (Str × NameKind)} {ρ : Loc} {x : Str} {v : GV} (hx : names.lookup x ≠ some .free) : ∀ y g, compLoc0 names ρ y = some g → compLoc names ρ x v y = some g := by
  intro y g h
  unfold compLoc0 at h
  unfold compLoc
  split at h
  · rename_i hf
    have : y ≠ x := by rintro rfl; exact hx hf
    rw [if_neg this, if_pos hf]; exact h
  · cases h

-- the loop of a comprehension
theorem compLoop_sound {cenv : Env} {names : List (Str × NameKind)} {x : Str} {px : Pos} {elt iter : Expr} {ifs : List Expr} {scope : Scope} {pos : Pos} {a I D : Addr} {o : GO} {l : List GV} {m : Nat}
    {cond : GV → GH → (Bool → GH → Prop) → Prop} {el : GV → EM} {Q : List GV → GH → Prop} {R : Result → Shared → Prop}
    (ok : EnvOk cenv) (hx : cenv.kindOf x = some .local ∨ cenv.kindOf x = some .cell) (hxf : names.lookup x ≠ some .free) (rm : Room A m) (hl : itemsOf o = some l) (hlb : l.length ≤ bnd)
    (hcond : ∀ v K H s Q, Rep W K cenv (compLoc names ρ x v) H s → cond v H Q → wpAny (model W.prog W.w) A (forIn ifs true fun c r => if r = true then do let ok ← isTrue c cenv (eval c cenv); pure (ForInStep.yield ok) else pure (ForInStep.yield r)) (OutB W K cenv (compLoc names ρ x v) Q) NoE s)
    (hel : ∀ v K H s Q, Rep W K cenv (compLoc names ρ x v) H s → el v H Q → wpAny (model W.prog W.w) A (eval elt cenv) (OutF W K cenv (compLoc names ρ x v) Q) NoE s)
    (X : Rep W K cenv (compLoc0 names ρ) H s) (apI : Apart K cenv H I) (apD : Apart K cenv H D) (hID : I ≠ D) (it : ItAt s.heap I a o 0) (hD : s.heap.PlainList D #[]) (h : gCompL a o cond el l H [] Q)
    (hR : ∀ s' H' acc (vs : List Value), Rep W K cenv (compLoc0 names ρ) H' s' → Apart K cenv H' D → s'.heap.PlainList D vs.toArray → ers vs acc → Q acc H' → R (.ok .next) s') :
    codeAny (model W.prog W.w) A (.compLoop (.ListComp elt [⟨.Name x px, iter, ifs, 0⟩] scope pos) 0 (.ref I) (.ref D) cenv) R s := by
  refine codeAny_compLoop_tests (fun k s' => ∃ H' done rest acc, ∃ vs : List Value, l = done ++ rest ∧ k = rest.length ∧ Rep W K cenv (compLoc0 names ρ) H' s' ∧ Apart K cenv H' I ∧ Apart K cenv H' D ∧ ItAt s'.heap I a o done.length ∧ s'.heap.PlainList D vs.toArray ∧ ers vs acc ∧ acc.length ≤ done.length ∧ gCompL a o cond el rest H' acc Q)
    ?_ l.length ⟨H, [], l, [], [], rfl, rfl, X, apI, apD, it, hD, ers.nil, Nat.le_refl _, h⟩
  rintro k s' ⟨H', done, rest, acc, vs, e, rfl, X', apI', apD', it', hD', hv, hlen, h'⟩
  cases rest with
  | nil =>
    obtain ⟨ha, q⟩ := h'
    rw [List.append_nil] at e
    refine next_end rm.hh (X'.hr.objs a o ha) hl it' (by rw [e]) fun h₁ k₁ => ?_
    exact hR _ H' acc vs (X'.but (tk := s'.toks) apI' k₁) apD' (hD'.extBut k₁ (Ne.symm hID)) hv q
  | cons g rest =>
    obtain ⟨ha, hq⟩ := h'
    refine next_item (X'.hr.objs a o ha) hl it' (g := g) (by rw [e]; simp) fun v h₁ tk ev it₁ sb => ?_
    have X₁ := X'.but (tk := tk) apI' sb.extBut
    have hD₁ : h₁.PlainList D vs.toArray := hD'.extBut sb.extBut (Ne.symm hID)
    obtain ⟨ob, hob⟩ := it₁.there
    obtain ⟨nD, hobD⟩ := id hD₁
    dsimp only
    have Z₁ := (X₁.watch apI').watch (I := D) ⟨fun q r => by
      rcases r with r | ⟨r, _⟩
      · exact apD'.k q r
      · exact hID r.symm, apD'.f, apD'.h⟩
    refine wpAny_assign_Name (wpAny_mono (Z₁.store ok ev hx (Q := fun _ s₂ => Rep W (Kw (Kw K I h₁) D h₁) cenv (compLoc names ρ x g) H' s₂) fun s₂ X₂ => by rw [compLoc_eq] at X₂; exact X₂) (fun _ s₂ X₂ => ?_) fun _ _ e => notE e)
    refine wpAny_mono (hcond g _ _ s₂ _ X₂ hq) (fun b s₃ h₃ => ?_) fun _ _ e => notE e
    obtain ⟨H₃, X₃, q₃⟩ := h₃
    -- out of the two watches
    have out : ∀ {H₄ : GH} {s₄ : Shared}, Rep W (Kw (Kw K I h₁) D h₁) cenv (compLoc names ρ x g) H₄ s₄ → Rep W K cenv (compLoc0 names ρ) H₄ s₄ ∧ Apart K cenv H₄ I ∧ Apart K cenv H₄ D ∧ ItAt s₄.heap I a o (done.length + 1) ∧ s₄.heap.PlainList D vs.toArray := by
      intro H₄ s₄ Y
      obtain ⟨Y₁, ap₁, d₁⟩ := Y.unwatch (fun b o q => .inl (X'.hr.base b o q)) hobD (fun q r => by
        rcases r with r | ⟨r, _⟩
        · exact apD'.k q r
        · exact hID r.symm)
      obtain ⟨Y₂, ap₂, d₂⟩ := Y₁.unwatch X'.hr.base hob apI'.k
      refine ⟨Y₂.forget (compLoc_forget hxf), ap₂, ⟨apD'.k, ap₁.f, ap₁.h⟩, it₁.at fun ob' e => by rw [hob] at e; cases e; exact d₂, ⟨nD, d₁⟩⟩
    cases b with
    | false =>
      simp only [Bool.false_eq_true, if_false] at q₃ ⊢
      obtain ⟨Y, a1, a2, a3, a4⟩ := out X₃
      exact ⟨rest.length, Nat.lt_succ_self _, H₃, done ++ [g], rest, acc, vs, by rw [e]; simp, rfl, Y, a1, a2, by simpa using a3, a4, hv, by rw [List.length_append]; omega, q₃⟩
    | true =>
      simp only [if_true] at q₃ ⊢
      refine wpAny_mono (hel g _ _ s₃ _ X₃ q₃) (fun y s₄ h₄ => ?_) fun _ _ e => notE e
      obtain ⟨gy, H₄, ey, X₄, q₄⟩ := h₄
      obtain ⟨Y, a1, a2, a3, a4⟩ := out X₄
      have ld : done.length ≤ l.length := by rw [e, List.length_append]; omega
      have lv := hv.length
      have hb := bnd_le
      refine wpAny_list_append_plain a4 (fun h₅ l₅ sb₅ => ?_) (by simp only [List.size_toArray]; omega)
      refine ⟨rest.length, Nat.lt_succ_self _, H₄, done ++ [g], rest, acc ++ [gy], vs ++ [y], by rw [e]; simp, rfl, Y.but (tk := s₄.toks) a2 sb₅.extBut, a1, a2, ?_, by simpa using l₅, hv.append (ers.cons ey ers.nil), by simp only [List.length_append, List.length_cons, List.length_nil]; omega, q₄⟩
      rw [List.length_append]
      exact a3.at fun o' z => sb₅.extBut I o' hID z
end

-- G10
section
variable {W : Wd} {K : Kp} {H : GH} {s : Shared} {A : Around} {F : Frag} {n : Nat} {env : Env} {ρ : Loc}

theorem comp_sound {kd : Kd} {x : Str} {px : Pos} {elt iter : Expr} {ifs : List Expr} {scope : Scope} {pos : Pos} {Φ : Spec} {m : Nat} {Q : GV → GH → Prop}
    (ok : EnvOk env) (hkd : KdOk kd env) (cf : CompFacts kd scope x) (rm : Room A m) (hs : ∀ v, foldedSetIterable iter env v = pure v)
    (hiter : ∀ Q', gE Φ kd iter ρ H Q' → wpAny (model W.prog W.w) A (eval iter env) (OutF W K env ρ Q') NoE s)
    (hcond : ∀ cenv ρ' K H s Q, EnvOk cenv → KdOk (fun z => scope.names.lookup z) cenv → Rep W K cenv ρ' H s → gIfs Φ (fun z => scope.names.lookup z) ifs ρ' H Q →
      wpAny (model W.prog W.w) A (forIn ifs true fun c r => if r = true then do let ok ← isTrue c cenv (eval c cenv); pure (ForInStep.yield ok) else pure (ForInStep.yield r)) (OutB W K cenv ρ' Q) NoE s)
    (hel : ∀ cenv ρ' K H s Q, EnvOk cenv → KdOk (fun z => scope.names.lookup z) cenv → Rep W K cenv ρ' H s → gE Φ (fun z => scope.names.lookup z) elt ρ' H Q → wpAny (model W.prog W.w) A (eval elt cenv) (OutF W K cenv ρ' Q) NoE s)
    (h : gE Φ kd iter ρ H fun v H₁ => ∃ a o l, v = .ref a ∧ H₁ a = some o ∧ itemsOf o = some l ∧ l.length ≤ bnd ∧
      gCompL a o (fun y => gIfs Φ (fun z => scope.names.lookup z) ifs (compLoc scope.names ρ x y)) (fun y => gE Φ (fun z => scope.names.lookup z) elt (compLoc scope.names ρ x y)) l H₁ [] fun acc H₂ => gNew (.list acc) H₂ Q) :
    wpAny (model W.prog W.w) A (eval (.ListComp elt [⟨.Name x px, iter, ifs, 0⟩] scope pos) env) (OutF W K env ρ Q) NoE s := by
  have hfree : ∀ p ∈ scope.names, p.2 = .free → ∃ c, env.cells.lookup p.1 = some c := fun p hp e => by
    have := cf.free p hp e
    have hk : env.kindOf p.1 = some .cell ∨ env.kindOf p.1 = some .free := by
      rcases this with q | q
      · exact .inl (hkd _ _ q)
      · rcases hkd _ _ q with z | z
        · exact .inr z
        · exact .inl z
    exact ok.kc p.1 hk
  rw [eval_ListComp]
  refine wpAny_comprehension_free (use := none) rfl hs (closure_eq hfree) cf.kind (fun y hy e => by obtain ⟨y1, y2⟩ := y; exact lookup_of_mem cf.nd (by rw [← show y2 = NameKind.local from e]; exact hy)) (wpAny_mono (hiter _ h) (fun v s₁ h₁ => ?_) fun _ _ e => e)
  obtain ⟨g, H₁, eg, X₁, a, o, l, rfl, ha, hl, hlb, hq⟩ := h₁
  obtain rfl := er_ref eg
  refine iter_sound (X₁.hr.objs a o ha) hl hlb fun ob it hob => ?_
  -- the list that is filled, the block
  refine wpAny_newList (items := []) ?_ (by decide)
  refine newCompEnv ?_
  generalize hcl : clOf env scope.names [] = cl
  -- the heaps
  generalize hh2 : s₁.heap.push ob = h₂ at it ⊢
  generalize hh3 : h₂.push { cls := .type "list", data := .seq ([] : List Value).toArray } = h₃
  have sz2 : h₂.objs.size = s₁.heap.objs.size + 1 := by rw [← hh2, Heap.size_push]
  have sz3 : h₃.objs.size = s₁.heap.objs.size + 2 := by rw [← hh3, Heap.size_push, sz2]
  have k12 : ∀ b o, s₁.heap.get? b = some o → h₂.get? b = some o := fun b o e => hh2 ▸ Heap.get?_push_of_some _ e
  have k23 : ∀ b o, h₂.get? b = some o → h₃.get? b = some o := fun b o e => hh3 ▸ Heap.get?_push_of_some _ e
  have gD : h₃.get? h₂.objs.size = some { cls := .type "list", data := .seq ([] : List Value).toArray } := hh3 ▸ Heap.get?_push_size _ rfl
  have mem : ∀ y c, (y, c) ∈ cl → (y, c) ∈ env.cells ∧ scope.names.lookup y = some .free := fun y c hm => by
    rw [← hcl] at hm
    rcases clOf_mem hm with h | ⟨h1, h2⟩
    · cases h
    · obtain ⟨c', hc'⟩ := hfree (y, .free) h1 rfl
      dsimp only at hc'
      rw [hc'] at h2
      subst h2
      exact ⟨mem_of_lookup hc', lookup_of_mem cf.nd h1⟩
  have ltf : ∀ b ∈ faddrs env, b < h₃.objs.size := fun b hb => by
    obtain ⟨o', z⟩ := X₁.fr.there b hb
    exact Nat.lt_of_lt_of_le (Heap.lt_size z) (by omega)
  obtain ⟨own, hown, hpush, hown_⟩ : ∃ own, cellsFrom (h₃.objs.size + 1) scope.names cl = own ++ cl ∧
      (pushCells (h₃.push { cls := .type "dict", data := .dict #[] }) scope.names = own.foldl (fun h _ => h.push { cls := .type "cell", data := .cell none }) (h₃.push { cls := .type "dict", data := .dict #[] })) ∧
      ((own = [] ∧ scope.names.lookup x = some .local) ∨ (own = [(x, h₃.objs.size + 1)] ∧ scope.names.lookup x = some .cell)) := by
    rcases cf.var with hv | hv
    · have hnc : ∀ p ∈ scope.names, p.2 ≠ .cell := fun p hp e => by
        have e1 := cf.cell p hp e
        have e2 := lookup_of_mem cf.nd (n := p.1) (k := p.2) hp
        rw [e1, hv, e] at e2
        cases e2
      obtain ⟨c1, c2⟩ := cells_none (acc := cl) (k := h₃.objs.size + 1) (h := h₃.push { cls := .type "dict", data := .dict #[] }) hnc
      exact ⟨[], c1, c2, .inl ⟨rfl, hv⟩⟩
    · obtain ⟨c1, c2⟩ := cells_one (acc := cl) (k := h₃.objs.size + 1) (h := h₃.push { cls := .type "dict", data := .dict #[] }) cf.nd cf.cell hv
      exact ⟨[(x, h₃.objs.size + 1)], c1, c2, .inr ⟨rfl, hv⟩⟩
  rw [hown]
  have hin : Inner kd env scope x cl h₃.objs.size { newEnv scope h₃.objs.size env.globals (own ++ cl) env.qual none .none (some env) builtinsNs with scope := relabel scope env } own :=
    ⟨rfl, mem, fun y hy => by rw [← hcl]; exact clOf_has (.inl (mem_of_lookup hy)), by rw [← hcl]; exact clOf_nodup cf.nd List.nodup_nil (fun n hn => by cases hn), hown_, ltf⟩
  obtain ⟨eok, ekd, fa, hcells, hloc, kof⟩ := hin.envs ok cf hkd
  generalize hcenv : ({ newEnv scope h₃.objs.size env.globals (own ++ cl) env.qual none .none (some env) builtinsNs with scope := relabel scope env } : Env) = cenv at hin eok ekd fa hcells hloc kof
  have hcenv' : ({ newEnv scope h₃.objs.size env.globals (own ++ cl) env.qual none .none (some env) builtinsNs with scope := relabel scope env } : Env) = cenv := hcenv
  rw [hpush]
  generalize hh4 : own.foldl (fun (h : Heap) _ => h.push { cls := .type "cell", data := .cell none }) (h₃.push { cls := .type "dict", data := .dict #[] }) = h₄
  have k34 : ∀ b o, h₃.get? b = some o → h₄.get? b = some o := fun b o e => by
    rw [← hh4]
    rcases hown_ with ⟨rfl, _⟩ | ⟨rfl, _⟩
    · exact Heap.get?_push_of_some _ e
    · exact Heap.get?_push_of_some _ (Heap.get?_push_of_some _ e)
  have ns4 : h₄.Ns h₃.objs.size fun _ => none := by
    rw [← hh4]
    rcases hown_ with ⟨rfl, _⟩ | ⟨rfl, _⟩
    · exact Heap.Ns.new ..
    · exact (Heap.Ns.new ..).push _
  have cell4 : ∀ y c, (y, c) ∈ own → h₄.IsCell c none := fun y c hm => by
    rw [← hh4]
    rcases hown_ with ⟨rfl, _⟩ | ⟨rfl, _⟩
    · cases hm
    · simp only [List.mem_singleton, Prod.mk.injEq] at hm
      rw [hm.2]
      refine ⟨{ cls := .type "cell", data := .cell none }, ?_, rfl⟩
      have := Heap.get?_push_size (h₃.push { cls := .type "dict", data := .dict #[] }) (o := { cls := .type "cell", data := .cell none }) rfl
      rw [Heap.size_push] at this
      exact this
  have X₄ := hin.rep ok cf hkd (s₁ := { s₁ with heap := h₄ }) X₁ (fun b o e => k34 b o (k23 b o (k12 b o e))) ⟨h₄, s₁.toks, rfl⟩ (by rw [sz3]; omega) ns4 cell4
  have apart : ∀ b, s₁.heap.objs.size ≤ b → b < h₃.objs.size → Apart (Ki K env cl s₁.heap) cenv H₁ b := fun b h1 h2 => by
    obtain ⟨f1, f2⟩ := above_free X₁.hr h1
    refine ⟨fun o q => ?_, fun hm => ?_, f1⟩
    · rcases q with q | ⟨_, q⟩
      · exact f2 o q
      · exact absurd (Heap.lt_size q) (Nat.not_lt.mpr h1)
    · rw [fa, List.map_append] at hm
      have h1' : s₁.heap.objs.size ≤ (b : Nat) := h1
      have h2' : (b : Nat) < h₃.objs.size := h2
      rcases List.mem_cons.mp hm with e | hm
      · have e' : (b : Nat) = h₃.objs.size := e
        omega
      · rcases List.mem_append.mp hm with hm | hm
        · rcases hown_ with ⟨e, _⟩ | ⟨e, _⟩
          · rw [e] at hm; cases hm
          · rw [e] at hm
            simp only [List.map_cons, List.map_nil, List.mem_singleton] at hm
            have : (b : Nat) = h₃.objs.size + 1 := hm
            omega
        · obtain ⟨⟨y, c⟩, hm', e⟩ := List.mem_map.mp hm
          dsimp only at e
          subst e
          obtain ⟨o', z⟩ := X₁.fr.there c (cell_mem (mem y c hm').1)
          exact absurd (Heap.lt_size z) (Nat.not_lt.mpr h1)
  have it4 : ItAt h₄ s₁.heap.objs.size a o 0 := it.at fun ob' e => k34 _ _ (k23 _ _ e)
  have hxk : cenv.kindOf x = some .local ∨ cenv.kindOf x = some .cell := by
    rw [kof, relabel_lookup]
    rcases cf.var with hv | hv
    · rw [hv]; exact .inl rfl
    · rw [hv]; exact .inr rfl
  have hxf : scope.names.lookup x ≠ some .free := by
    rcases cf.var with hv | hv <;> (rw [hv]; intro e; cases e)
  have loop : codeAny (model W.prog W.w) A (.compLoop (.ListComp elt [⟨.Name x px, iter, ifs, 0⟩] scope pos) 0 (.ref s₁.heap.objs.size) (.ref h₂.objs.size) cenv)
      (compPost (model W.prog W.w) A NoE none (OutF W K env ρ Q) (.ref h₂.objs.size) h₃.objs.size) { s₁ with heap := h₄ } := by
    refine compLoop_sound (names := scope.names) (ρ := ρ) eok hxk hxf rm hl hlb (fun v K' H' s' Q' X' h' => hcond cenv _ K' H' s' Q' eok ekd X' h') (fun v K' H' s' Q' X' h' => hel cenv _ K' H' s' Q' eok ekd X' h')
      X₄ (apart s₁.heap.objs.size (Nat.le_refl _) (by omega)) (apart h₂.objs.size (by omega) (by omega)) (show s₁.heap.objs.size ≠ h₂.objs.size from by intro e; have e' : (s₁.heap.objs.size : Nat) = h₂.objs.size := e; omega) it4 ⟨0, k34 _ _ gD⟩ hq fun s' H' acc vs X' apD' hD' hv hq' => ?_
    -- the end
    obtain ⟨m', hm', _⟩ := X'.fr.loc
    rw [hloc] at hm'
    refine ⟨m', hm', fun h' sb => ?_⟩
    have Cin : h₃.objs.size ∈ faddrs cenv := by rw [fa]; exact List.mem_cons_self
    have hDC : h₂.objs.size ≠ h₃.objs.size := by intro e; have e' : (h₂.objs.size : Nat) = h₃.objs.size := e; omega
    have hr' : HeapRep W (Ki K env cl s₁.heap) H' { s' with heap := h' } := by
      refine ⟨(by obtain ⟨h, t, e⟩ := X'.hr.same; exact ⟨h', t, by rw [e]⟩), X'.hr.base, fun b o q => ?_, fun b g e => ?_, X'.hr.apart, X'.hr.froz⟩
      · have : b ≠ h₃.objs.size := by rintro rfl; exact (X'.fa _ Cin).1 o q
        exact (sb.2 b this).trans (X'.hr.keep b o q)
      · have : b ≠ h₃.objs.size := by rintro rfl; have := (X'.fa _ Cin).2; rw [e] at this; cases this
        exact (X'.hr.objs b g e).at fun o z => (sb.2 b this).trans z
    -- the inner frame's own dict may have turned: the outer frame is asked of the heap ahead of it
    have Y := hin.back ok cf hkd X₁ X'
    have Y' : Rep W K env ρ H' { s' with heap := h' } := by
      refine Rep.but (tk := s'.toks) Y (I := h₃.objs.size) ⟨fun o q => (X'.fa _ Cin).1 o (.inl q), fun hm => ?_, (X'.fa _ Cin).2⟩ sb.extBut
      exact absurd (ltf _ hm) (Nat.lt_irrefl _)
    refine ⟨.ref h₂.objs.size, _, rfl, ⟨Y'.hr.new (tk := s'.toks) (fun b o e => e) apD'.h (fun o q => apD'.k o (.inl q)) (g := .list acc) ⟨vs, hD'.extBut sb.extBut hDC, hv⟩ rfl, Y'.fr, fun b hb => ⟨(Y'.fa b hb).1, ?_⟩⟩, hq' _ apD'.h⟩
    unfold hset
    rw [if_neg]
    · exact (Y'.fa b hb).2
    · rintro rfl
      obtain ⟨o', z⟩ := X₁.fr.there _ hb
      have : (h₂.objs.size : Nat) < s₁.heap.objs.size := Heap.lt_size z
      omega
  exact codeAny_compStart_list loop (iter_self it4 loop)
end

-- G11
-- dict(..) of a list of pairs
noncomputable def DictCall (W : Wd) : Prop := ∀ (A : Around) (K : Kp) (H : GH) (s : Shared) (a : Addr) (l : List GV) (ps : List (Str × GV)) (n : Nat) (Q : GV → GH → Prop), Room A n → HeapRep W K H s → H a = some (.list l) → pairsOf H l = some ps → ps.length ≤ bnd → (ps.map (·.1)).Nodup →
  gNew (.dict ps) H Q → wpAny (model W.prog W.w) A (call (.type "dict") [.ref a]) (Out W K Q) NoE s

structure Ctx (W : Wd) (F : Frag) (Φ : Spec) (n : Nat) : Prop where
  O : W.Ok
  C : ClsOk W F
  G : GlobOk W
  P : PhiOk W F Φ n
  D : DictCall W

section
variable {W : Wd} {K : Kp} {H : GH} {s : Shared} {A : Around} {F : Frag} {n : Nat} {env : Env} {ρ : Loc} {Φ : Spec}

theorem slice_sound {value slice : Expr} {a : GV} {u vl vu : Value} {lo hi : Option GV} {Q : GV → GH → Prop} (x : HeapRep W K H s) (ea : er u = some a)
    (el : match lo with | some g => er vl = some g | none => vl = .none) (eu : match hi with | some g => er vu = some g | none => vu = .none) (h : gSlice a lo hi H Q)
    (hs : ∀ o i, subscripted slice false o i = operate [i, o] (getItem o i)) :
    wpAny (model W.prog W.w) A (subscriptTail value slice u (.ref s.heap.objs.size)) (Out W K Q) NoE { s with heap := s.heap.push { cls := .type "slice", data := .fields #[vl, vu, .none] } } := by
  have grown : HeapRep W K H { s with heap := s.heap.push { cls := .type "slice", data := .fields #[vl, vu, .none] } } := x.grow (tk := s.toks) fun b o e => Heap.get?_push_of_some _ e
  unfold gSlice at h
  split at h
  · rename_i b lo
    obtain rfl := er_ref ea
    dsimp only at el eu
    obtain ⟨t, rfl⟩ := er_int el
    subst eu
    obtain ⟨l, h1, h2, h3, h4, h5⟩ := h
    obtain ⟨vs, p, r⟩ := x.objs _ _ h1
    have ln := r.length
    have hb := bnd_le
    have pl := p.isList.push { cls := .type "slice", data := .fields #[.int lo t, .none, .none] }
    refine tail_any (Heap.IsList.typeIs (s := { s with heap := _ }) pl) list_getitem_lookup (wpAny_getItem_list_slice pl (Heap.IsSliceOf.new ..) (.int lo t) .none .none (by simp) ?_ (by simp only [List.size_toArray]; omega)) (hs _ _)
    obtain ⟨k, rfl⟩ := Int.eq_ofNat_of_zero_le h3
    rw [slicePick_from _ k (by simp only [List.size_toArray]; omega)]
    have e1 : (vs.toArray.toList.drop k) = vs.drop k := by simp
    rw [e1]
    exact out_list grown (r.drop k) (by simpa using h5)
  · rename_i b hi
    obtain rfl := er_ref ea
    dsimp only at el eu
    obtain ⟨t, rfl⟩ := er_int eu
    subst el
    obtain ⟨l, h1, h2, h3, h4, h5⟩ := h
    obtain ⟨vs, p, r⟩ := x.objs _ _ h1
    have ln := r.length
    have hb := bnd_le
    have pl := p.isList.push { cls := .type "slice", data := .fields #[.none, .int hi t, .none] }
    refine tail_any (Heap.IsList.typeIs (s := { s with heap := _ }) pl) list_getitem_lookup (wpAny_getItem_list_slice pl (Heap.IsSliceOf.new ..) .none (.int hi t) .none (by simp) ?_ (by simp only [List.size_toArray]; omega)) (hs _ _)
    obtain ⟨k, rfl⟩ := Int.eq_ofNat_of_zero_le h3
    rw [slicePick_upto _ k (by simp only [List.size_toArray]; omega)]
    have e1 : (vs.toArray.toList.take k) = vs.take k := by simp
    rw [e1]
    exact out_list grown (r.take k) (by simpa using h5)
  · exact h.elim

theorem name_sound {x : Str} {p : Pos} {g : GV} {Q : GV → GH → Prop} (ok : EnvOk env) (X : Rep W K env ρ H s) (hd : (x == ("__debug__" : Str)) = false) (hcd : (x == ("__classdict__" : Str)) = false) (hg : ρ x = some g) (q : Q g H) : wpAny (model W.prog W.w) A (eval (.Name x p) env) (OutF W K env ρ Q) NoE s := by
  refine wpAny_Name ?_ hd
  obtain ⟨⟨m, hn, hm⟩, kn, ce⟩ := X.fr
  rcases kn x g hg with hk | hk | hk
  · obtain ⟨v, h1, h2⟩ := hm x g hg hk
    exact wpAny_loadName_local ok.kind hk hn h1 ⟨g, H, h2, X, q⟩
  · obtain ⟨c, hc⟩ := ok.kc x (.inl hk)
    obtain ⟨ov, ic, hv⟩ := ce x c (mem_of_lookup hc)
    obtain ⟨v, rfl, ev⟩ := hv g hg
    exact wpAny_loadName_cell ok.kind hk hc ic ⟨g, H, ev, X, q⟩
  · obtain ⟨c, hc⟩ := ok.kc x (.inr hk)
    obtain ⟨ov, ic, hv⟩ := ce x c (mem_of_lookup hc)
    obtain ⟨v, rfl, ev⟩ := hv g hg
    exact wpAny_loadName_free ok.kind hk hc ic ⟨g, H, ev, X, q⟩ hcd

theorem glob_sound {x : Str} {p : Pos} {v : Value} {Q : Value → Shared → Prop} {E : Value → Shared → Prop} (ok : EnvOk env) (hk : env.kindOf x = some .globalImplicit) (hd : (x == ("__debug__" : Str)) = false) (k : ∀ b o, W.h₀.get? b = some o → s.heap.get? b = some o)
    (hv : ∃ mg, W.h₀.Ns mainGlobals mg ∧ mg x = some v) (h : Q v s) : wpAny (model W.prog W.w) A (eval (.Name x p) env) Q E s := by
  obtain ⟨mg, hg, hm⟩ := hv
  exact Calls.Name_function_global ok.kind hk (Calls.loadGlobal_global (mg := mg) (by rw [ok.glob]; exact hg.keeps k) hm h) hd
theorem builtin_sound {x : Str} {p : Pos} {v : Value} {Q : Value → Shared → Prop} {E : Value → Shared → Prop} (G : GlobOk W) (ok : EnvOk env) (hk : env.kindOf x = some .globalImplicit) (hd : (x == ("__debug__" : Str)) = false) (k : ∀ b o, W.h₀.get? b = some o → s.heap.get? b = some o)
    (hv : (x, v) ∈ bVals) (h : Q v s) : wpAny (model W.prog W.w) A (eval (.Name x p) env) Q E s := by
  obtain ⟨mg, mb, hg, hb, hp⟩ := G.g
  obtain ⟨h1, h2⟩ := hp _ hv
  exact Calls.Name_function_global ok.kind hk (Calls.loadGlobal_builtin (mg := mg) (mb := mb) (by rw [ok.glob]; exact hg.keeps k) h1 (by rw [ok.blt]; exact hb.keeps k) h2 h) hd

-- a method's call, up to the method
theorem methodCall_any {o : Expr} {nm : Str} {ap pos : Pos} {es : List Expr} {Q : Value → Shared → Prop} {E : Value → Shared → Prop} (hb : okBase o = true) (hst : noStar es = true) (hlen : es.length < 30) (hln : (ap.endLine == pos.line) = true)
    (h : wpAny (model W.prog W.w) A (eval o env) (fun ov s₁ => ∀ pl, wpAny (model W.prog W.w) A (getMethod ov nm pl) (fun fx s₂ => wpAny (model W.prog W.w) A (callWith pos fx.1 fx.2 (backTo pos (starEach es env)) []) Q E s₂) E s₁) E s) :
    wpAny (model W.prog W.w) A (eval (.Call (.Attribute o nm ap) es [] pos) env) Q E s := by
  have hbase : attributeBase o nm env (eval o env) = eval o env := by cases o <;> first | rfl | cases hb
  rw [arm_eval_Call, hbase]
  obtain ⟨ts, e1, e2⟩ := args_eq (es := es) (env := env) (pos := pos) hst
  have few : methodCallForm (es.length + ([] : List Keyword).length) (backTo pos (starEach es env)) (backToKw pos (keywordEach [] env)) = true := by
    rw [e1]
    unfold methodCallForm
    rw [Bool.and_eq_true, Bool.and_eq_true]
    refine ⟨⟨by rw [List.all_map]; simp, rfl⟩, ?_⟩
    simp only [List.length_nil]
    exact decide_eq_true (by show es.length + 0 + _ < 30; simpa [backToKw, keywordEach] using hlen)
  refine wpAny_bind (wpAny_mono h (fun ov s₁ h₁ => wpAny_bind (wpAny_standAt ?_)) fun _ _ e => e)
  unfold methodCall
  rw [few]
  refine wpAny_bind (wpAny_holding ?_)
  unfold calleeOf
  simp only [if_true]
  refine wpAny_mono (h₁ _) (fun fx s₂ h₂ => ?_) fun _ _ e => e
  obtain ⟨f, first⟩ := fx
  dsimp only
  refine wpAny_bind ?_
  unfold methodCallPos
  simp only [hln, Bool.not_true, Bool.false_or, if_true]
  exact wpAny_pure h₂
end

-- G12
section
variable {W : Wd} {F : Frag} {n : Nat} {Φ : Spec}

theorem outB_of {W : Wd} {K : Kp} {env : Env} {ρ : Loc} {H : GH} {s : Shared} {Q : Bool → GH → Prop} {b : Bool} {t : Nat} (X : Rep W K env ρ H s) (q : Q b H) : OutB W K env ρ Q b { s with toks := t } := ⟨H, X.grow (h' := s.heap) (tk := t) fun _ _ e => e, q⟩

theorem bool_ {W : Wd} {A : Around} {E : Value → Shared → Prop} {s : Shared} {env : Env} {op : BoolOp} {e₁ e₂ : Expr} {rest : List Expr} {pos : Pos} {Q : Value → Shared → Prop}
    (h : wpAny (model W.prog W.w) A (eval e₁ env) (fun v s₁ => wpAny (model W.prog W.w) A (truthy v) (fun c s₂ => match op, c with
      | .And, false => Q v s₂
      | .Or, true => Q v s₂
      | _, _ => wpAny (model W.prog W.w) A (boolOp pos op (evalEach (e₂ :: rest) env)) Q E s₂) E s₁) E s) :
    wpAny (model W.prog W.w) A (boolOp pos op (evalEach (e₁ :: e₂ :: rest) env)) Q E s := by
  show wpAny _ A (boolOp pos op (eval e₁ env :: eval e₂ env :: evalEach rest env)) Q E s
  unfold boolOp
  refine wpAny_bind (wpAny_mono h (fun v s₁ h₁ => wpAny_bind (wpAny_standAt (wpAny_bind (wpAny_holding (wpAny_mono h₁ (fun c s₂ h₂ => ?_) fun _ _ e => e))))) fun _ _ e => e)
  cases op <;> cases c <;> first | exact wpAny_pure h₂ | exact h₂


-- what is shown of an expression, of a list of them, of a test
noncomputable def SE (W : Wd) (Φ : Spec) (n : Nat) (e : Expr) : Prop := ∀ {kd : Kd} {env : Env} {ρ : Loc} {A : Around} {K : Kp} {H : GH} {s : Shared} {Q : GV → GH → Prop}, EnvOk env → KdOk kd env → Room A n → Rep W K env ρ H s → gE Φ kd e ρ H Q →
    wpAny (model W.prog W.w) A (eval e env) (OutF W K env ρ Q) NoE s
noncomputable def ST (W : Wd) (Φ : Spec) (n : Nat) (e : Expr) : Prop := ∀ {kd : Kd} {env : Env} {ρ : Loc} {A : Around} {K : Kp} {H : GH} {s : Shared} {Q : Bool → GH → Prop}, EnvOk env → KdOk kd env → Room A n → Rep W K env ρ H s → gT Φ kd e ρ (gE Φ kd e ρ) H Q →
    wpAny (model W.prog W.w) A (isTrue e env (eval e env)) (OutB W K env ρ Q) NoE s
noncomputable def SEs (W : Wd) (Φ : Spec) (n : Nat) (es : List Expr) : Prop := ∀ {kd : Kd} {env : Env} {ρ : Loc} {A : Around} {K : Kp} {H : GH} {s : Shared} {Q : List GV → GH → Prop}, EnvOk env → KdOk kd env → Room A n → Rep W K env ρ H s → gEs Φ kd es ρ H Q →
    wpAny (model W.prog W.w) A (spliced ((es.map fun e => eval e env).map fun t => (false, t))) (OutL W K env ρ Q) NoE s
noncomputable def SBo (W : Wd) (Φ : Spec) (n : Nat) (es : List Expr) : Prop := ∀ {op : BoolOp} {p : Pos} {kd : Kd} {env : Env} {ρ : Loc} {A : Around} {K : Kp} {H : GH} {s : Shared} {Q : GV → GH → Prop}, EnvOk env → KdOk kd env → Room A n → Rep W K env ρ H s → gBool Φ kd op es ρ H Q →
    wpAny (model W.prog W.w) A (boolOp p op (evalEach es env)) (OutF W K env ρ Q) NoE s
noncomputable def SAl (W : Wd) (Φ : Spec) (n : Nat) (es : List Expr) : Prop := ∀ {op : BoolOp} {kd : Kd} {env : Env} {ρ : Loc} {A : Around} {K : Kp} {H : GH} {s : Shared} {Q : Bool → GH → Prop}, EnvOk env → KdOk kd env → Room A n → Rep W K env ρ H s → gAll Φ kd op es ρ H Q →
    wpAny (model W.prog W.w) A (allTrue op es env) (OutB W K env ρ Q) NoE s

structure Below (W : Wd) (Φ : Spec) (n k : Nat) : Prop where
  e : ∀ x : Expr, sizeOf x < k → SE W Φ n x
  t : ∀ x : Expr, sizeOf x < k → ST W Φ n x
  l : ∀ x : List Expr, sizeOf x < k → SEs W Φ n x
  b : ∀ x : List Expr, sizeOf x < k → SBo W Φ n x
  a : ∀ x : List Expr, sizeOf x < k → SAl W Φ n x

theorem step_bool {es : List Expr} (B : Below W Φ n (sizeOf es)) : SBo W Φ n es := by
  intro op p kd env ρ A K H s Q ok hk rm X h
  cases es with
  | nil => exact (show False from h).elim
  | cons x r =>
    cases r with
    | nil => exact B.e x (by simp <;> omega) ok hk rm X h
    | cons y r =>
      cases op with
      | And =>
        rw [gBool_and] at h
        refine bool_ (wpAny_mono (B.e x (by simp <;> omega) ok hk rm X h) (fun u s₁ ⟨a, H₁, ea, X₁, h₁⟩ => wpAny_mono (truth_sound X₁.hr ea h₁) (fun c s₂ ⟨t, e, q⟩ => ?_) fun _ _ e => e) fun _ _ e => e)
        subst e
        have X₂ : Rep W K env ρ H₁ { s₁ with toks := t } := X₁.grow (h' := s₁.heap) fun _ _ e => e
        cases c with
        | false => exact ⟨a, H₁, ea, X₂, q⟩
        | true => exact B.b (y :: r) (by simp <;> omega) ok hk rm X₂ q
      | Or =>
        rw [gBool_or] at h
        refine bool_ (wpAny_mono (B.e x (by simp <;> omega) ok hk rm X h) (fun u s₁ ⟨a, H₁, ea, X₁, h₁⟩ => wpAny_mono (truth_sound X₁.hr ea h₁) (fun c s₂ ⟨t, e, q⟩ => ?_) fun _ _ e => e) fun _ _ e => e)
        subst e
        have X₂ : Rep W K env ρ H₁ { s₁ with toks := t } := X₁.grow (h' := s₁.heap) fun _ _ e => e
        cases c with
        | true => exact ⟨a, H₁, ea, X₂, q⟩
        | false => exact B.b (y :: r) (by simp <;> omega) ok hk rm X₂ q

theorem step_list {es : List Expr} (B : Below W Φ n (sizeOf es)) : SEs W Φ n es := by
  intro kd env ρ A K H s Q ok hk rm X h
  cases es with
  | nil => exact Calls.spliced_nil ⟨[], H, ers.nil, X, h⟩
  | cons x r =>
    have hx : noStar1 x = true := by cases x <;> first | rfl | exact (show False from h).elim
    rw [es_cons hx] at h
    refine Calls.spliced_cons (wpAny_mono (B.e x (by simp <;> omega) ok hk rm X h) (fun u s₁ ⟨a, H₁, ea, X₁, h₁⟩ => wpAny_mono (B.l r (by simp <;> omega) ok hk rm X₁ h₁) (fun vs s₂ ⟨gs, H₂, e₂, X₂, h₂⟩ => ?_) fun _ _ e => e) fun _ _ e => e)
    exact ⟨a :: gs, H₂, ers.cons ea e₂, X₂, h₂⟩

theorem step_all {es : List Expr} (B : Below W Φ n (sizeOf es)) : SAl W Φ n es := by
  intro op kd env ρ A K H s Q ok hk rm X h
  cases es with
  | nil => exact wpAny_pure ⟨H, X, h⟩
  | cons x r =>
    rw [arm_allTrue_cons]
    cases op with
    | And =>
      rw [gAll_and] at h
      refine wpAny_bind (wpAny_mono (B.t x (by simp <;> omega) ok hk rm X h) (fun b s₁ ⟨H₁, X₁, h₁⟩ => ?_) fun _ _ e => e)
      cases b with
      | false => exact wpAny_pure ⟨H₁, X₁, h₁⟩
      | true => exact B.a r (by simp <;> omega) ok hk rm X₁ h₁
    | Or =>
      rw [gAll_or] at h
      refine wpAny_bind (wpAny_mono (B.t x (by simp <;> omega) ok hk rm X h) (fun b s₁ ⟨H₁, X₁, h₁⟩ => ?_) fun _ _ e => e)
      cases b with
      | true => exact wpAny_pure ⟨H₁, X₁, h₁⟩
      | false => exact B.a r (by simp <;> omega) ok hk rm X₁ h₁

theorem compare_sound (C : Ctx W F Φ n) {l r : Expr} {op : CmpOp} {kd : Kd} {env : Env} {ρ : Loc} {A : Around} {K : Kp} {H : GH} {s : Shared} {P : Bool → GH → Prop} (hl : SE W Φ n l) (hr : SE W Φ n r) (ok : EnvOk env) (hk : KdOk kd env) (rm : Room A n) (X : Rep W K env ρ H s)
    (h : gE Φ kd l ρ H fun a H₁ => gE Φ kd r ρ H₁ fun b H₂ => gCmp op a b H₂ fun c => P c H₂) :
    wpAny (model W.prog W.w) A (eval l env) (fun u s₁ => wpAny (model W.prog W.w) A (eval r env) (fun v s₂ => wpAny (model W.prog W.w) A (compareOp op u v) (fun x s₃ => ∃ c H₂, x = .bool c ∧ Rep W K env ρ H₂ s₃ ∧ P c H₂) NoE s₂) NoE s₁) NoE s := by
  refine wpAny_mono (hl ok hk rm X h) (fun u s₁ ⟨a, H₁, ea, X₁, h₁⟩ => wpAny_mono (hr ok hk rm X₁ h₁) (fun v s₂ ⟨b, H₂, eb, X₂, h₂⟩ => ?_) fun _ _ e => e) fun _ _ e => e
  have hu : A.units < cLine := by have := rm.units; omega
  refine wpAny_mono (cmp_sound C.O X₂.hr hu ea eb h₂) (fun x s₃ ⟨c, t, e1, e2, q⟩ => ?_) fun _ _ e => e
  subst e2
  exact ⟨c, H₂, e1, X₂.grow (h' := s₂.heap) fun _ _ e => e, q⟩

theorem step_test (C : Ctx W F Φ n) {e : Expr} (B : Below W Φ n (sizeOf e)) (he : SE W Φ n e) : ST W Φ n e := by
  intro kd env ρ A K H s Q ok hk rm X h
  by_cases hp : plainT e = true
  · rw [t_plain hp] at h
    rw [is_plain hp]
    refine wpAny_bind (wpAny_mono (he ok hk rm X h) (fun u s₁ ⟨a, H₁, ea, X₁, h₁⟩ => wpAny_bind (wpAny_standAt (wpAny_holding (wpAny_mono (truth_sound X₁.hr ea h₁) (fun c s₂ ⟨t, e, q⟩ => ?_) fun _ _ e => e)))) fun _ _ e => e)
    subst e
    exact outB_of X₁ q
  · rcases not_plain hp with ⟨x, p, rfl⟩ | ⟨op, es, p, rfl⟩ | ⟨a, b, c, p, rfl⟩ | ⟨l, ops, rs, p, rfl⟩
    · rw [arm_isTrue_UnaryOp]
      exact wpAny_bind (wpAny_mono (B.t x (by rw [Expr.UnaryOp.sizeOf_spec]; exact p3_2) ok hk rm X h) (fun b s₁ ⟨H₁, X₁, h₁⟩ => wpAny_pure ⟨H₁, X₁, h₁⟩) fun _ _ e => e)
    · rw [arm_isTrue_BoolOp]
      exact B.a es (by rw [Expr.BoolOp.sizeOf_spec]; exact p3_2) ok hk rm X h
    · exact (show False from h).elim
    · obtain ⟨op, r, rfl, rfl⟩ := cmp_one h
      rw [t_cmp] at h
      have hm : behindInMarks op r = false := by cases r <;> first | rfl | cases h.1
      refine wpAny_isTrue_Compare1 (wpAny_mono (compare_sound C (B.e l (by rw [Expr.Compare.sizeOf_spec]; exact p4_1)) (B.e r (by simp <;> omega)) ok hk rm X h.2) (fun u s₁ h₁ => wpAny_mono h₁ (fun v s₂ h₂ => wpAny_mono h₂ (fun x s₃ ⟨c, H₂, e1, X₃, q⟩ => ?_) fun _ _ e => e) fun _ _ e => e) fun _ _ e => e) hm
      subst e1
      exact wpAny_truthy_bool ⟨H₂, X₃, q⟩
end

-- G13
section
variable {W : Wd} {F : Frag} {n : Nat} {Φ : Spec}

theorem gCall_len {Φ : Spec} {gs : List GV} {H : GH} {Q : GV → GH → Prop} (q : gCall Φ "len" gs H Q) : ∃ a : Addr, gs = [.ref a] ∧ ((∃ l, (H a = some (.list l) ∨ H a = some (.flist l)) ∧ l.length ≤ bnd ∧ Q (.int l.length) H) ∨ (∃ kvs, H a = some (.dict kvs) ∧ kvs.length ≤ bnd ∧ Q (.int kvs.length) H)) := by
  cases gs with
  | nil => exact (show False from q).elim
  | cons g r =>
    cases r with
    | cons _ _ => exact (show False by cases g <;> exact q).elim
    | nil =>
      cases g with
      | ref a => exact ⟨a, rfl, q⟩
      | _ => exact (show False from q).elim
theorem gCall_min {Φ : Spec} {gs : List GV} {H : GH} {Q : GV → GH → Prop} (q : gCall Φ "min" gs H Q) : ∃ a b : Int, gs = [.int a, .int b] ∧ Q (.int (if b < a then b else a)) H := by
  cases gs with
  | nil => exact (show False from q).elim
  | cons g r =>
    cases g with
    | int a =>
      cases r with
      | nil => exact (show False from q).elim
      | cons g r =>
        cases g with
        | int b =>
          cases r with
          | nil => exact ⟨a, b, rfl, q⟩
          | cons _ _ => exact (show False from q).elim
        | _ => exact (show False from q).elim
    | _ => exact (show False from q).elim
theorem gCall_max {Φ : Spec} {gs : List GV} {H : GH} {Q : GV → GH → Prop} (q : gCall Φ "max" gs H Q) : ∃ a b : Int, gs = [.int a, .int b] ∧ Q (.int (if b > a then b else a)) H := by
  cases gs with
  | nil => exact (show False from q).elim
  | cons g r =>
    cases g with
    | int a =>
      cases r with
      | nil => exact (show False from q).elim
      | cons g r =>
        cases g with
        | int b =>
          cases r with
          | nil => exact ⟨a, b, rfl, q⟩
          | cons _ _ => exact (show False from q).elim
        | _ => exact (show False from q).elim
    | _ => exact (show False from q).elim
theorem gCall_int {Φ : Spec} {gs : List GV} {H : GH} {Q : GV → GH → Prop} (q : gCall Φ "int" gs H Q) : (∃ a : Int, gs = [.int a] ∧ Q (.int a) H) ∨ (∃ b : Bool, gs = [.bool b] ∧ Q (.int (if b then 1 else 0)) H) := by
  cases gs with
  | nil => exact (show False from q).elim
  | cons g r =>
    cases r with
    | cons _ _ => exact (show False by cases g <;> exact q).elim
    | nil =>
      cases g with
      | int a => exact .inl ⟨a, rfl, q⟩
      | bool b => exact .inr ⟨b, rfl, q⟩
      | _ => exact (show False from q).elim
theorem gCall_range {Φ : Spec} {gs : List GV} {H : GH} {Q : GV → GH → Prop} (q : gCall Φ "range" gs H Q) : ∃ a : Int, gs = [.int a] ∧ gNew (.range a) H Q := by
  cases gs with
  | nil => exact (show False from q).elim
  | cons g r =>
    cases r with
    | cons _ _ => exact (show False by cases g <;> exact q).elim
    | nil =>
      cases g with
      | int a => exact ⟨a, rfl, q.2.2⟩
      | _ => exact (show False from q).elim
theorem gCall_sorted {Φ : Spec} {gs : List GV} {H : GH} {Q : GV → GH → Prop} (q : gCall Φ "sorted" gs H Q) : ∃ a : Addr, gs = [.ref a] ∧ (∃ l is, H a = some (.list l) ∧ ints? l = some is ∧ is.length < 64 ∧ ∀ js : List Int, js.Perm is → js.Pairwise (· ≤ ·) → gNew (.list (js.map .int)) H Q) := by
  cases gs with
  | nil => exact (show False from q).elim
  | cons g r =>
    cases r with
    | cons _ _ => exact (show False by cases g <;> exact q).elim
    | nil =>
      cases g with
      | ref a => exact ⟨a, rfl, q⟩
      | _ => exact (show False from q).elim
theorem gCall_dict {Φ : Spec} {gs : List GV} {H : GH} {Q : GV → GH → Prop} (q : gCall Φ "dict" gs H Q) : ∃ a : Addr, gs = [.ref a] ∧ (∃ l ps, H a = some (.list l) ∧ pairsOf H l = some ps ∧ ps.length ≤ bnd ∧ (ps.map (·.1)).Nodup ∧ gNew (.dict ps) H Q) := by
  cases gs with
  | nil => exact (show False from q).elim
  | cons g r =>
    cases r with
    | cons _ _ => exact (show False by cases g <;> exact q).elim
    | nil =>
      cases g with
      | ref a => exact ⟨a, rfl, q⟩
      | _ => exact (show False from q).elim

-- the call of a name, its arguments shown
theorem callName_sound (C : Ctx W F Φ n) {f : Str} {p pos : Pos} {es : List Expr} {kd : Kd} {env : Env} {ρ : Loc} {A : Around} {K : Kp} {H : GH} {s : Shared} {Q : GV → GH → Prop} (hes : SEs W Φ n es) (ok : EnvOk env) (hk : KdOk kd env) (rm : Room A n) (X : Rep W K env ρ H s)
    (hd : (f == ("__debug__" : Str)) = false) (hg : kd f = some .globalImplicit ∧ noStar es = true ∧ (f ∈ ownNames ∨ f ∈ bNames)) (h : gEs Φ kd es ρ H fun vs H₁ => gCall Φ f vs H₁ Q) :
    wpAny (model W.prog W.w) A (eval (.Call (.Name f p) es [] pos) env) (OutF W K env ρ Q) NoE s := by
  obtain ⟨h1, h2, h3⟩ := hg
  have hkf : env.kindOf f = some .globalImplicit := hk f _ h1
  obtain ⟨ts, e1, e2⟩ := args_eq (es := es) (env := env) (pos := pos) h2
  -- a callee v, shown for all arguments
  have go : ∀ v, KeepsKeeper W v → (∀ (Q' : Value → Shared → Prop), Q' v s → wpAny (model W.prog W.w) A (eval (.Name f p) env) Q' NoE s) →
      (∀ (vs : List Value) (gs : List GV) (H₁ : GH) (s₁ : Shared), ers vs gs → Rep W K env ρ H₁ s₁ → gCall Φ f gs H₁ Q → wpAny (model W.prog W.w) A (call v vs) (OutF W K env ρ Q) NoE s₁) →
      wpAny (model W.prog W.w) A (eval (.Call (.Name f p) es [] pos) env) (OutF W K env ρ Q) NoE s := by
    intro v kk hv hc
    refine Call_ (hv _ ?_)
    rw [e1]
    refine callWith_any kk ?_
    rw [e2]
    refine wpAny_mono (hes ok hk rm X h) (fun vs s₁ ⟨gs, H₁, eg, X₁, q⟩ => ?_) fun _ _ e => e
    exact ⟨X₁.hr.base_keep, hc vs gs H₁ s₁ eg X₁ q⟩
  have bi : ∀ v, (f, v) ∈ bVals → ∀ (Q' : Value → Shared → Prop), Q' v s → wpAny (model W.prog W.w) A (eval (.Name f p) env) Q' NoE s := fun v hv Q' q => builtin_sound C.G ok hkf hd X.hr.base_keep hv q
  by_cases c1 : f = "len"
  · subst c1
    refine go (.builtin "len") (kk_builtin _) (bi _ (by simp [bVals])) fun vs gs H₁ s₁ eg X₁ q => ?_
    obtain ⟨a, rfl, q⟩ := gCall_len q
    obtain ⟨v, vs', rfl, ev, er'⟩ := eg.inv_cons
    rw [er'.inv_nil]
    obtain rfl := er_ref ev
    exact X₁.lift (len_sound (v := .none) (gs := []) (vs := []) C.O X₁.heapRep q)
  by_cases c2 : f = "min"
  · subst c2
    refine go (.builtin "min") (kk_builtin _) (bi _ (by simp [bVals])) fun vs gs H₁ s₁ eg X₁ q => ?_
    obtain ⟨a, b, rfl, q⟩ := gCall_min q
    obtain ⟨v, vs', rfl, ev, er'⟩ := eg.inv_cons
    obtain ⟨v', vs'', rfl, ev', er''⟩ := er'.inv_cons
    rw [er''.inv_nil]
    obtain ⟨t, rfl⟩ := er_int ev; obtain ⟨t', rfl⟩ := er_int ev'
    exact X₁.lift (min_sound rm.hh X₁.heapRep q)
  by_cases c3 : f = "max"
  · subst c3
    refine go (.builtin "max") (kk_builtin _) (bi _ (by simp [bVals])) fun vs gs H₁ s₁ eg X₁ q => ?_
    obtain ⟨a, b, rfl, q⟩ := gCall_max q
    obtain ⟨v, vs', rfl, ev, er'⟩ := eg.inv_cons
    obtain ⟨v', vs'', rfl, ev', er''⟩ := er'.inv_cons
    rw [er''.inv_nil]
    obtain ⟨t, rfl⟩ := er_int ev; obtain ⟨t', rfl⟩ := er_int ev'
    exact X₁.lift (max_sound rm.hh X₁.heapRep q)
  by_cases c4 : f = "int"
  · subst c4
    refine go (.type "int") (kk_type _) (bi _ (by simp [bVals])) fun vs gs H₁ s₁ eg X₁ q => ?_
    rcases gCall_int q with ⟨a, rfl, q⟩ | ⟨a, rfl, q⟩
    · obtain ⟨v, vs', rfl, ev, er'⟩ := eg.inv_cons
      rw [er'.inv_nil]
      obtain ⟨t, rfl⟩ := er_int ev
      exact X₁.lift (call_int_int (out_now X₁.heapRep rfl q))
    · obtain ⟨v, vs', rfl, ev, er'⟩ := eg.inv_cons
      rw [er'.inv_nil]
      obtain rfl := er_bool ev
      exact X₁.lift (call_int_bool (out_here X₁.heapRep rfl q _))
  by_cases c5 : f = "range"
  · subst c5
    refine go (.type "range") (kk_type _) (bi _ (by simp [bVals])) fun vs gs H₁ s₁ eg X₁ q => ?_
    obtain ⟨a, rfl, q'⟩ := gCall_range q
    obtain ⟨v, vs', rfl, ev, er'⟩ := eg.inv_cons
    rw [er'.inv_nil]
    obtain ⟨t, rfl⟩ := er_int ev
    exact X₁.lift (range_sound X₁.heapRep q')
  by_cases c6 : f = "sorted"
  · subst c6
    refine go (.builtin "sorted") (kk_builtin _) (bi _ (by simp [bVals])) fun vs gs H₁ s₁ eg X₁ q => ?_
    obtain ⟨a, rfl, l, is, q1, q2, q3, q4⟩ := gCall_sorted q
    obtain ⟨v, vs', rfl, ev, er'⟩ := eg.inv_cons
    rw [er'.inv_nil]
    obtain rfl := er_ref ev
    exact X₁.lift (sorted_sound X₁.heapRep q1 q2 q3 q4)
  by_cases c7 : f = "dict"
  · subst c7
    refine go (.type "dict") (kk_type _) (bi _ (by simp [bVals])) fun vs gs H₁ s₁ eg X₁ q => ?_
    obtain ⟨a, rfl, l, ps, q1, q2, q3, q4, q5⟩ := gCall_dict q
    obtain ⟨v, vs', rfl, ev, er'⟩ := eg.inv_cons
    rw [er'.inv_nil]
    obtain rfl := er_ref ev
    exact X₁.lift (C.D A _ H₁ s₁ _ l ps n Q rm X₁.heapRep q1 q2 q3 q4 q5)
  · have hf : f ∈ ownNames := by
      rcases h3 with h3 | h3
      · exact h3
      · exfalso
        simp only [bNames, List.mem_cons, List.not_mem_nil, or_false] at h3
        rcases h3 with h | h | h | h | h | h | h
        · exact c1 h
        · exact c2 h
        · exact c3 h
        · exact c4 h
        · exact c5 h
        · exact c6 h
        · exact c7 h
    obtain ⟨v, hv, kk, hc⟩ := C.P.fn f hf
    refine go v kk (fun Q' q => glob_sound ok hkf hd X.hr.base_keep hv q) fun vs gs H₁ s₁ eg X₁ q => ?_
    unfold gCall at q
    rw [if_neg c1, if_neg c2, if_neg c3, if_neg c4, if_neg c5, if_neg c6, if_neg c7] at q
    exact X₁.lift (hc A _ H₁ s₁ vs gs Q rm X₁.heapRep eg q)
end

-- G14
section
variable {W : Wd} {F : Frag} {n : Nat} {Φ : Spec}

theorem F_type_dict_get : typeOf (.builtin "dict.get") = pure (.type "method_descriptor") := PySem.F.type_dict_get

-- the arguments, then the builtin
theorem after_args (C : Ctx W F Φ n) {es : List Expr} {pos : Pos} {kd : Kd} {env : Env} {ρ : Loc} {A : Around} {K : Kp} {H : GH} {s : Shared} {Q : GV → GH → Prop} {R : List GV → GH → Prop} {v : Value} {first : List Value} (hes : SEs W Φ n es) (ok : EnvOk env) (hk : KdOk kd env) (rm : Room A n) (X : Rep W K env ρ H s)
    (h2 : noStar es = true) (kk : KeepsKeeper W v) (h : gEs Φ kd es ρ H R)
    (hc : ∀ (vs : List Value) (gs : List GV) (H₁ : GH) (s₁ : Shared), ers vs gs → Rep W K env ρ H₁ s₁ → R gs H₁ → wpAny (model W.prog W.w) A (call v (first ++ vs)) (OutF W K env ρ Q) NoE s₁) :
    wpAny (model W.prog W.w) A (callWith pos v first (backTo pos (starEach es env)) []) (OutF W K env ρ Q) NoE s := by
  obtain ⟨ts, e1, e2⟩ := args_eq (es := es) (env := env) (pos := pos) h2
  rw [e1]
  refine callWith_any kk ?_
  rw [e2]
  refine wpAny_mono (hes ok hk rm X h) (fun vs s₁ ⟨gs, H₁, eg, X₁, q⟩ => ?_) fun _ _ e => e
  exact ⟨X₁.hr.base_keep, hc vs gs H₁ s₁ eg X₁ q⟩

theorem listMeth_sound (C : Ctx W F Φ n) {nm : Str} {a : Addr} {l0 : List GV} {es : List Expr} {pos : Pos} {kd : Kd} {env : Env} {ρ : Loc} {A : Around} {K : Kp} {H : GH} {s : Shared} {Q : GV → GH → Prop} (hes : SEs W Φ n es) (ok : EnvOk env) (hk : KdOk kd env) (rm : Room A n) (X : Rep W K env ρ H s)
    (h2 : noStar es = true) (ha : H a = some (.list l0)) (hn : nm = "append" ∨ nm = "pop") (h : gEs Φ kd es ρ H fun vs H₂ => gListMeth nm a vs H₂ Q) (pl : Sem Bool) :
    wpAny (model W.prog W.w) A (getMethod (.ref a) nm pl) (fun fx s₂ => wpAny (model W.prog W.w) A (callWith pos fx.1 fx.2 (backTo pos (starEach es env)) []) (OutF W K env ρ Q) NoE s₂) NoE s := by
  rcases hn with rfl | rfl
  · refine getm_list X.hr ha PySem.F.slot_list_append PySem.F.type_list_append ?_
    refine after_args C hes ok hk rm X h2 (kk_builtin _) h fun vs gs H₁ s₁ eg X₁ q => ?_
    unfold gListMeth at q
    obtain ⟨l, q1, q2, q3⟩ := q
    rw [if_pos rfl] at q3
    split at q3
    · obtain ⟨v, vs', rfl, ev, er'⟩ := eg.inv_cons
      rw [er'.inv_nil]
      exact X₁.lift (append_sound X₁.heapRep q1 q2 ev q3)
    · exact q3.elim
  · refine getm_list X.hr ha PySem.F.slot_list_pop PySem.F.type_list_pop ?_
    refine after_args C hes ok hk rm X h2 (kk_builtin _) h fun vs gs H₁ s₁ eg X₁ q => ?_
    unfold gListMeth at q
    obtain ⟨l, q1, q2, q3⟩ := q
    rw [if_neg (by decide), if_pos rfl] at q3
    split at q3
    · rw [eg.inv_nil]
      obtain ⟨l', v, q4, q5⟩ := q3
      exact X₁.lift (pop_last_sound X₁.heapRep q1 q2 q4 q5)
    · obtain ⟨v, vs', rfl, ev, er'⟩ := eg.inv_cons
      rw [er'.inv_nil]
      obtain ⟨t, rfl⟩ := er_int ev
      obtain ⟨v, q4, q5, q6⟩ := q3
      exact X₁.lift (pop_at_sound X₁.heapRep q1 q2 q4 q5 q6)
    · exact q3.elim

theorem dictMeth_sound (C : Ctx W F Φ n) {nm : Str} {a : Addr} {l0 : List (Str × GV)} {es : List Expr} {pos : Pos} {kd : Kd} {env : Env} {ρ : Loc} {A : Around} {K : Kp} {H : GH} {s : Shared} {Q : GV → GH → Prop} (hes : SEs W Φ n es) (ok : EnvOk env) (hk : KdOk kd env) (rm : Room A n) (X : Rep W K env ρ H s)
    (h2 : noStar es = true) (ha : H a = some (.dict l0)) (hn : nm = "get") (h : gEs Φ kd es ρ H fun vs H₂ => gDictMeth nm a vs H₂ Q) (pl : Sem Bool) :
    wpAny (model W.prog W.w) A (getMethod (.ref a) nm pl) (fun fx s₂ => wpAny (model W.prog W.w) A (callWith pos fx.1 fx.2 (backTo pos (starEach es env)) []) (OutF W K env ρ Q) NoE s₂) NoE s := by
  subst hn
  refine getm_dict X.hr ha PySem.F.slot_dict_get PySem.F.type_dict_get ?_
  refine after_args C hes ok hk rm X h2 (kk_builtin _) h fun vs gs H₁ s₁ eg X₁ q => ?_
  unfold gDictMeth at q
  obtain ⟨kvs, q1, q3⟩ := q
  rw [if_pos rfl] at q3
  split at q3
  · obtain ⟨v, vs', rfl, ev, er'⟩ := eg.inv_cons
    obtain ⟨v', vs'', rfl, ev', er''⟩ := er'.inv_cons
    rw [er''.inv_nil]
    obtain ⟨t, rfl⟩ := er_str ev
    exact X₁.lift (get_sound C.O X₁.heapRep q1 ev' q3)
  · exact q3.elim

theorem instMeth_sound (C : Ctx W F Φ n) {nm : Str} {a dx : Addr} {kvs : List (Str × GV)} {es : List Expr} {pos : Pos} {kd : Kd} {env : Env} {ρ : Loc} {A : Around} {K : Kp} {H : GH} {s : Shared} {Q : GV → GH → Prop} (hes : SEs W Φ n es) (ok : EnvOk env) (hk : KdOk kd env) (rm : Room A n) (X : Rep W K env ρ H s)
    (h2 : noStar es = true) (ha : H a = some (.inst dx)) (hdx : H dx = some (.attrs kvs)) (hl : kvs.lookup nm = none) (hn : nm ∈ methNames) (h : gEs Φ kd es ρ H fun vs H₂ => Φ true nm (.ref a :: vs) H₂ Q) (pl : Sem Bool) :
    wpAny (model W.prog W.w) A (getMethod (.ref a) nm pl) (fun fx s₂ => wpAny (model W.prog W.w) A (callWith pos fx.1 fx.2 (backTo pos (starEach es env)) []) (OutF W K env ρ Q) NoE s₂) NoE s := by
  refine method_sound C.C X.hr hn ha hdx hl fun f hf => ?_
  obtain ⟨kk, hc⟩ := C.P.me nm hn _ hf
  refine after_args C hes ok hk rm X h2 kk h fun vs gs H₁ s₁ eg X₁ q => ?_
  exact X₁.lift (hc A _ H₁ s₁ (.ref a :: vs) (.ref a :: gs) Q rm X₁.heapRep (ers.cons rfl eg) q)

theorem Slice_eval {env : Env} {l u st : Option Expr} {p : Pos} : eval (.Slice l u st p) env = (do
    let l ← valueOrNone (evalOpt l env)
    let u ← holding [l] (valueOrNone (evalOpt u env))
    let s ← holding [l, u] (valueOrNone (evalOpt st env))
    newFields "slice" [l, u, s]) := rfl

theorem Rep.lift2 {env : Env} {ρ : Loc} {A : Around} {K : Kp} {H : GH} {s s' : Shared} {t : Sem Value} {Q : GV → GH → Prop} (x : Rep W K env ρ H s) (h : wpAny (model W.prog W.w) A t (Out W (Kf K env s.heap) Q) NoE s') :
    wpAny (model W.prog W.w) A t (OutF W K env ρ Q) NoE s' :=
  wpAny_mono h (fun v s' ⟨g, H', e, y, q⟩ => ⟨g, H', e, x.back y, q⟩) fun _ _ e => e

theorem elems_sound {es : List Expr} {pos : Pos} {kd : Kd} {env : Env} {ρ : Loc} {A : Around} {K : Kp} {H : GH} {s : Shared} {R : List GV → GH → Prop} (hes : SEs W Φ n es) (ok : EnvOk env) (hk : KdOk kd env) (rm : Room A n) (X : Rep W K env ρ H s)
    (h2 : noStar es = true) (h : gEs Φ kd es ρ H R) : wpAny (model W.prog W.w) A (spliced (backTo pos (starEach es env))) (OutL W K env ρ R) NoE s := by
  obtain ⟨ts, e1, e2⟩ := args_eq (es := es) (env := env) (pos := pos) h2
  rw [e1, e2]
  exact hes ok hk rm X h

theorem step_expr (C : Ctx W F Φ n) {e : Expr} (B : Below W Φ n (sizeOf e)) : SE W Φ n e := by
  intro kd env ρ A K H s Q ok hk rm X h
  cases e with
  | Constant c k p =>
    cases c with
    | int i => exact wpAny_Constant_int ⟨_, H, rfl, X.grow (h' := s.heap) fun _ _ e => e, h⟩
    | str i => exact Calls.Constant_str ⟨_, H, rfl, X.grow (h' := s.heap) fun _ _ e => e, h⟩
    | bool b => exact wpAny_pure ⟨_, H, rfl, X, h⟩
    | _ => exact (show False from h).elim
  | Name id p =>
    obtain ⟨⟨h1, h2⟩, g, h3, h4⟩ := h
    exact name_sound ok X h1 h2 h3 h4
  | BinOp l op r p =>
    refine wpAny_BinOp (wpAny_mono (B.e l (by rw [Expr.BinOp.sizeOf_spec]; exact p4_1) ok hk rm X h) (fun u s₁ ⟨a, H₁, ea, X₁, h₁⟩ => wpAny_mono (B.e r (by rw [Expr.BinOp.sizeOf_spec]; exact p4_3) ok hk rm X₁ h₁) (fun v s₂ ⟨b, H₂, eb, X₂, h₂⟩ => ?_) fun _ _ e => e) fun _ _ e => e)
    exact X₂.lift (bin_sound X₂.heapRep ea eb h₂)
  | UnaryOp op x p =>
    refine UnaryOp_ (wpAny_mono (B.e x (by rw [Expr.UnaryOp.sizeOf_spec]; exact p3_2) ok hk rm X h) (fun u s₁ ⟨a, H₁, ea, X₁, h₁⟩ => ?_) fun _ _ e => e)
    exact X₁.lift (un_sound X₁.heapRep ea h₁)
  | BoolOp op es p => exact B.b es (by rw [Expr.BoolOp.sizeOf_spec]; exact p3_2) ok hk rm X h
  | Compare l ops rs p =>
    obtain ⟨op, r, rfl, rfl⟩ := cmp_one' h
    rw [e_cmp] at h
    have hm : behindInMarks op r = false := by cases r <;> first | rfl | cases h.1
    refine wpAny_Compare1 (wpAny_mono (compare_sound C (B.e l (by rw [Expr.Compare.sizeOf_spec]; exact p4_1)) (B.e r (by simp <;> omega)) ok hk rm X h.2) (fun u s₁ h₁ => wpAny_mono h₁ (fun v s₂ h₂ => wpAny_mono h₂ (fun x s₃ ⟨c, H₂, e1, X₃, q⟩ => ?_) fun _ _ e => e) fun _ _ e => e) fun _ _ e => e) hm
    subst e1
    exact ⟨_, H₂, rfl, X₃, q⟩
  | List es p =>
    rw [e_list] at h
    refine List_ (wpAny_mono (elems_sound (B.l es (by rw [Expr.List.sizeOf_spec]; exact p2_1)) ok hk rm X h.1 h.2) (fun vs s₁ ⟨gs, H₁, eg, X₁, q1, q2⟩ => ?_) fun _ _ e => e)
    have ln := eg.length
    have hb := bnd_le
    exact X₁.lift (wpAny_newList (out_list X₁.heapRep eg q2) (by omega))
  | Tuple es k p =>
    rw [e_tup] at h
    refine Tuple_ (wpAny_mono (elems_sound (B.l es (by rw [Expr.Tuple.sizeOf_spec]; exact p3_1)) ok hk rm X h.1 h.2) (fun vs s₁ ⟨gs, H₁, eg, X₁, q1, q2⟩ => ?_) fun _ _ e => e)
    have ln := eg.length
    have hb := bnd_le
    exact X₁.lift (wpAny_newTuple (out_tup X₁.heapRep eg q2) (by omega))
  | Dict ks vs p =>
    cases ks with
    | cons _ _ => exact (show False from h).elim
    | nil =>
      cases vs with
      | cons _ _ => exact (show False from h).elim
      | nil =>
        rw [e_dict] at h
        rw [eval_Dict_empty]
        refine wpAny_bind (wpAny_standAt (X.lift (wpAny_newObj_type ?_)))
        exact ⟨_, _, rfl, X.heapRep.new (tk := s.toks) (fun b o e => Heap.get?_push_of_some _ e) X.heapRep.fresh (fun o => X.heapRep.freshK) (g := .dict []) ⟨[], Heap.DictOf.new s.heap, rfl, rfl⟩ rfl, h _ X.heapRep.fresh⟩
  | Attribute o nm p =>
    rw [e_attr] at h
    obtain ⟨h1, h⟩ := h
    have he : eval (.Attribute o nm p) env = (do
      let ov ← eval o env
      standAt p.atName
      let r ← holding [ov] (getAttr ov nm true)
      letTemporaryGo o ov r
      pure r) := by cases o <;> first | rfl | cases h1
    refine Attribute_any_ (wpAny_mono (B.e o (by rw [Expr.Attribute.sizeOf_spec]; exact p3_1) ok hk rm X h) (fun u s₁ ⟨a, H₁, ea, X₁, h₁⟩ => ?_) fun _ _ e => e) he
    exact X₁.lift (getattr_sound C.C X₁.heapRep ea h₁)
  | Subscript v i p =>
    have bv : SE W Φ n v := B.e v (by rw [Expr.Subscript.sizeOf_spec]; exact p3_1)
    by_cases hs : notSlice i = true
    · rw [e_item hs] at h
      exact Subscript_ (wpAny_mono (bv ok hk rm X h) (fun u s₁ ⟨a, H₁, ea, X₁, h₁⟩ => wpAny_mono (B.e i (by rw [Expr.Subscript.sizeOf_spec]; exact p3_2) ok hk rm X₁ h₁) (fun w s₂ ⟨b, H₂, eb, X₂, h₂⟩ => X₂.lift (item_sound C.O X₂.heapRep ea eb h₂ (subs_of hs _ _))) fun _ _ e => e) fun _ _ e => e)
    · obtain ⟨l, u, st, sp, rfl⟩ := slice_of hs
      cases st with
      | some _ => exact (show False by cases l <;> cases u <;> exact h).elim
      | none =>
        cases l with
        | none =>
          cases u with
          | none => exact (show False from h).elim
          | some hi =>
            rw [e_upto] at h
            refine Subscript_ (wpAny_mono (bv ok hk rm X h) (fun u s₁ ⟨a, H₁, ea, X₁, h₁⟩ => ?_) fun _ _ e => e)
            rw [Slice_eval]
            refine wpAny_bind (wpAny_pure (wpAny_bind (wpAny_holding ?_)))
            refine wpAny_mono (B.e hi (by simp <;> omega) ok hk rm X₁ h₁) (fun w s₂ ⟨b, H₂, eb, X₂, h₂⟩ => ?_) fun _ _ e => e
            refine wpAny_bind (wpAny_holding (wpAny_pure ?_))
            refine wpAny_newObj_type ?_
            exact X₂.lift2 (slice_sound X₂.heapRep ea rfl eb h₂ fun _ _ => rfl)
        | some lo =>
          cases u with
          | some _ => exact (show False from h).elim
          | none =>
            rw [e_from] at h
            refine Subscript_ (wpAny_mono (bv ok hk rm X h) (fun u s₁ ⟨a, H₁, ea, X₁, h₁⟩ => ?_) fun _ _ e => e)
            rw [Slice_eval]
            refine wpAny_bind (wpAny_mono (B.e lo (by simp <;> omega) ok hk rm X₁ h₁) (fun w s₂ ⟨b, H₂, eb, X₂, h₂⟩ => ?_) fun _ _ e => e)
            refine wpAny_bind (wpAny_holding (wpAny_pure (wpAny_bind (wpAny_holding (wpAny_pure ?_)))))
            refine wpAny_newObj_type ?_
            exact X₂.lift2 (slice_sound X₂.heapRep ea eb rfl h₂ fun _ _ => rfl)
  | Call f es ks pos =>
    cases ks with
    | cons _ _ => exact (show False by cases f <;> exact h).elim
    | nil =>
      have hes : SEs W Φ n es := B.l es (by rw [Expr.Call.sizeOf_spec]; exact p4_2)
      by_cases c0 : callee f = 0
      · obtain ⟨f, p, rfl⟩ := name_of c0
        rw [e_call] at h
        exact callName_sound C hes ok hk rm X h.1 h.2.1 h.2.2
      by_cases c1 : callee f = 1
      · obtain ⟨o, nm, ap, rfl⟩ := attr_of c1
        rw [gE_meth] at h
        obtain ⟨⟨h1, h2, h3, h4⟩, h⟩ := h
        refine methodCall_any h1 h2 h3 h4 (wpAny_mono (B.e o (by simp <;> omega) ok hk rm X h) (fun u s₁ ⟨a, H₁, ea, X₁, h₁⟩ => ?_) fun _ _ e => e)
        intro pl
        cases a with
        | ref a =>
          obtain rfl := er_ref ea
          simp only [gMeth] at h₁
          split at h₁
          · rename_i l0 hl0
            exact listMeth_sound C hes ok hk rm X₁ h2 hl0 h₁.1 h₁.2 pl
          · rename_i l0 hl0
            exact dictMeth_sound C hes ok hk rm X₁ h2 hl0 h₁.1 h₁.2 pl
          · rename_i dx hdx
            obtain ⟨q1, ⟨kvs, q2, q3⟩, q4⟩ := h₁
            exact instMeth_sound C hes ok hk rm X₁ h2 hdx q2 q3 q1 q4 pl
          · exact h₁.elim
        | _ => exact (show False from h₁).elim
      · exact (other_call c0 c1 h).elim
  | ListComp elt gens scope p =>
    cases gens with
    | nil => exact (show False from h).elim
    | cons g gs =>
      obtain ⟨tg, iter, ifs, as⟩ := g
      obtain ⟨x, px, rfl⟩ := comp_name h
      cases as with
      | negSucc m => exact (show False by cases gs <;> exact h).elim
      | ofNat m =>
        cases m with
        | succ m => exact (show False by cases gs <;> exact h).elim
        | zero =>
          cases gs with
          | cons _ _ => exact (show False from h).elim
          | nil =>
            have h : (compOk kd scope x = true ∧ isSet iter = false) ∧ gE Φ kd iter ρ H fun v H₁ => ∃ a o l, v = .ref a ∧ H₁ a = some o ∧ itemsOf o = some l ∧ l.length ≤ bnd ∧
              gCompL a o (fun y => gIfs Φ (fun z => scope.names.lookup z) ifs (compLoc scope.names ρ x y)) (fun y => gE Φ (fun z => scope.names.lookup z) elt (compLoc scope.names ρ x y)) l H₁ [] fun acc H₂ => gNew (.list acc) H₂ Q := h
            refine comp_sound ok hk (compOk_spec h.1.1) rm (fun v => by cases iter <;> first | rfl | cases h.1.2) (fun Q' hq => B.e iter (by simp <;> omega) ok hk rm X hq) ?_ ?_ h.2
            · intro cenv ρ' K' H' s' Q' eok ekd X' h'
              refine ifs_sound (fun e he K₂ H₂ s₂ Q₂ X₂ h₂ => ?_) X' h'
              subst he
              exact B.t e (by simp <;> omega) eok ekd rm X₂ h₂
            · intro cenv ρ' K' H' s' Q' eok ekd X' h'
              exact B.e elt (by rw [Expr.ListComp.sizeOf_spec]; exact p4_1) eok ekd rm X' h'
  | _ => exact (show False from h).elim
end

-- G15
section
variable {W : Wd} {F : Frag} {n : Nat} {Φ : Spec}

theorem below_all (C : Ctx W F Φ n) : ∀ k, Below W Φ n k := by
  intro k
  induction k with
  | zero => exact ⟨fun x h => absurd h (Nat.not_lt_zero _), fun x h => absurd h (Nat.not_lt_zero _), fun x h => absurd h (Nat.not_lt_zero _), fun x h => absurd h (Nat.not_lt_zero _), fun x h => absurd h (Nat.not_lt_zero _)⟩
  | succ k ih =>
    have dn : ∀ m, m < k + 1 → Below W Φ n m := fun m hm => ⟨fun x h => ih.e x (by omega), fun x h => ih.t x (by omega), fun x h => ih.l x (by omega), fun x h => ih.b x (by omega), fun x h => ih.a x (by omega)⟩
    exact ⟨fun x h => step_expr C (dn _ h), fun x h => step_test C (dn _ h) (step_expr C (dn _ h)), fun x h => step_list (dn _ h), fun x h => step_bool (dn _ h), fun x h => step_all (dn _ h)⟩
theorem se (C : Ctx W F Φ n) (e : Expr) : SE W Φ n e := (below_all C _).e e (Nat.lt_succ_self _)
theorem st (C : Ctx W F Φ n) (e : Expr) : ST W Φ n e := (below_all C _).t e (Nat.lt_succ_self _)

theorem filterMap_lt {α β : Type} {f : α → Option β} : ∀ {l : List α} {a : α}, a ∈ l → f a = none → (l.filterMap f).length < l.length
  | x :: r, a, h, hf => by
    rw [List.filterMap_cons]
    rcases List.mem_cons.mp h with rfl | h
    · rw [hf]; exact Nat.lt_succ_of_le (List.length_filterMap_le _ _)
    · cases f x with
      | none => exact Nat.lt_succ_of_lt (filterMap_lt h hf)
      | some y => exact Nat.succ_lt_succ (filterMap_lt h hf)

theorem noSwap {env : Env} {t v : Expr} {kd : Kd} (hk : KdOk kd env) (h : tupleOk kd t v) : swappedStores [t] v env = pure none := by
  have key : ∀ ts vs : List Expr, (∃ x p, Expr.Name x p ∈ ts ∧ kd x = some .cell) → ∀ k1 p1 k2 p2, swappedStores [.Tuple ts k1 p1] (.Tuple vs k2 p2) env = pure none := by
    rintro ts vs ⟨x, p, hm, hx⟩ k1 p1 k2 p2
    have hc : env.kindOf x = some .cell := hk x _ hx
    unfold swappedStores
    simp only []
    split
    · rfl
    · split
      · rfl
      · split
        · rfl
        · rename_i hn
          refine absurd ?_ hn
          rw [Bool.or_eq_true]; left
          exact bne_iff_ne.mpr (Nat.ne_of_lt (filterMap_lt hm (by simp [hc])))
  cases t with
  | Tuple ts k1 p1 =>
    cases v with
    | Tuple vs k2 p2 => exact key ts vs h k1 p1 k2 p2
    | _ => rfl
  | List ts p1 => exact (show False by cases v <;> exact h).elim
  | Starred e p1 => exact (show False by cases v <;> exact h).elim
  | _ => rfl

theorem assign_eq {env : Env} {t v : Expr} {pos : Pos} (h1 : swapsWithSole [t] v pos.line env = pure false) (h2 : swappedStores [t] v env = pure none) (h3 : ∀ e p, t ≠ .Starred e p) :
    exec (.Assign [t] v pos) env = (do standAt pos; let x ← eval v env; assign t env x; pure .next) := by
  have h4 : assignEach [t] env = [(false, assign t env)] := by cases t <;> first | rfl | exact absurd rfl (h3 _ _)
  rw [arm_exec_Assign, h1, h2, h4]
  rfl

theorem sole_false {env : Env} {t v : Expr} {l : Nat} (h : isComp v = false ∨ notName t = true) : swapsWithSole [t] v l env = pure false := by
  rcases h with h | h
  · cases v <;> first | rfl | cases h
  · cases v <;> first | rfl | (cases t <;> first | rfl | exact absurd h Bool.false_ne_true)

theorem names_shape {kd : Kd} {env : Env} : ∀ (ts : List Expr) (gs : List GV) {ρ : Loc} {Q : Loc → Prop}, gAsgNames kd ts gs ρ Q →
    (assignEach ts env).length = gs.length ∧ (assignEach ts env).findIdx? (·.1) = none := by
  intro ts
  induction ts with
  | nil =>
    intro gs ρ Q h
    cases gs with
    | nil => exact ⟨rfl, rfl⟩
    | cons _ _ => exact (show False from h).elim
  | cons t ts ih =>
    intro gs ρ Q h
    cases gs with
    | nil => exact (show False by cases t <;> exact h).elim
    | cons g gs =>
      cases t with
      | Name x p =>
        obtain ⟨hkx, h⟩ := h
        obtain ⟨e1, e2⟩ := ih gs h
        refine ⟨congrArg Nat.succ e1, ?_⟩
        show List.findIdx? _ ((false, assign (.Name x p) env) :: assignEach ts env) = none
        rw [List.findIdx?_cons, e2]; rfl
      | _ => exact (show False from h).elim

-- names, one after the other
theorem names_sound {kd : Kd} {env : Env} {A : Around} {K : Kp} {H : GH} (ok : EnvOk env) (hk : KdOk kd env) : ∀ (ts : List Expr) (vs : List Value) (gs : List GV) {ρ : Loc} {s : Shared} {Q : Loc → Prop}, ers vs gs → Rep W K env ρ H s → gAsgNames kd ts gs ρ Q →
    wpAny (model W.prog W.w) A (assignInOrder ((assignEach ts env).map (·.2)) vs) (fun _ s' => ∃ ρ', Rep W K env ρ' H s' ∧ Q ρ') NoE s := by
  intro ts
  induction ts with
  | nil =>
    intro vs gs ρ s Q eg X h
    cases gs with
    | nil => rw [eg.inv_nil]; exact wpAny_pure ⟨ρ, X, h⟩
    | cons _ _ => exact (show False from h).elim
  | cons t ts ih =>
    intro vs gs ρ s Q eg X h
    cases gs with
    | nil => exact (show False by cases t <;> exact h).elim
    | cons g gs =>
      obtain ⟨v, vs', rfl, ev, eg'⟩ := eg.inv_cons
      cases t with
      | Name x p =>
        obtain ⟨hkx, h⟩ := h
        have hx : env.kindOf x = some .local ∨ env.kindOf x = some .cell := hkx.imp (hk x _) (hk x _)
        show wpAny _ A (do holding vs' (assign (.Name x p) env v); assignInOrder ((assignEach ts env).map (·.2)) vs') _ NoE s
        refine wpAny_bind (wpAny_holding (wpAny_assign_Name ?_))
        refine X.store ok ev hx fun s' X' => ih vs' gs eg' X' h
      | _ => exact (show False from h).elim

theorem itemsL {A : Around} {u : Value} {g : GV} {K : Kp} {H : GH} {s : Shared} {P : List GV → Prop} {targets : List (Bool × (Value → Sem Unit))} {Q : Unit → Shared → Prop} (hh : A.handled = none) (x : HeapRep W K H s) (eu : er u = some g) (h : gUnpack g H P)
    (hs : ∀ gs, P gs → targets.length = gs.length) (hn : targets.findIdx? (·.1) = none)
    (hQ : ∀ vs gs h', ers vs gs → P gs → Heap.ExtBut s.heap.objs.size s.heap h' → wpAny (model W.prog W.w) A (assignInOrder (targets.map (·.2)) vs) Q NoE { s with heap := h' }) : wpAny (model W.prog W.w) A (unpack u targets) Q NoE s := by
  cases g with
  | ref a =>
    obtain rfl := er_ref eu
    obtain ⟨l, h1 | h1, h2, h3⟩ := h
    · obtain ⟨vs, p, r⟩ := x.objs _ _ h1
      have e : targets.length = vs.toArray.size := by rw [hs l h3, ← r.length]; rfl
      unfold unpack
      rw [e, hn]
      refine wpAny_bind (wpAny_holding (kun_itemsOf hh p.isList fun h' e' => hQ vs l h' r h3 e'))
    · obtain ⟨vs, p, r⟩ := x.objs _ _ h1
      have e : targets.length = vs.toArray.size := by rw [hs l h3, ← r.length]; rfl
      exact wpAny_unpack_tuple hh p e hn fun h' e' => hQ vs l h' r h3 e'
  | _ => exact (show False from h).elim

-- a heap grown at its end by one that is no one's
theorem Rep.ext {env : Env} {ρ : Loc} {K : Kp} {H : GH} {s : Shared} (X : Rep W K env ρ H s) {h' : Heap} {tk : Nat} (e : Heap.ExtBut s.heap.objs.size s.heap h') : Rep W K env ρ H { s with heap := h', toks := tk } :=
  X.grow fun b o q => e b o (Nat.ne_of_lt (Heap.lt_size q)) q

theorem assign_sound (C : Ctx W F Φ n) {t : Expr} {u : Value} {g : GV} {kd : Kd} {env : Env} {ρ : Loc} {A : Around} {K : Kp} {H : GH} {s : Shared} {Q : Loc → GH → Prop} (ok : EnvOk env) (hk : KdOk kd env) (rm : Room A n) (X : Rep W K env ρ H s) (eu : er u = some g)
    (h : gAssign Φ kd t g ρ H Q) : wpAny (model W.prog W.w) A (assign t env u) (fun _ s' => ∃ ρ' H', Rep W K env ρ' H' s' ∧ Q ρ' H') NoE s := by
  cases t with
  | Name x p => exact wpAny_assign_Name (X.store ok eu (h.1.imp (hk x _) (hk x _)) fun s' X' => ⟨_, _, X', h.2⟩)
  | Attribute o m p =>
    rw [a_attr] at h
    rw [assign_Attribute]
    refine wpAny_bind (wpAny_holding (wpAny_mono (se C o ok hk rm X h) (fun ov s₁ ⟨a, H₁, ea, X₁, h₁⟩ => wpAny_bind (wpAny_standAt (wpAny_bind (wpAny_holding ?_)))) fun _ _ e => e))
    refine wpAny_mono (setattr_sound C.C X₁.heapRep ea eu h₁) (fun _ s₂ ⟨H₂, Y, q⟩ => ?_) fun _ _ e => e
    exact wpAny_release ⟨ρ, H₂, X₁.back Y, q⟩
  | Subscript o i p =>
    have hi : notSlice i = true := by cases i <;> first | rfl | exact (show False from h).elim
    rw [a_item hi] at h
    rw [assign_Subscript]
    refine wpAny_bind (wpAny_holding (wpAny_mono (se C o ok hk rm X h) (fun ov s₁ ⟨a, H₁, ea, X₁, h₁⟩ => wpAny_bind (wpAny_holding (wpAny_mono (se C i ok hk rm X₁ h₁) (fun iv s₂ ⟨b, H₂, eb, X₂, h₂⟩ => wpAny_bind (wpAny_standAt (wpAny_bind (wpAny_holding ?_)))) fun _ _ e => e))) fun _ _ e => e))
    refine wpAny_mono (setitem_sound C.O X₂.heapRep ea eb eu h₂) (fun _ s₃ ⟨H₃, Y, q⟩ => ?_) fun _ _ e => e
    exact wpAny_release ⟨ρ, H₃, X₂.back Y, q⟩
  | Tuple ts k p =>
    rw [a_tup] at h
    rw [assign_Tuple]
    refine wpAny_bind (wpAny_standAt ?_)
    have hn : (assignEach ts env).findIdx? (·.1) = none := by
      cases g with
      | ref a => obtain ⟨l, _, _, h3⟩ := h; exact (names_shape ts l h3).2
      | _ => exact (show False from h).elim
    refine itemsL rm.hh X.heapRep eu h (fun gs q => (names_shape ts gs q).1) hn fun vs gs h' eg q e' => ?_
    exact wpAny_mono (names_sound ok hk ts vs gs eg (X.ext e') q) (fun _ s' ⟨ρ', X', q'⟩ => ⟨ρ', H, X', q'⟩) fun _ _ e => e
  | _ => exact (show False from h).elim
end

-- G16
section
variable {W : Wd} {F : Frag} {n : Nat} {Φ : Spec}

noncomputable def SS (W : Wd) (Φ : Spec) (n : Nat) (x : Stmt) : Prop := ∀ {kd : Kd} {env : Env} {ρ : Loc} {A : Around} {K : Kp} {H : GH} {s : Shared} {Q : GF → Loc → GH → Prop}, EnvOk env → KdOk kd env → Room A n → Rep W K env ρ H s → gS Φ kd x ρ H Q →
    wpAny (model W.prog W.w) A (exec x env) (OutS W K env Q) NoE s
noncomputable def SSs (W : Wd) (Φ : Spec) (n : Nat) (x : List Stmt) : Prop := ∀ {kd : Kd} {env : Env} {ρ : Loc} {A : Around} {K : Kp} {H : GH} {s : Shared} {Q : GF → Loc → GH → Prop}, EnvOk env → KdOk kd env → Room A n → Rep W K env ρ H s → gSs Φ kd x ρ H Q →
    wpAny (model W.prog W.w) A (execs x env) (OutS W K env Q) NoE s

theorem step_stmts (C : Ctx W F Φ n) (x : List Stmt) (B : ∀ y ∈ x, SS W Φ n y) : SSs W Φ n x := by
  induction x with
  | nil =>
    intro kd env ρ A K H s Q ok hk rm X h
    exact wpAny_execs_nil ⟨.next, ρ, H, trivial, X, h⟩
  | cons y r ih =>
    intro kd env ρ A K H s Q ok hk rm X h
    rw [ss_cons] at h
    refine wpAny_execs_cons (wpAny_mono (B y (List.mem_cons_self ..) ok hk rm X h) (fun f s₁ ⟨gf, ρ₁, H₁, hf, X₁, h₁⟩ => ?_) fun _ _ e => e)
    cases f with
    | next =>
      cases gf with
      | next => exact ih (fun z hz => B z (List.mem_cons_of_mem _ hz)) ok hk rm X₁ h₁
      | ret y => exact hf.elim
    | ret v =>
      cases gf with
      | next => exact hf.elim
      | ret y => exact ⟨.ret y, ρ₁, H₁, hf, X₁, h₁⟩
    | brk => cases gf <;> exact hf.elim
    | cont => cases gf <;> exact hf.elim

theorem notInter {env : Env} (ok : EnvOk env) : interactive env = false := by unfold interactive; rw [ok.kind]; rfl

theorem assignS_sound (C : Ctx W F Φ n) {t e : Expr} {pos : Pos} {kd : Kd} {env : Env} {ρ : Loc} {A : Around} {K : Kp} {H : GH} {s : Shared} {Q : GF → Loc → GH → Prop} (ok : EnvOk env) (hk : KdOk kd env) (rm : Room A n) (X : Rep W K env ρ H s)
    (h1 : isComp e = false ∨ notName t = true) (h2 : tupleOk kd t e) (h3 : ∀ x p, t ≠ .Starred x p) (h : gE Φ kd e ρ H fun v H₁ => gAssign Φ kd t v ρ H₁ fun ρ' H₂ => Q .next ρ' H₂) :
    wpAny (model W.prog W.w) A (exec (.Assign [t] e pos) env) (OutS W K env Q) NoE s := by
  rw [assign_eq (sole_false h1) (noSwap hk h2) h3]
  refine wpAny_bind (wpAny_standAt (wpAny_bind (wpAny_mono (se C e ok hk rm X h) (fun u s₁ ⟨g, H₁, eu, X₁, h₁⟩ => ?_) fun _ _ e => e)))
  refine wpAny_bind (wpAny_mono (assign_sound C ok hk rm X₁ eu h₁) (fun _ s₂ ⟨ρ', H₂, X₂, q⟩ => wpAny_pure ⟨.next, ρ', H₂, trivial, X₂, q⟩) fun _ _ e => e)

theorem step_stmt (C : Ctx W F Φ n) {x : Stmt} (B : ∀ y, sizeOf y < sizeOf x → SS W Φ n y) : SS W Φ n x := by
  have BL : ∀ b : List Stmt, sizeOf b < sizeOf x → SSs W Φ n b := fun b hb => step_stmts C b fun y hy => B y (Nat.lt_trans (List.sizeOf_lt_of_mem hy) hb)
  intro kd env ρ A K H s Q ok hk rm X h
  cases x with
  | Expr e pos =>
    obtain ⟨f, es, ks, p, rfl⟩ := s_call_of h
    exact wpAny_Expr_any (wpAny_mono (se C _ ok hk rm X h) (fun u s₁ ⟨g, H₁, _, X₁, h₁⟩ => ⟨.next, ρ, H₁, trivial, X₁, h₁⟩) fun _ _ e => e) (notInter ok) rfl
  | Return v pos =>
    cases v with
    | none => exact wpAny_Return_none ⟨.ret .none, ρ, H, rfl, X, h⟩
    | some e => exact wpAny_Return_some (wpAny_mono (se C e ok hk rm X h) (fun u s₁ ⟨g, H₁, eu, X₁, h₁⟩ => ⟨.ret g, ρ, H₁, eu, X₁, h₁⟩) fun _ _ e => e)
  | Assign ts e pos =>
    cases ts with
    | nil => exact (show False from h).elim
    | cons t ts =>
      obtain rfl := asg_one h
      by_cases ht : notName t = true
      · rw [s_asg_ ht] at h
        exact assignS_sound C ok hk rm X (.inr ht) h.1 (by rintro x p rfl; exact h.1) h.2
      · obtain ⟨x, px, rfl⟩ := name_of' ht
        rw [s_asg] at h
        exact assignS_sound C ok hk rm X (.inl h.1) trivial nofun h.2
  | If t b o pos =>
    rw [s_if] at h
    refine wpAny_If (wpAny_mono (st C t ok hk rm X h) (fun c s₁ ⟨H₁, X₁, h₁⟩ => ?_) fun _ _ e => e)
    cases c with
    | true => exact BL b (by rw [Stmt.If.sizeOf_spec]; exact p4_2) ok hk rm X₁ h₁
    | false => exact BL o (by rw [Stmt.If.sizeOf_spec]; exact p4_3) ok hk rm X₁ h₁
  | While t b o pos =>
    cases o with
    | cons _ _ => exact (show False from h).elim
    | nil =>
      rw [s_while] at h
      obtain ⟨I, n₀, h0, hI⟩ := h
      refine wpAny_While (codeAny_whileLoop (fun k s' => ∃ ρ' H', Rep W K env ρ' H' s' ∧ I k ρ' H') ?_ n₀ ⟨ρ, H, X, h0⟩)
      rintro k s' ⟨ρ', H', X', hk'⟩
      refine wpAny_mono (st C t ok hk rm X' (hI k ρ' H' hk')) (fun c s₁ ⟨H₁, X₁, h₁⟩ => ?_) fun _ _ e => notE e
      cases c with
      | true =>
        refine wpAny_mono (BL b (by rw [Stmt.While.sizeOf_spec]; exact p4_2) ok hk rm X₁ h₁) (fun f s₂ ⟨gf, ρ₂, H₂, hf, X₂, q⟩ => ?_) fun _ _ e => notE e
        cases f with
        | next =>
          cases gf with
          | next => obtain ⟨m, hm, q⟩ := q; exact ⟨m, hm, ρ₂, H₂, X₂, q⟩
          | ret y => exact hf.elim
        | ret v =>
          cases gf with
          | next => exact hf.elim
          | ret y => exact ⟨.ret y, ρ₂, H₂, hf, X₂, q⟩
        | brk => cases gf <;> exact hf.elim
        | cont => cases gf <;> exact hf.elim
      | false => exact wpAny_execs_nil ⟨.next, ρ', H₁, trivial, X₁, h₁⟩
  | For tg iter b o pos =>
    obtain ⟨⟨x, px, rfl⟩, rfl⟩ := for_name h
    rw [s_for] at h
    obtain ⟨hs, h⟩ := h
    refine wpAny_For (wpAny_mono (se C iter ok hk rm X h) (fun u s₁ ⟨g, H₁, eu, X₁, h₁⟩ => ?_) fun _ _ e => e) ?_
    · obtain ⟨a, o, l, rfl, ho, hl, hb, hf⟩ := h₁
      obtain rfl := er_ref eu
      refine iter_sound (X₁.hr.objs a o ho) hl hb fun ob it hfr => ?_
      have X₂ : Rep W K env ρ H₁ { s₁ with heap := s₁.heap.push ob } := X₁.grow (tk := s₁.toks) fun b o e => Heap.get?_push_of_some _ e
      exact for_sound ok (fun y hy => hy.imp (hk y _) (hk y _)) rm hl (fun K ρ H s Q X' h' => BL b (by rw [Stmt.For.sizeOf_spec]; exact p5_3) ok hk rm X' h') X₂ (by
        have := X₁.fresh (Nat.le_refl s₁.heap.objs.size)
        exact this) it hf
    · intro v; cases iter <;> first | rfl | cases hs
  | _ => exact (show False from h).elim

theorem ss_all (C : Ctx W F Φ n) : ∀ k, ∀ x : Stmt, sizeOf x < k → SS W Φ n x
  | 0, x, h => absurd h (Nat.not_lt_zero _)
  | k + 1, x, h => step_stmt C fun y hy => ss_all C k y (Nat.lt_of_lt_of_le hy (Nat.le_of_lt_succ h))
theorem sss (C : Ctx W F Φ n) (x : List Stmt) : SSs W Φ n x := step_stmts C x fun y _ => ss_all C _ y (Nat.lt_succ_self _)
end

-- G17
theorem cf_mem : ∀ {names : List (Str × NameKind)} {k : Nat} {acc : List (Str × Addr)} {n : Str} {c : Addr}, (n, c) ∈ cellsFrom k names acc → (n, c) ∈ acc ∨ (n, NameKind.cell) ∈ names
  | [], _, _, _, _, h => .inl h
  | (m, kd) :: r, k, acc, n, c, h => by
    unfold cellsFrom at h
    split at h
    · rename_i hk
      rcases cf_mem h with h | h
      · rcases List.mem_cons.mp h with e | h
        · cases e; right; rw [beq_iff_eq.mp hk]; exact List.mem_cons_self
        · exact .inl h
      · exact .inr (List.mem_cons_of_mem _ h)
    · exact (cf_mem h).imp id (List.mem_cons_of_mem _)
theorem cf_has : ∀ {names : List (Str × NameKind)} {k : Nat} {acc : List (Str × Addr)} {n : Str}, ((n, NameKind.cell) ∈ names ∨ n ∈ acc.map (·.1)) → n ∈ (cellsFrom k names acc).map (·.1)
  | [], _, _, _, h => by rcases h with h | h; cases h; exact h
  | (m, kd) :: r, k, acc, n, h => by
    unfold cellsFrom
    split
    · apply cf_has
      rcases h with h | h
      · rcases List.mem_cons.mp h with e | h
        · cases e; right; simp
        · exact .inl h
      · right; rw [List.map_cons]; exact List.mem_cons_of_mem _ h
    · rename_i hk
      apply cf_has
      rcases h with h | h
      · rcases List.mem_cons.mp h with e | h
        · cases e; exact absurd rfl hk
        · exact .inl h
      · exact .inr h
theorem cf_nodup : ∀ {names : List (Str × NameKind)} {k : Nat} {acc : List (Str × Addr)}, (names.map (·.1)).Nodup → (acc.map (·.1)).Nodup → (∀ n ∈ acc.map (·.1), n ∉ names.map (·.1)) → ((cellsFrom k names acc).map (·.1)).Nodup
  | [], _, _, _, h, _ => h
  | (m, kd) :: r, k, acc, nd, h, d => by
    rw [List.map_cons, List.nodup_cons] at nd
    unfold cellsFrom
    split
    · refine cf_nodup nd.2 ?_ ?_
      · rw [List.map_cons, List.nodup_cons]
        exact ⟨fun hm => d m hm (by simp), h⟩
      · intro n hn
        rw [List.map_cons] at hn
        rcases List.mem_cons.mp hn with e | hn
        · rw [e]; exact nd.1
        · exact fun hm => d n hn (List.mem_cons_of_mem _ hm)
    · exact cf_nodup nd.2 h fun n hn hm => d n hn (List.mem_cons_of_mem _ hm)
theorem lookup_some_of {α : Type} : ∀ {l : List (Str × α)} {n : Str}, n ∈ l.map (·.1) → ∃ c, l.lookup n = some c
  | p :: r, n, h => by
    rw [List.lookup_cons]
    cases e : n == p.1 with
    | true => exact ⟨_, rfl⟩
    | false =>
      rw [List.map_cons] at h
      rcases List.mem_cons.mp h with q | h
      · rw [q] at e; simp at e
      · exact lookup_some_of h

theorem bind_rel {kf : Str → Option NameKind} : ∀ (ps : List Str) (vs : List Value) (gs : List GV) {m cm : Str → Option Value} {ρ₀ : Loc}, ers vs gs →
    (∀ x g, ρ₀ x = some g → kf x = some .local → ∃ v, m x = some v ∧ er v = some g) → (∀ x g, ρ₀ x = some g → kf x ≠ some .local → ∃ v, cm x = some v ∧ er v = some g) →
    ∀ x g, ((ps.zip gs).reverse.lookup x).or (ρ₀ x) = some g → (kf x = some .local → ∃ v, bindL kf (ps.zip vs) m x = some v ∧ er v = some g) ∧ (kf x ≠ some .local → ∃ v, bindC kf (ps.zip vs) cm x = some v ∧ er v = some g)
  | [], vs, gs, m, cm, ρ₀, e, h1, h2, x, g, h => by
    simp only [List.zip_nil_left, List.reverse_nil, List.lookup_nil, Option.none_or] at h
    exact ⟨fun k => by simpa [bindL] using h1 x g h k, fun k => by simpa [bindC] using h2 x g h k⟩
  | p :: ps, vs, [], m, cm, ρ₀, e, h1, h2, x, g, h => by
    obtain rfl := e.inv_nil
    simp only [List.zip_nil_right, List.reverse_nil, List.lookup_nil, Option.none_or] at h
    exact ⟨fun k => by simpa [bindL] using h1 x g h k, fun k => by simpa [bindC] using h2 x g h k⟩
  | p :: ps, vs, g₀ :: gs, m, cm, ρ₀, e, h1, h2, x, g, h => by
    obtain ⟨v, vs', rfl, ev, e'⟩ := e.inv_cons
    rw [List.zip_cons_cons, List.reverse_cons, List.lookup_append, Option.or_assoc] at h
    rw [List.zip_cons_cons]
    have e1 : ([(p, g₀)] : List (Str × GV)).lookup x = if x = p then some g₀ else none := by
      rw [List.lookup_cons]
      by_cases q : x = p
      · simp [q]
      · simp [q, beq_eq_false_iff_ne.mpr q]
    refine bind_rel ps vs' gs (m := if kf p = some .local then fun y => if y = p then some v else m y else m) (cm := if kf p = some .local then cm else fun y => if y = p then some v else cm y)
      (ρ₀ := fun y => (([(p, g₀)] : List (Str × GV)).lookup y).or (ρ₀ y)) e' (fun y g' q k => ?_) (fun y g' q k => ?_) x g h
    · have e2 : ([(p, g₀)] : List (Str × GV)).lookup y = if y = p then some g₀ else none := by
        rw [List.lookup_cons]
        by_cases q : y = p
        · simp [q]
        · simp [q, beq_eq_false_iff_ne.mpr q]
      simp only [e2] at q
      by_cases c : y = p
      · subst c; rw [if_pos rfl] at q; cases q
        exact ⟨v, by rw [if_pos k]; simp, ev⟩
      · rw [if_neg c] at q
        obtain ⟨v', q1, q2⟩ := h1 y g' q k
        refine ⟨v', ?_, q2⟩
        split
        · simp [c, q1]
        · exact q1
    · have e2 : ([(p, g₀)] : List (Str × GV)).lookup y = if y = p then some g₀ else none := by
        rw [List.lookup_cons]
        by_cases q : y = p
        · simp [q]
        · simp [q, beq_eq_false_iff_ne.mpr q]
      simp only [e2] at q
      by_cases c : y = p
      · subst c; rw [if_pos rfl] at q; cases q
        exact ⟨v, by rw [if_neg k]; simp, ev⟩
      · rw [if_neg c] at q
        obtain ⟨v', q1, q2⟩ := h2 y g' q k
        refine ⟨v', ?_, q2⟩
        split
        · exact q1
        · simp [c, q1]

-- what is asked of a def's names
noncomputable def scOk (sc : List (Str × NameKind)) (params : List Str) : Bool :=
  nodupNames sc && sc.all (fun p => p.2 != .free) && params.all fun x => sc.lookup x == some .local || sc.lookup x == some .cell

structure FnOk (W : Wd) (a : Addr) (params : List Str) (sc : List (Str × NameKind)) (body : List Stmt) : Prop where
  fn : ∃ o fd, W.h₀.get? a = some o ∧ o.data = .func fd ∧ fd.body = .stmts body ∧ fd.closure = [] ∧ fd.globals = mainGlobals ∧ fd.builtins = builtinsNs ∧ W.h₀.CodeRec fd.code fd.qualname ∧ fd.scope.names = sc ∧
    fd.scope.isCoroutine = false ∧ fd.scope.isGenerator = false ∧ fd.scope.kind = .function ∧ ∀ vals : List Value, vals.length = params.length → bindArgs fd ⟨vals, []⟩ = pure (params.zip vals)
  sc : scOk sc params = true

section
variable {W : Wd} {F : Frag} {n : Nat} {Φ : Spec}

theorem envOkC {fd : FuncData} {L a : Addr} {params : List Str} (h1 : fd.globals = mainGlobals) (h2 : fd.builtins = builtinsNs) (h3 : fd.scope.kind = .function) (h4 : scOk fd.scope.names params = true)
    (ap : (cellsFrom (L + 1) fd.scope.names []).Pairwise fun x y => x.2 ≠ y.2) (ab : ∀ n c, (n, c) ∈ cellsFrom (L + 1) fd.scope.names [] → L < c) : EnvOk (callEnvC fd L a) := by
  unfold scOk at h4
  simp only [Bool.and_eq_true] at h4
  obtain ⟨⟨q1, q2⟩, q3⟩ := h4
  have nd := nodupNames_spec q1
  have kf : ∀ x, (callEnvC fd L a).kindOf x = fd.scope.names.lookup x := fun _ => rfl
  refine ⟨h3, h1, h2, fun x c e => ?_, fun x e => ?_, ?_, ?_⟩
  · left
    rw [kf]
    rcases cf_mem (mem_of_lookup e) with h | h
    · cases h
    · exact lookup_of_mem nd h
  · rw [kf] at e
    rcases e with e | e
    · exact lookup_some_of (cf_has (.inl (mem_of_lookup e)))
    · have := List.all_eq_true.mp q2 _ (mem_of_lookup e)
      simp at this
  · show (L :: (cellsFrom (L + 1) fd.scope.names []).map (·.2)).Nodup
    rw [List.nodup_cons]
    refine ⟨fun hm => ?_, ?_⟩
    · obtain ⟨p, hp, e⟩ := List.mem_map.mp hm
      have := ab p.1 p.2 hp
      exact Nat.lt_irrefl _ (e ▸ this)
    · exact List.pairwise_map.mpr ap
  · exact cf_nodup nd List.nodup_nil (by simp)

theorem callCode_def (C : Ctx W F Φ n) {a : Addr} {params : List Str} {sc : List (Str × NameKind)} {body : List Stmt} (f : FnOk W a params sc body) {A : Around} {K : Kp} {H : GH} {s : Shared} {vs : List Value} {gs : List GV} {Q : GV → GH → Prop} {R : Result → Shared → Prop}
    (rm : Room A (n + 1)) (x : HeapRep W K H s) (eg : ers vs gs) (h : gDef Φ sc params body gs H Q) (hR : ∀ v g H' s', er v = some g → HeapRep W K H' s' → Q g H' → R (.ok (.ret v)) s') : codeAny (model W.prog W.w) A (.call (.ref a) ⟨vs, []⟩) R s := by
  obtain ⟨⟨o, fd, ho, hd, hb, hc, hg, hbl, hcr, hs, hco, hge, hk, hbd⟩, hsc⟩ := f
  subst hs
  obtain ⟨hlen, h⟩ := h
  have hlv : vs.length = params.length := by rw [eg.length, hlen]
  have hsc' := hsc
  unfold scOk at hsc'
  simp only [Bool.and_eq_true] at hsc'
  obtain ⟨⟨q1, q2⟩, q3⟩ := hsc'
  have nd := nodupNames_spec q1
  have par : ∀ y ∈ params, fd.scope.names.lookup y = some .local ∨ fd.scope.names.lookup y = some .cell := fun y hy => by
    have := List.all_eq_true.mp q3 y hy
    simpa using this
  refine codeAny_call_cells rm.depth (x.base_keep _ _ ho) hd (C.O.lim.keeps x.base_keep) (hcr.keeps x.base_keep) hb (hbd vs hlv) hc (fun y hy => ?_) (fun s₁ X => ?_) hco hge hk
  · have hy' : y.1 ∈ params := (List.of_mem_zip (a := y.1) (b := y.2) hy).1
    rcases par _ hy' with q | q
    · exact .inl q
    · obtain ⟨c, hc'⟩ := lookup_some_of (cf_has (k := s.heap.objs.size + 1) (acc := []) (.inl (mem_of_lookup q)))
      exact .inr ⟨q, by rw [hc']; rfl⟩
  · have ok : EnvOk (callEnvC fd s.heap.objs.size a) := envOkC hg hbl hk hsc X.apart X.above
    have hkd : KdOk (fun x => fd.scope.names.lookup x) (callEnvC fd s.heap.objs.size a) := by
      intro y k e
      have : (callEnvC fd s.heap.objs.size a).kindOf y = some k := e
      cases k <;> first | exact this | exact .inl this
    have br := bind_rel (kf := (callEnvC fd s.heap.objs.size a).kindOf) params vs gs (m := fun _ => none) (cm := fun _ => none) (ρ₀ := fun _ => none) eg (by simp) (by simp)
    simp only [Option.or_none] at br
    have kn : ∀ y g, (params.zip gs).reverse.lookup y = some g → y ∈ params := fun y g e => (List.of_mem_zip (List.mem_reverse.mp (mem_of_lookup e))).1
    have R : Rep W K (callEnvC fd s.heap.objs.size a) (fun y => (params.zip gs).reverse.lookup y) H s₁ := by
      obtain ⟨h', tk, rfl, kk⟩ := X.done
      refine ⟨x.grow kk, ⟨⟨_, X.toInCall.ns, fun y g e k => (br y g e).1 k⟩, fun y g e => ?_, fun y c hm => ?_⟩, fun b hb' => ?_⟩
      · exact (par y (kn y g e)).imp id .inl
      · have lk := lookup_of_mem ok.nn hm
        refine ⟨_, X.cell y c lk, fun g e => (br y g e).2 ?_⟩
        rcases ok.ck y c lk with q | q <;> (rw [q]; decide)
      · have : s.heap.objs.size ≤ b := by
          rcases List.mem_cons.mp hb' with e | hm
          · rw [e]; exact X.toInCall.fresh
          · obtain ⟨p, hp, e⟩ := List.mem_map.mp hm
            rw [← e]
            exact Nat.le_of_lt (Nat.lt_of_le_of_lt X.toInCall.fresh (X.above p.1 p.2 hp))
        have := above_free x this
        exact ⟨this.2, this.1⟩
    refine wpAny_mono (sss C body ok hkd (rm.deeper _) R h) (fun fl s₂ ⟨gf, ρ₂, H₂, hf, X₂, q⟩ => ?_) fun _ _ e => e.elim
    cases fl with
    | next =>
      cases gf with
      | next => exact hR .none .none H₂ _ rfl X₂.hr q
      | ret y => exact hf.elim
    | ret v =>
      cases gf with
      | next => exact hf.elim
      | ret y => exact hR v y H₂ _ hf X₂.hr q
    | brk => cases gf <;> exact hf.elim
    | cont => cases gf <;> exact hf.elim

theorem callOk_def (C : Ctx W F Φ n) {a : Addr} {params : List Str} {sc : List (Str × NameKind)} {body : List Stmt} (f : FnOk W a params sc body) : CallOk W (n + 1) (.ref a) (gDef Φ sc params body) := by
  obtain ⟨o, fd, ho, hd, _⟩ := f.fn
  refine ⟨kk_fn ho hd, fun A K H s vs gs Q rm x eg h => wpAny_call (callCode_def C f rm x eg h fun v g H' s' e x' q => ⟨g, H', e, x', q⟩)⟩
end

-- G18
theorem noKeysSlot : typeLookup (.type "list") "keys" = pure none := by rw [typeLookup_type, builtinLookup_eq_fast]; kernel_rfl

theorem noKeys {prog : Program} {w : World} {A : Around} {E : Value → Shared → Prop} {s : Shared} {a : Addr} {xs : Array Value} {k : Nat} {sl : Array (Option Value)} {Q : Option Value → Shared → Prop}
    (hx : s.heap.get? a = some { cls := .type "list", dict := none, data := .seq xs k, slots := sl }) (hA : A.handled = none)
    (h : ∀ h' tk, (∀ b o, s.heap.get? b = some o → h'.get? b = some o) → Q none { s with heap := h', toks := tk }) : wpAny (model prog w) A (getAttr? (.ref a) "keys") Q E s := by
  obtain ⟨hp, g, d, tk, os⟩ := s
  have hT : ∀ tk', (⟨hp, g, d, tk', os⟩ : Shared).TypeIs (.ref a) "list" := fun _ => ⟨_, hx, rfl⟩
  have f1 := sub_AttributeError
  have f3 := F.slot_list_getattribute.lookup
  have f4 := F.slot_list_getattribute.bind (.ref a)
  have f5 := am_list_getattr_none
  unfold getAttr? getAttrBy? getAttrBy
  repeat (any_goals (first | assumption | exact hT _ | ((with_reducible show wpAny _ _ (call (Value.builtin "list.__getattribute__") _ _) _ _ _); refine call_meets F.slot_list_getattribute (hT _) am_entry_list_getattribute (F.args_list_getattribute_2 _ _) (meets_getattribute_miss_list a xs k sl _ _ noKeysSlot (by decide) (by decide +kernel)) ⟨hx, hA, fun h' tk' e hx' => ?_⟩) | wp_step))
  obtain ⟨t', u', he⟩ := hx'.there
  show wpAny _ _ (getattributeRaised _ _ _ _ _ _ _) _ _ _
  unfold getattributeRaised
  repeat (any_goals (first | assumption | wp_step))
  exact h _ _ hx'.of.keeps

theorem entry_loop : entryFor table "dict.update.loop" = some Builtin.«dict.update.loop» := entryFor_of_tree (by kernel_rfl)

section
variable {W : Wd} {K : Kp} {H : GH} {s : Shared} {A : Around}

theorem HeapRep.but (x : HeapRep W K H s) {I : Addr} (kI : ∀ o, ¬ K I o) (hI : H I = none) {h' : Heap} {tk : Nat} (k : Heap.ExtBut I s.heap h') : HeapRep W K H { s with heap := h', toks := tk } := by
  refine ⟨(by obtain ⟨h, t, e⟩ := x.same; exact ⟨h', tk, by rw [e]⟩), x.base, fun b o q => ?_, fun b g e => ?_, x.apart, x.froz⟩
  · exact k b o (by rintro rfl; exact kI o q) (x.keep b o q)
  · exact (x.objs b g e).at fun o z => k b o (by rintro rfl; rw [hI] at e; cases e) z

theorem pairItems_tup {prog : Program} {w : World} {A : Around} {E : Value → Shared → Prop} {s : Shared} {t : Addr} {xs : Array Value} {Q : List Value → Shared → Prop} (h : s.heap.IsTuple t xs) (q : Q xs.toList s) : wpAny (model prog w) A (Builtin.Dict.pairItems (.ref t)) Q E s := by
  obtain ⟨o, ho, hc, n, hd⟩ := h
  unfold Builtin.Dict.pairItems
  refine wpAny_bind (wpAny_typeOf (show s.TypeIs (.ref t) "tuple" from ⟨o, ho, hc⟩) ?_)
  rw [if_pos (by decide)]
  refine wpAny_bind (wpAny_seqItems ho hd (wpAny_pure q))

theorem pairsOf_at : ∀ {H : GH} {l : List GV} {ps : List (Str × GV)}, pairsOf H l = some ps → ∀ (i : Nat) (p : Str × GV), ps[i]? = some p → ∃ t : Addr, l[i]? = some (.ref t) ∧ H t = some (.tup [.str p.1, p.2])
  | H, [], ps, h, i, p, e => by simp only [pairsOf, Option.some.injEq] at h; subst h; simp at e
  | H, g :: r, ps, h, i, p, e => by
    cases g with
    | ref a =>
      simp only [pairsOf] at h
      split at h
      · rename_i k v t h1 h2
        cases h
        cases i with
        | zero => simp only [List.getElem?_cons_zero, Option.some.injEq] at e; subst e; exact ⟨a, rfl, h1⟩
        | succ i => simpa using pairsOf_at h2 i p (by simpa using e)
      · cases h
    | _ => cases h
theorem pairsOf_len : ∀ {H : GH} {l : List GV} {ps : List (Str × GV)}, pairsOf H l = some ps → ps.length = l.length
  | H, [], ps, h => by simp only [pairsOf, Option.some.injEq] at h; subst h; rfl
  | H, g :: r, ps, h => by
    cases g with
    | ref a =>
      simp only [pairsOf] at h
      split at h
      · rename_i k v t h1 h2
        cases h
        simp [pairsOf_len h2]
      · cases h
    | _ => cases h

theorem hset_same (H : GH) (a : Addr) (o o' : GO) : hset (hset H a o) a o' = hset H a o' := by
  funext b; unfold hset; split <;> rfl

theorem put_new {k : Str} {v : GV} : ∀ {l : List (Str × GV)}, k ∉ l.map (·.1) → put k v l = l ++ [(k, v)]
  | [], _ => rfl
  | e :: r, h => by
    rw [List.map_cons, List.mem_cons, not_or] at h
    unfold put
    rw [if_neg (fun q => h.1 q.symm), put_new h.2]; rfl

-- the loop over the pairs
theorem dict_loop (O : W.Ok) {a d I : Addr} {l : List GV} {ps : List (Str × GV)} {result : Value} {R : Result → Shared → Prop} (hA : A.handled = none) (hl : H a = some (.list l)) (hp : pairsOf H l = some ps) (hb : ps.length ≤ bnd) (nd : (ps.map (·.1)).Nodup)
    (hd : H d = none) (dI : I ≠ d) (HI : H I = none) (kI : ∀ o, ¬ K I o) (hR : ∀ s', HeapRep W K (hset H d (.dict ps)) s' → R (.ok (.ret result)) s') :
    ∀ (m i : Nat) (s : Shared) (tk : Tok), m + i = ps.length → HeapRep W K (hset H d (.dict (ps.take i))) s → ItAt s.heap I a (.list l) i → codeAny (model W.prog W.w) A (.builtin "dict.update.loop" ⟨[.ref d, .ref I, .int i tk, result], []⟩) R s := by
  have dl : ∀ b g, H b = some g → b ≠ d := fun b g e q => by rw [q, hd] at e; cases e
  have HdI : ∀ o, hset H d o I = none := fun o => by unfold hset; rw [if_neg dI, HI]
  have Hda : ∀ o, hset H d o a = some (.list l) := fun o => by unfold hset; rw [if_neg (dl a _ hl), hl]
  have ln := pairsOf_len hp
  intro m
  induction m with
  | zero =>
    intro i s tk e x it
    refine codeAny_builtin entry_loop ?_
    unfold Builtin.«dict.update.loop»
    refine wpAny_bind (next_end (l := l) (by exact hA) (x.objs _ _ (Hda _)) rfl it (by omega) fun h' k => ?_)
    have x' := x.but kI (HdI _) (tk := s.toks) k
    rw [show ps.take i = ps from List.take_of_length_le (by omega)] at x'
    show wpAny _ _ (Builtin.Dict.addKeywords d [] >>= fun _ => ret result) _ _ _
    exact wpAny_bind (wpAny_pure (wpAny_pure (hR _ x')))
  | succ m ih =>
    intro i s tk e x it
    have hi : i < ps.length := by omega
    obtain ⟨t, h1, h2⟩ := pairsOf_at hp i ps[i] (by simp [hi])
    refine codeAny_builtin entry_loop ?_
    unfold Builtin.«dict.update.loop»
    refine wpAny_bind (next_item (l := l) (x.objs _ _ (Hda _)) rfl it h1 fun u h' tk' eu it' sb => ?_)
    obtain rfl := er_ref eu
    have x' := x.but kI (HdI _) (tk := tk') sb.extBut
    have ht : hset H d (.dict (ps.take i)) t = some (.tup [.str ps[i].1, ps[i].2]) := by unfold hset; rw [if_neg (dl t _ h2), h2]
    obtain ⟨vs, p, r⟩ := x'.objs _ _ ht
    obtain ⟨ku, vs', rfl, ek, r'⟩ := r.inv_cons
    obtain ⟨vu, vs'', rfl, ev, r''⟩ := r'.inv_cons
    obtain rfl := r''.inv_nil
    obtain ⟨kt, rfl⟩ := er_str ek
    dsimp only
    refine wpAny_bind (wpAny_holding (wpAny_bind (wpAny_tryCatch (pairItems_tup p ?_))))
    show wpAny _ _ (holding _ (dictSet d (.str ps[i].1 kt) vu)) _ _ _
    obtain ⟨dps, dd, r1, r2⟩ := x'.objs d (.dict (ps.take i)) (by unfold hset; rw [if_pos rfl])
    have hk : (PySem.strKind W.prog W.w).is ps[i].1 (.str ps[i].1 kt) = true := by show Value.isStrOf _ (.str _ kt) = true; simp [Value.isStrOf]
    have ndd : (dps.map (·.1)).Nodup := let ⟨_, _, _, _, _, _, _, _, hn⟩ := dd; hn
    obtain ⟨i1, i2⟩ := stored_at r1 r2 ndd (k := ps[i].1) ev
    have hln : dps.length = (ps.take i).length := by have := congrArg List.length r1; simpa using this
    have hsplit : ps.take (i + 1) = ps.take i ++ [ps[i]] := by rw [List.take_add_one, List.getElem?_eq_getElem hi]; rfl
    have hput : put ps[i].1 ps[i].2 (ps.take i) = ps.take (i + 1) := by
      have nd' : ((ps.take (i + 1)).map (·.1)).Nodup := by rw [List.map_take]; exact List.Nodup.sublist (List.take_sublist _ _) nd
      rw [hsplit, List.map_append, List.nodup_append] at nd'
      rw [put_new, hsplit]
      exact fun hm => nd'.2.2 _ hm _ (by simp) rfl
    refine wpAny_holding (wpAny_dictSet_pairs hk dd (fun h₂ d₂ sb₂ => ?_) ?_)
    · have x₂ := x'.upd (tk := tk' + 1) (a := d) (g := .dict (ps.take i)) (by unfold hset; rw [if_pos rfl]) rfl sb₂ (g' := .dict (put ps[i].1 ps[i].2 (ps.take i))) ⟨_, d₂, i1, i2⟩ rfl
      rw [hset_same, hput] at x₂
      have it₂ : ItAt h₂ I a (.list l) (i + 1) := it'.at fun ob q => (sb₂.2 I dI).trans q
      refine wpAny_pure ⟨Code.quiet_builtin _ (by decide +kernel), ?_⟩
      have := ih (i + 1) { s with heap := h₂, toks := tk' + 1 } 0 (by omega) x₂ it₂
      exact this
    · have := bnd_le; rw [hln, List.length_take]; have : min i ps.length ≤ ps.length := Nat.min_le_right _ _; omega

theorem dictCall (O : W.Ok) : DictCall W := by
  intro A K H s a l ps n Q rm x hl hp hb nd hQ
  refine callType_codes (Q₁ := fun obj s₁ => obj = .ref s.heap.objs.size ∧ s₁ = { s with heap := s.heap.push { cls := .type "dict", data := .dict #[] } }) F.kt_called_dict (F.kt_typeCall_dict_1 _) F.entry_dict_init (kt_code_dict_new _ ⟨rfl, rfl⟩) ?_
  rintro obj s₁ ⟨rfl, rfl⟩
  have hnew : (s.heap.push { cls := .type "dict", data := .dict #[] }).DictOf (PySem.strKind W.prog W.w) s.heap.objs.size [] := Heap.DictOf.new s.heap
  obtain ⟨hd, kd⟩ := above_free x (Nat.le_refl s.heap.objs.size)
  have x₁ := x.new (h' := s.heap.push { cls := .type "dict", data := .dict #[] }) (tk := s.toks) (fun b o e => Heap.get?_push_of_some _ e) hd kd (g := .dict []) ⟨[], hnew, rfl, rfl⟩ rfl
  have had : a ≠ s.heap.objs.size := fun e => by rw [e, hd] at hl; cases hl
  have hla : hset H s.heap.objs.size (.dict []) a = some (.list l) := by unfold hset; rw [if_neg had, hl]
  obtain ⟨vs, ⟨k, pl⟩, r⟩ := x₁.objs _ _ hla
  refine ⟨hnew.typeIs, F.args_dict_init_2 _ _, ?_⟩
  unfold Builtin.«dict.__init__»
  refine wpAny_bind ?_
  unfold Builtin.Dict.selfAndRest
  refine wpAny_bind (wpAny_notOrdered_dict hnew.typeIs ?_)
  show wpAny _ _ (pure (s.heap.objs.size, [Value.ref a])) _ _ _
  refine wpAny_pure ?_
  show wpAny _ _ (Builtin.Dict.updateFrom "dict.__init__" s.heap.objs.size (.ref a) [] .none) _ _ _
  unfold Builtin.Dict.updateFrom
  refine wpAny_bind (wpAny_typeOf (T := "list") ⟨_, pl, rfl⟩ ?_)
  rw [if_pos (by decide)]
  refine wpAny_bind (noKeys pl rm.hh fun h₂ tk₂ k₂ => ?_)
  have x₂ := x₁.grow (tk := tk₂) k₂
  rw [if_pos (by rfl)]
  refine wpAny_bind (wpAny_rule ?_)
  refine wpAny_bind (iter_sound (x₂.objs _ _ hla) rfl (by rw [← pairsOf_len hp]; exact hb) fun ob it hf => ?_)
  have x₃ := x₂.grow (tk := tk₂) (h' := h₂.push ob) fun b o e => Heap.get?_push_of_some _ e
  obtain ⟨hI, kI⟩ := above_free x₂ (Nat.le_refl h₂.objs.size)
  have dI : h₂.objs.size ≠ s.heap.objs.size := fun e => by rw [show ({ s with heap := h₂, toks := tk₂ } : Shared).heap.objs.size = h₂.objs.size from rfl, e] at hI; unfold hset at hI; rw [if_pos rfl] at hI; cases hI
  have HI : H h₂.objs.size = none := by unfold hset at hI; rw [if_neg dI] at hI; exact hI
  refine wpAny_pure ⟨Code.quiet_builtin _ (by decide +kernel), ?_⟩
  refine dict_loop O (R := wants (fun r s₂ => r = .none ∧ Out W K Q (.ref s.heap.objs.size) s₂) NoE) (result := .none) (A := A.in1) rm.hh hl hp hb nd hd dI HI kI (fun s' x' => ?_) ps.length 0 _ 0 (by omega) x₃ it
  exact (⟨rfl, _, _, rfl, x', hQ _ hd⟩ : Value.none = Value.none ∧ Out W K Q (.ref s.heap.objs.size) s')
end

-- G19
section
variable {W : Wd} {F : Frag} {n : Nat} {Φ : Spec}

theorem Room.under {A : Around} {n : Nat} (r : Room A (n + 1)) (C : Addr) (rest : List Value) : Room (A.under (.builtin "type.__call__" ⟨.ref C :: rest, []⟩)) n := by
  have h1 : (Code.builtin "type.__call__" ⟨.ref C :: rest, []⟩).weight = 1 := rfl
  have h2 : (Code.builtin "type.__call__" ⟨.ref C :: rest, []⟩).cUnits = 1 := rfl
  refine ⟨r.hh, ?_, ?_⟩
  · have := r.dp; show A.depth + (Code.builtin "type.__call__" ⟨.ref C :: rest, []⟩).weight + n < 900; rw [h1]; omega
  · have := r.un; show A.units + (Code.builtin "type.__call__" ⟨.ref C :: rest, []⟩).cUnits + 100 * n < 9000; rw [h2]; omega

-- a class called: what its __init__ does
noncomputable def gMake (Φ : Spec) (sc : List (Str × NameKind)) (params : List Str) (body : List Stmt) (vs : List GV) (H : GH) (Q : GV → GH → Prop) : Prop :=
  ∀ x dx, H x = none → H dx = none → x ≠ dx → gDef Φ sc params body (.ref x :: vs) (hset (hset H dx (.attrs [])) x (.inst dx)) fun r H' => r = .none ∧ Q (.ref x) H'


theorem callOk_make (C : Ctx W F Φ n) {fI : Addr} {params : List Str} {sc : List (Str × NameKind)} {body : List Stmt} (hm : makesIn F W.C = true) (hi : findIn F (.ref W.C) "__init__" = some (some (.ref fI))) (hf : typeIn F (.ref fI) = some (.type "function"))
    (f : FnOk W fI params sc body) : CallOk W (n + 2) (.ref W.C) (gMake Φ sc params body) := by
  have Xb : ∀ {s : Shared}, (∀ b o, W.h₀.get? b = some o → s.heap.get? b = some o) → F.In s.heap := fun k => C.C.inn.keeps k
  refine ⟨fun A s Q E k q => ?_, fun A K H s vs gs Q rm x eg h => ?_⟩
  · have Y := makes_of (M := model W.prog W.w) (Xb k) hm
    obtain ⟨oc, od, cd, sl, hC, _⟩ := Y.obj
    unfold keeperOf
    refine wpAny_bind (wpAny_load hC ?_)
    dsimp only
    refine wpAny_bind (Y.call.here ?_)
    exact wpAny_pure (q _)
  · refine wpAny_call ?_
    have Y := makes_of (M := model W.prog W.w) (Xb x.base_keep) hm
    have X := Xb x.base_keep
    obtain ⟨hd, kd⟩ := above_free x (Nat.le_refl s.heap.objs.size)
    obtain ⟨hx, kx⟩ := above_free x (Nat.le_succ s.heap.objs.size)
    have ne : s.heap.objs.size + 1 ≠ s.heap.objs.size := Nat.succ_ne_self _
    have x₁ := x.new (h' := s.heap.push emptyDict) (tk := s.toks) (fun b o e => Heap.get?_push_of_some _ e) hd kd (g := .attrs []) ⟨[], _, Heap.get?_push_size _ rfl, trivial⟩ rfl
    have hx₁ : hset H s.heap.objs.size (.attrs []) (s.heap.objs.size + 1) = none := by unfold hset; rw [if_neg ne]; exact hx
    have g1 : ((s.heap.push emptyDict).push (instObj W.C s.heap.objs.size)).get? (s.heap.objs.size + 1) = some (instObj W.C s.heap.objs.size) := by
      have := Heap.get?_push_size (s.heap.push emptyDict) (o := instObj W.C s.heap.objs.size) rfl
      rwa [Heap.size_push] at this
    have x₂ := x₁.new (h' := (s.heap.push emptyDict).push (instObj W.C s.heap.objs.size)) (tk := s.toks) (fun b o e => Heap.get?_push_of_some _ e) (a := s.heap.objs.size + 1) hx₁ kx (g := .inst s.heap.objs.size) ⟨_, g1⟩ rfl
    have hq := h (s.heap.objs.size + 1) s.heap.objs.size hx hd ne
    have e1 : ers (Value.ref (s.heap.objs.size + 1) :: vs) (.ref (s.heap.objs.size + 1) :: gs) := ers.cons rfl eg
    obtain ⟨hh, g, d, t, os⟩ := s
    refine make_core Y (looks_findIn X hi) (fun self => bind_fn X self hf) (.inl rfl) ?_
    refine callCode_def C f (rm.under _ _) x₂ e1 hq fun v gv H' s' e x' q => ?_
    obtain ⟨rfl, q⟩ := q
    obtain rfl := er_none e
    exact ⟨rfl, _, H', rfl, x', q⟩
end

-- P0
set_option genInjectivity false in
structure Fn where
  params : List Str
  sc : List (Str × NameKind)
  body : List Stmt

noncomputable def defOf (n : Str) : List Stmt → Fn
  | [] => ⟨[], [], []⟩
  | .FunctionDef name args body _ _ _ scope _ _ _ :: r => if name = n then ⟨args.args.map (·.arg), scope.names, body⟩ else defOf n r
  | _ :: r => defOf n r
noncomputable def clsBody : List Stmt → List Stmt
  | [] => []
  | .ClassDef _ _ _ body .. :: _ => body
  | _ :: r => clsBody r

noncomputable def topB : List Stmt := PySem.Challenge.pw_np0228_01.main.body
noncomputable def fnT (n : Str) : Fn := defOf n topB
noncomputable def fnM (n : Str) : Fn := defOf n (clsBody topB)

noncomputable def gFn (Φ : Spec) (f : Fn) (vs : List GV) (H : GH) (Q : GV → GH → Prop) : Prop := gDef Φ f.sc f.params f.body vs H Q
noncomputable def FnOk' (W : Wd) (a : Addr) (f : Fn) : Prop := FnOk W a f.params f.sc f.body

-- the defs' meaning, k calls deep
noncomputable def PhiS : Nat → Spec
  | 0 => fun _ _ _ _ _ => False
  | k + 1 => fun b f vs H Q => if b then gFn (PhiS k) (fnM f) vs H Q else if f = "Walker" then gMake (PhiS k) (fnM "__init__").sc (fnM "__init__").params (fnM "__init__").body vs H Q else gFn (PhiS k) (fnT f) vs H Q

structure RowOk (W : Wd) (F : Frag) : Prop where
  O : W.Ok
  C : ClsOk W F
  G : GlobOk W
  fns : ∀ f ∈ ownNames, f ≠ "Walker" → ∃ a, (∃ mg, W.h₀.Ns mainGlobals mg ∧ mg f = some (.ref a)) ∧ FnOk' W a (fnT f)
  mes : ∀ m ∈ methNames, ∃ a, findIn F (.ref W.C) m = some (some (.ref a)) ∧ FnOk' W a (fnM m)
  cls : (∃ mg, W.h₀.Ns mainGlobals mg ∧ mg "Walker" = some (.ref W.C)) ∧ makesIn F W.C = true ∧ ∃ fI, findIn F (.ref W.C) "__init__" = some (some (.ref fI)) ∧ typeIn F (.ref fI) = some (.type "function") ∧ FnOk' W fI (fnM "__init__")

theorem CallOk.le {W : Wd} {n m : Nat} {v : Value} {S : List GV → GH → (GV → GH → Prop) → Prop} (h : CallOk W n v S) (l : n ≤ m) : CallOk W m v S :=
  ⟨h.1, fun A K H s vs gs Q rm x e q => h.2 A K H s vs gs Q (rm.le l) x e q⟩

theorem ctx {W : Wd} {F : Frag} (R : RowOk W F) : ∀ k, Ctx W F (PhiS k) (2 * k) := by
  intro k
  induction k with
  | zero =>
    refine ⟨R.O, R.C, R.G, ⟨fun f hf => ?_, fun m hm v hv => ?_⟩, dictCall R.O⟩
    · by_cases hw : f = "Walker"
      · subst hw
        obtain ⟨hg, hm, fI, h1, h2, h3⟩ := R.cls
        refine ⟨_, hg, fun A s Q E k q => ?_, fun A K H s vs gs Q _ _ _ h => h.elim⟩
        have Y := makes_of (M := model W.prog W.w) (R.C.inn.keeps k) hm
        obtain ⟨oc, od, cd, sl, hC, _⟩ := Y.obj
        unfold keeperOf
        refine wpAny_bind (wpAny_load hC ?_)
        dsimp only
        refine wpAny_bind (Y.call.here ?_)
        exact wpAny_pure (q _)
      · obtain ⟨a, hg, f⟩ := R.fns f hf hw
        obtain ⟨o, fd, ho, hd, _⟩ := f.fn
        exact ⟨_, hg, kk_fn ho hd, fun A K H s vs gs Q _ _ _ h => h.elim⟩
    · obtain ⟨a, h1, f⟩ := R.mes m hm
      rw [h1] at hv
      cases hv
      obtain ⟨o, fd, ho, hd, _⟩ := f.fn
      exact ⟨kk_fn ho hd, fun A K H s vs gs Q _ _ _ h => h.elim⟩
  | succ k ih =>
    refine ⟨R.O, R.C, R.G, ⟨fun f hf => ?_, fun m hm v hv => ?_⟩, dictCall R.O⟩
    · by_cases hw : f = "Walker"
      · subst hw
        obtain ⟨hg, hm, fI, h1, h2, h3⟩ := R.cls
        exact ⟨_, hg, callOk_make ih hm h1 h2 h3⟩
      · obtain ⟨a, hg, g⟩ := R.fns f hf hw
        have e : PhiS (k + 1) false f = gFn (PhiS k) (fnT f) := by funext vs H Q; simp [PhiS, hw]
        rw [e]
        exact ⟨_, hg, (callOk_def ih g).le (by omega)⟩
    · obtain ⟨a, h1, f⟩ := R.mes m hm
      rw [h1] at hv
      cases hv
      exact (callOk_def ih f).le (by omega)

theorem law_call {W : Wd} {F : Frag} (R : RowOk W F) {fa : Addr} (f : FnOk' W fa (fnT "law")) {A : Around} (rm : Room A 13) {K : Kp} {H : GH} {s : Shared} (x : HeapRep W K H s) {v : Value} {g : GV} (e : er v = some g) {Q : GV → GH → Prop} {Z : Result → Shared → Prop}
    (h : gFn (PhiS 6) (fnT "law") [g] H Q) (hZ : ∀ v g H' s', er v = some g → HeapRep W K H' s' → Q g H' → Z (.ok (.ret v)) s') : codeAny (model W.prog W.w) A (.call (.ref fa) ⟨[v], []⟩) Z s :=
  callCode_def (ctx R 6) f rm x (ers.cons e ers.nil) h hZ
theorem len1 {vs : List Value} (h : vs.length = 1) : ∃ a, vs = [a] := by
  cases vs with
  | nil => cases h
  | cons a r => exact ⟨a, by rw [List.eq_nil_of_length_eq_zero (Nat.succ.inj h)]⟩
theorem len2 {vs : List Value} (h : vs.length = 2) : ∃ a b, vs = [a, b] := by
  cases vs with
  | nil => cases h
  | cons a r => obtain ⟨b, e⟩ := len1 (Nat.succ.inj h); exact ⟨a, b, by rw [e]⟩
theorem len3 {vs : List Value} (h : vs.length = 3) : ∃ a b c, vs = [a, b, c] := by
  cases vs with
  | nil => cases h
  | cons a r => obtain ⟨b, c, e⟩ := len2 (Nat.succ.inj h); exact ⟨a, b, c, by rw [e]⟩
theorem len4 {vs : List Value} (h : vs.length = 4) : ∃ a b c d, vs = [a, b, c, d] := by
  cases vs with
  | nil => cases h
  | cons a r => obtain ⟨b, c, d, e⟩ := len3 (Nat.succ.inj h); exact ⟨a, b, c, d, by rw [e]⟩

-- T1
abbrev Wr (prog : Program) (w : World) (s₁ : Shared) : Wd := ⟨prog, w, s₁.heap, s₁, (59 : Nat)⟩

theorem fnOk_init {prog : Program} {w : World} {s₁ : Shared} (KX : (hd.heap_39 w.params).In s₁.heap) : FnOk' (Wr prog w s₁) (28 : Nat) (fnM "__init__") := by
  have e := KX (28 : Nat) _ rfl
  refine ⟨⟨_, _, e, rfl, by kernel_rfl, rfl, rfl, rfl, codeRec_of KX (by kernel_rfl), by kernel_rfl, rfl, rfl, rfl, ?_⟩, by kernel_rfl⟩
  intro vals hv
  obtain ⟨a, b, rfl⟩ := len2 hv
  rfl
theorem fnOk_enter {prog : Program} {w : World} {s₁ : Shared} (KX : (hd.heap_39 w.params).In s₁.heap) : FnOk' (Wr prog w s₁) (35 : Nat) (fnM "enter") := by
  have e := KX (35 : Nat) _ rfl
  refine ⟨⟨_, _, e, rfl, by kernel_rfl, rfl, rfl, rfl, codeRec_of KX (by kernel_rfl), by kernel_rfl, rfl, rfl, rfl, ?_⟩, by kernel_rfl⟩
  intro vals hv
  obtain ⟨a, b, rfl⟩ := len2 hv
  rfl
theorem fnOk_leave {prog : Program} {w : World} {s₁ : Shared} (KX : (hd.heap_39 w.params).In s₁.heap) : FnOk' (Wr prog w s₁) (42 : Nat) (fnM "leave") := by
  have e := KX (42 : Nat) _ rfl
  refine ⟨⟨_, _, e, rfl, by kernel_rfl, rfl, rfl, rfl, codeRec_of KX (by kernel_rfl), by kernel_rfl, rfl, rfl, rfl, ?_⟩, by kernel_rfl⟩
  intro vals hv
  obtain ⟨a, b, rfl⟩ := len2 hv
  rfl
theorem fnOk_walk {prog : Program} {w : World} {s₁ : Shared} (KX : (hd.heap_39 w.params).In s₁.heap) : FnOk' (Wr prog w s₁) (49 : Nat) (fnM "walk") := by
  have e := KX (49 : Nat) _ rfl
  refine ⟨⟨_, _, e, rfl, by kernel_rfl, rfl, rfl, rfl, codeRec_of KX (by kernel_rfl), by kernel_rfl, rfl, rfl, rfl, ?_⟩, by kernel_rfl⟩
  intro vals hv
  obtain ⟨a, b, rfl⟩ := len2 hv
  rfl
theorem fnOk_look {prog : Program} {w : World} {s₁ : Shared} (KX : (hd.heap_39 w.params).In s₁.heap) : FnOk' (Wr prog w s₁) (56 : Nat) (fnM "look") := by
  have e := KX (56 : Nat) _ rfl
  refine ⟨⟨_, _, e, rfl, by kernel_rfl, rfl, rfl, rfl, codeRec_of KX (by kernel_rfl), by kernel_rfl, rfl, rfl, rfl, ?_⟩, by kernel_rfl⟩
  intro vals hv
  obtain ⟨a, b, c, d, rfl⟩ := len4 hv
  rfl
theorem fnOk_strong_groups {prog : Program} {w : World} {s₁ : Shared} (KX : (hd.heap_39 w.params).In s₁.heap) : FnOk' (Wr prog w s₁) (68 : Nat) (fnT "strong_groups") := by
  have e := KX (68 : Nat) _ rfl
  refine ⟨⟨_, _, e, rfl, by kernel_rfl, rfl, rfl, rfl, codeRec_of KX (by kernel_rfl), by kernel_rfl, rfl, rfl, rfl, ?_⟩, by kernel_rfl⟩
  intro vals hv
  obtain ⟨a, b, rfl⟩ := len2 hv
  rfl
theorem fnOk_is_round {prog : Program} {w : World} {s₁ : Shared} (KX : (hd.heap_39 w.params).In s₁.heap) : FnOk' (Wr prog w s₁) (75 : Nat) (fnT "is_round") := by
  have e := KX (75 : Nat) _ rfl
  refine ⟨⟨_, _, e, rfl, by kernel_rfl, rfl, rfl, rfl, codeRec_of KX (by kernel_rfl), by kernel_rfl, rfl, rfl, rfl, ?_⟩, by kernel_rfl⟩
  intro vals hv
  obtain ⟨a, b, rfl⟩ := len2 hv
  rfl
theorem fnOk_law_pool {prog : Program} {w : World} {s₁ : Shared} (KX : (hd.heap_39 w.params).In s₁.heap) : FnOk' (Wr prog w s₁) (82 : Nat) (fnT "_law_pool") := by
  have e := KX (82 : Nat) _ rfl
  refine ⟨⟨_, _, e, rfl, by kernel_rfl, rfl, rfl, rfl, codeRec_of KX (by kernel_rfl), by kernel_rfl, rfl, rfl, rfl, ?_⟩, by kernel_rfl⟩
  intro vals hv
  obtain ⟨a, b, rfl⟩ := len2 hv
  rfl
theorem fnOk_law_take {prog : Program} {w : World} {s₁ : Shared} (KX : (hd.heap_39 w.params).In s₁.heap) : FnOk' (Wr prog w s₁) (89 : Nat) (fnT "_law_take") := by
  have e := KX (89 : Nat) _ rfl
  refine ⟨⟨_, _, e, rfl, by kernel_rfl, rfl, rfl, rfl, codeRec_of KX (by kernel_rfl), by kernel_rfl, rfl, rfl, rfl, ?_⟩, by kernel_rfl⟩
  intro vals hv
  obtain ⟨a, b, rfl⟩ := len2 hv
  rfl
theorem fnOk_law_one {prog : Program} {w : World} {s₁ : Shared} (KX : (hd.heap_39 w.params).In s₁.heap) : FnOk' (Wr prog w s₁) (96 : Nat) (fnT "_law_one") := by
  have e := KX (96 : Nat) _ rfl
  refine ⟨⟨_, _, e, rfl, by kernel_rfl, rfl, rfl, rfl, codeRec_of KX (by kernel_rfl), by kernel_rfl, rfl, rfl, rfl, ?_⟩, by kernel_rfl⟩
  intro vals hv
  obtain ⟨a, b, rfl⟩ := len2 hv
  rfl
theorem fnOk_law_drawn {prog : Program} {w : World} {s₁ : Shared} (KX : (hd.heap_39 w.params).In s₁.heap) : FnOk' (Wr prog w s₁) (101 : Nat) (fnT "_law_drawn") := by
  have e := KX (101 : Nat) _ rfl
  refine ⟨⟨_, _, e, rfl, by kernel_rfl, rfl, rfl, rfl, codeRec_of KX (by kernel_rfl), by kernel_rfl, rfl, rfl, rfl, ?_⟩, by kernel_rfl⟩
  intro vals hv
  obtain ⟨a, rfl⟩ := len1 hv
  rfl
theorem fnOk_law_reached {prog : Program} {w : World} {s₁ : Shared} (KX : (hd.heap_39 w.params).In s₁.heap) : FnOk' (Wr prog w s₁) (106 : Nat) (fnT "_law_reached") := by
  have e := KX (106 : Nat) _ rfl
  refine ⟨⟨_, _, e, rfl, by kernel_rfl, rfl, rfl, rfl, codeRec_of KX (by kernel_rfl), by kernel_rfl, rfl, rfl, rfl, ?_⟩, by kernel_rfl⟩
  intro vals hv
  obtain ⟨a, b, rfl⟩ := len2 hv
  rfl
theorem fnOk_law_groups_right {prog : Program} {w : World} {s₁ : Shared} (KX : (hd.heap_39 w.params).In s₁.heap) : FnOk' (Wr prog w s₁) (111 : Nat) (fnT "_law_groups_right") := by
  have e := KX (111 : Nat) _ rfl
  refine ⟨⟨_, _, e, rfl, by kernel_rfl, rfl, rfl, rfl, codeRec_of KX (by kernel_rfl), by kernel_rfl, rfl, rfl, rfl, ?_⟩, by kernel_rfl⟩
  intro vals hv
  obtain ⟨a, b, c, rfl⟩ := len3 hv
  rfl
theorem fnOk_law {prog : Program} {w : World} {s₁ : Shared} (KX : (hd.heap_39 w.params).In s₁.heap) : FnOk' (Wr prog w s₁) (118 : Nat) (fnT "law") := by
  have e := KX (118 : Nat) _ rfl
  refine ⟨⟨_, _, e, rfl, by kernel_rfl, rfl, rfl, rfl, codeRec_of KX (by kernel_rfl), by kernel_rfl, rfl, rfl, rfl, ?_⟩, by kernel_rfl⟩
  intro vals hv
  obtain ⟨a, rfl⟩ := len1 hv
  rfl

theorem bvals_ok {p : Str × Value} (hp : p ∈ bVals) : bootBuiltins p.1 = some p.2 ∧ p.1 ≠ ("__name__" : Str) := by
  simp only [bVals, List.mem_cons, List.not_mem_nil, or_false] at hp
  rcases hp with rfl | rfl | rfl | rfl | rfl | rfl | rfl <;> exact ⟨by kernel_rfl, by decide⟩
theorem bvals_none {P : Params} {p : Str × Value} (hp : p ∈ bVals) : nsIn (hd.heap_39 P) mainGlobals p.1 = some none := by
  simp only [bVals, List.mem_cons, List.not_mem_nil, or_false] at hp
  rcases hp with rfl | rfl | rfl | rfl | rfl | rfl | rfl <;> kernel_rfl

theorem rowOk {prog p : Program} {w : World} {s₁ : Shared} {loose : List Str} {mean : ExcName → Option Value} {mg mb : Str → Option Value} (KX : (hd.heap_39 w.params).In s₁.heap) (T : Top p loose mean mg mb s₁.heap) (hi : ∃ o, s₁.heap.get? sysModules = some o) : RowOk (Wr prog w s₁) (hd.heap_39 w.params) := by
  have gm : ∀ {n : Str} {v : Value}, nsIn (hd.heap_39 w.params) mainGlobals n = some (some v) → ∃ mg, s₁.heap.Ns mainGlobals mg ∧ mg n = some v := fun e => ⟨mg, T.g, mg_of KX T.g e⟩
  refine ⟨⟨?_, T.nolimit⟩, ⟨KX, by kernel_rfl, by kernel_rfl, by kernel_rfl, by kernel_rfl, by kernel_rfl, ?_, ?_⟩, ⟨mg, mb, T.g, T.b, fun q hq => ⟨mg_none_of KX T.g (bvals_none hq), (T.builtins _ (bvals_ok hq).2).trans (bvals_ok hq).1⟩⟩, ?_, ?_, ?_⟩
  · exact hi
  · intro n hn
    simp only [attrNames, List.mem_cons, List.not_mem_nil, or_false] at hn
    rcases hn with rfl | rfl | rfl | rfl | rfl | rfl <;> kernel_rfl
  · intro n hn
    simp only [methNames, List.mem_cons, List.not_mem_nil, or_false] at hn
    rcases hn with rfl | rfl | rfl | rfl
    · exact ⟨(35 : Nat), by kernel_rfl, by kernel_rfl⟩
    · exact ⟨(42 : Nat), by kernel_rfl, by kernel_rfl⟩
    · exact ⟨(49 : Nat), by kernel_rfl, by kernel_rfl⟩
    · exact ⟨(56 : Nat), by kernel_rfl, by kernel_rfl⟩
  · intro f hf hw
    simp only [ownNames, List.mem_cons, List.not_mem_nil, or_false] at hf
    rcases hf with rfl | rfl | rfl | rfl | rfl | rfl | rfl | rfl | rfl
    · exact ⟨(82 : Nat), gm (by kernel_rfl), fnOk_law_pool KX⟩
    · exact ⟨(89 : Nat), gm (by kernel_rfl), fnOk_law_take KX⟩
    · exact ⟨(96 : Nat), gm (by kernel_rfl), fnOk_law_one KX⟩
    · exact ⟨(101 : Nat), gm (by kernel_rfl), fnOk_law_drawn KX⟩
    · exact ⟨(106 : Nat), gm (by kernel_rfl), fnOk_law_reached KX⟩
    · exact ⟨(68 : Nat), gm (by kernel_rfl), fnOk_strong_groups KX⟩
    · exact ⟨(111 : Nat), gm (by kernel_rfl), fnOk_law_groups_right KX⟩
    · exact ⟨(75 : Nat), gm (by kernel_rfl), fnOk_is_round KX⟩
    · exact absurd rfl hw
  · intro m hm
    simp only [methNames, List.mem_cons, List.not_mem_nil, or_false] at hm
    rcases hm with rfl | rfl | rfl | rfl
    · exact ⟨(35 : Nat), by kernel_rfl, fnOk_enter KX⟩
    · exact ⟨(42 : Nat), by kernel_rfl, fnOk_leave KX⟩
    · exact ⟨(49 : Nat), by kernel_rfl, fnOk_walk KX⟩
    · exact ⟨(56 : Nat), by kernel_rfl, fnOk_look KX⟩
  · exact ⟨gm (by kernel_rfl), by kernel_rfl, (28 : Nat), by kernel_rfl, by kernel_rfl, fnOk_init KX⟩

-- T2
noncomputable def LawG : Prop := ∀ (a : Addr) (ns : List Int) (H : GH), H a = some (.flist (ns.map .int)) → ns.length ≤ 63 → gFn (PhiS 6) (fnT "law") [.ref a] H fun v _ => v = .bool true

theorem room13 : Room callerA 13 := ⟨rfl, by decide, by decide⟩

theorem law_ends {prog p : Program} {w : World} {s₁ : Shared} {loose : List Str} {mean : ExcName → Option Value} {mg mb : Str → Option Value} (LG : LawG) (KX : (hd.heap_39 w.params).In s₁.heap) (T : Top p loose mean mg mb s₁.heap) (hi : ∃ o, s₁.heap.get? sysModules = some o)
    {a : Addr} {vs : List Value} {ns : List Int} (hL : s₁.heap.IsList a vs.toArray) (hI : IntsAre vs ns) (hn : ns.length ≤ 63) {Z : Result → Shared → Prop}
    (hZ : ∀ s', (∀ b o, s₁.heap.get? b = some o → s'.heap.get? b = some o) → s'.os = s₁.os → s'.gens = s₁.gens → Z (.ok (.ret (.bool true))) s') : codeAny (model prog w) callerA (.call (.ref (118 : Nat)) ⟨[.ref a], []⟩) Z s₁ := by
  have R := rowOk (prog := prog) KX T hi
  have X : HeapRep (Wr prog w s₁) (fun b o => s₁.heap.get? b = some o) (fun b => if b = a then some (.flist (ns.map .int)) else none) s₁ := by
    refine ⟨⟨s₁.heap, s₁.toks, rfl⟩, fun b o e => e, fun b o e => e, fun b g e => ?_, fun b g e hf => ?_, fun b g e hf => ?_⟩
    · split at e
      · rename_i h; subst h; cases e; exact ⟨vs, hL, ints_ers hI⟩
      · cases e
    · split at e
      · cases e; cases hf
      · cases e
    · split at e
      · rename_i h; subst h; cases e; obtain ⟨o, e, _⟩ := hL; exact ⟨o, e⟩
      · cases e
  refine law_call R (fnOk_law KX) room13 X (v := .ref a) (g := .ref a) rfl (LG a ns _ (by simp) hn) fun v g H' s' e x' q => ?_
  subst q
  obtain rfl := er_bool e
  obtain ⟨h, tk, hs⟩ := x'.same
  subst hs
  exact hZ _ (fun b o e => x'.keep b o e) rfl rfl

theorem holds (LG : LawG) : PySem.Challenge.rw_np0228_01.Holds := Gh.hd (by
  k_fill
  intro w s₀ s₁ mg mb G Y fa o pm cd doc dV kV ho hd hcd hD hmg hg args vals as hpre hlay hrd hwl hlo
  have KX := kIn_of Y
  have X := (Ground.X G).1
  have V := (Ground.X G).2
  refine Ground.open G ?_
  intro T B D TE TW
  try (refine guard_noD D (by decide +kernel) ?_; clear D)
  obtain ⟨_, _, M⟩ := bmod_of_top T
  have TA := at_of_top T
  try (obtain ⟨_, _, he, B0⟩ := based_of_top T rfl hmg ho hd; have he' : cd = _ := he; subst he'; clear he)
  wrow_args hpre hlay hrd hwl hlo
  refine enter_call ?_
  w_top on
  refine codeAny_mono ?_ (fun _ _ g => GoodW.toG g)
  have K0 := below_caller (Top.heap T)
  have hfa : fa = (118 : Nat) := by
    have e := mg_of KX T.g (n := "law") (v := .ref (118 : Nat)) (by kernel_rfl)
    have e' := hmg.symm.trans e
    injection e' with e'
    injection e'
  subst hfa
  refine law_ends LG KX T (let ⟨_, ⟨o, _, _, e, _⟩, _⟩ := (T.seer (by decide +kernel)).mods; ⟨o, e⟩) (by assumption) (by assumption) (by omega) fun s' k ho hg' => ?_
  refine ⟨.inl ⟨.bool true, .bool true, [], rfl, fun _ => rfl, .bool true, ?_, fun _ => ⟨List.nodup_nil, nofun⟩⟩, k, ho, hg'.trans hg⟩
  · kernel_rfl)

-- P1
theorem lk_cons {α : Type} (p : Str × α) (r : List (Str × α)) (x : Str) : (p :: r).lookup x = if x = p.1 then some p.2 else r.lookup x := by
  rw [List.lookup_cons]
  by_cases h : x = p.1
  · simp [h]
  · simp [h, beq_eq_false_iff_ne.mpr h]
theorem lk_nil {α : Type} (x : Str) : ([] : List (Str × α)).lookup x = none := rfl
theorem ex_some {α : Type} {a : α} {P : α → Prop} : (∃ v, some a = some v ∧ P v) ↔ P a := by
  constructor
  · rintro ⟨v, h, p⟩; cases h; exact p
  · exact fun p => ⟨a, rfl, p⟩
theorem beq_ff (a b : Str) : ((a == b) = false) ↔ ¬ a = b := beq_eq_false_iff_ne

-- a dict by its keys and a function
noncomputable def dm (V : List Str) (f : Str → GV) : List (Str × GV) := V.map fun x => (x, f x)
noncomputable def upd {α : Type} (f : Str → α) (k : Str) (v : α) : Str → α := fun x => if x = k then v else f x
theorem upd_same {α : Type} (f : Str → α) (k : Str) (v : α) : upd f k v k = v := by simp [upd]
theorem upd_ne {α : Type} (f : Str → α) {k x : Str} (v : α) (h : x ≠ k) : upd f k v x = f x := by simp [upd, h]
theorem dm_length (V : List Str) (f : Str → GV) : (dm V f).length = V.length := by simp [dm]
theorem dm_lookup (V : List Str) (f : Str → GV) (k : Str) : (dm V f).lookup k = if k ∈ V then some (f k) else none := by
  induction V with
  | nil => rfl
  | cons x r ih =>
    show List.lookup k ((x, f x) :: dm r f) = _
    rw [lk_cons, ih]
    by_cases h : k = x
    · simp [h]
    · simp [h]
theorem dm_congr {V : List Str} {f g : Str → GV} (h : ∀ x ∈ V, f x = g x) : dm V f = dm V g := by
  unfold dm
  exact List.map_congr_left fun x hx => by rw [h x hx]
theorem put_dm_new {V : List Str} {f : Str → GV} {k : Str} {v : GV} (h : k ∉ V) : put k v (dm V f) = dm (V ++ [k]) (upd f k v) := by
  induction V with
  | nil => simp [dm, put, upd]
  | cons x r ih =>
    simp only [List.mem_cons, not_or] at h
    show put k v ((x, f x) :: dm r f) = (x, upd f k v x) :: dm (r ++ [k]) (upd f k v)
    unfold put
    rw [if_neg (fun e => h.1 e.symm), ih h.2, upd_ne _ _ (fun e => h.1 e.symm)]
theorem put_dm_mem {V : List Str} {f : Str → GV} {k : Str} {v : GV} (nd : V.Nodup) (h : k ∈ V) : put k v (dm V f) = dm V (upd f k v) := by
  induction V with
  | nil => cases h
  | cons x r ih =>
    rw [List.nodup_cons] at nd
    show put k v ((x, f x) :: dm r f) = (x, upd f k v x) :: dm r (upd f k v)
    unfold put
    by_cases e : x = k
    · subst e
      rw [if_pos rfl, upd_same]
      rw [dm_congr (f := upd f x v) (g := f) fun y hy => upd_ne _ _ fun e => nd.1 (e ▸ hy)]
    · rw [if_neg e, upd_ne _ _ e, ih nd.2]
      rcases List.mem_cons.mp h with h | h
      · exact absurd h.symm e
      · exact h

theorem hset_self (H : GH) (a : Addr) (o : GO) : hset H a o a = some o := by simp [hset]
theorem hset_ne (H : GH) {a b : Addr} (o : GO) (h : b ≠ a) : hset H a o b = H b := by simp [hset, h]

-- all that stood stands
noncomputable def Le (H H' : GH) : Prop := ∀ b o, H b = some o → H' b = some o
theorem Le.refl (H : GH) : Le H H := fun _ _ e => e
theorem Le.trans {H H' H'' : GH} (h : Le H H') (k : Le H' H'') : Le H H'' := fun b o e => k b o (h b o e)
theorem Le.new {H : GH} {a : Addr} (o : GO) (h : H a = none) : Le H (hset H a o) := fun b o' e => by
  rw [hset_ne]
  · exact e
  · rintro rfl; rw [h] at e; cases e
theorem Le.set {H H₀ : GH} {a : Addr} (o : GO) (h : H₀ a = none) (l : Le H₀ H) : Le H₀ (hset H a o) := fun b o' e => by
  rw [hset_ne]
  · exact l b o' e
  · rintro rfl; rw [h] at e; cases e

theorem strs_map (l : List Str) : strs? (l.map .str) = some l := by
  induction l with
  | nil => rfl
  | cons x r ih => simp [strs?, ih]
theorem ints_map (l : List Int) : ints? (l.map .int) = some l := by
  induction l with
  | nil => rfl
  | cons x r ih => simp [ints?, ih]

-- for, by induction
theorem for_ind {α : Type} {kd : Kd} {x : Str} {a : Addr} {o : GO} {body : Loc → GH → (GF → Loc → GH → Prop) → Prop} {c : α → GV} {Q : GF → Loc → GH → Prop} (I : List α → Loc → GH → Prop) {l : List α}
    (step : ∀ done v rest ρ H (K : Loc → GH → Prop), l = done ++ v :: rest → I done ρ H → (∀ ρ' H', I (done ++ [v]) ρ' H' → K ρ' H') →
      H a = some o ∧ (kd x = some .local ∨ kd x = some .cell) ∧ body (lset ρ x (c v)) H fun f ρ'' H' => match f with
        | .next => K ρ'' H'
        | .ret y => Q (.ret y) ρ'' H')
    (fin : ∀ ρ H, I l ρ H → H a = some o ∧ Q .next ρ H) {ρ : Loc} {H : GH} (h : I [] ρ H) : gFor kd x a o body (l.map c) ρ H Q := by
  suffices key : ∀ rest done ρ H, l = done ++ rest → I done ρ H → gFor kd x a o body (rest.map c) ρ H Q from key l [] ρ H rfl h
  intro rest
  induction rest with
  | nil => intro done ρ H e h; rw [List.append_nil] at e; subst e; exact fin ρ H h
  | cons v rest ih =>
    intro done ρ H e h
    obtain ⟨h1, h2, h3⟩ := step done v rest ρ H (fun ρ' H' => gFor kd x a o body (rest.map c) ρ' H' Q) e h fun ρ' H' h' => ih (done ++ [v]) ρ' H' (by rw [e]; simp) h'
    exact ⟨h1, h2, h3⟩

-- a comprehension, by induction
theorem comp_ind {α : Type} {a : Addr} {o : GO} {cond : GV → GH → (Bool → GH → Prop) → Prop} {el : GV → EM} {c : α → GV} {Q : List GV → GH → Prop} (I : List α → List GV → GH → Prop) {l : List α}
    (step : ∀ done v rest acc H (K : List GV → GH → Prop), l = done ++ v :: rest → I done acc H → (∀ acc' H', I (done ++ [v]) acc' H' → K acc' H') →
      H a = some o ∧ cond (c v) H fun b H₁ => if b then el (c v) H₁ fun y H₂ => K (acc ++ [y]) H₂ else K acc H₁)
    (fin : ∀ acc H, I l acc H → H a = some o ∧ Q acc H) {acc : List GV} {H : GH} (h : I [] acc H) : gCompL a o cond el (l.map c) H acc Q := by
  suffices key : ∀ rest done acc H, l = done ++ rest → I done acc H → gCompL a o cond el (rest.map c) H acc Q from key l [] acc H rfl h
  intro rest
  induction rest with
  | nil => intro done acc H e h; rw [List.append_nil] at e; subst e; exact fin acc H h
  | cons v rest ih =>
    intro done acc H e h
    obtain ⟨h1, h2⟩ := step done v rest acc H (fun acc' H' => gCompL a o cond el (rest.map c) H' acc' Q) e h fun acc' H' h' => ih (done ++ [v]) acc' H' (by rw [e]; simp) h'
    exact ⟨h1, h2⟩

-- a filter
theorem comp_filter {a : Addr} {o : GO} {cond : GV → GH → (Bool → GH → Prop) → Prop} {el : GV → EM} {Q : List GV → GH → Prop} (J : GH → Prop) (p : Str → Bool) {l : List Str} (ho : ∀ H, J H → H a = some o)
    (hc : ∀ v ∈ l, ∀ H K, J H → (∀ H', J H' → K (p v) H') → cond (.str v) H K) (he : ∀ v H K, K (.str v) H → el (.str v) H K) {H : GH} (h : J H) (q : ∀ H', J H' → Q ((l.filter p).map .str) H') : gCompL a o cond el (l.map .str) H [] Q := by
  refine comp_ind (fun done acc H => acc = (done.filter p).map .str ∧ J H) (fun done v rest acc H K e ⟨h1, h2⟩ k => ⟨ho H h2, hc v (by rw [e]; simp) H _ h2 fun H' h' => ?_⟩) (fun acc H ⟨h1, h2⟩ => ⟨ho H h2, by rw [h1]; exact q H h2⟩) ⟨rfl, h⟩
  cases hp : p v with
  | true =>
    simp only [if_true]
    refine he _ _ _ (k _ _ ⟨?_, h'⟩)
    rw [List.filter_append, h1, List.map_append]
    simp [hp]
  | false =>
    simp only [Bool.false_eq_true, if_false]
    refine k _ _ ⟨?_, h'⟩
    rw [List.filter_append, h1]
    simp [hp]
-- a map
theorem comp_map {α : Type} {a : Addr} {o : GO} {cond : GV → GH → (Bool → GH → Prop) → Prop} {el : GV → EM} {c : α → GV} {Q : List GV → GH → Prop} (J : GH → Prop) (f : α → GV) {l : List α} (ho : ∀ H, J H → H a = some o)
    (hc : ∀ v ∈ l, ∀ H K, J H → (∀ H', J H' → K true H') → cond (c v) H K) (he : ∀ v ∈ l, ∀ H K, J H → (∀ H', J H' → K (f v) H') → el (c v) H K) {H : GH} (h : J H) (q : ∀ H', J H' → Q (l.map f) H') : gCompL a o cond el (l.map c) H [] Q := by
  refine comp_ind (fun done acc H => acc = done.map f ∧ J H) (fun done v rest acc H K e ⟨h1, h2⟩ k => ⟨ho H h2, hc v (by rw [e]; simp) H _ h2 fun H' h' => ?_⟩) (fun acc H ⟨h1, h2⟩ => ⟨ho H h2, by rw [h1]; exact q H h2⟩) ⟨rfl, h⟩
  simp only [if_true]
  refine he v (by rw [e]; simp) _ _ h' fun H' h'' => k _ _ ⟨?_, h''⟩
  rw [h1]; simp


theorem ga {a dx : Addr} {kvs : List (Str × GV)} {n : Str} {v : GV} {H : GH} {Q : GV → GH → Prop} (hn : n ∈ attrNames) (h1 : H a = some (.inst dx)) (h2 : H dx = some (.attrs kvs)) (h3 : kvs.lookup n = some v) (q : Q v H) : gGetAttr (.ref a) n H Q := ⟨hn, dx, kvs, v, h1, h2, h3, q⟩
theorem gi_dict {a : Addr} {k : Str} {V : List Str} {f : Str → GV} {H : GH} {Q : GV → GH → Prop} (h : H a = some (.dict (dm V f))) (hk : k ∈ V) (q : Q (f k) H) : gItem (.ref a) (.str k) H Q := ⟨_, _, h, by rw [dm_lookup, if_pos hk], q⟩
theorem gi_list {a : Addr} {i : Int} {l : List GV} {v : GV} {H : GH} {Q : GV → GH → Prop} (h : H a = some (.list l)) (hb : l.length ≤ bnd) (h0 : 0 ≤ i) (hv : l[i.toNat]? = some v) (q : Q v H) : gItem (.ref a) (.int i) H Q := by
  obtain ⟨hl, _⟩ := List.getElem?_eq_some_iff.mp hv
  refine ⟨l, i.toNat, v, .inl h, hb, ?_, hv, q⟩
  unfold gIdx
  rw [if_pos h0, if_pos (by omega)]
theorem gi_last {a : Addr} {l : List GV} {v : GV} {H : GH} {Q : GV → GH → Prop} (h : H a = some (.list (l ++ [v]))) (hb : (l ++ [v]).length ≤ bnd) (q : Q v H) : gItem (.ref a) (.int (-1)) H Q := by
  refine ⟨_, l.length, v, .inl h, hb, ?_, by simp, q⟩
  unfold gIdx
  rw [if_neg (by decide), if_pos (by simp only [List.length_append, List.length_cons, List.length_nil]; omega)]
  congr 1
  simp only [List.length_append, List.length_cons, List.length_nil]
  omega
theorem gsi_new {a : Addr} {k : Str} {V : List Str} {f : Str → GV} {v : GV} {H : GH} {Q : GH → Prop} (h : H a = some (.dict (dm V f))) (hb : V.length ≤ bnd) (hk : k ∉ V) (q : Q (hset H a (.dict (dm (V ++ [k]) (upd f k v))))) : gSetItem (.ref a) (.str k) v H Q :=
  ⟨_, h, by rw [dm_length]; exact hb, by rw [put_dm_new hk]; exact q⟩
theorem gsi_mem {a : Addr} {k : Str} {V : List Str} {f : Str → GV} {v : GV} {H : GH} {Q : GH → Prop} (h : H a = some (.dict (dm V f))) (hb : V.length ≤ bnd) (nd : V.Nodup) (hk : k ∈ V) (q : Q (hset H a (.dict (dm V (upd f k v))))) : gSetItem (.ref a) (.str k) v H Q :=
  ⟨_, h, by rw [dm_length]; exact hb, by rw [put_dm_mem nd hk]; exact q⟩
theorem len_dict {Φ : Spec} {a : Addr} {V : List Str} {f : Str → GV} {H : GH} {Q : GV → GH → Prop} (h : H a = some (.dict (dm V f))) (hb : V.length ≤ bnd) (q : Q (.int V.length) H) : gCall Φ "len" [.ref a] H Q := by
  unfold gCall
  rw [if_pos rfl]
  exact .inr ⟨_, h, by rw [dm_length]; exact hb, by rw [dm_length]; exact q⟩
theorem len_list {Φ : Spec} {a : Addr} {l : List GV} {H : GH} {Q : GV → GH → Prop} (h : H a = some (.list l)) (hb : l.length ≤ bnd) (q : Q (.int l.length) H) : gCall Φ "len" [.ref a] H Q := by
  unfold gCall
  rw [if_pos rfl]
  exact .inl ⟨_, .inl h, hb, q⟩
theorem m_append {a : Addr} {l : List GV} {v : GV} {H : GH} {Q : GV → GH → Prop} (h : H a = some (.list l)) (hb : l.length < bnd) (q : Q .none (hset H a (.list (l ++ [v])))) : gListMeth "append" a [v] H Q :=
  ⟨l, h, hb, by rw [if_pos rfl]; exact q⟩
theorem m_pop {a : Addr} {l : List GV} {v : GV} {H : GH} {Q : GV → GH → Prop} (h : H a = some (.list (l ++ [v]))) (hb : (l ++ [v]).length < bnd) (q : Q v (hset H a (.list l))) : gListMeth "pop" a [] H Q :=
  ⟨_, h, hb, by rw [if_neg (by decide), if_pos rfl]; exact ⟨l, v, rfl, q⟩⟩
theorem m_pop_at {a : Addr} {i : Int} {l : List GV} {v : GV} {H : GH} {Q : GV → GH → Prop} (h : H a = some (.list l)) (hb : l.length < bnd) (h0 : 0 ≤ i) (hv : l[i.toNat]? = some v) (q : Q v (hset H a (.list (l.eraseIdx i.toNat)))) : gListMeth "pop" a [.int i] H Q :=
  ⟨_, h, hb, by rw [if_neg (by decide), if_pos rfl]; exact ⟨v, h0, hv, q⟩⟩
theorem m_get {a : Addr} {k : Str} {d : GV} {V : List Str} {f : Str → GV} {H : GH} {Q : GV → GH → Prop} (h : H a = some (.dict (dm V f))) (q : Q (if k ∈ V then f k else d) H) : gDictMeth "get" a [.str k, d] H Q :=
  ⟨_, h, by rw [if_pos rfl]; show Q (((dm V f).lookup k).getD d) H; rw [dm_lookup]; by_cases e : k ∈ V <;> simp_all⟩
theorem in_dict {a : Addr} {k : Str} {V : List Str} {f : Str → GV} {H : GH} {P : Bool → Prop} (h : H a = some (.dict (dm V f))) (q : P (decide (k ∈ V))) : gIn (.str k) (.ref a) H P :=
  .inr ⟨_, h, by rw [dm_lookup]; by_cases e : k ∈ V <;> simp_all⟩
theorem in_list {a : Addr} {k : Str} {l : List Str} {H : GH} {P : Bool → Prop} (h : H a = some (.list (l.map .str))) (hb : l.length ≤ bnd) (q : P (decide (k ∈ l))) : gIn (.str k) (.ref a) H P :=
  .inl ⟨_, l, h, strs_map l, hb, q⟩

section
variable {Φ : Spec} {n : Str} {a dx : Addr} {args : GH → (List GV → GH → Prop) → Prop} {H : GH} {Q : GV → GH → Prop}
theorem me_append {l : List GV} (h : H a = some (.list l)) (q : args H fun vs H₂ => gListMeth "append" a vs H₂ Q) : gMeth Φ "append" (.ref a) args H Q := by
  simp only [gMeth, h]; exact ⟨.inl trivial, q⟩
theorem me_pop {l : List GV} (h : H a = some (.list l)) (q : args H fun vs H₂ => gListMeth "pop" a vs H₂ Q) : gMeth Φ "pop" (.ref a) args H Q := by
  simp only [gMeth, h]; exact ⟨.inr trivial, q⟩
theorem me_get {l : List (Str × GV)} (h : H a = some (.dict l)) (q : args H fun vs H₂ => gDictMeth "get" a vs H₂ Q) : gMeth Φ "get" (.ref a) args H Q := by
  simp only [gMeth, h]; exact ⟨trivial, q⟩
theorem me_inst {kvs : List (Str × GV)} (h : H a = some (.inst dx)) (h2 : H dx = some (.attrs kvs)) (hn : n ∈ methNames) (hk : kvs.lookup n = none) (q : args H fun vs H₂ => Φ true n (.ref a :: vs) H₂ Q) : gMeth Φ n (.ref a) args H Q := by
  simp only [gMeth, h]; exact ⟨hn, ⟨kvs, h2, hk⟩, q⟩
theorem tr_bool {b : Bool} {P : Bool → Prop} (q : P b) : gTruth (.bool b) H P := q
theorem tr_list {l : List GV} {P : Bool → Prop} (h : H a = some (.list l)) (hb : l.length ≤ bnd) (q : P (!l.isEmpty)) : gTruth (.ref a) H P := ⟨l, h, hb, q⟩
end

section
variable {a b : GV} {i j : Int} {H : GH} {P : Bool → Prop} {Q : GV → GH → Prop}
theorem gCmp_eq : gCmp .Eq a b H P = gEq a b H P := rfl
theorem gCmp_ne : gCmp .NotEq a b H P = gEq a b H fun c => P (!c) := rfl
theorem gCmp_in : gCmp .In a b H P = gIn a b H P := rfl
theorem gCmp_nin : gCmp .NotIn a b H P = gIn a b H fun c => P (!c) := rfl
theorem gCmp_lt : gCmp .Lt (.int i) (.int j) H P = P (decide (i < j)) := rfl
theorem gCmp_gt : gCmp .Gt (.int i) (.int j) H P = P (decide (i > j)) := rfl
theorem gCmp_ge : gCmp .GtE (.int i) (.int j) H P = P (decide (i ≥ j)) := rfl
theorem gUn_neg : gUn .USub (.int i) H Q = Q (.int (-i)) H := rfl
theorem gUn_not : gUn .Not a H Q = gTruth a H fun b => Q (.bool (!b)) H := rfl
theorem gBin_add : gBin .Add (.int i) (.int j) H Q = Q (.int (i + j)) H := rfl
theorem gBin_sub : gBin .Sub (.int i) (.int j) H Q = Q (.int (i - j)) H := rfl
theorem gEq_int : gEq (.int i) (.int j) H P = P (decide (i = j)) := rfl
theorem gEq_bool {x y : Bool} : gEq (.bool x) (.bool y) H P = P (decide (x = y)) := rfl
theorem gEq_str {x y : Str} : gEq (.str x) (.str y) H P = P (decide (x = y)) := rfl
end
theorem nodup_len {α : Type} [DecidableEq α] : ∀ {l m : List α}, l.Nodup → (∀ x ∈ l, x ∈ m) → l.length ≤ m.length
  | [], _, _, _ => Nat.zero_le _
  | x :: r, m, nd, h => by
    rw [List.nodup_cons] at nd
    have hx := h x List.mem_cons_self
    have := nodup_len (l := r) (m := m.erase x) nd.2 fun y hy => by
      have hne : y ≠ x := fun e => nd.1 (e ▸ hy)
      exact (List.mem_erase_of_ne hne).mpr (h y (List.mem_cons_of_mem _ hy))
    rw [List.length_erase_of_mem hx] at this
    have hp := List.length_pos_of_mem hx
    simp only [List.length_cons]
    omega

theorem start {Φ : Spec} {f : Fn} (B : { x : Fn // x = f }) {vs : List GV} {H : GH} {Q : GV → GH → Prop} (hl : vs.length = B.1.params.length)
    (h : ∀ ρ : Loc, (∀ x, ρ x = ((B.1.params.zip vs).reverse).lookup x) → gSs Φ (kdL B.1.sc) B.1.body ρ H fun f _ H' => Q (retOf f) H') : gFn Φ f vs H Q := by
  obtain ⟨b, rfl⟩ := B
  exact ⟨hl, h _ fun _ => rfl⟩

theorem bnd50 : 100 ≤ bnd := by decide
theorem nb50 {n : Nat} (h : n ≤ 50) : n ≤ bnd := Nat.le_trans (Nat.le_trans h (by decide)) bnd50
theorem nb50s {n : Nat} (h : n < 50) : n ≤ bnd := nb50 (Nat.le_of_lt h)
theorem nb50t {n m : Nat} (h : n ≤ m) (k : m ≤ 50) : n ≤ bnd := nb50 (Nat.le_trans h k)
theorem nbm {α : Type} {f : α → GV} {l : List α} (h : l.length ≤ 50) : (l.map f).length ≤ bnd := by rw [List.length_map]; exact nb50 h
theorem nbl {α : Type} {f : α → GV} {l : List α} (h : l.length ≤ 50) : (l.map f).length < bnd := by rw [List.length_map]; exact Nat.lt_of_le_of_lt h (by decide)
theorem lset1 {ρ : Loc} {x y : Str} {v w : GV} (h : y ≠ x) (r : ρ y = some w) : lset ρ x v y = some w := by unfold lset; rw [if_neg h]; exact r
theorem lset2 {ρ : Loc} {x x' y : Str} {v v' w : GV} (h : y ≠ x) (h' : y ≠ x') (r : ρ y = some w) : lset (lset ρ x' v') x v y = some w := lset1 h (lset1 h' r)
theorem lset3 {ρ : Loc} {x x' x'' y : Str} {v v' v'' w : GV} (h : y ≠ x) (h' : y ≠ x') (h'' : y ≠ x'') (r : ρ y = some w) : lset (lset (lset ρ x'' v'') x' v') x v y = some w := lset1 h (lset2 h' h'' r)

theorem nb100 {n : Nat} (h : n ≤ 100) : n ≤ bnd := Nat.le_trans h bnd50
theorem nbm1 {α : Type} {f : α → GV} {l : List α} (h : l.length ≤ 100) : (l.map f).length ≤ bnd := by rw [List.length_map]; exact nb100 h
theorem nbr {α : Type} {f : α → GV} {l : List α} (h : l.length ≤ 100) : (l.reverse.map f).length ≤ bnd := by rw [List.length_map, List.length_reverse]; exact nb100 h
theorem nbk {α : Type} {f : α → GV} {l : List α} {i : Nat} (h : l.length ≤ 100) : ((l.take i).map f).length ≤ bnd := by rw [List.length_map, List.length_take]; exact nb100 (Nat.le_trans (Nat.min_le_right _ _) h)
theorem nb1 {α : Type} {f : α → GV} {l : List α} {v : GV} (h : l.length ≤ 100) : (l.reverse.map f ++ [v]).length < bnd := by
  rw [List.length_append, List.length_map, List.length_reverse]
  exact Nat.lt_of_le_of_lt (Nat.succ_le_succ h) (by decide)
theorem nbk1 {α : Type} {f : α → GV} {l : List α} {i : Nat} {v : GV} (h : l.length ≤ 100) : ((l.take i).map f ++ [v]).length < bnd := by
  rw [List.length_append, List.length_map, List.length_take]
  exact Nat.lt_of_le_of_lt (Nat.succ_le_succ (Nat.le_trans (Nat.min_le_right _ _) h)) (by decide)
theorem nbkl {α : Type} {f : α → GV} {l : List α} {i : Nat} (h : l.length ≤ 100) : ((l.take i).map f).length < bnd := by rw [List.length_map, List.length_take]; exact Nat.lt_of_le_of_lt (Nat.le_trans (Nat.min_le_right _ _) h) (by decide)

-- P2
set_option genInjectivity false in
structure WA where
  w : Addr
  dx : Addr
  u : Addr
  nu : Addr
  lo : Addr
  op : Addr
  io : Addr
  fo : Addr
noncomputable def WA.all (a : WA) : List Addr := [a.w, a.dx, a.u, a.nu, a.lo, a.op, a.io, a.fo]
noncomputable def attrsOf (a : WA) : List (Str × GV) := [("uses", .ref a.u), ("numbers", .ref a.nu), ("lows", .ref a.lo), ("open", .ref a.op), ("is_open", .ref a.io), ("found", .ref a.fo)]

structure WRaw (a : WA) (nu lo io : List (Str × GV)) (op fo : List GV) (H : GH) : Prop where
  nd : a.all.Nodup
  w : H a.w = some (.inst a.dx)
  dx : H a.dx = some (.attrs (attrsOf a))
  nu : H a.nu = some (.dict nu)
  lo : H a.lo = some (.dict lo)
  op : H a.op = some (.list op)
  io : H a.io = some (.dict io)
  fo : H a.fo = some (.list fo)
  u : ∃ o, H a.u = some o

theorem nodup_ne {l : List Addr} (nd : l.Nodup) (i j : Nat) (x y : Addr) (hx : l[i]? = some x) (hy : l[j]? = some y) (h : i ≠ j) : x ≠ y := by
  obtain ⟨hi, rfl⟩ := List.getElem?_eq_some_iff.mp hx
  obtain ⟨hj, rfl⟩ := List.getElem?_eq_some_iff.mp hy
  rcases Nat.lt_or_gt_of_ne h with g | g
  · exact (List.pairwise_iff_getElem.mp nd) i j hi hj g
  · exact Ne.symm ((List.pairwise_iff_getElem.mp nd) j i hj hi g)
section
variable {a : WA} {nu lo io : List (Str × GV)} {op fo : List GV} {H : GH}
theorem WRaw.frame (R : WRaw a nu lo io op fo H) {H' : GH} (h : ∀ b ∈ a.all, H' b = H b) : WRaw a nu lo io op fo H' := by
  simp only [WA.all, List.forall_mem_cons] at h
  obtain ⟨h1, h2, h3, h4, h5, h6, h7, h8, -⟩ := h
  exact ⟨R.nd, h1 ▸ R.w, h2 ▸ R.dx, h4 ▸ R.nu, h5 ▸ R.lo, h6 ▸ R.op, h7 ▸ R.io, h8 ▸ R.fo, h3 ▸ R.u⟩
theorem WRaw.setNu (R : WRaw a nu lo io op fo H) (v : List (Str × GV)) : WRaw a v lo io op fo (hset H a.nu (.dict v)) := by
  have k : ∀ b, b ≠ a.nu → ∀ o, H b = some o → hset H a.nu (.dict v) b = some o := fun b n o e => (hset_ne _ _ n).trans e
  have n := fun i j x y h1 h2 h3 => nodup_ne R.nd i j x y h1 h2 h3
  obtain ⟨u, hu⟩ := R.u
  exact ⟨R.nd, k _ (n 0 3 _ _ rfl rfl (by decide)) _ R.w, k _ (n 1 3 _ _ rfl rfl (by decide)) _ R.dx, hset_self _ _ _, k _ (n 4 3 _ _ rfl rfl (by decide)) _ R.lo, k _ (n 5 3 _ _ rfl rfl (by decide)) _ R.op, k _ (n 6 3 _ _ rfl rfl (by decide)) _ R.io, k _ (n 7 3 _ _ rfl rfl (by decide)) _ R.fo, ⟨u, k _ (n 2 3 _ _ rfl rfl (by decide)) _ hu⟩⟩
theorem WRaw.setLo (R : WRaw a nu lo io op fo H) (v : List (Str × GV)) : WRaw a nu v io op fo (hset H a.lo (.dict v)) := by
  have k : ∀ b, b ≠ a.lo → ∀ o, H b = some o → hset H a.lo (.dict v) b = some o := fun b n o e => (hset_ne _ _ n).trans e
  have n := fun i j x y h1 h2 h3 => nodup_ne R.nd i j x y h1 h2 h3
  obtain ⟨u, hu⟩ := R.u
  exact ⟨R.nd, k _ (n 0 4 _ _ rfl rfl (by decide)) _ R.w, k _ (n 1 4 _ _ rfl rfl (by decide)) _ R.dx, k _ (n 3 4 _ _ rfl rfl (by decide)) _ R.nu, hset_self _ _ _, k _ (n 5 4 _ _ rfl rfl (by decide)) _ R.op, k _ (n 6 4 _ _ rfl rfl (by decide)) _ R.io, k _ (n 7 4 _ _ rfl rfl (by decide)) _ R.fo, ⟨u, k _ (n 2 4 _ _ rfl rfl (by decide)) _ hu⟩⟩
theorem WRaw.setIo (R : WRaw a nu lo io op fo H) (v : List (Str × GV)) : WRaw a nu lo v op fo (hset H a.io (.dict v)) := by
  have k : ∀ b, b ≠ a.io → ∀ o, H b = some o → hset H a.io (.dict v) b = some o := fun b n o e => (hset_ne _ _ n).trans e
  have n := fun i j x y h1 h2 h3 => nodup_ne R.nd i j x y h1 h2 h3
  obtain ⟨u, hu⟩ := R.u
  exact ⟨R.nd, k _ (n 0 6 _ _ rfl rfl (by decide)) _ R.w, k _ (n 1 6 _ _ rfl rfl (by decide)) _ R.dx, k _ (n 3 6 _ _ rfl rfl (by decide)) _ R.nu, k _ (n 4 6 _ _ rfl rfl (by decide)) _ R.lo, k _ (n 5 6 _ _ rfl rfl (by decide)) _ R.op, hset_self _ _ _, k _ (n 7 6 _ _ rfl rfl (by decide)) _ R.fo, ⟨u, k _ (n 2 6 _ _ rfl rfl (by decide)) _ hu⟩⟩
theorem WRaw.setOp (R : WRaw a nu lo io op fo H) (v : List GV) : WRaw a nu lo io v fo (hset H a.op (.list v)) := by
  have k : ∀ b, b ≠ a.op → ∀ o, H b = some o → hset H a.op (.list v) b = some o := fun b n o e => (hset_ne _ _ n).trans e
  have n := fun i j x y h1 h2 h3 => nodup_ne R.nd i j x y h1 h2 h3
  obtain ⟨u, hu⟩ := R.u
  exact ⟨R.nd, k _ (n 0 5 _ _ rfl rfl (by decide)) _ R.w, k _ (n 1 5 _ _ rfl rfl (by decide)) _ R.dx, k _ (n 3 5 _ _ rfl rfl (by decide)) _ R.nu, k _ (n 4 5 _ _ rfl rfl (by decide)) _ R.lo, hset_self _ _ _, k _ (n 6 5 _ _ rfl rfl (by decide)) _ R.io, k _ (n 7 5 _ _ rfl rfl (by decide)) _ R.fo, ⟨u, k _ (n 2 5 _ _ rfl rfl (by decide)) _ hu⟩⟩
theorem WRaw.setFo (R : WRaw a nu lo io op fo H) (v : List GV) : WRaw a nu lo io op v (hset H a.fo (.list v)) := by
  have k : ∀ b, b ≠ a.fo → ∀ o, H b = some o → hset H a.fo (.list v) b = some o := fun b n o e => (hset_ne _ _ n).trans e
  have n := fun i j x y h1 h2 h3 => nodup_ne R.nd i j x y h1 h2 h3
  obtain ⟨u, hu⟩ := R.u
  exact ⟨R.nd, k _ (n 0 7 _ _ rfl rfl (by decide)) _ R.w, k _ (n 1 7 _ _ rfl rfl (by decide)) _ R.dx, k _ (n 3 7 _ _ rfl rfl (by decide)) _ R.nu, k _ (n 4 7 _ _ rfl rfl (by decide)) _ R.lo, k _ (n 5 7 _ _ rfl rfl (by decide)) _ R.op, k _ (n 6 7 _ _ rfl rfl (by decide)) _ R.io, hset_self _ _ _, ⟨u, k _ (n 2 7 _ _ rfl rfl (by decide)) _ hu⟩⟩
theorem WRaw.ga_nu (R : WRaw a nu lo io op fo H) {Q : GV → GH → Prop} (q : Q (.ref a.nu) H) : gGetAttr (.ref a.w) "numbers" H Q := ga (by decide) R.w R.dx rfl q
theorem WRaw.ga_lo (R : WRaw a nu lo io op fo H) {Q : GV → GH → Prop} (q : Q (.ref a.lo) H) : gGetAttr (.ref a.w) "lows" H Q := ga (by decide) R.w R.dx rfl q
theorem WRaw.ga_io (R : WRaw a nu lo io op fo H) {Q : GV → GH → Prop} (q : Q (.ref a.io) H) : gGetAttr (.ref a.w) "is_open" H Q := ga (by decide) R.w R.dx rfl q
theorem WRaw.ga_op (R : WRaw a nu lo io op fo H) {Q : GV → GH → Prop} (q : Q (.ref a.op) H) : gGetAttr (.ref a.w) "open" H Q := ga (by decide) R.w R.dx rfl q
theorem WRaw.ga_fo (R : WRaw a nu lo io op fo H) {Q : GV → GH → Prop} (q : Q (.ref a.fo) H) : gGetAttr (.ref a.w) "found" H Q := ga (by decide) R.w R.dx rfl q
theorem WRaw.ga_u (R : WRaw a nu lo io op fo H) {Q : GV → GH → Prop} (q : Q (.ref a.u) H) : gGetAttr (.ref a.w) "uses" H Q := ga (by decide) R.w R.dx rfl q
end

-- the walker's state: O, the open names, the last one first
set_option genInjectivity false in
structure WS where
  V : List Str
  num : Str → Nat
  low : Str → Nat
  O : List Str
  isop : Str → Bool
  F : List (List Str)

-- lists of texts at addresses
noncomputable def LL (H : GH) : List Addr → List (List Str) → Prop
  | [], [] => True
  | f :: fs, g :: gs => H f = some (.list (g.map .str)) ∧ LL H fs gs
  | _, _ => False
theorem LL.frame {H H' : GH} : ∀ {fs : List Addr} {gs : List (List Str)}, LL H fs gs → (∀ b ∈ fs, H' b = H b) → LL H' fs gs
  | [], [], _, _ => trivial
  | [], _ :: _, h, _ => h.elim
  | _ :: _, [], h, _ => h.elim
  | f :: fs, g :: gs, h, k => ⟨(k f List.mem_cons_self).trans h.1, h.2.frame fun b hb => k b (List.mem_cons_of_mem _ hb)⟩
theorem LL.snoc {H : GH} : ∀ {fs : List Addr} {gs : List (List Str)} {f : Addr} {g : List Str}, LL H fs gs → H f = some (.list (g.map .str)) → LL H (fs ++ [f]) (gs ++ [g])
  | [], [], _, _, _, h => ⟨h, trivial⟩
  | [], _ :: _, _, _, h, _ => h.elim
  | _ :: _, [], _, _, h, _ => h.elim
  | f :: fs, g :: gs, _, _, h, k => ⟨h.1, h.2.snoc k⟩
theorem LL.some {H : GH} : ∀ {fs : List Addr} {gs : List (List Str)}, LL H fs gs → ∀ b ∈ fs, ∃ o, H b = some o
  | [], _, _, _, hb => nomatch hb
  | _ :: _, [], h, _, _ => h.elim
  | f :: fs, g :: gs, h, b, hb => by
    rcases List.mem_cons.mp hb with rfl | hb
    · exact ⟨_, h.1⟩
    · exact h.2.some b hb
theorem LL.length {H : GH} : ∀ {fs : List Addr} {gs : List (List Str)}, LL H fs gs → fs.length = gs.length
  | [], [], _ => rfl
  | [], _ :: _, h => h.elim
  | _ :: _, [], h => h.elim
  | f :: fs, g :: gs, h => by rw [List.length_cons, List.length_cons, h.2.length]

structure WR (a : WA) (σ : WS) (fs : List Addr) (H : GH) : Prop where
  raw : WRaw a (dm σ.V fun x => .int (σ.num x)) (dm σ.V fun x => .int (σ.low x)) (dm σ.V fun x => .bool (σ.isop x)) (σ.O.reverse.map .str) (fs.map .ref) H
  vnd : σ.V.Nodup
  vlen : σ.V.length ≤ 100
  olen : σ.O.length ≤ 100
  ll : LL H fs σ.F
  fsd : ∀ f ∈ fs, f ∉ a.all
  flen : fs.length ≤ 100

theorem WR.frame {a : WA} {σ : WS} {fs : List Addr} {H H' : GH} (R : WR a σ fs H) (h : ∀ b, b ∈ a.all ∨ b ∈ fs → H' b = H b) : WR a σ fs H' :=
  ⟨R.raw.frame fun b hb => h b (.inl hb), R.vnd, R.vlen, R.olen, R.ll.frame fun b hb => h b (.inr hb), R.fsd, R.flen⟩

noncomputable def WS.enter (σ : WS) (x : Str) : WS := ⟨σ.V ++ [x], upd σ.num x σ.V.length, upd σ.low x σ.V.length, x :: σ.O, upd σ.isop x true, σ.F⟩
noncomputable def WS.lower (σ : WS) (x : Str) (n : Nat) : WS := { σ with low := upd σ.low x n }
noncomputable def WS.close (σ : WS) (g post : List Str) : WS := { σ with O := post, isop := fun y => if y ∈ g then false else σ.isop y, F := σ.F ++ [g] }

theorem phi_m {k : Nat} {f : Str} {vs : List GV} {H : GH} {Q : GV → GH → Prop} (h : gFn (PhiS k) (fnM f) vs H Q) : PhiS (k + 1) true f vs H Q := by
  unfold PhiS
  rw [if_pos rfl]
  exact h
theorem phi_t {k : Nat} {f : Str} {vs : List GV} {H : GH} {Q : GV → GH → Prop} (hf : f ≠ "Walker") (h : gFn (PhiS k) (fnT f) vs H Q) : PhiS (k + 1) false f vs H Q := by
  unfold PhiS
  rw [if_neg Bool.false_ne_true, if_neg hf]
  exact h

noncomputable def enterB : { x : Fn // x = fnM "enter" } := by
  refine ⟨?x, Eq.symm ?h⟩
  case' h => conv => lhs; whnf

theorem fun_upd_int (f : Str → Nat) (x : Str) (n : Nat) : (fun y => GV.int ((upd f x n y : Nat) : Int)) = upd (fun y => GV.int ((f y : Nat) : Int)) x (GV.int (n : Int)) := by
  funext y; unfold upd; split <;> rfl
theorem fun_upd_bool (f : Str → Bool) (x : Str) (n : Bool) : (fun y => GV.bool (upd f x n y)) = upd (fun y => GV.bool (f y)) x (GV.bool n) := by
  funext y; unfold upd; split <;> rfl

theorem enter_g {k : Nat} {a : WA} {σ : WS} {fs : List Addr} {x : Str} {H : GH} {Q : GV → GH → Prop} (R : WR a σ fs H) (hx : x ∉ σ.V) (hl : σ.V.length < 100) (ho : σ.O.length < 100)
    (q : ∀ H', WR a (σ.enter x) fs H' → (∀ b, b ∉ [a.nu, a.lo, a.op, a.io] → H' b = H b) → Q .none H') : gFn (PhiS k) (fnM "enter") [.ref a.w, .str x] H Q := by
  refine start enterB rfl fun ρ hρ => ?_
  have r1 : ρ "self" = some (.ref a.w) := hρ _
  have r2 : ρ "name" = some (.str x) := hρ _
  clear hρ
  unfold enterB
  have hb : (100 : Nat) ≤ bnd := by decide
  have R0 := R.raw
  (refine peel ?_; simp (decide := true) only [e_int, e_str, e_bool, k_name, e_bin, e_un, e_bo, k_cmp, k_list, k_tup, e_dict, k_attr, e_from, e_upto, e_item, k_call, k_meth, k_comp, bo_one, gBool_or, gBool_and, es_nil, es_cons, if_nil, if_one, t_not, t_bo, k_tcmp, t_name, t_sub, t_call, al_nil, gAll_or, gAll_and, k_aname, a_attr, a_item, a_tup, an_nil, k_ancons, s_expr, s_ret0, s_ret, k_asg, s_asg_, s_if, k_for, s_while, whK_next, whK_ret, seqK_next, seqK_ret, gSs_nil, tk_sub, tk_attr, tk_call, tk_item, tk_tup, kdL_cons, lk_cons, lk_nil, beq_ff, ex_some, true_and, and_true, if_true, if_false, not_false_eq_true, lset, compLoc, gCmp_eq, gCmp_ne, gCmp_in, gCmp_nin, gCmp_lt, gCmp_gt, gCmp_ge, gUn_neg, gUn_not, gBin_add, gBin_sub, gEq_int, gEq_bool, gEq_str, retOf, r1, r2])
  refine R0.ga_nu (len_dict R0.nu (by omega) (R0.ga_nu (gsi_new R0.nu (by omega) hx ?_)))
  have R1 := R0.setNu (dm (σ.V ++ [x]) (upd (fun y => .int (σ.num y)) x (.int σ.V.length)))
  (refine peel ?_; simp (decide := true) only [e_int, e_str, e_bool, k_name, e_bin, e_un, e_bo, k_cmp, k_list, k_tup, e_dict, k_attr, e_from, e_upto, e_item, k_call, k_meth, k_comp, bo_one, gBool_or, gBool_and, es_nil, es_cons, if_nil, if_one, t_not, t_bo, k_tcmp, t_name, t_sub, t_call, al_nil, gAll_or, gAll_and, k_aname, a_attr, a_item, a_tup, an_nil, k_ancons, s_expr, s_ret0, s_ret, k_asg, s_asg_, s_if, k_for, s_while, whK_next, whK_ret, seqK_next, seqK_ret, gSs_nil, tk_sub, tk_attr, tk_call, tk_item, tk_tup, kdL_cons, lk_cons, lk_nil, beq_ff, ex_some, true_and, and_true, if_true, if_false, not_false_eq_true, lset, compLoc, gCmp_eq, gCmp_ne, gCmp_in, gCmp_nin, gCmp_lt, gCmp_gt, gCmp_ge, gUn_neg, gUn_not, gBin_add, gBin_sub, gEq_int, gEq_bool, gEq_str, retOf, r1, r2])
  refine R1.ga_nu (gi_dict R1.nu (by simp) ?_)
  rw [upd_same]
  refine R1.ga_lo (gsi_new R1.lo (by omega) hx ?_)
  have R2 := R1.setLo (dm (σ.V ++ [x]) (upd (fun y => .int (σ.low y)) x (.int σ.V.length)))
  (refine peel ?_; simp (decide := true) only [e_int, e_str, e_bool, k_name, e_bin, e_un, e_bo, k_cmp, k_list, k_tup, e_dict, k_attr, e_from, e_upto, e_item, k_call, k_meth, k_comp, bo_one, gBool_or, gBool_and, es_nil, es_cons, if_nil, if_one, t_not, t_bo, k_tcmp, t_name, t_sub, t_call, al_nil, gAll_or, gAll_and, k_aname, a_attr, a_item, a_tup, an_nil, k_ancons, s_expr, s_ret0, s_ret, k_asg, s_asg_, s_if, k_for, s_while, whK_next, whK_ret, seqK_next, seqK_ret, gSs_nil, tk_sub, tk_attr, tk_call, tk_item, tk_tup, kdL_cons, lk_cons, lk_nil, beq_ff, ex_some, true_and, and_true, if_true, if_false, not_false_eq_true, lset, compLoc, gCmp_eq, gCmp_ne, gCmp_in, gCmp_nin, gCmp_lt, gCmp_gt, gCmp_ge, gUn_neg, gUn_not, gBin_add, gBin_sub, gEq_int, gEq_bool, gEq_str, retOf, r1, r2])
  refine R2.ga_op (me_append R2.op (m_append R2.op (by simp; omega) ?_))
  have R3 := R2.setOp (σ.O.reverse.map .str ++ [.str x])
  (refine peel ?_; simp (decide := true) only [e_int, e_str, e_bool, k_name, e_bin, e_un, e_bo, k_cmp, k_list, k_tup, e_dict, k_attr, e_from, e_upto, e_item, k_call, k_meth, k_comp, bo_one, gBool_or, gBool_and, es_nil, es_cons, if_nil, if_one, t_not, t_bo, k_tcmp, t_name, t_sub, t_call, al_nil, gAll_or, gAll_and, k_aname, a_attr, a_item, a_tup, an_nil, k_ancons, s_expr, s_ret0, s_ret, k_asg, s_asg_, s_if, k_for, s_while, whK_next, whK_ret, seqK_next, seqK_ret, gSs_nil, tk_sub, tk_attr, tk_call, tk_item, tk_tup, kdL_cons, lk_cons, lk_nil, beq_ff, ex_some, true_and, and_true, if_true, if_false, not_false_eq_true, lset, compLoc, gCmp_eq, gCmp_ne, gCmp_in, gCmp_nin, gCmp_lt, gCmp_gt, gCmp_ge, gUn_neg, gUn_not, gBin_add, gBin_sub, gEq_int, gEq_bool, gEq_str, retOf, r1, r2])
  refine R3.ga_io (gsi_new R3.io (by omega) hx ?_)
  have R4 := R3.setIo (dm (σ.V ++ [x]) (upd (fun y => .bool (σ.isop y)) x (.bool true)))
  have hne : ∀ b, b ∉ [a.nu, a.lo, a.op, a.io] → (hset (hset (hset (hset H a.nu (.dict (dm (σ.V ++ [x]) (upd (fun y => .int (σ.num y)) x (.int σ.V.length))))) a.lo (.dict (dm (σ.V ++ [x]) (upd (fun y => .int (σ.low y)) x (.int σ.V.length))))) a.op (.list (σ.O.reverse.map .str ++ [.str x]))) a.io (.dict (dm (σ.V ++ [x]) (upd (fun y => .bool (σ.isop y)) x (.bool true))))) b = H b := by
    intro b hb
    simp only [List.mem_cons, List.not_mem_nil, or_false, not_or] at hb
    rw [hset_ne _ _ hb.2.2.2, hset_ne _ _ hb.2.2.1, hset_ne _ _ hb.2.1, hset_ne _ _ hb.1]
  refine q _ ⟨?_, ?_, ?_, ?_, ?_, R.fsd, R.flen⟩ hne
  · show WRaw a (dm (σ.V ++ [x]) fun y => .int ((upd σ.num x σ.V.length y : Nat) : Int)) (dm (σ.V ++ [x]) fun y => .int ((upd σ.low x σ.V.length y : Nat) : Int)) (dm (σ.V ++ [x]) fun y => .bool (upd σ.isop x true y)) ((x :: σ.O).reverse.map .str) _ _
    rw [fun_upd_int, fun_upd_int, fun_upd_bool]
    simpa using R4
  · show (σ.V ++ [x]).Nodup
    rw [List.nodup_append]
    exact ⟨R.vnd, by simp, fun y hy z hz e => by simp at hz; subst hz; subst e; exact hx hy⟩
  · show (σ.V ++ [x]).length ≤ 100
    simp; omega
  · show (x :: σ.O).length ≤ 100
    simp; omega
  · refine R.ll.frame fun b hb' => hne b ?_
    have := R.fsd b hb'
    simp only [WA.all, List.mem_cons, List.not_mem_nil, or_false, not_or] at this ⊢
    exact ⟨this.2.2.2.1, this.2.2.2.2.1, this.2.2.2.2.2.1, this.2.2.2.2.2.2.1⟩

-- P3
noncomputable def lookB : { x : Fn // x = fnM "look" } := by
  refine ⟨?x, Eq.symm ?h⟩
  case' h => conv => lhs; whnf
noncomputable def leaveB : { x : Fn // x = fnM "leave" } := by
  refine ⟨?x, Eq.symm ?h⟩
  case' h => conv => lhs; whnf

theorem min_g {Φ : Spec} {a b : Int} {H : GH} {Q : GV → GH → Prop} (q : Q (.int (if b < a then b else a)) H) : gCall Φ "min" [.int a, .int b] H Q := by
  unfold gCall
  rw [if_neg (by decide), if_pos rfl]
  exact q

theorem look_new {k : Nat} {a : WA} {σ : WS} {fs : List Addr} {x t : Str} {st : Addr} {L : List GV} {H : GH} {Q : GV → GH → Prop} (R : WR a σ fs H) (ht : t ∉ σ.V) (hl : σ.V.length < 100) (ho : σ.O.length < 100)
    (hst : H st = some (.list L)) (hsa : st ∉ a.all) (hL : L.length ≤ 100) (hsf : st ∉ fs)
    (q : ∀ H' fr, WR a (σ.enter t) fs H' → H fr = none → fr ≠ st → H' st = some (.list (L ++ [.ref fr])) → H' fr = some (.list [.str t, .int 0]) → (∀ b, b ∉ [a.nu, a.lo, a.op, a.io, st, fr] → H' b = H b) → Q .none H') :
    gFn (PhiS (k + 1)) (fnM "look") [.ref a.w, .str x, .str t, .ref st] H Q := by
  refine start lookB rfl fun ρ hρ => ?_
  have r1 : ρ "self" = some (.ref a.w) := hρ _
  have r2 : ρ "name" = some (.str x) := hρ _
  have r3 : ρ "other" = some (.str t) := hρ _
  have r4 : ρ "stack" = some (.ref st) := hρ _
  clear hρ
  unfold lookB
  (refine peel ?_; simp (decide := true) only [e_int, e_str, e_bool, k_name, e_bin, e_un, e_bo, k_cmp, k_list, k_tup, e_dict, k_attr, e_from, e_upto, e_item, k_call, k_meth, k_comp, bo_one, gBool_or, gBool_and, es_nil, es_cons, if_nil, if_one, t_not, t_bo, k_tcmp, t_name, t_sub, t_call, al_nil, gAll_or, gAll_and, k_aname, a_attr, a_item, a_tup, an_nil, k_ancons, s_expr, s_ret0, s_ret, k_asg, s_asg_, s_if, k_for, s_while, whK_next, whK_ret, seqK_next, seqK_ret, gSs_nil, tk_sub, tk_attr, tk_call, tk_item, tk_tup, kdL_cons, lk_cons, lk_nil, beq_ff, ex_some, true_and, and_true, if_true, if_false, not_false_eq_true, lset, compLoc, gCmp_eq, gCmp_ne, gCmp_in, gCmp_nin, gCmp_lt, gCmp_gt, gCmp_ge, gUn_neg, gUn_not, gBin_add, gBin_sub, gEq_int, gEq_bool, gEq_str, retOf, r1, r2, r3, r4])
  have R0 := R.raw
  refine R0.ga_nu (in_dict R0.nu ?_)
  simp only [ht, decide_false, Bool.not_false, if_true]
  (refine peel ?_; simp (decide := true) only [e_int, e_str, e_bool, k_name, e_bin, e_un, e_bo, k_cmp, k_list, k_tup, e_dict, k_attr, e_from, e_upto, e_item, k_call, k_meth, k_comp, bo_one, gBool_or, gBool_and, es_nil, es_cons, if_nil, if_one, t_not, t_bo, k_tcmp, t_name, t_sub, t_call, al_nil, gAll_or, gAll_and, k_aname, a_attr, a_item, a_tup, an_nil, k_ancons, s_expr, s_ret0, s_ret, k_asg, s_asg_, s_if, k_for, s_while, whK_next, whK_ret, seqK_next, seqK_ret, gSs_nil, tk_sub, tk_attr, tk_call, tk_item, tk_tup, kdL_cons, lk_cons, lk_nil, beq_ff, ex_some, true_and, and_true, if_true, if_false, not_false_eq_true, lset, compLoc, gCmp_eq, gCmp_ne, gCmp_in, gCmp_nin, gCmp_lt, gCmp_gt, gCmp_ge, gUn_neg, gUn_not, gBin_add, gBin_sub, gEq_int, gEq_bool, gEq_str, retOf, r1, r3])
  refine me_inst R0.w R0.dx (by decide) (by rfl) ?_
  refine phi_m (enter_g (k := k) R ht hl ho fun H₁ R₁ fr₁ => ?_)
  have hst₁ : H₁ st = some (.list L) := by
    rw [fr₁ st, hst]
    simp only [WA.all, List.mem_cons, List.not_mem_nil, or_false, not_or] at hsa ⊢
    exact ⟨hsa.2.2.2.1, hsa.2.2.2.2.1, hsa.2.2.2.2.2.1, hsa.2.2.2.2.2.2.1⟩
  (refine peel ?_; simp (decide := true) only [e_int, e_str, e_bool, k_name, e_bin, e_un, e_bo, k_cmp, k_list, k_tup, e_dict, k_attr, e_from, e_upto, e_item, k_call, k_meth, k_comp, bo_one, gBool_or, gBool_and, es_nil, es_cons, if_nil, if_one, t_not, t_bo, k_tcmp, t_name, t_sub, t_call, al_nil, gAll_or, gAll_and, k_aname, a_attr, a_item, a_tup, an_nil, k_ancons, s_expr, s_ret0, s_ret, k_asg, s_asg_, s_if, k_for, s_while, whK_next, whK_ret, seqK_next, seqK_ret, gSs_nil, tk_sub, tk_attr, tk_call, tk_item, tk_tup, kdL_cons, lk_cons, lk_nil, beq_ff, ex_some, true_and, and_true, if_true, if_false, not_false_eq_true, lset, compLoc, gCmp_eq, gCmp_ne, gCmp_in, gCmp_nin, gCmp_lt, gCmp_gt, gCmp_ge, gUn_neg, gUn_not, gBin_add, gBin_sub, gEq_int, gEq_bool, gEq_str, retOf, r3, r4])
  refine me_append hst₁ ⟨(by decide : (2 : Nat) ≤ bnd), fun fr hfr => ?_⟩
  have hne : st ≠ fr := by rintro rfl; rw [hst₁] at hfr; cases hfr
  have hb : (100 : Nat) < bnd := by decide
  refine m_append (l := L) (by rw [hset_ne _ _ hne, hst₁]) (Nat.lt_of_le_of_lt hL hb) ?_
  have own : ∀ b, b ∈ a.all ∨ b ∈ fs → b ≠ st ∧ b ≠ fr := fun b hb => by
    refine ⟨?_, ?_⟩
    · rintro rfl; rcases hb with hb | hb
      · exact hsa hb
      · exact hsf hb
    · rintro rfl
      have : ∃ o, H₁ b = some o := by
        rcases hb with hb | hb
        · have Rr := R₁.raw
          simp only [WA.all, List.mem_cons, List.not_mem_nil, or_false] at hb
          rcases hb with rfl | rfl | rfl | rfl | rfl | rfl | rfl | rfl
          · exact ⟨_, Rr.w⟩
          · exact ⟨_, Rr.dx⟩
          · exact Rr.u
          · exact ⟨_, Rr.nu⟩
          · exact ⟨_, Rr.lo⟩
          · exact ⟨_, Rr.op⟩
          · exact ⟨_, Rr.io⟩
          · exact ⟨_, Rr.fo⟩
        · exact R₁.ll.some b hb
      obtain ⟨o, e⟩ := this
      rw [e] at hfr; cases hfr
  refine q _ fr (R₁.frame fun b hb => ?_) ?_ (Ne.symm hne) ?_ ?_ fun b hb => ?_
  · obtain ⟨h1, h2⟩ := own b hb
    rw [hset_ne _ _ h1, hset_ne _ _ h2]
  · by_cases e : fr ∈ [a.nu, a.lo, a.op, a.io]
    · exfalso
      refine (own fr (.inl ?_)).2 rfl
      simp only [WA.all, List.mem_cons, List.not_mem_nil, or_false] at e ⊢
      rcases e with e | e | e | e <;> simp [e]
    · rw [← fr₁ fr e]; exact hfr
  · exact hset_self _ _ _
  · rw [hset_ne _ _ (Ne.symm hne), hset_self]
  · simp only [List.mem_cons, List.not_mem_nil, or_false, not_or] at hb
    rw [hset_ne _ _ hb.2.2.2.2.1, hset_ne _ _ hb.2.2.2.2.2]
    exact fr₁ b (by simp only [List.mem_cons, List.not_mem_nil, or_false, not_or]; exact ⟨hb.1, hb.2.1, hb.2.2.1, hb.2.2.2.1⟩)

theorem look_open {k : Nat} {a : WA} {σ : WS} {fs : List Addr} {x t : Str} {st : Addr} {H : GH} {Q : GV → GH → Prop} (R : WR a σ fs H) (hx : x ∈ σ.V) (ht : t ∈ σ.V) (hop : σ.isop t = true)
    (q : ∀ H', WR a (σ.lower x (min (σ.low x) (σ.num t))) fs H' → (∀ b, b ∉ [a.lo] → H' b = H b) → Q .none H') : gFn (PhiS (k + 1)) (fnM "look") [.ref a.w, .str x, .str t, .ref st] H Q := by
  refine start lookB rfl fun ρ hρ => ?_
  have r1 : ρ "self" = some (.ref a.w) := hρ _
  have r2 : ρ "name" = some (.str x) := hρ _
  have r3 : ρ "other" = some (.str t) := hρ _
  have r4 : ρ "stack" = some (.ref st) := hρ _
  clear hρ
  unfold lookB
  (refine peel ?_; simp (decide := true) only [e_int, e_str, e_bool, k_name, e_bin, e_un, e_bo, k_cmp, k_list, k_tup, e_dict, k_attr, e_from, e_upto, e_item, k_call, k_meth, k_comp, bo_one, gBool_or, gBool_and, es_nil, es_cons, if_nil, if_one, t_not, t_bo, k_tcmp, t_name, t_sub, t_call, al_nil, gAll_or, gAll_and, k_aname, a_attr, a_item, a_tup, an_nil, k_ancons, s_expr, s_ret0, s_ret, k_asg, s_asg_, s_if, k_for, s_while, whK_next, whK_ret, seqK_next, seqK_ret, gSs_nil, tk_sub, tk_attr, tk_call, tk_item, tk_tup, kdL_cons, lk_cons, lk_nil, beq_ff, ex_some, true_and, and_true, if_true, if_false, not_false_eq_true, lset, compLoc, gCmp_eq, gCmp_ne, gCmp_in, gCmp_nin, gCmp_lt, gCmp_gt, gCmp_ge, gUn_neg, gUn_not, gBin_add, gBin_sub, gEq_int, gEq_bool, gEq_str, retOf, r1, r2, r3, r4])
  have R0 := R.raw
  have hb : (100 : Nat) < bnd := by decide
  have hv := R.vlen
  refine R0.ga_nu (in_dict R0.nu ?_)
  simp only [ht, decide_true, Bool.not_true, Bool.false_eq_true, if_false]
  (refine peel ?_; simp (decide := true) only [e_int, e_str, e_bool, k_name, e_bin, e_un, e_bo, k_cmp, k_list, k_tup, e_dict, k_attr, e_from, e_upto, e_item, k_call, k_meth, k_comp, bo_one, gBool_or, gBool_and, es_nil, es_cons, if_nil, if_one, t_not, t_bo, k_tcmp, t_name, t_sub, t_call, al_nil, gAll_or, gAll_and, k_aname, a_attr, a_item, a_tup, an_nil, k_ancons, s_expr, s_ret0, s_ret, k_asg, s_asg_, s_if, k_for, s_while, whK_next, whK_ret, seqK_next, seqK_ret, gSs_nil, tk_sub, tk_attr, tk_call, tk_item, tk_tup, kdL_cons, lk_cons, lk_nil, beq_ff, ex_some, true_and, and_true, if_true, if_false, not_false_eq_true, lset, compLoc, gCmp_eq, gCmp_ne, gCmp_in, gCmp_nin, gCmp_lt, gCmp_gt, gCmp_ge, gUn_neg, gUn_not, gBin_add, gBin_sub, gEq_int, gEq_bool, gEq_str, retOf, r1, r3])
  refine R0.ga_io (gi_dict R0.io ht (tr_bool ?_))
  simp only [hop, if_true]
  (refine peel ?_; simp (decide := true) only [e_int, e_str, e_bool, k_name, e_bin, e_un, e_bo, k_cmp, k_list, k_tup, e_dict, k_attr, e_from, e_upto, e_item, k_call, k_meth, k_comp, bo_one, gBool_or, gBool_and, es_nil, es_cons, if_nil, if_one, t_not, t_bo, k_tcmp, t_name, t_sub, t_call, al_nil, gAll_or, gAll_and, k_aname, a_attr, a_item, a_tup, an_nil, k_ancons, s_expr, s_ret0, s_ret, k_asg, s_asg_, s_if, k_for, s_while, whK_next, whK_ret, seqK_next, seqK_ret, gSs_nil, tk_sub, tk_attr, tk_call, tk_item, tk_tup, kdL_cons, lk_cons, lk_nil, beq_ff, ex_some, true_and, and_true, if_true, if_false, not_false_eq_true, lset, compLoc, gCmp_eq, gCmp_ne, gCmp_in, gCmp_nin, gCmp_lt, gCmp_gt, gCmp_ge, gUn_neg, gUn_not, gBin_add, gBin_sub, gEq_int, gEq_bool, gEq_str, retOf, r1, r2, r3])
  refine R0.ga_lo (gi_dict R0.lo hx (R0.ga_nu (gi_dict R0.nu ht (min_g (R0.ga_lo (gsi_mem R0.lo (nb100 hv) R.vnd hx ?_))))))
  have e : (if ((σ.num t : Nat) : Int) < ((σ.low x : Nat) : Int) then ((σ.num t : Nat) : Int) else ((σ.low x : Nat) : Int)) = ((min (σ.low x) (σ.num t) : Nat) : Int) := by
    by_cases h : σ.num t < σ.low x
    · rw [if_pos (by first | assumption | exact nb50 (by assumption) | exact nb50s (by assumption) | exact nb50t (by assumption) (by assumption) | omega)]; omega
    · rw [if_neg (by first | assumption | exact nb50 (by assumption) | exact nb50s (by assumption) | exact nb50t (by assumption) (by assumption) | omega)]; omega
  rw [e, ← fun_upd_int]
  refine q _ ⟨R0.setLo _, R.vnd, R.vlen, R.olen, R.ll.frame fun b hb => hset_ne _ _ ?_, R.fsd, R.flen⟩ fun b hb => hset_ne _ _ (by simpa using hb)
  rintro rfl
  exact R.fsd _ hb (by simp [WA.all])

theorem look_closed {k : Nat} {a : WA} {σ : WS} {fs : List Addr} {x t : Str} {st : Addr} {H : GH} {Q : GV → GH → Prop} (R : WR a σ fs H) (ht : t ∈ σ.V) (hop : σ.isop t = false)
    (q : Q .none H) : gFn (PhiS (k + 1)) (fnM "look") [.ref a.w, .str x, .str t, .ref st] H Q := by
  refine start lookB rfl fun ρ hρ => ?_
  have r1 : ρ "self" = some (.ref a.w) := hρ _
  have r2 : ρ "name" = some (.str x) := hρ _
  have r3 : ρ "other" = some (.str t) := hρ _
  have r4 : ρ "stack" = some (.ref st) := hρ _
  clear hρ
  unfold lookB
  (refine peel ?_; simp (decide := true) only [e_int, e_str, e_bool, k_name, e_bin, e_un, e_bo, k_cmp, k_list, k_tup, e_dict, k_attr, e_from, e_upto, e_item, k_call, k_meth, k_comp, bo_one, gBool_or, gBool_and, es_nil, es_cons, if_nil, if_one, t_not, t_bo, k_tcmp, t_name, t_sub, t_call, al_nil, gAll_or, gAll_and, k_aname, a_attr, a_item, a_tup, an_nil, k_ancons, s_expr, s_ret0, s_ret, k_asg, s_asg_, s_if, k_for, s_while, whK_next, whK_ret, seqK_next, seqK_ret, gSs_nil, tk_sub, tk_attr, tk_call, tk_item, tk_tup, kdL_cons, lk_cons, lk_nil, beq_ff, ex_some, true_and, and_true, if_true, if_false, not_false_eq_true, lset, compLoc, gCmp_eq, gCmp_ne, gCmp_in, gCmp_nin, gCmp_lt, gCmp_gt, gCmp_ge, gUn_neg, gUn_not, gBin_add, gBin_sub, gEq_int, gEq_bool, gEq_str, retOf, r1, r2, r3, r4])
  have R0 := R.raw
  refine R0.ga_nu (in_dict R0.nu ?_)
  simp only [ht, decide_true, Bool.not_true, Bool.false_eq_true, if_false]
  (refine peel ?_; simp (decide := true) only [e_int, e_str, e_bool, k_name, e_bin, e_un, e_bo, k_cmp, k_list, k_tup, e_dict, k_attr, e_from, e_upto, e_item, k_call, k_meth, k_comp, bo_one, gBool_or, gBool_and, es_nil, es_cons, if_nil, if_one, t_not, t_bo, k_tcmp, t_name, t_sub, t_call, al_nil, gAll_or, gAll_and, k_aname, a_attr, a_item, a_tup, an_nil, k_ancons, s_expr, s_ret0, s_ret, k_asg, s_asg_, s_if, k_for, s_while, whK_next, whK_ret, seqK_next, seqK_ret, gSs_nil, tk_sub, tk_attr, tk_call, tk_item, tk_tup, kdL_cons, lk_cons, lk_nil, beq_ff, ex_some, true_and, and_true, if_true, if_false, not_false_eq_true, lset, compLoc, gCmp_eq, gCmp_ne, gCmp_in, gCmp_nin, gCmp_lt, gCmp_gt, gCmp_ge, gUn_neg, gUn_not, gBin_add, gBin_sub, gEq_int, gEq_bool, gEq_str, retOf, r1, r3])
  refine R0.ga_io (gi_dict R0.io ht (tr_bool ?_))
  simp only [hop, Bool.false_eq_true, if_false]
  exact q

theorem leave_stay {k : Nat} {a : WA} {σ : WS} {fs : List Addr} {x : Str} {H : GH} {Q : GV → GH → Prop} (R : WR a σ fs H) (hx : x ∈ σ.V) (hn : σ.low x ≠ σ.num x) (q : Q .none H) : gFn (PhiS k) (fnM "leave") [.ref a.w, .str x] H Q := by
  refine start leaveB rfl fun ρ₀ hρ => ?_
  have r1 : ρ₀ "self" = some (.ref a.w) := hρ _
  have r2 : ρ₀ "name" = some (.str x) := hρ _
  clear hρ
  unfold leaveB
  (refine peel ?_; simp (decide := true) only [e_int, e_str, e_bool, k_name, e_bin, e_un, e_bo, k_cmp, k_list, k_tup, e_dict, k_attr, e_from, e_upto, e_item, k_call, k_meth, k_comp, bo_one, gBool_or, gBool_and, es_nil, es_cons, if_nil, if_one, t_not, t_bo, k_tcmp, t_name, t_sub, t_call, al_nil, gAll_or, gAll_and, k_aname, a_attr, a_item, a_tup, an_nil, k_ancons, s_expr, s_ret0, s_ret, k_asg, s_asg_, s_if, k_for, s_while, whK_next, whK_ret, seqK_next, seqK_ret, gSs_nil, tk_sub, tk_attr, tk_call, tk_item, tk_tup, kdL_cons, lk_cons, lk_nil, beq_ff, ex_some, true_and, and_true, if_true, if_false, not_false_eq_true, lset, compLoc, gCmp_eq, gCmp_ne, gCmp_in, gCmp_nin, gCmp_lt, gCmp_gt, gCmp_ge, gUn_neg, gUn_not, gBin_add, gBin_sub, gEq_int, gEq_bool, gEq_str, retOf, r1, r2])
  have R0 := R.raw
  refine R0.ga_lo (gi_dict R0.lo hx (R0.ga_nu (gi_dict R0.nu hx ?_)))
  have : ¬ ((σ.low x : Nat) : Int) = ((σ.num x : Nat) : Int) := by omega
  try rw [gEq_int]
  simp only [this, decide_false, Bool.not_false, if_true]
  (refine peel ?_; simp (decide := true) only [e_int, e_str, e_bool, k_name, e_bin, e_un, e_bo, k_cmp, k_list, k_tup, e_dict, k_attr, e_from, e_upto, e_item, k_call, k_meth, k_comp, bo_one, gBool_or, gBool_and, es_nil, es_cons, if_nil, if_one, t_not, t_bo, k_tcmp, t_name, t_sub, t_call, al_nil, gAll_or, gAll_and, k_aname, a_attr, a_item, a_tup, an_nil, k_ancons, s_expr, s_ret0, s_ret, k_asg, s_asg_, s_if, k_for, s_while, whK_next, whK_ret, seqK_next, seqK_ret, gSs_nil, tk_sub, tk_attr, tk_call, tk_item, tk_tup, kdL_cons, lk_cons, lk_nil, beq_ff, ex_some, true_and, and_true, if_true, if_false, not_false_eq_true, lset, compLoc, gCmp_eq, gCmp_ne, gCmp_in, gCmp_nin, gCmp_lt, gCmp_gt, gCmp_ge, gUn_neg, gUn_not, gBin_add, gBin_sub, gEq_int, gEq_bool, gEq_str, retOf])
  exact q

-- the state of leave's loop
structure LvI (a : WA) (σ : WS) (fs : List Addr) (x : Str) (L post : List Str) (g : Addr) (H₀ : GH) (i : Nat) (ρ : Loc) (H : GH) : Prop where
  rg : ρ "group" = some (.ref g)
  rs : ρ "self" = some (.ref a.w)
  rn : ρ "name" = some (.str x)
  hg : H g = some (.list ((L.take i).map .str))
  raw : WRaw a (dm σ.V fun x => .int (σ.num x)) (dm σ.V fun x => .int (σ.low x)) (dm σ.V fun y => .bool (if y ∈ L.take i then false else σ.isop y)) ((L.drop i ++ post).reverse.map .str) (fs.map .ref) H
  fr : ∀ b, b ∉ [a.op, a.io, g] → H b = H₀ b

theorem lv_test {a : WA} {σ : WS} {fs : List Addr} {x : Str} {pre post L : List Str} {g : Addr} {H₀ H' : GH} {i : Nat} {ρ : Loc} {X Y : GH → Prop} (J : LvI a σ fs x L post g H₀ i ρ H') (hL : pre ++ [x] = L) (hp : x ∉ pre) (hl : L.length ≤ 100) (hi : i ≤ L.length)
    (hx : i < L.length → X H') (hy : i = L.length → Y H') : ∃ v, ρ "group" = some v ∧ gTruth v H' fun b => if (!b) = true then X H' else ∃ v, ρ "group" = some v ∧ gItem v (.int (-1)) H' fun a H₁ => ∃ v, ρ "name" = some v ∧ gEq a v H₁ fun c => if (!c) = true then X H₁ else Y H₁ := by
  have hb : (1000 : Nat) < bnd := by decide
  have hLl : L.length = pre.length + 1 := by rw [← hL]; simp
  refine ⟨_, J.rg, tr_list J.hg (nbk hl) ?_⟩
  by_cases h0 : i = 0
  · subst h0
    simp only [List.take_zero, List.map_nil, List.isEmpty_nil, Bool.not_true, Bool.not_false, if_true]
    exact hx (by first | assumption | exact nb50 (by assumption) | exact nb50s (by assumption) | exact nb50t (by assumption) (by assumption) | omega)
  · have hne : (!((L.take i).map GV.str).isEmpty) = true := by
      cases h : (L.take i).map GV.str with
      | nil => have := congrArg List.length h; simp only [List.length_map, List.length_take, List.length_nil] at this; omega
      | cons _ _ => rfl
    simp only [hne, Bool.not_true, Bool.false_eq_true, if_false]
    obtain ⟨j, rfl⟩ : ∃ j, i = j + 1 := ⟨i - 1, by omega⟩
    have hj : j < L.length := by omega
    have htake : L.take (j + 1) = L.take j ++ [L[j]] := by rw [List.take_add_one, List.getElem?_eq_getElem hj]; rfl
    refine ⟨_, J.rg, gi_last (l := (L.take j).map .str) (v := .str L[j]) (by rw [J.hg, htake, List.map_append]; rfl) (Nat.le_of_lt (nbk1 hl)) ⟨_, J.rn, ?_⟩⟩
    try rw [gEq_str]
    by_cases hlast : j + 1 = L.length
    · have ej : L[j] = x := by
        have hj' : j = pre.length := by omega
        subst hj'
        simp [← hL]
      simp only [ej, decide_true, Bool.not_true, Bool.false_eq_true, if_false]
      exact hy hlast
    · have ej : ¬ L[j] = x := by
        have hj' : j < pre.length := by omega
        intro e
        apply hp
        rw [← e]
        simp only [← hL]
        rw [List.getElem_append_left hj']
        exact List.getElem_mem _
      simp only [ej, decide_false, Bool.not_false, if_true]
      exact hx (by first | assumption | exact nb50 (by assumption) | exact nb50s (by assumption) | exact nb50t (by assumption) (by assumption) | omega)

theorem leave_pop {k : Nat} {a : WA} {σ : WS} {fs : List Addr} {x : Str} {pre post : List Str} {H : GH} {Q : GV → GH → Prop} (R : WR a σ fs H) (hx : x ∈ σ.V) (hn : σ.low x = σ.num x) (hO : σ.O = (pre ++ [x]) ++ post) (hp : x ∉ pre) (hV : ∀ y ∈ σ.O, y ∈ σ.V) (hfl : fs.length < 100)
    (q : ∀ H' g, WR a (σ.close (pre ++ [x]) post) (fs ++ [g]) H' → H g = none → g ∉ a.all → (∀ b, b ∉ [a.op, a.io, a.fo, g] → H' b = H b) → Q .none H') : gFn (PhiS k) (fnM "leave") [.ref a.w, .str x] H Q := by
  refine start leaveB rfl fun ρ₀ hρ => ?_
  have r1 : ρ₀ "self" = some (.ref a.w) := hρ _
  have r2 : ρ₀ "name" = some (.str x) := hρ _
  clear hρ
  unfold leaveB
  (refine peel ?_; simp (decide := true) only [e_int, e_str, e_bool, k_name, e_bin, e_un, e_bo, k_cmp, k_list, k_tup, e_dict, k_attr, e_from, e_upto, e_item, k_call, k_meth, k_comp, bo_one, gBool_or, gBool_and, es_nil, es_cons, if_nil, if_one, t_not, t_bo, k_tcmp, t_name, t_sub, t_call, al_nil, gAll_or, gAll_and, k_aname, a_attr, a_item, a_tup, an_nil, k_ancons, s_expr, s_ret0, s_ret, k_asg, s_asg_, s_if, k_for, s_while, whK_next, whK_ret, seqK_next, seqK_ret, gSs_nil, tk_sub, tk_attr, tk_call, tk_item, tk_tup, kdL_cons, lk_cons, lk_nil, beq_ff, ex_some, true_and, and_true, if_true, if_false, not_false_eq_true, lset, compLoc, gCmp_eq, gCmp_ne, gCmp_in, gCmp_nin, gCmp_lt, gCmp_gt, gCmp_ge, gUn_neg, gUn_not, gBin_add, gBin_sub, gEq_int, gEq_bool, gEq_str, retOf, r1, r2])
  have R0 := R.raw
  have hb : (1000 : Nat) < bnd := by decide
  have hol := R.olen
  refine R0.ga_lo (gi_dict R0.lo hx (R0.ga_nu (gi_dict R0.nu hx ?_)))
  try rw [gEq_int]
  have e : ((σ.low x : Nat) : Int) = ((σ.num x : Nat) : Int) := by omega
  simp only [e, decide_true, Bool.not_true, Bool.false_eq_true, if_false]
  (refine peel ?_; simp (decide := true) only [e_int, e_str, e_bool, k_name, e_bin, e_un, e_bo, k_cmp, k_list, k_tup, e_dict, k_attr, e_from, e_upto, e_item, k_call, k_meth, k_comp, bo_one, gBool_or, gBool_and, es_nil, es_cons, if_nil, if_one, t_not, t_bo, k_tcmp, t_name, t_sub, t_call, al_nil, gAll_or, gAll_and, k_aname, a_attr, a_item, a_tup, an_nil, k_ancons, s_expr, s_ret0, s_ret, k_asg, s_asg_, s_if, k_for, s_while, whK_next, whK_ret, seqK_next, seqK_ret, gSs_nil, tk_sub, tk_attr, tk_call, tk_item, tk_tup, kdL_cons, lk_cons, lk_nil, beq_ff, ex_some, true_and, and_true, if_true, if_false, not_false_eq_true, lset, compLoc, gCmp_eq, gCmp_ne, gCmp_in, gCmp_nin, gCmp_lt, gCmp_gt, gCmp_ge, gUn_neg, gUn_not, gBin_add, gBin_sub, gEq_int, gEq_bool, gEq_str, retOf])
  intro g hg
  have hga : g ∉ a.all := by
    intro hm
    have : ∃ o, H g = some o := by
      simp only [WA.all, List.mem_cons, List.not_mem_nil, or_false] at hm
      rcases hm with rfl | rfl | rfl | rfl | rfl | rfl | rfl | rfl
      · exact ⟨_, R0.w⟩
      · exact ⟨_, R0.dx⟩
      · exact R0.u
      · exact ⟨_, R0.nu⟩
      · exact ⟨_, R0.lo⟩
      · exact ⟨_, R0.op⟩
      · exact ⟨_, R0.io⟩
      · exact ⟨_, R0.fo⟩
    obtain ⟨o, e⟩ := this
    rw [e] at hg; cases hg
  have gne : g ≠ a.op ∧ g ≠ a.io ∧ g ≠ a.fo := by
    simp only [WA.all, List.mem_cons, List.not_mem_nil, or_false, not_or] at hga
    exact ⟨hga.2.2.2.2.2.1, hga.2.2.2.2.2.2.1, hga.2.2.2.2.2.2.2⟩
  generalize hL : pre ++ [x] = L at hO q
  have hLl : L.length = pre.length + 1 := by rw [← hL]; simp
  have hLle : L.length ≤ 100 := Nat.le_trans (Nat.le_trans (Nat.le_add_right _ post.length) (by rw [← List.length_append, ← hO]; exact Nat.le_refl _)) hol
  have hl2 : L.length + post.length ≤ 100 := by rw [← List.length_append, ← hO]; exact hol
  (refine peel ?_; simp (decide := true) only [e_int, e_str, e_bool, k_name, e_bin, e_un, e_bo, k_cmp, k_list, k_tup, e_dict, k_attr, e_from, e_upto, e_item, k_call, k_meth, k_comp, bo_one, gBool_or, gBool_and, es_nil, es_cons, if_nil, if_one, t_not, t_bo, k_tcmp, t_name, t_sub, t_call, al_nil, gAll_or, gAll_and, k_aname, a_attr, a_item, a_tup, an_nil, k_ancons, s_expr, s_ret0, s_ret, k_asg, s_asg_, s_if, k_for, s_while, whK_next, whK_ret, seqK_next, seqK_ret, gSs_nil, tk_sub, tk_attr, tk_call, tk_item, tk_tup, kdL_cons, lk_cons, lk_nil, beq_ff, ex_some, true_and, and_true, if_true, if_false, not_false_eq_true, lset, compLoc, gCmp_eq, gCmp_ne, gCmp_in, gCmp_nin, gCmp_lt, gCmp_gt, gCmp_ge, gUn_neg, gUn_not, gBin_add, gBin_sub, gEq_int, gEq_bool, gEq_str, retOf])
  refine ⟨fun n ρ H' => ∃ i, i ≤ L.length ∧ n = L.length - i ∧ LvI a σ fs x L post g H i ρ H', L.length, ⟨0, Nat.zero_le _, rfl, ⟨by rfl, by first | exact lset1 (by decide) r1 | exact lset2 (by decide) (by decide) r1 | exact lset3 (by decide) (by decide) (by decide) r1 | (simp (decide := true) only [lset, if_false]; exact r1), by first | exact lset1 (by decide) r2 | exact lset2 (by decide) (by decide) r2 | exact lset3 (by decide) (by decide) (by decide) r2 | (simp (decide := true) only [lset, if_false]; exact r2), hset_self _ _ _, ?_, fun b hb => hset_ne _ _ (by simp at hb; exact hb.2.2)⟩⟩, ?_⟩
  · have := (R0.frame (H' := hset H g (.list [])) fun b hb => hset_ne _ _ (by rintro rfl; exact hga hb))
    simpa [hO] using this
  rintro n ρ H' ⟨i, hi, rfl, J⟩
  refine lv_test J hL hp hLle hi (fun hlt => ?_) (fun hlast => ?_)
  · -- a turn
    have hsplit : L.drop i ++ post = L[i] :: (L.drop (i + 1) ++ post) := by rw [List.drop_eq_getElem_cons hlt]; rfl
    have htake : L.take (i + 1) = L.take i ++ [L[i]] := by rw [List.take_add_one, List.getElem?_eq_getElem hlt]; rfl
    (refine peel ?_; simp (decide := true) only [e_int, e_str, e_bool, k_name, e_bin, e_un, e_bo, k_cmp, k_list, k_tup, e_dict, k_attr, e_from, e_upto, e_item, k_call, k_meth, k_comp, bo_one, gBool_or, gBool_and, es_nil, es_cons, if_nil, if_one, t_not, t_bo, k_tcmp, t_name, t_sub, t_call, al_nil, gAll_or, gAll_and, k_aname, a_attr, a_item, a_tup, an_nil, k_ancons, s_expr, s_ret0, s_ret, k_asg, s_asg_, s_if, k_for, s_while, whK_next, whK_ret, seqK_next, seqK_ret, gSs_nil, tk_sub, tk_attr, tk_call, tk_item, tk_tup, kdL_cons, lk_cons, lk_nil, beq_ff, ex_some, true_and, and_true, if_true, if_false, not_false_eq_true, lset, compLoc, gCmp_eq, gCmp_ne, gCmp_in, gCmp_nin, gCmp_lt, gCmp_gt, gCmp_ge, gUn_neg, gUn_not, gBin_add, gBin_sub, gEq_int, gEq_bool, gEq_str, retOf, J.rg, J.rs])
    refine me_append J.hg (J.raw.ga_op (me_pop J.raw.op ?_))
    have hdl : (L.drop (i + 1) ++ post).length ≤ 100 := by rw [List.length_append, List.length_drop]; omega
    have hop : H' a.op = some (.list ((L.drop (i + 1) ++ post).reverse.map .str ++ [.str L[i]])) := by rw [J.raw.op, hsplit]; simp
    refine m_pop hop (nb1 hdl) ?_
    have W1 := J.raw.setOp ((L.drop (i + 1) ++ post).reverse.map .str)
    refine m_append (l := (L.take i).map .str) (by rw [hset_ne _ _ gne.1]; exact J.hg) (nbkl hLle) ?_
    have W2 := W1.frame (H' := hset (hset H' a.op (.list ((L.drop (i + 1) ++ post).reverse.map .str))) g (.list ((L.take i).map .str ++ [.str L[i]]))) fun b hb => hset_ne _ _ (by rintro rfl; exact hga hb)
    have eg : (L.take i).map GV.str ++ [.str L[i]] = (L.take (i + 1)).map .str := by rw [htake, List.map_append]; rfl
    (refine peel ?_; simp (decide := true) only [e_int, e_str, e_bool, k_name, e_bin, e_un, e_bo, k_cmp, k_list, k_tup, e_dict, k_attr, e_from, e_upto, e_item, k_call, k_meth, k_comp, bo_one, gBool_or, gBool_and, es_nil, es_cons, if_nil, if_one, t_not, t_bo, k_tcmp, t_name, t_sub, t_call, al_nil, gAll_or, gAll_and, k_aname, a_attr, a_item, a_tup, an_nil, k_ancons, s_expr, s_ret0, s_ret, k_asg, s_asg_, s_if, k_for, s_while, whK_next, whK_ret, seqK_next, seqK_ret, gSs_nil, tk_sub, tk_attr, tk_call, tk_item, tk_tup, kdL_cons, lk_cons, lk_nil, beq_ff, ex_some, true_and, and_true, if_true, if_false, not_false_eq_true, lset, compLoc, gCmp_eq, gCmp_ne, gCmp_in, gCmp_nin, gCmp_lt, gCmp_gt, gCmp_ge, gUn_neg, gUn_not, gBin_add, gBin_sub, gEq_int, gEq_bool, gEq_str, retOf, J.rg, J.rs])
    refine W2.ga_io (gi_last (hset_self _ _ _) (Nat.le_of_lt (nbk1 hLle)) ?_)
    have hm : L[i] ∈ σ.V := hV _ (by rw [hO]; exact List.mem_append_left _ (List.getElem_mem _))
    refine gsi_mem W2.io (nb100 R.vlen) R.vnd hm ?_
    have W3 := W2.setIo (dm σ.V (upd (fun y => GV.bool (if y ∈ L.take i then false else σ.isop y)) L[i] (.bool false)))
    refine ⟨L.length - (i + 1), by omega, i + 1, by omega, rfl, ⟨J.rg, J.rs, J.rn, ?_, ?_, fun b hb => ?_⟩⟩
    · rw [hset_ne _ _ gne.2.1, hset_self, eg]
    · have ef : (fun y => GV.bool (if y ∈ L.take (i + 1) then false else σ.isop y)) = upd (fun y => GV.bool (if y ∈ L.take i then false else σ.isop y)) L[i] (.bool false) := by
        funext y
        unfold upd
        rw [htake]
        simp only [List.mem_append, List.mem_singleton]
        by_cases h1 : y = L[i]
        · simp [h1]
        · simp [h1]
      rw [ef]
      exact W3
    · rw [← J.fr b hb]
      simp only [List.mem_cons, List.not_mem_nil, or_false, not_or] at hb
      rw [hset_ne _ _ hb.2.1, hset_ne _ _ hb.2.2, hset_ne _ _ hb.1]
  · -- the end
    have eT : L.take i = L := List.take_of_length_le (Nat.le_of_eq hlast.symm)
    have eD : L.drop i = [] := List.drop_eq_nil_of_le (Nat.le_of_eq hlast.symm)
    have Jr := J.raw
    have Jg := J.hg
    rw [eT] at Jr Jg
    rw [eD, List.nil_append] at Jr
    (refine peel ?_; simp (decide := true) only [e_int, e_str, e_bool, k_name, e_bin, e_un, e_bo, k_cmp, k_list, k_tup, e_dict, k_attr, e_from, e_upto, e_item, k_call, k_meth, k_comp, bo_one, gBool_or, gBool_and, es_nil, es_cons, if_nil, if_one, t_not, t_bo, k_tcmp, t_name, t_sub, t_call, al_nil, gAll_or, gAll_and, k_aname, a_attr, a_item, a_tup, an_nil, k_ancons, s_expr, s_ret0, s_ret, k_asg, s_asg_, s_if, k_for, s_while, whK_next, whK_ret, seqK_next, seqK_ret, gSs_nil, tk_sub, tk_attr, tk_call, tk_item, tk_tup, kdL_cons, lk_cons, lk_nil, beq_ff, ex_some, true_and, and_true, if_true, if_false, not_false_eq_true, lset, compLoc, gCmp_eq, gCmp_ne, gCmp_in, gCmp_nin, gCmp_lt, gCmp_gt, gCmp_ge, gUn_neg, gUn_not, gBin_add, gBin_sub, gEq_int, gEq_bool, gEq_str, retOf, J.rg, J.rs])
    refine Jr.ga_fo (me_append Jr.fo (m_append Jr.fo (by rw [List.length_map]; exact Nat.lt_trans hfl (by decide)) ?_))
    have W := Jr.setFo (fs.map .ref ++ [.ref g])
    have hne' : g ≠ a.fo := gne.2.2
    refine q _ g ⟨?_, R.vnd, R.vlen, ?_, ?_, ?_, ?_⟩ hg hga fun b hb => ?_
    · simpa [WS.close] using W
    · show post.length ≤ 100; omega
    · refine LL.snoc (R.ll.frame fun b hb => ?_) ?_
      · have h1 := R.fsd b hb
        have h2 : b ≠ g := by rintro rfl; obtain ⟨o, e⟩ := R.ll.some b hb; rw [e] at hg; cases hg
        simp only [WA.all, List.mem_cons, List.not_mem_nil, or_false, not_or] at h1
        rw [hset_ne _ _ h1.2.2.2.2.2.2.2, J.fr b (by simp only [List.mem_cons, List.not_mem_nil, or_false, not_or]; exact ⟨h1.2.2.2.2.2.1, h1.2.2.2.2.2.2.1, h2⟩)]
      · rw [hset_ne _ _ hne', Jg]
    · intro f hf
      rcases List.mem_append.mp hf with hf | hf
      · exact R.fsd f hf
      · simp at hf; subst hf; exact hga
    · simp; omega
    · simp only [List.mem_cons, List.not_mem_nil, or_false, not_or] at hb
      rw [hset_ne _ _ hb.2.2.1]
      exact J.fr b (by simp only [List.mem_cons, List.not_mem_nil, or_false, not_or]; exact ⟨hb.1, hb.2.1, hb.2.2.2⟩)

-- L1
abbrev Adj := Str → List Str
-- x leads to y, in no step or more
inductive Rch (adj : Adj) : Str → Str → Prop
  | refl (x : Str) : Rch adj x x
  | step {x y z : Str} : y ∈ adj x → Rch adj y z → Rch adj x z
theorem Rch.trans {adj : Adj} {x y z : Str} (h : Rch adj x y) (k : Rch adj y z) : Rch adj x z := by
  induction h with
  | refl => exact k
  | step e _ ih => exact .step e (ih k)
theorem Rch.one {adj : Adj} {x y : Str} (h : y ∈ adj x) : Rch adj x y := .step h (.refl _)

abbrev Fr := List (Str × Nat)
-- the edge y → t has been looked at
noncomputable def Ex (adj : Adj) (S : Fr) (y t : Str) : Prop := (∃ i, (y, i) ∈ S ∧ t ∈ (adj y).take i) ∨ (y ∉ S.map (·.1) ∧ t ∈ adj y)

structure TI (adj : Adj) (names : List Str) (σ : WS) (S : Fr) : Prop where
  vnd : σ.V.Nodup
  vn : ∀ x ∈ σ.V, x ∈ names
  ninj : ∀ x ∈ σ.V, ∀ y ∈ σ.V, σ.num x = σ.num y → x = y
  nlt : ∀ x ∈ σ.V, σ.num x < σ.V.length
  osub : ∀ x ∈ σ.O, x ∈ σ.V
  osort : σ.O.Pairwise fun x y => σ.num y < σ.num x
  isop : ∀ x ∈ σ.V, σ.isop x = decide (x ∈ σ.O)
  sO : ∀ p ∈ S, p.1 ∈ σ.O
  sdec : S.Pairwise fun p q => σ.num q.1 < σ.num p.1
  sidx : ∀ p ∈ S, p.2 ≤ (adj p.1).length
  gray : ∀ p ∈ S, ∀ y ∈ σ.O, σ.num p.1 ≤ σ.num y → Rch adj p.1 y
  expl : ∀ y ∈ σ.V, ∀ t, Ex adj S y t → t ∈ σ.V
  closed : ∀ x ∈ σ.V, x ∉ σ.O → ∀ y ∈ adj x, y ∈ σ.V ∧ y ∉ σ.O
  lowS : ∀ y ∈ σ.O, ∃ z ∈ σ.O, σ.num z = σ.low y ∧ σ.num z ≤ σ.num y ∧ Rch adj y z
  fin : ∀ y ∈ σ.O, y ∉ S.map (·.1) → σ.low y < σ.num y
  lowC : ∀ p ∈ S, ∀ y ∈ σ.O, σ.num p.1 ≤ σ.num y → (∀ q ∈ S, σ.num p.1 < σ.num q.1 → σ.num y < σ.num q.1) → ∀ t, Ex adj S y t → t ∈ σ.O → σ.low p.1 ≤ σ.num t
  bot : ∀ y ∈ σ.O, ∃ p ∈ S, σ.num p.1 ≤ σ.num y
  fmem : ∀ x, x ∈ σ.F.flatten ↔ x ∈ σ.V ∧ x ∉ σ.O
  fnd : σ.F.flatten.Nodup
  fne : ∀ g ∈ σ.F, g ≠ []
  fscc : ∀ g ∈ σ.F, ∀ x ∈ g, ∀ y, y ∈ g ↔ Rch adj x y ∧ Rch adj y x
  ford : σ.F.Pairwise fun g h => ∀ x ∈ g, ∀ y ∈ h, ¬ Rch adj x y

section
variable {adj : Adj} {names : List Str} {σ : WS} {S : Fr}

theorem Ex.cons_other {p : Str × Nat} {y t : Str} (h : y ≠ p.1) : Ex adj (p :: S) y t ↔ Ex adj S y t := by
  unfold Ex
  constructor
  · rintro (⟨i, hi, ht⟩ | ⟨hn, ht⟩)
    · rcases List.mem_cons.mp hi with e | hi
      · exact absurd (by rw [← e]) h
      · exact .inl ⟨i, hi, ht⟩
    · simp only [List.map_cons, List.mem_cons, not_or] at hn
      exact .inr ⟨hn.2, ht⟩
  · rintro (⟨i, hi, ht⟩ | ⟨hn, ht⟩)
    · exact .inl ⟨i, List.mem_cons_of_mem _ hi, ht⟩
    · exact .inr ⟨by simp only [List.map_cons, List.mem_cons, not_or]; exact ⟨h, hn⟩, ht⟩
theorem Ex.cons_self {x : Str} {i : Nat} {t : Str} (h : x ∉ S.map (·.1)) : Ex adj ((x, i) :: S) x t ↔ t ∈ (adj x).take i := by
  unfold Ex
  constructor
  · rintro (⟨j, hj, ht⟩ | ⟨hn, ht⟩)
    · rcases List.mem_cons.mp hj with e | hj
      · cases e; exact ht
      · exact absurd (List.mem_map.mpr ⟨_, hj, rfl⟩) h
    · simp at hn
  · exact fun ht => .inl ⟨i, List.mem_cons_self, ht⟩

-- the first frame's name stands in no other
theorem TI.top_nd {x : Str} {i : Nat} (T : TI adj names σ ((x, i) :: S)) : x ∉ S.map (·.1) := by
  intro h
  obtain ⟨p, hp, e⟩ := List.mem_map.mp h
  have := (List.pairwise_cons.mp T.sdec).1 p hp
  rw [e] at this
  exact Nat.lt_irrefl _ this

-- an edge looked at, its target met already
theorem TI.look {x : Str} {i n : Nat} (T : TI adj names σ ((x, i) :: S)) {t : Str} (hi : (adj x)[i]? = some t) (ht : t ∈ σ.V) (hle : n ≤ σ.low x) (hS : ∃ z ∈ σ.O, σ.num z = n ∧ σ.num z ≤ σ.num x ∧ Rch adj x z) (hC : t ∈ σ.O → n ≤ σ.num t) :
    TI adj names (σ.lower x n) ((x, i + 1) :: S) := by
  have nd := T.top_nd
  have hlt : i < (adj x).length := (List.getElem?_eq_some_iff.mp hi).1
  have take : (adj x).take (i + 1) = (adj x).take i ++ [t] := by rw [List.take_add_one, hi]; rfl
  have ex : ∀ {y u}, Ex adj ((x, i + 1) :: S) y u → Ex adj ((x, i) :: S) y u ∨ (y = x ∧ u = t) := fun {y u} h => by
    by_cases e : y = x
    · subst e
      rw [Ex.cons_self nd, take] at h
      rcases List.mem_append.mp h with h | h
      · exact .inl ((Ex.cons_self nd).mpr h)
      · exact .inr ⟨rfl, List.mem_singleton.mp h⟩
    · rw [Ex.cons_other e] at h
      exact .inl ((Ex.cons_other e).mpr h)
  have mem : ∀ {p}, p ∈ ((x, i + 1) :: S) → ∃ q ∈ ((x, i) :: S), q.1 = p.1 := fun {p} h => by
    rcases List.mem_cons.mp h with rfl | h
    · exact ⟨_, List.mem_cons_self, rfl⟩
    · exact ⟨p, List.mem_cons_of_mem _ h, rfl⟩
  have mem' : ∀ {p}, p ∈ ((x, i) :: S) → ∃ q ∈ ((x, i + 1) :: S), q.1 = p.1 := fun {p} h => by
    rcases List.mem_cons.mp h with rfl | h
    · exact ⟨_, List.mem_cons_self, rfl⟩
    · exact ⟨p, List.mem_cons_of_mem _ h, rfl⟩
  have hxO : x ∈ σ.O := T.sO (x, i) List.mem_cons_self
  have lowle : ∀ y, upd σ.low x n y ≤ σ.low y := fun y => by
    by_cases e : y = x
    · subst e; rw [upd_same]; exact hle
    · rw [upd_ne _ _ e]; exact Nat.le_refl _
  refine { T with sO := ?_, sdec := ?_, sidx := ?_, gray := ?_, expl := ?_, fin := ?_, lowC := ?_, bot := ?_, lowS := ?_ }
  · intro p hp; obtain ⟨q, hq, e⟩ := mem hp; rw [← e]; exact T.sO q hq
  · have := List.pairwise_cons.mp T.sdec; exact List.pairwise_cons.mpr this
  · intro p hp
    rcases List.mem_cons.mp hp with rfl | hp
    · exact hlt
    · exact T.sidx p (List.mem_cons_of_mem _ hp)
  · intro p hp; obtain ⟨q, hq, e⟩ := mem hp; rw [← e]; exact T.gray q hq
  · intro y hy u hu
    rcases ex hu with hu | ⟨rfl, rfl⟩
    · exact T.expl y hy u hu
    · exact ht
  · intro y hy
    show ∃ z ∈ σ.O, σ.num z = upd σ.low x n y ∧ _
    by_cases e : y = x
    · subst e
      rw [upd_same]
      exact hS
    · rw [upd_ne _ _ e]; exact T.lowS y hy
  · intro y hy hn
    exact Nat.lt_of_le_of_lt (lowle y) (T.fin y hy hn)
  · intro p hp y hy hle' hreg u hu huO
    obtain ⟨q, hq, e⟩ := mem hp
    show upd σ.low x n p.1 ≤ σ.num u
    rcases ex hu with hu | ⟨rfl, rfl⟩
    · refine Nat.le_trans (lowle _) ?_
      rw [← e]
      exact T.lowC q hq y hy (by rw [e]; exact hle') (fun r hr => by obtain ⟨r', hr', e'⟩ := mem' hr; rw [← e', e]; exact hreg r' hr') u hu huO
    · have hpy : p.1 = y := by
        rcases List.mem_cons.mp hp with rfl | hp'
        · rfl
        · exact absurd (hreg (y, i + 1) List.mem_cons_self ((List.pairwise_cons.mp T.sdec).1 p hp')) (Nat.lt_irrefl _)
      rw [hpy, upd_same]
      exact hC huO
  · intro y hy; obtain ⟨p, hp, h⟩ := T.bot y hy; obtain ⟨q, hq, e⟩ := mem' hp; exact ⟨q, hq, e ▸ h⟩

theorem lower_same {σ : WS} {x : Str} : σ.lower x (σ.low x) = σ := by
  have : upd σ.low x (σ.low x) = σ.low := by funext y; unfold upd; split <;> simp_all
  unfold WS.lower; rw [this]

-- an edge to a closed name
theorem TI.skip {x : Str} {i : Nat} (T : TI adj names σ ((x, i) :: S)) {t : Str} (hi : (adj x)[i]? = some t) (ht : t ∈ σ.V) (hc : t ∉ σ.O) : TI adj names σ ((x, i + 1) :: S) := by
  have := T.look hi ht (Nat.le_refl _) (T.lowS x (T.sO (x, i) List.mem_cons_self)) (fun h => absurd h hc)
  rwa [lower_same] at this
-- an edge to an open name
theorem TI.lower {x : Str} {i : Nat} (T : TI adj names σ ((x, i) :: S)) {t : Str} (hi : (adj x)[i]? = some t) (hO : t ∈ σ.O) : TI adj names (σ.lower x (min (σ.low x) (σ.num t))) ((x, i + 1) :: S) := by
  refine T.look hi (T.osub t hO) (Nat.min_le_left _ _) ?_ fun _ => Nat.min_le_right _ _
  obtain ⟨z, hz, h1, h2, h3⟩ := T.lowS x (T.sO (x, i) List.mem_cons_self)
  by_cases h : σ.low x ≤ σ.num t
  · rw [Nat.min_eq_left h]; exact ⟨z, hz, h1, h2, h3⟩
  · have h' := Nat.le_of_lt (Nat.lt_of_not_le h)
    rw [Nat.min_eq_right h']; exact ⟨t, hO, rfl, Nat.le_trans h' (h1 ▸ h2), Rch.one (List.mem_of_getElem? hi)⟩

theorem enter_num {x y : Str} (hy : y ∈ σ.V) (hx : x ∉ σ.V) : (σ.enter x).num y = σ.num y := upd_ne _ _ (by rintro rfl; exact hx hy)
theorem enter_low {x y : Str} (hy : y ∈ σ.V) (hx : x ∉ σ.V) : (σ.enter x).low y = σ.low y := upd_ne _ _ (by rintro rfl; exact hx hy)
theorem enter_num_self {x : Str} : (σ.enter x).num x = σ.V.length := upd_same _ _ _
theorem enter_low_self {x : Str} : (σ.enter x).low x = σ.V.length := upd_same _ _ _

-- a name is met for the first time: S' the frames below it, with their marks advanced
theorem TI.enter {S' : Fr} (T : TI adj names σ S) {t : Str} (ht : t ∉ σ.V) (htn : t ∈ names)
    (hmem : ∀ p ∈ S', ∃ q ∈ S, q.1 = p.1) (hmem' : ∀ p ∈ S, ∃ q ∈ S', q.1 = p.1) (hdec : S'.Pairwise fun p q => σ.num q.1 < σ.num p.1) (hidx : ∀ p ∈ S', p.2 ≤ (adj p.1).length)
    (hex : ∀ y u, Ex adj S' y u → Ex adj S y u ∨ u = t) (hgray : ∀ p ∈ S', Rch adj p.1 t) : TI adj names (σ.enter t) ((t, 0) :: S') := by
  have hO : t ∉ σ.O := fun h => ht (T.osub t h)
  have hS' : t ∉ S'.map (·.1) := fun h => by
    obtain ⟨p, hp, e⟩ := List.mem_map.mp h
    obtain ⟨q, hq, e'⟩ := hmem p hp
    exact hO (by rw [← e, ← e']; exact T.sO q hq)
  have SV : ∀ p ∈ S', p.1 ∈ σ.V := fun p hp => by obtain ⟨q, hq, e⟩ := hmem p hp; rw [← e]; exact T.osub _ (T.sO q hq)
  have num : ∀ y ∈ σ.V, (σ.enter t).num y = σ.num y := fun y hy => enter_num hy ht
  have numt : (σ.enter t).num t = σ.V.length := enter_num_self
  have ex : ∀ {y u}, Ex adj ((t, 0) :: S') y u → y ≠ t ∧ (Ex adj S y u ∨ u = t) := fun {y u} h => by
    by_cases e : y = t
    · subst e
      rw [Ex.cons_self hS'] at h
      simp at h
    · rw [Ex.cons_other e] at h
      exact ⟨e, hex y u h⟩
  refine ⟨?_, ?_, ?_, ?_, ?_, ?_, ?_, ?_, ?_, ?_, ?_, ?_, ?_, ?_, ?_, ?_, ?_, ?_, T.fnd, T.fne, T.fscc, T.ford⟩
  · show (σ.V ++ [t]).Nodup
    rw [List.nodup_append]
    exact ⟨T.vnd, by simp, fun y hy z hz e => by simp at hz; subst hz; subst e; exact ht hy⟩
  · intro x hx
    rcases List.mem_append.mp hx with hx | hx
    · exact T.vn x hx
    · simp at hx; subst hx; exact htn
  · intro x hx y hy e
    rcases List.mem_append.mp hx with h1 | h1 <;> rcases List.mem_append.mp hy with h2 | h2
    · rw [num x h1, num y h2] at e; exact T.ninj x h1 y h2 e
    · simp at h2; rw [h2, num x h1, numt] at e; have := T.nlt x h1; omega
    · simp at h1; rw [h1, num y h2, numt] at e; have := T.nlt y h2; omega
    · simp at h1 h2; rw [h1, h2]
  · intro x hx
    show _ < (σ.V ++ [t]).length
    rw [List.length_append, List.length_singleton]
    rcases List.mem_append.mp hx with hx | hx
    · rw [num x hx]; have := T.nlt x hx; omega
    · simp at hx; subst hx; rw [numt]; omega
  · intro x hx
    rcases List.mem_cons.mp hx with rfl | hx
    · exact List.mem_append_right _ (by simp)
    · exact List.mem_append_left _ (T.osub x hx)
  · refine List.pairwise_cons.mpr ⟨fun y hy => ?_, T.osort.imp_of_mem fun {x y} hx hy h => ?_⟩
    · rw [num y (T.osub y hy), numt]; exact T.nlt y (T.osub y hy)
    · rw [num x (T.osub x hx), num y (T.osub y hy)]; exact h
  · intro x hx
    show upd σ.isop t true x = decide (x ∈ t :: σ.O)
    rcases List.mem_append.mp hx with h1 | h1
    · have : x ≠ t := fun e => ht (e ▸ h1)
      rw [upd_ne _ _ this, T.isop x h1]
      simp [this]
    · simp at h1; subst h1; simp [upd_same]
  · intro p hp
    rcases List.mem_cons.mp hp with rfl | hp
    · exact List.mem_cons_self
    · obtain ⟨q, hq, e⟩ := hmem p hp; rw [← e]; exact List.mem_cons_of_mem _ (T.sO q hq)
  · refine List.pairwise_cons.mpr ⟨fun p hp => ?_, hdec.imp_of_mem fun {x y} hx hy h => ?_⟩
    · show (σ.enter t).num p.1 < (σ.enter t).num t
      rw [num _ (SV p hp), numt]; exact T.nlt _ (SV p hp)
    · rw [num _ (SV x hx), num _ (SV y hy)]; exact h
  · intro p hp
    rcases List.mem_cons.mp hp with rfl | hp
    · exact Nat.zero_le _
    · exact hidx p hp
  · intro p hp y hy hle
    rcases List.mem_cons.mp hp with rfl | hp
    · rcases List.mem_cons.mp hy with rfl | hy
      · exact .refl _
      · exfalso
        rw [numt, num y (T.osub y hy)] at hle
        have := T.nlt y (T.osub y hy); omega
    · rename_i hp'
      rcases List.mem_cons.mp hy with e | hy
      · rw [e]; exact hgray p hp
      · rw [num _ (SV p hp), num y (T.osub y hy)] at hle
        obtain ⟨q, hq, e⟩ := hmem p hp
        rw [← e] at hle ⊢
        exact T.gray q hq y hy hle
  · intro y hy u hu
    obtain ⟨hne, hu⟩ := ex hu
    rcases List.mem_append.mp hy with hy | hy
    · rcases hu with hu | rfl
      · exact List.mem_append_left _ (T.expl y hy u hu)
      · exact List.mem_append_right _ (by simp)
    · simp at hy; exact absurd hy hne
  · intro x hx hn y hy
    simp only [WS.enter, List.mem_cons, not_or] at hn
    rcases List.mem_append.mp hx with hx | hx
    · obtain ⟨h1, h2⟩ := T.closed x hx hn.2 y hy
      refine ⟨List.mem_append_left _ h1, ?_⟩
      simp only [WS.enter, List.mem_cons, not_or]
      exact ⟨by rintro rfl; exact ht h1, h2⟩
    · simp at hx; exact absurd hx hn.1
  · intro y hy
    rcases List.mem_cons.mp hy with rfl | hy
    · exact ⟨y, List.mem_cons_self, by rw [enter_num_self, enter_low_self], Nat.le_refl _, .refl _⟩
    · obtain ⟨z, hz, h1, h2, h3⟩ := T.lowS y hy
      exact ⟨z, List.mem_cons_of_mem _ hz, by rw [num z (T.osub z hz), enter_low (T.osub y hy) ht]; exact h1, by rw [num z (T.osub z hz), num y (T.osub y hy)]; exact h2, h3⟩
  · intro y hy hn
    simp only [List.map_cons, List.mem_cons, not_or] at hn
    rcases List.mem_cons.mp hy with rfl | hy
    · exact absurd rfl hn.1
    · rw [num y (T.osub y hy), enter_low (T.osub y hy) ht]
      refine T.fin y hy fun h => hn.2 ?_
      obtain ⟨p, hp, e⟩ := List.mem_map.mp h
      obtain ⟨q, hq, e'⟩ := hmem' p hp
      exact List.mem_map.mpr ⟨q, hq, by rw [e', e]⟩
  · intro p hp y hy hle hreg u hu huO
    obtain ⟨hyt, hu⟩ := ex hu
    have hyO : y ∈ σ.O := by
      rcases List.mem_cons.mp hy with e | hy
      · exact absurd e hyt
      · exact hy
    have hyV := T.osub y hyO
    rcases List.mem_cons.mp hp with rfl | hp
    · exfalso
      rw [numt, num y hyV] at hle
      have := T.nlt y hyV; omega
    · have hpV := SV p hp
      rw [enter_low hpV ht]
      obtain ⟨q, hq, e⟩ := hmem p hp
      rcases hu with hu | rfl
      · have huV := T.expl y hyV u hu
        have hut : u ≠ t := by rintro rfl; exact ht huV
        have huO' : u ∈ σ.O := by
          rcases List.mem_cons.mp huO with e | h
          · exact absurd e hut
          · exact h
        rw [num u huV, ← e]
        rw [num _ hpV, num y hyV] at hle
        refine T.lowC q hq y hyO (by rw [e]; exact hle) (fun r hr hlt => ?_) u hu huO'
        obtain ⟨r', hr', e'⟩ := hmem' r hr
        have := hreg r' (List.mem_cons_of_mem _ hr') (by rw [num _ hpV, num _ (SV r' hr'), e', ← e]; exact hlt)
        rw [num y hyV, num _ (SV r' hr'), e'] at this
        exact this
      · rw [numt]
        obtain ⟨z, hz, h1, h2, _⟩ := T.lowS q.1 (T.sO q hq)
        have := T.nlt z (T.osub z hz)
        rw [← e]; omega
  · intro y hy
    rcases List.mem_cons.mp hy with rfl | hy
    · exact ⟨_, List.mem_cons_self, Nat.le_refl _⟩
    · obtain ⟨p, hp, h⟩ := T.bot y hy
      obtain ⟨q, hq, e⟩ := hmem' p hp
      refine ⟨q, List.mem_cons_of_mem _ hq, ?_⟩
      rw [num y (T.osub y hy), num _ (SV q hq), e]
      exact h
  · intro x
    rw [show (σ.enter t).F = σ.F from rfl, T.fmem x]
    constructor
    · rintro ⟨h1, h2⟩
      refine ⟨List.mem_append_left _ h1, ?_⟩
      simp only [WS.enter, List.mem_cons, not_or]
      exact ⟨by rintro rfl; exact ht h1, h2⟩
    · rintro ⟨h1, h2⟩
      simp only [WS.enter, List.mem_cons, not_or] at h2
      rcases List.mem_append.mp h1 with h1 | h1
      · exact ⟨h1, h2.2⟩
      · simp at h1; exact absurd h1 h2.1

theorem TI.start (T : TI adj names σ []) {x : Str} (hx : x ∉ σ.V) (hn : x ∈ names) : TI adj names (σ.enter x) [(x, 0)] :=
  T.enter hx hn (fun p hp => nomatch hp) (fun p hp => nomatch hp) List.Pairwise.nil (fun p hp => nomatch hp) (fun y u h => .inl h) (fun p hp => nomatch hp)

theorem TI.push {x : Str} {i : Nat} (T : TI adj names σ ((x, i) :: S)) {t : Str} (hi : (adj x)[i]? = some t) (ht : t ∉ σ.V) (htn : t ∈ names) : TI adj names (σ.enter t) ((t, 0) :: (x, i + 1) :: S) := by
  have nd := T.top_nd
  have hlt : i < (adj x).length := (List.getElem?_eq_some_iff.mp hi).1
  have hedge : t ∈ adj x := List.mem_of_getElem? hi
  have take : (adj x).take (i + 1) = (adj x).take i ++ [t] := by rw [List.take_add_one, hi]; rfl
  have hxO : x ∈ σ.O := T.sO (x, i) List.mem_cons_self
  refine T.enter ht htn (fun p hp => ?_) (fun p hp => ?_) ?_ (fun p hp => ?_) (fun y u h => ?_) (fun p hp => ?_)
  · rcases List.mem_cons.mp hp with rfl | h
    · exact ⟨_, List.mem_cons_self, rfl⟩
    · exact ⟨p, List.mem_cons_of_mem _ h, rfl⟩
  · rcases List.mem_cons.mp hp with rfl | h
    · exact ⟨_, List.mem_cons_self, rfl⟩
    · exact ⟨p, List.mem_cons_of_mem _ h, rfl⟩
  · have := List.pairwise_cons.mp T.sdec; exact List.pairwise_cons.mpr this
  · rcases List.mem_cons.mp hp with rfl | hp
    · exact hlt
    · exact T.sidx p (List.mem_cons_of_mem _ hp)
  · by_cases e : y = x
    · subst e
      rw [Ex.cons_self nd, take] at h
      rcases List.mem_append.mp h with h | h
      · exact .inl ((Ex.cons_self nd).mpr h)
      · exact .inr (by simpa using h)
    · rw [Ex.cons_other e] at h
      exact .inl ((Ex.cons_other e).mpr h)
  · rcases List.mem_cons.mp hp with rfl | hp
    · exact Rch.one hedge
    · have h1 := (List.pairwise_cons.mp T.sdec).1 p hp
      exact (T.gray p (List.mem_cons_of_mem _ hp) x hxO (Nat.le_of_lt h1)).trans (Rch.one hedge)

-- every open name leads to the top frame's
theorem TI.up {x : Str} {i : Nat} (T : TI adj names σ ((x, i) :: S)) : ∀ n, ∀ y ∈ σ.O, σ.num y < n → Rch adj y x
  | 0, y, _, h => absurd h (Nat.not_lt_zero _)
  | n + 1, y, hy, h => by
    by_cases hg : y ∈ ((x, i) :: S).map (·.1)
    · obtain ⟨p, hp, e⟩ := List.mem_map.mp hg
      have hle : σ.num p.1 ≤ σ.num x := by
        rcases List.mem_cons.mp hp with rfl | hp
        · exact Nat.le_refl _
        · exact Nat.le_of_lt ((List.pairwise_cons.mp T.sdec).1 p hp)
      have := T.gray p hp x (T.sO (x, i) List.mem_cons_self) hle
      rwa [e] at this
    · have h1 := T.fin y hy hg
      obtain ⟨z, hz, h2, h3, h4⟩ := T.lowS y hy
      exact h4.trans (T.up n z hz (by omega))

-- the name at the top is done, and joins what is below
theorem TI.stay {x : Str} {i : Nat} (T : TI adj names σ ((x, i) :: S)) (hi : (adj x).length ≤ i) (hl : σ.low x ≠ σ.num x) :
    ∃ q r, S = q :: r ∧ TI adj names (σ.lower q.1 (min (σ.low q.1) (σ.low x))) S := by
  have nd := T.top_nd
  have hxO : x ∈ σ.O := T.sO (x, i) List.mem_cons_self
  obtain ⟨z, hz, z1, z2, z3⟩ := T.lowS x hxO
  have hlt : σ.low x < σ.num x := by omega
  obtain ⟨p, hp, hpz⟩ := T.bot z hz
  have hpS : p ∈ S := by
    rcases List.mem_cons.mp hp with rfl | hp
    · dsimp only at hpz; omega
    · exact hp
  cases S with
  | nil => cases hpS
  | cons q r =>
    refine ⟨q, r, rfl, ?_⟩
    have hqx : σ.num q.1 < σ.num x := (List.pairwise_cons.mp T.sdec).1 q List.mem_cons_self
    have hqO : q.1 ∈ σ.O := T.sO q (by simp)
    have hqne : q.1 ≠ x := by intro e; rw [e] at hqx; exact Nat.lt_irrefl _ hqx
    have sub : ∀ p ∈ q :: r, p ∈ (x, i) :: q :: r := fun p hp => List.mem_cons_of_mem _ hp
    have ex : ∀ {y u}, Ex adj (q :: r) y u → Ex adj ((x, i) :: q :: r) y u := fun {y u} h => by
      by_cases e : y = x
      · subst e
        rw [Ex.cons_self nd]
        rcases h with ⟨j, hj, _⟩ | ⟨_, h⟩
        · exact absurd (List.mem_map.mpr ⟨_, hj, rfl⟩) nd
        · rw [List.take_of_length_le hi]; exact h
      · exact (Ex.cons_other e).mpr h
    have hqmax : ∀ p ∈ q :: r, σ.num p.1 ≤ σ.num q.1 := fun p hp => by
      rcases List.mem_cons.mp hp with rfl | hp
      · exact Nat.le_refl _
      · exact Nat.le_of_lt ((List.pairwise_cons.mp (List.pairwise_cons.mp T.sdec).2).1 p hp)
    have lowle : ∀ y, upd σ.low q.1 (min (σ.low q.1) (σ.low x)) y ≤ σ.low y := fun y => by
      by_cases e : y = q.1
      · subst e; rw [upd_same]; exact Nat.min_le_left _ _
      · rw [upd_ne _ _ e]; exact Nat.le_refl _
    refine { T with sO := fun p hp => T.sO p (sub p hp), sdec := (List.pairwise_cons.mp T.sdec).2, sidx := fun p hp => T.sidx p (sub p hp), gray := fun p hp => T.gray p (sub p hp), expl := fun y hy u hu => T.expl y hy u (ex hu), fin := ?_, lowC := ?_, bot := ?_, lowS := ?_ }
    · intro y hy
      show ∃ z ∈ σ.O, σ.num z = upd σ.low q.1 (min (σ.low q.1) (σ.low x)) y ∧ _
      obtain ⟨w, hw, h1, h2, h3⟩ := T.lowS y hy
      by_cases e : y = q.1
      · subst e
        rw [upd_same]
        by_cases h : σ.low q.1 ≤ σ.low x
        · rw [Nat.min_eq_left h]; exact ⟨w, hw, h1, h2, h3⟩
        · rw [Nat.min_eq_right (by omega)]
          exact ⟨z, hz, z1, (by omega : σ.num z ≤ σ.num q.1), (T.gray q (by simp) x hxO (Nat.le_of_lt hqx)).trans z3⟩
      · rw [upd_ne _ _ e]; exact ⟨w, hw, h1, h2, h3⟩
    · intro y hy hn
      show upd σ.low q.1 _ y < σ.num y
      refine Nat.lt_of_le_of_lt (lowle y) ?_
      by_cases e : y = x
      · subst e; exact hlt
      · exact T.fin y hy (by simp only [List.map_cons, List.mem_cons, not_or] at hn ⊢; exact ⟨e, hn⟩)
    · intro p hp y hy hle hreg u hu huO
      show upd σ.low q.1 (min (σ.low q.1) (σ.low x)) p.1 ≤ σ.num u
      by_cases hyx : σ.num y < σ.num x
      · refine Nat.le_trans (lowle _) (T.lowC p (sub p hp) y hy hle (fun s hs hlt' => ?_) u (ex hu) huO)
        rcases List.mem_cons.mp hs with rfl | hs
        · exact hyx
        · exact hreg s hs hlt'
      · have epq : p.1 = q.1 := by
          refine Classical.byContradiction fun hne => ?_
          have h1 := hqmax p hp
          have h2 : σ.num p.1 ≠ σ.num q.1 := fun e => hne (T.ninj _ (T.osub _ (T.sO p (sub p hp))) _ (T.osub _ hqO) e)
          have h3 : σ.num y < σ.num q.1 := hreg q List.mem_cons_self (Nat.lt_of_le_of_ne h1 h2)
          omega
        rw [epq, upd_same]
        refine Nat.le_trans (Nat.min_le_right _ _) (T.lowC (x, i) List.mem_cons_self y hy (Nat.le_of_not_lt hyx) (fun s hs hlt' => ?_) u (ex hu) huO)
        exfalso
        rcases List.mem_cons.mp hs with rfl | hs
        · exact Nat.lt_irrefl _ hlt'
        · have := hqmax s hs
          have h' : σ.num x < σ.num s.1 := hlt'
          omega
    · intro y hy
      obtain ⟨p, hp, h⟩ := T.bot y hy
      rcases List.mem_cons.mp hp with rfl | hp
      · exact ⟨q, List.mem_cons_self, Nat.le_trans (Nat.le_of_lt hqx) h⟩
      · exact ⟨p, hp, h⟩

-- a group is closed
theorem TI.pop {x : Str} {i : Nat} (T : TI adj names σ ((x, i) :: S)) (hi : (adj x).length ≤ i) (hl : σ.low x = σ.num x) {pre post : List Str} (hO : σ.O = (pre ++ [x]) ++ post) :
    TI adj names (σ.close (pre ++ [x]) post) S := by
  have nd := T.top_nd
  have hxO : x ∈ σ.O := T.sO (x, i) List.mem_cons_self
  have hxV := T.osub x hxO
  have sorted := T.osort
  rw [hO, List.pairwise_append] at sorted
  obtain ⟨so1, so2, so3⟩ := sorted
  have gmem : ∀ y ∈ σ.O, (y ∈ pre ++ [x] ↔ σ.num x ≤ σ.num y) ∧ (y ∈ post ↔ σ.num y < σ.num x) := fun y hy => by
    have hlast : ∀ y ∈ pre ++ [x], σ.num x ≤ σ.num y := fun y hy => by
      rcases List.mem_append.mp hy with h | h
      · exact Nat.le_of_lt ((List.pairwise_append.mp so1).2.2 y h x (by simp))
      · simp at h; rw [h]; exact Nat.le_refl _
    have hpost : ∀ y ∈ post, σ.num y < σ.num x := fun y hy => so3 x (by simp) y hy
    rw [hO, List.mem_append] at hy
    rcases hy with h | h
    · exact ⟨⟨hlast y, fun _ => h⟩, ⟨fun h' => by have := hpost y h'; exact this, fun h' => by have := hlast y h; omega⟩⟩
    · exact ⟨⟨fun h' => by have := hlast y h'; exact this, fun h' => by have := hpost y h; omega⟩, ⟨hpost y, fun _ => h⟩⟩
  have gO : ∀ y ∈ pre ++ [x], y ∈ σ.O := fun y hy => by rw [hO]; exact List.mem_append_left _ hy
  have pO : ∀ y ∈ post, y ∈ σ.O := fun y hy => by rw [hO]; exact List.mem_append_right _ hy
  have gnp : ∀ y ∈ pre ++ [x], y ∉ post := fun y hy hp => by
    have := (gmem y (gO y hy)).1.mp hy
    have := (gmem y (gO y hy)).2.mp hp
    omega
  have Smax : ∀ p ∈ S, σ.num p.1 < σ.num x := fun p hp => (List.pairwise_cons.mp T.sdec).1 p hp
  have sub : ∀ p ∈ S, p ∈ (x, i) :: S := fun p hp => List.mem_cons_of_mem _ hp
  have SO : ∀ p ∈ S, p.1 ∈ post := fun p hp => (gmem _ (T.sO p (sub p hp))).2.mpr (Smax p hp)
  have ex : ∀ {y u}, Ex adj S y u → Ex adj ((x, i) :: S) y u := fun {y u} h => by
    by_cases e : y = x
    · subst e
      rw [Ex.cons_self nd]
      rcases h with ⟨j, hj, _⟩ | ⟨_, h⟩
      · exact absurd (List.mem_map.mpr ⟨_, hj, rfl⟩) nd
      · rw [List.take_of_length_le hi]; exact h
    · exact (Ex.cons_other e).mpr h
  -- all edges of the group's have been looked at
  have gex : ∀ y ∈ pre ++ [x], ∀ u ∈ adj y, Ex adj ((x, i) :: S) y u := fun y hy u hu => by
    have h1 := (gmem y (gO y hy)).1.mp hy
    by_cases e : y = x
    · subst e
      rw [Ex.cons_self nd, List.take_of_length_le hi]; exact hu
    · refine .inr ⟨?_, hu⟩
      simp only [List.map_cons, List.mem_cons, not_or]
      refine ⟨e, fun h => ?_⟩
      obtain ⟨p, hp, e'⟩ := List.mem_map.mp h
      have := Smax p hp
      rw [e'] at this
      omega
  -- where they lead
  have gto : ∀ y ∈ pre ++ [x], ∀ u ∈ adj y, u ∈ σ.V ∧ (u ∈ pre ++ [x] ∨ u ∉ σ.O) := fun y hy u hu => by
    have hE := gex y hy u hu
    have huV := T.expl y (T.osub y (gO y hy)) u hE
    refine ⟨huV, ?_⟩
    by_cases huO : u ∈ σ.O
    · left
      refine (gmem u huO).1.mpr ?_
      have := T.lowC (x, i) List.mem_cons_self y (gO y hy) ((gmem y (gO y hy)).1.mp hy) (fun q hq hlt => by
        exfalso
        rcases List.mem_cons.mp hq with rfl | hq
        · exact Nat.lt_irrefl _ hlt
        · have := Smax q hq
          have h' : σ.num x < σ.num q.1 := hlt
          omega) u hE huO
      dsimp only at this
      omega
    · exact .inr huO
  have creach : ∀ {y z}, Rch adj y z → (y ∈ σ.V ∧ y ∉ σ.O) → (z ∈ σ.V ∧ z ∉ σ.O) := fun {y z} h => by
    induction h with
    | refl => exact id
    | step e _ ih => exact fun hy => ih (T.closed _ hy.1 hy.2 _ e)
  have greach : ∀ {y z}, Rch adj y z → y ∈ pre ++ [x] → z ∈ pre ++ [x] ∨ (z ∈ σ.V ∧ z ∉ σ.O) := fun {y z} h => by
    induction h with
    | refl => exact .inl
    | step e h ih =>
      intro hy
      obtain ⟨h1, h2 | h2⟩ := gto _ hy _ e
      · exact ih h2
      · exact .inr (creach h ⟨h1, h2⟩)
  have up : ∀ y ∈ σ.O, Rch adj y x := fun y hy => T.up _ y hy (Nat.lt_succ_self _)
  have down : ∀ y ∈ pre ++ [x], Rch adj x y := fun y hy => T.gray (x, i) List.mem_cons_self y (gO y hy) ((gmem y (gO y hy)).1.mp hy)
  refine { T with osub := fun y hy => T.osub y (pO y hy), osort := so2, isop := ?_, sO := SO, sdec := (List.pairwise_cons.mp T.sdec).2, sidx := fun p hp => T.sidx p (sub p hp), gray := fun p hp y hy => T.gray p (sub p hp) y (pO y hy), expl := fun y hy u hu => T.expl y hy u (ex hu), closed := ?_, lowS := ?_, fin := ?_, lowC := ?_, bot := ?_, fmem := ?_, fnd := ?_, fne := ?_, fscc := ?_, ford := ?_ }
  · intro y hy
    show (if y ∈ pre ++ [x] then false else σ.isop y) = decide (y ∈ post)
    by_cases h : y ∈ pre ++ [x]
    · rw [if_pos h]; exact (decide_eq_false (gnp y h)).symm
    · rw [if_neg h, T.isop y hy, hO]
      have : (y ∈ (pre ++ [x]) ++ post) = (y ∈ post) := by rw [List.mem_append]; exact propext ⟨fun h' => h'.resolve_left h, .inr⟩
      simp only [this]
  · intro y hy hn u hu
    show u ∈ σ.V ∧ u ∉ post
    by_cases hyO : y ∈ σ.O
    · have hyg : y ∈ pre ++ [x] := by
        rw [hO, List.mem_append] at hyO
        exact hyO.resolve_right hn
      obtain ⟨h1, h2 | h2⟩ := gto y hyg u hu
      · exact ⟨h1, gnp u h2⟩
      · exact ⟨h1, fun h => h2 (pO u h)⟩
    · obtain ⟨h1, h2⟩ := T.closed y hy hyO u hu
      exact ⟨h1, fun h => h2 (pO u h)⟩
  · intro y hy
    obtain ⟨z, hz, h1, h2, h3⟩ := T.lowS y (pO y hy)
    have := (gmem y (pO y hy)).2.mp hy
    exact ⟨z, (gmem z hz).2.mpr (by omega), h1, h2, h3⟩
  · intro y hy hn
    refine T.fin y (pO y hy) ?_
    simp only [List.map_cons, List.mem_cons, not_or]
    refine ⟨?_, hn⟩
    rintro rfl
    exact gnp y (by simp) hy
  · intro p hp y hy hle hreg u hu huO
    refine T.lowC p (sub p hp) y (pO y hy) hle (fun q hq hlt => ?_) u (ex hu) (pO u huO)
    rcases List.mem_cons.mp hq with rfl | hq
    · exact (gmem y (pO y hy)).2.mp hy
    · exact hreg q hq hlt
  · intro y hy
    obtain ⟨p, hp, h⟩ := T.bot y (pO y hy)
    rcases List.mem_cons.mp hp with rfl | hp
    · have := (gmem y (pO y hy)).2.mp hy
      dsimp only at h
      omega
    · exact ⟨p, hp, h⟩
  · intro y
    show y ∈ (σ.F ++ [pre ++ [x]]).flatten ↔ y ∈ σ.V ∧ y ∉ post
    rw [List.flatten_append, List.mem_append, T.fmem y]
    have e1 : y ∈ [pre ++ [x]].flatten ↔ y ∈ pre ++ [x] := by simp
    rw [e1]
    constructor
    · rintro (⟨h1, h2⟩ | h)
      · exact ⟨h1, fun h => h2 (pO y h)⟩
      · exact ⟨T.osub y (gO y h), gnp y h⟩
    · rintro ⟨h1, h2⟩
      by_cases h : y ∈ pre ++ [x]
      · exact .inr h
      · left
        refine ⟨h1, fun h' => ?_⟩
        rw [hO, List.mem_append] at h'
        exact h'.elim h h2
  · show (σ.F ++ [pre ++ [x]]).flatten.Nodup
    rw [List.flatten_append, List.nodup_append]
    have e1 : [pre ++ [x]].flatten = pre ++ [x] := by simp
    rw [e1]
    refine ⟨T.fnd, ?_, fun y hy z hz e => ?_⟩
    · exact so1.imp fun {a b} h e => by rw [e] at h; exact Nat.lt_irrefl _ h
    · subst e
      exact ((T.fmem y).mp hy).2 (gO y hz)
  · intro g hg
    rcases List.mem_append.mp hg with hg | hg
    · exact T.fne g hg
    · simp at hg; rw [hg]; simp
  · intro g hg
    rcases List.mem_append.mp hg with hg | hg
    · exact T.fscc g hg
    · simp only [List.mem_singleton] at hg
      subst hg
      intro y hy z
      constructor
      · intro hz
        exact ⟨(up y (gO y hy)).trans (down z hz), (up z (gO z hz)).trans (down y hy)⟩
      · rintro ⟨h1, h2⟩
        rcases greach h1 hy with h | h
        · exact h
        · exact absurd (gO y hy) (creach h2 h).2
  · show (σ.F ++ [pre ++ [x]]).Pairwise _
    rw [List.pairwise_append]
    refine ⟨T.ford, List.pairwise_singleton _ _, fun g hg h hh y hy z hz hr => ?_⟩
    simp only [List.mem_singleton] at hh
    subst hh
    have := (T.fmem y).mp (List.mem_flatten.mpr ⟨g, hg, hy⟩)
    exact (creach hr this).2 (gO z hz)

theorem TI.empty (T : TI adj names σ []) : σ.O = [] := by
  cases h : σ.O with
  | nil => rfl
  | cons y r =>
    obtain ⟨p, hp, _⟩ := T.bot y (by rw [h]; exact List.mem_cons_self)
    cases hp
end

-- P4
noncomputable def walkB : { x : Fn // x = fnM "walk" } := by
  refine ⟨?x, Eq.symm ?h⟩
  case' h => conv => lhs; whnf

noncomputable def WA.own (a : WA) : List Addr := [a.nu, a.lo, a.op, a.io, a.fo]
theorem WA.own_all {a : WA} {b : Addr} (h : b ∈ a.own) : b ∈ a.all := by
  simp only [WA.own, WA.all, List.mem_cons, List.not_mem_nil, or_false] at h ⊢
  rcases h with h | h | h | h | h <;> simp [h]
theorem WRaw.somes {a : WA} {nu lo io : List (Str × GV)} {op fo : List GV} {H : GH} (R : WRaw a nu lo io op fo H) : ∀ b ∈ a.all, ∃ o, H b = some o := by
  intro b hm
  simp only [WA.all, List.mem_cons, List.not_mem_nil, or_false] at hm
  rcases hm with rfl | rfl | rfl | rfl | rfl | rfl | rfl | rfl
  · exact ⟨_, R.w⟩
  · exact ⟨_, R.dx⟩
  · exact R.u
  · exact ⟨_, R.nu⟩
  · exact ⟨_, R.lo⟩
  · exact ⟨_, R.op⟩
  · exact ⟨_, R.io⟩
  · exact ⟨_, R.fo⟩

theorem TI.flen {adj : Adj} {names : List Str} {σ : WS} {S : Fr} (T : TI adj names σ S) : σ.F.length ≤ names.length := by
  have h1 : σ.F.flatten.length ≤ names.length := nodup_len T.fnd fun x hx => T.vn x ((T.fmem x).mp hx).1
  have h2 : ∀ F : List (List Str), (∀ g ∈ F, g ≠ []) → F.length ≤ F.flatten.length := by
    intro F
    induction F with
    | nil => intro _; exact Nat.le_refl _
    | cons g r ih =>
      intro h
      have h3 := ih fun g' hg' => h g' (List.mem_cons_of_mem _ hg')
      have h4 := List.length_pos_iff.mpr (h g List.mem_cons_self)
      rw [List.flatten_cons, List.length_append, List.length_cons]; omega
  exact Nat.le_trans (h2 _ T.fne) h1
theorem TI.vlen {adj : Adj} {names : List Str} {σ : WS} {S : Fr} (T : TI adj names σ S) : σ.V.length ≤ names.length := nodup_len T.vnd T.vn
theorem TI.ond {adj : Adj} {names : List Str} {σ : WS} {S : Fr} (T : TI adj names σ S) : σ.O.Nodup := T.osort.imp fun {a b} h e => by rw [e] at h; exact Nat.lt_irrefl _ h
theorem TI.olen {adj : Adj} {names : List Str} {σ : WS} {S : Fr} (T : TI adj names σ S) : σ.O.length ≤ names.length := nodup_len T.ond fun x hx => T.vn x (T.osub x hx)
theorem TI.slen {adj : Adj} {names : List Str} {σ : WS} {S : Fr} (T : TI adj names σ S) : S.length ≤ names.length := by
  rw [← List.length_map (f := (·.1))]
  refine nodup_len (List.pairwise_map.mpr (T.sdec.imp fun {a b} h e => ?_)) fun x hx => ?_
  · rw [e] at h; exact Nat.lt_irrefl _ h
  · obtain ⟨p, hp, e⟩ := List.mem_map.mp hx
    rw [← e]; exact T.vn _ (T.osub _ (T.sO p hp))

theorem look_m {k : Nat} {a : WA} {σ : WS} {fs : List Addr} {adj : Adj} {names : List Str} {y t : Str} {i : Nat} {S : Fr} {st : Addr} {L : List GV} {H : GH} {Q : GV → GH → Prop} (R : WR a σ fs H) (T : TI adj names σ ((y, i) :: S)) (hi : (adj y)[i]? = some t) (htn : t ∈ names) (hnl : names.length ≤ 50)
    (hst : H st = some (.list L)) (hsa : st ∉ a.all) (hL : L.length ≤ 100) (hsf : st ∉ fs)
    (q1 : ∀ H' σ', WR a σ' fs H' → TI adj names σ' ((y, i + 1) :: S) → σ'.V = σ.V → (∀ b, b ∉ a.own → H' b = H b) → Q .none H')
    (q2 : ∀ H' fr, WR a (σ.enter t) fs H' → t ∉ σ.V → TI adj names (σ.enter t) ((t, 0) :: (y, i + 1) :: S) → H fr = none → fr ≠ st → H' st = some (.list (L ++ [.ref fr])) → H' fr = some (.list [.str t, .int 0]) → (∀ b, b ∉ a.own → b ≠ st → b ≠ fr → H' b = H b) → Q .none H') :
    PhiS (k + 2) true "look" [.ref a.w, .str y, .str t, .ref st] H Q := by
  have hv := T.vlen; have ho := T.olen
  have hyO : y ∈ σ.O := T.sO (y, i) List.mem_cons_self
  refine phi_m ?_
  by_cases ht : t ∈ σ.V
  · by_cases hO : t ∈ σ.O
    · refine look_open R (T.osub y hyO) ht (by rw [T.isop t ht]; exact decide_eq_true hO) fun H' R' fr => q1 H' _ R' (T.lower hi hO) rfl fun b hb => fr b ?_
      simp only [WA.own, List.mem_cons, List.not_mem_nil, or_false, not_or] at hb ⊢
      exact hb.2.1
    · exact look_closed R ht (by rw [T.isop t ht]; exact decide_eq_false hO) (q1 H σ R (T.skip hi ht hO) rfl fun b _ => rfl)
  · refine look_new R ht (by first | assumption | exact nb50 (by assumption) | exact nb50s (by assumption) | exact nb50t (by assumption) (by assumption) | omega) (by first | assumption | exact nb50 (by assumption) | exact nb50s (by assumption) | exact nb50t (by assumption) (by assumption) | omega) hst hsa hL hsf fun H' fr R' h1 h2 h3 h4 h5 => q2 H' fr R' ht (T.push hi ht htn) h1 h2 h3 h4 fun b hb n1 n2 => h5 b ?_
    simp only [WA.own, List.mem_cons, List.not_mem_nil, or_false, not_or] at hb ⊢
    exact ⟨hb.1, hb.2.1, hb.2.2.1, hb.2.2.2.1, n1, n2⟩

theorem leave_m {k : Nat} {a : WA} {σ : WS} {fs : List Addr} {adj : Adj} {names : List Str} {y : Str} {i : Nat} {S : Fr} {H : GH} {Q : GV → GH → Prop} (R : WR a σ fs H) (T : TI adj names σ ((y, i) :: S)) (hi : (adj y).length ≤ i) (hnl : names.length ≤ 50)
    (q : ∀ H' σ' fs', WR a σ' fs' H' → σ'.V = σ.V → (S = [] → TI adj names σ' []) → (∀ p r, S = p :: r → TI adj names (σ'.lower p.1 (min (σ'.low p.1) (σ'.low y))) S) → (∀ f ∈ fs', f ∈ fs ∨ H f = none) → (∀ b o, H b = some o → b ∉ a.own → H' b = some o) → Q .none H') :
    PhiS (k + 1) true "leave" [.ref a.w, .str y] H Q := by
  have hv := T.vlen; have ho := T.olen
  have hyO : y ∈ σ.O := T.sO (y, i) List.mem_cons_self
  have hyV := T.osub y hyO
  refine phi_m ?_
  by_cases hl : σ.low y = σ.num y
  · obtain ⟨pre, post, hO⟩ := List.append_of_mem hyO
    have hO' : σ.O = (pre ++ [y]) ++ post := by rw [hO]; simp
    have nd := T.ond
    have hp : y ∉ pre := by
      rw [hO, List.nodup_append] at nd
      exact fun h => nd.2.2 y h y List.mem_cons_self rfl
    have hfl : fs.length < 100 := by have := T.flen; have := R.ll.length; omega
    have TP := T.pop hi hl hO'
    refine leave_pop R hyV hl hO' hp T.osub hfl fun H' g R' hg hga fr => q H' _ _ R' rfl (fun e => by rw [e] at TP; exact TP) (fun p r e => ?_) (fun f hf => ?_) fun b o hb hn => ?_
    · have h1 : (σ.close (pre ++ [y]) post).low = σ.low := rfl
      have hlt : σ.num p.1 < σ.num y := by
        have := (List.pairwise_cons.mp T.sdec).1 p (by rw [e]; exact List.mem_cons_self)
        exact this
      obtain ⟨z, _, z1, z2, _⟩ := T.lowS p.1 (T.sO p (by rw [e]; simp))
      rw [h1, Nat.min_eq_left (by first | assumption | exact nb50 (by assumption) | exact nb50s (by assumption) | exact nb50t (by assumption) (by assumption) | omega), ← h1, lower_same]
      exact TP
    · rcases List.mem_append.mp hf with hf | hf
      · exact .inl hf
      · simp at hf; subst hf; exact .inr hg
    · rw [fr b, hb]
      simp only [WA.own, List.mem_cons, List.not_mem_nil, or_false, not_or] at hn ⊢
      exact ⟨hn.2.2.1, hn.2.2.2.1, hn.2.2.2.2, by rintro rfl; rw [hg] at hb; cases hb⟩
  · obtain ⟨p, r, hS, TS⟩ := T.stay hi hl
    refine leave_stay R hyV hl (q H σ fs R rfl (fun e => by rw [e] at hS; cases hS) (fun p' r' e => ?_) (fun f hf => .inl hf) fun b o hb _ => hb)
    rw [hS] at e
    injection e with e1 e2
    rw [← e1]; exact TS

-- the frames on the heap, the top one first
noncomputable def FrL (H : GH) : List Addr → Fr → Prop
  | [], [] => True
  | f :: fs, p :: S => H f = some (.list [.str p.1, .int (p.2 : Int)]) ∧ FrL H fs S
  | _, _ => False
theorem FrL.frame {H H' : GH} : ∀ {fs : List Addr} {S : Fr}, FrL H fs S → (∀ b ∈ fs, H' b = H b) → FrL H' fs S
  | [], [], _, _ => trivial
  | [], _ :: _, h, _ => h.elim
  | _ :: _, [], h, _ => h.elim
  | f :: fs, g :: gs, h, k => ⟨(k f List.mem_cons_self).trans h.1, h.2.frame fun b hb => k b (List.mem_cons_of_mem _ hb)⟩
theorem FrL.length {H : GH} : ∀ {fs : List Addr} {S : Fr}, FrL H fs S → fs.length = S.length
  | [], [], _ => rfl
  | [], _ :: _, h => h.elim
  | _ :: _, [], h => h.elim
  | f :: fs, g :: gs, h => by rw [List.length_cons, List.length_cons, h.2.length]

-- the uses told to the walker
structure UR (u : Addr) (names : List Str) (p : Str → Addr) (adj : Adj) (H : GH) : Prop where
  d : H u = some (.dict (dm names fun y => .ref (p y)))
  l : ∀ y ∈ names, H (p y) = some (.list ((adj y).map .str))
  deg : ∀ y ∈ names, (adj y).length ≤ 50
  to : ∀ y ∈ names, ∀ z ∈ adj y, z ∈ names

noncomputable def meas (adj : Adj) (N : Nat) (σ : WS) (S : Fr) : Nat := 60 * (N - σ.V.length) + (S.map fun p => 1 + (adj p.1).length - p.2).sum

structure WkI (a : WA) (adj : Adj) (names : List Str) (p : Str → Addr) (σ₀ : WS) (x : Str) (st : Addr) (H₀ : GH) (σ : WS) (S : Fr) (fs frs : List Addr) (ρ : Loc) (H : GH) : Prop where
  rs : ρ "self" = some (.ref a.w)
  rst : ρ "stack" = some (.ref st)
  hst : H st = some (.list (frs.reverse.map .ref))
  fr : FrL H frs S
  R : WR a σ fs H
  T : TI adj names σ S
  mono : ∀ y ∈ σ₀.V, y ∈ σ.V
  xV : x ∈ σ.V
  nd : (st :: frs).Nodup
  new : ∀ b ∈ st :: frs, H₀ b = none
  nfs : ∀ b ∈ st :: frs, b ∉ fs
  keep : ∀ b o, H₀ b = some o → b ∉ a.own → H b = some o

theorem WRaw.u_own {a : WA} {nu lo io : List (Str × GV)} {op fo : List GV} {H : GH} (R : WRaw a nu lo io op fo H) : a.u ∉ a.own := by
  have nd := R.nd
  simp only [WA.all, List.nodup_cons, List.mem_cons, not_or] at nd
  simp only [WA.own, List.mem_cons, List.not_mem_nil, or_false, not_or]
  exact ⟨nd.2.2.1.1, nd.2.2.1.2.1, nd.2.2.1.2.2.1, nd.2.2.1.2.2.2.1, nd.2.2.1.2.2.2.2.1⟩
theorem WR.lower {a : WA} {σ : WS} {fs : List Addr} {H : GH} (R : WR a σ fs H) {x : Str} {n : Nat} : WR a (σ.lower x n) fs (hset H a.lo (.dict (dm σ.V (upd (fun y => .int (σ.low y : Int)) x (.int (n : Int)))))) := by
  rw [← fun_upd_int]
  refine ⟨R.raw.setLo _, R.vnd, R.vlen, R.olen, R.ll.frame fun b hb => hset_ne _ _ ?_, R.fsd, R.flen⟩
  rintro rfl
  exact R.fsd _ hb (by simp [WA.all])
theorem min_int (m n : Nat) : (if (m : Int) < (n : Int) then (m : Int) else (n : Int)) = ((min n m : Nat) : Int) := by
  by_cases h : m < n
  · rw [if_pos (by first | assumption | exact nb50 (by assumption) | exact nb50s (by assumption) | exact nb50t (by assumption) (by assumption) | omega)]; omega
  · rw [if_neg (by first | assumption | exact nb50 (by assumption) | exact nb50s (by assumption) | exact nb50t (by assumption) (by assumption) | omega)]; omega

theorem walk_g {k : Nat} {a : WA} {σ₀ : WS} {fs₀ : List Addr} {adj : Adj} {names : List Str} {p : Str → Addr} {x : Str} {H₀ : GH} {Q : GV → GH → Prop} (R₀ : WR a σ₀ fs₀ H₀) (U : UR a.u names p adj H₀) (hpa : ∀ y ∈ names, p y ∉ a.own) (T₀ : TI adj names σ₀ [])
    (hx : x ∈ names) (hxV : x ∉ σ₀.V) (hnl : names.length ≤ 50)
    (q : ∀ H' σ' fs', WR a σ' fs' H' → TI adj names σ' [] → (∀ y ∈ σ₀.V, y ∈ σ'.V) → x ∈ σ'.V → (∀ b o, H₀ b = some o → b ∉ a.own → H' b = some o) → Q .none H') : gFn (PhiS (k + 2)) (fnM "walk") [.ref a.w, .str x] H₀ Q := by
  refine start walkB rfl fun ρ₀ hρ => ?_
  have r1 : ρ₀ "self" = some (.ref a.w) := hρ _
  have r2 : ρ₀ "first" = some (.str x) := hρ _
  clear hρ
  unfold walkB
  (refine peel ?_; simp (decide := true) only [e_int, e_str, e_bool, k_name, e_bin, e_un, e_bo, k_cmp, k_list, k_tup, e_dict, k_attr, e_from, e_upto, e_item, k_call, k_meth, k_comp, bo_one, gBool_or, gBool_and, es_nil, es_cons, if_nil, if_one, t_not, t_bo, k_tcmp, t_name, t_sub, t_call, al_nil, gAll_or, gAll_and, k_aname, a_attr, a_item, a_tup, an_nil, k_ancons, s_expr, s_ret0, s_ret, k_asg, s_asg_, s_if, k_for, s_while, whK_next, whK_ret, seqK_next, seqK_ret, gSs_nil, tk_sub, tk_attr, tk_call, tk_item, tk_tup, kdL_cons, lk_cons, lk_nil, beq_ff, ex_some, true_and, and_true, if_true, if_false, not_false_eq_true, lset, compLoc, gCmp_eq, gCmp_ne, gCmp_in, gCmp_nin, gCmp_lt, gCmp_gt, gCmp_ge, gUn_neg, gUn_not, gBin_add, gBin_sub, gEq_int, gEq_bool, gEq_str, retOf, r1, r2])
  have hb : (1000 : Nat) < bnd := by decide
  have hv := T₀.vlen; have ho := T₀.olen
  refine me_inst R₀.raw.w R₀.raw.dx (by decide) (by rfl) (phi_m (enter_g (k := k + 1) R₀ hxV (by first | assumption | exact nb50 (by assumption) | exact nb50s (by assumption) | exact nb50t (by assumption) (by assumption) | omega) (by first | assumption | exact nb50 (by assumption) | exact nb50s (by assumption) | exact nb50t (by assumption) (by assumption) | omega) fun H₁ R₁ fr₁ => ?_))
  (refine peel ?_; simp (decide := true) only [e_int, e_str, e_bool, k_name, e_bin, e_un, e_bo, k_cmp, k_list, k_tup, e_dict, k_attr, e_from, e_upto, e_item, k_call, k_meth, k_comp, bo_one, gBool_or, gBool_and, es_nil, es_cons, if_nil, if_one, t_not, t_bo, k_tcmp, t_name, t_sub, t_call, al_nil, gAll_or, gAll_and, k_aname, a_attr, a_item, a_tup, an_nil, k_ancons, s_expr, s_ret0, s_ret, k_asg, s_asg_, s_if, k_for, s_while, whK_next, whK_ret, seqK_next, seqK_ret, gSs_nil, tk_sub, tk_attr, tk_call, tk_item, tk_tup, kdL_cons, lk_cons, lk_nil, beq_ff, ex_some, true_and, and_true, if_true, if_false, not_false_eq_true, lset, compLoc, gCmp_eq, gCmp_ne, gCmp_in, gCmp_nin, gCmp_lt, gCmp_gt, gCmp_ge, gUn_neg, gUn_not, gBin_add, gBin_sub, gEq_int, gEq_bool, gEq_str, retOf, r2])
  refine ⟨(by decide : (2 : Nat) ≤ bnd), fun f hf => ⟨(by decide : (1 : Nat) ≤ bnd), fun st hst => ?_⟩⟩
  have keep₁ : ∀ b o, H₀ b = some o → b ∉ a.own → H₁ b = some o := fun b o e hn => by
    rw [fr₁ b, e]
    simp only [WA.own, List.mem_cons, List.not_mem_nil, or_false, not_or] at hn ⊢
    exact ⟨hn.1, hn.2.1, hn.2.2.1, hn.2.2.2.1⟩
  have notOwn : ∀ b, H₁ b = none → b ∉ a.own := fun b hb hm => by
    obtain ⟨o, e⟩ := R₁.raw.somes b (WA.own_all hm)
    rw [e] at hb; cases hb
  have none₁ : ∀ b, H₁ b = none → H₀ b = none := fun b hb => by
    cases e : H₀ b with
    | none => rfl
    | some o => rw [keep₁ b o e (notOwn b hb)] at hb; cases hb
  have hfst : st ≠ f := by rintro rfl; rw [hset_self] at hst; cases hst
  have hst₁ : H₁ st = none := by rw [hset_ne _ _ hfst] at hst; exact hst
  have R₂ : WR a (σ₀.enter x) fs₀ (hset (hset H₁ f (.list [.str x, .int 0])) st (.list [.ref f])) := R₁.frame fun b hb => by
    have hs : ∃ o, H₁ b = some o := hb.elim (R₁.raw.somes b) (R₁.ll.some b)
    obtain ⟨o, e⟩ := hs
    rw [hset_ne _ _ (by rintro rfl; rw [hst₁] at e; cases e), hset_ne _ _ (by rintro rfl; rw [hf] at e; cases e)]
  (refine peel ?_; simp (decide := true) only [e_int, e_str, e_bool, k_name, e_bin, e_un, e_bo, k_cmp, k_list, k_tup, e_dict, k_attr, e_from, e_upto, e_item, k_call, k_meth, k_comp, bo_one, gBool_or, gBool_and, es_nil, es_cons, if_nil, if_one, t_not, t_bo, k_tcmp, t_name, t_sub, t_call, al_nil, gAll_or, gAll_and, k_aname, a_attr, a_item, a_tup, an_nil, k_ancons, s_expr, s_ret0, s_ret, k_asg, s_asg_, s_if, k_for, s_while, whK_next, whK_ret, seqK_next, seqK_ret, gSs_nil, tk_sub, tk_attr, tk_call, tk_item, tk_tup, kdL_cons, lk_cons, lk_nil, beq_ff, ex_some, true_and, and_true, if_true, if_false, not_false_eq_true, lset, compLoc, gCmp_eq, gCmp_ne, gCmp_in, gCmp_nin, gCmp_lt, gCmp_gt, gCmp_ge, gUn_neg, gUn_not, gBin_add, gBin_sub, gEq_int, gEq_bool, gEq_str, retOf])
  refine ⟨fun n ρ H => ∃ σ S fs frs, n = meas adj names.length σ S ∧ WkI a adj names p σ₀ x st H₀ σ S fs frs ρ H, meas adj names.length (σ₀.enter x) [(x, 0)], ⟨_, _, fs₀, [f], rfl, ?_⟩, ?_⟩
  · refine ⟨by first | exact lset1 (by decide) r1 | exact lset2 (by decide) (by decide) r1 | exact lset3 (by decide) (by decide) (by decide) r1 | (simp (decide := true) only [lset, if_false]; exact r1), by rfl, hset_self _ _ _, ⟨by rw [hset_ne _ _ (Ne.symm hfst), hset_self]; rfl, trivial⟩, R₂, T₀.start hxV hx, fun y hy => List.mem_append_left _ hy, List.mem_append_right _ (by simp), by simp [hfst], ?_, ?_, ?_⟩
    · intro b hb
      simp only [List.mem_cons, List.not_mem_nil, or_false] at hb
      rcases hb with rfl | rfl
      · exact none₁ _ hst₁
      · exact none₁ _ hf
    · intro b hb hm
      obtain ⟨o, e⟩ := R₁.ll.some b hm
      simp only [List.mem_cons, List.not_mem_nil, or_false] at hb
      rcases hb with rfl | rfl
      · rw [hst₁] at e; cases e
      · rw [hf] at e; cases e
    · intro b o e hn
      have e₁ := keep₁ b o e hn
      rw [hset_ne _ _ (by rintro rfl; rw [hst₁] at e₁; cases e₁), hset_ne _ _ (by rintro rfl; rw [hf] at e₁; cases e₁)]
      exact e₁
  rintro n ρ H ⟨σ, S, fs, frs, rfl, J⟩
  have hfl := J.fr.length
  have hsl := J.T.slen
  have hfr50 : frs.length ≤ 100 := by omega
  refine ⟨_, J.rst, tr_list J.hst (nbr hfr50) ?_⟩
  cases S with
  | nil =>
    have : frs = [] := List.length_eq_zero_iff.mp (by rw [hfl]; rfl)
    subst this
    simp only [List.reverse_nil, List.map_nil, List.isEmpty_nil, Bool.not_true, Bool.false_eq_true, if_false]
    exact q H σ fs J.R J.T J.mono J.xV J.keep
  | cons top S =>
    obtain ⟨y, i⟩ := top
    cases frs with
    | nil => exact J.fr.elim
    | cons f' frs =>
      have hne : (!((f' :: frs).reverse.map GV.ref).isEmpty) = true := by simp
      simp only [hne, if_true]
      have hst' : H st = some (.list (frs.reverse.map .ref ++ [.ref f'])) := by rw [J.hst]; simp
      have hf' : H f' = some (.list [.str y, .int (i : Int)]) := J.fr.1
      (refine peel ?_; simp (decide := true) only [e_int, e_str, e_bool, k_name, e_bin, e_un, e_bo, k_cmp, k_list, k_tup, e_dict, k_attr, e_from, e_upto, e_item, k_call, k_meth, k_comp, bo_one, gBool_or, gBool_and, es_nil, es_cons, if_nil, if_one, t_not, t_bo, k_tcmp, t_name, t_sub, t_call, al_nil, gAll_or, gAll_and, k_aname, a_attr, a_item, a_tup, an_nil, k_ancons, s_expr, s_ret0, s_ret, k_asg, s_asg_, s_if, k_for, s_while, whK_next, whK_ret, seqK_next, seqK_ret, gSs_nil, tk_sub, tk_attr, tk_call, tk_item, tk_tup, kdL_cons, lk_cons, lk_nil, beq_ff, ex_some, true_and, and_true, if_true, if_false, not_false_eq_true, lset, compLoc, gCmp_eq, gCmp_ne, gCmp_in, gCmp_nin, gCmp_lt, gCmp_gt, gCmp_ge, gUn_neg, gUn_not, gBin_add, gBin_sub, gEq_int, gEq_bool, gEq_str, retOf, J.rst])
      have hfr1 : frs.length ≤ 100 := Nat.le_trans (Nat.le_succ _) hfr50
      refine gi_last hst' (Nat.le_of_lt (nb1 hfr1)) ⟨_, .inl hf', (by decide : (2 : Nat) ≤ bnd), ?_⟩
      simp (decide := true) only [e_int, e_str, e_bool, k_name, e_bin, e_un, e_bo, k_cmp, k_list, k_tup, e_dict, k_attr, e_from, e_upto, e_item, k_call, k_meth, k_comp, bo_one, gBool_or, gBool_and, es_nil, es_cons, if_nil, if_one, t_not, t_bo, k_tcmp, t_name, t_sub, t_call, al_nil, gAll_or, gAll_and, k_aname, a_attr, a_item, a_tup, an_nil, k_ancons, s_expr, s_ret0, s_ret, k_asg, s_asg_, s_if, k_for, s_while, whK_next, whK_ret, seqK_next, seqK_ret, gSs_nil, tk_sub, tk_attr, tk_call, tk_item, tk_tup, kdL_cons, lk_cons, lk_nil, beq_ff, ex_some, true_and, and_true, if_true, if_false, not_false_eq_true, lset, compLoc, gCmp_eq, gCmp_ne, gCmp_in, gCmp_nin, gCmp_lt, gCmp_gt, gCmp_ge, gUn_neg, gUn_not, gBin_add, gBin_sub, gEq_int, gEq_bool, gEq_str, retOf]
      have hyO : y ∈ σ.O := J.T.sO (y, i) List.mem_cons_self
      have hyn : y ∈ names := J.T.vn y (J.T.osub y hyO)
      have hud := J.keep _ _ U.d R₀.raw.u_own
      have hul := J.keep _ _ (U.l y hyn) (hpa y hyn)
      have hdeg := U.deg y hyn
      have ρs : ∀ {u v w : GV}, lset (lset (lset ρ "name" u) "at" v) "some" w "self" = some (.ref a.w) := fun {u v w} => by first | exact lset1 (by decide) J.rs | exact lset2 (by decide) (by decide) J.rs | exact lset3 (by decide) (by decide) (by decide) J.rs | (simp (decide := true) only [lset, if_false]; exact J.rs)
      have ρst : ∀ {u v w : GV}, lset (lset (lset ρ "name" u) "at" v) "some" w "stack" = some (.ref st) := fun {u v w} => by first | exact lset1 (by decide) J.rst | exact lset2 (by decide) (by decide) J.rst | exact lset3 (by decide) (by decide) (by decide) J.rst | (simp (decide := true) only [lset, if_false]; exact J.rst)
      have ρn : lset (lset (lset ρ "name" (.str y)) "at" (.int (i : Int))) "some" (.ref (p y)) "name" = some (.str y) := by simp (decide := true) only [lset, if_false, if_true]
      have ρa : lset (lset (lset ρ "name" (.str y)) "at" (.int (i : Int))) "some" (.ref (p y)) "at" = some (.int (i : Int)) := by simp (decide := true) only [lset, if_false, if_true]
      have ρo : lset (lset (lset ρ "name" (.str y)) "at" (.int (i : Int))) "some" (.ref (p y)) "some" = some (.ref (p y)) := by simp (decide := true) only [lset, if_true]
      (refine peel ?_; simp (decide := true) only [e_int, e_str, e_bool, k_name, e_bin, e_un, e_bo, k_cmp, k_list, k_tup, e_dict, k_attr, e_from, e_upto, e_item, k_call, k_meth, k_comp, bo_one, gBool_or, gBool_and, es_nil, es_cons, if_nil, if_one, t_not, t_bo, k_tcmp, t_name, t_sub, t_call, al_nil, gAll_or, gAll_and, k_aname, a_attr, a_item, a_tup, an_nil, k_ancons, s_expr, s_ret0, s_ret, k_asg, s_asg_, s_if, k_for, s_while, whK_next, whK_ret, seqK_next, seqK_ret, gSs_nil, tk_sub, tk_attr, tk_call, tk_item, tk_tup, kdL_cons, lk_cons, lk_nil, beq_ff, ex_some, true_and, and_true, if_true, if_false, not_false_eq_true, lset, compLoc, gCmp_eq, gCmp_ne, gCmp_in, gCmp_nin, gCmp_lt, gCmp_gt, gCmp_ge, gUn_neg, gUn_not, gBin_add, gBin_sub, gEq_int, gEq_bool, gEq_str, retOf, J.rs])
      refine J.R.raw.ga_u (gi_dict hud hyn ?_)
      generalize hr : lset (lset (lset ρ "name" (.str y)) "at" (.int (i : Int))) "some" (.ref (p y)) = ρ' at ρn ρa ρo ⊢
      have ρs' : ρ' "self" = some (.ref a.w) := hr ▸ ρs
      have ρst' : ρ' "stack" = some (.ref st) := hr ▸ ρst
      clear hr ρs ρst
      (refine peel ?_; simp (decide := true) only [e_int, e_str, e_bool, k_name, e_bin, e_un, e_bo, k_cmp, k_list, k_tup, e_dict, k_attr, e_from, e_upto, e_item, k_call, k_meth, k_comp, bo_one, gBool_or, gBool_and, es_nil, es_cons, if_nil, if_one, t_not, t_bo, k_tcmp, t_name, t_sub, t_call, al_nil, gAll_or, gAll_and, k_aname, a_attr, a_item, a_tup, an_nil, k_ancons, s_expr, s_ret0, s_ret, k_asg, s_asg_, s_if, k_for, s_while, whK_next, whK_ret, seqK_next, seqK_ret, gSs_nil, tk_sub, tk_attr, tk_call, tk_item, tk_tup, kdL_cons, lk_cons, lk_nil, beq_ff, ex_some, true_and, and_true, if_true, if_false, not_false_eq_true, lset, compLoc, gCmp_eq, gCmp_ne, gCmp_in, gCmp_nin, gCmp_lt, gCmp_gt, gCmp_ge, gUn_neg, gUn_not, gBin_add, gBin_sub, gEq_int, gEq_bool, gEq_str, retOf, ρa, ρo])
      refine len_list hul (by first | assumption | exact nbm (by assumption) | exact nbl (by assumption) | exact nbm1 (by assumption) | (simp; omega)) ?_
      try rw [gCmp_lt]
      have nfa : ∀ b ∈ st :: f' :: frs, b ∉ a.all := fun b hb hm => by
        obtain ⟨o, e⟩ := R₀.raw.somes b hm
        have := J.new b hb
        rw [e] at this; cases this
      have nfo : ∀ b ∈ st :: f' :: frs, b ∉ a.own := fun b hb hm => nfa b hb (WA.own_all hm)
      have nd := J.nd
      simp only [List.nodup_cons, List.mem_cons, not_or] at nd
      have hfs1 : frs.length = S.length := by simpa using hfl
      have hsl1 : S.length + 1 ≤ names.length := by simpa using hsl
      have hsidx : i ≤ (adj y).length := J.T.sidx (y, i) List.mem_cons_self
      have fr' : FrL H frs S := J.fr.2
      by_cases hlt : i < (adj y).length
      · rw [if_pos (by first | assumption | exact nbm (by assumption) | exact nbl (by assumption) | exact nbm1 (by assumption) | (simp; omega))]
        have hi : (adj y)[i]? = some (adj y)[i] := List.getElem?_eq_getElem hlt
        generalize (adj y)[i] = t at hi
        have htn : t ∈ names := U.to y hyn t (List.mem_of_getElem? hi)
        (refine peel ?_; simp (decide := true) only [e_int, e_str, e_bool, k_name, e_bin, e_un, e_bo, k_cmp, k_list, k_tup, e_dict, k_attr, e_from, e_upto, e_item, k_call, k_meth, k_comp, bo_one, gBool_or, gBool_and, es_nil, es_cons, if_nil, if_one, t_not, t_bo, k_tcmp, t_name, t_sub, t_call, al_nil, gAll_or, gAll_and, k_aname, a_attr, a_item, a_tup, an_nil, k_ancons, s_expr, s_ret0, s_ret, k_asg, s_asg_, s_if, k_for, s_while, whK_next, whK_ret, seqK_next, seqK_ret, gSs_nil, tk_sub, tk_attr, tk_call, tk_item, tk_tup, kdL_cons, lk_cons, lk_nil, beq_ff, ex_some, true_and, and_true, if_true, if_false, not_false_eq_true, lset, compLoc, gCmp_eq, gCmp_ne, gCmp_in, gCmp_nin, gCmp_lt, gCmp_gt, gCmp_ge, gUn_neg, gUn_not, gBin_add, gBin_sub, gEq_int, gEq_bool, gEq_str, retOf])
        simp only [ρst', ρa, ex_some, gBin_add]
        refine gi_last hst' (Nat.le_of_lt (nb1 hfr1)) ⟨_, hf', (by decide : (2 : Nat) ≤ bnd), (by decide : (0 : Int) ≤ 1), (by decide : (1 : Int) < 2), ?_⟩
        have e1 : ([GV.str y, .int (i : Int)].set (1 : Int).toNat (.int ((i : Int) + 1))) = [.str y, .int ((i + 1 : Nat) : Int)] := rfl
        rw [e1]
        (refine peel ?_; simp (decide := true) only [e_int, e_str, e_bool, k_name, e_bin, e_un, e_bo, k_cmp, k_list, k_tup, e_dict, k_attr, e_from, e_upto, e_item, k_call, k_meth, k_comp, bo_one, gBool_or, gBool_and, es_nil, es_cons, if_nil, if_one, t_not, t_bo, k_tcmp, t_name, t_sub, t_call, al_nil, gAll_or, gAll_and, k_aname, a_attr, a_item, a_tup, an_nil, k_ancons, s_expr, s_ret0, s_ret, k_asg, s_asg_, s_if, k_for, s_while, whK_next, whK_ret, seqK_next, seqK_ret, gSs_nil, tk_sub, tk_attr, tk_call, tk_item, tk_tup, kdL_cons, lk_cons, lk_nil, beq_ff, ex_some, true_and, and_true, if_true, if_false, not_false_eq_true, lset, compLoc, gCmp_eq, gCmp_ne, gCmp_in, gCmp_nin, gCmp_lt, gCmp_gt, gCmp_ge, gUn_neg, gUn_not, gBin_add, gBin_sub, gEq_int, gEq_bool, gEq_str, retOf, ρs', ρn, ρo, ρa, ρst'])
        have R1 : WR a σ fs (hset H f' (.list [.str y, .int ((i + 1 : Nat) : Int)])) := J.R.frame fun b hb => hset_ne _ _ (by
          rintro rfl
          rcases hb with hb | hb
          · exact nfa b (by simp) hb
          · exact J.nfs b (by simp) hb)
        have hul1 : hset H f' (.list [.str y, .int ((i + 1 : Nat) : Int)]) (p y) = some (.list ((adj y).map .str)) := by
          rw [hset_ne _ _ (fun e => by have := J.new f' (by simp); rw [← e, U.l y hyn] at this; cases this)]; exact hul
        refine me_inst R1.raw.w R1.raw.dx (by decide) (by rfl) (gi_list (v := .str t) hul1 (by first | assumption | exact nbm (by assumption) | exact nbl (by assumption) | exact nbm1 (by assumption) | (simp; omega)) (Int.natCast_nonneg _) (by rw [Int.toNat_natCast, List.getElem?_map, hi]; rfl) ?_)
        have hst1 : hset H f' (.list [.str y, .int ((i + 1 : Nat) : Int)]) st = some (.list ((f' :: frs).reverse.map .ref)) := by rw [hset_ne _ _ nd.1.1]; exact J.hst
        have keep1 : ∀ b o, H₀ b = some o → b ∉ a.own → hset H f' (.list [.str y, .int ((i + 1 : Nat) : Int)]) b = some o := fun b o e hn => by
          rw [hset_ne _ _ (fun e' => by have := J.new f' (by simp); rw [← e', e] at this; cases this)]; exact J.keep b o e hn
        have frL1 : FrL (hset H f' (.list [.str y, .int ((i + 1 : Nat) : Int)])) frs S := fr'.frame fun b hb => hset_ne _ _ (by rintro rfl; exact nd.2.1 hb)
        refine look_m R1 J.T hi htn hnl hst1 (nfa st (by simp)) (by rw [List.length_map, List.length_reverse]; exact hfr50) (J.nfs st (by simp)) (fun H2 σ' R' T' hV hfr => ?_) (fun H2 g R' htV T' hg hgst hst2 hg2 hfr => ?_)
        · refine ⟨_, ?_, σ', (y, i + 1) :: S, fs, f' :: frs, rfl, ?_⟩
          · simp only [meas, hV, List.map_cons, List.sum_cons]; omega
          · refine ⟨ρs', ρst', ?_, ⟨?_, ?_⟩, R', T', fun z hz => by rw [hV]; exact J.mono z hz, by rw [hV]; exact J.xV, J.nd, J.new, J.nfs, fun b o e hn => ?_⟩
            · rw [hfr st (nfo st (by simp))]; exact hst1
            · rw [hfr f' (nfo f' (by simp)), hset_self]
            · exact frL1.frame fun b hb => hfr b (nfo b (by simp [hb]))
            · rw [hfr b hn]; exact keep1 b o e hn
        · have hgn : H₀ g = none := by
            cases e : H₀ g with
            | none => rfl
            | some o =>
              have hgo : g ∉ a.own := fun hm => by
                obtain ⟨o', e'⟩ := R1.raw.somes g (WA.own_all hm)
                rw [e'] at hg; cases hg
              rw [keep1 g o e hgo] at hg; cases hg
          have hgf : g ≠ f' := by rintro rfl; rw [hset_self] at hg; cases hg
          have hgfrs : g ∉ frs := fun hm => by
            have : ∀ {l : List Addr} {S : Fr} {H : GH}, FrL H l S → ∀ b ∈ l, ∃ o, H b = some o := by
              intro l
              induction l with
              | nil => intro S H _ b hb; cases hb
              | cons c l ih =>
                intro S H h b hb
                cases S with
                | nil => exact h.elim
                | cons q S =>
                  rcases List.mem_cons.mp hb with rfl | hb
                  · exact ⟨_, h.1⟩
                  · exact ih h.2 b hb
            obtain ⟨o, e⟩ := this frL1 g hm
            rw [e] at hg; cases hg
          have hgfs : g ∉ fs := fun hm => by
            obtain ⟨o, e⟩ := R1.ll.some g hm
            rw [e] at hg; cases hg
          have hv' := T'.vlen
          have hdt := U.deg t htn
          refine ⟨_, ?_, σ.enter t, (t, 0) :: (y, i + 1) :: S, fs, g :: f' :: frs, rfl, ?_⟩
          · have e2 : (σ.enter t).V.length = σ.V.length + 1 := by simp [WS.enter]
            rw [e2] at hv'
            obtain ⟨m, hm⟩ := Nat.le.dest hv'
            obtain ⟨c, hc⟩ := Nat.le.dest hlt
            have h1 : names.length - (σ.V.length + 1) = m := by rw [← hm]; exact Nat.add_sub_cancel_left ..
            have h2 : names.length - σ.V.length = m + 1 := by rw [← hm, Nat.add_assoc, Nat.add_sub_cancel_left, Nat.add_comm]
            have h3 : 1 + (adj y).length - (i + 1) = c + 1 := by rw [← hc]; omega
            have h4 : 1 + (adj y).length - i = c + 2 := by rw [← hc]; omega
            simp only [meas, e2, List.map_cons, List.sum_cons, h1, h2, h3, h4, Nat.sub_zero]; omega
          · refine ⟨ρs', ρst', ?_, ⟨?_, ?_, ?_⟩, R', T', fun z hz => List.mem_append_left _ (J.mono z hz), List.mem_append_left _ J.xV, ?_, ?_, ?_, fun b o e hn => ?_⟩
            · rw [hst2]; simp
            · exact hg2
            · rw [hfr f' (nfo f' (by simp)) (Ne.symm nd.1.1) (Ne.symm hgf), hset_self]
            · exact frL1.frame fun b hb => hfr b (nfo b (by simp [hb])) (by rintro rfl; exact nd.1.2 hb) (by rintro rfl; exact hgfrs hb)
            · simp only [List.nodup_cons, List.mem_cons, not_or]
              exact ⟨⟨Ne.symm hgst, nd.1⟩, ⟨hgf, hgfrs⟩, nd.2⟩
            · intro b hb
              simp only [List.mem_cons] at hb
              rcases hb with rfl | rfl | hb
              · exact J.new _ (by simp)
              · exact hgn
              · exact J.new b (by simp [hb])
            · intro b hb
              simp only [List.mem_cons] at hb
              rcases hb with rfl | rfl | hb
              · exact J.nfs _ (by simp)
              · exact hgfs
              · exact J.nfs b (by simp [hb])
            · rw [hfr b hn (fun e' => by have := J.new st (by simp); rw [← e', e] at this; cases this) (fun e' => by rw [← e', e] at hgn; cases hgn)]
              exact keep1 b o e hn
      · rw [if_neg (by first | assumption | exact nbm (by assumption) | exact nbl (by assumption) | exact nbm1 (by assumption) | (simp; omega))]
        (refine peel ?_; simp (decide := true) only [e_int, e_str, e_bool, k_name, e_bin, e_un, e_bo, k_cmp, k_list, k_tup, e_dict, k_attr, e_from, e_upto, e_item, k_call, k_meth, k_comp, bo_one, gBool_or, gBool_and, es_nil, es_cons, if_nil, if_one, t_not, t_bo, k_tcmp, t_name, t_sub, t_call, al_nil, gAll_or, gAll_and, k_aname, a_attr, a_item, a_tup, an_nil, k_ancons, s_expr, s_ret0, s_ret, k_asg, s_asg_, s_if, k_for, s_while, whK_next, whK_ret, seqK_next, seqK_ret, gSs_nil, tk_sub, tk_attr, tk_call, tk_item, tk_tup, kdL_cons, lk_cons, lk_nil, beq_ff, ex_some, true_and, and_true, if_true, if_false, not_false_eq_true, lset, compLoc, gCmp_eq, gCmp_ne, gCmp_in, gCmp_nin, gCmp_lt, gCmp_gt, gCmp_ge, gUn_neg, gUn_not, gBin_add, gBin_sub, gEq_int, gEq_bool, gEq_str, retOf, ρst'])
        refine me_pop hst' (m_pop hst' (nb1 hfr1) ?_)
        have R1 : WR a σ fs (hset H st (.list (frs.reverse.map .ref))) := J.R.frame fun b hb => hset_ne _ _ (by
          rintro rfl
          rcases hb with hb | hb
          · exact nfa b (by simp) hb
          · exact J.nfs b (by simp) hb)
        (refine peel ?_; simp (decide := true) only [e_int, e_str, e_bool, k_name, e_bin, e_un, e_bo, k_cmp, k_list, k_tup, e_dict, k_attr, e_from, e_upto, e_item, k_call, k_meth, k_comp, bo_one, gBool_or, gBool_and, es_nil, es_cons, if_nil, if_one, t_not, t_bo, k_tcmp, t_name, t_sub, t_call, al_nil, gAll_or, gAll_and, k_aname, a_attr, a_item, a_tup, an_nil, k_ancons, s_expr, s_ret0, s_ret, k_asg, s_asg_, s_if, k_for, s_while, whK_next, whK_ret, seqK_next, seqK_ret, gSs_nil, tk_sub, tk_attr, tk_call, tk_item, tk_tup, kdL_cons, lk_cons, lk_nil, beq_ff, ex_some, true_and, and_true, if_true, if_false, not_false_eq_true, lset, compLoc, gCmp_eq, gCmp_ne, gCmp_in, gCmp_nin, gCmp_lt, gCmp_gt, gCmp_ge, gUn_neg, gUn_not, gBin_add, gBin_sub, gEq_int, gEq_bool, gEq_str, retOf, ρs', ρn])
        refine me_inst R1.raw.w R1.raw.dx (by decide) (by rfl) ?_
        refine leave_m R1 J.T (Nat.le_of_not_lt hlt) hnl fun H2 σ' fs' R' hV hS0 hS1 hfs' keep2 => ?_
        have hst2 : H2 st = some (.list (frs.reverse.map .ref)) := keep2 st _ (hset_self _ _ _) (nfo st (by simp))
        have frL2 : FrL H2 frs S := by
          have h1 : FrL (hset H st (.list (frs.reverse.map .ref))) frs S := fr'.frame fun b hb => hset_ne _ _ (by rintro rfl; exact nd.1.2 hb)
          have key : ∀ {l : List Addr} {S : Fr}, FrL (hset H st (.list (frs.reverse.map .ref))) l S → (∀ b ∈ l, b ∉ a.own) → FrL H2 l S := by
            intro l
            induction l with
            | nil => intro S h _; cases S with
              | nil => trivial
              | cons _ _ => exact h.elim
            | cons c l ih =>
              intro S h hn
              cases S with
              | nil => exact h.elim
              | cons q S => exact ⟨keep2 c _ h.1 (hn c (by simp)), ih h.2 fun b hb => hn b (by simp [hb])⟩
          exact key h1 fun b hb => nfo b (by simp [hb])
        have keepA : ∀ b o, H₀ b = some o → b ∉ a.own → H2 b = some o := fun b o e hn => keep2 b o (by
          rw [hset_ne _ _ (fun e' => by have := J.new st (by simp); rw [← e', e] at this; cases this)]; exact J.keep b o e hn) hn
        have ndn : (st :: frs).Nodup := by simp only [List.nodup_cons]; exact ⟨nd.1.2, nd.2.2⟩
        have newn : ∀ b ∈ st :: frs, H₀ b = none := fun b hb => J.new b (by simp only [List.mem_cons] at hb ⊢; exact hb.elim .inl fun h => .inr (.inr h))
        have nfsn : ∀ b ∈ st :: frs, b ∉ fs' := fun b hb hm => by
          have hb' : b ∈ st :: f' :: frs := by simp only [List.mem_cons] at hb ⊢; exact hb.elim .inl fun h => .inr (.inr h)
          rcases hfs' b hm with h | h
          · exact J.nfs b hb' h
          · have hs : ∃ o, hset H st (.list (frs.reverse.map .ref)) b = some o := by
              rcases List.mem_cons.mp hb with e | hbm
              · exact ⟨_, by rw [e]; exact hset_self _ _ _⟩
              · have : ∀ {l : List Addr} {S : Fr} {H : GH}, FrL H l S → ∀ b ∈ l, ∃ o, H b = some o := by
                  intro l
                  induction l with
                  | nil => intro S H _ b hb; cases hb
                  | cons c l ih =>
                    intro S H h b hb
                    cases S with
                    | nil => exact h.elim
                    | cons q S =>
                      rcases List.mem_cons.mp hb with rfl | hb
                      · exact ⟨_, h.1⟩
                      · exact ih h.2 b hb
                obtain ⟨o, e⟩ := this fr' b hbm
                have hbst : b ≠ st := fun e' => nd.1.2 (e' ▸ hbm)
                exact ⟨o, by rw [hset_ne _ _ hbst]; exact e⟩
            obtain ⟨o, e⟩ := hs
            rw [e] at h; cases h
        have monoA : ∀ z ∈ σ₀.V, z ∈ σ'.V := fun z hz => by rw [hV]; exact J.mono z hz
        have xVA : x ∈ σ'.V := by rw [hV]; exact J.xV
        (refine peel ?_; simp (decide := true) only [e_int, e_str, e_bool, k_name, e_bin, e_un, e_bo, k_cmp, k_list, k_tup, e_dict, k_attr, e_from, e_upto, e_item, k_call, k_meth, k_comp, bo_one, gBool_or, gBool_and, es_nil, es_cons, if_nil, if_one, t_not, t_bo, k_tcmp, t_name, t_sub, t_call, al_nil, gAll_or, gAll_and, k_aname, a_attr, a_item, a_tup, an_nil, k_ancons, s_expr, s_ret0, s_ret, k_asg, s_asg_, s_if, k_for, s_while, whK_next, whK_ret, seqK_next, seqK_ret, gSs_nil, tk_sub, tk_attr, tk_call, tk_item, tk_tup, kdL_cons, lk_cons, lk_nil, beq_ff, ex_some, true_and, and_true, if_true, if_false, not_false_eq_true, lset, compLoc, gCmp_eq, gCmp_ne, gCmp_in, gCmp_nin, gCmp_lt, gCmp_gt, gCmp_ge, gUn_neg, gUn_not, gBin_add, gBin_sub, gEq_int, gEq_bool, gEq_str, retOf, ρst'])
        refine tr_list hst2 (nbr hfr1) ?_
        cases S with
        | nil =>
          have : frs = [] := List.length_eq_zero_iff.mp (by rw [hfs1]; rfl)
          subst this
          simp only [List.reverse_nil, List.map_nil, List.isEmpty_nil, Bool.not_true, Bool.false_eq_true, if_false]
          refine ⟨_, ?_, σ', [], fs', [], rfl, ⟨ρs', ρst', hst2, trivial, R', hS0 rfl, monoA, xVA, ndn, newn, nfsn, keepA⟩⟩
          simp only [meas, hV, List.map_cons, List.map_nil, List.sum_cons, List.sum_nil]; omega
        | cons top2 S2 =>
          obtain ⟨z, j⟩ := top2
          cases frs with
          | nil => exact frL2.elim
          | cons f2 frs2 =>
            have hne2 : (!((f2 :: frs2).reverse.map GV.ref).isEmpty) = true := by simp
            simp only [hne2, if_true]
            have hst2' : H2 st = some (.list (frs2.reverse.map .ref ++ [.ref f2])) := by rw [hst2]; simp
            have hf2 : H2 f2 = some (.list [.str z, .int (j : Int)]) := frL2.1
            have TS := hS1 (z, j) S2 rfl
            have hzV : z ∈ σ'.V := TS.osub z (TS.sO (z, j) List.mem_cons_self)
            have hyV : y ∈ σ'.V := by rw [hV]; exact J.T.osub y hyO
            have hlen2 : (frs2.reverse.map GV.ref ++ [GV.ref f2]).length ≤ bnd := Nat.le_of_lt (nb1 (Nat.le_trans (Nat.le_succ _) hfr1))
            (refine peel ?_; simp (decide := true) only [e_int, e_str, e_bool, k_name, e_bin, e_un, e_bo, k_cmp, k_list, k_tup, e_dict, k_attr, e_from, e_upto, e_item, k_call, k_meth, k_comp, bo_one, gBool_or, gBool_and, es_nil, es_cons, if_nil, if_one, t_not, t_bo, k_tcmp, t_name, t_sub, t_call, al_nil, gAll_or, gAll_and, k_aname, a_attr, a_item, a_tup, an_nil, k_ancons, s_expr, s_ret0, s_ret, k_asg, s_asg_, s_if, k_for, s_while, whK_next, whK_ret, seqK_next, seqK_ret, gSs_nil, tk_sub, tk_attr, tk_call, tk_item, tk_tup, kdL_cons, lk_cons, lk_nil, beq_ff, ex_some, true_and, and_true, if_true, if_false, not_false_eq_true, lset, compLoc, gCmp_eq, gCmp_ne, gCmp_in, gCmp_nin, gCmp_lt, gCmp_gt, gCmp_ge, gUn_neg, gUn_not, gBin_add, gBin_sub, gEq_int, gEq_bool, gEq_str, retOf, ρs', ρst', ρn])
            refine R'.raw.ga_lo (gi_last hst2' hlen2 (gi_list (v := .str z) hf2 (by decide : (2 : Nat) ≤ bnd) (by decide) (by rfl) (gi_dict R'.raw.lo hzV (R'.raw.ga_lo (gi_dict R'.raw.lo hyV (min_g ?_))))))
            have hvl' := R'.vlen
            refine R'.raw.ga_lo (gi_last hst2' hlen2 (gi_list (v := .str z) hf2 (by decide : (2 : Nat) ≤ bnd) (by decide) (by rfl) (gsi_mem R'.raw.lo (nb100 hvl') R'.vnd hzV ?_)))
            rw [min_int]
            have lo_ne : ∀ b, b ∉ a.own → b ≠ a.lo := fun b hb e => hb (by rw [e]; simp [WA.own])
            refine ⟨_, ?_, σ'.lower z (min (σ'.low z) (σ'.low y)), (z, j) :: S2, fs', f2 :: frs2, rfl, ⟨ρs', ρst', ?_, frL2.frame fun b hb => hset_ne _ _ (lo_ne b (nfo b (by simp only [List.mem_cons] at hb ⊢; exact .inr (.inr hb)))), R'.lower, TS, monoA, xVA, ndn, newn, nfsn, fun b o e hn => ?_⟩⟩
            · have e3 : (σ'.lower z (min (σ'.low z) (σ'.low y))).V.length = σ.V.length := by rw [← hV]; rfl
              simp only [meas, e3, List.map_cons, List.sum_cons]; omega
            · rw [hset_ne _ _ (lo_ne st (nfo st (by simp)))]; exact hst2
            · rw [hset_ne _ _ (lo_ne b hn)]; exact keepA b o e hn

-- P5
theorem hset_none {H : GH} {a b : Addr} {o : GO} (h : hset H a o b = none) : b ≠ a ∧ H b = none := by
  by_cases e : b = a
  · subst e; rw [hset_self] at h; cases h
  · exact ⟨e, by rw [hset_ne _ _ e] at h; exact h⟩

theorem for_g {α : Type} {kd : Kd} {x : Str} {a : Addr} {body : Loc → GH → (GF → Loc → GH → Prop) → Prop} {c : α → GV} {Q : GF → Loc → GH → Prop} {ρ : Loc} {H : GH} (I : List α → Loc → GH → Prop) {l : List α} (h : H a = some (.list (l.map c))) (hb : l.length ≤ bnd)
    (hI : ∀ done ρ H, I done ρ H → H a = some (.list (l.map c))) (hk : kd x = some .local ∨ kd x = some .cell) (init : I [] ρ H)
    (step : ∀ done v rest ρ H (K : Loc → GH → Prop), l = done ++ v :: rest → I done ρ H → (∀ ρ' H', I (done ++ [v]) ρ' H' → K ρ' H') →
      body (lset ρ x (c v)) H fun f ρ'' H' => match f with
        | .next => K ρ'' H'
        | .ret y => Q (.ret y) ρ'' H')
    (fin : ∀ ρ H, I l ρ H → Q .next ρ H) : ∃ a' o l', GV.ref a = .ref a' ∧ H a' = some o ∧ itemsOf o = some l' ∧ l'.length ≤ bnd ∧ gFor kd x a' o body l' ρ H Q :=
  ⟨a, _, l.map c, rfl, h, rfl, by simpa using hb, for_ind I (fun done v rest ρ H K e i k => ⟨hI _ _ _ i, hk, step done v rest ρ H K e i k⟩) (fun ρ H i => ⟨hI _ _ _ i, fin ρ H i⟩) init⟩

theorem filter_g {a : Addr} {cond : GV → GH → (Bool → GH → Prop) → Prop} {el : GV → EM} {Q : List GV → GH → Prop} {H : GH} (J : GH → Prop) (p : Str → Bool) {l : List Str} (hb : l.length ≤ bnd) (h : J H) (ho : ∀ H, J H → H a = some (.list (l.map .str)))
    (hc : ∀ v ∈ l, ∀ H K, J H → (∀ H', J H' → K (p v) H') → cond (.str v) H K) (he : ∀ v H K, K (.str v) H → el (.str v) H K) (q : ∀ H', J H' → Q ((l.filter p).map .str) H') :
    ∃ a' o l', GV.ref a = .ref a' ∧ H a' = some o ∧ itemsOf o = some l' ∧ l'.length ≤ bnd ∧ gCompL a' o cond el l' H [] Q :=
  ⟨a, _, l.map .str, rfl, ho H h, rfl, by simpa using hb, comp_filter J p ho hc he h q⟩
theorem map_g {α : Type} {a : Addr} {cond : GV → GH → (Bool → GH → Prop) → Prop} {el : GV → EM} {c : α → GV} {Q : List GV → GH → Prop} {H : GH} (J : GH → Prop) (f : α → GV) {l : List α} (hb : l.length ≤ bnd) (h : J H) (ho : ∀ H, J H → H a = some (.list (l.map c)))
    (hc : ∀ v ∈ l, ∀ H K, J H → (∀ H', J H' → K true H') → cond (c v) H K) (he : ∀ v ∈ l, ∀ H K, J H → (∀ H', J H' → K (f v) H') → el (c v) H K) (q : ∀ H', J H' → Q (l.map f) H') :
    ∃ a' o l', GV.ref a = .ref a' ∧ H a' = some o ∧ itemsOf o = some l' ∧ l'.length ≤ bnd ∧ gCompL a' o cond el l' H [] Q :=
  ⟨a, _, l.map c, rfl, ho H h, rfl, by simpa using hb, comp_map J f ho hc he h q⟩

noncomputable def initB : { x : Fn // x = fnM "__init__" } := by
  refine ⟨?x, Eq.symm ?h⟩
  case' h => conv => lhs; whnf

theorem sa {a dx : Addr} {kvs : List (Str × GV)} {n : Str} {v : GV} {H : GH} {Q : GH → Prop} (hn : n ∈ attrNames) (h1 : H a = some (.inst dx)) (h2 : H dx = some (.attrs kvs)) (h3 : kvs.length ≤ 100) (q : Q (hset H dx (.attrs (put n v kvs)))) : gSetAttr (.ref a) n v H Q := ⟨hn, dx, kvs, h1, h2, h3, q⟩

theorem fresh_ne {H : GH} {a b : Addr} {o : GO} (h : H a = some o) (hb : H b = none) : a ≠ b := by rintro rfl; rw [h] at hb; cases hb

-- an instance that is being filled
structure InI (w dx : Addr) (kvs : List (Str × GV)) (H H' : GH) : Prop where
  iw : H' w = some (.inst dx)
  d : H' dx = some (.attrs kvs)
  le : Le H H'
  w0 : H w = none
  d0 : H dx = none
  ne : w ≠ dx
theorem InI.le0 {w dx b : Addr} {kvs : List (Str × GV)} {H H' : GH} (I : InI w dx kvs H H') (h : H' b = none) : H b = none := by
  cases e : H b with
  | none => rfl
  | some o => rw [I.le b o e] at h; cases h
theorem InI.set {w dx : Addr} {kvs : List (Str × GV)} {H H' : GH} (I : InI w dx kvs H H') {n : Str} {v : GV} {Q : GH → Prop} (hn : n ∈ attrNames) (hl : kvs.length ≤ 100)
    (q : ∀ H'', InI w dx (put n v kvs) H H'' → (∀ b, b ≠ dx → H'' b = H' b) → Q H'') : gSetAttr (.ref w) n v H' Q :=
  sa hn I.iw I.d hl (q _ ⟨by rw [hset_ne _ _ I.ne]; exact I.iw, hset_self _ _ _, Le.set _ I.d0 I.le, I.w0, I.d0, I.ne⟩ fun b hb => hset_ne _ _ hb)
theorem InI.new {w dx : Addr} {kvs : List (Str × GV)} {H H' : GH} (I : InI w dx kvs H H') {n : Str} {g : GO} {Q : GH → Prop} (hn : n ∈ attrNames) (hl : kvs.length ≤ 100)
    (q : ∀ a H'', H' a = none → (a ≠ w ∧ a ≠ dx) → InI w dx (put n (.ref a) kvs) H H'' → H'' a = some g → (∀ b, b ≠ a → b ≠ dx → H'' b = H' b) → Q H'') : gNew g H' fun v H₁ => gSetAttr (.ref w) n v H₁ Q := by
  intro a ha
  have aw : a ≠ w := Ne.symm (fresh_ne I.iw ha)
  have ad : a ≠ dx := Ne.symm (fresh_ne I.d ha)
  have I' : InI w dx kvs H (hset H' a g) := ⟨by rw [hset_ne _ _ (Ne.symm aw)]; exact I.iw, by rw [hset_ne _ _ (Ne.symm ad)]; exact I.d, I.le.trans (Le.new _ ha), I.w0, I.d0, I.ne⟩
  refine I'.set hn hl fun H'' J f => q a H'' ha ⟨aw, ad⟩ J ?_ fun b n1 n2 => (f b n2).trans (hset_ne _ _ n1)
  rw [f a ad, hset_self]

noncomputable def WS.nil : WS := ⟨[], fun _ => 0, fun _ => 0, [], fun _ => false, []⟩

theorem walker_g {k : Nat} {kp : Addr} {o : GO} {H : GH} {Q : GV → GH → Prop} (h : H kp = some o)
    (q : ∀ a H', a.u = kp → WR a .nil [] H' → Le H H' → (∀ b ∈ a.own, H b = none) → Q (.ref a.w) H') : PhiS (k + 1) false "Walker" [.ref kp] H Q := by
  unfold PhiS
  rw [if_neg Bool.false_ne_true, if_pos rfl]
  intro w dx hw hdx hwd
  show gFn (PhiS k) (fnM "__init__") _ _ _
  refine start initB rfl fun ρ hρ => ?_
  have r1 : ρ "self" = some (.ref w) := hρ _
  have r2 : ρ "uses" = some (.ref kp) := hρ _
  clear hρ
  unfold initB
  have wk : w ≠ kp := by rintro rfl; rw [h] at hw; cases hw
  have dk : dx ≠ kp := by rintro rfl; rw [h] at hdx; cases hdx
  have I0 : InI w dx [] H (hset (hset H dx (.attrs [])) w (.inst dx)) := ⟨hset_self _ _ _, by rw [hset_ne _ _ (Ne.symm hwd), hset_self], (Le.new _ hdx).trans (Le.new _ (by rw [hset_ne _ _ hwd]; exact hw)), hw, hdx, hwd⟩
  have k0 : hset (hset H dx (.attrs [])) w (.inst dx) kp = some o := by rw [hset_ne _ _ (Ne.symm wk), hset_ne _ _ (Ne.symm dk)]; exact h
  generalize hset (hset H dx (.attrs [])) w (.inst dx) = H0 at I0 k0 ⊢
  (refine peel ?_; simp (decide := true) only [e_int, e_str, e_bool, k_name, e_bin, e_un, e_bo, k_cmp, k_list, k_tup, e_dict, k_attr, e_from, e_upto, e_item, k_call, k_meth, k_comp, bo_one, gBool_or, gBool_and, es_nil, es_cons, if_nil, if_one, t_not, t_bo, k_tcmp, t_name, t_sub, t_call, al_nil, gAll_or, gAll_and, k_aname, a_attr, a_item, a_tup, an_nil, k_ancons, s_expr, s_ret0, s_ret, k_asg, s_asg_, s_if, k_for, s_while, whK_next, whK_ret, seqK_next, seqK_ret, gSs_nil, tk_sub, tk_attr, tk_call, tk_item, tk_tup, kdL_cons, lk_cons, lk_nil, beq_ff, ex_some, true_and, and_true, if_true, if_false, not_false_eq_true, lset, compLoc, gCmp_eq, gCmp_ne, gCmp_in, gCmp_nin, gCmp_lt, gCmp_gt, gCmp_ge, gUn_neg, gUn_not, gBin_add, gBin_sub, gEq_int, gEq_bool, gEq_str, retOf, r1, r2])
  refine I0.set (by decide) (by decide) fun H1 J1 f1 => ?_
  have k1 := (f1 kp (Ne.symm dk)).trans k0
  (refine peel ?_; simp (decide := true) only [e_int, e_str, e_bool, k_name, e_bin, e_un, e_bo, k_cmp, k_list, k_tup, e_dict, k_attr, e_from, e_upto, e_item, k_call, k_meth, k_comp, bo_one, gBool_or, gBool_and, es_nil, es_cons, if_nil, if_one, t_not, t_bo, k_tcmp, t_name, t_sub, t_call, al_nil, gAll_or, gAll_and, k_aname, a_attr, a_item, a_tup, an_nil, k_ancons, s_expr, s_ret0, s_ret, k_asg, s_asg_, s_if, k_for, s_while, whK_next, whK_ret, seqK_next, seqK_ret, gSs_nil, tk_sub, tk_attr, tk_call, tk_item, tk_tup, kdL_cons, lk_cons, lk_nil, beq_ff, ex_some, true_and, and_true, if_true, if_false, not_false_eq_true, lset, compLoc, gCmp_eq, gCmp_ne, gCmp_in, gCmp_nin, gCmp_lt, gCmp_gt, gCmp_ge, gUn_neg, gUn_not, gBin_add, gBin_sub, gEq_int, gEq_bool, gEq_str, retOf, r1])
  refine J1.new (by decide) (Nat.le_of_ble_eq_true rfl) fun nu H2 nn n0 J2 e2 f2 => ?_
  have k2 := (f2 kp (fresh_ne k1 nn) (Ne.symm dk)).trans k1
  (refine peel ?_; simp (decide := true) only [e_int, e_str, e_bool, k_name, e_bin, e_un, e_bo, k_cmp, k_list, k_tup, e_dict, k_attr, e_from, e_upto, e_item, k_call, k_meth, k_comp, bo_one, gBool_or, gBool_and, es_nil, es_cons, if_nil, if_one, t_not, t_bo, k_tcmp, t_name, t_sub, t_call, al_nil, gAll_or, gAll_and, k_aname, a_attr, a_item, a_tup, an_nil, k_ancons, s_expr, s_ret0, s_ret, k_asg, s_asg_, s_if, k_for, s_while, whK_next, whK_ret, seqK_next, seqK_ret, gSs_nil, tk_sub, tk_attr, tk_call, tk_item, tk_tup, kdL_cons, lk_cons, lk_nil, beq_ff, ex_some, true_and, and_true, if_true, if_false, not_false_eq_true, lset, compLoc, gCmp_eq, gCmp_ne, gCmp_in, gCmp_nin, gCmp_lt, gCmp_gt, gCmp_ge, gUn_neg, gUn_not, gBin_add, gBin_sub, gEq_int, gEq_bool, gEq_str, retOf, r1])
  refine J2.new (by decide) (Nat.le_of_ble_eq_true rfl) fun lo H3 ln l0 J3 e3 f3 => ?_
  have k3 := (f3 kp (fresh_ne k2 ln) (Ne.symm dk)).trans k2
  have d3 := (f3 nu (fresh_ne e2 ln) n0.2).trans e2
  (refine peel ?_; simp (decide := true) only [e_int, e_str, e_bool, k_name, e_bin, e_un, e_bo, k_cmp, k_list, k_tup, e_dict, k_attr, e_from, e_upto, e_item, k_call, k_meth, k_comp, bo_one, gBool_or, gBool_and, es_nil, es_cons, if_nil, if_one, t_not, t_bo, k_tcmp, t_name, t_sub, t_call, al_nil, gAll_or, gAll_and, k_aname, a_attr, a_item, a_tup, an_nil, k_ancons, s_expr, s_ret0, s_ret, k_asg, s_asg_, s_if, k_for, s_while, whK_next, whK_ret, seqK_next, seqK_ret, gSs_nil, tk_sub, tk_attr, tk_call, tk_item, tk_tup, kdL_cons, lk_cons, lk_nil, beq_ff, ex_some, true_and, and_true, if_true, if_false, not_false_eq_true, lset, compLoc, gCmp_eq, gCmp_ne, gCmp_in, gCmp_nin, gCmp_lt, gCmp_gt, gCmp_ge, gUn_neg, gUn_not, gBin_add, gBin_sub, gEq_int, gEq_bool, gEq_str, retOf, r1])
  refine J3.new (by decide) (Nat.le_of_ble_eq_true rfl) fun op H4 on o0 J4 e4 f4 => ?_
  have k4 := (f4 kp (fresh_ne k3 on) (Ne.symm dk)).trans k3
  have d4 := (f4 nu (fresh_ne d3 on) n0.2).trans d3
  have c4 := (f4 lo (fresh_ne e3 on) l0.2).trans e3
  (refine peel ?_; simp (decide := true) only [e_int, e_str, e_bool, k_name, e_bin, e_un, e_bo, k_cmp, k_list, k_tup, e_dict, k_attr, e_from, e_upto, e_item, k_call, k_meth, k_comp, bo_one, gBool_or, gBool_and, es_nil, es_cons, if_nil, if_one, t_not, t_bo, k_tcmp, t_name, t_sub, t_call, al_nil, gAll_or, gAll_and, k_aname, a_attr, a_item, a_tup, an_nil, k_ancons, s_expr, s_ret0, s_ret, k_asg, s_asg_, s_if, k_for, s_while, whK_next, whK_ret, seqK_next, seqK_ret, gSs_nil, tk_sub, tk_attr, tk_call, tk_item, tk_tup, kdL_cons, lk_cons, lk_nil, beq_ff, ex_some, true_and, and_true, if_true, if_false, not_false_eq_true, lset, compLoc, gCmp_eq, gCmp_ne, gCmp_in, gCmp_nin, gCmp_lt, gCmp_gt, gCmp_ge, gUn_neg, gUn_not, gBin_add, gBin_sub, gEq_int, gEq_bool, gEq_str, retOf, r1])
  refine J4.new (by decide) (Nat.le_of_ble_eq_true rfl) fun io H5 in_ i0 J5 e5 f5 => ?_
  have k5 := (f5 kp (fresh_ne k4 in_) (Ne.symm dk)).trans k4
  have d5 := (f5 nu (fresh_ne d4 in_) n0.2).trans d4
  have c5 := (f5 lo (fresh_ne c4 in_) l0.2).trans c4
  have b5 := (f5 op (fresh_ne e4 in_) o0.2).trans e4
  (refine peel ?_; simp (decide := true) only [e_int, e_str, e_bool, k_name, e_bin, e_un, e_bo, k_cmp, k_list, k_tup, e_dict, k_attr, e_from, e_upto, e_item, k_call, k_meth, k_comp, bo_one, gBool_or, gBool_and, es_nil, es_cons, if_nil, if_one, t_not, t_bo, k_tcmp, t_name, t_sub, t_call, al_nil, gAll_or, gAll_and, k_aname, a_attr, a_item, a_tup, an_nil, k_ancons, s_expr, s_ret0, s_ret, k_asg, s_asg_, s_if, k_for, s_while, whK_next, whK_ret, seqK_next, seqK_ret, gSs_nil, tk_sub, tk_attr, tk_call, tk_item, tk_tup, kdL_cons, lk_cons, lk_nil, beq_ff, ex_some, true_and, and_true, if_true, if_false, not_false_eq_true, lset, compLoc, gCmp_eq, gCmp_ne, gCmp_in, gCmp_nin, gCmp_lt, gCmp_gt, gCmp_ge, gUn_neg, gUn_not, gBin_add, gBin_sub, gEq_int, gEq_bool, gEq_str, retOf, r1])
  refine J5.new (by decide) (Nat.le_of_ble_eq_true rfl) fun fo H6 fn f0 J6 e6 f6 => ?_
  have k6 := (f6 kp (fresh_ne k5 fn) (Ne.symm dk)).trans k5
  have d6 := (f6 nu (fresh_ne d5 fn) n0.2).trans d5
  have c6 := (f6 lo (fresh_ne c5 fn) l0.2).trans c5
  have b6 := (f6 op (fresh_ne b5 fn) o0.2).trans b5
  have a6 := (f6 io (fresh_ne e5 fn) i0.2).trans e5
  have nn0 := J1.le0 nn; have ln0 := J2.le0 ln; have on0 := J3.le0 on; have in0 := J4.le0 in_; have fn0 := J5.le0 fn
  refine q ⟨w, dx, kp, nu, lo, op, io, fo⟩ _ rfl ⟨⟨?_, J6.iw, J6.d, d6, c6, b6, a6, e6, ⟨o, k6⟩⟩, List.nodup_nil, Nat.zero_le _, Nat.zero_le _, trivial, nofun, Nat.zero_le _⟩ J6.le ?_
  · have nkp : ∀ b, H b = none → b ≠ kp := fun b hb e => by rw [e, h] at hb; cases hb
    simp only [WA.all, List.nodup_cons, List.mem_cons, List.not_mem_nil, or_false, not_or, not_false_eq_true, and_true, List.nodup_nil]
    exact ⟨⟨hwd, wk, Ne.symm n0.1, Ne.symm l0.1, Ne.symm o0.1, Ne.symm i0.1, Ne.symm f0.1⟩, ⟨dk, Ne.symm n0.2, Ne.symm l0.2, Ne.symm o0.2, Ne.symm i0.2, Ne.symm f0.2⟩,
      ⟨Ne.symm (nkp _ nn0), Ne.symm (nkp _ ln0), Ne.symm (nkp _ on0), Ne.symm (nkp _ in0), Ne.symm (nkp _ fn0)⟩, ⟨fresh_ne e2 ln, fresh_ne d3 on, fresh_ne d4 in_, fresh_ne d5 fn⟩, ⟨fresh_ne e3 on, fresh_ne c4 in_, fresh_ne c5 fn⟩, ⟨fresh_ne e4 in_, fresh_ne b5 fn⟩, fresh_ne e5 fn⟩
  · intro b hb
    simp only [WA.own, List.mem_cons, List.not_mem_nil, or_false] at hb
    rcases hb with rfl | rfl | rfl | rfl | rfl
    · exact nn0
    · exact ln0
    · exact on0
    · exact in0
    · exact fn0

-- P6
theorem idx_back {names : List Str} {x : Str} (h : x ∈ names) : names[names.idxOf x]? = some x := by
  have hl := List.idxOf_lt_length_of_mem h
  rw [List.getElem?_eq_getElem hl, List.getElem_idxOf hl]

theorem sort_names {names g : List Str} (nd : names.Nodup) (hg : g.Nodup) (hsub : ∀ x ∈ g, x ∈ names) {js : List Int} (hp : js.Perm (g.map fun y => (names.idxOf y : Int))) (hs : js.Pairwise (· ≤ ·)) :
    js = (names.filter fun n => decide (n ∈ g)).map fun y => (names.idxOf y : Int) := by
  have hinj : ∀ x ∈ names, ∀ y ∈ names, (names.idxOf x : Int) = (names.idxOf y : Int) → x = y := fun x hx y hy e => by
    have e' : names.idxOf x = names.idxOf y := by omega
    have h1 := idx_back hx
    rw [e', idx_back hy] at h1
    exact (Option.some.inj h1).symm
  have ndm : ∀ l : List Str, l.Nodup → (∀ x ∈ l, x ∈ names) → (l.map fun y => (names.idxOf y : Int)).Nodup := fun l hl hm => by
    rw [List.nodup_iff_pairwise_ne, List.pairwise_map]
    exact hl.imp_of_mem fun {x y} hx hy h e => h (hinj x (hm x hx) y (hm y hy) e)
  have hfn : (names.filter fun n => decide (n ∈ g)).Nodup := List.Pairwise.sublist List.filter_sublist nd
  have hperm : (g.map fun y => (names.idxOf y : Int)).Perm ((names.filter fun n => decide (n ∈ g)).map fun y => (names.idxOf y : Int)) := by
    refine (List.perm_ext_iff_of_nodup (ndm g hg hsub) (ndm _ hfn fun x hx => (List.mem_filter.mp hx).1)).mpr fun z => ?_
    simp only [List.mem_map, List.mem_filter, decide_eq_true_eq]
    constructor
    · rintro ⟨y, hy, e⟩; exact ⟨y, ⟨hsub y hy, hy⟩, e⟩
    · rintro ⟨y, ⟨_, hy⟩, e⟩; exact ⟨y, hy, e⟩
  refine List.Perm.eq_of_pairwise (le := (· ≤ ·)) (fun a b _ _ h1 h2 => Int.le_antisymm h1 h2) hs ?_ (hp.trans hperm)
  have hnames : names.Pairwise fun x y => names.idxOf x ≤ names.idxOf y := by
    rw [List.pairwise_iff_getElem]
    intro i j hi hj hij
    rw [nd.idxOf_getElem i hi, nd.idxOf_getElem j hj]
    exact Nat.le_of_lt hij
  rw [List.pairwise_map]
  exact (List.Pairwise.sublist List.filter_sublist hnames).imp fun {a b} h => by omega

theorem LL_get {H : GH} : ∀ {done : List Addr} {fs : List Addr} {F : List (List Str)} {v : Addr} {rest : List Addr}, LL H fs F → fs = done ++ v :: rest → ∃ g, F[done.length]? = some g ∧ H v = some (.list (g.map .str))
  | [], fs, F, v, rest, h, e => by
    subst e
    cases F with
    | nil => exact h.elim
    | cons g F => exact ⟨g, rfl, h.1⟩
  | d :: done, fs, F, v, rest, h, e => by
    subst e
    cases F with
    | nil => exact h.elim
    | cons g F =>
      obtain ⟨g', h1, h2⟩ := LL_get (done := done) h.2 rfl
      exact ⟨g', by simpa using h1, h2⟩
theorem sorted_g {Φ : Spec} {a : Addr} {is : List Int} {H : GH} {Q : GV → GH → Prop} (h : H a = some (.list (is.map .int))) (hl : is.length < 64) (q : ∀ js : List Int, js.Perm is → js.Pairwise (· ≤ ·) → gNew (.list (js.map .int)) H Q) : gCall Φ "sorted" [.ref a] H Q := by
  unfold gCall
  rw [if_neg (by decide), if_neg (by decide), if_neg (by decide), if_neg (by decide), if_neg (by decide), if_pos rfl]
  exact ⟨_, is, h, ints_map is, hl, q⟩

noncomputable def strongB : { x : Fn // x = fnT "strong_groups" } := by
  refine ⟨?x, Eq.symm ?h⟩
  case' h => conv => lhs; whnf

-- names and uses on the heap
structure InG (nm us : Addr) (names ukeys : List Str) (pu : Str → Addr) (uf : Str → List Str) (H : GH) : Prop where
  nm : H nm = some (.list (names.map .str))
  us : H us = some (.dict (dm ukeys fun y => .ref (pu y)))
  ul : ∀ y ∈ ukeys, H (pu y) = some (.list ((uf y).map .str))
  nd : names.Nodup
  nlen : names.length ≤ 50
  udeg : ∀ y ∈ ukeys, (uf y).length ≤ 50
theorem InG.le {nm us : Addr} {names ukeys : List Str} {pu : Str → Addr} {uf : Str → List Str} {H H' : GH} (I : InG nm us names ukeys pu uf H) (l : Le H H') : InG nm us names ukeys pu uf H' :=
  ⟨l _ _ I.nm, l _ _ I.us, fun y hy => l _ _ (I.ul y hy), I.nd, I.nlen, I.udeg⟩

noncomputable def uget (ukeys : List Str) (uf : Str → List Str) (y : Str) : List Str := if y ∈ ukeys then uf y else []
noncomputable def adjOf (names ukeys : List Str) (uf : Str → List Str) : Adj := fun y => (uget ukeys uf y).filter fun z => decide (z ∈ names)
theorem InG.ulen {nm us : Addr} {names ukeys : List Str} {pu : Str → Addr} {uf : Str → List Str} {H : GH} (I : InG nm us names ukeys pu uf H) (y : Str) : (uget ukeys uf y).length ≤ 50 := by
  unfold uget
  split
  · exact I.udeg y ‹_›
  · exact Nat.zero_le _

theorem InG.get {nm us : Addr} {names ukeys : List Str} {pu : Str → Addr} {uf : Str → List Str} {H : GH} {Φ : Spec} {y : Str} {Q : GV → GH → Prop} (I : InG nm us names ukeys pu uf H)
    (q : ∀ H' a, Le H H' → H' a = some (.list ((uget ukeys uf y).map .str)) → Q (.ref a) H') : gMeth Φ "get" (.ref us) (fun H R => gNew (.list []) H fun v H₁ => R [.str y, v] H₁) H Q := by
  refine me_get I.us fun e he => m_get ((Le.new _ he) _ _ I.us) ?_
  have l : Le H (hset H e (.list [])) := Le.new _ he
  by_cases h : y ∈ ukeys
  · rw [if_pos h]; exact q _ _ l (by rw [l _ _ (I.ul y h)]; simp [uget, h])
  · rw [if_neg h]; exact q _ _ l (by rw [hset_self]; simp [uget, h])

theorem phi_t1 {k : Nat} {f : Str} {vs : List GV} {H : GH} {Q : GV → GH → Prop} (hf : f ∉ bNames) (h : PhiS k false f vs H Q) : gCall (PhiS k) f vs H Q := by
  simp only [bNames, List.mem_cons, List.not_mem_nil, or_false, not_or] at hf
  obtain ⟨h1, h2, h3, h4, h5, h6, h7⟩ := hf
  unfold gCall
  rw [if_neg h1, if_neg h2, if_neg h3, if_neg h4, if_neg h5, if_neg h6, if_neg h7]
  exact h

theorem strong_g {k : Nat} {nm us : Addr} {names ukeys : List Str} {pu : Str → Addr} {uf : Str → List Str} {H₀ : GH} {Q : GV → GH → Prop} (I₀ : InG nm us names ukeys pu uf H₀)
    (q : ∀ H' r gs σ, Le H₀ H' → H' r = some (.list (gs.map .ref)) → LL H' gs (σ.F.map fun g => names.filter fun n => decide (n ∈ g)) → TI (adjOf names ukeys uf) names σ [] → (∀ x ∈ names, x ∈ σ.V) → Q (.ref r) H') :
    gFn (PhiS (k + 3)) (fnT "strong_groups") [.ref nm, .ref us] H₀ Q := by
  refine start strongB rfl fun ρ₀ hρ => ?_
  have r1 : ρ₀ "names" = some (.ref nm) := hρ _
  have r2 : ρ₀ "uses" = some (.ref us) := hρ _
  clear hρ
  unfold strongB
  (refine peel ?_; simp (decide := true) only [e_int, e_str, e_bool, k_name, e_bin, e_un, e_bo, k_cmp, k_list, k_tup, e_dict, k_attr, e_from, e_upto, e_item, k_call, k_meth, k_comp, bo_one, gBool_or, gBool_and, es_nil, es_cons, if_nil, if_one, t_not, t_bo, k_tcmp, t_name, t_sub, t_call, al_nil, gAll_or, gAll_and, k_aname, a_attr, a_item, a_tup, an_nil, k_ancons, s_expr, s_ret0, s_ret, k_asg, s_asg_, s_if, k_for, s_while, whK_next, whK_ret, seqK_next, seqK_ret, gSs_nil, tk_sub, tk_attr, tk_call, tk_item, tk_tup, kdL_cons, lk_cons, lk_nil, beq_ff, ex_some, true_and, and_true, if_true, if_false, not_false_eq_true, lset, compLoc, gCmp_eq, gCmp_ne, gCmp_in, gCmp_nin, gCmp_lt, gCmp_gt, gCmp_ge, gUn_neg, gUn_not, gBin_add, gBin_sub, gEq_int, gEq_bool, gEq_str, retOf])
  have hb : (1000 : Nat) < bnd := by decide
  have hnl := I₀.nlen
  intro pl hpl
  have L₀ : Le H₀ (hset H₀ pl (.dict [])) := Le.new _ hpl
  (refine peel ?_; simp (decide := true) only [e_int, e_str, e_bool, k_name, e_bin, e_un, e_bo, k_cmp, k_list, k_tup, e_dict, k_attr, e_from, e_upto, e_item, k_call, k_meth, k_comp, bo_one, gBool_or, gBool_and, es_nil, es_cons, if_nil, if_one, t_not, t_bo, k_tcmp, t_name, t_sub, t_call, al_nil, gAll_or, gAll_and, k_aname, a_attr, a_item, a_tup, an_nil, k_ancons, s_expr, s_ret0, s_ret, k_asg, s_asg_, s_if, k_for, s_while, whK_next, whK_ret, seqK_next, seqK_ret, gSs_nil, tk_sub, tk_attr, tk_call, tk_item, tk_tup, kdL_cons, lk_cons, lk_nil, beq_ff, ex_some, true_and, and_true, if_true, if_false, not_false_eq_true, lset, compLoc, gCmp_eq, gCmp_ne, gCmp_in, gCmp_nin, gCmp_lt, gCmp_gt, gCmp_ge, gUn_neg, gUn_not, gBin_add, gBin_sub, gEq_int, gEq_bool, gEq_str, retOf, r1])
  refine for_g (fun done ρ H => ρ "names" = some (.ref nm) ∧ ρ "uses" = some (.ref us) ∧ ρ "places" = some (.ref pl) ∧ Le H₀ H ∧ H pl = some (.dict (dm done fun y => .int (names.idxOf y : Int)))) (L₀ _ _ I₀.nm) (by first | assumption | exact nb50 (by assumption) | exact nb50s (by assumption) | exact nb50t (by assumption) (by assumption) | omega) (fun done ρ H i => i.2.2.2.1 _ _ I₀.nm) (by decide)
    ⟨by first | exact lset1 (by decide) r1 | exact lset2 (by decide) (by decide) r1 | exact lset3 (by decide) (by decide) (by decide) r1 | (simp (decide := true) only [lset, if_false]; exact r1), by first | exact lset1 (by decide) r2 | exact lset2 (by decide) (by decide) r2 | exact lset3 (by decide) (by decide) (by decide) r2 | (simp (decide := true) only [lset, if_false]; exact r2), by rfl, L₀, hset_self _ _ _⟩ ?_ ?_
  · rintro done v rest ρ H K e ⟨r1, r2, r3, l, hp⟩ kk
    (refine peel ?_; simp (decide := true) only [e_int, e_str, e_bool, k_name, e_bin, e_un, e_bo, k_cmp, k_list, k_tup, e_dict, k_attr, e_from, e_upto, e_item, k_call, k_meth, k_comp, bo_one, gBool_or, gBool_and, es_nil, es_cons, if_nil, if_one, t_not, t_bo, k_tcmp, t_name, t_sub, t_call, al_nil, gAll_or, gAll_and, k_aname, a_attr, a_item, a_tup, an_nil, k_ancons, s_expr, s_ret0, s_ret, k_asg, s_asg_, s_if, k_for, s_while, whK_next, whK_ret, seqK_next, seqK_ret, gSs_nil, tk_sub, tk_attr, tk_call, tk_item, tk_tup, kdL_cons, lk_cons, lk_nil, beq_ff, ex_some, true_and, and_true, if_true, if_false, not_false_eq_true, lset, compLoc, gCmp_eq, gCmp_ne, gCmp_in, gCmp_nin, gCmp_lt, gCmp_gt, gCmp_ge, gUn_neg, gUn_not, gBin_add, gBin_sub, gEq_int, gEq_bool, gEq_str, retOf, r3])
    have hlen : done.length < 50 := by have := congrArg List.length e; simp at this; omega
    have hvd : v ∉ done := by
      have := I₀.nd
      rw [e, List.nodup_append] at this
      exact fun h => this.2.2 v h v List.mem_cons_self rfl
    refine len_dict hp (by first | assumption | exact nb50 (by assumption) | exact nb50s (by assumption) | exact nb50t (by assumption) (by assumption) | omega) (gsi_new hp (by first | assumption | exact nb50 (by assumption) | exact nb50s (by assumption) | exact nb50t (by assumption) (by assumption) | omega) hvd (kk _ _ ⟨?_, ?_, ?_, l.set _ hpl, ?_⟩))
    · first | exact lset1 (by decide) r1 | exact lset2 (by decide) (by decide) r1 | exact lset3 (by decide) (by decide) (by decide) r1 | (simp (decide := true) only [lset, if_false]; exact r1)
    · first | exact lset1 (by decide) r2 | exact lset2 (by decide) (by decide) r2 | exact lset3 (by decide) (by decide) (by decide) r2 | (simp (decide := true) only [lset, if_false]; exact r2)
    · first | exact lset1 (by decide) r3 | exact lset2 (by decide) (by decide) r3 | exact lset3 (by decide) (by decide) (by decide) r3 | (simp (decide := true) only [lset, if_false]; exact r3)
    · rw [hset_self]
      congr 2
      refine dm_congr fun y hy => ?_
      unfold upd
      split
      · rename_i h
        subst h
        rw [e, List.idxOf_append, if_neg hvd]
        simp
      · rfl
  rintro ρ₁ H₁ ⟨r1, r2, r3, l₁, hp₁⟩
  rw [seqK_next]
  (refine peel ?_; simp (decide := true) only [e_int, e_str, e_bool, k_name, e_bin, e_un, e_bo, k_cmp, k_list, k_tup, e_dict, k_attr, e_from, e_upto, e_item, k_call, k_meth, k_comp, bo_one, gBool_or, gBool_and, es_nil, es_cons, if_nil, if_one, t_not, t_bo, k_tcmp, t_name, t_sub, t_call, al_nil, gAll_or, gAll_and, k_aname, a_attr, a_item, a_tup, an_nil, k_ancons, s_expr, s_ret0, s_ret, k_asg, s_asg_, s_if, k_for, s_while, whK_next, whK_ret, seqK_next, seqK_ret, gSs_nil, tk_sub, tk_attr, tk_call, tk_item, tk_tup, kdL_cons, lk_cons, lk_nil, beq_ff, ex_some, true_and, and_true, if_true, if_false, not_false_eq_true, lset, compLoc, gCmp_eq, gCmp_ne, gCmp_in, gCmp_nin, gCmp_lt, gCmp_gt, gCmp_ge, gUn_neg, gUn_not, gBin_add, gBin_sub, gEq_int, gEq_bool, gEq_str, retOf])
  intro kp hkp
  have L₁ : Le H₁ (hset H₁ kp (.dict [])) := Le.new _ hkp
  (refine peel ?_; simp (decide := true) only [e_int, e_str, e_bool, k_name, e_bin, e_un, e_bo, k_cmp, k_list, k_tup, e_dict, k_attr, e_from, e_upto, e_item, k_call, k_meth, k_comp, bo_one, gBool_or, gBool_and, es_nil, es_cons, if_nil, if_one, t_not, t_bo, k_tcmp, t_name, t_sub, t_call, al_nil, gAll_or, gAll_and, k_aname, a_attr, a_item, a_tup, an_nil, k_ancons, s_expr, s_ret0, s_ret, k_asg, s_asg_, s_if, k_for, s_while, whK_next, whK_ret, seqK_next, seqK_ret, gSs_nil, tk_sub, tk_attr, tk_call, tk_item, tk_tup, kdL_cons, lk_cons, lk_nil, beq_ff, ex_some, true_and, and_true, if_true, if_false, not_false_eq_true, lset, compLoc, gCmp_eq, gCmp_ne, gCmp_in, gCmp_nin, gCmp_lt, gCmp_gt, gCmp_ge, gUn_neg, gUn_not, gBin_add, gBin_sub, gEq_int, gEq_bool, gEq_str, retOf, r1])
  refine for_g (fun done ρ H => ρ "names" = some (.ref nm) ∧ ρ "uses" = some (.ref us) ∧ ρ "places" = some (.ref pl) ∧ ρ "kept" = some (.ref kp) ∧ Le H₁ H ∧ ∃ p : Str → Addr, H kp = some (.dict (dm done fun y => .ref (p y))) ∧ ∀ y ∈ done, H (p y) = some (.list ((adjOf names ukeys uf y).map .str)))
    (L₁ _ _ (l₁ _ _ I₀.nm)) (by first | assumption | exact nb50 (by assumption) | exact nb50s (by assumption) | exact nb50t (by assumption) (by assumption) | omega) (fun done ρ H i => i.2.2.2.2.1 _ _ (l₁ _ _ I₀.nm)) (by decide)
    ⟨?_, ?_, ?_, by rfl, L₁, fun _ => kp, hset_self _ _ _, nofun⟩ ?_ ?_
  · first | exact lset1 (by decide) r1 | exact lset2 (by decide) (by decide) r1 | exact lset3 (by decide) (by decide) (by decide) r1 | (simp (decide := true) only [lset, if_false]; exact r1)
  · first | exact lset1 (by decide) r2 | exact lset2 (by decide) (by decide) r2 | exact lset3 (by decide) (by decide) (by decide) r2 | (simp (decide := true) only [lset, if_false]; exact r2)
  · first | exact lset1 (by decide) r3 | exact lset2 (by decide) (by decide) r3 | exact lset3 (by decide) (by decide) (by decide) r3 | (simp (decide := true) only [lset, if_false]; exact r3)
  · rintro done v rest ρ H K e ⟨s1, s2, s3, s4, l, p, hp, hpl'⟩ kk
    (refine peel ?_; simp (decide := true) only [e_int, e_str, e_bool, k_name, e_bin, e_un, e_bo, k_cmp, k_list, k_tup, e_dict, k_attr, e_from, e_upto, e_item, k_call, k_meth, k_comp, bo_one, gBool_or, gBool_and, es_nil, es_cons, if_nil, if_one, t_not, t_bo, k_tcmp, t_name, t_sub, t_call, al_nil, gAll_or, gAll_and, k_aname, a_attr, a_item, a_tup, an_nil, k_ancons, s_expr, s_ret0, s_ret, k_asg, s_asg_, s_if, k_for, s_while, whK_next, whK_ret, seqK_next, seqK_ret, gSs_nil, tk_sub, tk_attr, tk_call, tk_item, tk_tup, kdL_cons, lk_cons, lk_nil, beq_ff, ex_some, true_and, and_true, if_true, if_false, not_false_eq_true, lset, compLoc, gCmp_eq, gCmp_ne, gCmp_in, gCmp_nin, gCmp_lt, gCmp_gt, gCmp_ge, gUn_neg, gUn_not, gBin_add, gBin_sub, gEq_int, gEq_bool, gEq_str, retOf, s1, s2, s3, s4])
    have hlen : done.length < 50 := by have := congrArg List.length e; simp at this; omega
    have hvd : v ∉ done := by
      have := I₀.nd
      rw [e, List.nodup_append] at this
      exact fun h => this.2.2 v h v List.mem_cons_self rfl
    have lH : Le H₀ H := l₁.trans l
    refine (I₀.le lH).get fun H' b l' hb' => ?_
    refine filter_g (Le H') (fun z => decide (z ∈ names)) (by have := I₀.ulen v; omega) (Le.refl _) (fun X lX => lX _ _ hb') (fun z hz X K lX kX => ?_) (fun _ _ _ h => h) fun H'' l'' => ?_
    · exact in_dict (lX _ _ (l' _ _ (l _ _ hp₁))) (kX _ lX)
    · intro ev hev
      have lE : Le H (hset H'' ev (.list ((adjOf names ukeys uf v).map .str))) := (l'.trans l'').trans (Le.new _ hev)
      refine gsi_new (lE _ _ hp) (by first | assumption | exact nb50 (by assumption) | exact nb50s (by assumption) | exact nb50t (by assumption) (by assumption) | omega) hvd (kk _ _ ⟨?_, ?_, ?_, ?_, ?_, upd p v ev, ?_, ?_⟩)
      · first | exact lset1 (by decide) s1 | exact lset2 (by decide) (by decide) s1 | exact lset3 (by decide) (by decide) (by decide) s1 | (simp (decide := true) only [lset, if_false]; exact s1)
      · first | exact lset1 (by decide) s2 | exact lset2 (by decide) (by decide) s2 | exact lset3 (by decide) (by decide) (by decide) s2 | (simp (decide := true) only [lset, if_false]; exact s2)
      · first | exact lset1 (by decide) s3 | exact lset2 (by decide) (by decide) s3 | exact lset3 (by decide) (by decide) (by decide) s3 | (simp (decide := true) only [lset, if_false]; exact s3)
      · first | exact lset1 (by decide) s4 | exact lset2 (by decide) (by decide) s4 | exact lset3 (by decide) (by decide) (by decide) s4 | (simp (decide := true) only [lset, if_false]; exact s4)
      · exact Le.set _ hkp (l.trans lE)
      · rw [hset_self]
        congr 2
        refine dm_congr fun y hy => ?_
        unfold upd
        split <;> rfl
      · intro y hy
        by_cases hyv : y = v
        · subst hyv
          rw [upd_same]
          have hne : ev ≠ kp := by rintro rfl; rw [(l'.trans l'') _ _ hp] at hev; cases hev
          rw [hset_ne _ _ hne, hset_self]; rfl
        · rw [upd_ne _ _ hyv]
          have hy' : y ∈ done := by
            rcases List.mem_append.mp hy with h | h
            · exact h
            · simp at h; exact absurd h hyv
          have hpy := hpl' y hy'
          have hne : p y ≠ kp := by intro e'; rw [e', hp] at hpy; cases hpy
          rw [hset_ne _ _ hne]
          exact lE _ _ hpy
  rintro ρ₂ H₂ ⟨s1, s2, s3, s4, l₂, p, hp, hpl₂⟩
  rw [seqK_next]
  (refine peel ?_; simp (decide := true) only [e_int, e_str, e_bool, k_name, e_bin, e_un, e_bo, k_cmp, k_list, k_tup, e_dict, k_attr, e_from, e_upto, e_item, k_call, k_meth, k_comp, bo_one, gBool_or, gBool_and, es_nil, es_cons, if_nil, if_one, t_not, t_bo, k_tcmp, t_name, t_sub, t_call, al_nil, gAll_or, gAll_and, k_aname, a_attr, a_item, a_tup, an_nil, k_ancons, s_expr, s_ret0, s_ret, k_asg, s_asg_, s_if, k_for, s_while, whK_next, whK_ret, seqK_next, seqK_ret, gSs_nil, tk_sub, tk_attr, tk_call, tk_item, tk_tup, kdL_cons, lk_cons, lk_nil, beq_ff, ex_some, true_and, and_true, if_true, if_false, not_false_eq_true, lset, compLoc, gCmp_eq, gCmp_ne, gCmp_in, gCmp_nin, gCmp_lt, gCmp_gt, gCmp_ge, gUn_neg, gUn_not, gBin_add, gBin_sub, gEq_int, gEq_bool, gEq_str, retOf, s4])
  refine phi_t1 (by decide) (walker_g (k := k + 2) hp fun a H₃ hu R₃ l₃ own₃ => ?_)
  have ownN : ∀ b o, H₂ b = some o → b ∉ a.own := fun b o e hm => by rw [own₃ b hm] at e; cases e
  have hnm₂ : H₂ nm = some (.list (names.map .str)) := l₂ _ _ (l₁ _ _ I₀.nm)
  have TN : TI (adjOf names ukeys uf) names .nil [] := by
    refine ⟨List.nodup_nil, nofun, nofun, nofun, nofun, List.Pairwise.nil, nofun, nofun, List.Pairwise.nil, nofun, nofun, nofun, nofun, nofun, nofun, nofun, nofun, ?_, List.nodup_nil, nofun, nofun, List.Pairwise.nil⟩
    intro x; simp [WS.nil]
  (refine peel ?_; simp (decide := true) only [e_int, e_str, e_bool, k_name, e_bin, e_un, e_bo, k_cmp, k_list, k_tup, e_dict, k_attr, e_from, e_upto, e_item, k_call, k_meth, k_comp, bo_one, gBool_or, gBool_and, es_nil, es_cons, if_nil, if_one, t_not, t_bo, k_tcmp, t_name, t_sub, t_call, al_nil, gAll_or, gAll_and, k_aname, a_attr, a_item, a_tup, an_nil, k_ancons, s_expr, s_ret0, s_ret, k_asg, s_asg_, s_if, k_for, s_while, whK_next, whK_ret, seqK_next, seqK_ret, gSs_nil, tk_sub, tk_attr, tk_call, tk_item, tk_tup, kdL_cons, lk_cons, lk_nil, beq_ff, ex_some, true_and, and_true, if_true, if_false, not_false_eq_true, lset, compLoc, gCmp_eq, gCmp_ne, gCmp_in, gCmp_nin, gCmp_lt, gCmp_gt, gCmp_ge, gUn_neg, gUn_not, gBin_add, gBin_sub, gEq_int, gEq_bool, gEq_str, retOf, s1])
  refine for_g (fun done ρ H => ρ "names" = some (.ref nm) ∧ ρ "uses" = some (.ref us) ∧ ρ "places" = some (.ref pl) ∧ ρ "walker" = some (.ref a.w) ∧ (∀ b o, H₃ b = some o → b ∉ a.own → H b = some o) ∧ ∃ σ fs, WR a σ fs H ∧ TI (adjOf names ukeys uf) names σ [] ∧ ∀ y ∈ done, y ∈ σ.V)
    (l₃ _ _ hnm₂) (by first | assumption | exact nb50 (by assumption) | exact nb50s (by assumption) | exact nb50t (by assumption) (by assumption) | omega) (fun done ρ H i => i.2.2.2.2.1 _ _ (l₃ _ _ hnm₂) (ownN _ _ hnm₂)) (by decide)
    ⟨?_, ?_, ?_, by rfl, fun b o e _ => e, .nil, [], R₃, TN, nofun⟩ ?_ ?_
  · first | exact lset1 (by decide) s1 | exact lset2 (by decide) (by decide) s1 | exact lset3 (by decide) (by decide) (by decide) s1 | (simp (decide := true) only [lset, if_false]; exact s1)
  · first | exact lset1 (by decide) s2 | exact lset2 (by decide) (by decide) s2 | exact lset3 (by decide) (by decide) (by decide) s2 | (simp (decide := true) only [lset, if_false]; exact s2)
  · first | exact lset1 (by decide) s3 | exact lset2 (by decide) (by decide) s3 | exact lset3 (by decide) (by decide) (by decide) s3 | (simp (decide := true) only [lset, if_false]; exact s3)
  · rintro done v rest ρ H K e ⟨t1, t2, t3, t4, keep, σ, fs, R, T, hd⟩ kk
    (refine peel ?_; simp (decide := true) only [e_int, e_str, e_bool, k_name, e_bin, e_un, e_bo, k_cmp, k_list, k_tup, e_dict, k_attr, e_from, e_upto, e_item, k_call, k_meth, k_comp, bo_one, gBool_or, gBool_and, es_nil, es_cons, if_nil, if_one, t_not, t_bo, k_tcmp, t_name, t_sub, t_call, al_nil, gAll_or, gAll_and, k_aname, a_attr, a_item, a_tup, an_nil, k_ancons, s_expr, s_ret0, s_ret, k_asg, s_asg_, s_if, k_for, s_while, whK_next, whK_ret, seqK_next, seqK_ret, gSs_nil, tk_sub, tk_attr, tk_call, tk_item, tk_tup, kdL_cons, lk_cons, lk_nil, beq_ff, ex_some, true_and, and_true, if_true, if_false, not_false_eq_true, lset, compLoc, gCmp_eq, gCmp_ne, gCmp_in, gCmp_nin, gCmp_lt, gCmp_gt, gCmp_ge, gUn_neg, gUn_not, gBin_add, gBin_sub, gEq_int, gEq_bool, gEq_str, retOf, t1, t2, t3, t4])
    have hvn : v ∈ names := by rw [e]; simp
    refine R.raw.ga_nu (in_dict R.raw.nu ?_)
    have ρ1 : lset ρ "name" (.str v) "names" = some (.ref nm) := by first | exact lset1 (by decide) t1 | exact lset2 (by decide) (by decide) t1 | exact lset3 (by decide) (by decide) (by decide) t1 | (simp (decide := true) only [lset, if_false]; exact t1)
    have ρ2 : lset ρ "name" (.str v) "uses" = some (.ref us) := by first | exact lset1 (by decide) t2 | exact lset2 (by decide) (by decide) t2 | exact lset3 (by decide) (by decide) (by decide) t2 | (simp (decide := true) only [lset, if_false]; exact t2)
    have ρ3 : lset ρ "name" (.str v) "places" = some (.ref pl) := by first | exact lset1 (by decide) t3 | exact lset2 (by decide) (by decide) t3 | exact lset3 (by decide) (by decide) (by decide) t3 | (simp (decide := true) only [lset, if_false]; exact t3)
    have ρ4 : lset ρ "name" (.str v) "walker" = some (.ref a.w) := by first | exact lset1 (by decide) t4 | exact lset2 (by decide) (by decide) t4 | exact lset3 (by decide) (by decide) (by decide) t4 | (simp (decide := true) only [lset, if_false]; exact t4)
    by_cases hv : v ∈ σ.V
    · simp only [hv, decide_true, Bool.not_true, Bool.false_eq_true, if_false]
      refine kk _ _ ⟨ρ1, ρ2, ρ3, ρ4, keep, σ, fs, R, T, fun y hy => ?_⟩
      rcases List.mem_append.mp hy with h | h
      · exact hd y h
      · simp at h; rw [h]; exact hv
    · simp only [hv, decide_false, Bool.not_false, if_true]
      (refine peel ?_; simp (decide := true) only [e_int, e_str, e_bool, k_name, e_bin, e_un, e_bo, k_cmp, k_list, k_tup, e_dict, k_attr, e_from, e_upto, e_item, k_call, k_meth, k_comp, bo_one, gBool_or, gBool_and, es_nil, es_cons, if_nil, if_one, t_not, t_bo, k_tcmp, t_name, t_sub, t_call, al_nil, gAll_or, gAll_and, k_aname, a_attr, a_item, a_tup, an_nil, k_ancons, s_expr, s_ret0, s_ret, k_asg, s_asg_, s_if, k_for, s_while, whK_next, whK_ret, seqK_next, seqK_ret, gSs_nil, tk_sub, tk_attr, tk_call, tk_item, tk_tup, kdL_cons, lk_cons, lk_nil, beq_ff, ex_some, true_and, and_true, if_true, if_false, not_false_eq_true, lset, compLoc, gCmp_eq, gCmp_ne, gCmp_in, gCmp_nin, gCmp_lt, gCmp_gt, gCmp_ge, gUn_neg, gUn_not, gBin_add, gBin_sub, gEq_int, gEq_bool, gEq_str, retOf, t4])
      refine me_inst R.raw.w R.raw.dx (by decide) (by rfl) (phi_m (walk_g (k := k) (p := p) R ⟨?_, ?_, ?_, ?_⟩ ?_ T hvn hv (by first | assumption | exact nb50 (by assumption) | exact nb50s (by assumption) | exact nb50t (by assumption) (by assumption) | omega) fun H' σ' fs' R' T' mono hvV keep' => ?_))
      · rw [hu]; exact keep _ _ (l₃ _ _ hp) (ownN _ _ hp)
      · exact fun y hy => keep _ _ (l₃ _ _ (hpl₂ y hy)) (ownN _ _ (hpl₂ y hy))
      · intro y hy
        exact Nat.le_trans (List.length_filter_le _ _) (I₀.ulen y)
      · intro y hy z hz
        have := (List.mem_filter.mp hz).2
        exact of_decide_eq_true this
      · exact fun y hy => ownN _ _ (hpl₂ y hy)
      · refine kk _ _ ⟨ρ1, ρ2, ρ3, ρ4, fun b o e' hn => keep' b o (keep b o e' hn) hn, σ', fs', R', T', fun y hy => ?_⟩
        rcases List.mem_append.mp hy with h | h
        · exact mono y (hd y h)
        · simp at h; rw [h]; exact hvV
  rintro ρ₃ H₄ ⟨t1, t2, t3, t4, keep, σ, fs, R, T, hd⟩
  rw [seqK_next]
  (refine peel ?_; simp (decide := true) only [e_int, e_str, e_bool, k_name, e_bin, e_un, e_bo, k_cmp, k_list, k_tup, e_dict, k_attr, e_from, e_upto, e_item, k_call, k_meth, k_comp, bo_one, gBool_or, gBool_and, es_nil, es_cons, if_nil, if_one, t_not, t_bo, k_tcmp, t_name, t_sub, t_call, al_nil, gAll_or, gAll_and, k_aname, a_attr, a_item, a_tup, an_nil, k_ancons, s_expr, s_ret0, s_ret, k_asg, s_asg_, s_if, k_for, s_while, whK_next, whK_ret, seqK_next, seqK_ret, gSs_nil, tk_sub, tk_attr, tk_call, tk_item, tk_tup, kdL_cons, lk_cons, lk_nil, beq_ff, ex_some, true_and, and_true, if_true, if_false, not_false_eq_true, lset, compLoc, gCmp_eq, gCmp_ne, gCmp_in, gCmp_nin, gCmp_lt, gCmp_gt, gCmp_ge, gUn_neg, gUn_not, gBin_add, gBin_sub, gEq_int, gEq_bool, gEq_str, retOf])
  intro r hr
  have hr₃ : H₃ r = none := by
    cases e : H₃ r with
    | none => rfl
    | some o =>
      have hro : r ∉ a.own := fun hm => by
        obtain ⟨o', e'⟩ := R.raw.somes r (WA.own_all hm)
        rw [e'] at hr; cases hr
      rw [keep r o e hro] at hr; cases hr
  have Lr : Le H₄ (hset H₄ r (.list [])) := Le.new _ hr
  have keep₂ : ∀ b o, H₂ b = some o → H₄ b = some o := fun b o e => keep b o (l₃ _ _ e) (ownN b o e)
  have Rr := R.raw.frame (H' := hset H₄ r (.list [])) fun b hb' => hset_ne _ _ (by rintro rfl; obtain ⟨o, e⟩ := R.raw.somes _ hb'; rw [e] at hr; cases hr)
  (refine peel ?_; simp (decide := true) only [e_int, e_str, e_bool, k_name, e_bin, e_un, e_bo, k_cmp, k_list, k_tup, e_dict, k_attr, e_from, e_upto, e_item, k_call, k_meth, k_comp, bo_one, gBool_or, gBool_and, es_nil, es_cons, if_nil, if_one, t_not, t_bo, k_tcmp, t_name, t_sub, t_call, al_nil, gAll_or, gAll_and, k_aname, a_attr, a_item, a_tup, an_nil, k_ancons, s_expr, s_ret0, s_ret, k_asg, s_asg_, s_if, k_for, s_while, whK_next, whK_ret, seqK_next, seqK_ret, gSs_nil, tk_sub, tk_attr, tk_call, tk_item, tk_tup, kdL_cons, lk_cons, lk_nil, beq_ff, ex_some, true_and, and_true, if_true, if_false, not_false_eq_true, lset, compLoc, gCmp_eq, gCmp_ne, gCmp_in, gCmp_nin, gCmp_lt, gCmp_gt, gCmp_ge, gUn_neg, gUn_not, gBin_add, gBin_sub, gEq_int, gEq_bool, gEq_str, retOf, t4])
  refine Rr.ga_fo ?_
  have hfo : H₄ a.fo = some (.list (fs.map .ref)) := R.raw.fo
  have hflen : fs.length ≤ 50 := by have := T.flen; have := R.ll.length; omega
  refine for_g (c := GV.ref) (fun done ρ H => ρ "names" = some (.ref nm) ∧ ρ "places" = some (.ref pl) ∧ ρ "found" = some (.ref r) ∧ Le H₄ H ∧ ∃ rs : List Addr, H r = some (.list (rs.map .ref)) ∧ rs.length = done.length ∧ (∀ b ∈ rs, b ≠ r) ∧ LL H rs ((σ.F.take done.length).map fun g => names.filter fun n => decide (n ∈ g)))
    (Lr _ _ hfo) (by first | assumption | exact nb50 (by assumption) | exact nb50s (by assumption) | exact nb50t (by assumption) (by assumption) | omega) (fun done ρ H i => i.2.2.2.1 _ _ hfo) (by decide)
    ⟨?_, ?_, by rfl, Lr, [], hset_self _ _ _, rfl, nofun, trivial⟩ ?_ ?_
  · first | exact lset1 (by decide) t1 | exact lset2 (by decide) (by decide) t1 | exact lset3 (by decide) (by decide) (by decide) t1 | (simp (decide := true) only [lset, if_false]; exact t1)
  · first | exact lset1 (by decide) t3 | exact lset2 (by decide) (by decide) t3 | exact lset3 (by decide) (by decide) (by decide) t3 | (simp (decide := true) only [lset, if_false]; exact t3)
  · rintro done v rest ρ H K e ⟨u1, u2, u3, l, rs, hrs, hlen, hrr, hll⟩ kk
    (refine peel ?_; simp (decide := true) only [e_int, e_str, e_bool, k_name, e_bin, e_un, e_bo, k_cmp, k_list, k_tup, e_dict, k_attr, e_from, e_upto, e_item, k_call, k_meth, k_comp, bo_one, gBool_or, gBool_and, es_nil, es_cons, if_nil, if_one, t_not, t_bo, k_tcmp, t_name, t_sub, t_call, al_nil, gAll_or, gAll_and, k_aname, a_attr, a_item, a_tup, an_nil, k_ancons, s_expr, s_ret0, s_ret, k_asg, s_asg_, s_if, k_for, s_while, whK_next, whK_ret, seqK_next, seqK_ret, gSs_nil, tk_sub, tk_attr, tk_call, tk_item, tk_tup, kdL_cons, lk_cons, lk_nil, beq_ff, ex_some, true_and, and_true, if_true, if_false, not_false_eq_true, lset, compLoc, gCmp_eq, gCmp_ne, gCmp_in, gCmp_nin, gCmp_lt, gCmp_gt, gCmp_ge, gUn_neg, gUn_not, gBin_add, gBin_sub, gEq_int, gEq_bool, gEq_str, retOf, u1, u2, u3])
    have hdl : done.length < 50 := by have := congrArg List.length e; simp at this; omega
    obtain ⟨g, hg, hv⟩ := LL_get R.ll e
    have hgF : g ∈ σ.F := List.mem_of_getElem? hg
    have hgn : ∀ x ∈ g, x ∈ names := fun x hx => T.vn x ((T.fmem x).mp (List.mem_flatten.mpr ⟨g, hgF, hx⟩)).1
    have hgnd : g.Nodup := by
      have hs : ∀ F : List (List Str), g ∈ F → F.flatten.Nodup → g.Nodup := by
        intro F
        induction F with
        | nil => intro h; cases h
        | cons g' F ih =>
          intro h nd
          rw [List.flatten_cons, List.nodup_append] at nd
          rcases List.mem_cons.mp h with rfl | h
          · exact nd.1
          · exact ih h nd.2.1
      exact hs _ hgF T.fnd
    have hgl : g.length ≤ 50 := Nat.le_trans (nodup_len hgnd hgn) hnl
    have hv' := l _ _ hv
    have hpl' : H pl = some (.dict (dm names fun y => .int (names.idxOf y : Int))) := l _ _ (keep₂ _ _ (l₂ _ _ hp₁))
    refine map_g (c := GV.str) (Le H) (fun y => .int (names.idxOf y : Int)) (by first | assumption | exact nb50 (by assumption) | exact nb50s (by assumption) | exact nb50t (by assumption) (by assumption) | omega) (Le.refl _) (fun X lX => lX _ _ hv') (fun z hz X K lX kX => kX _ lX) (fun z hz X K lX kX => gi_dict (lX _ _ hpl') (hgn z hz) (kX _ lX)) fun H' l' => ?_
    intro b₁ hb₁
    have lb₁ : Le H (hset H' b₁ (.list (g.map fun y => GV.int (names.idxOf y : Int)))) := l'.trans (Le.new _ hb₁)
    refine sorted_g (is := g.map fun y => (names.idxOf y : Int)) (by rw [hset_self, List.map_map]; rfl) (by first | assumption | exact nbm (by assumption) | exact nbl (by assumption) | exact nbm1 (by assumption) | (simp; omega)) fun js hperm hsort => ?_
    have hjs := sort_names I₀.nd hgnd hgn hperm hsort
    have hfl : (names.filter fun n => decide (n ∈ g)).length ≤ 50 := Nat.le_trans (List.length_filter_le _ _) hnl
    intro b₂ hb₂
    (refine peel ?_; simp (decide := true) only [e_int, e_str, e_bool, k_name, e_bin, e_un, e_bo, k_cmp, k_list, k_tup, e_dict, k_attr, e_from, e_upto, e_item, k_call, k_meth, k_comp, bo_one, gBool_or, gBool_and, es_nil, es_cons, if_nil, if_one, t_not, t_bo, k_tcmp, t_name, t_sub, t_call, al_nil, gAll_or, gAll_and, k_aname, a_attr, a_item, a_tup, an_nil, k_ancons, s_expr, s_ret0, s_ret, k_asg, s_asg_, s_if, k_for, s_while, whK_next, whK_ret, seqK_next, seqK_ret, gSs_nil, tk_sub, tk_attr, tk_call, tk_item, tk_tup, kdL_cons, lk_cons, lk_nil, beq_ff, ex_some, true_and, and_true, if_true, if_false, not_false_eq_true, lset, compLoc, gCmp_eq, gCmp_ne, gCmp_in, gCmp_nin, gCmp_lt, gCmp_gt, gCmp_ge, gUn_neg, gUn_not, gBin_add, gBin_sub, gEq_int, gEq_bool, gEq_str, retOf, u1, u3])
    have lb₂ := lb₁.trans (Le.new (.list (js.map .int)) hb₂)
    refine me_append (lb₂ _ _ hrs) ?_
    refine map_g (c := GV.int) (Le (hset (hset H' b₁ (.list (g.map fun y => GV.int (names.idxOf y : Int)))) b₂ (.list (js.map .int)))) (fun j => .str (names.getD j.toNat "")) (by rw [hjs]; simp; omega) (Le.refl _) (fun X lX => lX _ _ (hset_self _ _ _)) (fun z hz X K lX kX => kX _ lX) (fun z hz X K lX kX => ?_) fun H'' l'' => ?_
    · rw [hjs] at hz
      obtain ⟨y, hy, rfl⟩ := List.mem_map.mp hz
      have hyn := (List.mem_filter.mp hy).1
      have hnm : X nm = some (.list (names.map .str)) := lX _ _ (lb₂ _ _ (l _ _ (keep₂ _ _ hnm₂)))
      refine gi_list (v := .str (names.getD (names.idxOf y : Int).toNat "")) hnm (by first | assumption | exact nbm (by assumption) | exact nbl (by assumption) | exact nbm1 (by assumption) | (simp; omega)) (by first | assumption | exact nb50 (by assumption) | exact nb50s (by assumption) | exact nb50t (by assumption) (by assumption) | omega) ?_ (kX _ lX)
      have h1 := idx_back hyn
      rw [List.getElem?_map, Int.toNat_natCast, h1]
      simp [List.getD_eq_getElem?_getD, h1]
    · have eL : js.map (fun j => GV.str (names.getD j.toNat "")) = (names.filter fun n => decide (n ∈ g)).map .str := by
        rw [hjs, List.map_map]
        refine List.map_congr_left fun y hy => ?_
        have h1 := idx_back (List.mem_filter.mp hy).1
        simp [List.getD_eq_getElem?_getD, h1]
      rw [eL]
      intro b₃ hb₃
      have lb₃ := (lb₂.trans l'').trans (Le.new (.list ((names.filter fun n => decide (n ∈ g)).map .str)) hb₃)
      refine m_append (lb₃ _ _ hrs) (by first | assumption | exact nbm (by assumption) | exact nbl (by assumption) | exact nbm1 (by assumption) | (simp; omega)) (kk _ _ ?_)
      have hb₃r : b₃ ≠ r := by rintro rfl; rw [(lb₂.trans l'') _ _ hrs] at hb₃; cases hb₃
      refine ⟨?_, ?_, ?_, Le.set _ hr (l.trans lb₃), rs ++ [b₃], ?_, by simp [hlen], fun b hb' => (List.mem_append.mp hb').elim (hrr b) fun h => by simp at h; rw [h]; exact hb₃r, ?_⟩
      · first | exact lset1 (by decide) u1 | exact lset2 (by decide) (by decide) u1 | exact lset3 (by decide) (by decide) (by decide) u1 | (simp (decide := true) only [lset, if_false]; exact u1)
      · first | exact lset1 (by decide) u2 | exact lset2 (by decide) (by decide) u2 | exact lset3 (by decide) (by decide) (by decide) u2 | (simp (decide := true) only [lset, if_false]; exact u2)
      · first | exact lset1 (by decide) u3 | exact lset2 (by decide) (by decide) u3 | exact lset3 (by decide) (by decide) (by decide) u3 | (simp (decide := true) only [lset, if_false]; exact u3)
      · rw [hset_self]; simp
      · have e1 : (σ.F.take (done ++ [v]).length) = σ.F.take done.length ++ [g] := by
          rw [List.length_append, List.length_singleton, List.take_add_one, hg]; rfl
        rw [e1, List.map_append]
        refine LL.snoc (hll.frame fun b hb' => ?_) ?_
        · obtain ⟨o, e⟩ := hll.some b hb'
          have hbr : b ≠ r := hrr b hb'
          rw [hset_ne _ _ hbr, e]
          exact lb₃ _ _ e
        · rw [hset_ne _ _ hb₃r, hset_self]
  rintro ρ₄ H₅ ⟨u1, u2, u3, l, rs, hrs, hlen, hrr, hll⟩
  rw [seqK_next]
  (refine peel ?_; simp (decide := true) only [e_int, e_str, e_bool, k_name, e_bin, e_un, e_bo, k_cmp, k_list, k_tup, e_dict, k_attr, e_from, e_upto, e_item, k_call, k_meth, k_comp, bo_one, gBool_or, gBool_and, es_nil, es_cons, if_nil, if_one, t_not, t_bo, k_tcmp, t_name, t_sub, t_call, al_nil, gAll_or, gAll_and, k_aname, a_attr, a_item, a_tup, an_nil, k_ancons, s_expr, s_ret0, s_ret, k_asg, s_asg_, s_if, k_for, s_while, whK_next, whK_ret, seqK_next, seqK_ret, gSs_nil, tk_sub, tk_attr, tk_call, tk_item, tk_tup, kdL_cons, lk_cons, lk_nil, beq_ff, ex_some, true_and, and_true, if_true, if_false, not_false_eq_true, lset, compLoc, gCmp_eq, gCmp_ne, gCmp_in, gCmp_nin, gCmp_lt, gCmp_gt, gCmp_ge, gUn_neg, gUn_not, gBin_add, gBin_sub, gEq_int, gEq_bool, gEq_str, retOf, u3])
  refine q H₅ r rs σ (l₁.trans (l₂.trans (Le.trans keep₂ l))) hrs ?_ T hd
  rw [List.take_of_length_le (by rw [R.ll.length]; exact Nat.le_refl _)] at hll
  exact hll

-- P7
noncomputable def poolB : { x : Fn // x = fnT "_law_pool" } := by
  refine ⟨?x, Eq.symm ?h⟩
  case' h => conv => lhs; whnf
noncomputable def takeB : { x : Fn // x = fnT "_law_take" } := by
  refine ⟨?x, Eq.symm ?h⟩
  case' h => conv => lhs; whnf
noncomputable def oneB : { x : Fn // x = fnT "_law_one" } := by
  refine ⟨?x, Eq.symm ?h⟩
  case' h => conv => lhs; whnf

section
variable {Φ : Spec} {a b : Int} {H : GH} {Q : GV → GH → Prop}
theorem int_i : gCall Φ "int" [.int a] H Q = Q (.int a) H := by
  unfold gCall
  rw [if_neg (by decide), if_neg (by decide), if_neg (by decide), if_pos rfl]
theorem int_b {c : Bool} : gCall Φ "int" [.bool c] H Q = Q (.int (if c then 1 else 0)) H := by
  unfold gCall
  rw [if_neg (by decide), if_neg (by decide), if_neg (by decide), if_pos rfl]
theorem max_g : gCall Φ "max" [.int a, .int b] H Q = Q (.int (if b > a then b else a)) H := by
  unfold gCall
  rw [if_neg (by decide), if_neg (by decide), if_pos rfl]
theorem b_mul (h : (-(2 ^ 62) ≤ a ∧ a ≤ 2 ^ 62) ∨ (-(2 ^ 62) ≤ b ∧ b ≤ 2 ^ 62)) (q : Q (.int (a * b)) H) : gBin .Mult (.int a) (.int b) H Q := ⟨h, q⟩
theorem b_mod (h0 : 0 < b) (h1 : b < 2 ^ 62) (ha : 0 ≤ a) (q : Q (.int (a % b)) H) : gBin .Mod (.int a) (.int b) H Q := ⟨h0, h1, ha, q⟩
theorem b_div (h0 : 0 < b) (h1 : b < 2 ^ 30) (ha : 0 ≤ a) (q : Q (.int (a / b)) H) : gBin .FloorDiv (.int a) (.int b) H Q := ⟨h0, h1, ha, q⟩
theorem b_pow (q : Q (.int (10 ^ 18)) H) : gBin .Pow (.int 10) (.int 18) H Q := ⟨rfl, rfl, q⟩
end

-- a source of draws
noncomputable def Src (H : GH) (s : Addr) : Prop := ∃ p q : Int, 0 ≤ p ∧ 0 ≤ q ∧ q < 2147483647 ∧ H s = some (.list [.int p, .int q])
theorem Src.le {H H' : GH} {s : Addr} (h : Src H s) (e : H' s = H s) : Src H' s := by
  obtain ⟨p, q, h1, h2, h3, h4⟩ := h
  exact ⟨p, q, h1, h2, h3, e.trans h4⟩

-- the pool, its cell known
theorem pool_tail {k : Nat} {kd : Kd} {r1 r2 r3 : Stmt} {c i : Int} {ρ : Loc} {H : GH} {Q : GV → GH → Prop} (hr : [r1, r2, r3] = poolB.1.body.drop 2) (hkd : kd = kdL poolB.1.sc) (h1 : ρ "cell" = some (.int c)) (h2 : ρ "k" = some (.int i)) (hi : 0 ≤ i) (hi2 : i ≤ 1) (q : ∀ H' a, Le H H' → H a = none → Src H' a → Q (.ref a) H') :
    gSs (PhiS k) kd [r1, r2, r3] ρ H fun f _ H' => Q (retOf f) H' := by
  subst hkd
  rw [hr]
  unfold poolB
  simp only [List.drop_succ_cons, List.drop_zero]
  (refine peel ?_; simp (decide := true) only [e_int, e_str, e_bool, k_name, e_bin, e_un, e_bo, k_cmp, k_list, k_tup, e_dict, k_attr, e_from, e_upto, e_item, k_call, k_meth, k_comp, bo_one, gBool_or, gBool_and, es_nil, es_cons, if_nil, if_one, t_not, t_bo, k_tcmp, t_name, t_sub, t_call, al_nil, gAll_or, gAll_and, k_aname, a_attr, a_item, a_tup, an_nil, k_ancons, s_expr, s_ret0, s_ret, k_asg, s_asg_, s_if, k_for, s_while, whK_next, whK_ret, seqK_next, seqK_ret, gSs_nil, tk_sub, tk_attr, tk_call, tk_item, tk_tup, kdL_cons, lk_cons, lk_nil, beq_ff, ex_some, true_and, and_true, if_true, if_false, not_false_eq_true, lset, compLoc, gCmp_eq, gCmp_ne, gCmp_in, gCmp_nin, gCmp_lt, gCmp_gt, gCmp_ge, gUn_neg, gUn_not, gBin_add, gBin_sub, gEq_int, gEq_bool, gEq_str, retOf])
  simp only [h1, ex_some, int_i, gBin_sub, max_g]
  generalize hbig : (if -1 - c > c then -1 - c else c) = big
  have hb : 0 ≤ big := by rw [← hbig]; split <;> omega
  have hm : 0 ≤ big % 2147483629 := Int.emod_nonneg _ (by decide)
  have hi' : i = 0 ∨ i = 1 := by omega
  (refine peel ?_; simp (decide := true) only [e_int, e_str, e_bool, k_name, e_bin, e_un, e_bo, k_cmp, k_list, k_tup, e_dict, k_attr, e_from, e_upto, e_item, k_call, k_meth, k_comp, bo_one, gBool_or, gBool_and, es_nil, es_cons, if_nil, if_one, t_not, t_bo, k_tcmp, t_name, t_sub, t_call, al_nil, gAll_or, gAll_and, k_aname, a_attr, a_item, a_tup, an_nil, k_ancons, s_expr, s_ret0, s_ret, k_asg, s_asg_, s_if, k_for, s_while, whK_next, whK_ret, seqK_next, seqK_ret, gSs_nil, tk_sub, tk_attr, tk_call, tk_item, tk_tup, kdL_cons, lk_cons, lk_nil, beq_ff, ex_some, true_and, and_true, if_true, if_false, not_false_eq_true, lset, compLoc, gCmp_eq, gCmp_ne, gCmp_in, gCmp_nin, gCmp_lt, gCmp_gt, gCmp_ge, gUn_neg, gUn_not, gBin_add, gBin_sub, gEq_int, gEq_bool, gEq_str, retOf])
  simp only [h2, ex_some, int_i]
  refine b_mod (by decide) (by decide) hb (b_mul (.inl (by decide)) (b_mul (.inr (by first | assumption | exact nb50 (by assumption) | exact nb50s (by assumption) | exact nb50t (by assumption) (by assumption) | omega)) ?_))
  try rw [gBin_add]
  refine b_mul (.inl (by decide)) ?_
  rw [gBin_add, gBin_add]
  refine b_mul (.inr (by decide)) ?_
  rw [int_i]
  have h3 : 0 ≤ (big % 2147483629 + 7919 * i * i + 31 * i + 17) * 48271 := by
    rcases hi' with rfl | rfl <;> omega
  refine b_mod (by decide) (by decide) h3 ?_
  generalize hmx : (big % 2147483629 + 7919 * i * i + 31 * i + 17) * 48271 % 2147483647 = mx
  have m0 : 0 ≤ mx := by rw [← hmx]; exact Int.emod_nonneg _ (by decide)
  have m1 : mx < 2147483647 := by rw [← hmx]; exact Int.emod_lt_of_pos _ (by decide)
  (refine peel ?_; simp (decide := true) only [e_int, e_str, e_bool, k_name, e_bin, e_un, e_bo, k_cmp, k_list, k_tup, e_dict, k_attr, e_from, e_upto, e_item, k_call, k_meth, k_comp, bo_one, gBool_or, gBool_and, es_nil, es_cons, if_nil, if_one, t_not, t_bo, k_tcmp, t_name, t_sub, t_call, al_nil, gAll_or, gAll_and, k_aname, a_attr, a_item, a_tup, an_nil, k_ancons, s_expr, s_ret0, s_ret, k_asg, s_asg_, s_if, k_for, s_while, whK_next, whK_ret, seqK_next, seqK_ret, gSs_nil, tk_sub, tk_attr, tk_call, tk_item, tk_tup, kdL_cons, lk_cons, lk_nil, beq_ff, ex_some, true_and, and_true, if_true, if_false, not_false_eq_true, lset, compLoc, gCmp_eq, gCmp_ne, gCmp_in, gCmp_nin, gCmp_lt, gCmp_gt, gCmp_ge, gUn_neg, gUn_not, gBin_add, gBin_sub, gEq_int, gEq_bool, gEq_str, retOf])
  refine b_pow ?_
  rw [gCmp_ge, int_b]
  refine b_mul (.inr (by split <;> decide)) ⟨(by decide : (2 : Nat) ≤ bnd), fun a ha => ?_⟩
  refine q _ a (Le.new _ ha) ha ⟨_, _, ?_, m0, m1, hset_self _ _ _⟩
  split
  · omega
  · omega

theorem pool_g {k : Nat} {sc : Addr} {i : Int} {ns : List Int} {H : GH} {Q : GV → GH → Prop} (h : H sc = some (.flist (ns.map .int))) (hn : ns.length ≤ 63) (hi : 0 ≤ i) (hi2 : i ≤ 1)
    (q : ∀ H' a, Le H H' → H a = none → Src H' a → Q (.ref a) H') : gFn (PhiS k) (fnT "_law_pool") [.ref sc, .int i] H Q := by
  refine start poolB rfl fun ρ hρ => ?_
  have r1 : ρ "script" = some (.ref sc) := hρ _
  have r2 : ρ "k" = some (.int i) := hρ _
  clear hρ
  have e2 : lset ρ "cell" (.int 0) "k" = some (.int i) := by first | exact lset1 (by decide) r2 | exact lset2 (by decide) (by decide) r2 | exact lset3 (by decide) (by decide) (by decide) r2 | (simp (decide := true) only [lset, if_false]; exact r2)
  have e1 : lset ρ "cell" (.int 0) "script" = some (.ref sc) := by first | exact lset1 (by decide) r1 | exact lset2 (by decide) (by decide) r1 | exact lset3 (by decide) (by decide) (by decide) r1 | (simp (decide := true) only [lset, if_false]; exact r1)
  have e0 : lset ρ "cell" (.int 0) "cell" = some (.int 0) := by simp only [lset, if_true]
  unfold poolB
  (refine peel ?_; simp (decide := true) only [e_int, e_str, e_bool, k_name, e_bin, e_un, e_bo, k_cmp, k_list, k_tup, e_dict, k_attr, e_from, e_upto, e_item, k_call, k_meth, k_comp, bo_one, gBool_or, gBool_and, es_nil, es_cons, if_nil, if_one, t_not, t_bo, k_tcmp, t_name, t_sub, t_call, al_nil, gAll_or, gAll_and, k_aname, a_attr, a_item, a_tup, an_nil, k_ancons, s_expr, s_ret0, s_ret, k_asg, s_asg_, s_if, k_for, s_while, whK_next, whK_ret, seqK_next, seqK_ret, gSs_nil, tk_sub, tk_attr, tk_call, tk_item, tk_tup, kdL_cons, lk_cons, lk_nil, beq_ff, ex_some, true_and, and_true, if_true, if_false, not_false_eq_true, lset, compLoc, gCmp_eq, gCmp_ne, gCmp_in, gCmp_nin, gCmp_lt, gCmp_gt, gCmp_ge, gUn_neg, gUn_not, gBin_add, gBin_sub, gEq_int, gEq_bool, gEq_str, retOf])
  generalize lset ρ "cell" (.int 0) = ρ' at e0 e1 e2 ⊢
  have hb : (1000 : Nat) < bnd := by decide
  have hlen : ∀ Q : GV → GH → Prop, Q (.int ns.length) H → gCall (PhiS k) "len" [.ref sc] H Q := fun Q hq => by
    unfold gCall
    rw [if_pos rfl]
    exact .inl ⟨_, .inr h, by simp; omega, by simpa using hq⟩
  (refine peel ?_; simp (decide := true) only [e_int, e_str, e_bool, k_name, e_bin, e_un, e_bo, k_cmp, k_list, k_tup, e_dict, k_attr, e_from, e_upto, e_item, k_call, k_meth, k_comp, bo_one, gBool_or, gBool_and, es_nil, es_cons, if_nil, if_one, t_not, t_bo, k_tcmp, t_name, t_sub, t_call, al_nil, gAll_or, gAll_and, k_aname, a_attr, a_item, a_tup, an_nil, k_ancons, s_expr, s_ret0, s_ret, k_asg, s_asg_, s_if, k_for, s_while, whK_next, whK_ret, seqK_next, seqK_ret, gSs_nil, tk_sub, tk_attr, tk_call, tk_item, tk_tup, kdL_cons, lk_cons, lk_nil, beq_ff, ex_some, true_and, and_true, if_true, if_false, not_false_eq_true, lset, compLoc, gCmp_eq, gCmp_ne, gCmp_in, gCmp_nin, gCmp_lt, gCmp_gt, gCmp_ge, gUn_neg, gUn_not, gBin_add, gBin_sub, gEq_int, gEq_bool, gEq_str, retOf, e1, e2])
  refine hlen _ ?_
  try rw [gCmp_lt]
  by_cases hlt : i < (ns.length : Int)
  · simp only [hlt, decide_true, if_true]
    have hx : ns[i.toNat]? = some ns[i.toNat] := List.getElem?_eq_getElem (by first | assumption | exact nb50 (by assumption) | exact nb50s (by assumption) | exact nb50t (by assumption) (by assumption) | omega)
    generalize ns[i.toNat] = c at hx
    (refine peel ?_; simp (decide := true) only [e_int, e_str, e_bool, k_name, e_bin, e_un, e_bo, k_cmp, k_list, k_tup, e_dict, k_attr, e_from, e_upto, e_item, k_call, k_meth, k_comp, bo_one, gBool_or, gBool_and, es_nil, es_cons, if_nil, if_one, t_not, t_bo, k_tcmp, t_name, t_sub, t_call, al_nil, gAll_or, gAll_and, k_aname, a_attr, a_item, a_tup, an_nil, k_ancons, s_expr, s_ret0, s_ret, k_asg, s_asg_, s_if, k_for, s_while, whK_next, whK_ret, seqK_next, seqK_ret, gSs_nil, tk_sub, tk_attr, tk_call, tk_item, tk_tup, kdL_cons, lk_cons, lk_nil, beq_ff, ex_some, true_and, and_true, if_true, if_false, not_false_eq_true, lset, compLoc, gCmp_eq, gCmp_ne, gCmp_in, gCmp_nin, gCmp_lt, gCmp_gt, gCmp_ge, gUn_neg, gUn_not, gBin_add, gBin_sub, gEq_int, gEq_bool, gEq_str, retOf, e1, e2])
    refine ⟨_, i.toNat, .int c, .inr h, by simp; omega, ?_, by simp [hx], ?_⟩
    · unfold gIdx
      rw [if_pos hi, if_pos (by simpa using hlt)]
    · refine pool_tail rfl rfl (c := c) (by simp only [lset, if_true]) (by first | exact lset1 (by decide) e2 | exact lset2 (by decide) (by decide) e2 | exact lset3 (by decide) (by decide) (by decide) e2 | (simp (decide := true) only [lset, if_false]; exact e2)) hi hi2 q
  · simp only [hlt, decide_false, Bool.false_eq_true, if_false]
    exact pool_tail rfl rfl e0 e2 hi hi2 q

theorem take_g {k : Nat} {s : Addr} {top : Int} {H : GH} {Q : GV → GH → Prop} (h : Src H s) (h1 : 1 ≤ top) (h2 : top ≤ 100)
    (q : ∀ r H', 0 ≤ r → r < top → Src H' s → (∀ b, b ≠ s → H' b = H b) → Q (.int r) H') : gFn (PhiS k) (fnT "_law_take") [.ref s, .int top] H Q := by
  obtain ⟨p, m, hp, hm, hm2, hs⟩ := h
  refine start takeB rfl fun ρ hρ => ?_
  have r1 : ρ "source" = some (.ref s) := hρ _
  have r2 : ρ "top" = some (.int top) := hρ _
  clear hρ
  unfold takeB
  (refine peel ?_; simp (decide := true) only [e_int, e_str, e_bool, k_name, e_bin, e_un, e_bo, k_cmp, k_list, k_tup, e_dict, k_attr, e_from, e_upto, e_item, k_call, k_meth, k_comp, bo_one, gBool_or, gBool_and, es_nil, es_cons, if_nil, if_one, t_not, t_bo, k_tcmp, t_name, t_sub, t_call, al_nil, gAll_or, gAll_and, k_aname, a_attr, a_item, a_tup, an_nil, k_ancons, s_expr, s_ret0, s_ret, k_asg, s_asg_, s_if, k_for, s_while, whK_next, whK_ret, seqK_next, seqK_ret, gSs_nil, tk_sub, tk_attr, tk_call, tk_item, tk_tup, kdL_cons, lk_cons, lk_nil, beq_ff, ex_some, true_and, and_true, if_true, if_false, not_false_eq_true, lset, compLoc, gCmp_eq, gCmp_ne, gCmp_in, gCmp_nin, gCmp_lt, gCmp_gt, gCmp_ge, gUn_neg, gUn_not, gBin_add, gBin_sub, gEq_int, gEq_bool, gEq_str, retOf, r1])
  have hb : (2 : Nat) ≤ bnd := by decide
  have t0 : 0 < top := Int.lt_of_lt_of_le (by decide) h1
  have t1 : top < 2 ^ 62 := Int.lt_of_le_of_lt h2 (by decide)
  have t2 : top < 2 ^ 30 := Int.lt_of_le_of_lt h2 (by decide)
  have t3 : top ≠ 0 := Int.ne_of_gt t0
  have t4 : 0 ≤ top := Int.le_of_lt t0
  refine gi_list (v := .int p) hs hb (by decide) (by rfl) ?_
  try rw [gCmp_gt]
  by_cases hgt : p > 0
  · simp only [hgt, decide_true, if_true]
    (refine peel ?_; simp (decide := true) only [e_int, e_str, e_bool, k_name, e_bin, e_un, e_bo, k_cmp, k_list, k_tup, e_dict, k_attr, e_from, e_upto, e_item, k_call, k_meth, k_comp, bo_one, gBool_or, gBool_and, es_nil, es_cons, if_nil, if_one, t_not, t_bo, k_tcmp, t_name, t_sub, t_call, al_nil, gAll_or, gAll_and, k_aname, a_attr, a_item, a_tup, an_nil, k_ancons, s_expr, s_ret0, s_ret, k_asg, s_asg_, s_if, k_for, s_while, whK_next, whK_ret, seqK_next, seqK_ret, gSs_nil, tk_sub, tk_attr, tk_call, tk_item, tk_tup, kdL_cons, lk_cons, lk_nil, beq_ff, ex_some, true_and, and_true, if_true, if_false, not_false_eq_true, lset, compLoc, gCmp_eq, gCmp_ne, gCmp_in, gCmp_nin, gCmp_lt, gCmp_gt, gCmp_ge, gUn_neg, gUn_not, gBin_add, gBin_sub, gEq_int, gEq_bool, gEq_str, retOf, r1, r2])
    refine gi_list (v := .int p) hs hb (by decide) (by rfl) ?_
    rw [int_i]
    refine b_mod t0 t1 hp ?_
    (refine peel ?_; simp (decide := true) only [e_int, e_str, e_bool, k_name, e_bin, e_un, e_bo, k_cmp, k_list, k_tup, e_dict, k_attr, e_from, e_upto, e_item, k_call, k_meth, k_comp, bo_one, gBool_or, gBool_and, es_nil, es_cons, if_nil, if_one, t_not, t_bo, k_tcmp, t_name, t_sub, t_call, al_nil, gAll_or, gAll_and, k_aname, a_attr, a_item, a_tup, an_nil, k_ancons, s_expr, s_ret0, s_ret, k_asg, s_asg_, s_if, k_for, s_while, whK_next, whK_ret, seqK_next, seqK_ret, gSs_nil, tk_sub, tk_attr, tk_call, tk_item, tk_tup, kdL_cons, lk_cons, lk_nil, beq_ff, ex_some, true_and, and_true, if_true, if_false, not_false_eq_true, lset, compLoc, gCmp_eq, gCmp_ne, gCmp_in, gCmp_nin, gCmp_lt, gCmp_gt, gCmp_ge, gUn_neg, gUn_not, gBin_add, gBin_sub, gEq_int, gEq_bool, gEq_str, retOf, r1, r2])
    refine gi_list (v := .int p) hs hb (by decide) (by rfl) (b_div t0 t2 hp ⟨_, hs, hb, (by decide : (0 : Int) ≤ 0), (by decide : (0 : Int) < 2), ?_⟩)
    (refine peel ?_; simp (decide := true) only [e_int, e_str, e_bool, k_name, e_bin, e_un, e_bo, k_cmp, k_list, k_tup, e_dict, k_attr, e_from, e_upto, e_item, k_call, k_meth, k_comp, bo_one, gBool_or, gBool_and, es_nil, es_cons, if_nil, if_one, t_not, t_bo, k_tcmp, t_name, t_sub, t_call, al_nil, gAll_or, gAll_and, k_aname, a_attr, a_item, a_tup, an_nil, k_ancons, s_expr, s_ret0, s_ret, k_asg, s_asg_, s_if, k_for, s_while, whK_next, whK_ret, seqK_next, seqK_ret, gSs_nil, tk_sub, tk_attr, tk_call, tk_item, tk_tup, kdL_cons, lk_cons, lk_nil, beq_ff, ex_some, true_and, and_true, if_true, if_false, not_false_eq_true, lset, compLoc, gCmp_eq, gCmp_ne, gCmp_in, gCmp_nin, gCmp_lt, gCmp_gt, gCmp_ge, gUn_neg, gUn_not, gBin_add, gBin_sub, gEq_int, gEq_bool, gEq_str, retOf])
    exact q _ _ (Int.emod_nonneg _ t3) (Int.emod_lt_of_pos _ t0) ⟨p / top, m, Int.ediv_nonneg hp t4, hm, hm2, hset_self _ _ _⟩ fun b hb => hset_ne _ _ hb
  · simp only [hgt, decide_false, Bool.false_eq_true, if_false]
    (refine peel ?_; simp (decide := true) only [e_int, e_str, e_bool, k_name, e_bin, e_un, e_bo, k_cmp, k_list, k_tup, e_dict, k_attr, e_from, e_upto, e_item, k_call, k_meth, k_comp, bo_one, gBool_or, gBool_and, es_nil, es_cons, if_nil, if_one, t_not, t_bo, k_tcmp, t_name, t_sub, t_call, al_nil, gAll_or, gAll_and, k_aname, a_attr, a_item, a_tup, an_nil, k_ancons, s_expr, s_ret0, s_ret, k_asg, s_asg_, s_if, k_for, s_while, whK_next, whK_ret, seqK_next, seqK_ret, gSs_nil, tk_sub, tk_attr, tk_call, tk_item, tk_tup, kdL_cons, lk_cons, lk_nil, beq_ff, ex_some, true_and, and_true, if_true, if_false, not_false_eq_true, lset, compLoc, gCmp_eq, gCmp_ne, gCmp_in, gCmp_nin, gCmp_lt, gCmp_gt, gCmp_ge, gUn_neg, gUn_not, gBin_add, gBin_sub, gEq_int, gEq_bool, gEq_str, retOf, r1, r2])
    refine gi_list (v := .int m) hs hb (by decide) (by rfl) (b_mul (.inr (by decide)) ?_)
    rw [gBin_add, int_i]
    have hm' : 0 ≤ (m * 39373 + 7) % 2147483647 := Int.emod_nonneg _ (by decide)
    have hm'' : (m * 39373 + 7) % 2147483647 < 2147483647 := Int.emod_lt_of_pos _ (by decide)
    refine b_mod (by decide) (by decide) (by first | assumption | exact nb50 (by assumption) | exact nb50s (by assumption) | exact nb50t (by assumption) (by assumption) | omega) ⟨_, hs, hb, (by decide : (0 : Int) ≤ 1), (by decide : (1 : Int) < 2), ?_⟩
    generalize (m * 39373 + 7) % 2147483647 = m' at hm' hm''
    (refine peel ?_; simp (decide := true) only [e_int, e_str, e_bool, k_name, e_bin, e_un, e_bo, k_cmp, k_list, k_tup, e_dict, k_attr, e_from, e_upto, e_item, k_call, k_meth, k_comp, bo_one, gBool_or, gBool_and, es_nil, es_cons, if_nil, if_one, t_not, t_bo, k_tcmp, t_name, t_sub, t_call, al_nil, gAll_or, gAll_and, k_aname, a_attr, a_item, a_tup, an_nil, k_ancons, s_expr, s_ret0, s_ret, k_asg, s_asg_, s_if, k_for, s_while, whK_next, whK_ret, seqK_next, seqK_ret, gSs_nil, tk_sub, tk_attr, tk_call, tk_item, tk_tup, kdL_cons, lk_cons, lk_nil, beq_ff, ex_some, true_and, and_true, if_true, if_false, not_false_eq_true, lset, compLoc, gCmp_eq, gCmp_ne, gCmp_in, gCmp_nin, gCmp_lt, gCmp_gt, gCmp_ge, gUn_neg, gUn_not, gBin_add, gBin_sub, gEq_int, gEq_bool, gEq_str, retOf, r1, r2])
    have hs' : hset H s (.list ([GV.int p, .int m].set (1 : Int).toNat (.int m'))) s = some (.list [.int p, .int m']) := hset_self _ _ _
    refine gi_list (v := .int m') hs' hb (by decide) (by rfl) (gi_list (v := .int m') hs' hb (by decide) (by rfl) (b_mul (.inl (by first | assumption | exact nb50 (by assumption) | exact nb50s (by assumption) | exact nb50t (by assumption) (by assumption) | omega)) ?_))
    rw [int_i]
    have hsq : 0 ≤ m' * m' := Int.mul_nonneg hm' hm'
    have h3 : 0 ≤ m' * m' % 2147483629 := Int.emod_nonneg _ (by decide)
    refine b_mod (by decide) (by decide) hsq (b_div (by decide) (by decide) h3 ?_)
    rw [int_i]
    refine b_mod t0 t1 (by first | assumption | exact nb50 (by assumption) | exact nb50s (by assumption) | exact nb50t (by assumption) (by assumption) | omega) ?_
    exact q _ _ (Int.emod_nonneg _ t3) (Int.emod_lt_of_pos _ t0) ⟨p, m', hp, hm', hm'', hs'⟩ fun b hb => hset_ne _ _ hb

theorem take_c {k : Nat} {s : Addr} {top : Int} {H : GH} {Q : GV → GH → Prop} (h : Src H s) (h1 : 1 ≤ top) (h2 : top ≤ 100)
    (q : ∀ r H', 0 ≤ r → r < top → Src H' s → (∀ b, b ≠ s → H' b = H b) → Q (.int r) H') : gCall (PhiS (k + 1)) "_law_take" [.ref s, .int top] H Q :=
  phi_t1 (by decide) (phi_t (by decide) (take_g h h1 h2 q))

theorem one_g {k : Nat} {s t : Addr} {tl : List Str} {H : GH} {Q : GV → GH → Prop} (h : Src H s) (ht : H t = some (.list (tl.map .str))) (h1 : 1 ≤ tl.length) (h2 : tl.length ≤ 100) (hne : t ≠ s)
    (q : ∀ x H', x ∈ tl → Src H' s → (∀ b, b ≠ s → H' b = H b) → Q (.str x) H') : gFn (PhiS (k + 1)) (fnT "_law_one") [.ref s, .ref t] H Q := by
  refine start oneB rfl fun ρ hρ => ?_
  have r1 : ρ "source" = some (.ref s) := hρ _
  have r2 : ρ "things" = some (.ref t) := hρ _
  clear hρ
  unfold oneB
  (refine peel ?_; simp (decide := true) only [e_int, e_str, e_bool, k_name, e_bin, e_un, e_bo, k_cmp, k_list, k_tup, e_dict, k_attr, e_from, e_upto, e_item, k_call, k_meth, k_comp, bo_one, gBool_or, gBool_and, es_nil, es_cons, if_nil, if_one, t_not, t_bo, k_tcmp, t_name, t_sub, t_call, al_nil, gAll_or, gAll_and, k_aname, a_attr, a_item, a_tup, an_nil, k_ancons, s_expr, s_ret0, s_ret, k_asg, s_asg_, s_if, k_for, s_while, whK_next, whK_ret, seqK_next, seqK_ret, gSs_nil, tk_sub, tk_attr, tk_call, tk_item, tk_tup, kdL_cons, lk_cons, lk_nil, beq_ff, ex_some, true_and, and_true, if_true, if_false, not_false_eq_true, lset, compLoc, gCmp_eq, gCmp_ne, gCmp_in, gCmp_nin, gCmp_lt, gCmp_gt, gCmp_ge, gUn_neg, gUn_not, gBin_add, gBin_sub, gEq_int, gEq_bool, gEq_str, retOf, r1, r2])
  have hb : (1000 : Nat) < bnd := by decide
  refine len_list ht (nbm1 h2) ?_
  rw [List.length_map]
  refine take_c h (by first | assumption | exact nb50 (by assumption) | exact nb50s (by assumption) | exact nb50t (by assumption) (by assumption) | omega) (by first | assumption | exact nb50 (by assumption) | exact nb50s (by assumption) | exact nb50t (by assumption) (by assumption) | omega) fun r H' r0 r1 hs fr => ?_
  have hx : tl[r.toNat]? = some tl[r.toNat] := List.getElem?_eq_getElem (by first | assumption | exact nb50 (by assumption) | exact nb50s (by assumption) | exact nb50t (by assumption) (by assumption) | omega)
  exact gi_list (v := .str tl[r.toNat]) ((fr t hne).trans ht) (nbm1 h2) r0 (by simp [hx]) (q _ _ (List.getElem_mem _) hs fr)

-- P8
noncomputable def drawnB : { x : Fn // x = fnT "_law_drawn" } := by
  refine ⟨?x, Eq.symm ?h⟩
  case' h => conv => lhs; whnf

noncomputable def letters : List Str := ["a", "b", "c", "d", "e", "f"]

-- all stands but s
noncomputable def Fz (s : Addr) (H H' : GH) : Prop := ∀ b o, H b = some o → b ≠ s → H' b = some o
theorem Fz.refl (s : Addr) (H : GH) : Fz s H H := fun _ _ e _ => e
theorem Fz.trans {s : Addr} {H H' H'' : GH} (h : Fz s H H') (k : Fz s H' H'') : Fz s H H'' := fun b o e n => k b o (h b o e n) n
theorem Fz.le {s : Addr} {H H' : GH} (h : Le H H') : Fz s H H' := fun b o e _ => h b o e
theorem Fz.fr {s : Addr} {H H' : GH} (h : ∀ b, b ≠ s → H' b = H b) : Fz s H H' := fun b o e n => (h b n).trans e
theorem Fz.set {s a : Addr} {H H₀ : GH} (o : GO) (h : H₀ a = none) (l : Fz s H₀ H) : Fz s H₀ (hset H a o) := fun b o' e n => by
  rw [hset_ne _ _ (by rintro rfl; rw [h] at e; cases e)]
  exact l b o' e n
theorem Fz.none {s a : Addr} {H H₀ : GH} (l : Fz s H₀ H) (ha : H a = Option.none) (hne : a ≠ s) : H₀ a = Option.none := by
  cases e : H₀ a with
  | none => rfl
  | some o => rw [l a o e hne] at ha; cases ha
theorem Src.some {H : GH} {s : Addr} (h : Src H s) : ∃ o, H s = some o := by
  obtain ⟨p, q, _, _, _, e⟩ := h; exact ⟨_, e⟩

theorem erase_perm {α : Type} {L : List α} {i : Nat} (h : i < L.length) : ([L[i]] ++ L.eraseIdx i).Perm L := by
  have e : L = L.take i ++ L[i] :: L.drop (i + 1) := by rw [← List.drop_eq_getElem_cons h, List.take_append_drop]
  rw [List.eraseIdx_eq_take_drop_succ]
  conv => rhs; rw [e]
  exact (List.perm_middle (a := L[i]) (l₁ := L.take i) (l₂ := L.drop (i + 1))).symm
theorem b_cat {a b : Addr} {l₁ l₂ : List Str} {H : GH} {Q : GV → GH → Prop} (h1 : H a = some (.list (l₁.map .str))) (h2 : H b = some (.list (l₂.map .str))) (hb : l₁.length + l₂.length ≤ bnd) (q : ∀ c, H c = none → Q (.ref c) (hset H c (.list ((l₁ ++ l₂).map .str)))) : gBin .Add (.ref a) (.ref b) H Q :=
  ⟨_, _, h1, h2, by simpa using hb, fun c hc => by rw [← List.map_append]; exact q c hc⟩
theorem range_g {Φ : Spec} {n : Int} {H : GH} {Q : GV → GH → Prop} (h1 : n ≤ bnd) (h2 : -(bnd : Int) ≤ n) (q : ∀ c, H c = none → Q (.ref c) (hset H c (.range n))) : gCall Φ "range" [.int n] H Q := by
  unfold gCall
  rw [if_neg (by decide), if_neg (by decide), if_neg (by decide), if_neg (by decide), if_pos rfl]
  exact ⟨h1, h2, q⟩
theorem one_c {k : Nat} {s t : Addr} {tl : List Str} {H : GH} {Q : GV → GH → Prop} (h : Src H s) (ht : H t = some (.list (tl.map .str))) (h1 : 1 ≤ tl.length) (h2 : tl.length ≤ 100) (hne : t ≠ s)
    (q : ∀ x H', x ∈ tl → Src H' s → (∀ b, b ≠ s → H' b = H b) → Q (.str x) H') : gCall (PhiS (k + 2)) "_law_one" [.ref s, .ref t] H Q :=
  phi_t1 (by decide) (phi_t (by decide) (one_g h ht h1 h2 hne q))

structure DfI (src nm us : Addr) (N : List Str) (H₀ : GH) (done : List Str) (ρ : Loc) (H : GH) : Prop where
  rs : ρ "source" = some (.ref src)
  rn : ρ "names" = some (.ref nm)
  ru : ρ "uses" = some (.ref us)
  hN : H nm = some (.list (N.map .str))
  sr : Src H src
  fz : Fz src H₀ H
  st : ∃ (uk : List Str) (pu : Str → Addr) (uf : Str → List Str), H us = some (.dict (dm uk fun y => .ref (pu y))) ∧ uk.length ≤ done.length ∧ (∀ y ∈ uk, y ∈ done) ∧ ∀ y ∈ uk, H (pu y) = some (.list ((uf y).map .str)) ∧ (uf y).length ≤ 3 ∧ pu y ≠ src

structure DrI (src left nm us : Addr) (H₀ : GH) (n : Nat) (ρ : Loc) (H : GH) : Prop where
  rs : ρ "source" = some (.ref src)
  rl : ρ "left" = some (.ref left)
  rn : ρ "names" = some (.ref nm)
  ru : ρ "uses" = some (.ref us)
  st : ∃ L N : List Str, H left = some (.list (L.map .str)) ∧ H nm = some (.list (N.map .str)) ∧ (N ++ L).Nodup ∧ (N ++ L).length ≤ 6 ∧ n = L.length ∧ N ++ L ≠ []
  hu : H us = some (.dict [])
  sr : Src H src
  fz : Fz src H₀ H

theorem drawn_g {k : Nat} {src : Addr} {H₀ : GH} {Q : GV → GH → Prop} (S₀ : Src H₀ src)
    (q : ∀ H' res nm us names ukeys pu uf, Fz src H₀ H' → H' res = some (.list [.ref nm, .ref us]) → InG nm us names ukeys pu uf H' → (∀ y ∈ ukeys, y ∈ names) → names ≠ [] → names.length ≤ 6 → (∀ y ∈ ukeys, (uf y).length ≤ 3) → Q (.ref res) H') :
    gFn (PhiS (k + 2)) (fnT "_law_drawn") [.ref src] H₀ Q := by
  refine start drawnB rfl fun ρ₀ hρ => ?_
  have rsr : ρ₀ "source" = some (.ref src) := hρ _
  clear hρ
  unfold drawnB
  (refine peel ?_; simp (decide := true) only [e_int, e_str, e_bool, k_name, e_bin, e_un, e_bo, k_cmp, k_list, k_tup, e_dict, k_attr, e_from, e_upto, e_item, k_call, k_meth, k_comp, bo_one, gBool_or, gBool_and, es_nil, es_cons, if_nil, if_one, t_not, t_bo, k_tcmp, t_name, t_sub, t_call, al_nil, gAll_or, gAll_and, k_aname, a_attr, a_item, a_tup, an_nil, k_ancons, s_expr, s_ret0, s_ret, k_asg, s_asg_, s_if, k_for, s_while, whK_next, whK_ret, seqK_next, seqK_ret, gSs_nil, tk_sub, tk_attr, tk_call, tk_item, tk_tup, kdL_cons, lk_cons, lk_nil, beq_ff, ex_some, true_and, and_true, if_true, if_false, not_false_eq_true, lset, compLoc, gCmp_eq, gCmp_ne, gCmp_in, gCmp_nin, gCmp_lt, gCmp_gt, gCmp_ge, gUn_neg, gUn_not, gBin_add, gBin_sub, gEq_int, gEq_bool, gEq_str, retOf, rsr])
  have hb : (1000 : Nat) < bnd := by decide
  refine ⟨⟨"names", _, List.Mem.tail _ (List.Mem.head _), by simp (decide := true) only [if_true, if_false]⟩, ?_⟩
  intro l6 hl6
  have fz1 : Fz src H₀ (hset H₀ l6 (.list (letters.map .str))) := Fz.le (Le.new _ hl6)
  have l6s : l6 ≠ src := by rintro rfl; obtain ⟨o, e⟩ := S₀.some; rw [e] at hl6; cases hl6
  refine take_c (S₀.le (hset_ne _ _ (Ne.symm l6s))) (by decide) (by decide) fun r H₁ r0 r1 S₁ fr₁ => ?_
  try rw [gBin_add]
  have hl6' : H₁ l6 = some (.list (letters.map .str)) := by rw [fr₁ l6 l6s, hset_self]; rfl
  refine ⟨_, hl6', (by decide : (6 : Nat) ≤ bnd), (by omega : 0 ≤ 1 + r), (by show 1 + r ≤ ((6 : Nat) : Int); omega), ?_⟩
  rw [← List.map_take]
  have hnd : (letters.take (1 + r).toNat).Nodup := List.Pairwise.sublist (List.take_sublist _ _) (by decide : letters.Nodup)
  have hlen6 : (letters.take (1 + r).toNat).length ≤ 6 := by rw [List.length_take]; exact Nat.le_trans (Nat.min_le_right _ _) (by decide)
  have hne6 : letters.take (1 + r).toNat ≠ [] := by
    intro e
    have := congrArg List.length e
    rw [List.length_take, show letters.length = 6 from rfl] at this
    simp only [List.length_nil] at this
    omega
  generalize letters.take (1 + r).toNat = L₀ at hnd hlen6 hne6
  intro left hleft nm hnm us hus
  refine ⟨(by decide : (3 : Nat) ≤ bnd), fun tu htu => ⟨_, .inr (hset_self _ _ _), (by decide : (3 : Nat) ≤ bnd), ?_⟩⟩
  simp (decide := true) only [e_int, e_str, e_bool, k_name, e_bin, e_un, e_bo, k_cmp, k_list, k_tup, e_dict, k_attr, e_from, e_upto, e_item, k_call, k_meth, k_comp, bo_one, gBool_or, gBool_and, es_nil, es_cons, if_nil, if_one, t_not, t_bo, k_tcmp, t_name, t_sub, t_call, al_nil, gAll_or, gAll_and, k_aname, a_attr, a_item, a_tup, an_nil, k_ancons, s_expr, s_ret0, s_ret, k_asg, s_asg_, s_if, k_for, s_while, whK_next, whK_ret, seqK_next, seqK_ret, gSs_nil, tk_sub, tk_attr, tk_call, tk_item, tk_tup, kdL_cons, lk_cons, lk_nil, beq_ff, ex_some, true_and, and_true, if_true, if_false, not_false_eq_true, lset, compLoc, gCmp_eq, gCmp_ne, gCmp_in, gCmp_nin, gCmp_lt, gCmp_gt, gCmp_ge, gUn_neg, gUn_not, gBin_add, gBin_sub, gEq_int, gEq_bool, gEq_str, retOf]
  have fzA : Fz src H₀ H₁ := fz1.trans (Fz.fr fr₁)
  have somS : ∃ o, H₁ src = some o := S₁.some
  obtain ⟨nl, hnm⟩ := hset_none hnm
  obtain ⟨un, hus⟩ := hset_none hus; obtain ⟨ul, hus⟩ := hset_none hus
  obtain ⟨tu1, htu⟩ := hset_none htu; obtain ⟨tn, htu⟩ := hset_none htu; obtain ⟨tl, htu⟩ := hset_none htu
  obtain ⟨oS, hoS⟩ := somS
  have ls : left ≠ src := by rintro rfl; rw [hoS] at hleft; cases hleft
  have ns : nm ≠ src := by rintro rfl; rw [hoS] at hnm; cases hnm
  have uss : us ≠ src := by rintro rfl; rw [hoS] at hus; cases hus
  have ts : tu ≠ src := by rintro rfl; rw [hoS] at htu; cases htu
  have n0 : ∀ b, b ≠ src → H₁ b = none → H₀ b = none := fun b hb' e => fzA.none e hb'
  (refine peel ?_; simp (decide := true) only [e_int, e_str, e_bool, k_name, e_bin, e_un, e_bo, k_cmp, k_list, k_tup, e_dict, k_attr, e_from, e_upto, e_item, k_call, k_meth, k_comp, bo_one, gBool_or, gBool_and, es_nil, es_cons, if_nil, if_one, t_not, t_bo, k_tcmp, t_name, t_sub, t_call, al_nil, gAll_or, gAll_and, k_aname, a_attr, a_item, a_tup, an_nil, k_ancons, s_expr, s_ret0, s_ret, k_asg, s_asg_, s_if, k_for, s_while, whK_next, whK_ret, seqK_next, seqK_ret, gSs_nil, tk_sub, tk_attr, tk_call, tk_item, tk_tup, kdL_cons, lk_cons, lk_nil, beq_ff, ex_some, true_and, and_true, if_true, if_false, not_false_eq_true, lset, compLoc, gCmp_eq, gCmp_ne, gCmp_in, gCmp_nin, gCmp_lt, gCmp_gt, gCmp_ge, gUn_neg, gUn_not, gBin_add, gBin_sub, gEq_int, gEq_bool, gEq_str, retOf])
  refine ⟨fun n ρ H => DrI src left nm us H₀ n ρ H, L₀.length, ?_, ?_⟩
  · refine ⟨by first | exact lset1 (by decide) rsr | exact lset2 (by decide) (by decide) rsr | exact lset3 (by decide) (by decide) (by decide) rsr | (simp (decide := true) only [lset, if_false]; exact rsr), by rfl, by rfl, by rfl, ⟨L₀, [], ?_, ?_, by simpa using hnd, by simpa using hlen6, rfl, by simpa using hne6⟩, ?_, ?_, ?_⟩
    · rw [hset_ne _ _ (Ne.symm tl), hset_ne _ _ (Ne.symm ul), hset_ne _ _ (Ne.symm nl), hset_self]
    · rw [hset_ne _ _ (Ne.symm tn), hset_ne _ _ (Ne.symm un), hset_self]; rfl
    · rw [hset_ne _ _ (Ne.symm tu1), hset_self]
    · exact S₁.le (by rw [hset_ne _ _ (Ne.symm ts), hset_ne _ _ (Ne.symm uss), hset_ne _ _ (Ne.symm ns), hset_ne _ _ (Ne.symm ls)])
    · exact Fz.set _ (n0 _ ts htu) (Fz.set _ (n0 _ uss hus) (Fz.set _ (n0 _ ns hnm) (Fz.set _ (n0 _ ls hleft) fzA)))
  rintro n ρ H ⟨rs, rl, rn, ru, ⟨L, N, hL, hN, nd, hlen, rfl, hne⟩, hu, S, fz⟩
  simp only [rs, rl, rn, ru, ex_some]
  intro e he
  have el : left ≠ e := by rintro rfl; rw [hL] at he; cases he
  have en : nm ≠ e := by rintro rfl; rw [hN] at he; cases he
  have eu : us ≠ e := by rintro rfl; rw [hu] at he; cases he
  have es : src ≠ e := by rintro rfl; obtain ⟨o, e'⟩ := S.some; rw [e'] at he; cases he
  have he0 : H₀ e = none := fz.none he (Ne.symm es)
  rw [List.length_append] at hlen
  refine ⟨_, _, L, [], el, by rw [hset_ne _ _ el]; exact hL, hset_self _ _ _, strs_map L, rfl, by omega, Nat.zero_le _, ?_⟩
  have hL50 : L.length ≤ 50 := by omega
  have hN50 : N.length ≤ 50 := by omega
  cases L with
  | cons x0 L' =>
    generalize hLL : x0 :: L' = L at *
    have hLne : L ≠ [] := by rw [← hLL]; simp
    have hpos : 0 < L.length := List.length_pos_iff.mpr hLne
    simp only [hLne, decide_false, Bool.not_false, if_true]
    (refine peel ?_; simp (decide := true) only [e_int, e_str, e_bool, k_name, e_bin, e_un, e_bo, k_cmp, k_list, k_tup, e_dict, k_attr, e_from, e_upto, e_item, k_call, k_meth, k_comp, bo_one, gBool_or, gBool_and, es_nil, es_cons, if_nil, if_one, t_not, t_bo, k_tcmp, t_name, t_sub, t_call, al_nil, gAll_or, gAll_and, k_aname, a_attr, a_item, a_tup, an_nil, k_ancons, s_expr, s_ret0, s_ret, k_asg, s_asg_, s_if, k_for, s_while, whK_next, whK_ret, seqK_next, seqK_ret, gSs_nil, tk_sub, tk_attr, tk_call, tk_item, tk_tup, kdL_cons, lk_cons, lk_nil, beq_ff, ex_some, true_and, and_true, if_true, if_false, not_false_eq_true, lset, compLoc, gCmp_eq, gCmp_ne, gCmp_in, gCmp_nin, gCmp_lt, gCmp_gt, gCmp_ge, gUn_neg, gUn_not, gBin_add, gBin_sub, gEq_int, gEq_bool, gEq_str, retOf, rs, rl, rn])
    have H2N : hset H e (.list []) nm = some (.list (N.map .str)) := by rw [hset_ne _ _ en]; exact hN
    have H2L : hset H e (.list []) left = some (.list (L.map .str)) := by rw [hset_ne _ _ el]; exact hL
    refine me_append H2N (me_pop H2L (len_list H2L (by first | assumption | exact nbm (by assumption) | exact nbl (by assumption) | exact nbm1 (by assumption) | (simp; omega)) ?_))
    rw [List.length_map]
    refine take_c (S.le (hset_ne _ _ es)) (by first | assumption | exact nb50 (by assumption) | exact nb50s (by assumption) | exact nb50t (by assumption) (by assumption) | omega) (by first | assumption | exact nb50 (by assumption) | exact nb50s (by assumption) | exact nb50t (by assumption) (by assumption) | omega) fun i H3 i0 i1 S3 fr3 => ?_
    have hi : i.toNat < L.length := by omega
    have H3L : H3 left = some (.list (L.map .str)) := (fr3 left ls).trans H2L
    refine m_pop_at (v := .str L[i.toNat]) H3L (by first | assumption | exact nbm (by assumption) | exact nbl (by assumption) | exact nbm1 (by assumption) | (simp; omega)) i0 (by simp [hi]) ?_
    have lne : left ≠ nm := Ne.symm nl
    have H3N : hset H3 left (.list ((L.map .str).eraseIdx i.toNat)) nm = some (.list (N.map .str)) := by rw [hset_ne _ _ nl, fr3 nm ns, H2N]
    refine m_append H3N (by first | assumption | exact nbm (by assumption) | exact nbl (by assumption) | exact nbm1 (by assumption) | (simp; omega)) ⟨(L.eraseIdx i.toNat).length, by rw [List.length_eraseIdx_of_lt hi]; omega, rs, rl, rn, ru, ⟨L.eraseIdx i.toNat, N ++ [L[i.toNat]], ?_, ?_, ?_, ?_, rfl, by simp⟩, ?_, ?_, ?_⟩
    · rw [hset_ne _ _ lne, hset_self]
      simp [List.eraseIdx_eq_take_drop_succ]
    · rw [hset_self]; simp
    · have hp : (N ++ [L[i.toNat]] ++ L.eraseIdx i.toNat).Perm (N ++ L) := by
        rw [List.append_assoc]
        exact List.Perm.append_left N (erase_perm hi)
      exact hp.nodup_iff.mpr nd
    · simp only [List.length_append, List.length_cons, List.length_nil, List.length_eraseIdx_of_lt hi]; omega
    · rw [hset_ne _ _ un, hset_ne _ _ ul, fr3 us uss, hset_ne _ _ eu]; exact hu
    · exact S3.le (by rw [hset_ne _ _ (Ne.symm ns), hset_ne _ _ (Ne.symm ls)])
    · exact Fz.set _ (n0 _ ns hnm) (Fz.set _ (n0 _ ls hleft) ((Fz.set _ he0 fz).trans (Fz.fr fr3)))
  | nil =>
    simp only [decide_true, Bool.not_true, Bool.false_eq_true, if_false]
    rw [List.append_nil] at nd hne
    (refine peel ?_; simp (decide := true) only [e_int, e_str, e_bool, k_name, e_bin, e_un, e_bo, k_cmp, k_list, k_tup, e_dict, k_attr, e_from, e_upto, e_item, k_call, k_meth, k_comp, bo_one, gBool_or, gBool_and, es_nil, es_cons, if_nil, if_one, t_not, t_bo, k_tcmp, t_name, t_sub, t_call, al_nil, gAll_or, gAll_and, k_aname, a_attr, a_item, a_tup, an_nil, k_ancons, s_expr, s_ret0, s_ret, k_asg, s_asg_, s_if, k_for, s_while, whK_next, whK_ret, seqK_next, seqK_ret, gSs_nil, tk_sub, tk_attr, tk_call, tk_item, tk_tup, kdL_cons, lk_cons, lk_nil, beq_ff, ex_some, true_and, and_true, if_true, if_false, not_false_eq_true, lset, compLoc, gCmp_eq, gCmp_ne, gCmp_in, gCmp_nin, gCmp_lt, gCmp_gt, gCmp_ge, gUn_neg, gUn_not, gBin_add, gBin_sub, gEq_int, gEq_bool, gEq_str, retOf, rn])
    have hnlen : N.length ≤ 6 := by simpa using hlen
    have H2N : hset H e (.list []) nm = some (.list (N.map .str)) := by rw [hset_ne _ _ en]; exact hN
    refine for_g (fun done ρ H => DfI src nm us N H₀ done ρ H) H2N (by first | assumption | exact nb50 (by assumption) | exact nb50s (by assumption) | exact nb50t (by assumption) (by assumption) | omega) (fun done ρ H i => i.hN) (by decide)
      ⟨rs, rn, ru, H2N, S.le (hset_ne _ _ es), Fz.set _ he0 fz, [], fun _ => us, fun _ => [], by rw [hset_ne _ _ eu]; exact hu, Nat.le_refl _, nofun, nofun⟩ ?_ ?_
    · rintro done v rest ρ' X K hsplit ⟨ps, pn, pu', hN', S', fz', uk, pu, uf, hus', hukl, hsub, hul⟩ kk
      (refine peel ?_; simp (decide := true) only [e_int, e_str, e_bool, k_name, e_bin, e_un, e_bo, k_cmp, k_list, k_tup, e_dict, k_attr, e_from, e_upto, e_item, k_call, k_meth, k_comp, bo_one, gBool_or, gBool_and, es_nil, es_cons, if_nil, if_one, t_not, t_bo, k_tcmp, t_name, t_sub, t_call, al_nil, gAll_or, gAll_and, k_aname, a_attr, a_item, a_tup, an_nil, k_ancons, s_expr, s_ret0, s_ret, k_asg, s_asg_, s_if, k_for, s_while, whK_next, whK_ret, seqK_next, seqK_ret, gSs_nil, tk_sub, tk_attr, tk_call, tk_item, tk_tup, kdL_cons, lk_cons, lk_nil, beq_ff, ex_some, true_and, and_true, if_true, if_false, not_false_eq_true, lset, compLoc, gCmp_eq, gCmp_ne, gCmp_in, gCmp_nin, gCmp_lt, gCmp_gt, gCmp_ge, gUn_neg, gUn_not, gBin_add, gBin_sub, gEq_int, gEq_bool, gEq_str, retOf, ps, pn, pu'])
      have q1 : lset ρ' "name" (.str v) "source" = some (.ref src) := by first | exact lset1 (by decide) ps | exact lset2 (by decide) (by decide) ps | exact lset3 (by decide) (by decide) (by decide) ps | (simp (decide := true) only [lset, if_false]; exact ps)
      have q2 : lset ρ' "name" (.str v) "names" = some (.ref nm) := by first | exact lset1 (by decide) pn | exact lset2 (by decide) (by decide) pn | exact lset3 (by decide) (by decide) (by decide) pn | (simp (decide := true) only [lset, if_false]; exact pn)
      have q3 : lset ρ' "name" (.str v) "uses" = some (.ref us) := by first | exact lset1 (by decide) pu' | exact lset2 (by decide) (by decide) pu' | exact lset3 (by decide) (by decide) (by decide) pu' | (simp (decide := true) only [lset, if_false]; exact pu')
      have hvd : v ∉ done := by
        have nd' := nd
        rw [hsplit, List.nodup_append] at nd'
        exact fun h => nd'.2.2 v h v List.mem_cons_self rfl
      have hvuk : v ∉ uk := fun h => hvd (hsub v h)
      have hdl50 : done.length ≤ 50 := by have := congrArg List.length hsplit; simp at this; omega
      have hdl : done.length ≤ 6 := by have := congrArg List.length hsplit; simp at this; omega
      refine take_c S' (by decide) (by decide) fun r X1 r0 r1 S1 fr1 => ?_
      try rw [gCmp_gt]
      have fzX1 : Fz src X X1 := Fz.fr fr1
      by_cases hr : r > 0
      · simp only [hr, decide_true, if_true]
        (refine peel ?_; simp (decide := true) only [e_int, e_str, e_bool, k_name, e_bin, e_un, e_bo, k_cmp, k_list, k_tup, e_dict, k_attr, e_from, e_upto, e_item, k_call, k_meth, k_comp, bo_one, gBool_or, gBool_and, es_nil, es_cons, if_nil, if_one, t_not, t_bo, k_tcmp, t_name, t_sub, t_call, al_nil, gAll_or, gAll_and, k_aname, a_attr, a_item, a_tup, an_nil, k_ancons, s_expr, s_ret0, s_ret, k_asg, s_asg_, s_if, k_for, s_while, whK_next, whK_ret, seqK_next, seqK_ret, gSs_nil, tk_sub, tk_attr, tk_call, tk_item, tk_tup, kdL_cons, lk_cons, lk_nil, beq_ff, ex_some, true_and, and_true, if_true, if_false, not_false_eq_true, lset, compLoc, gCmp_eq, gCmp_ne, gCmp_in, gCmp_nin, gCmp_lt, gCmp_gt, gCmp_ge, gUn_neg, gUn_not, gBin_add, gBin_sub, gEq_int, gEq_bool, gEq_str, retOf, ps, pn, pu'])
        refine take_c S1 (by decide) (by decide) fun n X2 nn0 nn1 S2 fr2 => ?_
        have fzX2 : Fz src X X2 := fzX1.trans (Fz.fr fr2)
        refine range_g (by first | assumption | exact nb50 (by assumption) | exact nb50s (by assumption) | exact nb50t (by assumption) (by assumption) | omega) (by first | assumption | exact nb50 (by assumption) | exact nb50s (by assumption) | exact nb50t (by assumption) (by assumption) | omega) fun rg hrg => ?_
        have rgs : rg ≠ src := by rintro rfl; obtain ⟨o, e'⟩ := S2.some; rw [e'] at hrg; cases hrg
        have L3 : Le X2 (hset X2 rg (.range n)) := Le.new _ hrg
        have S3 : Src (hset X2 rg (.range n)) src := S2.le (hset_ne _ _ (Ne.symm rgs))
        have fzX3 : Fz src X (hset X2 rg (.range n)) := fzX2.trans (Fz.le L3)
        have hN3 : hset X2 rg (.range n) nm = some (.list (N.map .str)) := fzX3 _ _ hN' ns
        refine ⟨rg, .range n, (List.range n.toNat).map fun (i : Nat) => GV.int (i : Int), rfl, hset_self _ _ _, ?_, by simp; omega, ?_⟩
        · show (if -(bnd : Int) ≤ n then _ else _) = _
          rw [if_pos (by first | assumption | exact nb50 (by assumption) | exact nb50s (by assumption) | exact nb50t (by assumption) (by assumption) | omega)]
        generalize hX3 : hset X2 rg (.range n) = X3 at L3 S3 fzX3 hN3
        have hrg3 : X3 rg = some (.range n) := by rw [← hX3]; exact hset_self _ _ _
        refine comp_ind (fun dn acc Y => ∃ xs : List Str, acc = xs.map .str ∧ xs.length = dn.length ∧ Src Y src ∧ Fz src X3 Y) (fun dn w rst acc Y K' hs' ⟨xs, ha, hl, SY, fY⟩ kk' => ⟨fY _ _ hrg3 rgs, ?_⟩) (fun acc Y ⟨xs, ha, hl, SY, fY⟩ => ⟨fY _ _ hrg3 rgs, ?_⟩) ⟨[], rfl, rfl, S3, Fz.refl _ _⟩
        · simp only [if_true]
          have hNY := fY _ _ hN3 ns
          refine b_cat hNY hNY (by first | assumption | exact nb50 (by assumption) | exact nb50s (by assumption) | exact nb50t (by assumption) (by assumption) | omega) fun c1 hc1 => fun z1 hz1 => ?_
          have c1s : c1 ≠ src := by rintro rfl; obtain ⟨o, e'⟩ := SY.some; rw [e'] at hc1; cases hc1
          obtain ⟨z1c, hz1⟩ := hset_none hz1
          have z1s : z1 ≠ src := by rintro rfl; obtain ⟨o, e'⟩ := SY.some; rw [e'] at hz1; cases hz1
          refine b_cat (l₂ := ["z"]) (by rw [hset_ne _ _ (Ne.symm z1c), hset_self]) (hset_self _ _ _) (by first | assumption | exact nbm (by assumption) | exact nbl (by assumption) | exact nbm1 (by assumption) | (simp; omega)) fun c2 hc2 => ?_
          obtain ⟨c2z, hc2⟩ := hset_none hc2; obtain ⟨c2c, hc2⟩ := hset_none hc2
          have c2s : c2 ≠ src := by rintro rfl; obtain ⟨o, e'⟩ := SY.some; rw [e'] at hc2; cases hc2
          refine one_c (SY.le ?_) (hset_self _ _ _) (by first | assumption | exact nbm (by assumption) | exact nbl (by assumption) | exact nbm1 (by assumption) | (simp; omega)) (by first | assumption | exact nbm (by assumption) | exact nbl (by assumption) | exact nbm1 (by assumption) | (simp; omega)) c2s fun x Y' hx SY' frY => kk' _ _ ⟨xs ++ [x], by rw [ha]; simp, by simp [hl], SY', ?_⟩
          · rw [hset_ne _ _ (Ne.symm c2s), hset_ne _ _ (Ne.symm z1s), hset_ne _ _ (Ne.symm c1s)]
          · exact fY.trans (Fz.trans (Fz.set _ hc2 (Fz.set _ hz1 (Fz.set _ hc1 (Fz.refl _ _)))) (Fz.fr frY))
        · rw [ha]
          intro ev hev
          have evs : ev ≠ src := by rintro rfl; obtain ⟨o, e'⟩ := SY.some; rw [e'] at hev; cases hev
          have fzE : Fz src X (hset Y ev (.list (xs.map .str))) := (fzX3.trans fY).trans (Fz.le (Le.new _ hev))
          have hus2 := fzE _ _ hus' uss
          have hxl : xs.length ≤ 3 := by rw [hl]; simp; omega
          have ukl : uk.length ≤ bnd := nb50t hukl hdl50
          have evus : ev ≠ us := by rintro rfl; rw [(fzX3.trans fY) _ _ hus' evs] at hev; cases hev
          have hneq : ∀ y ∈ uk, pu y ≠ us := fun y hy e' => by have := (hul y hy).1; rw [e', hus'] at this; cases this
          have nmus : nm ≠ us := Ne.symm un
          refine gsi_new hus2 ukl hvuk (kk _ _ ⟨q1, q2, q3, ?_, ?_, ?_, uk ++ [v], upd pu v ev, upd uf v xs, ?_, by rw [List.length_append, List.length_append]; exact Nat.add_le_add_right hukl 1, ?_, ?_⟩)
          · rw [hset_ne _ _ nmus]; exact fzE _ _ hN' ns
          · exact SY.le (by rw [hset_ne _ _ (Ne.symm uss), hset_ne _ _ (Ne.symm evs)])
          · exact Fz.set _ (n0 _ uss hus) (fz'.trans fzE)
          · rw [hset_self]
            congr 2
            refine dm_congr fun y hy => ?_
            unfold upd
            split <;> rfl
          · intro y hy
            rcases List.mem_append.mp hy with h | h
            · exact List.mem_append_left _ (hsub y h)
            · exact List.mem_append_right _ h
          · intro y hy
            by_cases hyv : y = v
            · subst hyv
              rw [upd_same, upd_same]
              exact ⟨by rw [hset_ne _ _ evus, hset_self], hxl, evs⟩
            · rw [upd_ne _ _ hyv, upd_ne _ _ hyv]
              have hy' : y ∈ uk := by
                rcases List.mem_append.mp hy with h | h
                · exact h
                · simp at h; exact absurd h hyv
              obtain ⟨h1, h2, h3⟩ := hul y hy'
              exact ⟨by rw [hset_ne _ _ (hneq y hy')]; exact fzE _ _ h1 h3, h2, h3⟩
      · simp only [hr, decide_false, Bool.false_eq_true, if_false]
        refine kk _ _ ⟨q1, q2, q3, fzX1 _ _ hN' ns, S1, fz'.trans fzX1, uk, pu, uf, fzX1 _ _ hus' uss, by rw [List.length_append]; exact Nat.le_trans hukl (Nat.le_add_right _ _), fun y hy => List.mem_append_left _ (hsub y hy), fun y hy => ?_⟩
        obtain ⟨h1, h2, h3⟩ := hul y hy
        exact ⟨fzX1 _ _ h1 h3, h2, h3⟩
    · rintro ρ' X ⟨ps, pn, pu', hN', S', fz', uk, pu, uf, hus', hukl, hsub, hul⟩
      rw [seqK_next]
      (refine peel ?_; simp (decide := true) only [e_int, e_str, e_bool, k_name, e_bin, e_un, e_bo, k_cmp, k_list, k_tup, e_dict, k_attr, e_from, e_upto, e_item, k_call, k_meth, k_comp, bo_one, gBool_or, gBool_and, es_nil, es_cons, if_nil, if_one, t_not, t_bo, k_tcmp, t_name, t_sub, t_call, al_nil, gAll_or, gAll_and, k_aname, a_attr, a_item, a_tup, an_nil, k_ancons, s_expr, s_ret0, s_ret, k_asg, s_asg_, s_if, k_for, s_while, whK_next, whK_ret, seqK_next, seqK_ret, gSs_nil, tk_sub, tk_attr, tk_call, tk_item, tk_tup, kdL_cons, lk_cons, lk_nil, beq_ff, ex_some, true_and, and_true, if_true, if_false, not_false_eq_true, lset, compLoc, gCmp_eq, gCmp_ne, gCmp_in, gCmp_nin, gCmp_lt, gCmp_gt, gCmp_ge, gUn_neg, gUn_not, gBin_add, gBin_sub, gEq_int, gEq_bool, gEq_str, retOf, pn, pu'])
      refine ⟨(by decide : (2 : Nat) ≤ bnd), fun res hres => ?_⟩
      have l : Le X (hset X res (.list [.ref nm, .ref us])) := Le.new _ hres
      exact q _ res nm us N uk pu uf (fz'.trans (Fz.le l)) (hset_self _ _ _) ⟨l _ _ hN', l _ _ hus', fun y hy => l _ _ (hul y hy).1, nd, by omega, fun y hy => by have := (hul y hy).2.1; omega⟩ hsub hne hnlen fun y hy => (hul y hy).2.1

-- P9
noncomputable def reachedB : { x : Fn // x = fnT "_law_reached" } := by
  refine ⟨?x, Eq.symm ?h⟩
  case' h => conv => lhs; whnf

-- x leads to y by one step or more, all between in M
inductive Pth (adj : Adj) (M : Str → Prop) : Str → Str → Prop
  | one {x y : Str} : y ∈ adj x → Pth adj M x y
  | cons {x z y : Str} : z ∈ adj x → M z → Pth adj M z y → Pth adj M x y
theorem Pth.mono {adj : Adj} {M M' : Str → Prop} (h : ∀ z, M z → M' z) {x y : Str} (p : Pth adj M x y) : Pth adj M' x y := by
  induction p with
  | one e => exact .one e
  | cons e m _ ih => exact .cons e (h _ m) ih
theorem Pth.app {adj : Adj} {M : Str → Prop} {x m y : Str} (hm : M m) (p : Pth adj M x m) (q : Pth adj M m y) : Pth adj M x y := by
  induction p with
  | one e => exact .cons e hm q
  | cons e m' _ ih => exact .cons e m' (ih hm q)
theorem Pth.split {adj : Adj} {M : Str → Prop} {m x y : Str} : Pth adj (fun z => M z ∨ z = m) x y ↔ (Pth adj M x y ∨ (Pth adj M x m ∧ Pth adj M m y)) := by
  constructor
  · intro p
    induction p with
    | one e => exact .inl (.one e)
    | @cons x z y e hz _ ih =>
      rcases hz with hz | rfl
      · rcases ih with h | ⟨h1, h2⟩
        · exact .inl (.cons e hz h)
        · exact .inr ⟨.cons e hz h1, h2⟩
      · rcases ih with h | ⟨_, h2⟩
        · exact .inr ⟨.one e, h⟩
        · exact .inr ⟨.one e, h2⟩
  · rintro (h | ⟨h1, h2⟩)
    · exact h.mono fun z hz => .inl hz
    · exact Pth.app (.inr rfl) (h1.mono fun z hz => .inl hz) (h2.mono fun z hz => .inl hz)

theorem pairsOf_le {H H' : GH} (l : Le H H') : ∀ {xs : List GV} {ps : List (Str × GV)}, pairsOf H xs = some ps → pairsOf H' xs = some ps
  | [], ps, h => h
  | x :: xs, ps, h => by
    cases x with
    | ref a =>
      simp only [pairsOf] at h
      split at h
      · rename_i k v t h1 h2
        cases h
        simp only [pairsOf, l _ _ h1, pairsOf_le l h2]
      · cases h
    | _ => cases h
theorem pairsOf_snoc {H : GH} {a : Addr} {k : Str} {v : GV} (ha : H a = some (.tup [.str k, v])) : ∀ {xs : List GV} {ps : List (Str × GV)}, pairsOf H xs = some ps → pairsOf H (xs ++ [.ref a]) = some (ps ++ [(k, v)])
  | [], ps, h => by cases h; simp [pairsOf, ha]
  | x :: xs, ps, h => by
    cases x with
    | ref b =>
      simp only [pairsOf] at h
      split at h
      · rename_i k' v' t h1 h2
        cases h
        simp only [List.cons_append, pairsOf, h1, pairsOf_snoc ha h2]
      · cases h
    | _ => cases h
theorem dict_g {Φ : Spec} {a : Addr} {l : List GV} {ps : List (Str × GV)} {H : GH} {Q : GV → GH → Prop} (h : H a = some (.list l)) (hp : pairsOf H l = some ps) (hb : ps.length ≤ bnd) (nd : (ps.map (·.1)).Nodup) (q : gNew (.dict ps) H Q) : gCall Φ "dict" [.ref a] H Q := by
  unfold gCall
  rw [if_neg (by decide), if_neg (by decide), if_neg (by decide), if_neg (by decide), if_neg (by decide), if_neg (by decide), if_pos rfl]
  exact ⟨l, ps, h, hp, hb, nd, q⟩
theorem dm_snoc (V : List Str) (f : Str → GV) (k : Str) (v : GV) (h : k ∉ V) : dm (V ++ [k]) (upd f k v) = dm V f ++ [(k, v)] := by
  unfold dm
  rw [List.map_append]
  congr 1
  · refine List.map_congr_left fun y hy => ?_
    rw [upd_ne _ _ (by rintro rfl; exact h hy)]
  · simp [upd]
theorem dm_keys (V : List Str) (f : Str → GV) : (dm V f).map (·.1) = V := by
  unfold dm; rw [List.map_map]; exact List.map_id _

-- the table of what each name leads to
structure RcI (fd : Addr) (names : List Str) (p : Str → Addr) (f : Str → List Str) (H : GH) : Prop where
  d : H fd = some (.dict (dm names fun y => .ref (p y)))
  l : ∀ y ∈ names, H (p y) = some (.list ((f y).map .str))
  nd : ∀ y ∈ names, (f y).Nodup
  sub : ∀ y ∈ names, ∀ z ∈ f y, z ∈ names
theorem RcI.len {fd : Addr} {names : List Str} {p : Str → Addr} {f : Str → List Str} {H : GH} (R : RcI fd names p f H) : ∀ y ∈ names, (f y).length ≤ names.length := fun y hy => nodup_len (R.nd y hy) (R.sub y hy)

theorem ite_gv {c : Prop} [Decidable c] {a b : Addr} : (if c then GV.ref a else GV.ref b) = GV.ref (if c then a else b) := by split <;> rfl

theorem reached_g {k : Nat} {nm us : Addr} {names ukeys : List Str} {pu : Str → Addr} {uf : Str → List Str} {H₀ : GH} {Q : GV → GH → Prop} (I₀ : InG nm us names ukeys pu uf H₀)
    (q : ∀ H' fd p f, Le H₀ H' → RcI fd names p f H' → (∀ x ∈ names, ∀ y, y ∈ f x ↔ Pth (adjOf names ukeys uf) (· ∈ names) x y) → Q (.ref fd) H') :
    gFn (PhiS k) (fnT "_law_reached") [.ref nm, .ref us] H₀ Q := by
  refine start reachedB rfl fun ρ₀ hρ => ?_
  have r1 : ρ₀ "names" = some (.ref nm) := hρ _
  have r2 : ρ₀ "uses" = some (.ref us) := hρ _
  clear hρ
  unfold reachedB
  (refine peel ?_; simp (decide := true) only [e_int, e_str, e_bool, k_name, e_bin, e_un, e_bo, k_cmp, k_list, k_tup, e_dict, k_attr, e_from, e_upto, e_item, k_call, k_meth, k_comp, bo_one, gBool_or, gBool_and, es_nil, es_cons, if_nil, if_one, t_not, t_bo, k_tcmp, t_name, t_sub, t_call, al_nil, gAll_or, gAll_and, k_aname, a_attr, a_item, a_tup, an_nil, k_ancons, s_expr, s_ret0, s_ret, k_asg, s_asg_, s_if, k_for, s_while, whK_next, whK_ret, seqK_next, seqK_ret, gSs_nil, tk_sub, tk_attr, tk_call, tk_item, tk_tup, kdL_cons, lk_cons, lk_nil, beq_ff, ex_some, true_and, and_true, if_true, if_false, not_false_eq_true, lset, compLoc, gCmp_eq, gCmp_ne, gCmp_in, gCmp_nin, gCmp_lt, gCmp_gt, gCmp_ge, gUn_neg, gUn_not, gBin_add, gBin_sub, gEq_int, gEq_bool, gEq_str, retOf, r1, r2])
  have hb : (1000 : Nat) < bnd := by decide
  have hnl := I₀.nlen
  have edge : ∀ {x y}, y ∈ (names.filter fun z => decide (z ∈ uget ukeys uf x)) ↔ y ∈ adjOf names ukeys uf x := fun {x y} => by
    unfold adjOf
    simp only [List.mem_filter, decide_eq_true_eq]
    exact And.comm
  refine ⟨nm, _, names.map .str, rfl, I₀.nm, rfl, by simp; omega, ?_⟩
  refine comp_ind (fun done acc X => Le H₀ X ∧ ∃ p : Str → Addr, acc.length = done.length ∧ pairsOf X acc = some (dm done fun y => .ref (p y)) ∧ ∀ y ∈ done, X (p y) = some (.list ((names.filter fun z => decide (z ∈ uget ukeys uf y)).map .str)))
    (fun done v rest acc X K hs ⟨lX, p, hal, hp, hl⟩ kk => ⟨lX _ _ I₀.nm, ?_⟩) (fun acc X ⟨lX, p, hal, hp, hl⟩ => ⟨lX _ _ I₀.nm, ?_⟩) ⟨Le.refl _, fun _ => nm, rfl, rfl, nofun⟩
  · simp only [if_true]
    have hvd : v ∉ done := by
      have := I₀.nd
      rw [hs, List.nodup_append] at this
      exact fun h => this.2.2 v h v List.mem_cons_self rfl
    refine filter_g (Le X) (fun z => decide (z ∈ uget ukeys uf v)) (by first | assumption | exact nb50 (by assumption) | exact nb50s (by assumption) | exact nb50t (by assumption) (by assumption) | omega) (Le.refl _) (fun Y lY => lY _ _ (lX _ _ I₀.nm)) (fun z hz Y K' lY kY => ?_) (fun _ _ _ h => h) fun Y lY => ?_
    · refine (I₀.le (lX.trans lY)).get fun Y' b lY' hb' => in_list hb' (by have := I₀.ulen v; omega) (kY _ (lY.trans lY'))
    · intro ev hev
      refine ⟨(by decide : (2 : Nat) ≤ bnd), fun tv htv => kk _ _ ⟨?_, upd p v ev, ?_, ?_, ?_⟩⟩
      · exact (lX.trans lY).trans ((Le.new _ hev).trans (Le.new _ htv))
      · simp [hal]
      · have lE : Le X (hset (hset Y ev (.list ((names.filter fun z => decide (z ∈ uget ukeys uf v)).map .str))) tv (.tup [.str v, .ref ev])) := lY.trans ((Le.new _ hev).trans (Le.new _ htv))
        have := pairsOf_snoc (a := tv) (k := v) (v := .ref ev) (hset_self (hset Y ev (.list ((names.filter fun z => decide (z ∈ uget ukeys uf v)).map .str))) tv (.tup [.str v, .ref ev])) (pairsOf_le lE hp)
        rw [this, ← dm_snoc _ _ _ _ hvd]
        congr 1
        refine dm_congr fun y hy => ?_
        unfold upd
        split <;> rfl
      · intro y hy
        have lT := Le.new (.tup [.str v, .ref ev]) htv
        by_cases hyv : y = v
        · subst hyv
          rw [upd_same]
          exact lT _ _ (hset_self _ _ _)
        · rw [upd_ne _ _ hyv]
          have hy' : y ∈ done := by
            rcases List.mem_append.mp hy with h | h
            · exact h
            · simp at h; exact absurd h hyv
          exact lT _ _ ((Le.new _ hev) _ _ (lY _ _ (hl y hy')))
  · intro pl hpl
    have lP := Le.new (.list acc) hpl
    refine dict_g (hset_self _ _ _) (pairsOf_le lP hp) (by rw [dm_length]; omega) (by rw [dm_keys]; exact I₀.nd) fun fd hfd => ?_
    have lF := Le.new (.dict (dm names fun y => .ref (p y))) hfd
    have l₁ : Le H₀ (hset (hset X pl (.list acc)) fd (.dict (dm names fun y => .ref (p y)))) := lX.trans (lP.trans lF)
    have hfd0 : H₀ fd = none := by
      cases e : H₀ fd with
      | none => rfl
      | some o => rw [(lX.trans lP) _ _ e] at hfd; cases hfd
    have R₁ : RcI fd names p (fun x => names.filter fun z => decide (z ∈ uget ukeys uf x)) (hset (hset X pl (.list acc)) fd (.dict (dm names fun y => .ref (p y)))) :=
      ⟨hset_self _ _ _, fun y hy => lF _ _ (lP _ _ (hl y hy)), fun y hy => List.Pairwise.sublist List.filter_sublist I₀.nd, fun y hy z hz => (List.mem_filter.mp hz).1⟩
    (refine peel ?_; simp (decide := true) only [e_int, e_str, e_bool, k_name, e_bin, e_un, e_bo, k_cmp, k_list, k_tup, e_dict, k_attr, e_from, e_upto, e_item, k_call, k_meth, k_comp, bo_one, gBool_or, gBool_and, es_nil, es_cons, if_nil, if_one, t_not, t_bo, k_tcmp, t_name, t_sub, t_call, al_nil, gAll_or, gAll_and, k_aname, a_attr, a_item, a_tup, an_nil, k_ancons, s_expr, s_ret0, s_ret, k_asg, s_asg_, s_if, k_for, s_while, whK_next, whK_ret, seqK_next, seqK_ret, gSs_nil, tk_sub, tk_attr, tk_call, tk_item, tk_tup, kdL_cons, lk_cons, lk_nil, beq_ff, ex_some, true_and, and_true, if_true, if_false, not_false_eq_true, lset, compLoc, gCmp_eq, gCmp_ne, gCmp_in, gCmp_nin, gCmp_lt, gCmp_gt, gCmp_ge, gUn_neg, gUn_not, gBin_add, gBin_sub, gEq_int, gEq_bool, gEq_str, retOf, r1])
    refine for_g (fun done ρ H => ρ "names" = some (.ref nm) ∧ ρ "found" = some (.ref fd) ∧ Le H₀ H ∧ ∃ p f, RcI fd names p f H ∧ ∀ x ∈ names, ∀ y, y ∈ f x ↔ Pth (adjOf names ukeys uf) (· ∈ done) x y) (l₁ _ _ I₀.nm) (by first | assumption | exact nb50 (by assumption) | exact nb50s (by assumption) | exact nb50t (by assumption) (by assumption) | omega) (fun done ρ H i => i.2.2.1 _ _ I₀.nm) (by decide)
      ⟨by first | exact lset1 (by decide) r1 | exact lset2 (by decide) (by decide) r1 | exact lset3 (by decide) (by decide) (by decide) r1 | (simp (decide := true) only [lset, if_false]; exact r1), by rfl, l₁, p, _, R₁, fun x hx y => ?_⟩ ?_ ?_
    · rw [edge]
      constructor
      · exact .one
      · intro h
        cases h with
        | one e => exact e
        | cons _ h _ => cases h
    · rintro done m rest ρ H K hs ⟨r1, r2, l, p, f, R, hf⟩ kk
      (refine peel ?_; simp (decide := true) only [e_int, e_str, e_bool, k_name, e_bin, e_un, e_bo, k_cmp, k_list, k_tup, e_dict, k_attr, e_from, e_upto, e_item, k_call, k_meth, k_comp, bo_one, gBool_or, gBool_and, es_nil, es_cons, if_nil, if_one, t_not, t_bo, k_tcmp, t_name, t_sub, t_call, al_nil, gAll_or, gAll_and, k_aname, a_attr, a_item, a_tup, an_nil, k_ancons, s_expr, s_ret0, s_ret, k_asg, s_asg_, s_if, k_for, s_while, whK_next, whK_ret, seqK_next, seqK_ret, gSs_nil, tk_sub, tk_attr, tk_call, tk_item, tk_tup, kdL_cons, lk_cons, lk_nil, beq_ff, ex_some, true_and, and_true, if_true, if_false, not_false_eq_true, lset, compLoc, gCmp_eq, gCmp_ne, gCmp_in, gCmp_nin, gCmp_lt, gCmp_gt, gCmp_ge, gUn_neg, gUn_not, gBin_add, gBin_sub, gEq_int, gEq_bool, gEq_str, retOf, r1])
      have hmn : m ∈ names := by rw [hs]; simp
      have hmd : m ∉ done := by
        have := I₀.nd
        rw [hs, List.nodup_append] at this
        exact fun h => this.2.2 m h m List.mem_cons_self rfl
      -- what holds within
      refine for_g (fun dn ρ H => ρ "names" = some (.ref nm) ∧ ρ "found" = some (.ref fd) ∧ ρ "middle" = some (.str m) ∧ Le H₀ H ∧ ∃ p f, RcI fd names p f H ∧ ∀ x ∈ names, ∀ y, y ∈ f x ↔ (if x ∈ dn then Pth (adjOf names ukeys uf) (fun z => z ∈ done ∨ z = m) x y else Pth (adjOf names ukeys uf) (· ∈ done) x y)) (l _ _ I₀.nm) (by first | assumption | exact nb50 (by assumption) | exact nb50s (by assumption) | exact nb50t (by assumption) (by assumption) | omega) (fun done ρ H i => i.2.2.2.1 _ _ I₀.nm) (by decide)
        ⟨?_, ?_, by rfl, l, p, f, R, fun x hx y => by simpa using hf x hx y⟩ ?_ ?_
      · first | exact lset1 (by decide) r1 | exact lset2 (by decide) (by decide) r1 | exact lset3 (by decide) (by decide) (by decide) r1 | (simp (decide := true) only [lset, if_false]; exact r1)
      · first | exact lset1 (by decide) r2 | exact lset2 (by decide) (by decide) r2 | exact lset3 (by decide) (by decide) (by decide) r2 | (simp (decide := true) only [lset, if_false]; exact r2)
      · rintro dn v rst ρ' X K' hs' ⟨s1, s2, s3, lX, p', f', R', hf'⟩ kk'
        (refine peel ?_; simp (decide := true) only [e_int, e_str, e_bool, k_name, e_bin, e_un, e_bo, k_cmp, k_list, k_tup, e_dict, k_attr, e_from, e_upto, e_item, k_call, k_meth, k_comp, bo_one, gBool_or, gBool_and, es_nil, es_cons, if_nil, if_one, t_not, t_bo, k_tcmp, t_name, t_sub, t_call, al_nil, gAll_or, gAll_and, k_aname, a_attr, a_item, a_tup, an_nil, k_ancons, s_expr, s_ret0, s_ret, k_asg, s_asg_, s_if, k_for, s_while, whK_next, whK_ret, seqK_next, seqK_ret, gSs_nil, tk_sub, tk_attr, tk_call, tk_item, tk_tup, kdL_cons, lk_cons, lk_nil, beq_ff, ex_some, true_and, and_true, if_true, if_false, not_false_eq_true, lset, compLoc, gCmp_eq, gCmp_ne, gCmp_in, gCmp_nin, gCmp_lt, gCmp_gt, gCmp_ge, gUn_neg, gUn_not, gBin_add, gBin_sub, gEq_int, gEq_bool, gEq_str, retOf, s1, s2, s3])
        have hvn : v ∈ names := by rw [hs']; simp
        have hvd : v ∉ dn := by
          have := I₀.nd
          rw [hs', List.nodup_append] at this
          exact fun h => this.2.2 v h v List.mem_cons_self rfl
        have t1 : lset ρ' "name" (.str v) "names" = some (.ref nm) := by first | exact lset1 (by decide) s1 | exact lset2 (by decide) (by decide) s1 | exact lset3 (by decide) (by decide) (by decide) s1 | (simp (decide := true) only [lset, if_false]; exact s1)
        have t2 : lset ρ' "name" (.str v) "found" = some (.ref fd) := by first | exact lset1 (by decide) s2 | exact lset2 (by decide) (by decide) s2 | exact lset3 (by decide) (by decide) (by decide) s2 | (simp (decide := true) only [lset, if_false]; exact s2)
        have t3 : lset ρ' "name" (.str v) "middle" = some (.str m) := by first | exact lset1 (by decide) s3 | exact lset2 (by decide) (by decide) s3 | exact lset3 (by decide) (by decide) (by decide) s3 | (simp (decide := true) only [lset, if_false]; exact s3)
        have fv : ∀ y, y ∈ f' v ↔ Pth (adjOf names ukeys uf) (· ∈ done) v y := fun y => by have := hf' v hvn y; rwa [if_neg hvd] at this
        have fm : ∀ y, y ∈ f' m ↔ Pth (adjOf names ukeys uf) (· ∈ done) m y := fun y => by
          have := hf' m hmn y
          rw [this]
          split
          · rw [Pth.split]
            exact ⟨fun h => h.elim id fun h => h.2, .inl⟩
          · exact Iff.rfl
        have hlv := R'.len v hvn
        have hlm := R'.len m hmn
        refine gi_dict R'.d hvn (in_list (R'.l v hvn) (by first | assumption | exact nb50 (by assumption) | exact nb50s (by assumption) | exact nb50t (by assumption) (by assumption) | omega) ?_)
        by_cases hc : m ∈ f' v
        · simp only [hc, decide_true, if_true]
          (refine peel ?_; simp (decide := true) only [e_int, e_str, e_bool, k_name, e_bin, e_un, e_bo, k_cmp, k_list, k_tup, e_dict, k_attr, e_from, e_upto, e_item, k_call, k_meth, k_comp, bo_one, gBool_or, gBool_and, es_nil, es_cons, if_nil, if_one, t_not, t_bo, k_tcmp, t_name, t_sub, t_call, al_nil, gAll_or, gAll_and, k_aname, a_attr, a_item, a_tup, an_nil, k_ancons, s_expr, s_ret0, s_ret, k_asg, s_asg_, s_if, k_for, s_while, whK_next, whK_ret, seqK_next, seqK_ret, gSs_nil, tk_sub, tk_attr, tk_call, tk_item, tk_tup, kdL_cons, lk_cons, lk_nil, beq_ff, ex_some, true_and, and_true, if_true, if_false, not_false_eq_true, lset, compLoc, gCmp_eq, gCmp_ne, gCmp_in, gCmp_nin, gCmp_lt, gCmp_gt, gCmp_ge, gUn_neg, gUn_not, gBin_add, gBin_sub, gEq_int, gEq_bool, gEq_str, retOf, s2, s3])
          refine gi_dict R'.d hvn (gi_dict R'.d hmn ?_)
          refine filter_g (Le X) (fun z => !decide (z ∈ f' v)) (by first | assumption | exact nb50 (by assumption) | exact nb50s (by assumption) | exact nb50t (by assumption) (by assumption) | omega) (Le.refl _) (fun Y lY => lY _ _ (R'.l m hmn)) (fun z hz Y K'' lY kY => gi_dict (lY _ _ R'.d) hvn (in_list (lY _ _ (R'.l v hvn)) (by first | assumption | exact nb50 (by assumption) | exact nb50s (by assumption) | exact nb50t (by assumption) (by assumption) | omega) (kY _ lY))) (fun _ _ _ h => h) fun Y lY => ?_
          intro e1 he1
          have hfl : ((f' m).filter fun z => !decide (z ∈ f' v)).length ≤ 50 := Nat.le_trans (List.length_filter_le _ _) (by first | assumption | exact nb50 (by assumption) | exact nb50s (by assumption) | exact nb50t (by assumption) (by assumption) | omega)
          have lE1 : Le X (hset Y e1 (.list (((f' m).filter fun z => !decide (z ∈ f' v)).map .str))) := lY.trans (Le.new _ he1)
          refine b_cat (lE1 _ _ (R'.l v hvn)) (hset_self _ _ _) (by first | assumption | exact nb50 (by assumption) | exact nb50s (by assumption) | exact nb50t (by assumption) (by assumption) | omega) fun e2 he2 => ?_
          have lE2 := lE1.trans (Le.new (.list ((f' v ++ (f' m).filter fun z => !decide (z ∈ f' v)).map .str)) he2)
          have e2f : e2 ≠ fd := by rintro rfl; rw [lE1 _ _ R'.d] at he2; cases he2
          refine gsi_mem (lE2 _ _ R'.d) (by first | assumption | exact nb50 (by assumption) | exact nb50s (by assumption) | exact nb50t (by assumption) (by assumption) | omega) I₀.nd hvn (kk' _ _ ⟨t1, t2, t3, Le.set _ hfd0 (lX.trans lE2), upd p' v e2, upd f' v (f' v ++ (f' m).filter fun z => !decide (z ∈ f' v)), ⟨?_, ?_, ?_, ?_⟩, fun x hx y => ?_⟩)
          · rw [hset_self]
            congr 2
            refine dm_congr fun y hy => ?_
            unfold upd
            split <;> rfl
          · intro y hy
            by_cases hyv : y = v
            · subst hyv
              rw [upd_same, upd_same, hset_ne _ _ e2f, hset_self]
            · rw [upd_ne _ _ hyv, upd_ne _ _ hyv]
              have h1 := R'.l y hy
              have hne : p' y ≠ fd := by intro e'; rw [e', R'.d] at h1; cases h1
              rw [hset_ne _ _ hne]
              exact lE2 _ _ h1
          · intro y hy
            by_cases hyv : y = v
            · subst hyv
              rw [upd_same, List.nodup_append]
              refine ⟨R'.nd y hy, List.Pairwise.sublist List.filter_sublist (R'.nd m hmn), fun a ha b hb' e => ?_⟩
              have := (List.mem_filter.mp hb').2
              rw [← e] at this
              simp [ha] at this
            · rw [upd_ne _ _ hyv]; exact R'.nd y hy
          · intro y hy z hz
            by_cases hyv : y = v
            · subst hyv
              rw [upd_same] at hz
              rcases List.mem_append.mp hz with h | h
              · exact R'.sub y hy z h
              · exact R'.sub m hmn z (List.mem_filter.mp h).1
            · rw [upd_ne _ _ hyv] at hz; exact R'.sub y hy z hz
          · by_cases hxv : x = v
            · subst hxv
              rw [upd_same, if_pos (by simp), Pth.split, ← fv, ← fv, ← fm, List.mem_append, List.mem_filter]
              by_cases hy : y ∈ f' x
              · simp [hy]
              · simp [hy, hc]
            · rw [upd_ne _ _ hxv, hf' x hx y]
              simp [hxv]
        · simp only [hc, decide_false, Bool.false_eq_true, if_false]
          refine kk' _ _ ⟨t1, t2, t3, lX, p', f', R', fun x hx y => ?_⟩
          by_cases hxv : x = v
          · subst hxv
            rw [if_pos (by simp), Pth.split, ← fv, ← fv]
            simp [hc]
          · rw [hf' x hx y]
            simp [hxv]
      · rintro ρ' X ⟨s1, s2, s3, lX, p', f', R', hf'⟩
        rw [seqK_next, gSs_nil]
        refine kk _ _ ⟨s1, s2, lX, p', f', R', fun x hx y => ?_⟩
        rw [hf' x hx y, if_pos hx]
        constructor
        · exact fun h => h.mono fun z hz => by rcases hz with h | rfl <;> simp [*]
        · exact fun h => h.mono fun z hz => by simpa using hz
    · rintro ρ' X ⟨s1, s2, lX, p', f', R', hf'⟩
      rw [seqK_next]
      (refine peel ?_; simp (decide := true) only [e_int, e_str, e_bool, k_name, e_bin, e_un, e_bo, k_cmp, k_list, k_tup, e_dict, k_attr, e_from, e_upto, e_item, k_call, k_meth, k_comp, bo_one, gBool_or, gBool_and, es_nil, es_cons, if_nil, if_one, t_not, t_bo, k_tcmp, t_name, t_sub, t_call, al_nil, gAll_or, gAll_and, k_aname, a_attr, a_item, a_tup, an_nil, k_ancons, s_expr, s_ret0, s_ret, k_asg, s_asg_, s_if, k_for, s_while, whK_next, whK_ret, seqK_next, seqK_ret, gSs_nil, tk_sub, tk_attr, tk_call, tk_item, tk_tup, kdL_cons, lk_cons, lk_nil, beq_ff, ex_some, true_and, and_true, if_true, if_false, not_false_eq_true, lset, compLoc, gCmp_eq, gCmp_ne, gCmp_in, gCmp_nin, gCmp_lt, gCmp_gt, gCmp_ge, gUn_neg, gUn_not, gBin_add, gBin_sub, gEq_int, gEq_bool, gEq_str, retOf, s2])
      exact q X fd p' f' lX R' hf'

-- P10
noncomputable def rightB : { x : Fn // x = fnT "_law_groups_right" } := by
  refine ⟨?x, Eq.symm ?h⟩
  case' h => conv => lhs; whnf
noncomputable def roundB : { x : Fn // x = fnT "is_round" } := by
  refine ⟨?x, Eq.symm ?h⟩
  case' h => conv => lhs; whnf

noncomputable def hdS (g : List Str) : Str := g.headD ""

-- what is asked of the groups
structure GOk (names : List Str) (f : Str → List Str) (ug : Str → List Str) (G : List (List Str)) : Prop where
  ne : ∀ g ∈ G, g ≠ []
  flt : ∀ g ∈ G, (names.filter fun n => decide (n ∈ g)) = g
  disj : ∀ (i : Nat) (g : List Str), G[i]? = some g → ∀ n ∈ g, n ∉ (G.take i).flatten
  scc : ∀ g ∈ G, ∀ n ∈ names, (n = hdS g ∨ (n ∈ f (hdS g) ∧ hdS g ∈ f n)) ↔ n ∈ g
  later : ∀ (i j : Nat) (g h : List Str), i < j → G[i]? = some g → G[j]? = some h → ∀ n ∈ g, hdS h ∉ f n
  len : G.flatten.length = names.length
  rnd : ∀ g ∈ G, (1 < g.length ∨ hdS g ∈ ug (hdS g)) ↔ hdS g ∈ f (hdS g)

theorem hd_item {g : List Str} (h : g ≠ []) : g[0]? = some (hdS g) ∧ hdS g ∈ g := by
  cases g with
  | nil => exact absurd rfl h
  | cons x r => exact ⟨rfl, by simp [hdS]⟩

theorem InG.get2 {nm us : Addr} {names ukeys : List Str} {pu : Str → Addr} {uf : Str → List Str} {H : GH} {y : Str} {Q : GV → GH → Prop} (I : InG nm us names ukeys pu uf H)
    (q : ∀ H' a, Le H H' → H' a = some (.list ((uget ukeys uf y).map .str)) → Q (.ref a) H') : gNew (.list []) H fun v H₁ => gDictMeth "get" us [.str y, v] H₁ Q := by
  intro e he
  refine m_get ((Le.new _ he) _ _ I.us) ?_
  have l : Le H (hset H e (.list [])) := Le.new _ he
  by_cases h : y ∈ ukeys
  · rw [if_pos h]; exact q _ _ l (by rw [l _ _ (I.ul y h)]; simp [uget, h])
  · rw [if_neg h]; exact q _ _ l (by rw [hset_self]; simp [uget, h])

theorem round_g {k : Nat} {nm us gr : Addr} {names ukeys : List Str} {pu : Str → Addr} {uf : Str → List Str} {g : List Str} {H : GH} {Q : GV → GH → Prop} (I : InG nm us names ukeys pu uf H) (hg : H gr = some (.list (g.map .str))) (hl : g.length ≤ 50) (hne : g ≠ [])
    (q : ∀ H', Le H H' → Q (.bool (decide (1 < g.length ∨ hdS g ∈ uget ukeys uf (hdS g)))) H') : gFn (PhiS k) (fnT "is_round") [.ref gr, .ref us] H Q := by
  refine start roundB rfl fun ρ hρ => ?_
  have r1 : ρ "group" = some (.ref gr) := hρ _
  have r2 : ρ "uses" = some (.ref us) := hρ _
  clear hρ
  unfold roundB
  (refine peel ?_; simp (decide := true) only [e_int, e_str, e_bool, k_name, e_bin, e_un, e_bo, k_cmp, k_list, k_tup, e_dict, k_attr, e_from, e_upto, e_item, k_call, k_meth, k_comp, bo_one, gBool_or, gBool_and, es_nil, es_cons, if_nil, if_one, t_not, t_bo, k_tcmp, t_name, t_sub, t_call, al_nil, gAll_or, gAll_and, k_aname, a_attr, a_item, a_tup, an_nil, k_ancons, s_expr, s_ret0, s_ret, k_asg, s_asg_, s_if, k_for, s_while, whK_next, whK_ret, seqK_next, seqK_ret, gSs_nil, tk_sub, tk_attr, tk_call, tk_item, tk_tup, kdL_cons, lk_cons, lk_nil, beq_ff, ex_some, true_and, and_true, if_true, if_false, not_false_eq_true, lset, compLoc, gCmp_eq, gCmp_ne, gCmp_in, gCmp_nin, gCmp_lt, gCmp_gt, gCmp_ge, gUn_neg, gUn_not, gBin_add, gBin_sub, gEq_int, gEq_bool, gEq_str, retOf, r1, r2])
  have hb : (1000 : Nat) < bnd := by decide
  refine len_list hg (by first | assumption | exact nbm (by assumption) | exact nbl (by assumption) | exact nbm1 (by assumption) | (simp; omega)) ?_
  try rw [gCmp_gt]
  refine tr_bool ?_
  rw [List.length_map]
  by_cases h1 : (g.length : Int) > 1
  · have h1' : 1 < g.length := by omega
    have := q H (Le.refl _)
    simp only [h1', true_or, decide_true] at this
    simpa [h1] using this
  · have h1' : ¬ 1 < g.length := by omega
    simp only [h1, decide_false, Bool.false_eq_true, if_false]
    have hx : (g.map GV.str)[(0 : Int).toNat]? = some (.str (hdS g)) := by
      have := (hd_item hne).1
      simp [this]
    refine gi_list hg (by first | assumption | exact nbm (by assumption) | exact nbl (by assumption) | exact nbm1 (by assumption) | (simp; omega)) (by decide) hx (me_get I.us (gi_list hg (by first | assumption | exact nbm (by assumption) | exact nbl (by assumption) | exact nbm1 (by assumption) | (simp; omega)) (by decide) hx (I.get2 fun H' a l ha => in_list ha (by have := I.ulen (hdS g); omega) ?_)))
    have := q H' l
    simpa only [h1', false_or] using this

theorem eq_list {a b : Addr} {l₁ l₂ : List Str} {H : GH} {P : Bool → Prop} (h : a ≠ b) (h1 : H a = some (.list (l₁.map .str))) (h2 : H b = some (.list (l₂.map .str))) (b1 : l₁.length ≤ bnd) (b2 : l₂.length ≤ bnd) (q : P (decide (l₁ = l₂))) : gEq (.ref a) (.ref b) H P :=
  ⟨_, _, l₁, l₂, h, h1, h2, strs_map _, strs_map _, b1, b2, q⟩
theorem items_range (n : Nat) : itemsOf (.range (n : Int)) = some ((List.range n).map fun (i : Nat) => GV.int (i : Int)) := by
  show (if -(bnd : Int) ≤ (n : Int) then some ((List.range (n : Int).toNat).map fun (i : Nat) => GV.int (i : Int)) else none) = _
  rw [if_pos (by have : (0 : Int) ≤ (bnd : Int) := Int.natCast_nonneg _; omega), Int.toNat_natCast]
-- for, over a range
theorem for_r {kd : Kd} {x : Str} {a : Addr} {n : Nat} {body : Loc → GH → (GF → Loc → GH → Prop) → Prop} {Q : GF → Loc → GH → Prop} {ρ : Loc} {H : GH} (I : Nat → Loc → GH → Prop) (h : H a = some (.range (n : Int))) (hb : n ≤ bnd)
    (hI : ∀ i ρ H, I i ρ H → H a = some (.range (n : Int))) (hk : kd x = some .local ∨ kd x = some .cell) (init : I 0 ρ H)
    (step : ∀ i ρ H (K : Loc → GH → Prop), i < n → I i ρ H → (∀ ρ' H', I (i + 1) ρ' H' → K ρ' H') →
      body (lset ρ x (.int (i : Int))) H fun f ρ'' H' => match f with
        | .next => K ρ'' H'
        | .ret y => Q (.ret y) ρ'' H')
    (fin : ∀ ρ H, I n ρ H → Q .next ρ H) : ∃ a' o l', GV.ref a = .ref a' ∧ H a' = some o ∧ itemsOf o = some l' ∧ l'.length ≤ bnd ∧ gFor kd x a' o body l' ρ H Q := by
  refine ⟨a, _, (List.range n).map fun (i : Nat) => GV.int (i : Int), rfl, h, items_range n, by simpa using hb, ?_⟩
  · refine for_ind (fun done ρ H => I done.length ρ H) (fun done v rest ρ H K e i k => ⟨hI _ _ _ i, hk, ?_⟩) (fun ρ H i => ⟨?_, ?_⟩) init
    · have hv : v = done.length := by
        have := congrArg (fun l : List Nat => l[done.length]?) e
        simp only [List.getElem?_append_right (Nat.le_refl _), Nat.sub_self, List.getElem?_cons_zero] at this
        have hlt : done.length < n := by have := congrArg List.length e; simp at this; omega
        rw [List.getElem?_range hlt] at this
        exact (Option.some.inj this).symm
      have hlt : done.length < n := by have := congrArg List.length e; simp at this; omega
      rw [hv]
      exact step done.length ρ H K hlt i fun ρ' H' i' => k ρ' H' (by simpa using i')
    · exact hI _ _ _ i
    · exact fin ρ H (by simpa using i)

theorem LL_at {H : GH} : ∀ {fs : List Addr} {F : List (List Str)} {i : Nat} {v : Addr}, LL H fs F → fs[i]? = some v → ∃ g, F[i]? = some g ∧ H v = some (.list (g.map .str))
  | [], _, _, _, _, e => by simp at e
  | _ :: _, [], _, _, h, _ => h.elim
  | f :: fs, g :: F, 0, v, h, e => by simp at e; subst e; exact ⟨g, rfl, h.1⟩
  | f :: fs, g :: F, i + 1, v, h, e => by
    obtain ⟨g', h1, h2⟩ := LL_at (i := i) h.2 (by simpa using e)
    exact ⟨g', by simpa using h1, h2⟩
theorem LL.le {H H' : GH} (l : Le H H') {fs : List Addr} {F : List (List Str)} (h : LL H fs F) : LL H' fs F := by
  induction fs generalizing F with
  | nil => cases F with
    | nil => trivial
    | cons _ _ => exact h.elim
  | cons a fs ih => cases F with
    | nil => exact h.elim
    | cons g F => exact ⟨l _ _ h.1, ih h.2⟩
theorem RcI.le {fd : Addr} {names : List Str} {p : Str → Addr} {f : Str → List Str} {H H' : GH} (R : RcI fd names p f H) (l : Le H H') : RcI fd names p f H' := ⟨l _ _ R.d, fun y hy => l _ _ (R.l y hy), R.nd, R.sub⟩

-- P11
structure GrI (nm fd gr : Addr) (names : List Str) (p : Str → Addr) (f : Str → List Str) (gs : List Addr) (G : List (List Str)) (H : GH) : Prop where
  nm : H nm = some (.list (names.map .str))
  R : RcI fd names p f H
  gr : H gr = some (.list (gs.map .ref))
  ll : LL H gs G
theorem GrI.le {nm fd gr : Addr} {names : List Str} {p : Str → Addr} {f : Str → List Str} {gs : List Addr} {G : List (List Str)} {H H' : GH} (I : GrI nm fd gr names p f gs G H) (l : Le H H') : GrI nm fd gr names p f gs G H' :=
  ⟨l _ _ I.nm, I.R.le l, l _ _ I.gr, I.ll.le l⟩

-- name == first or (name in leads[first] and first in leads[name])
theorem is_in_g {v x : Str} {fd : Addr} {names : List Str} {p : Str → Addr} {f : Str → List Str} {H : GH} {K : GV → GH → Prop} (R : RcI fd names p f H) (hx : x ∈ names) (hv : v ∈ names) (hn : names.length ≤ 50) (q : K (.bool (decide (v = x) || (decide (v ∈ f x) && decide (x ∈ f v)))) H) :
    if decide (v = x) = true then K (.bool (decide (v = x))) H else gItem (.ref fd) (.str x) H fun b H₂ => gIn (.str v) b H₂ fun c => gTruth (.bool c) H₂ fun t => if t = true then gItem (.ref fd) (.str v) H₂ fun b H₂ => gIn (.str x) b H₂ fun c => K (.bool c) H₂ else K (.bool c) H₂ := by
  have hb : (50 : Nat) ≤ bnd := by decide
  have hlx := R.len x hx
  have hlv := R.len v hv
  by_cases h : v = x
  · rw [if_pos (decide_eq_true h)]
    simpa only [h, decide_true, Bool.true_or] using q
  · rw [if_neg (by simpa using h)]
    refine gi_dict R.d hx (in_list (R.l _ hx) (by first | assumption | exact nb50 (by assumption) | exact nb50s (by assumption) | exact nb50t (by assumption) (by assumption) | omega) (tr_bool ?_))
    by_cases h1 : v ∈ f x
    · rw [if_pos (decide_eq_true h1)]
      refine gi_dict R.d hv (in_list (R.l _ hv) (by first | assumption | exact nb50 (by assumption) | exact nb50s (by assumption) | exact nb50t (by assumption) (by assumption) | omega) ?_)
      simpa only [h, h1, decide_true, decide_false, Bool.false_or, Bool.true_and] using q
    · rw [if_neg (by simpa using h1)]
      simpa only [h, h1, decide_false, Bool.false_or, Bool.false_and] using q

theorem right_g {k : Nat} {nm fd gr : Addr} {names : List Str} {p : Str → Addr} {f ug : Str → List Str} {gs : List Addr} {G : List (List Str)} {H₀ : GH} {Q : GV → GH → Prop} (I₀ : GrI nm fd gr names p f gs G H₀) (OK : GOk names f ug G) (nd : names.Nodup) (hnl : names.length ≤ 50) (hG : G.length ≤ 50)
    (q : ∀ H', Le H₀ H' → Q (.bool true) H') : gFn (PhiS k) (fnT "_law_groups_right") [.ref nm, .ref fd, .ref gr] H₀ Q := by
  refine start rightB rfl fun ρ₀ hρ => ?_
  have w1 : ρ₀ "names" = some (.ref nm) := hρ _
  have w2 : ρ₀ "leads" = some (.ref fd) := hρ _
  have w3 : ρ₀ "groups" = some (.ref gr) := hρ _
  clear hρ
  unfold rightB
  (refine peel ?_; simp (decide := true) only [e_int, e_str, e_bool, k_name, e_bin, e_un, e_bo, k_cmp, k_list, k_tup, e_dict, k_attr, e_from, e_upto, e_item, k_call, k_meth, k_comp, bo_one, gBool_or, gBool_and, es_nil, es_cons, if_nil, if_one, t_not, t_bo, k_tcmp, t_name, t_sub, t_call, al_nil, gAll_or, gAll_and, k_aname, a_attr, a_item, a_tup, an_nil, k_ancons, s_expr, s_ret0, s_ret, k_asg, s_asg_, s_if, k_for, s_while, whK_next, whK_ret, seqK_next, seqK_ret, gSs_nil, tk_sub, tk_attr, tk_call, tk_item, tk_tup, kdL_cons, lk_cons, lk_nil, beq_ff, ex_some, true_and, and_true, if_true, if_false, not_false_eq_true, lset, compLoc, gCmp_eq, gCmp_ne, gCmp_in, gCmp_nin, gCmp_lt, gCmp_gt, gCmp_ge, gUn_neg, gUn_not, gBin_add, gBin_sub, gEq_int, gEq_bool, gEq_str, retOf])
  have hb : (1000 : Nat) < bnd := by decide
  have hgs : gs.length = G.length := I₀.ll.length
  have hgs50 : gs.length ≤ 50 := hgs ▸ hG
  intro mt hmt
  have L1 : Le H₀ (hset H₀ mt (.list [])) := Le.new _ hmt
  (refine peel ?_; simp (decide := true) only [e_int, e_str, e_bool, k_name, e_bin, e_un, e_bo, k_cmp, k_list, k_tup, e_dict, k_attr, e_from, e_upto, e_item, k_call, k_meth, k_comp, bo_one, gBool_or, gBool_and, es_nil, es_cons, if_nil, if_one, t_not, t_bo, k_tcmp, t_name, t_sub, t_call, al_nil, gAll_or, gAll_and, k_aname, a_attr, a_item, a_tup, an_nil, k_ancons, s_expr, s_ret0, s_ret, k_asg, s_asg_, s_if, k_for, s_while, whK_next, whK_ret, seqK_next, seqK_ret, gSs_nil, tk_sub, tk_attr, tk_call, tk_item, tk_tup, kdL_cons, lk_cons, lk_nil, beq_ff, ex_some, true_and, and_true, if_true, if_false, not_false_eq_true, lset, compLoc, gCmp_eq, gCmp_ne, gCmp_in, gCmp_nin, gCmp_lt, gCmp_gt, gCmp_ge, gUn_neg, gUn_not, gBin_add, gBin_sub, gEq_int, gEq_bool, gEq_str, retOf, w3])
  refine len_list (L1 _ _ I₀.gr) (by first | assumption | exact nbm (by assumption) | exact nbl (by assumption) | exact nbm1 (by assumption) | (simp; omega)) ?_
  rw [List.length_map, hgs]
  refine range_g (by first | assumption | exact nb50 (by assumption) | exact nb50s (by assumption) | exact nb50t (by assumption) (by assumption) | omega) (by first | assumption | exact nb50 (by assumption) | exact nb50s (by assumption) | exact nb50t (by assumption) (by assumption) | omega) fun rg hrg => ?_
  have L2 := L1.trans (Le.new (.range (G.length : Int)) hrg)
  have gsub : ∀ {g}, g ∈ G → ∀ n ∈ g, n ∈ names := fun {g} hg n hn => by
    have := OK.flt g hg
    rw [← this] at hn
    exact (List.mem_filter.mp hn).1
  have glen : ∀ {g}, g ∈ G → g.length ≤ 50 := fun {g} hg => by
    have := OK.flt g hg
    rw [← this]
    exact Nat.le_trans (List.length_filter_le _ _) hnl
  refine for_r (fun i ρ H => ρ "names" = some (.ref nm) ∧ ρ "leads" = some (.ref fd) ∧ ρ "groups" = some (.ref gr) ∧ Le (hset (hset H₀ mt (.list [])) rg (.range (G.length : Int))) H ∧ ∃ m : Addr, ρ "met" = some (.ref m) ∧ H m = some (.list ((G.take i).flatten.map .str)))
    (hset_self _ _ _) (by first | assumption | exact nb50 (by assumption) | exact nb50s (by assumption) | exact nb50t (by assumption) (by assumption) | omega) (fun i ρ H h => h.2.2.2.1 _ _ (hset_self _ _ _)) (by decide) ⟨by first | exact lset1 (by decide) w1 | exact lset2 (by decide) (by decide) w1 | exact lset3 (by decide) (by decide) (by decide) w1 | (simp (decide := true) only [lset, if_false]; exact w1), by first | exact lset1 (by decide) w2 | exact lset2 (by decide) (by decide) w2 | exact lset3 (by decide) (by decide) (by decide) w2 | (simp (decide := true) only [lset, if_false]; exact w2), by first | exact lset1 (by decide) w3 | exact lset2 (by decide) (by decide) w3 | exact lset3 (by decide) (by decide) (by decide) w3 | (simp (decide := true) only [lset, if_false]; exact w3), Le.refl _, mt, by rfl, ?_⟩ ?_ ?_
  · exact (Le.new _ hrg) _ _ (hset_self _ _ _)
  · rintro i ρ X K hi ⟨r1, r2, r3, lX0, m, r4, hm⟩ kk
    (refine peel ?_; simp (decide := true) only [e_int, e_str, e_bool, k_name, e_bin, e_un, e_bo, k_cmp, k_list, k_tup, e_dict, k_attr, e_from, e_upto, e_item, k_call, k_meth, k_comp, bo_one, gBool_or, gBool_and, es_nil, es_cons, if_nil, if_one, t_not, t_bo, k_tcmp, t_name, t_sub, t_call, al_nil, gAll_or, gAll_and, k_aname, a_attr, a_item, a_tup, an_nil, k_ancons, s_expr, s_ret0, s_ret, k_asg, s_asg_, s_if, k_for, s_while, whK_next, whK_ret, seqK_next, seqK_ret, gSs_nil, tk_sub, tk_attr, tk_call, tk_item, tk_tup, kdL_cons, lk_cons, lk_nil, beq_ff, ex_some, true_and, and_true, if_true, if_false, not_false_eq_true, lset, compLoc, gCmp_eq, gCmp_ne, gCmp_in, gCmp_nin, gCmp_lt, gCmp_gt, gCmp_ge, gUn_neg, gUn_not, gBin_add, gBin_sub, gEq_int, gEq_bool, gEq_str, retOf, r1, r2, r3, r4])
    have lX : Le H₀ X := L2.trans lX0
    have IX := I₀.le lX
    have hga : gs[i]? = some gs[i] := List.getElem?_eq_getElem (by first | assumption | exact nb50 (by assumption) | exact nb50s (by assumption) | exact nb50t (by assumption) (by assumption) | omega)
    generalize gs[i] = ga at hga
    obtain ⟨g, hgi, hg⟩ := LL_at IX.ll hga
    have hgG : g ∈ G := List.mem_of_getElem? hgi
    have hgl := glen hgG
    have hgne := OK.ne g hgG
    have htl : (G.take i).flatten.length ≤ 50 := by
      have h1 : (G.take i).flatten.length ≤ G.flatten.length := by
        conv => rhs; rw [← List.take_append_drop i G]
        rw [List.flatten_append, List.length_append]; omega
      have := OK.len; omega
    refine gi_list (v := .ref ga) IX.gr (by first | assumption | exact nbm (by assumption) | exact nbl (by assumption) | exact nbm1 (by assumption) | (simp; omega)) (by first | assumption | exact nb50 (by assumption) | exact nb50s (by assumption) | exact nb50t (by assumption) (by assumption) | omega) (by simp [hga]) ?_
    have x1 : lset (lset ρ "at" (.int (i : Int))) "group" (.ref ga) "names" = some (.ref nm) := by first | exact lset1 (by decide) r1 | exact lset2 (by decide) (by decide) r1 | exact lset3 (by decide) (by decide) (by decide) r1 | (simp (decide := true) only [lset, if_false]; exact r1)
    have x2 : lset (lset ρ "at" (.int (i : Int))) "group" (.ref ga) "leads" = some (.ref fd) := by first | exact lset1 (by decide) r2 | exact lset2 (by decide) (by decide) r2 | exact lset3 (by decide) (by decide) (by decide) r2 | (simp (decide := true) only [lset, if_false]; exact r2)
    have x3 : lset (lset ρ "at" (.int (i : Int))) "group" (.ref ga) "groups" = some (.ref gr) := by first | exact lset1 (by decide) r3 | exact lset2 (by decide) (by decide) r3 | exact lset3 (by decide) (by decide) (by decide) r3 | (simp (decide := true) only [lset, if_false]; exact r3)
    have x4 : lset (lset ρ "at" (.int (i : Int))) "group" (.ref ga) "met" = some (.ref m) := by first | exact lset1 (by decide) r4 | exact lset2 (by decide) (by decide) r4 | exact lset3 (by decide) (by decide) (by decide) r4 | (simp (decide := true) only [lset, if_false]; exact r4)
    have x5 : lset (lset ρ "at" (.int (i : Int))) "group" (.ref ga) "group" = some (.ref ga) := by simp (decide := true) only [lset, if_true]
    have x6 : lset (lset ρ "at" (.int (i : Int))) "group" (.ref ga) "at" = some (.int (i : Int)) := by simp (decide := true) only [lset, if_true, if_false]
    generalize lset (lset ρ "at" (.int (i : Int))) "group" (.ref ga) = ρx at x1 x2 x3 x4 x5 x6 ⊢
    (refine peel ?_; simp (decide := true) only [e_int, e_str, e_bool, k_name, e_bin, e_un, e_bo, k_cmp, k_list, k_tup, e_dict, k_attr, e_from, e_upto, e_item, k_call, k_meth, k_comp, bo_one, gBool_or, gBool_and, es_nil, es_cons, if_nil, if_one, t_not, t_bo, k_tcmp, t_name, t_sub, t_call, al_nil, gAll_or, gAll_and, k_aname, a_attr, a_item, a_tup, an_nil, k_ancons, s_expr, s_ret0, s_ret, k_asg, s_asg_, s_if, k_for, s_while, whK_next, whK_ret, seqK_next, seqK_ret, gSs_nil, tk_sub, tk_attr, tk_call, tk_item, tk_tup, kdL_cons, lk_cons, lk_nil, beq_ff, ex_some, true_and, and_true, if_true, if_false, not_false_eq_true, lset, compLoc, gCmp_eq, gCmp_ne, gCmp_in, gCmp_nin, gCmp_lt, gCmp_gt, gCmp_ge, gUn_neg, gUn_not, gBin_add, gBin_sub, gEq_int, gEq_bool, gEq_str, retOf, x1, x4, x5])
    intro e1 he1
    have l1 := Le.new (.list []) he1
    refine eq_list (l₁ := g) (l₂ := []) (fresh_ne hg he1) (l1 _ _ hg) (hset_self _ _ _) (by first | assumption | exact nb50 (by assumption) | exact nb50s (by assumption) | exact nb50t (by assumption) (by assumption) | omega) (Nat.zero_le _) ?_
    simp only [hgne, decide_false, Bool.false_eq_true, if_false]
    refine filter_g (Le (hset X e1 (.list []))) (fun z => decide (z ∈ g)) (by first | assumption | exact nb50 (by assumption) | exact nb50s (by assumption) | exact nb50t (by assumption) (by assumption) | omega) (Le.refl _) (fun Y lY => lY _ _ (l1 _ _ IX.nm)) (fun z hz Y K' lY kY => in_list (lY _ _ (l1 _ _ hg)) (by first | assumption | exact nb50 (by assumption) | exact nb50s (by assumption) | exact nb50t (by assumption) (by assumption) | omega) (kY _ lY)) (fun _ _ _ h => h) fun Y2 lY2 => ?_
    rw [OK.flt g hgG]
    intro e2 he2
    have l2 : Le X (hset Y2 e2 (.list (g.map .str))) := l1.trans (lY2.trans (Le.new _ he2))
    refine eq_list (l₁ := g) (l₂ := g) (fresh_ne (lY2 _ _ (l1 _ _ hg)) he2) (l2 _ _ hg) (hset_self _ _ _) (by first | assumption | exact nb50 (by assumption) | exact nb50s (by assumption) | exact nb50t (by assumption) (by assumption) | omega) (by first | assumption | exact nb50 (by assumption) | exact nb50s (by assumption) | exact nb50t (by assumption) (by assumption) | omega) ?_
    simp only [decide_true, Bool.not_true, Bool.false_eq_true, if_false]
    refine filter_g (Le (hset Y2 e2 (.list (g.map .str)))) (fun z => decide (z ∈ (G.take i).flatten)) (by first | assumption | exact nb50 (by assumption) | exact nb50s (by assumption) | exact nb50t (by assumption) (by assumption) | omega) (Le.refl _) (fun Y lY => lY _ _ (l2 _ _ hg)) (fun z hz Y K' lY kY => in_list (lY _ _ (l2 _ _ hm)) (by first | assumption | exact nb50 (by assumption) | exact nb50s (by assumption) | exact nb50t (by assumption) (by assumption) | omega) (kY _ lY)) (fun _ _ _ h => h) fun Y3 lY3 => ?_
    have hemp : (g.filter fun z => decide (z ∈ (G.take i).flatten)) = [] := List.filter_eq_nil_iff.mpr fun z hz => by simpa using OK.disj i g hgi z hz
    rw [hemp, List.map_nil]
    intro e3 he3 e4 he4
    have l4 : Le X (hset (hset Y3 e3 (.list [])) e4 (.list [])) := l2.trans (lY3.trans ((Le.new _ he3).trans (Le.new _ he4)))
    refine eq_list (l₁ := []) (l₂ := []) (fresh_ne (hset_self _ _ _) he4) ((Le.new _ he4) _ _ (hset_self _ _ _)) (hset_self _ _ _) (Nat.zero_le _) (Nat.zero_le _) ?_
    simp only [decide_true, Bool.not_true, Bool.false_eq_true, if_false]
    (refine peel ?_; simp (decide := true) only [e_int, e_str, e_bool, k_name, e_bin, e_un, e_bo, k_cmp, k_list, k_tup, e_dict, k_attr, e_from, e_upto, e_item, k_call, k_meth, k_comp, bo_one, gBool_or, gBool_and, es_nil, es_cons, if_nil, if_one, t_not, t_bo, k_tcmp, t_name, t_sub, t_call, al_nil, gAll_or, gAll_and, k_aname, a_attr, a_item, a_tup, an_nil, k_ancons, s_expr, s_ret0, s_ret, k_asg, s_asg_, s_if, k_for, s_while, whK_next, whK_ret, seqK_next, seqK_ret, gSs_nil, tk_sub, tk_attr, tk_call, tk_item, tk_tup, kdL_cons, lk_cons, lk_nil, beq_ff, ex_some, true_and, and_true, if_true, if_false, not_false_eq_true, lset, compLoc, gCmp_eq, gCmp_ne, gCmp_in, gCmp_nin, gCmp_lt, gCmp_gt, gCmp_ge, gUn_neg, gUn_not, gBin_add, gBin_sub, gEq_int, gEq_bool, gEq_str, retOf, x4, x5])
    refine b_cat (l4 _ _ hm) (l4 _ _ hg) (by first | assumption | exact nb50 (by assumption) | exact nb50s (by assumption) | exact nb50t (by assumption) (by assumption) | omega) fun m' hm' => ?_
    have l5 := l4.trans (Le.new (.list (((G.take i).flatten ++ g).map .str)) hm')
    have hm5 : hset (hset (hset Y3 e3 (.list [])) e4 (.list [])) m' (.list (((G.take i).flatten ++ g).map .str)) m' = some (.list (((G.take i).flatten ++ g).map .str)) := hset_self _ _ _
    generalize hX5 : hset (hset (hset Y3 e3 (.list [])) e4 (.list [])) m' (.list (((G.take i).flatten ++ g).map .str)) = X5 at l5 hm5 ⊢
    have I5 := IX.le l5
    (refine peel ?_; simp (decide := true) only [e_int, e_str, e_bool, k_name, e_bin, e_un, e_bo, k_cmp, k_list, k_tup, e_dict, k_attr, e_from, e_upto, e_item, k_call, k_meth, k_comp, bo_one, gBool_or, gBool_and, es_nil, es_cons, if_nil, if_one, t_not, t_bo, k_tcmp, t_name, t_sub, t_call, al_nil, gAll_or, gAll_and, k_aname, a_attr, a_item, a_tup, an_nil, k_ancons, s_expr, s_ret0, s_ret, k_asg, s_asg_, s_if, k_for, s_while, whK_next, whK_ret, seqK_next, seqK_ret, gSs_nil, tk_sub, tk_attr, tk_call, tk_item, tk_tup, kdL_cons, lk_cons, lk_nil, beq_ff, ex_some, true_and, and_true, if_true, if_false, not_false_eq_true, lset, compLoc, gCmp_eq, gCmp_ne, gCmp_in, gCmp_nin, gCmp_lt, gCmp_gt, gCmp_ge, gUn_neg, gUn_not, gBin_add, gBin_sub, gEq_int, gEq_bool, gEq_str, retOf, x1])
    refine for_g (fun dn ρ' H => ρ' "names" = some (.ref nm) ∧ ρ' "leads" = some (.ref fd) ∧ ρ' "groups" = some (.ref gr) ∧ ρ' "met" = some (.ref m') ∧ ρ' "group" = some (.ref ga) ∧ ρ' "at" = some (.int (i : Int)) ∧ Le X5 H) I5.nm (by first | assumption | exact nb50 (by assumption) | exact nb50s (by assumption) | exact nb50t (by assumption) (by assumption) | omega) (fun dn ρ' H h => h.2.2.2.2.2.2 _ _ I5.nm) (by decide)
      ⟨?_, ?_, ?_, by rfl, ?_, ?_, Le.refl _⟩ ?_ ?_
    · first | exact lset1 (by decide) x1 | exact lset2 (by decide) (by decide) x1 | exact lset3 (by decide) (by decide) (by decide) x1 | (simp (decide := true) only [lset, if_false]; exact x1)
    · first | exact lset1 (by decide) x2 | exact lset2 (by decide) (by decide) x2 | exact lset3 (by decide) (by decide) (by decide) x2 | (simp (decide := true) only [lset, if_false]; exact x2)
    · first | exact lset1 (by decide) x3 | exact lset2 (by decide) (by decide) x3 | exact lset3 (by decide) (by decide) (by decide) x3 | (simp (decide := true) only [lset, if_false]; exact x3)
    · first | exact lset1 (by decide) x5 | exact lset2 (by decide) (by decide) x5 | exact lset3 (by decide) (by decide) (by decide) x5 | (simp (decide := true) only [lset, if_false]; exact x5)
    · first | exact lset1 (by decide) x6 | exact lset2 (by decide) (by decide) x6 | exact lset3 (by decide) (by decide) (by decide) x6 | (simp (decide := true) only [lset, if_false]; exact x6)
    · rintro dn v rst ρ' Z K' hs ⟨s1, s2, s3, s4, s5, s6, lZ⟩ kk'
      (refine peel ?_; simp (decide := true) only [e_int, e_str, e_bool, k_name, e_bin, e_un, e_bo, k_cmp, k_list, k_tup, e_dict, k_attr, e_from, e_upto, e_item, k_call, k_meth, k_comp, bo_one, gBool_or, gBool_and, es_nil, es_cons, if_nil, if_one, t_not, t_bo, k_tcmp, t_name, t_sub, t_call, al_nil, gAll_or, gAll_and, k_aname, a_attr, a_item, a_tup, an_nil, k_ancons, s_expr, s_ret0, s_ret, k_asg, s_asg_, s_if, k_for, s_while, whK_next, whK_ret, seqK_next, seqK_ret, gSs_nil, tk_sub, tk_attr, tk_call, tk_item, tk_tup, kdL_cons, lk_cons, lk_nil, beq_ff, ex_some, true_and, and_true, if_true, if_false, not_false_eq_true, lset, compLoc, gCmp_eq, gCmp_ne, gCmp_in, gCmp_nin, gCmp_lt, gCmp_gt, gCmp_ge, gUn_neg, gUn_not, gBin_add, gBin_sub, gEq_int, gEq_bool, gEq_str, retOf, s5])
      have hvn : v ∈ names := by rw [hs]; simp
      have IZ := I5.le lZ
      have hgZ := lZ _ _ (l5 _ _ hg)
      obtain ⟨hx0, hxg⟩ := hd_item hgne
      have hxn := gsub hgG _ hxg
      have hscc := OK.scc g hgG v hvn
      have hlx := IZ.R.len (hdS g) hxn
      have hlv := IZ.R.len v hvn
      refine gi_list (v := .str (hdS g)) hgZ (by first | assumption | exact nbm (by assumption) | exact nbl (by assumption) | exact nbm1 (by assumption) | (simp; omega)) (by decide) (by simp [hx0]) ?_
      have y1 : ∀ z ∈ (["names", "leads", "groups", "met", "group", "at"] : List Str), lset (lset ρ' "name" (.str v)) "first" (.str (hdS g)) z = ρ' z := by
        simp (decide := true) only [List.forall_mem_cons, lset, if_false, true_and, List.not_mem_nil, false_implies, implies_true]
      have y2 : lset (lset ρ' "name" (.str v)) "first" (.str (hdS g)) "name" = some (.str v) := by simp (decide := true) only [lset, if_true, if_false]
      have y3 : lset (lset ρ' "name" (.str v)) "first" (.str (hdS g)) "first" = some (.str (hdS g)) := by simp (decide := true) only [lset, if_true]
      generalize lset (lset ρ' "name" (.str v)) "first" (.str (hdS g)) = ρy at y1 y2 y3 ⊢
      have z1 := (y1 "names" (by decide)).trans s1
      have z2 := (y1 "leads" (by decide)).trans s2
      have z3 := (y1 "groups" (by decide)).trans s3
      have z4 := (y1 "met" (by decide)).trans s4
      have z5 := (y1 "group" (by decide)).trans s5
      have z6 := (y1 "at" (by decide)).trans s6
      have end_ : ∀ c : Bool, c = decide (v ∈ g) → K' (lset ρy "is_in" (.bool c)) Z := fun c _ => kk' _ _ ⟨by first | exact lset1 (by decide) z1 | exact lset2 (by decide) (by decide) z1 | exact lset3 (by decide) (by decide) (by decide) z1 | (simp (decide := true) only [lset, if_false]; exact z1), by first | exact lset1 (by decide) z2 | exact lset2 (by decide) (by decide) z2 | exact lset3 (by decide) (by decide) (by decide) z2 | (simp (decide := true) only [lset, if_false]; exact z2), by first | exact lset1 (by decide) z3 | exact lset2 (by decide) (by decide) z3 | exact lset3 (by decide) (by decide) (by decide) z3 | (simp (decide := true) only [lset, if_false]; exact z3), by first | exact lset1 (by decide) z4 | exact lset2 (by decide) (by decide) z4 | exact lset3 (by decide) (by decide) (by decide) z4 | (simp (decide := true) only [lset, if_false]; exact z4), by first | exact lset1 (by decide) z5 | exact lset2 (by decide) (by decide) z5 | exact lset3 (by decide) (by decide) (by decide) z5 | (simp (decide := true) only [lset, if_false]; exact z5), by first | exact lset1 (by decide) z6 | exact lset2 (by decide) (by decide) z6 | exact lset3 (by decide) (by decide) (by decide) z6 | (simp (decide := true) only [lset, if_false]; exact z6), lZ⟩
      (refine peel ?_; simp (decide := true) only [e_int, e_str, e_bool, k_name, e_bin, e_un, e_bo, k_cmp, k_list, k_tup, e_dict, k_attr, e_from, e_upto, e_item, k_call, k_meth, k_comp, bo_one, gBool_or, gBool_and, es_nil, es_cons, if_nil, if_one, t_not, t_bo, k_tcmp, t_name, t_sub, t_call, al_nil, gAll_or, gAll_and, k_aname, a_attr, a_item, a_tup, an_nil, k_ancons, s_expr, s_ret0, s_ret, k_asg, s_asg_, s_if, k_for, s_while, whK_next, whK_ret, seqK_next, seqK_ret, gSs_nil, tk_sub, tk_attr, tk_call, tk_item, tk_tup, kdL_cons, lk_cons, lk_nil, beq_ff, ex_some, true_and, and_true, if_true, if_false, not_false_eq_true, lset, compLoc, gCmp_eq, gCmp_ne, gCmp_in, gCmp_nin, gCmp_lt, gCmp_gt, gCmp_ge, gUn_neg, gUn_not, gBin_add, gBin_sub, gEq_int, gEq_bool, gEq_str, retOf, y2, y3, z2])
      try rw [gEq_str]
      refine tr_bool ?_
      refine is_in_g (K := fun w Z => gSs _ _ _ (lset ρy "is_in" w) Z _) IZ.R hxn hvn hnl ?_
      have ec : (decide (v = hdS g) || (decide (v ∈ f (hdS g)) && decide (hdS g ∈ f v))) = decide (v ∈ g) := by
        rw [Bool.eq_iff_iff, decide_eq_true_iff, ← hscc, Bool.or_eq_true, Bool.and_eq_true, decide_eq_true_iff, decide_eq_true_iff, decide_eq_true_iff]
      rw [ec]
      (refine peel ?_; simp (decide := true) only [e_int, e_str, e_bool, k_name, e_bin, e_un, e_bo, k_cmp, k_list, k_tup, e_dict, k_attr, e_from, e_upto, e_item, k_call, k_meth, k_comp, bo_one, gBool_or, gBool_and, es_nil, es_cons, if_nil, if_one, t_not, t_bo, k_tcmp, t_name, t_sub, t_call, al_nil, gAll_or, gAll_and, k_aname, a_attr, a_item, a_tup, an_nil, k_ancons, s_expr, s_ret0, s_ret, k_asg, s_asg_, s_if, k_for, s_while, whK_next, whK_ret, seqK_next, seqK_ret, gSs_nil, tk_sub, tk_attr, tk_call, tk_item, tk_tup, kdL_cons, lk_cons, lk_nil, beq_ff, ex_some, true_and, and_true, if_true, if_false, not_false_eq_true, lset, compLoc, gCmp_eq, gCmp_ne, gCmp_in, gCmp_nin, gCmp_lt, gCmp_gt, gCmp_ge, gUn_neg, gUn_not, gBin_add, gBin_sub, gEq_int, gEq_bool, gEq_str, retOf, y2, z5])
      refine in_list hgZ (by first | assumption | exact nb50 (by assumption) | exact nb50s (by assumption) | exact nb50t (by assumption) (by assumption) | omega) ?_
      simp only [gEq_bool, decide_true, Bool.not_true, Bool.false_eq_true, if_false]
      exact end_ _ rfl
    · rintro ρ' Z ⟨s1, s2, s3, s4, s5, s6, lZ⟩
      rw [seqK_next]
      (refine peel ?_; simp (decide := true) only [e_int, e_str, e_bool, k_name, e_bin, e_un, e_bo, k_cmp, k_list, k_tup, e_dict, k_attr, e_from, e_upto, e_item, k_call, k_meth, k_comp, bo_one, gBool_or, gBool_and, es_nil, es_cons, if_nil, if_one, t_not, t_bo, k_tcmp, t_name, t_sub, t_call, al_nil, gAll_or, gAll_and, k_aname, a_attr, a_item, a_tup, an_nil, k_ancons, s_expr, s_ret0, s_ret, k_asg, s_asg_, s_if, k_for, s_while, whK_next, whK_ret, seqK_next, seqK_ret, gSs_nil, tk_sub, tk_attr, tk_call, tk_item, tk_tup, kdL_cons, lk_cons, lk_nil, beq_ff, ex_some, true_and, and_true, if_true, if_false, not_false_eq_true, lset, compLoc, gCmp_eq, gCmp_ne, gCmp_in, gCmp_nin, gCmp_lt, gCmp_gt, gCmp_ge, gUn_neg, gUn_not, gBin_add, gBin_sub, gEq_int, gEq_bool, gEq_str, retOf])
      simp only [s3, s6, ex_some, gBin_add]
      have IZ := I5.le lZ
      refine ⟨_, IZ.gr, by simp; omega, (by omega : 0 ≤ (i : Int) + 1), (by first | assumption | exact nbm (by assumption) | exact nbl (by assumption) | exact nbm1 (by assumption) | (simp; omega)), ?_⟩
      have e1 : ((gs.map GV.ref).drop ((i : Int) + 1).toNat) = (gs.drop (i + 1)).map .ref := by
        rw [show ((i : Int) + 1).toNat = i + 1 by omega, List.map_drop]
      rw [e1]
      intro sl hsl
      have l6 : Le X5 (hset Z sl (.list ((gs.drop (i + 1)).map .ref))) := lZ.trans (Le.new _ hsl)
      refine for_g (c := GV.ref) (fun dn ρ' H => ρ' "names" = some (.ref nm) ∧ ρ' "leads" = some (.ref fd) ∧ ρ' "groups" = some (.ref gr) ∧ ρ' "met" = some (.ref m') ∧ ρ' "group" = some (.ref ga) ∧ Le (hset Z sl (.list ((gs.drop (i + 1)).map .ref))) H) (hset_self _ _ _) (by first | assumption | exact nbm (by assumption) | exact nbl (by assumption) | exact nbm1 (by assumption) | (simp; omega)) (fun dn ρ' H h => h.2.2.2.2.2 _ _ (hset_self _ _ _)) (by decide)
        ⟨s1, s2, s3, s4, s5, Le.refl _⟩ ?_ ?_
      · rintro dn la rst ρ'' Y K' hs ⟨t1, t2, t3, t4, t5, lY⟩ kk'
        (refine peel ?_; simp (decide := true) only [e_int, e_str, e_bool, k_name, e_bin, e_un, e_bo, k_cmp, k_list, k_tup, e_dict, k_attr, e_from, e_upto, e_item, k_call, k_meth, k_comp, bo_one, gBool_or, gBool_and, es_nil, es_cons, if_nil, if_one, t_not, t_bo, k_tcmp, t_name, t_sub, t_call, al_nil, gAll_or, gAll_and, k_aname, a_attr, a_item, a_tup, an_nil, k_ancons, s_expr, s_ret0, s_ret, k_asg, s_asg_, s_if, k_for, s_while, whK_next, whK_ret, seqK_next, seqK_ret, gSs_nil, tk_sub, tk_attr, tk_call, tk_item, tk_tup, kdL_cons, lk_cons, lk_nil, beq_ff, ex_some, true_and, and_true, if_true, if_false, not_false_eq_true, lset, compLoc, gCmp_eq, gCmp_ne, gCmp_in, gCmp_nin, gCmp_lt, gCmp_gt, gCmp_ge, gUn_neg, gUn_not, gBin_add, gBin_sub, gEq_int, gEq_bool, gEq_str, retOf, t2, t5])
        have lY5 : Le X5 Y := l6.trans lY
        have IY := I5.le lY5
        have hla : gs[i + 1 + dn.length]? = some la := by
          have := congrArg (fun l : List Addr => l[dn.length]?) hs
          simp only [List.getElem?_append_right (Nat.le_refl _), Nat.sub_self, List.getElem?_cons_zero, List.getElem?_drop] at this
          exact this
        obtain ⟨h, hhi, hh⟩ := LL_at IY.ll hla
        have hhG : h ∈ G := List.mem_of_getElem? hhi
        have hhl := glen hhG
        obtain ⟨hx0, hxg⟩ := hd_item (OK.ne h hhG)
        refine filter_g (Le Y) (fun z => decide (hdS h ∈ f z)) (by first | assumption | exact nb50 (by assumption) | exact nb50s (by assumption) | exact nb50t (by assumption) (by assumption) | omega) (Le.refl _) (fun W lW => lW _ _ (lY5 _ _ (l5 _ _ hg))) (fun z hz W K'' lW kW => ?_) (fun _ _ _ h => h) fun W lW => ?_
        · have hzn := gsub hgG z hz
          have IW := IY.le lW
          have hlz := IW.R.len z hzn
          exact gi_list (v := .str (hdS h)) (lW _ _ hh) (by first | assumption | exact nbm (by assumption) | exact nbl (by assumption) | exact nbm1 (by assumption) | (simp; omega)) (by decide) (by simp [hx0]) (gi_dict IW.R.d hzn (in_list (IW.R.l z hzn) (by first | assumption | exact nb50 (by assumption) | exact nb50s (by assumption) | exact nb50t (by assumption) (by assumption) | omega) (kW _ lW)))
        · have hemp2 : (g.filter fun z => decide (hdS h ∈ f z)) = [] := List.filter_eq_nil_iff.mpr fun z hz => by simpa using OK.later i (i + 1 + dn.length) g h (by first | assumption | exact nb50 (by assumption) | exact nb50s (by assumption) | exact nb50t (by assumption) (by assumption) | omega) hgi hhi z hz
          rw [hemp2]
          intro e5 he5 e6 he6
          refine eq_list (l₁ := []) (l₂ := []) (fresh_ne (hset_self _ _ _) he6) ((Le.new _ he6) _ _ (hset_self _ _ _)) (hset_self _ _ _) (Nat.zero_le _) (Nat.zero_le _) ?_
          simp only [decide_true, Bool.not_true, Bool.false_eq_true, if_false]
          exact kk' _ _ ⟨by first | exact lset1 (by decide) t1 | exact lset2 (by decide) (by decide) t1 | exact lset3 (by decide) (by decide) (by decide) t1 | (simp (decide := true) only [lset, if_false]; exact t1), by first | exact lset1 (by decide) t2 | exact lset2 (by decide) (by decide) t2 | exact lset3 (by decide) (by decide) (by decide) t2 | (simp (decide := true) only [lset, if_false]; exact t2), by first | exact lset1 (by decide) t3 | exact lset2 (by decide) (by decide) t3 | exact lset3 (by decide) (by decide) (by decide) t3 | (simp (decide := true) only [lset, if_false]; exact t3), by first | exact lset1 (by decide) t4 | exact lset2 (by decide) (by decide) t4 | exact lset3 (by decide) (by decide) (by decide) t4 | (simp (decide := true) only [lset, if_false]; exact t4), by first | exact lset1 (by decide) t5 | exact lset2 (by decide) (by decide) t5 | exact lset3 (by decide) (by decide) (by decide) t5 | (simp (decide := true) only [lset, if_false]; exact t5), lY.trans (lW.trans ((Le.new _ he5).trans (Le.new _ he6)))⟩
      · rintro ρ'' Y ⟨t1, t2, t3, t4, t5, lY⟩
        rw [seqK_next, gSs_nil]
        refine kk _ _ ⟨t1, t2, t3, lX0.trans (l5.trans (l6.trans lY)), m', t4, ?_⟩
        rw [(l6.trans lY) _ _ hm5]
        have : G.take (i + 1) = G.take i ++ [g] := by rw [List.take_add_one, hgi]; rfl
        rw [this, List.flatten_append]
        simp
  · rintro ρ X ⟨r1, r2, r3, lX0, m, r4, hm⟩
    have lX : Le H₀ X := L2.trans lX0
    have IX := I₀.le lX
    rw [seqK_next]
    (refine peel ?_; simp (decide := true) only [e_int, e_str, e_bool, k_name, e_bin, e_un, e_bo, k_cmp, k_list, k_tup, e_dict, k_attr, e_from, e_upto, e_item, k_call, k_meth, k_comp, bo_one, gBool_or, gBool_and, es_nil, es_cons, if_nil, if_one, t_not, t_bo, k_tcmp, t_name, t_sub, t_call, al_nil, gAll_or, gAll_and, k_aname, a_attr, a_item, a_tup, an_nil, k_ancons, s_expr, s_ret0, s_ret, k_asg, s_asg_, s_if, k_for, s_while, whK_next, whK_ret, seqK_next, seqK_ret, gSs_nil, tk_sub, tk_attr, tk_call, tk_item, tk_tup, kdL_cons, lk_cons, lk_nil, beq_ff, ex_some, true_and, and_true, if_true, if_false, not_false_eq_true, lset, compLoc, gCmp_eq, gCmp_ne, gCmp_in, gCmp_nin, gCmp_lt, gCmp_gt, gCmp_ge, gUn_neg, gUn_not, gBin_add, gBin_sub, gEq_int, gEq_bool, gEq_str, retOf, r1, r4])
    rw [List.take_of_length_le (Nat.le_refl _)] at hm
    have hfl := OK.len
    refine len_list hm (by simp only [List.length_map]; omega) (len_list IX.nm (by first | assumption | exact nbm (by assumption) | exact nbl (by assumption) | exact nbm1 (by assumption) | (simp; omega)) ?_)
    simp only [List.length_map, hfl, gEq_int, decide_true]
    exact q X lX

-- L3
theorem Pth.rch {adj : Adj} {M : Str → Prop} {x y : Str} (p : Pth adj M x y) : Rch adj x y := by
  induction p with
  | one e => exact .one e
  | cons e _ _ ih => exact .step e ih
theorem Rch.pth {adj : Adj} {M : Str → Prop} (hM : ∀ x, ∀ y ∈ adj x, M y) {x y : Str} (r : Rch adj x y) : x = y ∨ Pth adj M x y := by
  induction r with
  | refl => exact .inl rfl
  | @step x y z e _ ih =>
    rcases ih with rfl | h
    · exact .inr (.one e)
    · exact .inr (.cons e (hM _ _ e) h)

theorem gok {names ukeys : List Str} {uf : Str → List Str} {σ : WS} {f : Str → List Str} (nd : names.Nodup) (T : TI (adjOf names ukeys uf) names σ []) (hV : ∀ x ∈ names, x ∈ σ.V)
    (hf : ∀ x ∈ names, ∀ y, y ∈ f x ↔ Pth (adjOf names ukeys uf) (· ∈ names) x y) : GOk names f (uget ukeys uf) (σ.F.map fun g => names.filter fun n => decide (n ∈ g)) := by
  have hM : ∀ x, ∀ y ∈ adjOf names ukeys uf x, y ∈ names := fun x y hy => of_decide_eq_true (List.mem_filter.mp hy).2
  have hO := T.empty
  have gsub : ∀ {g}, g ∈ σ.F → ∀ n ∈ g, n ∈ names := fun {g} hg n hn => T.vn n ((T.fmem n).mp (List.mem_flatten.mpr ⟨g, hg, hn⟩)).1
  have mem : ∀ {g}, g ∈ σ.F → ∀ n, n ∈ (names.filter fun n => decide (n ∈ g)) ↔ n ∈ g := fun {g} hg n => by
    simp only [List.mem_filter, decide_eq_true_eq]
    exact ⟨fun h => h.2, fun h => ⟨gsub hg n h, h⟩⟩
  have ne : ∀ {g}, g ∈ σ.F → (names.filter fun n => decide (n ∈ g)) ≠ [] := fun {g} hg e => by
    obtain ⟨x, hx⟩ := List.exists_mem_of_ne_nil g (T.fne g hg)
    have := (mem hg x).mpr hx
    rw [e] at this; cases this
  have at_ : ∀ {i : Nat} {g' : List Str}, (σ.F.map fun g => names.filter fun n => decide (n ∈ g))[i]? = some g' → ∃ g, σ.F[i]? = some g ∧ (names.filter fun n => decide (n ∈ g)) = g' := fun {i g'} h => by
    rw [List.getElem?_map] at h
    cases e : σ.F[i]? with
    | none => rw [e] at h; cases h
    | some g => rw [e] at h; exact ⟨g, rfl, by simpa using h⟩
  have ford : ∀ {i j : Nat} {g h : List Str}, i < j → σ.F[i]? = some g → σ.F[j]? = some h → ∀ x ∈ g, ∀ y ∈ h, ¬ Rch (adjOf names ukeys uf) x y := fun {i j g h} hij hg hh => by
    obtain ⟨hi, ei⟩ := List.getElem?_eq_some_iff.mp hg
    obtain ⟨hj, ej⟩ := List.getElem?_eq_some_iff.mp hh
    have := (List.pairwise_iff_getElem.mp T.ford) i j hi hj hij
    rw [ei, ej] at this
    exact this
  -- the head of a group
  have hd : ∀ {g}, g ∈ σ.F → hdS (names.filter fun n => decide (n ∈ g)) ∈ g := fun {g} hg => (mem hg _).mp (hd_item (ne hg)).2
  have fndG : ∀ {g}, g ∈ σ.F → g.Nodup := by
    have hs : ∀ F : List (List Str), F.flatten.Nodup → ∀ g ∈ F, g.Nodup := by
      intro F
      induction F with
      | nil => intro _ g h; cases h
      | cons g' F ih =>
        intro nd g h
        rw [List.flatten_cons, List.nodup_append] at nd
        rcases List.mem_cons.mp h with rfl | h
        · exact nd.1
        · exact ih nd.2.1 g h
    exact fun {g} hg => hs _ T.fnd g hg
  refine ⟨?_, ?_, ?_, ?_, ?_, ?_, ?_⟩
  · intro g' hg'
    obtain ⟨g, hg, rfl⟩ := List.mem_map.mp hg'
    exact ne hg
  · intro g' hg'
    obtain ⟨g, hg, rfl⟩ := List.mem_map.mp hg'
    refine List.filter_congr fun n hn => ?_
    rw [decide_eq_decide]
    exact mem hg n
  · intro i g' hi n hn hm
    obtain ⟨g, hg, rfl⟩ := at_ hi
    have hgF := List.mem_of_getElem? hg
    obtain ⟨h', hh', hnh⟩ := List.mem_flatten.mp hm
    obtain ⟨j, hj, ej⟩ := List.mem_iff_getElem.mp hh'
    rw [List.length_take] at hj
    have hji : j < i := by omega
    rw [List.getElem_take] at ej
    obtain ⟨h, hh, e⟩ := at_ (i := j) (g' := h') (by rw [List.getElem?_eq_getElem (by omega), ej])
    subst e
    exact ford hji hh hg n ((mem (List.mem_of_getElem? hh) n).mp hnh) n ((mem hgF n).mp hn) (.refl _)
  · intro g' hg' n hn
    obtain ⟨g, hg, rfl⟩ := List.mem_map.mp hg'
    have hx := hd hg
    have hxn := gsub hg _ hx
    generalize hdS (names.filter fun n => decide (n ∈ g)) = x at hx hxn
    rw [mem hg n, T.fscc g hg x hx n, hf x hxn n, hf n hn x]
    constructor
    · rintro (rfl | ⟨h1, h2⟩)
      · exact ⟨.refl _, .refl _⟩
      · exact ⟨h1.rch, h2.rch⟩
    · rintro ⟨h1, h2⟩
      rcases h1.pth (M := (· ∈ names)) hM with e | h1
      · exact .inl e.symm
      · rcases h2.pth (M := (· ∈ names)) hM with e | h2
        · exact .inl e
        · exact .inr ⟨h1, h2⟩
  · intro i j g' h' hij hg' hh' n hn hm
    obtain ⟨g, hg, rfl⟩ := at_ hg'
    obtain ⟨h, hh, rfl⟩ := at_ hh'
    have hgF := List.mem_of_getElem? hg
    have hhF := List.mem_of_getElem? hh
    have hng := (mem hgF n).mp hn
    have := ((hf n (gsub hgF n hng) _).mp hm).rch
    exact ford hij hg hh n hng _ (hd hhF) this
  · have h1 : ∀ F : List (List Str), (∀ g ∈ F, (names.filter fun n => decide (n ∈ g)).length = g.length) → (F.map fun g => names.filter fun n => decide (n ∈ g)).flatten.length = F.flatten.length := by
      intro F
      induction F with
      | nil => intro _; rfl
      | cons g F ih =>
        intro h
        rw [List.map_cons, List.flatten_cons, List.flatten_cons, List.length_append, List.length_append, h g (by simp), ih fun g' hg' => h g' (List.mem_cons_of_mem _ hg')]
    rw [h1]
    · refine Nat.le_antisymm (nodup_len T.fnd fun x hx => T.vn x ((T.fmem x).mp hx).1) (nodup_len nd fun x hx => (T.fmem x).mpr ⟨hV x hx, by rw [hO]; exact nofun⟩)
    · intro g hg
      have hfn : (names.filter fun n => decide (n ∈ g)).Nodup := List.Pairwise.sublist List.filter_sublist nd
      exact Nat.le_antisymm (nodup_len hfn fun x hx => (mem hg x).mp hx) (nodup_len (fndG hg) fun x hx => (mem hg x).mpr hx)
  · intro g' hg'
    obtain ⟨g, hg, rfl⟩ := List.mem_map.mp hg'
    have hx := hd hg
    have hxn := gsub hg _ hx
    have hfn : (names.filter fun n => decide (n ∈ g)).Nodup := List.Pairwise.sublist List.filter_sublist nd
    have hm := mem hg
    have hne := ne hg
    generalize (names.filter fun n => decide (n ∈ g)) = g' at hx hxn hfn hm hne
    rw [hf _ hxn]
    have hadj : ∀ {y}, y ∈ adjOf names ukeys uf (hdS g') ↔ y ∈ uget ukeys uf (hdS g') ∧ y ∈ names := fun {y} => by
      unfold adjOf
      simp only [List.mem_filter, decide_eq_true_eq]
    cases g' with
    | nil => exact absurd rfl hne
    | cons x r =>
      have ex : hdS (x :: r) = x := rfl
      rw [ex] at hx hxn hadj ⊢
      constructor
      · rintro (h | h)
        · cases r with
          | nil => simp at h
          | cons y r =>
            have hy : y ∈ g := (hm y).mp (by simp)
            have hyx : y ≠ x := by
              rw [List.nodup_cons] at hfn
              exact fun e => hfn.1 (by rw [← e]; simp)
            obtain ⟨h1, h2⟩ := (T.fscc g hg x hx y).mp hy
            rcases h1.pth (M := (· ∈ names)) hM with e | h1
            · exact absurd e.symm hyx
            · rcases h2.pth (M := (· ∈ names)) hM with e | h2
              · exact absurd e hyx
              · exact Pth.app (gsub hg y hy) h1 h2
        · exact .one (hadj.mpr ⟨h, hxn⟩)
      · intro h
        have key : ∀ z, z ∈ adjOf names ukeys uf x → Rch (adjOf names ukeys uf) z x → 1 < (x :: r).length ∨ x ∈ uget ukeys uf x := fun z e hr => by
          by_cases hzx : z = x
          · subst hzx; exact .inr (hadj.mp e).1
          · left
            have hz : z ∈ g := (T.fscc g hg x hx z).mpr ⟨Rch.one e, hr⟩
            have := (hm z).mpr hz
            rcases List.mem_cons.mp this with e' | hzr
            · exact absurd e' hzx
            · have := List.length_pos_of_mem hzr
              simp only [List.length_cons]; omega
        cases h with
        | one e => exact key x e (.refl _)
        | cons e _ p => exact key _ e p.rch

-- P12
noncomputable def lawB : { x : Fn // x = fnT "law" } := by
  refine ⟨?x, Eq.symm ?h⟩
  case' h => conv => lhs; whnf

theorem law_g {k : Nat} {sc : Addr} {ns : List Int} {H₀ : GH} (hsc : H₀ sc = some (.flist (ns.map .int))) (hn : ns.length ≤ 63) : gFn (PhiS (k + 4)) (fnT "law") [.ref sc] H₀ fun v _ => v = .bool true := by
  refine start lawB rfl fun ρ₀ hρ => ?_
  have w1 : ρ₀ "script" = some (.ref sc) := hρ _
  clear hρ
  unfold lawB
  (refine peel ?_; simp (decide := true) only [e_int, e_str, e_bool, k_name, e_bin, e_un, e_bo, k_cmp, k_list, k_tup, e_dict, k_attr, e_from, e_upto, e_item, k_call, k_meth, k_comp, bo_one, gBool_or, gBool_and, es_nil, es_cons, if_nil, if_one, t_not, t_bo, k_tcmp, t_name, t_sub, t_call, al_nil, gAll_or, gAll_and, k_aname, a_attr, a_item, a_tup, an_nil, k_ancons, s_expr, s_ret0, s_ret, k_asg, s_asg_, s_if, k_for, s_while, whK_next, whK_ret, seqK_next, seqK_ret, gSs_nil, tk_sub, tk_attr, tk_call, tk_item, tk_tup, kdL_cons, lk_cons, lk_nil, beq_ff, ex_some, true_and, and_true, if_true, if_false, not_false_eq_true, lset, compLoc, gCmp_eq, gCmp_ne, gCmp_in, gCmp_nin, gCmp_lt, gCmp_gt, gCmp_ge, gUn_neg, gUn_not, gBin_add, gBin_sub, gEq_int, gEq_bool, gEq_str, retOf, w1])
  have hb : (1000 : Nat) < bnd := by decide
  have hlen : ∀ (Q : GV → GH → Prop), Q (.int ns.length) H₀ → gCall (PhiS (k + 4)) "len" [.ref sc] H₀ Q := fun Q hq => by
    unfold gCall
    rw [if_pos rfl]
    exact .inl ⟨_, .inr hsc, by simp; omega, by simpa using hq⟩
  refine hlen _ (min_g ?_)
  rw [max_g]
  obtain ⟨N, hN, hN2⟩ : ∃ N : Nat, (if (if (2 : Int) < (ns.length : Int) then (2 : Int) else (ns.length : Int)) > 1 then (if (2 : Int) < (ns.length : Int) then (2 : Int) else (ns.length : Int)) else 1) = (N : Int) ∧ N ≤ 2 := by
    by_cases h : (2 : Int) < (ns.length : Int)
    · exact ⟨2, by simp [h], by omega⟩
    · by_cases h2 : (ns.length : Int) > 1
      · exact ⟨ns.length, by simp [h, h2], by omega⟩
      · exact ⟨1, by simp [h, h2], by omega⟩
  have hN50 : N ≤ 50 := Nat.le_trans hN2 (by decide)
  rw [hN]
  refine range_g (by first | assumption | exact nb50 (by assumption) | exact nb50s (by assumption) | exact nb50t (by assumption) (by assumption) | omega) (by first | assumption | exact nb50 (by assumption) | exact nb50s (by assumption) | exact nb50t (by assumption) (by assumption) | omega) fun rg hrg => ?_
  refine for_r (fun i ρ H => ρ "script" = some (.ref sc) ∧ Le (hset H₀ rg (.range (N : Int))) H) (hset_self _ _ _) (by first | assumption | exact nb50 (by assumption) | exact nb50s (by assumption) | exact nb50t (by assumption) (by assumption) | omega) (fun i ρ H h => h.2 _ _ (hset_self _ _ _)) (by decide) ⟨w1, Le.refl _⟩ ?_ ?_
  · rintro i ρ X K hi ⟨r1, lX⟩ kk
    (refine peel ?_; simp (decide := true) only [e_int, e_str, e_bool, k_name, e_bin, e_un, e_bo, k_cmp, k_list, k_tup, e_dict, k_attr, e_from, e_upto, e_item, k_call, k_meth, k_comp, bo_one, gBool_or, gBool_and, es_nil, es_cons, if_nil, if_one, t_not, t_bo, k_tcmp, t_name, t_sub, t_call, al_nil, gAll_or, gAll_and, k_aname, a_attr, a_item, a_tup, an_nil, k_ancons, s_expr, s_ret0, s_ret, k_asg, s_asg_, s_if, k_for, s_while, whK_next, whK_ret, seqK_next, seqK_ret, gSs_nil, tk_sub, tk_attr, tk_call, tk_item, tk_tup, kdL_cons, lk_cons, lk_nil, beq_ff, ex_some, true_and, and_true, if_true, if_false, not_false_eq_true, lset, compLoc, gCmp_eq, gCmp_ne, gCmp_in, gCmp_nin, gCmp_lt, gCmp_gt, gCmp_ge, gUn_neg, gUn_not, gBin_add, gBin_sub, gEq_int, gEq_bool, gEq_str, retOf, r1])
    have l0 : Le H₀ X := (Le.new _ hrg).trans lX
    refine phi_t1 (by decide) (phi_t (by decide) (pool_g (l0 _ _ hsc) hn (by first | assumption | exact nb50 (by assumption) | exact nb50s (by assumption) | exact nb50t (by assumption) (by assumption) | omega) (by first | assumption | exact nb50 (by assumption) | exact nb50s (by assumption) | exact nb50t (by assumption) (by assumption) | omega) fun X1 src l1 hsrc S1 => ?_))
    (refine peel ?_; simp (decide := true) only [e_int, e_str, e_bool, k_name, e_bin, e_un, e_bo, k_cmp, k_list, k_tup, e_dict, k_attr, e_from, e_upto, e_item, k_call, k_meth, k_comp, bo_one, gBool_or, gBool_and, es_nil, es_cons, if_nil, if_one, t_not, t_bo, k_tcmp, t_name, t_sub, t_call, al_nil, gAll_or, gAll_and, k_aname, a_attr, a_item, a_tup, an_nil, k_ancons, s_expr, s_ret0, s_ret, k_asg, s_asg_, s_if, k_for, s_while, whK_next, whK_ret, seqK_next, seqK_ret, gSs_nil, tk_sub, tk_attr, tk_call, tk_item, tk_tup, kdL_cons, lk_cons, lk_nil, beq_ff, ex_some, true_and, and_true, if_true, if_false, not_false_eq_true, lset, compLoc, gCmp_eq, gCmp_ne, gCmp_in, gCmp_nin, gCmp_lt, gCmp_gt, gCmp_ge, gUn_neg, gUn_not, gBin_add, gBin_sub, gEq_int, gEq_bool, gEq_str, retOf])
    refine phi_t1 (by decide) (phi_t (by decide) (drawn_g S1 fun X2 res nm us names ukeys pu uf fz2 hres I2 hsub hnne hnl hul => ?_))
    refine ⟨_, .inl hres, (by decide : (2 : Nat) ≤ bnd), ?_⟩
    simp (decide := true) only [e_int, e_str, e_bool, k_name, e_bin, e_un, e_bo, k_cmp, k_list, k_tup, e_dict, k_attr, e_from, e_upto, e_item, k_call, k_meth, k_comp, bo_one, gBool_or, gBool_and, es_nil, es_cons, if_nil, if_one, t_not, t_bo, k_tcmp, t_name, t_sub, t_call, al_nil, gAll_or, gAll_and, k_aname, a_attr, a_item, a_tup, an_nil, k_ancons, s_expr, s_ret0, s_ret, k_asg, s_asg_, s_if, k_for, s_while, whK_next, whK_ret, seqK_next, seqK_ret, gSs_nil, tk_sub, tk_attr, tk_call, tk_item, tk_tup, kdL_cons, lk_cons, lk_nil, beq_ff, ex_some, true_and, and_true, if_true, if_false, not_false_eq_true, lset, compLoc, gCmp_eq, gCmp_ne, gCmp_in, gCmp_nin, gCmp_lt, gCmp_gt, gCmp_ge, gUn_neg, gUn_not, gBin_add, gBin_sub, gEq_int, gEq_bool, gEq_str, retOf]
    have x1 : lset (lset (lset (lset ρ "k" (.int (i : Int))) "source" (.ref src)) "names" (.ref nm)) "uses" (.ref us) "script" = some (.ref sc) := by first | exact lset1 (by decide) r1 | exact lset2 (by decide) (by decide) r1 | exact lset3 (by decide) (by decide) (by decide) r1 | (simp (decide := true) only [lset, if_false]; exact r1)
    have x2 : lset (lset (lset (lset ρ "k" (.int (i : Int))) "source" (.ref src)) "names" (.ref nm)) "uses" (.ref us) "names" = some (.ref nm) := by simp (decide := true) only [lset, if_false, if_true]
    have x3 : lset (lset (lset (lset ρ "k" (.int (i : Int))) "source" (.ref src)) "names" (.ref nm)) "uses" (.ref us) "uses" = some (.ref us) := by simp (decide := true) only [lset, if_true]
    generalize lset (lset (lset (lset ρ "k" (.int (i : Int))) "source" (.ref src)) "names" (.ref nm)) "uses" (.ref us) = ρx at x1 x2 x3 ⊢
    (refine peel ?_; simp (decide := true) only [e_int, e_str, e_bool, k_name, e_bin, e_un, e_bo, k_cmp, k_list, k_tup, e_dict, k_attr, e_from, e_upto, e_item, k_call, k_meth, k_comp, bo_one, gBool_or, gBool_and, es_nil, es_cons, if_nil, if_one, t_not, t_bo, k_tcmp, t_name, t_sub, t_call, al_nil, gAll_or, gAll_and, k_aname, a_attr, a_item, a_tup, an_nil, k_ancons, s_expr, s_ret0, s_ret, k_asg, s_asg_, s_if, k_for, s_while, whK_next, whK_ret, seqK_next, seqK_ret, gSs_nil, tk_sub, tk_attr, tk_call, tk_item, tk_tup, kdL_cons, lk_cons, lk_nil, beq_ff, ex_some, true_and, and_true, if_true, if_false, not_false_eq_true, lset, compLoc, gCmp_eq, gCmp_ne, gCmp_in, gCmp_nin, gCmp_lt, gCmp_gt, gCmp_ge, gUn_neg, gUn_not, gBin_add, gBin_sub, gEq_int, gEq_bool, gEq_str, retOf, x2, x3])
    have lX2 : Le X X2 := fun b o e => fz2 b o (l1 _ _ e) (by rintro rfl; rw [hsrc] at e; cases e)
    refine phi_t1 (by decide) (phi_t (by decide) (reached_g I2 fun X3 fd p f l3 R3 hf => ?_))
    have I3 := I2.le l3
    (refine peel ?_; simp (decide := true) only [e_int, e_str, e_bool, k_name, e_bin, e_un, e_bo, k_cmp, k_list, k_tup, e_dict, k_attr, e_from, e_upto, e_item, k_call, k_meth, k_comp, bo_one, gBool_or, gBool_and, es_nil, es_cons, if_nil, if_one, t_not, t_bo, k_tcmp, t_name, t_sub, t_call, al_nil, gAll_or, gAll_and, k_aname, a_attr, a_item, a_tup, an_nil, k_ancons, s_expr, s_ret0, s_ret, k_asg, s_asg_, s_if, k_for, s_while, whK_next, whK_ret, seqK_next, seqK_ret, gSs_nil, tk_sub, tk_attr, tk_call, tk_item, tk_tup, kdL_cons, lk_cons, lk_nil, beq_ff, ex_some, true_and, and_true, if_true, if_false, not_false_eq_true, lset, compLoc, gCmp_eq, gCmp_ne, gCmp_in, gCmp_nin, gCmp_lt, gCmp_gt, gCmp_ge, gUn_neg, gUn_not, gBin_add, gBin_sub, gEq_int, gEq_bool, gEq_str, retOf, x2, x3])
    refine phi_t1 (by decide) (phi_t (by decide) (strong_g I3 fun X4 gr gs σ l4 hgr hll T hV => ?_))
    have I4 := I3.le l4
    have R4 := R3.le l4
    have OK := gok I2.nd T hV hf
    (refine peel ?_; simp (decide := true) only [e_int, e_str, e_bool, k_name, e_bin, e_un, e_bo, k_cmp, k_list, k_tup, e_dict, k_attr, e_from, e_upto, e_item, k_call, k_meth, k_comp, bo_one, gBool_or, gBool_and, es_nil, es_cons, if_nil, if_one, t_not, t_bo, k_tcmp, t_name, t_sub, t_call, al_nil, gAll_or, gAll_and, k_aname, a_attr, a_item, a_tup, an_nil, k_ancons, s_expr, s_ret0, s_ret, k_asg, s_asg_, s_if, k_for, s_while, whK_next, whK_ret, seqK_next, seqK_ret, gSs_nil, tk_sub, tk_attr, tk_call, tk_item, tk_tup, kdL_cons, lk_cons, lk_nil, beq_ff, ex_some, true_and, and_true, if_true, if_false, not_false_eq_true, lset, compLoc, gCmp_eq, gCmp_ne, gCmp_in, gCmp_nin, gCmp_lt, gCmp_gt, gCmp_ge, gUn_neg, gUn_not, gBin_add, gBin_sub, gEq_int, gEq_bool, gEq_str, retOf, x2])
    have hnl50 : names.length ≤ 50 := Nat.le_trans hnl (by decide)
    have hF : σ.F.length ≤ 50 := by have := T.flen; omega
    generalize hG : (σ.F.map fun g => names.filter fun n => decide (n ∈ g)) = G at hll OK
    have hGl : G.length ≤ 50 := by rw [← hG, List.length_map]; exact hF
    refine phi_t1 (by decide) (phi_t (by decide) (right_g ⟨I4.nm, R4, hgr, hll⟩ OK I2.nd (by first | assumption | exact nb50 (by assumption) | exact nb50s (by assumption) | exact nb50t (by assumption) (by assumption) | omega) hGl fun X5 l5 => tr_bool ?_))
    simp only [Bool.not_true, Bool.false_eq_true, if_false]
    (refine peel ?_; simp (decide := true) only [e_int, e_str, e_bool, k_name, e_bin, e_un, e_bo, k_cmp, k_list, k_tup, e_dict, k_attr, e_from, e_upto, e_item, k_call, k_meth, k_comp, bo_one, gBool_or, gBool_and, es_nil, es_cons, if_nil, if_one, t_not, t_bo, k_tcmp, t_name, t_sub, t_call, al_nil, gAll_or, gAll_and, k_aname, a_attr, a_item, a_tup, an_nil, k_ancons, s_expr, s_ret0, s_ret, k_asg, s_asg_, s_if, k_for, s_while, whK_next, whK_ret, seqK_next, seqK_ret, gSs_nil, tk_sub, tk_attr, tk_call, tk_item, tk_tup, kdL_cons, lk_cons, lk_nil, beq_ff, ex_some, true_and, and_true, if_true, if_false, not_false_eq_true, lset, compLoc, gCmp_eq, gCmp_ne, gCmp_in, gCmp_nin, gCmp_lt, gCmp_gt, gCmp_ge, gUn_neg, gUn_not, gBin_add, gBin_sub, gEq_int, gEq_bool, gEq_str, retOf])
    have I5 := I4.le l5
    have R5 := R4.le l5
    have hgr5 := l5 _ _ hgr
    have hll5 := hll.le l5
    have hgsl : gs.length ≤ 50 := by have := hll.length; omega
    refine for_g (c := GV.ref) (fun dn ρ' Y => ρ' "script" = some (.ref sc) ∧ ρ' "uses" = some (.ref us) ∧ ρ' "leads" = some (.ref fd) ∧ Le X5 Y) hgr5 (by first | assumption | exact nb50 (by assumption) | exact nb50s (by assumption) | exact nb50t (by assumption) (by assumption) | omega) (fun dn ρ' Y h => h.2.2.2 _ _ hgr5) (by decide)
      ⟨by first | exact lset1 (by decide) x1 | exact lset2 (by decide) (by decide) x1 | exact lset3 (by decide) (by decide) (by decide) x1 | (simp (decide := true) only [lset, if_false]; exact x1), by first | exact lset1 (by decide) x3 | exact lset2 (by decide) (by decide) x3 | exact lset3 (by decide) (by decide) (by decide) x3 | (simp (decide := true) only [lset, if_false]; exact x3), by rfl, Le.refl _⟩ ?_ ?_
    · rintro dn v rst ρ' Y K' hs ⟨s1, s2, s3, lY⟩ kk'
      (refine peel ?_; simp (decide := true) only [e_int, e_str, e_bool, k_name, e_bin, e_un, e_bo, k_cmp, k_list, k_tup, e_dict, k_attr, e_from, e_upto, e_item, k_call, k_meth, k_comp, bo_one, gBool_or, gBool_and, es_nil, es_cons, if_nil, if_one, t_not, t_bo, k_tcmp, t_name, t_sub, t_call, al_nil, gAll_or, gAll_and, k_aname, a_attr, a_item, a_tup, an_nil, k_ancons, s_expr, s_ret0, s_ret, k_asg, s_asg_, s_if, k_for, s_while, whK_next, whK_ret, seqK_next, seqK_ret, gSs_nil, tk_sub, tk_attr, tk_call, tk_item, tk_tup, kdL_cons, lk_cons, lk_nil, beq_ff, ex_some, true_and, and_true, if_true, if_false, not_false_eq_true, lset, compLoc, gCmp_eq, gCmp_ne, gCmp_in, gCmp_nin, gCmp_lt, gCmp_gt, gCmp_ge, gUn_neg, gUn_not, gBin_add, gBin_sub, gEq_int, gEq_bool, gEq_str, retOf, s1, s2, s3])
      have IY := I5.le lY
      obtain ⟨g, hgi, hg⟩ := LL_get (hll5.le lY) hs
      have hgG : g ∈ G := List.mem_of_getElem? hgi
      have hgne := OK.ne g hgG
      have hgsub : ∀ n ∈ g, n ∈ names := fun n hn' => by
        have := OK.flt g hgG
        rw [← this] at hn'
        exact (List.mem_filter.mp hn').1
      have hgl : g.length ≤ 50 := by
        have := OK.flt g hgG
        rw [← this]
        exact Nat.le_trans (List.length_filter_le _ _) (by first | assumption | exact nb50 (by assumption) | exact nb50s (by assumption) | exact nb50t (by assumption) (by assumption) | omega)
      obtain ⟨hx0, hxg⟩ := hd_item hgne
      have hxn := hgsub _ hxg
      have hx : (g.map GV.str)[(0 : Int).toNat]? = some (.str (hdS g)) := by simp [hx0]
      refine phi_t1 (by decide) (phi_t (by decide) (round_g IY hg hgl hgne fun Z lZ => ?_))
      have RZ := (R5.le lY).le lZ
      have hgZ := lZ _ _ hg
      have hlx := RZ.len _ hxn
      refine gi_list hgZ (by first | assumption | exact nbm (by assumption) | exact nbl (by assumption) | exact nbm1 (by assumption) | (simp; omega)) (by decide) hx (gi_list hgZ (by first | assumption | exact nbm (by assumption) | exact nbl (by assumption) | exact nbm1 (by assumption) | (simp; omega)) (by decide) hx (gi_dict RZ.d hxn (in_list (RZ.l _ hxn) (by first | assumption | exact nb50 (by assumption) | exact nb50s (by assumption) | exact nb50t (by assumption) (by assumption) | omega) ?_)))
      rw [gEq_bool]
      have e : decide (1 < g.length ∨ hdS g ∈ uget ukeys uf (hdS g)) = decide (hdS g ∈ f (hdS g)) := by
        rw [decide_eq_decide]; exact OK.rnd g hgG
      rw [e]
      simp only [decide_true, Bool.not_true, Bool.false_eq_true, if_false]
      exact kk' _ _ ⟨by first | exact lset1 (by decide) s1 | exact lset2 (by decide) (by decide) s1 | exact lset3 (by decide) (by decide) (by decide) s1 | (simp (decide := true) only [lset, if_false]; exact s1), by first | exact lset1 (by decide) s2 | exact lset2 (by decide) (by decide) s2 | exact lset3 (by decide) (by decide) (by decide) s2 | (simp (decide := true) only [lset, if_false]; exact s2), by first | exact lset1 (by decide) s3 | exact lset2 (by decide) (by decide) s3 | exact lset3 (by decide) (by decide) (by decide) s3 | (simp (decide := true) only [lset, if_false]; exact s3), lY.trans lZ⟩
    · rintro ρ' Y ⟨s1, s2, s3, lY⟩
      rw [seqK_next, gSs_nil]
      exact kk _ _ ⟨s1, lX.trans (lX2.trans (l3.trans (l4.trans (l5.trans lY))))⟩
  · rintro ρ X ⟨r1, lX⟩
    rw [seqK_next]
    (refine peel ?_; simp (decide := true) only [e_int, e_str, e_bool, k_name, e_bin, e_un, e_bo, k_cmp, k_list, k_tup, e_dict, k_attr, e_from, e_upto, e_item, k_call, k_meth, k_comp, bo_one, gBool_or, gBool_and, es_nil, es_cons, if_nil, if_one, t_not, t_bo, k_tcmp, t_name, t_sub, t_call, al_nil, gAll_or, gAll_and, k_aname, a_attr, a_item, a_tup, an_nil, k_ancons, s_expr, s_ret0, s_ret, k_asg, s_asg_, s_if, k_for, s_while, whK_next, whK_ret, seqK_next, seqK_ret, gSs_nil, tk_sub, tk_attr, tk_call, tk_item, tk_tup, kdL_cons, lk_cons, lk_nil, beq_ff, ex_some, true_and, and_true, if_true, if_false, not_false_eq_true, lset, compLoc, gCmp_eq, gCmp_ne, gCmp_in, gCmp_nin, gCmp_lt, gCmp_gt, gCmp_ge, gUn_neg, gUn_not, gBin_add, gBin_sub, gEq_int, gEq_bool, gEq_str, retOf])

theorem lawG : ∀ (a : Addr) (ns : List Int) (H : GH), H a = some (.flist (ns.map .int)) → ns.length ≤ 63 → gFn (PhiS 6) (fnT "law") [.ref a] H fun v _ => v = .bool true := fun a ns H h hn => law_g (k := 2) h hn

end Gh

theorem PySem.Challenge.cw_np0228_01_holds : PySem.Challenge.rw_np0228_01.Holds := by
  exact Gh.holds Gh.lawG
