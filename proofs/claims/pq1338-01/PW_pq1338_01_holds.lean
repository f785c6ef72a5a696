import PyProof.Rows.All
import Wide.All
import OpenK.AllK
import Wide.FinOn
import PySem.Challenge.RW_pq1338_01
open PySem PySem.W PySem.Calls PySem.Spec PyProof.Rows
set_option Elab.async false
set_option linter.all false
set_option maxRecDepth 1000000
namespace Mine
section
/-- abstract values: no tokens; a reference is the address itself -/
inductive AV where
  | none
  | bool (b : Bool)
  | int (i : Int)
  | str (s : Str)
  | ref (a : Addr)

inductive Cls where
  | vec
  | mat

/-- abstract objects; an object of a class knows the address of its dict -/
inductive AO where
  | list (vs : List AV)
  | tuple (vs : List AV)
  | dict (es : List (Str × AV))
  | inst (c : Cls) (dx : Addr)
  | range (a b : Int) (s : Int)
  /-- a list that is only read, as the very object -/
  | klist (vs : List AV) (ob : Obj)

abbrev AH := Addr → Option AO
abbrev Loc := List (Str × AV)

noncomputable def getL : List (Str × AV) → Str → Option AV
  | [], _ => .none
  | (k, v) :: r, x => if k = x then some v else getL r x
noncomputable def setL : List (Str × AV) → Str → AV → List (Str × AV)
  | [], x, v => [(x, v)]
  | (k, w) :: r, x, v => if k = x then (k, v) :: r else (k, w) :: setL r x v
noncomputable def updH (H : AH) (a : Addr) (o : AO) : AH := fun b => if b = a then some o else H b

inductive AF where
  | next
  | brk
  | cont
  | ret (v : AV)

/-- what is called: a def of the top, a method of a class -/
inductive FnId where
  | fn (f : Str)
  | meth (c : Cls) (n : Str)

abbrev GT := FnId → List AV → AH → (AV → AH → Prop) → Prop

noncomputable def isVar (sc : Scope) (x : Str) : Bool := match sc.names.lookup x with
  | some .local => true
  | some .cell => true
  | some .free => true
  | _ => false
/-- not the name that the compiler folds -/
noncomputable def sDot : Str := Str.ofString ".0"
noncomputable def notDebug (x : Str) : Bool := !(x == Str.ofString "__debug__") && !(x == sDot)
noncomputable def isGlob (sc : Scope) (x : Str) : Bool := (match sc.names.lookup x with
  | some .globalImplicit => true
  | _ => false) && notDebug x

noncomputable def allocA (H : AH) (o : AO) (Φ : AV → AH → Prop) : Prop := ∀ a, H a = .none → Φ (.ref a) (updH H a o)

/-- Python's index into a list of n items -/
noncomputable def idxA (n : Nat) (k : Int) : Nat := if 0 ≤ k then k.toNat else (k + n).toNat

noncomputable def addA (a b : AV) (H : AH) (Φ : AV → AH → Prop) : Prop := match a, b with
  | .int i, .int j => Φ (.int (i + j)) H
  | .ref x, .ref y => ∃ vs us, H x = some (.list vs) ∧ H y = some (.list us) ∧ vs.length + us.length ≤ 4096 ∧ allocA H (.list (vs ++ us)) Φ
  | _, _ => False
noncomputable def mulA (a b : AV) (H : AH) (Φ : AV → AH → Prop) : Prop := match a, b with
  | .int i, .int j => (i.natAbs < 2 ^ 32 ∧ j.natAbs < 2 ^ 32) ∧ Φ (.int (i * j)) H
  | .ref x, .int n => ∃ v, H x = some (.list [v]) ∧ 0 ≤ n ∧ n ≤ 4096 ∧ allocA H (.list (List.replicate n.toNat v)) Φ
  | _, _ => False
noncomputable def binA (op : Operator) (a b : AV) (H : AH) (Φ : AV → AH → Prop) : Prop := match op with
  | .Add => addA a b H Φ
  | .Mult => mulA a b H Φ
  | .Sub => (match a, b with | .int i, .int j => Φ (.int (i - j)) H | _, _ => False)
  | .Mod => (match a, b with | .int i, .int j => j ≠ 0 ∧ Φ (.int (Int.fmod i j)) H | _, _ => False)
  | .FloorDiv => (match a, b with | .int i, .int j => (j ≠ 0 ∧ i.natAbs < 2 ^ 32 ∧ j.natAbs < 2 ^ 32) ∧ Φ (.int (Int.fdiv i j)) H | _, _ => False)
  | _ => False

/-- what a value is as plain data (lists, tuples, scalars); depth by fuel -/
noncomputable def datA (H : AH) : Nat → AV → Option PyData
  | _, .none => some .none
  | _, .bool b => some (.bool b)
  | _, .int i => some (.int i)
  | _, .str s => some (.str s)
  | 0, .ref _ => .none
  | n + 1, .ref a => match H a with
    | some (.list vs) => (vs.mapM (datA H n)).map .list
    | some (.tuple vs) => (vs.mapM (datA H n)).map .tuple
    | _ => .none

/-- == of two values -/
noncomputable def eqA (a b : AV) (H : AH) (Φ : Bool → Prop) : Prop := match a, b with
  | .int i, .int j => Φ (decide (i = j))
  | .str s, .str t => Φ (decide (s = t))
  | .bool x, .bool y => Φ (x == y)
  | .none, .none => Φ true
  | .none, .int _ => Φ false
  | .none, .str _ => Φ false
  | .none, .ref _ => False
  | .ref x, .ref y => ∃ d e, datA H 3 (.ref x) = some d ∧ datA H 3 (.ref y) = some e ∧ (PySem.SeqAt.shaped d && PySem.SeqAt.shaped e && PySem.SeqAt.noMix d e) = true ∧ Φ (PySem.Spec.same d e)
  | _, _ => False
noncomputable def memA (s : Str) (vs : List AV) : Option Bool := match vs with
  | [] => some false
  | .str t :: r => (memA s r).map fun b => decide (t = s) || b
  | _ => .none
noncomputable def inA (a b : AV) (H : AH) (Φ : Bool → Prop) : Prop := match a, b with
  | .str s, .ref x => (match H x with
    | some (.list vs) => ∃ r, memA s vs = some r ∧ Φ r
    | some (.tuple vs) => ∃ r, memA s vs = some r ∧ Φ r
    | some (.dict es) => Φ (getL es s).isSome
    | _ => False)
  | _, _ => False
noncomputable def ltA (a b : AV) (Φ : Bool → Prop) : Prop := match a, b with
  | .int i, .int j => Φ (decide (i < j))
  | .str s, .str t => Φ (decide (s.cps.toList < t.cps.toList))
  | _, _ => False
noncomputable def leA (a b : AV) (Φ : Bool → Prop) : Prop := match a, b with
  | .int i, .int j => Φ (decide (i ≤ j))
  | .str s, .str t => Φ (decide (¬ t.cps.toList < s.cps.toList))
  | _, _ => False
noncomputable def isNone : AV → Bool
  | .none => true
  | _ => false
noncomputable def cmpA (op : CmpOp) (a b : AV) (H : AH) (Φ : Bool → Prop) : Prop := match op with
  | .Eq => eqA a b H Φ
  | .NotEq => eqA a b H fun r => Φ (!r)
  | .Lt => ltA a b Φ
  | .Gt => ltA b a Φ
  | .LtE => leA a b Φ
  | .Is => (match b with | .none => Φ (isNone a) | _ => False)
  | .IsNot => (match b with | .none => Φ (!isNone a) | _ => False)
  | .In => inA a b H Φ
  | .NotIn => inA a b H fun r => Φ (!r)
  | _ => False

noncomputable def attrsOf : Cls → List Str
  | .vec => [Str.ofString "kind", Str.ofString "items", Str.ofString "attrs", Str.ofString "shared", Str.ofString "loose"]
  | .mat => [Str.ofString "formals", Str.ofString "tags", Str.ofString "used", Str.ofString "places"]
noncomputable def okAttr (c : Cls) (n : Str) : Bool := (attrsOf c).contains n
noncomputable def attrA (o : AV) (n : Str) (H : AH) (Φ : AV → AH → Prop) : Prop := match o with
  | .ref x => ∃ c dx es v, H x = some (.inst c dx) ∧ H dx = some (.dict es) ∧ okAttr c n = true ∧ getL es n = some v ∧ Φ v H
  | _ => False
noncomputable def setAttrA (o : AV) (n : Str) (v : AV) (H : AH) (Φ : AH → Prop) : Prop := match o with
  | .ref x => ∃ c dx es, H x = some (.inst c dx) ∧ H dx = some (.dict es) ∧ okAttr c n = true ∧ es.length ≤ 100 ∧ Φ (updH H dx (.dict (setL es n v)))
  | _ => False
noncomputable def subA (o k : AV) (H : AH) (Φ : AV → AH → Prop) : Prop := match o, k with
  | .ref x, .int i => (match H x with
    | some (.list vs) => vs.length ≤ 4096 ∧ ∃ v, (0 ≤ i ∨ 0 ≤ i + vs.length) ∧ vs[idxA vs.length i]? = some v ∧ Φ v H
    | some (.tuple vs) => vs.length ≤ 4096 ∧ ∃ v, 0 ≤ i ∧ vs[i.toNat]? = some v ∧ Φ v H
    | _ => False)
  | .ref x, .str s => ∃ es v, H x = some (.dict es) ∧ getL es s = some v ∧ Φ v H
  | _, _ => False
noncomputable def setItemA (o k v : AV) (H : AH) (Φ : AH → Prop) : Prop := match o, k with
  | .ref x, .int i => ∃ vs, H x = some (.list vs) ∧ vs.length ≤ 4096 ∧ 0 ≤ i ∧ i < vs.length ∧ Φ (updH H x (.list (vs.set i.toNat v)))
  | .ref x, .str s => ∃ es, H x = some (.dict es) ∧ es.length ≤ 100 ∧ Φ (updH H x (.dict (setL es s v)))
  | _, _ => False
noncomputable def itemsA : AO → Option (List AV)
  | .list vs => some vs
  | .range a b s => if s = 1 then some ((List.range (b - a).toNat).map fun (i : Nat) => AV.int (a + i)) else if s = 2 then some ((List.range ((b - a + 1) / 2).toNat).map fun (i : Nat) => AV.int (a + 2 * i)) else .none
  | _ => .none

noncomputable def sIsInst : Str := Str.ofString "isinstance"
noncomputable def sLen : Str := Str.ofString "len"
noncomputable def sAbs : Str := Str.ofString "abs"
noncomputable def sChr : Str := Str.ofString "chr"
noncomputable def sRange : Str := Str.ofString "range"
noncomputable def sSorted : Str := Str.ofString "sorted"
noncomputable def sList : Str := Str.ofString "list"
noncomputable def sVector : Str := Str.ofString "Vector"
noncomputable def sMatching : Str := Str.ofString "Matching"

noncomputable def isInstA (v : AV) (c : Str) (H : AH) (Φ : Bool → Prop) : Prop :=
  if c = sVector then (match v with | .ref x => (match H x with | some (.inst .vec _) => Φ true | _ => False) | _ => False)
  else if c = sList then (match v with | .bool _ => Φ false | _ => False)
  else False
noncomputable def bigA (i : Int) : Prop := i.natAbs < 2 ^ 40
/-- a call of a plain built-in -/
noncomputable def builtA (f : Str) (vs : List AV) (H : AH) (Φ : AV → AH → Prop) : Prop :=
  if f = sLen then (match vs with | [.ref x] => ∃ us, H x = some (.list us) ∧ us.length ≤ 4096 ∧ Φ (.int us.length) H | _ => False)
  else if f = sAbs then (match vs with | [.int i] => Φ (.int i.natAbs) H | _ => False)
  else if f = sChr then (match vs with | [.int i] => 32 ≤ i ∧ i < 127 ∧ Φ (.str ⟨#[i.toNat]⟩) H | _ => False)
  else if f = sRange then (match vs with
    | [.int b] => -4096 ≤ b ∧ b ≤ 4096 ∧ allocA H (.range 0 b 1) Φ
    | [.int a, .int b] => 0 ≤ a ∧ a ≤ 4096 ∧ -4096 ≤ b ∧ b ≤ 4096 ∧ allocA H (.range a b 1) Φ
    | [.int a, .int b, .int c] => a = 0 ∧ -4096 ≤ b ∧ b ≤ 4096 ∧ c = 2 ∧ allocA H (.range a b c) Φ
    | _ => False)
  else if f = sSorted then (match vs with | [.ref x] => ∃ ns : List Int, H x = some (.list (ns.map .int)) ∧ ns.length < 64 ∧ ∀ ms : List Int, ms.Perm ns → ms.Pairwise (· ≤ ·) → allocA H (.list (ms.map .int)) Φ | _ => False)
  else if f = sList then (match vs with | [.ref x] => ∃ us, H x = some (.list us) ∧ us.length ≤ 4096 ∧ allocA H (.list us) Φ | _ => False)
  else False
noncomputable def isBuilt (f : Str) : Bool := decide (f = sLen) || decide (f = sAbs) || decide (f = sChr) || decide (f = sRange) || decide (f = sSorted) || decide (f = sList)
noncomputable def clsOf (f : Str) : Option Cls := if f = sVector then some .vec else if f = sMatching then some .mat else .none
noncomputable def sInit : Str := Str.ofString "__init__"
/-- a call of a name of the top -/
noncomputable def callA (G : GT) (f : Str) (vs : List AV) (H : AH) (Φ : AV → AH → Prop) : Prop :=
  if isBuilt f then builtA f vs H Φ else match clsOf f with
    | some c => ∀ x dx, H x = .none → H dx = .none → x ≠ dx → G (.meth c sInit) (.ref x :: vs) (updH (updH H dx (.dict [])) x (.inst c dx)) fun v H' => v = .none ∧ Φ (.ref x) H'
    | .none => G (.fn f) vs H Φ

noncomputable def sAppend : Str := Str.ofString "append"
noncomputable def sPop : Str := Str.ofString "pop"
noncomputable def sGet : Str := Str.ofString "get"
noncomputable def methsOf : List Str := [Str.ofString "exact", Str.ofString "partial", Str.ofString "partial_of", Str.ofString "positional", Str.ofString "is_free", Str.ofString "rest"]
noncomputable def appA (x : Addr) (vs : List AV) (H : AH) (Φ : AV → AH → Prop) : Prop := match H x with
  | some (.list us) => (match vs with | [v] => us.length ≤ 4096 ∧ Φ .none (updH H x (.list (us ++ [v]))) | _ => False)
  | _ => False
noncomputable def popA (x : Addr) (vs : List AV) (H : AH) (Φ : AV → AH → Prop) : Prop := match H x with
  | some (.list us) => (match vs with | [.int i] => i = 0 ∧ us.length ≤ 4096 ∧ (match us with | u :: r => Φ u (updH H x (.list r)) | [] => False) | _ => False)
  | _ => False
noncomputable def getA (x : Addr) (vs : List AV) (H : AH) (Φ : AV → AH → Prop) : Prop := match H x with
  | some (.dict es) => (match vs with | [.str s] => Φ ((getL es s).getD .none) H | _ => False)
  | _ => False
/-- a call of a method: R is how the arguments are reckoned -/
noncomputable def methA (G : GT) (o : AV) (n : Str) (H : AH) (R : (List AV → AH → Prop) → Prop) (Φ : AV → AH → Prop) : Prop := match o with
  | .ref x => (match H x with
    | some (.list us) => if n = sAppend then R fun vs H₂ => appA x vs H₂ Φ else if n = sPop then R fun vs H₂ => popA x vs H₂ Φ else False
    | some (.dict es) => if n = sGet then R fun vs H₂ => getA x vs H₂ Φ else False
    | some (.inst .mat dx) => (∃ es, H dx = some (.dict es) ∧ getL es n = .none ∧ methsOf.contains n = true) ∧ R fun vs H₂ => G (.meth .mat n) (.ref x :: vs) H₂ Φ
    | _ => False)
  | _ => False
/-- the defs of the top that are called -/
noncomputable def topFns : List Str := [Str.ofString "integer", Str.ofString "double", Str.ofString "character", Str.ofString "length", Str.ofString "is_vector", Str.ofString "share", Str.ofString "get_attr", Str.ofString "put_attr", Str.ofString "set_names", Str.ofString "names_of", Str.ofString "dim_of", Str.ofString "class_attr", Str.ofString "match_names", Str.ofString "take", Str.ofString "gcd", Str.ofString "make", Str.ofString "from_int", Str.ofString "is_na", Str.ofString "div", Str.ofString "with_names", Str.ofString "as_kind", Str.ofString "is_factor", Str.ofString "pick", Str.ofString "is_lacking", Str.ofString "compare_items", Str.ofString "check_sortable", Str.ofString "compare_places", Str.ofString "compare_keys", Str.ofString "merge_runs", Str.ofString "merge_sort", Str.ofString "each_key", Str.ofString "kept_places", Str.ofString "order_by", Str.ofString "tie_groups", Str.ofString "group_rank", Str.ofString "rank_of", Str.ofString "needed_arg", Str.ofString "flag_arg", Str.ofString "flags_arg", Str.ofString "b_sort", Str.ofString "b_order", Str.ofString "b_rank", Str.ofString "_law_hat", Str.ofString "_law_out", Str.ofString "_law_vector", Str.ofString "_law_before", Str.ofString "_law_told", Str.ofString "_law_flag", Str.ofString "law"]
noncomputable def knownF (f : Str) : Bool := isBuilt f || (clsOf f).isSome || topFns.contains f

/-- a slice [lo:hi] of a list, bounds not negative -/
noncomputable def sliceA (o : AV) (lo hi : Option AV) (H : AH) (Φ : AV → AH → Prop) : Prop := match o with
  | .ref x => ∃ vs, (H x = some (.list vs) ∨ ∃ ob, H x = some (.klist vs ob)) ∧ vs.length ≤ 4096 ∧ (match lo, hi with
    | .none, some (.int k) => 0 ≤ k ∧ k ≤ 4096 ∧ allocA H (.list (vs.take k.toNat)) Φ
    | some (.int k), .none => 0 ≤ k ∧ k.toNat ≤ vs.length ∧ allocA H (.list (vs.drop k.toNat)) Φ
    | _, _ => False)
  | _ => False

/-- the turns of a comprehension: B gives the element (or none where the test says no) -/
noncomputable def compA (B : AV → AH → (Option AV → AH → Prop) → Prop) (src : Addr) (o : AO) : List AV → List AV → AH → (AV → AH → Prop) → Prop
  | [], ys, H, Φ => H src = some o ∧ allocA H (.list ys) Φ
  | v :: r, ys, H, Φ => H src = some o ∧ B v H fun y H' => compA B src o r (match y with | some y => ys ++ [y] | .none => ys) H' Φ

noncomputable def LocLe (a b : Loc) : Prop := ∀ x v, getL a x = some v → getL b x = some v

/-- the turns of a for -/
noncomputable def forA (B : Loc → AH → (AF → Loc → AH → Prop) → Prop) (x : Str) (src : Addr) (o : AO) : List AV → Loc → AH → (AF → Loc → AH → Prop) → Prop
  | [], loc, H, Φ => H src = some o ∧ ∃ loc₁, LocLe loc₁ loc ∧ Φ .next loc₁ H
  | v :: r, loc, H, Φ => H src = some o ∧ ∃ loc₁, LocLe loc₁ loc ∧ B (setL loc₁ x v) H fun f loc' H' => match f with
    | .next => forA B x src o r loc' H' Φ
    | .cont => forA B x src o r loc' H' Φ
    | .brk => Φ .next loc' H'
    | .ret w => Φ (.ret w) loc' H'
/-- the turns of a while, by fuel -/
noncomputable def whileA (T : Loc → AH → (Bool → AH → Prop) → Prop) (B : Loc → AH → (AF → Loc → AH → Prop) → Prop) : Nat → Loc → AH → (AF → Loc → AH → Prop) → Prop
  | 0, _, _, _ => False
  | n + 1, loc, H, Φ => ∃ loc₁, LocLe loc₁ loc ∧ T loc₁ H fun c H₁ => if c then B loc₁ H₁ (fun f loc' H' => match f with
    | .next => whileA T B n loc' H' Φ
    | .cont => whileA T B n loc' H' Φ
    | .brk => Φ .next loc' H'
    | .ret w => Φ (.ret w) loc' H') else Φ .next loc₁ H₁

/-- no call without arguments of a bare name (super() has a road of its own) -/
noncomputable def baseOk : Expr → Bool
  | .Call (.Name _ _) [] [] _ => false
  | _ => true
noncomputable def isSlice : Expr → Bool
  | .Slice .. => true
  | _ => false
noncomputable def noStar : Expr → Bool
  | .Starred .. => false
  | _ => true
noncomputable def noSet : Expr → Bool
  | .Set .. => false
  | _ => true
noncomputable def isName : Expr → Bool
  | .Name .. => true
  | _ => false
/-- a comprehension's own scope: its one local is x -/
noncomputable def compOk (sc cs : Scope) (x : Str) : Bool := decide (cs.kind = .function) && cs.names.all (fun p => p.2 != .free || sc.names.lookup p.1 == some .cell) && cs.names.all (fun p => p.2 != .cell && (p.2 != .local || (cs.names.lookup p.1 == some .local && (p.1 == x || p.1 == sDot)))) && (cs.names.lookup x == some .local) && notDebug x

mutual
noncomputable def wpE (G : GT) : Expr → Scope → Loc → AH → (AV → AH → Prop) → Prop
  | .Constant c _ _, sc, _, H, Φ => (match c with
    | .none => Φ .none H
    | .bool b => Φ (.bool b) H
    | .int i => Φ (.int i) H
    | .str s => Φ (.str s) H
    | _ => False)
  | .Name x _, sc, loc, H, Φ => (isVar sc x && notDebug x) = true ∧ ∃ v, getL loc x = some v ∧ Φ v H
  | .BoolOp op vs _, sc, loc, H, Φ => wpB G op vs sc loc H Φ
  | .BinOp l op r _, sc, loc, H, Φ => wpE G l sc loc H fun a H₁ => wpE G r sc loc H₁ fun b H₂ => binA op a b H₂ Φ
  | .UnaryOp op x _, sc, loc, H, Φ => (match op with
    | .USub => wpE G x sc loc H fun a H₁ => (match a with | .int i => Φ (.int (-i)) H₁ | _ => False)
    | _ => False)
  | .IfExp t b o _, sc, loc, H, Φ => wpT G t sc loc H (wpE G t sc loc H) fun c H₁ => if c then wpE G b sc loc H₁ Φ else wpE G o sc loc H₁ Φ
  | .List es _, sc, loc, H, Φ => wpEs G es sc loc H fun vs H₁ => vs.length ≤ 4096 ∧ allocA H₁ (.list vs) Φ
  | .Tuple es _ _, sc, loc, H, Φ => wpEs G es sc loc H fun vs H₁ => vs.length ≤ 4096 ∧ allocA H₁ (.tuple vs) Φ
  | .Dict [] [] _, sc, _, H, Φ => allocA H (.dict []) Φ
  | .Dict [some (.Constant (.str k) _ _)] [e] _, sc, loc, H, Φ => wpE G e sc loc H fun v H₁ => allocA H₁ (.dict [(k, v)]) Φ
  | .ListComp elt [⟨.Name x _, iter, [], 0⟩] cs _, sc, loc, H, Φ => compOk sc cs x = true ∧ wpE G iter sc loc H fun s H₁ => (match s with
    | .ref a => ∃ o items, H₁ a = some o ∧ itemsA o = some items ∧ items.length ≤ 4096 ∧ compA (fun v H₂ K => wpE G elt cs (setL loc x v) H₂ fun y H₃ => K (some y) H₃) a o items [] H₁ Φ
    | _ => False)
  | .ListComp elt [⟨.Name x _, iter, [c], 0⟩] cs _, sc, loc, H, Φ => compOk sc cs x = true ∧ wpE G iter sc loc H fun s H₁ => (match s with
    | .ref a => ∃ o items, H₁ a = some o ∧ itemsA o = some items ∧ items.length ≤ 4096 ∧ compA (fun v H₂ K => wpT G c cs (setL loc x v) H₂ (wpE G c cs (setL loc x v) H₂) fun t H₃ => if t then wpE G elt cs (setL loc x v) H₃ fun y H₄ => K (some y) H₄ else K .none H₃) a o items [] H₁ Φ
    | _ => False)
  | .Compare l [op] [r] _, sc, loc, H, Φ => noSet r = true ∧ wpE G l sc loc H fun a H₁ => wpE G r sc loc H₁ fun b H₂ => cmpA op a b H₂ fun c => Φ (.bool c) H₂
  | .Call (.Name f _) [e, .Name c cp] [] _, sc, loc, H, Φ => (isGlob sc f && (decide (f = sIsInst) || knownF f) && noStar e) = true ∧ (if f = sIsInst then isGlob sc c = true ∧ wpE G e sc loc H fun v H₁ => isInstA v c H₁ fun b => Φ (.bool b) H₁
      else wpE G e sc loc H fun v H₁ => wpE G (.Name c cp) sc loc H₁ fun u H₂ => callA G f [v, u] H₂ Φ)
  | .Call (.Name f _) args [] _, sc, loc, H, Φ => (isGlob sc f && knownF f && args.all noStar) = true ∧ wpEs G args sc loc H fun vs H₁ => callA G f vs H₁ Φ
  | .Call (.Attribute o n ap) args [] p, sc, loc, H, Φ => (baseOk o && (ap.endLine == p.line) && decide (args.length < 20) && args.all noStar) = true ∧ wpE G o sc loc H fun ov H₁ => methA G ov n H₁ (wpEs G args sc loc H₁) Φ
  | .Attribute o n _, sc, loc, H, Φ => baseOk o = true ∧ wpE G o sc loc H fun v H₁ => attrA v n H₁ Φ
  | .Subscript o (.Slice .none (some e) .none _) _, sc, loc, H, Φ => isName o = true ∧ wpE G o sc loc H fun v H₁ => wpE G e sc loc H₁ fun k H₂ => sliceA v .none (some k) H₂ Φ
  | .Subscript o (.Slice (some e) .none .none _) _, sc, loc, H, Φ => isName o = true ∧ wpE G o sc loc H fun v H₁ => wpE G e sc loc H₁ fun k H₂ => sliceA v (some k) .none H₂ Φ
  | .Subscript o i _, sc, loc, H, Φ => isSlice i = false ∧ wpE G o sc loc H fun v H₁ => wpE G i sc loc H₁ fun k H₂ => subA v k H₂ Φ
  | _, _, _, _, _ => False
noncomputable def wpEs (G : GT) : List Expr → Scope → Loc → AH → (List AV → AH → Prop) → Prop
  | [], sc, _, H, Φ => Φ [] H
  | e :: r, sc, loc, H, Φ => wpE G e sc loc H fun v H₁ => wpEs G r sc loc H₁ fun vs H₂ => Φ (v :: vs) H₂
noncomputable def wpB (G : GT) : BoolOp → List Expr → Scope → Loc → AH → (AV → AH → Prop) → Prop
  | _, [], sc, _, _, _ => False
  | op, e :: r, sc, loc, H, Φ => wpE G e sc loc H fun v H₁ => (match r with
    | [] => Φ v H₁
    | _ => (match v, op with
      | .bool true, .And => wpB G op r sc loc H₁ Φ
      | .bool false, .And => Φ v H₁
      | .bool true, .Or => Φ v H₁
      | .bool false, .Or => wpB G op r sc loc H₁ Φ
      | _, _ => False))
noncomputable def wpT (G : GT) : Expr → Scope → Loc → AH → ((AV → AH → Prop) → Prop) → (Bool → AH → Prop) → Prop
  | .UnaryOp .Not e _, sc, loc, H, _, Φ => wpT G e sc loc H (wpE G e sc loc H) fun b H₁ => Φ (!b) H₁
  | .BoolOp op vs _, sc, loc, H, _, Φ => wpTs G op vs sc loc H Φ
  | .IfExp _ _ _ _, _, _, _, _, _ => False
  | .Compare l [op] [r] _, sc, loc, H, _, Φ => noSet r = true ∧ wpE G l sc loc H fun a H₁ => wpE G r sc loc H₁ fun b H₂ => cmpA op a b H₂ fun c => Φ c H₂
  | .Compare _ _ _ _, _, _, _, _, _ => False
  | _, _, _, _, W, Φ => W fun v H₁ => (match v with | .bool b => Φ b H₁ | _ => False)
noncomputable def wpTs (G : GT) : BoolOp → List Expr → Scope → Loc → AH → (Bool → AH → Prop) → Prop
  | .And, [], sc, _, H, Φ => Φ true H
  | .Or, [], sc, _, H, Φ => Φ false H
  | .And, e :: r, sc, loc, H, Φ => wpT G e sc loc H (wpE G e sc loc H) fun b H₁ => if b then wpTs G .And r sc loc H₁ Φ else Φ false H₁
  | .Or, e :: r, sc, loc, H, Φ => wpT G e sc loc H (wpE G e sc loc H) fun b H₁ => if b then Φ true H₁ else wpTs G .Or r sc loc H₁ Φ
end

noncomputable def isStore (sc : Scope) (x : Str) : Bool := (match sc.names.lookup x with
  | some .local => true
  | some .cell => true
  | _ => false) && notDebug x
/-- two locals swapped -/
noncomputable def swapOk (sc : Scope) (x y : Str) (px py : Pos) (a b : Expr) : Bool :=
  (sc.names.lookup x == some .local) && (sc.names.lookup y == some .local) && (px.line == py.line) && !(x == y) && noStar a && noStar b && !(foldedForSure 8 a) && !(constantsAlone 8 a)
noncomputable def namesOf : List Expr → Option (List Str)
  | [] => some []
  | .Name x _ :: r => (namesOf r).map (x :: ·)
  | _ => .none
noncomputable def setLs : Loc → List Str → List AV → Loc
  | loc, x :: xs, v :: vs => setLs (setL loc x v) xs vs
  | loc, _, _ => loc
noncomputable def unpackA (v : AV) (n : Nat) (H : AH) (Φ : List AV → Prop) : Prop := match v with
  | .ref a => (match H a with
    | some (.list vs) => vs.length = n ∧ Φ vs
    | some (.tuple vs) => vs.length = n ∧ Φ vs
    | _ => False)
  | _ => False

mutual
noncomputable def wpS (G : GT) : Stmt → Scope → Loc → AH → (AF → Loc → AH → Prop) → Prop
  | .Expr (.Call f args kws p) _, sc, loc, H, Φ => wpE G (.Call f args kws p) sc loc H fun _ H₁ => Φ .next loc H₁
  | .Return (some e) _, sc, loc, H, Φ => wpE G e sc loc H fun v H₁ => Φ (.ret v) loc H₁
  | .Return .none _, _, loc, H, Φ => Φ (.ret .none) loc H
  | .Assign [.Name x _] e _, sc, loc, H, Φ => isStore sc x = true ∧ wpE G e sc loc H fun v H₁ => Φ .next (setL loc x v) H₁
  | .Assign [.Attribute o n _] e _, sc, loc, H, Φ => wpE G e sc loc H fun v H₁ => wpE G o sc loc H₁ fun ov H₂ => setAttrA ov n v H₂ fun H₃ => Φ .next loc H₃
  | .Assign [.Subscript o i _] e _, sc, loc, H, Φ => isSlice i = false ∧ wpE G e sc loc H fun v H₁ => wpE G o sc loc H₁ fun ov H₂ => wpE G i sc loc H₂ fun iv H₃ => setItemA ov iv v H₃ fun H₄ => Φ .next loc H₄
  | .Assign [.Tuple ts _ _] e _, sc, loc, H, Φ => (match e with
    | .Call f args kws p => (match namesOf ts with
      | some xs => (xs.all fun x => isStore sc x) = true ∧ wpE G (.Call f args kws p) sc loc H fun v H₁ => unpackA v xs.length H₁ fun vs => Φ .next (setLs loc xs vs) H₁
      | .none => False)
    | .Tuple [a, b] _ _ => (match ts with
      | [.Name x px, .Name y py] => swapOk sc x y px py a b = true ∧ wpE G a sc loc H fun v H₁ => wpE G b sc loc H₁ fun u H₂ => Φ .next (setL (setL loc x v) y u) H₂
      | _ => False)
    | _ => False)
  | .AugAssign (.Name x _) .Add e _, sc, loc, H, Φ => isStore sc x = true ∧ (match getL loc x with
    | some (.int i) => wpE G e sc loc H fun v H₁ => (match v with | .int j => Φ .next (setL loc x (.int (i + j))) H₁ | _ => False)
    | _ => False)
  | .If t b o _, sc, loc, H, Φ => wpT G t sc loc H (wpE G t sc loc H) fun c H₁ => if c then wpSs G b sc loc H₁ Φ else wpSs G o sc loc H₁ Φ
  | .While t b [] _, sc, loc, H, Φ => ∃ n, whileA (fun l h K => wpT G t sc l h (wpE G t sc l h) K) (fun l h K => wpSs G b sc l h K) n loc H Φ
  | .For (.Name x _) it b [] _, sc, loc, H, Φ => isStore sc x = true ∧ wpE G it sc loc H fun s H₁ => (match s with
    | .ref a => ∃ o items, H₁ a = some o ∧ itemsA o = some items ∧ items.length ≤ 4096 ∧ forA (fun l h K => wpSs G b sc l h K) x a o items loc H₁ Φ
    | _ => False)
  | .Pass _, _, loc, H, Φ => Φ .next loc H
  | .Continue _, _, loc, H, Φ => Φ .cont loc H
  | .Break _, _, loc, H, Φ => Φ .brk loc H
  | _, _, _, _, _ => False
noncomputable def wpSs (G : GT) : List Stmt → Scope → Loc → AH → (AF → Loc → AH → Prop) → Prop
  | [], _, loc, H, Φ => Φ .next loc H
  | s :: r, sc, loc, H, Φ => wpS G s sc loc H fun f loc₁ H₁ => match f with
    | .next => wpSs G r sc loc₁ H₁ Φ
    | f => Φ f loc₁ H₁
end

/-- a def of the text, as it is called: its parameters, body, scope, the defaults that a call leaves open -/
structure FD where
  name : Str
  params : Arguments
  body : List Stmt
  scope : Scope
  dflts : List AV

noncomputable def FD.names (fd : FD) : List Str := fd.params.args.map (·.arg)
noncomputable def fdOfStmt (d : List AV) : Option Stmt → Option FD
  | some (.FunctionDef name args body _ _ _ scope _ _ _) => some ⟨name, args, body, scope, d⟩
  | _ => .none
noncomputable def methOf (c : Option Stmt) (j : Nat) : Option Stmt := match c with
  | some (.ClassDef _ _ _ body _ _ _ _ _ _ _) => body[j]?
  | _ => .none

noncomputable def Γ (T : FnId → Option FD) : Nat → GT
  | 0 => fun _ _ _ _ => False
  | n + 1 => fun f vs H Φ => match T f with
    | some fd => vs.length + fd.dflts.length = fd.names.length ∧ wpSs (Γ T n) fd.body fd.scope (fd.names.zip (vs ++ fd.dflts)) H fun fl _ H' => match fl with
      | .ret v => Φ v H'
      | .next => Φ .none H'
      | _ => False
    | .none => False
end
section
inductive VR : AV → Value → Prop
  | none : VR .none .none
  | bool (b : Bool) : VR (.bool b) (.bool b)
  | int (i : Int) (t : Tok) : VR (.int i) (.int i t)
  | str (s : Str) (t : Tok) : VR (.str s) (.str s t)
  | ref (a : Addr) : VR (.ref a) (.ref a)
inductive VRs : List AV → List Value → Prop
  | nil : VRs [] []
  | cons {a v as vs} : VR a v → VRs as vs → VRs (a :: as) (v :: vs)
theorem VRs.length {as : List AV} {vs : List Value} (h : VRs as vs) : vs.length = as.length := by
  induction h with
  | nil => rfl
  | cons _ _ ih => simp [ih]
theorem VRs.append {as bs : List AV} {vs us : List Value} (h : VRs as vs) (k : VRs bs us) : VRs (as ++ bs) (vs ++ us) := by
  induction h with
  | nil => exact k
  | cons a _ ih => exact .cons a ih
theorem VRs.get {as : List AV} {vs : List Value} (h : VRs as vs) : ∀ {i : Nat} {a : AV}, as[i]? = some a → ∃ v, vs[i]? = some v ∧ VR a v := by
  induction h with
  | nil => intro i a e; simp at e
  | cons x _ ih =>
    intro i a e
    cases i with
    | zero => simp at e; subst e; exact ⟨_, by simp, x⟩
    | succ i => simp at e ⊢; exact ih e
theorem VRs.set {as : List AV} {vs : List Value} (h : VRs as vs) {a : AV} {v : Value} (x : VR a v) : ∀ i : Nat, VRs (as.set i a) (vs.set i v) := by
  induction h with
  | nil => intro i; simp; exact .nil
  | cons y r ih =>
    intro i
    cases i with
    | zero => exact .cons x r
    | succ i => exact .cons y (ih i)
theorem VRs.take {as : List AV} {vs : List Value} (h : VRs as vs) : ∀ k : Nat, VRs (as.take k) (vs.take k) := by
  induction h with
  | nil => intro k; simp; exact .nil
  | cons y r ih =>
    intro k
    cases k with
    | zero => exact .nil
    | succ k => exact .cons y (ih k)
theorem VRs.drop {as : List AV} {vs : List Value} (h : VRs as vs) : ∀ k : Nat, VRs (as.drop k) (vs.drop k) := by
  induction h with
  | nil => intro k; simp; exact .nil
  | cons y r ih =>
    intro k
    cases k with
    | zero => exact .cons y r
    | succ k => exact ih k

/-- the entries of a dict by str -/
inductive KVs : List (Str × AV) → List (Str × Value) → Prop
  | nil : KVs [] []
  | cons {k a v es kvs} : VR a v → KVs es kvs → KVs ((k, a) :: es) ((k, v) :: kvs)

structure CA where
  vec : Addr
  mat : Addr
noncomputable def CA.of (ca : CA) : Cls → Addr
  | .vec => ca.vec
  | .mat => ca.mat
abbrev tupOf (its : Array Value) (n : Nat) : Obj := { cls := .type "tuple", data := .seq its n }

noncomputable def ORel (prog : Program) (w : World) (ca : CA) : AO → Obj → Prop
  | .list vs, o => ∃ vals n, o = listOf (List.toArray vals) n ∧ VRs vs vals
  | .tuple vs, o => ∃ vals n, o = tupOf (List.toArray vals) n ∧ VRs vs vals
  | .dict es, o => ∃ kvs, o.IsDictOf (strKind prog w) kvs ∧ KVs es kvs
  | .inst c dx, o => o = instObj (ca.of c) dx
  | .range a b s, o => (a.natAbs ≤ 4096 ∧ b.natAbs ≤ 4096 ∧ (s = 1 ∨ s = 2)) ∧ ∃ t u v, o = { cls := .type "range", dict := none, data := .fields #[.int a t, .int b u, .int s v], slots := #[] }
  | .klist vs ob, o => o = ob ∧ ∃ vals n, ob = listOf (List.toArray vals) n ∧ VRs vs vals

abbrev PH := Addr → Option Obj

/-- the call's own: not of the base -/
noncomputable def Own (B : Heap) (a : Addr) : Prop := B.get? a = none ∧ (sysModules < B.objs.size → a ≠ sysModules)
structure St (prog : Program) (w : World) (ca : CA) (B : Heap) (P : PH) (L : Addr) (m : Str → Option Value) (H : AH) (h : Heap) : Prop where
  fr : Fr B L h m
  offL : P L = none
  keep : ∀ b o, P b = some o → h.get? b = some o
  rep : ∀ a o, H a = some o → P a = none ∧ a ≠ L ∧ Own B a ∧ ∃ obj, h.get? a = some obj ∧ ORel prog w ca o obj

section
variable {prog : Program} {w : World} {ca : CA} {B : Heap} {P : PH} {L : Addr} {m m' : Str → Option Value} {H H' : AH} {h h' : Heap}

theorem St.get (S : St prog w ca B P L m H h) {a : Addr} {o : AO} (e : H a = some o) : ∃ obj, h.get? a = some obj ∧ ORel prog w ca o obj := (S.rep a o e).2.2.2

/-- what a step may change: d, and (as a namespace) L -/
theorem St.step (S : St prog w ca B P L m H h) (F : Fr B L h' m') {d : Addr} {o : AO} {obj : Obj} (hk : ∀ b x, b ≠ d → b ≠ L → h.get? b = some x → h'.get? b = some x)
    (hd : P d = none) (hdL : d ≠ L) (hdB : Own B d) (ho : h'.get? d = some obj) (hr : ORel prog w ca o obj) : St prog w ca B P L m' (updH H d o) h' where
  fr := F
  offL := S.offL
  keep := fun b x e => hk b x (fun q => by rw [q, hd] at e; cases e) (fun q => by rw [q, S.offL] at e; cases e) (S.keep b x e)
  rep := fun a x e => by
    unfold updH at e
    by_cases q : a = d
    · rw [if_pos q] at e
      cases e
      subst q
      exact ⟨hd, hdL, hdB, obj, ho, hr⟩
    · rw [if_neg q] at e
      obtain ⟨r1, r2, r3, ob, r4, r5⟩ := S.rep a x e
      exact ⟨r1, r2, r3, ob, hk a ob q r2 r4, r5⟩
theorem St.upd (S : St prog w ca B P L m H h) (F : Fr B L h' m') {d : Addr} {o₀ o : AO} {obj : Obj} (e : H d = some o₀) (hk : ∀ b x, b ≠ d → b ≠ L → h.get? b = some x → h'.get? b = some x)
    (ho : h'.get? d = some obj) (hr : ORel prog w ca o obj) : St prog w ca B P L m' (updH H d o) h' :=
  let ⟨r1, r2, r3, _⟩ := S.rep d o₀ e
  S.step F hk r1 r2 r3 ho hr
theorem get_of_none {h : Heap} {d : Addr} (e : h.objs.size ≤ d) : h.get? d = none := by
  cases q : h.get? d with
  | none => rfl
  | some o => exact absurd (Heap.lt_size q) (Nat.not_lt.mpr e)
theorem own_of_ge {B : Heap} {d : Addr} (e : B.objs.size ≤ d) : Own B d := ⟨get_of_none e, fun h q => absurd h (Nat.not_lt.mpr (q ▸ e))⟩
theorem St.noH (S : St prog w ca B P L m H h) {d : Addr} (e : h.get? d = none) : H d = none := by
  cases q : H d with
  | none => rfl
  | some o => obtain ⟨_, g, _⟩ := S.get q; rw [e] at g; cases g
theorem St.noP (S : St prog w ca B P L m H h) {d : Addr} (e : h.get? d = none) : P d = none := by
  cases q : P d with
  | none => rfl
  | some o => have := S.keep d o q; rw [e] at this; cases this
theorem St.noB (S : St prog w ca B P L m H h) {d : Addr} (e : h.get? d = none) : B.get? d = none := by
  cases q : B.get? d with
  | none => rfl
  | some o => have := S.fr.keep d o q; rw [e] at this; cases this
theorem St.neL (S : St prog w ca B P L m H h) {d : Addr} (e : h.get? d = none) : d ≠ L := fun q => by
  obtain ⟨o, _, _, ho, _⟩ := S.fr.ns
  rw [← q, e] at ho; cases ho
theorem St.geB (S : St prog w ca B P L m H h) {d : Addr} (e : h.objs.size ≤ d) : B.objs.size ≤ d := Nat.le_trans S.fr.above (Nat.le_of_lt (Nat.lt_of_lt_of_le S.fr.ns.lt e))
theorem St.new (S : St prog w ca B P L m H h) (F : Fr B L h' m') {d : Addr} {o : AO} {obj : Obj} (e : h.objs.size ≤ d) (hk : ∀ b x, b ≠ d → b ≠ L → h.get? b = some x → h'.get? b = some x)
    (ho : h'.get? d = some obj) (hr : ORel prog w ca o obj) : St prog w ca B P L m' (updH H d o) h' := S.step F hk (S.noP (get_of_none e)) (S.neL (get_of_none e)) (own_of_ge (S.geB e)) ho hr
/-- a step that only adds -/
theorem St.more (S : St prog w ca B P L m H h) (hk : ∀ b x, h.get? b = some x → h'.get? b = some x) : St prog w ca B P L m H h' where
  fr := S.fr.keeps hk
  offL := S.offL
  keep := fun b x e => hk _ _ (S.keep b x e)
  rep := fun a x e => let ⟨r1, r2, r3, ob, r4, r5⟩ := S.rep a x e; ⟨r1, r2, r3, ob, hk _ _ r4, r5⟩
theorem St.push (S : St prog w ca B P L m H h) {o : AO} {obj : Obj} (hr : ORel prog w ca o obj) (hf : obj.isFreed = false := by rfl) : St prog w ca B P L m (updH H h.objs.size o) (h.push obj) :=
  S.new (S.fr.push obj) (Nat.le_refl _) (fun b x _ _ e => Heap.get?_push_of_some _ e) (Heap.get?_push_size _ hf) hr

/-- the whole heap as a ledger, but for B and L -/
theorem St.all (S : St prog w ca B P L m H h) : ∃ N, News B L h N ∧ ∀ b x, b ≠ L → B.get? b = none → h.get? b = some x → (b, x) ∈ N := by
  refine ⟨(List.range h.objs.size).filterMap fun b => match h.get? b with | some x => (if b ≠ L ∧ B.get? b = none then some (b, x) else none) | none => none, ?_, ?_⟩
  · intro p hp
    obtain ⟨b, _, e⟩ := List.mem_filterMap.mp hp
    split at e
    · rename_i x q
      split at e
      · rename_i c
        cases e
        exact ⟨q, c.1, c.2⟩
      · cases e
    · cases e
  · intro b x h1 h2 h3
    refine List.mem_filterMap.mpr ⟨b, List.mem_range.mpr (Heap.lt_size h3), ?_⟩
    rw [h3]
    simp only
    rw [if_pos ⟨h1, h2⟩]
/-- the same with d at the head, alone -/
theorem St.allAt (S : St prog w ca B P L m H h) {d : Addr} {obj : Obj} (hd : h.get? d = some obj) (hdL : d ≠ L) (hdB : B.get? d = none) :
    ∃ N, News B L h ((d, obj) :: N) ∧ (∀ p ∈ N, p.1 ≠ d) ∧ ∀ b x, b ≠ d → b ≠ L → B.get? b = none → h.get? b = some x → (b, x) ∈ N := by
  obtain ⟨N, hN, hm⟩ := S.all
  refine ⟨N.filter fun p => p.1 ≠ d, fun p hp => ?_, fun p hp => ?_, fun b x h0 h1 h2 h3 => ?_⟩
  · rcases List.mem_cons.mp hp with rfl | hp
    · exact ⟨hd, hdL, hdB⟩
    · exact hN p (List.mem_filter.mp hp).1
  · simpa using (List.mem_filter.mp hp).2
  · exact List.mem_filter.mpr ⟨hm b x h1 h2 h3, by simpa using h0⟩
/-- back from a ledger -/
theorem keep_of_news {N : List (Addr × Obj)} {d : Addr} {obj : Obj} (F : Fr B L h m) (F' : Fr B L h' m') (N' : News B L h' ((d, obj) :: N)) (hm : ∀ b x, b ≠ d → b ≠ L → B.get? b = none → h.get? b = some x → (b, x) ∈ N) :
    ∀ b x, b ≠ d → b ≠ L → h.get? b = some x → h'.get? b = some x := fun b x h0 h1 h3 => by
  cases q : B.get? b with
  | none => exact (N' _ (.tail _ (hm b x h0 h1 q h3))).1
  | some y =>
    have := F.keep b y q
    rw [h3] at this
    cases this
    exact F'.keep b _ q
end

/-- what an expression leaves -/
noncomputable def EPost (prog : Program) (w : World) (ca : CA) (B : Heap) (P : PH) (L : Addr) (m : Str → Option Value) (Φ : AV → AH → Prop) (s : Shared) (v : Value) (s' : Shared) : Prop :=
  ∃ h' tk av H', s' = { s with heap := h', toks := tk } ∧ St prog w ca B P L m H' h' ∧ VR av v ∧ Φ av H'
noncomputable def BPost (prog : Program) (w : World) (ca : CA) (B : Heap) (P : PH) (L : Addr) (m : Str → Option Value) (Φ : Bool → AH → Prop) (s : Shared) (b : Bool) (s' : Shared) : Prop :=
  ∃ h' tk H', s' = { s with heap := h', toks := tk } ∧ St prog w ca B P L m H' h' ∧ Φ b H'
noncomputable def LPost (prog : Program) (w : World) (ca : CA) (B : Heap) (P : PH) (L : Addr) (m : Str → Option Value) (Φ : List AV → AH → Prop) (s : Shared) (vs : List Value) (s' : Shared) : Prop :=
  ∃ h' tk avs H', s' = { s with heap := h', toks := tk } ∧ St prog w ca B P L m H' h' ∧ VRs avs vs ∧ Φ avs H'
abbrev noE : Value → Shared → Prop := fun _ _ => False
end
section
section
variable {prog : Program} {w : World} {ca : CA} {B : Heap} {P : PH} {L : Addr} {m m' : Str → Option Value} {H H' : AH} {h h' : Heap} {A : Around} {s : Shared} {Φ : AV → AH → Prop}

theorem EPost.mk' {v : Value} {av : AV} {tk : Nat} (S : St prog w ca B P L m H' h') (hv : VR av v) (k : Φ av H') : EPost prog w ca B P L m Φ s v { s with heap := h', toks := tk } := ⟨h', tk, av, H', rfl, S, hv, k⟩
theorem EPost.here {v : Value} {av : AV} {tk : Nat} (S : St prog w ca B P L m H s.heap) (hv : VR av v) (k : Φ av H) : EPost prog w ca B P L m Φ s v { s with toks := tk } := ⟨s.heap, tk, av, H, rfl, S, hv, k⟩
theorem EPost.now {v : Value} {av : AV} (S : St prog w ca B P L m H s.heap) (hv : VR av v) (k : Φ av H) : EPost prog w ca B P L m Φ s v s := ⟨s.heap, s.toks, av, H, rfl, S, hv, k⟩

/-- an allocation that a rule tells by its ledger -/
theorem St.alloc_news {N : List (Addr × Obj)} {obj : Obj} {o : AO} (S : St prog w ca B P L m H h) (hm : ∀ b x, b ≠ L → B.get? b = none → h.get? b = some x → (b, x) ∈ N)
    (F' : Fr B L h' m) (N' : News B L h' ((h.objs.size, obj) :: N)) (hr : ORel prog w ca o obj) : St prog w ca B P L m (updH H h.objs.size o) h' :=
  S.new F' (Nat.le_refl _) (keep_of_news S.fr F' N' fun b x _ h1 h2 h3 => hm b x h1 h2 h3) (N' _ (.head _)).1 hr
theorem allocA_at {o : AO} (S : St prog w ca B P L m H h) (k : allocA H o Φ) : Φ (.ref h.objs.size) (updH H h.objs.size o) := k _ (S.noH (get_of_none (Nat.le_refl _)))

theorem isList_of {a : Addr} {vs : List AV} {vals : List Value} {n : Nat} (e : h.get? a = some (listOf vals.toArray n)) : h.IsList a vals.toArray := ⟨_, e, rfl, n, rfl⟩
theorem isTup_of {a : Addr} {vals : List Value} {n : Nat} (e : h.get? a = some (tupOf vals.toArray n)) : IsTup h a vals.toArray := ⟨_, e, rfl, n, rfl⟩

theorem orel_list {vs : List AV} {vals : List Value} {n : Nat} (r : VRs vs vals) : ORel prog w ca (.list vs) (listOf vals.toArray n) := ⟨vals, n, rfl, r⟩
theorem orel_tup {vs : List AV} {vals : List Value} {n : Nat} (r : VRs vs vals) : ORel prog w ca (.tuple vs) (tupOf vals.toArray n) := ⟨vals, n, rfl, r⟩
theorem St.list (S : St prog w ca B P L m H h) {a : Addr} {vs : List AV} (e : H a = some (.list vs)) : ∃ vals n, h.get? a = some (listOf (List.toArray vals) n) ∧ VRs vs vals := by
  obtain ⟨o, ho, vals, n, rfl, r⟩ := S.get e
  exact ⟨vals, n, ho, r⟩
theorem St.klist (S : St prog w ca B P L m H h) {a : Addr} {vs : List AV} (e : H a = some (.list vs) ∨ ∃ ob, H a = some (.klist vs ob)) : ∃ vals n, h.get? a = some (listOf (List.toArray vals) n) ∧ VRs vs vals := by
  rcases e with e | ⟨ob, e⟩
  · exact S.list e
  · obtain ⟨o, ho, rfl, vals, n, rfl, r⟩ := S.get e
    exact ⟨vals, n, ho, r⟩
theorem St.tup (S : St prog w ca B P L m H h) {a : Addr} {vs : List AV} (e : H a = some (.tuple vs)) : ∃ vals n, h.get? a = some (tupOf (List.toArray vals) n) ∧ VRs vs vals := by
  obtain ⟨o, ho, vals, n, rfl, r⟩ := S.get e
  exact ⟨vals, n, ho, r⟩
theorem St.dictAt (S : St prog w ca B P L m H h) {a : Addr} {es : List (Str × AV)} (e : H a = some (.dict es)) : ∃ kvs, h.DictOf (strKind prog w) a kvs ∧ KVs es kvs := by
  obtain ⟨o, ho, kvs, r1, r2⟩ := S.get e
  exact ⟨kvs, Heap.dictOf_iff.mpr ⟨o, ho, r1⟩, r2⟩

theorem add_ok {a b : AV} {va vb : Value} (S : St prog w ca B P L m H s.heap) (ha : VR a va) (hb : VR b vb) (k : addA a b H Φ) :
    wpAny (model prog w) A (binaryOp .Add va vb) (EPost prog w ca B P L m Φ s) noE s := by
  unfold addA at k
  cases ha <;> cases hb <;> first | exact k.elim | skip
  · exact add_int (EPost.here S (.int _ _) k)
  · obtain ⟨vs, us, h1, h2, h3, h4⟩ := k
    obtain ⟨l1, n1, e1, r1⟩ := S.list h1
    obtain ⟨l2, n2, e2, r2⟩ := S.list h2
    obtain ⟨N, hN, hm⟩ := S.all
    refine add_lists (hsz := by rw [r1.length, r2.length, sizeLine_eq]; omega) S.fr hN (isList_of (vs := vs) e1) (isList_of (vs := us) e2) fun h' F' N' => ?_
    exact EPost.mk' (S.alloc_news hm F' N' (orel_list (r1.append r2))) (.ref _) (allocA_at S h4)

theorem foldl_rep (v : Value) : ∀ (n : Nat) (acc : List Value), List.foldl (fun x1 x2 => x1 ++ x2) acc.toArray (List.replicate n #[v]) = (acc ++ List.replicate n v).toArray := by
  intro n
  induction n with
  | zero => intro acc; simp
  | succ n ih =>
    intro acc
    rw [List.replicate_succ, List.foldl_cons]
    have : acc.toArray ++ #[v] = (acc ++ [v]).toArray := by simp
    rw [this, ih (acc ++ [v])]
    simp [List.replicate_succ]
theorem VRs.replicate {a : AV} {v : Value} (x : VR a v) : ∀ n : Nat, VRs (List.replicate n a) (List.replicate n v)
  | 0 => .nil
  | n + 1 => .cons x (VRs.replicate x n)
theorem mul_ok {a b : AV} {va vb : Value} (S : St prog w ca B P L m H s.heap) (ha : VR a va) (hb : VR b vb) (k : mulA a b H Φ) :
    wpAny (model prog w) A (binaryOp .Mult va vb) (EPost prog w ca B P L m Φ s) noE s := by
  unfold mulA at k
  cases ha <;> cases hb <;> first | exact k.elim | skip
  · refine mul_int (EPost.here S (.int _ _) k.2) (IntMulOk.of_left (intBits_le_64 ?_ ?_))
    · have := k.1.1; omega
    · have := k.1.1; omega
  · obtain ⟨v, h1, h2, h3, h4⟩ := k
    obtain ⟨l1, n1, e1, r1⟩ := S.list h1
    obtain ⟨x, rfl, hx⟩ : ∃ x, l1 = [x] ∧ VR v x := by
      cases r1 with
      | cons y r => cases r; exact ⟨_, rfl, y⟩
    obtain ⟨N, hN, hm⟩ := S.all
    rename_i n tn
    refine mul_list S.fr hN e1 (by omega) (by omega) ?_ fun h' F' N' => ?_
    · show 1 * n.toNat ≤ 2 ^ 24
      omega
    · have e : List.foldl (fun x1 x2 => x1 ++ x2) #[] (List.replicate (if ([x].toArray).isEmpty = true then 0 else n.toNat) [x].toArray) = (List.replicate n.toNat x).toArray := by
        have := foldl_rep x n.toNat []
        simpa using this
      rw [e] at N'
      exact EPost.mk' (S.alloc_news hm F' N' (orel_list (VRs.replicate hx _))) (.ref _) (allocA_at S h4)

theorem no_pylong {i j : Int} (h : j.natAbs < 2 ^ 32) : Builtin.divisionGoesByPylong i j = false := by
  unfold Builtin.divisionGoesByPylong
  have h1 : j.natAbs.log2 < 32 ∨ j = 0 := by
    by_cases q : j = 0
    · exact .inr q
    · exact .inl ((Nat.log2_lt (by omega)).mpr h)
  have h2 : ¬ ((if (j == 0) = true then 0 else j.natAbs.log2 / 30 + 1) > 300) := by
    split
    · omega
    · rcases h1 with h1 | h1
      · omega
      · simp [h1] at *
  simp only [Bool.and_eq_false_iff, decide_eq_false_iff_not]
  exact .inl h2
theorem bin_ok {op : Operator} {a b : AV} {va vb : Value} (S : St prog w ca B P L m H s.heap) (ha : VR a va) (hb : VR b vb) (k : binA op a b H Φ) :
    wpAny (model prog w) A (binaryOp op va vb) (EPost prog w ca B P L m Φ s) noE s := by
  unfold binA at k
  split at k
  · exact add_ok S ha hb k
  · exact mul_ok S ha hb k
  · cases ha <;> cases hb <;> first | exact k.elim | exact sub_int' (EPost.here S (.int _ _) k)
  · cases ha <;> cases hb <;> first | exact k.elim | exact mod_int' k.1 (EPost.here S (.int _ _) k.2)
  · cases ha <;> cases hb <;> first | exact k.elim | skip
    obtain ⟨⟨h1, h2, h3⟩, h4⟩ := k
    exact floordiv_int h1 (EPost.here S (.int _ _) h4) (.inl (no_pylong h3))
  · exact k.elim
end
end
section
section
variable {prog : Program} {w : World} {ca : CA} {B : Heap} {P : PH} {L : Addr} {m m' : Str → Option Value} {H H' : AH} {h h' : Heap} {A : Around} {s : Shared} {Φ : AV → AH → Prop}

/-- what a comparison leaves: a truth, the heap as it was -/
noncomputable def CPost (Φ : Bool → Prop) (s : Shared) (v : Value) (s' : Shared) : Prop := ∃ tk c, v = .bool c ∧ s' = { s with toks := tk } ∧ Φ c
theorem CPost.now {Φ : Bool → Prop} {c : Bool} (k : Φ c) : CPost Φ s (.bool c) s := ⟨s.toks, c, rfl, rfl, k⟩
theorem CPost.tk {Φ : Bool → Prop} {c : Bool} {tk : Nat} (k : Φ c) : CPost Φ s (.bool c) { s with toks := tk } := ⟨tk, c, rfl, rfl, k⟩

theorem reads_list {vs : List AV} {vals : List Value} {n : Nat} (ih : ∀ a v d, VR a v → datA H n a = some d → ∃ as, Reads h v d as) (r : VRs vs vals) :
    ∀ {ds : List PyData}, vs.mapM (datA H n) = some ds → ∃ as, ReadsAll h vals ds as := by
  induction r with
  | nil => intro ds e; simp at e; subst e; exact ⟨[], .nil⟩
  | cons x _ ih' =>
    intro ds e
    rw [List.mapM_cons] at e
    obtain ⟨d, hd, e⟩ := Option.bind_eq_some_iff.mp e
    obtain ⟨ds', hds, e⟩ := Option.bind_eq_some_iff.mp e
    cases e
    obtain ⟨as, ra⟩ := ih _ _ d x hd
    obtain ⟨bs, rb⟩ := ih' hds
    exact ⟨_, .cons ra rb⟩
theorem reads_of (S : St prog w ca B P L m H h) : ∀ (n : Nat) (a : AV) (v : Value) (d : PyData), VR a v → datA H n a = some d → ∃ as, Reads h v d as := by
  intro n
  induction n with
  | zero =>
    intro a v d r e
    cases r <;> simp [datA] at e <;> subst e
    · exact ⟨[], .none⟩
    · exact ⟨[], .bool _⟩
    · exact ⟨[], .int _ _⟩
    · exact ⟨[], .str _ _⟩
  | succ n ih =>
    intro a v d r e
    cases r with
    | none => simp [datA] at e; subst e; exact ⟨[], .none⟩
    | bool b => simp [datA] at e; subst e; exact ⟨[], .bool _⟩
    | int i t => simp [datA] at e; subst e; exact ⟨[], .int _ _⟩
    | str x t => simp [datA] at e; subst e; exact ⟨[], .str _ _⟩
    | ref a =>
      unfold datA at e
      split at e
      · rename_i vs q
        obtain ⟨ds, hds, e⟩ := Option.map_eq_some_iff.mp e
        subst e
        obtain ⟨vals, n', ho, r⟩ := S.list q
        obtain ⟨as, ra⟩ := reads_list ih r hds
        exact ⟨_, .list ho rfl rfl ra⟩
      · rename_i vs q
        obtain ⟨ds, hds, e⟩ := Option.map_eq_some_iff.mp e
        subst e
        obtain ⟨vals, n', ho, r⟩ := S.tup q
        obtain ⟨as, ra⟩ := reads_list ih r hds
        exact ⟨_, .tuple ho rfl rfl ra⟩
      · cases e

theorem eq_ok {a b : AV} {va vb : Value} {Φ : Bool → Prop} (S : St prog w ca B P L m H s.heap) (ha : VR a va) (hb : VR b vb) (hu : A.units + 64 < cLine) (k : eqA a b H Φ) :
    wpAny (model prog w) A (compareOp .Eq va vb) (CPost Φ s) noE s := by
  unfold eqA at k
  cases ha <;> cases hb <;> first | exact k.elim | skip
  · exact EqNone.eq_none_none (CPost.now k)
  · exact EqNone.eq_none_int (CPost.now k)
  · exact EqNone.eq_none_str (CPost.now k)
  · exact eq_bool (CPost.now k)
  · rename_i i t j u
    exact PyProof.Rows.eq_int (CPost.now (by rw [show (i == j) = decide (i = j) from rfl]; exact k))
  · rename_i x t y u
    exact PyProof.Rows.eq_str (CPost.now (by rw [show (x == y) = decide (x = y) from rfl]; exact k))
  · obtain ⟨d, e, h1, h2, h3, h4⟩ := k
    obtain ⟨as, ra⟩ := reads_of S 3 _ _ d (.ref _) h1
    obtain ⟨bs, rb⟩ := reads_of S 3 _ _ e (.ref _) h2
    simp only [Bool.and_eq_true] at h3
    exact eq_dataH_same ra rb h3.1.1 h3.1.2 hu h3.2 (CPost.now h4)
theorem ne_ok {a b : AV} {va vb : Value} {Φ : Bool → Prop} (S : St prog w ca B P L m H s.heap) (ha : VR a va) (hb : VR b vb) (hu : A.units + 64 < cLine) (k : eqA a b H fun r => Φ (!r)) :
    wpAny (model prog w) A (compareOp .NotEq va vb) (CPost Φ s) noE s := by
  unfold eqA at k
  cases ha <;> cases hb <;> first | exact k.elim | skip
  · exact EqNone.ne_none_none (CPost.now k)
  · exact EqNone.ne_none_int (CPost.now k)
  · exact EqNone.ne_none_str (CPost.now k)
  · exact ne_bool (CPost.now k)
  · rename_i i t j u
    exact PyProof.Rows.ne_int (CPost.now (by rw [show (i != j) = !decide (i = j) from rfl]; exact k))
  · rename_i x t y u
    exact PyProof.Rows.ne_str (CPost.now (by rw [show (x != y) = !decide (x = y) from rfl]; exact k))
  · obtain ⟨d, e, h1, h2, h3, h4⟩ := k
    obtain ⟨as, ra⟩ := reads_of S 3 _ _ d (.ref _) h1
    obtain ⟨bs, rb⟩ := reads_of S 3 _ _ e (.ref _) h2
    simp only [Bool.and_eq_true] at h3
    exact ne_dataH_same ra rb h3.1.1 h3.1.2 hu h3.2 (CPost.now h4)

theorem mem_strs {x : Str} {vs : List AV} {vals : List Value} (r : VRs vs vals) : ∀ {b : Bool}, memA x vs = some b → (∀ t y, y ∈ vals → MeetsSeq.EqGives y (.str x t) (isStrOf x y)) ∧ vals.any (isStrOf x) = b := by
  induction r with
  | nil => intro b e; simp [memA] at e; subst e; exact ⟨(fun _ _ h => (nomatch h)), rfl⟩
  | cons y _ ih =>
    intro b e
    cases y with
    | str z u =>
      simp only [memA] at e
      obtain ⟨c, hc, e⟩ := Option.map_eq_some_iff.mp e
      obtain ⟨h1, h2⟩ := ih hc
      refine ⟨fun t y hy => ?_, ?_⟩
      · rcases List.mem_cons.mp hy with rfl | hy
        · exact eqGives_str z x u t
        · exact h1 t y hy
      · rw [List.any_cons, h2, ← e]; rfl
    | _ => simp [memA] at e

theorem kvs_get {es : List (Str × AV)} {kvs : List (Str × Value)} (r : KVs es kvs) (k : Str) : (∀ a, getL es k = some a → ∃ v, valueAt kvs k = some v ∧ VR a v) ∧ (getL es k = none → valueAt kvs k = none) := by
  induction r with
  | nil => exact ⟨fun a e => (nomatch e), fun _ => rfl⟩
  | cons x r ih =>
    rename_i k' a' v' es kvs
    unfold getL valueAt
    rw [List.find?_cons]
    by_cases q : k' = k
    · simp only [q, if_true, decide_true]
      exact ⟨fun a e => by cases e; exact ⟨_, rfl, x⟩, fun e => (nomatch e)⟩
    · simp only [q, if_false, decide_false]
      exact ih
theorem kvs_isSome {es : List (Str × AV)} {kvs : List (Str × Value)} (r : KVs es kvs) (k : Str) : (valueAt kvs k).isSome = (getL es k).isSome := by
  cases e : getL es k with
  | none => rw [(kvs_get r k).2 e]; rfl
  | some a => obtain ⟨v, hv, _⟩ := (kvs_get r k).1 a e; rw [hv]; rfl
theorem strKind_self (x : Str) (t : Tok) : (PySem.strKind prog w).is x (.str x t) = true := by
  show Value.isStrOf x (.str x t) = true
  simp [Value.isStrOf]

/-- no dict of the call's is sys.modules -/
theorem St.notMods (S : St prog w ca B P L m H h) (hB : sysModules < B.objs.size) {d : Addr} {o : AO} (e : H d = some o) : (d == sysModules) = false := by
  have hne : d ≠ sysModules := (S.rep d o e).2.2.1.2 hB
  simpa using hne

theorem in_ok {a b : AV} {va vb : Value} {Φ : Bool → Prop} (S : St prog w ca B P L m H s.heap) (hB : sysModules < B.objs.size) (ha : VR a va) (hb : VR b vb) (k : inA a b H Φ) :
    wpAny (model prog w) A (compareOp .In va vb) (CPost Φ s) noE s := by
  unfold inA at k
  cases ha <;> cases hb <;> first | exact k.elim | skip
  rename_i x t a
  dsimp only at k
  split at k
  · rename_i vs q
    obtain ⟨r, h1, h2⟩ := k
    obtain ⟨vals, n, ho, rv⟩ := S.list q
    obtain ⟨g1, g2⟩ := mem_strs rv h1
    exact SeqRoads2.in_list (isStrOf x) (fun y hy => g1 t y (by simpa using hy)) ho (CPost.now (by rw [← Array.any_toList, show vals.toArray.toList = vals from rfl, g2]; exact h2))
  · rename_i vs q
    obtain ⟨r, h1, h2⟩ := k
    obtain ⟨vals, n, ho, rv⟩ := S.tup q
    obtain ⟨g1, g2⟩ := mem_strs rv h1
    exact SeqRoads2.in_tuple (isStrOf x) (fun y hy => g1 t y (by simpa using hy)) ho (CPost.now (by rw [← Array.any_toList, show vals.toArray.toList = vals from rfl, g2]; exact h2))
  · rename_i es q
    obtain ⟨kvs, hd, r⟩ := S.dictAt q
    exact wpAny_in_of (knd := PySem.strKind prog w) (strKind_self x t) (S.notMods hB q) hd.mapOf (CPost.tk (by rw [kvs_isSome r]; exact k))
  · exact k.elim
theorem notIn_ok {a b : AV} {va vb : Value} {Φ : Bool → Prop} (S : St prog w ca B P L m H s.heap) (hB : sysModules < B.objs.size) (ha : VR a va) (hb : VR b vb) (k : inA a b H fun r => Φ (!r)) :
    wpAny (model prog w) A (compareOp .NotIn va vb) (CPost Φ s) noE s := by
  unfold inA at k
  cases ha <;> cases hb <;> first | exact k.elim | skip
  rename_i x t a
  dsimp only at k
  split at k
  · rename_i vs q
    obtain ⟨r, h1, h2⟩ := k
    obtain ⟨vals, n, ho, rv⟩ := S.list q
    obtain ⟨g1, g2⟩ := mem_strs rv h1
    exact SeqRoads2.notIn_list (isStrOf x) (fun y hy => g1 t y (by simpa using hy)) ho (CPost.now (by rw [← Array.any_toList, show vals.toArray.toList = vals from rfl, g2]; exact h2))
  · rename_i vs q
    obtain ⟨r, h1, h2⟩ := k
    obtain ⟨vals, n, ho, rv⟩ := S.tup q
    obtain ⟨g1, g2⟩ := mem_strs rv h1
    exact SeqRoads2.notIn_tuple (isStrOf x) (fun y hy => g1 t y (by simpa using hy)) ho (CPost.now (by rw [← Array.any_toList, show vals.toArray.toList = vals from rfl, g2]; exact h2))
  · rename_i es q
    obtain ⟨kvs, hd, r⟩ := S.dictAt q
    exact wpAny_notIn_of (knd := PySem.strKind prog w) (strKind_self x t) (S.notMods hB q) hd.mapOf (CPost.tk (by rw [kvs_isSome r]; exact k))
  · exact k.elim

theorem vr_isNone {a : AV} {v : Value} (r : VR a v) : (v == Value.none) = isNone a := by cases r <;> rfl
theorem cmp_ok {op : CmpOp} {a b : AV} {va vb : Value} {Φ : Bool → Prop} (S : St prog w ca B P L m H s.heap) (hB : sysModules < B.objs.size) (ha : VR a va) (hb : VR b vb) (hu : A.units + 64 < cLine) (k : cmpA op a b H Φ) :
    wpAny (model prog w) A (compareOp op va vb) (CPost Φ s) noE s := by
  unfold cmpA at k
  split at k
  · exact eq_ok S ha hb hu k
  · exact ne_ok S ha hb hu k
  · unfold ltA at k
    cases ha with
    | int i t => cases hb with
      | int j u => exact PyProof.Rows.lt_int (CPost.now k)
      | _ => exact k.elim
    | str x t => cases hb with
      | str j u => exact PyProof.Rows.lt_str (CPost.now k)
      | _ => exact k.elim
    | _ => cases hb <;> exact k.elim
  · unfold ltA at k
    cases ha with
    | int i t => cases hb with
      | int j u => exact PyProof.Rows.gt_int (CPost.now k)
      | _ => exact k.elim
    | str x t => cases hb with
      | str j u => exact PySem.P.gt_str (CPost.now k)
      | _ => exact k.elim
    | _ => cases hb <;> exact k.elim
  · unfold leA at k
    cases ha with
    | int i t => cases hb with
      | int j u => exact PyProof.Rows.le_int (CPost.now k)
      | _ => exact k.elim
    | str x t => cases hb with
      | str j u => exact PySem.P.le_str (CPost.now (by rw [← decide_not]; exact k))
      | _ => exact k.elim
    | _ => cases hb <;> exact k.elim
  · cases hb <;> first | exact k.elim | exact is_none (CPost.now (by rw [vr_isNone ha]; exact k))
  · cases hb <;> first | exact k.elim | exact isNot_none (CPost.now (by rw [vr_isNone ha]; exact k))
  · exact in_ok S hB ha hb k
  · exact notIn_ok S hB ha hb k
  · exact k.elim
end
end
section
noncomputable def nameOf : Cls → Str
  | .vec => sVector
  | .mat => sMatching
/-- a class of the text, as the top has left it -/
structure ClsFacts (K : Frag) (C : Addr) (c : Cls) : Prop where
  nm : nsIn K mainGlobals (nameOf c) = some (some (.ref C))
  makes : makesIn K C = true
  keep : keepIn K (.ref C) = true
  ga : findIn K (.ref C) "__getattribute__" = some (some (.builtin "object.__getattribute__"))
  gt : findIn K (.ref C) "__getattr__" = some none
  sa : findIn K (.ref C) "__setattr__" = some (some (.builtin "object.__setattr__"))
  over : plainOver K C = true
  hd : hasDictIn K C = true
  at_ : ∀ n, okAttr c n = true → findIn K (.ref C) n = some none

/-- a def of the text, as the top has left it -/
structure FnObj (prog : Program) (w : World) (K : Frag) (a : Addr) (fd : FD) : Prop where
  fn : typeIn K (.ref a) = some (.type "function")
  keep : keepIn K (.ref a) = true
  co : fd.scope.isCoroutine = false
  gen : fd.scope.isGenerator = false
  kind : fd.scope.kind = .function
  named : (fd.names.all fun y => fd.scope.names.lookup y == some .local || fd.scope.names.lookup y == some .cell) = true
  nd : ((cellsFrom 0 fd.scope.names []).map (·.1)).Nodup
  nd' : fd.names.Nodup
  obj : ∃ (qual : Str) (dV kV doc pm cdv ct oc : Value) (an od : Option Addr) (osl : Array (Option Value)),
    K.lookup a = some ⟨oc, od, .func (fnOf fd.name qual fd.params fd.body fd.scope dV kV doc pm an cdv ct), osl⟩ ∧ codeIn K cdv qual = true ∧
    ∀ (s : Shared) (vals : List Value), K.In s.heap → vals.length + fd.dflts.length = fd.names.length → ∃ dvals, VRs fd.dflts dvals ∧
      BindsTo s (fnOf fd.name qual fd.params fd.body fd.scope dV kV doc pm an cdv ct) ⟨vals, []⟩ (fd.names.zip (vals ++ dvals))

/-- what a name of a built-in stands for -/
noncomputable def builtVal (f : Str) : Option Value :=
  if f = sLen then some (.builtin "len") else if f = sAbs then some (.builtin "abs") else if f = sChr then some (.builtin "chr")
  else if f = sRange then some (.type "range") else if f = sSorted then some (.builtin "sorted") else if f = sList then some (.type "list")
  else if f = sIsInst then some (.builtin "isinstance") else none

structure SC (prog : Program) (w : World) (K : Frag) (ca : CA) (T : FnId → Option FD) (B : Heap) : Prop where
  X : K.In B
  mods : sysModules < B.objs.size
  top : ∃ p loose mg mb, TopRead p loose mg mb B
  bi : ∀ f v, builtVal f = some v → nsIn K mainGlobals f = some none ∧ bootBuiltins f = some v ∧ f ≠ "__name__"
  cl : ∀ c, ClsFacts K (ca.of c) c
  fnA : ∀ f fd, T (.fn f) = some fd → ∃ a, nsIn K mainGlobals f = some (some (.ref a)) ∧ FnObj prog w K a fd
  me : ∀ c n fd, T (.meth c n) = some fd → ∃ a, findIn K (.ref (ca.of c)) n = some (some (.ref a)) ∧ FnObj prog w K a fd

section
variable {prog : Program} {w : World} {K : Frag} {ca : CA} {T : FnId → Option FD} {B : Heap} {P : PH} {L : Addr} {m m' : Str → Option Value} {H H' : AH} {h h' : Heap} {A : Around} {s : Shared} {Φ : AV → AH → Prop}

theorem SC.kin (C : SC prog w K ca T B) (S : St prog w ca B P L m H h) : K.In h := C.X.keeps S.fr.keep
theorem vr_handed {a : AV} {v : Value} (r : VR a v) : handedIn v = true := by cases r <;> rfl

theorem St.inst (S : St prog w ca B P L m H h) {x dx : Addr} {c : Cls} {es : List (Str × AV)} (e : H x = some (.inst c dx)) (e' : H dx = some (.dict es)) :
    ∃ od kvs, h.get? dx = some od ∧ od.IsDictOf (PySem.strKind prog w) kvs ∧ KVs es kvs ∧ InstAt h x (instObj (ca.of c) dx) (ca.of c) (some od) := by
  obtain ⟨o, ho, rfl⟩ := S.get e
  obtain ⟨od, hod, kvs, r1, r2⟩ := S.get e'
  exact ⟨od, kvs, hod, r1, r2, ho, rfl, rfl, hod⟩

theorem pairs_find {es : List DictEntry} {kvs : List (Str × Value)} (r : Pairs (PySem.strKind prog w) es kvs) (n : Str) :
    (match es.find? (·.key.isStr n) with | some e => some (some e.val) | none => if es.any (·.refKey) then none else some none) = some (valueAt kvs n) := by
  have nokey : es.any (·.refKey) = false := by
    induction r with
    | nil => rfl
    | cons h1 h2 r ih =>
      rename_i e kv es kvs
      obtain ⟨t, ht⟩ := Value.isStrOf_shape (show Value.isStrOf kv.1 e.key = true from h1)
      rw [List.any_cons, ih]
      simp [DictEntry.refKey, ht]
  have hf : (es.find? (·.key.isStr n)).map (·.val) = valueAt kvs n := by
    rw [← r.find n]
    congr 2
    funext e
    show e.key.isStr n = Value.isStrOf n e.key
    cases e.key <;> rfl
  cases q : es.find? (·.key.isStr n) with
  | none => rw [q] at hf; simp only [nokey, Bool.false_eq_true, if_false]; rw [← hf]; rfl
  | some e => rw [q] at hf; simp only; rw [← hf]; rfl
theorem lookIn_of {od : Obj} {kvs : List (Str × Value)} (r : od.IsDictOf (PySem.strKind prog w) kvs) (n : Str) : lookIn n od = some (valueAt kvs n) := by
  obtain ⟨es, ep, _, hd, _, hp, _⟩ := r
  unfold lookIn
  rw [hd]
  exact pairs_find hp n

theorem attr_ok {o : AV} {vo : Value} {n : Str} {expr : Bool} (C : SC prog w K ca T B) (S : St prog w ca B P L m H s.heap) (ho : VR o vo) (k : attrA o n H Φ) :
    wpAny (model prog w) A (getAttr vo n expr) (EPost prog w ca B P L m Φ s) noE s := by
  unfold attrA at k
  cases ho <;> first | exact k.elim | skip
  obtain ⟨c, dx, es, v, h1, h2, h3, h4, h5⟩ := k
  obtain ⟨od, kvs, hod, r1, r2, I⟩ := S.inst h1 h2
  obtain ⟨u, hu, hv⟩ := (kvs_get r2 n).1 v h4
  have F := C.cl c
  exact get_value (C.kin S) I F.ga (findObj_own F.hd (F.at_ n h3) rfl (by rw [lookIn_of r1 n, hu])) (vr_handed hv) (EPost.here S hv h5)

theorem tail_ok {value slice : Expr} {o k : Value} {T' id : String} {Q : Value → Shared → Prop} (hT : s.TypeIs o T')
    (hl : typeLookup (.type T') "__getitem__" = pure (some (.builtin id))) (hg : wpAny (model prog w) A (getItem o k) Q noE s) (hs : isSlice slice = false) : wpAny (model prog w) A (subscriptTail value slice o k) Q noE s :=
  tail_any (ops := [o, k]) hT hl hg (by cases slice <;> first | rfl | (cases hs))

theorem sub_ok {value slice : Expr} {o k : AV} {vo vk : Value} (C : SC prog w K ca T B) (S : St prog w ca B P L m H s.heap) (ho : VR o vo) (hk : VR k vk) (hs : isSlice slice = false) (q : subA o k H Φ) :
    wpAny (model prog w) A (subscriptTail value slice vo vk) (EPost prog w ca B P L m Φ s) noE s := by
  unfold subA at q
  cases ho <;> cases hk <;> first | exact q.elim | skip
  · rename_i x i t
    dsimp only at q
    split at q
    · rename_i vs e
      obtain ⟨hlen, v, h0, h1, h2⟩ := q
      obtain ⟨vals, n, hl, r⟩ := S.list e
      have hlen' := r.length
      obtain ⟨u, hu, hv⟩ := r.get h1
      refine tail_ok (isList_of (vs := vs) hl).typeIs slot_list_getitem.lookup ?_ hs
      unfold idxA at h1 hu
      by_cases hi : 0 ≤ i
      · rw [if_pos hi] at h1 hu
        have hlt : i.toNat < vals.length := by
          have := List.getElem?_eq_some_iff.mp hu
          exact this.1
        exact wpAny_getItem_list (isList_of (vs := vs) hl) hi (by omega) (by simpa using hu) (EPost.now S hv h2)
      · rw [if_neg hi] at h1 hu
        have h0' := h0.resolve_left hi
        refine wpAny_getItem_list_neg (isList_of (vs := vs) hl) (by omega) (by rw [List.size_toArray, hlen']; omega) (by omega) ?_ (EPost.now S hv h2)
        rw [List.size_toArray, hlen']
        simpa using hu
    · rename_i vs e
      obtain ⟨hlen, v, h0, h1, h2⟩ := q
      obtain ⟨vals, n, hl, r⟩ := S.tup e
      have hlen' := r.length
      obtain ⟨u, hu, hv⟩ := r.get h1
      have hlt : i.toNat < vals.length := (List.getElem?_eq_some_iff.mp hu).1
      exact tail_ok (isTup_of hl).typeIs slot_tuple_getitem.lookup (getItem_tuple (isTup_of hl) (by omega) (by omega) (seqIndex_of h0 (by rw [List.size_toArray]; omega)) (by simpa using hu) (EPost.now S hv h2)) hs
    · exact q.elim
  · rename_i x k t
    obtain ⟨es, v, h1, h2, h3⟩ := q
    obtain ⟨kvs, hd, r⟩ := S.dictAt h1
    obtain ⟨u, hu, hv⟩ := (kvs_get r k).1 v h2
    exact tail_ok hd.typeIs slot_dict_getitem.lookup (wpAny_getItem_of (knd := PySem.strKind prog w) (strKind_self k t) hd.mapOf hu (EPost.here S hv h3)) hs
end
end
section
section
variable {prog : Program} {w : World} {K : Frag} {ca : CA} {T : FnId → Option FD} {B : Heap} {P : PH} {L : Addr} {m m' : Str → Option Value} {H H' : AH} {h h' : Heap} {A : Around} {s : Shared} {Φ : AV → AH → Prop}

/-- what a step without a value leaves -/
noncomputable def HPost (prog : Program) (w : World) (ca : CA) (B : Heap) (P : PH) (L : Addr) (m : Str → Option Value) (Φ : AH → Prop) (s : Shared) (s' : Shared) : Prop :=
  ∃ h' tk H', s' = { s with heap := h', toks := tk } ∧ St prog w ca B P L m H' h' ∧ Φ H'

theorem frBut (F : Fr B L h m) {d : Addr} (hs : Heap.SameBut d h h') (hdL : d ≠ L) (hdB : Own B d) : Fr B L h' m := F.change hs hdL hdB.1
theorem orel_dict {es : List (Str × AV)} {kvs : List (Str × Value)} {o : Obj} (r : o.IsDictOf (PySem.strKind prog w) kvs) (k : KVs es kvs) : ORel prog w ca (.dict es) o := ⟨kvs, r, k⟩
theorem St.updBut (S : St prog w ca B P L m H h) {d : Addr} {o₀ o : AO} {obj : Obj} (e : H d = some o₀) (hs : Heap.SameBut d h h') (ho : h'.get? d = some obj) (hr : ORel prog w ca o obj) :
    St prog w ca B P L m (updH H d o) h' :=
  let ⟨_, r2, r3, _⟩ := S.rep d o₀ e
  S.upd (frBut S.fr hs r2 r3) e (fun b x h1 _ h3 => hs.extBut b x h1 h3) ho hr

theorem setAt {l : Addr} {items : Array Value} {n : Nat} {k : Int} {t : Tok} {v : Value} {Q : Unit → Shared → Prop} (ho : s.heap.get? l = some (listOf items n))
    (h0 : 0 ≤ k) (hfit : k < 2 ^ 63) (hn : k < items.size)
    (hQ : ∀ h', Heap.SameBut l s.heap h' → h'.get? l = some (listOf (items.setIfInBounds k.toNat v) n) → Q () { s with heap := h' }) :
    wpAny (model prog w) A (setItem (.ref l) (.int k t) v) Q noE s := by
  have hl : s.heap.IsList l items := ⟨_, ho, rfl, n, rfl⟩
  unfold setItem
  try with_reducible refine wpAny_holding ?_
  first | refine wpAny_bind (wpAny_pure ?_) | skip
  refine wpAny_bind (wpAny_sequenceKey hl.typeIs (by decide) ?_)
  refine wpAny_bind (wpAny_callSpecial?_slot (name := Str.ofString "__setitem__") hl.typeIs slot_list_setitem
    (wpAny_call_entry slot_list_setitem hl.typeIs entry_list_setitem ?_ (args_list_setitem _ _ _)))
  show wpAny _ _ (Builtin.List.listSubscript? (.int k t) >>= _) _ _ s
  refine wpAny_bind (wpAny_listSubscript_int (fitsIndex_of h0 hfit) ?_)
  clear hfit
  obtain ⟨j, rfl⟩ := Int.eq_ofNat_of_zero_le h0
  have hj : j < items.size := by omega
  have hx' : items[j]? = some items[j] := Array.getElem?_eq_getElem hj
  show wpAny _ _ ((seqItemAt l j >>= fun r => pure (r.map (j, ·))) >>= _) _ _ s
  refine wpAny_bind (wpAny_bind (wpAny_seqItemAt ho rfl (wpAny_pure ?_)))
  rw [hx']
  show wpAny _ _ (setSeqItemAt l j v >>= _) _ _ s
  have hm : Obj.mapSeq (·.setIfInBounds j v) (listOf items n) = listOf (items.setIfInBounds j v) n := by
    unfold Obj.mapSeq
    simp
  refine wpAny_bind (wpAny_setSeqItemAt ho rfl ?_)
  have fin := hQ (s.heap.update l (Obj.mapSeq (·.setIfInBounds j v))) (Heap.SameBut.update ..) (by
    rw [Heap.get?_update_self _ ho (by rw [hm]; rfl), hm]; rfl)
  first
    | exact wpAny_bind (wpAny_pure (wpAny_pure ⟨.none, rfl, wpAny_pure fin⟩))
    | exact wpAny_pure ⟨.none, rfl, wpAny_pure fin⟩

theorem kvs_keys {es : List (Str × AV)} {kvs : List (Str × Value)} (r : KVs es kvs) : kvs.length = es.length := by
  induction r with
  | nil => rfl
  | cons _ _ ih => simp [ih]
theorem map_off {kvs : List (Str × Value)} {k : Str} {v : Value} (h : ∀ p ∈ kvs, p.1 ≠ k) : kvs.map (fun kv => if kv.1 = k then (kv.1, v) else kv) = kvs := by
  induction kvs with
  | nil => rfl
  | cons p r ih =>
    rw [List.map_cons, if_neg (h p (.head _)), ih fun q hq => h q (.tail _ hq)]
/-- storing in a dict, on both sides -/
theorem kvs_set {es : List (Str × AV)} {kvs : List (Str × Value)} (r : KVs es kvs) (k : Str) {a : AV} {v : Value} (x : VR a v) (nd : (kvs.map (·.1)).Nodup) : KVs (setL es k a) (stored kvs k v) := by
  induction r with
  | nil => exact .cons x .nil
  | cons y r ih =>
    rename_i k' a' v' es kvs
    rw [List.map_cons, List.nodup_cons] at nd
    unfold setL stored
    by_cases q : k' = k
    · subst q
      simp only [if_true, List.any_cons, decide_true, Bool.true_or, List.map_cons]
      rw [map_off fun p hp e => nd.1 (List.mem_map.mpr ⟨p, hp, e⟩)]
      exact .cons x r
    · simp only [q, if_false, List.any_cons, decide_false, Bool.false_or, List.map_cons, List.cons_append]
      have := ih nd.2
      unfold stored at this
      split
      · rename_i e
        rw [if_pos e] at this
        exact .cons y this
      · rename_i e
        rw [if_neg e] at this
        exact .cons y this

theorem setItem_ok {o k v : AV} {vo vk vv : Value} {Φ : AH → Prop} (C : SC prog w K ca T B) (S : St prog w ca B P L m H s.heap) (ho : VR o vo) (hk : VR k vk) (hv : VR v vv) (q : setItemA o k v H Φ) :
    wpAny (model prog w) A (setItem vo vk vv) (fun _ => HPost prog w ca B P L m Φ s) noE s := by
  unfold setItemA at q
  cases ho <;> cases hk <;> first | exact q.elim | skip
  · rename_i x i t
    obtain ⟨vs, h1, h2, h3, h4, h5⟩ := q
    obtain ⟨vals, n, hl, r⟩ := S.list h1
    have hlen := r.length
    refine setAt hl h3 (by omega) (by rw [List.size_toArray]; omega) fun h' hs ho' => ?_
    refine ⟨h', s.toks, _, rfl, S.updBut h1 hs ho' ?_, h5⟩
    have e : vals.toArray.setIfInBounds i.toNat vv = (vals.set i.toNat vv).toArray := by simp
    rw [e]
    exact orel_list (r.set hv _)
  · rename_i x k t
    obtain ⟨es, h1, h2, h3⟩ := q
    obtain ⟨kvs, hd, r⟩ := S.dictAt h1
    refine wpAny_setItem_pairs (knd := PySem.strKind prog w) (hsz := by rw [kvs_keys r, sizeLine_eq]; omega) (strKind_self k t) hd fun h' hd' hs => ?_
    obtain ⟨o', ho', hr'⟩ := Heap.dictOf_iff.mp hd'
    exact ⟨h', _, _, rfl, S.updBut h1 hs ho' (orel_dict hr' (kvs_set r k hv hd.choose_spec.choose_spec.choose_spec.2.2.2.2.2)), h3⟩

theorem putIn_pairs {es : List DictEntry} {kvs : List (Str × Value)} (r : Pairs (PySem.strKind prog w) es kvs) (n : Str) (t : Tok) (v : Value) (nd : (kvs.map (·.1)).Nodup) :
    Pairs (PySem.strKind prog w) (putL n (PyData.keyHash w.params n) (.str n t) v es) (stored kvs n v) := by
  induction r with
  | nil => exact .cons (strKind_self n t) rfl .nil
  | cons h1 h2 r ih =>
    rename_i e kv es kvs
    obtain ⟨k, x⟩ := kv
    obtain ⟨u, hu⟩ := Value.isStrOf_shape (show Value.isStrOf k e.key = true from h1)
    rw [List.map_cons, List.nodup_cons] at nd
    have hk : e.key.isStr n = decide (k = n) := by rw [hu]; rfl
    unfold putL stored
    by_cases q : k = n
    · subst q
      rw [hk, decide_eq_true rfl]
      simp only [if_true, List.any_cons, decide_true, Bool.true_or, List.map_cons]
      rw [map_off fun p hp e => nd.1 (List.mem_map.mpr ⟨p, hp, e⟩)]
      exact .cons h1 rfl r
    · rw [hk, decide_eq_false q]
      simp only [Bool.false_eq_true, if_false, List.any_cons, q, decide_false, Bool.false_or, List.map_cons, List.cons_append]
      have := ih nd.2
      unfold stored at this
      split
      · rename_i e'
        rw [if_pos e'] at this
        exact .cons h1 h2 this
      · rename_i e'
        rw [if_neg e'] at this
        exact .cons h1 h2 this
theorem putL_keys {es : List DictEntry} (n : Str) (t : Tok) (v : Value) (h : ∀ e ∈ es, ∃ k, (PySem.strKind prog w).is k e.key = true ∧ e.hash = (PySem.strKind prog w).hash k) :
    ∀ e ∈ putL n (PyData.keyHash w.params n) (.str n t) v es, ∃ k, (PySem.strKind prog w).is k e.key = true ∧ e.hash = (PySem.strKind prog w).hash k := by
  induction es with
  | nil =>
    intro e he
    rw [putL, List.mem_singleton] at he
    subst he
    exact ⟨n, strKind_self n t, rfl⟩
  | cons x r ih =>
    intro e he
    unfold putL at he
    split at he
    · rcases List.mem_cons.mp he with rfl | he
      · exact h x (.head _)
      · exact h e (.tail _ he)
    · rcases List.mem_cons.mp he with rfl | he
      · exact h e (.head _)
      · exact ih (fun e he => h e (.tail _ he)) e he
theorem stored_nodup {kvs : List (Str × Value)} (n : Str) (v : Value) (nd : (kvs.map (·.1)).Nodup) : ((stored kvs n v).map (·.1)).Nodup := by
  unfold stored
  split
  · have : (kvs.map fun kv => if kv.1 = n then (kv.1, v) else kv).map (·.1) = kvs.map (·.1) := by
      rw [List.map_map]
      refine List.map_congr_left fun p _ => ?_
      simp only [Function.comp]
      split <;> rfl
    rw [this]; exact nd
  · rename_i q
    rw [List.map_append]
    refine List.nodup_append.mpr ⟨nd, by simp, fun a ha b hb => ?_⟩
    simp at hb
    subst hb
    rintro rfl
    obtain ⟨p, hp, e⟩ := List.mem_map.mp ha
    exact q (List.any_eq_true.mpr ⟨p, hp, by simpa using e⟩)
theorem putName_isDict {od : Obj} {kvs : List (Str × Value)} (r : od.IsDictOf (PySem.strKind prog w) kvs) (n : Str) (t : Tok) (v : Value) :
    ∃ es k, (Obj.putName n (PyData.keyHash w.params n) (.str n t) v od).data = .dict (List.toArray es) k ∧ es.length ≤ kvs.length + 1 ∧ (Obj.putName n (PyData.keyHash w.params n) (.str n t) v od).IsDictOf (PySem.strKind prog w) (stored kvs n v) := by
  obtain ⟨es, ep, hx, hd, hk, hp, nd⟩ := r
  obtain ⟨oc, odi, oda, osl⟩ := od
  obtain ⟨hx1, hx2, hx3⟩ := hx
  dsimp only at hx1 hx2 hx3 hd
  subst hx1 hx2 hx3 hd
  have e : Obj.putName n (PyData.keyHash w.params n) (.str n t) v { cls := .type "dict", dict := none, data := .dict es ep, slots := #[] } = dictOf (putL n (PyData.keyHash w.params n) (.str n t) v es.toList) (putN n es.toList ep) := by
    have := putName_dict n (PyData.keyHash w.params n) (.str n t) v es.toList ep
    rw [← this]
  rw [e]
  have pl := putIn_pairs hp n t v nd
  refine ⟨_, _, rfl, ?_, _, _, ⟨rfl, rfl, rfl⟩, rfl, ?_, pl, stored_nodup n v nd⟩
  · have lp : ∀ {es : List DictEntry} {kvs : List (Str × Value)}, Pairs (PySem.strKind prog w) es kvs → es.length = kvs.length := fun r => by
      induction r with
      | nil => rfl
      | cons _ _ _ ih => simp [ih]
    rw [lp pl]
    unfold stored
    split <;> simp
  · intro e he
    exact putL_keys (es := es.toList) n t v (fun e he => hk e (by simpa using he)) e (by simpa using he)

theorem setAttr_ok {o v : AV} {vo vv : Value} {n : Str} {Φ : AH → Prop} (C : SC prog w K ca T B) (S : St prog w ca B P L m H s.heap) (ho : VR o vo) (hv : VR v vv) (q : setAttrA o n v H Φ) :
    wpAny (model prog w) A (setAttr vo n vv) (fun _ => HPost prog w ca B P L m Φ s) noE s := by
  unfold setAttrA at q
  cases ho <;> first | exact q.elim | skip
  obtain ⟨c, dx, es, h1, h2, h3, h4, h5⟩ := q
  obtain ⟨od, kvs, hod, r1, r2, I⟩ := S.inst h1 h2
  have F := C.cl c
  have X := C.kin S
  obtain ⟨_, d2, d3, _⟩ := S.rep dx _ h2
  obtain ⟨N, hN, hne, hm⟩ := S.allAt hod d2 d3.1
  obtain ⟨es', k', e1, e2, e3⟩ := putName_isDict r1 n (s.toks + 1) vv
  have nd : (kvs.map (·.1)).Nodup := r1.choose_spec.choose_spec.2.2.2.2
  refine set_plain X I F.sa (osa_dict (s := { s with toks := s.toks + 1 }) (pre := []) S.fr hN X I rfl F.over (by unfold takerIn; rw [F.at_ n h3]; rfl) F.hd (by rw [lookIn_of r1 n]; rfl) (fun _ h => (nomatch h)) hne rfl e1
    (by rw [kvs_keys r2] at e2; omega) fun h' F' N' => ?_)
  exact ⟨h', _, _, rfl, S.upd F' h2 (keep_of_news S.fr F' N' hm) (N' _ (.head _)).1 (orel_dict e3 (kvs_set r2 n hv nd)), h5⟩
end
end
section
section
variable {prog : Program} {w : World} {K : Frag} {ca : CA} {T : FnId → Option FD} {B : Heap} {P : PH} {L : Addr} {m m' : Str → Option Value} {H H' : AH} {h h' : Heap} {A : Around} {s : Shared} {Φ : AV → AH → Prop}

theorem ints_of : ∀ {ns : List Int} {vals : List Value}, VRs (ns.map .int) vals → IntsAre vals ns
  | [], _, r => by cases r; exact .nil
  | n :: ns, _, r => by
    cases r with
    | cons x r => cases x; exact .cons _ _ (ints_of r)
theorem of_ints : ∀ {ns : List Int} {vals : List Value}, IntsAre vals ns → VRs (ns.map .int) vals
  | _, _, .nil => .nil
  | _, _, .cons n t r => .cons (.int n t) (of_ints r)

theorem allocA_ge {d : Addr} {o : AO} (S : St prog w ca B P L m H h) (e : h.objs.size ≤ d) (k : allocA H o Φ) : Φ (.ref d) (updH H d o) := k _ (S.noH (get_of_none e))
theorem vrs_one {a : AV} {vals : List Value} (r : VRs [a] vals) : ∃ v, vals = [v] ∧ VR a v := by
  cases r with
  | cons x r => cases r; exact ⟨_, rfl, x⟩
theorem vrs_two {a b : AV} {vals : List Value} (r : VRs [a, b] vals) : ∃ v u, vals = [v, u] ∧ VR a v ∧ VR b u := by
  cases r with
  | cons x r => obtain ⟨u, rfl, y⟩ := vrs_one r; exact ⟨_, u, rfl, x, y⟩
theorem vrs_three {a b c : AV} {vals : List Value} (r : VRs [a, b, c] vals) : ∃ v u z, vals = [v, u, z] ∧ VR a v ∧ VR b u ∧ VR c z := by
  cases r with
  | cons x r => obtain ⟨u, z, rfl, y, y'⟩ := vrs_two r; exact ⟨_, u, z, rfl, x, y, y'⟩

theorem rangeObj {a b c : Int} {t u v : Tok} (hb : a.natAbs ≤ 4096 ∧ b.natAbs ≤ 4096 ∧ (c = 1 ∨ c = 2)) : ORel prog w ca (.range a b c) { cls := .type "range", dict := none, data := .fields #[.int a t, .int b u, .int c v], slots := #[] } := ⟨hb, t, u, v, rfl⟩

theorem built_ok {f : Str} {v : Value} {vs : List AV} {vals : List Value} (hf : builtVal f = some v) (S : St prog w ca B P L m H s.heap) (r : VRs vs vals) (k : builtA f vs H Φ) :
    wpAny (model prog w) A (call v vals) (EPost prog w ca B P L m Φ s) noE s := by
  unfold builtA at k
  unfold builtVal at hf
  by_cases q : f = sLen
  · rw [if_pos q] at k hf
    cases hf
    split at k
    · rename_i x
      obtain ⟨us, h1, h2, h3⟩ := k
      obtain ⟨v, rfl, y⟩ := vrs_one r
      cases y
      obtain ⟨l, n, hl, rl⟩ := S.list h1
      refine len_list (isList_of (vs := us) hl) (by rw [List.size_toArray, rl.length]; omega) ?_
      have e : ((l.toArray.size : Nat) : Int) = (us.length : Int) := by rw [List.size_toArray, rl.length]
      rw [e]
      exact EPost.here S (.int _ _) h3
    · exact k.elim
  rw [if_neg q] at k hf
  by_cases q : f = sAbs
  · rw [if_pos q] at k hf
    cases hf
    split at k
    · rename_i i
      obtain ⟨v, rfl, y⟩ := vrs_one r
      cases y
      refine call_abs_int fun u tk => ?_
      have e : (if i < 0 then -i else i) = (i.natAbs : Int) := by split <;> omega
      rw [e]
      exact EPost.here S (.int _ _) k
    · exact k.elim
  rw [if_neg q] at k hf
  by_cases q : f = sChr
  · rw [if_pos q] at k hf
    cases hf
    split at k
    · obtain ⟨h1, h2, h3⟩ := k
      obtain ⟨v, rfl, y⟩ := vrs_one r
      cases y
      exact chr_of_range (by omega) (by omega) (EPost.here S (.str _ _) h3)
    · exact k.elim
  rw [if_neg q] at k hf
  by_cases q : f = sRange
  · rw [if_pos q] at k hf
    cases hf
    split at k
    · obtain ⟨h1, h2, h3⟩ := k
      obtain ⟨v, rfl, y⟩ := vrs_one r
      cases y
      exact call_range_1 (EPost.mk' (S.push (rangeObj ⟨by omega, by omega, by omega⟩)) (.ref _) (allocA_at S h3))
    · obtain ⟨h1, h2, h3, h4, h5⟩ := k
      obtain ⟨v, u, rfl, y, y'⟩ := vrs_two r
      cases y; cases y'
      exact call_range_2 (EPost.mk' (S.push (rangeObj ⟨by omega, by omega, by omega⟩)) (.ref _) (allocA_at S h5))
    · obtain ⟨h1, h2, h3, h4, h5⟩ := k
      obtain ⟨v, u, z, rfl, y, y', y''⟩ := vrs_three r
      cases y; cases y'; cases y''
      subst h4
      exact call_range_3 (by decide) (EPost.mk' (S.push (rangeObj ⟨by omega, by omega, by omega⟩)) (.ref _) (allocA_at S h5)) (.inl (PyProof.noPylong_small (by decide)))
    · exact k.elim
  rw [if_neg q] at k hf
  by_cases q : f = sSorted
  · rw [if_pos q] at k hf
    cases hf
    split at k
    · obtain ⟨ns, h1, h2, h3⟩ := k
      obtain ⟨v, rfl, y⟩ := vrs_one r
      cases y
      obtain ⟨l, n, hl, rl⟩ := S.list h1
      refine PyProof.Rows.sorted_ints (isList_of (vs := ns.map .int) hl) (ints_of rl) (by rw [rl.length, List.length_map]; exact h2) fun out ns' a1 a2 a3 => ?_
      obtain ⟨e, he⟩ := sortedAll_at s.heap l out
      have ho : (sortedAll s.heap l out).get? (s.heap.objs.size + 1) = some (listOf (out.toList).toArray e) := by rw [he]
      exact EPost.mk' (S.new (S.fr.keeps fun b o hb => sortedAll_old hb) (Nat.le_succ _) (fun b o _ _ hb => sortedAll_old hb) ho (orel_list (of_ints a1))) (.ref _) (allocA_ge S (Nat.le_succ _) (h3 ns' a2 a3))
    · exact k.elim
  rw [if_neg q] at k hf
  by_cases q : f = sList
  · rw [if_pos q] at k hf
    cases hf
    split at k
    · obtain ⟨us, h1, h2, h3⟩ := k
      obtain ⟨v, rfl, y⟩ := vrs_one r
      cases y
      obtain ⟨l, n, hl, rl⟩ := S.list h1
      refine call_list_seq (hsz := by rw [List.size_toArray, rl.length, sizeLine_eq]; omega) _ (.inl rfl) hl rfl rfl fun h' c' hk ho => ?_
      exact EPost.mk' (S.new (S.fr.keeps hk) (Nat.le_refl _) (fun b o _ _ hb => hk b o hb) ho (orel_list rl)) (.ref _) (allocA_at S h3)
    · exact k.elim
  rw [if_neg q] at k
  exact k.elim

theorem isInst_ok {v : AV} {vv : Value} {c : Str} {Φ : Bool → Prop} (C : SC prog w K ca T B) (S : St prog w ca B P L m H s.heap) (hv : VR v vv) (k : isInstA v c H Φ) :
    ∃ cv, (nsIn K mainGlobals c = some (some cv) ∨ (nsIn K mainGlobals c = some none ∧ bootBuiltins c = some cv ∧ c ≠ "__name__")) ∧
      ∀ s₁ : Shared, s₁.heap = s.heap → wpAny (model prog w) A (call (.builtin "isinstance") [vv, cv]) (CPost Φ s₁) noE s₁ := by
  unfold isInstA at k
  by_cases q : c = sVector
  · rw [if_pos q] at k
    subst q
    cases hv <;> first | exact k.elim | skip
    rename_i x
    dsimp only at k
    split at k
    · rename_i dx e
      obtain ⟨o, ho, rfl⟩ := S.get e
      refine ⟨_, .inl (C.cl .vec).nm, fun s₁ hs => ?_⟩
      refine isi_call (K := K) (t := .ref (ca.of .vec)) (by rw [hs]; exact C.kin S) (fun M => ?_) (by unfold isIn; simp) (by simp) (CPost.now k)
      rw [hs]
      exact (Looks.ld (part := none) ho).andThen .now
    · exact k.elim
  rw [if_neg q] at k
  by_cases q : c = sList
  · rw [if_pos q] at k
    subst q
    cases hv <;> first | exact k.elim | skip
    have b := C.bi sList (.type "list") (by decide +kernel)
    exact ⟨_, .inr b, fun s₁ _ => PySem.IsiPair.bool_list (CPost.tk k)⟩
  rw [if_neg q] at k
  exact k.elim

/-- a method of a list or a dict -/
theorem dictMeth_ok {x : Addr} {es : List (Str × AV)} {n : Str} {vs : List AV} {vals : List Value} (C : SC prog w K ca T B) (S : St prog w ca B P L m H s.heap) (e : H x = some (.dict es)) (r : VRs vs vals)
    (k : if n = sGet then (match vs with | [.str s] => Φ ((getL es s).getD .none) H | _ => False) else False) :
    wpAny (model prog w) A (call (.builtin "dict.get") ([.ref x] ++ vals)) (EPost prog w ca B P L m Φ s) noE s := by
  by_cases q : n = sGet
  · rw [if_pos q] at k
    split at k
    · rename_i y r
      obtain ⟨u, rfl, z⟩ := vrs_one r
      obtain ⟨t, rfl⟩ : ∃ t, u = .str y t := by cases z; exact ⟨_, rfl⟩
      obtain ⟨o, ho, kvs, r1, r2⟩ := S.get e
      obtain ⟨_, d2, d3, _⟩ := S.rep x _ e
      refine kdg_get1 (knd := PySem.strKind prog w) (h₀ := B) (L := L) (news := [(x, o)]) (fun p hp => by rw [List.mem_singleton.mp hp]; exact ⟨ho, d2, d3.1⟩) (.head _) r1 (S.notMods C.mods e) (strKind_self y t) _ rfl ?_
      cases q : getL es y with
      | none =>
        rw [q] at k
        rw [(kvs_get r2 y).2 q]
        exact EPost.here S .none k
      | some a =>
        rw [q] at k
        obtain ⟨v, hv, hr⟩ := (kvs_get r2 y).1 a q
        rw [hv]
        exact EPost.here S hr k
    · exact k.elim
  · rw [if_neg q] at k
    exact k.elim
end
end
section
noncomputable def nameAt (env : Env) (P : PH) (m : Str → Option Value) (x : Str) (v : Value) : Prop :=
  (env.kindOf x = some .local ∧ m x = some v) ∨ (env.kindOf x = some .cell ∧ ∃ c o, env.cells.lookup x = some c ∧ P c = some o ∧ o.data = .cell (some v))
structure EnvR (sc : Scope) (env : Env) (P : PH) (L : Addr) (m : Str → Option Value) (loc : Loc) : Prop where
  kind : env.scope.kind = .function
  glo : env.globals = mainGlobals
  blt : env.builtins = builtinsNs
  lcl : env.locals = L
  gl : ∀ x, isGlob sc x = true → env.kindOf x = some .globalImplicit
  rd : ∀ x av, getL loc x = some av → (isVar sc x && notDebug x) = true → ∃ v, VR av v ∧ nameAt env P m x v
  cl : ∀ x, sc.names.lookup x = some .cell → env.kindOf x = some .cell ∧ ∃ c, env.cells.lookup x = some c

structure Room (A : Around) (d u : Nat) : Prop where
  hd : A.handled = none
  dp : A.depth + d < recursionLimit
  un : A.units + u < cLine

noncomputable def CallPost (prog : Program) (w : World) (ca : CA) (B : Heap) (P : PH) (L : Addr) (m : Str → Option Value) (Φ : AV → AH → Prop) (s : Shared) (r : Result) (s' : Shared) : Prop :=
  match r with
  | .ok (.ret v) => EPost prog w ca B P L m Φ s v s'
  | _ => False

/-- the calls of G, in room for d frames and u units -/
noncomputable def SoundG (prog : Program) (w : World) (K : Frag) (ca : CA) (B : Heap) (T : FnId → Option FD) (G : GT) (d u : Nat) : Prop :=
  ∀ id a A P L m H (s : Shared) vs vals Φ, (∀ fd, T id = some fd → FnObj prog w K a fd) → Room A d u → St prog w ca B P L m H s.heap → VRs vs vals → G id vs H Φ →
    codeAny (model prog w) A (.call (.ref a) ⟨vals, []⟩) (CallPost prog w ca B P L m Φ s) s

structure Dom (prog : Program) (w : World) (K : Frag) (ca : CA) (T : FnId → Option FD) : Prop where
  fn : ∀ f, topFns.contains f = true → isBuilt f = false → clsOf f = none → ∃ fd, T (.fn f) = some fd
  init : ∀ c, ∃ fd, T (.meth c sInit) = some fd
  meth : ∀ n, methsOf.contains n = true → ∃ fd, T (.meth .mat n) = some fd

section
variable {prog : Program} {w : World} {K : Frag} {ca : CA} {T : FnId → Option FD} {B : Heap} {P : PH} {L : Addr} {m m' : Str → Option Value} {H H' : AH} {h h' : Heap} {A : Around} {s : Shared} {Φ : AV → AH → Prop}
  {sc : Scope} {env : Env} {loc : Loc} {G : GT} {d u : Nat}

theorem then_ {t : Sem Value} {Q : Value → Shared → Prop} {E : Value → Shared → Prop} {Ψ : AV → AH → Prop} (x : wpAny (model prog w) A t (EPost prog w ca B P L m Ψ s) noE s)
    (h : ∀ h' tk av H' v, St prog w ca B P L m H' h' → VR av v → Ψ av H' → Q v { s with heap := h', toks := tk }) : wpAny (model prog w) A t Q E s :=
  wpAny_mono x (fun v s₁ ⟨h', tk, av, H', e, S', r, k⟩ => by subst e; exact h h' tk av H' v S' r k) fun _ _ e => e.elim

theorem notDebug_of {x : Str} (h : notDebug x = true) : (x == ("__debug__" : Str)) = false := by
  unfold notDebug at h
  rw [Bool.and_eq_true] at h
  simpa using h.1
theorem name_ok {x : Str} {pos : Pos} {av : AV} (E : EnvR sc env P L m loc) (S : St prog w ca B P L m H s.heap) (hx : (isVar sc x && notDebug x) = true) (e : getL loc x = some av) (k : Φ av H) :
    wpAny (model prog w) A (eval (.Name x pos) env) (EPost prog w ca B P L m Φ s) noE s := by
  obtain ⟨v, r, hv⟩ := E.rd x av e hx
  rw [Bool.and_eq_true] at hx
  refine wpAny_Name ?_ (notDebug_of hx.2)
  rcases hv with ⟨h1, h2⟩ | ⟨h1, c, o, h2, h3, h4⟩
  · exact wpAny_loadName_local E.kind h1 (by rw [E.lcl]; exact S.fr.ns) h2 (EPost.now S r k)
  · exact wpAny_loadName_cell E.kind h1 h2 ⟨o, S.keep c o h3, h4⟩ (EPost.now S r k)

noncomputable def GlobVal (K : Frag) (x : Str) (v : Value) : Prop := nsIn K mainGlobals x = some (some v) ∨ (nsIn K mainGlobals x = some none ∧ bootBuiltins x = some v ∧ x ≠ "__name__")
theorem isGlob_nd {x : Str} (h : isGlob sc x = true) : notDebug x = true := by
  unfold isGlob at h
  rw [Bool.and_eq_true] at h
  exact h.2
theorem glob_ok {x : Str} {pos : Pos} {v : Value} {Q E' : Value → Shared → Prop} (C : SC prog w K ca T B) (E : EnvR sc env P L m loc) (S : St prog w ca B P L m H s.heap) (hx : isGlob sc x = true) (hv : GlobVal K x v) (h : Q v s) :
    wpAny (model prog w) A (eval (.Name x pos) env) Q E' s := by
  obtain ⟨p, loose, mg, mb, T'⟩ := C.top
  refine Name_function_global E.kind (E.gl x hx) ?_ (notDebug_of (isGlob_nd hx))
  rcases hv with hv | ⟨h1, h2, h3⟩
  · exact loadGlobal_global (by rw [E.glo]; exact T'.g.keeps S.fr.keep) (mg_of C.X T'.g hv) h
  · exact loadGlobal_builtin (by rw [E.glo]; exact T'.g.keeps S.fr.keep) (mg_none_of C.X T'.g h1) (by rw [E.blt]; exact T'.b.keeps S.fr.keep) ((T'.builtins x h3).trans h2) h

theorem builtVal_of {f : Str} (h : isBuilt f = true) : ∃ v, builtVal f = some v := by
  unfold isBuilt at h
  simp only [Bool.or_eq_true, decide_eq_true_eq] at h
  rcases h with ((((h | h) | h) | h) | h) | h <;> subst h <;> exact Option.isSome_iff_exists.mp (by decide +kernel)
theorem built_keeper {f : Str} {v : Value} (h : builtVal f = some v) (hp : Heap) : ∃ k, (k = Keeper.frame ∨ k = Keeper.machine ∨ k = Keeper.boundFrame) ∧ Looks (model prog w) hp (keeperOf v) k := by
  refine ⟨.machine, .inr (.inl rfl), ?_⟩
  unfold builtVal at h
  split at h
  · cases h; exact Looks.of_pure rfl
  split at h
  · cases h; exact Looks.of_pure rfl
  split at h
  · cases h; exact Looks.of_pure rfl
  split at h
  · cases h; exact Looks.of_pure rfl
  split at h
  · cases h; exact Looks.of_pure rfl
  split at h
  · cases h; exact Looks.of_pure rfl
  split at h
  · cases h; exact Looks.of_pure rfl
  cases h

theorem wpAny_of_codeAny {f : Value} {vals : List Value} (h : codeAny (model prog w) A (.call f ⟨vals, []⟩) (CallPost prog w ca B P L m Φ s) s) : wpAny (model prog w) A (call f vals) (EPost prog w ca B P L m Φ s) noE s := by
  refine wpAny_call (codeAny_mono h fun r s' hr => ?_)
  cases r with
  | ok f => cases f <;> first | exact hr | exact hr.elim
  | error e => exact hr.elim

theorem orel_emptyDict : ORel prog w ca (.dict []) emptyDict := by
  obtain ⟨o, ho, r⟩ := Heap.dictOf_iff.mp (Heap.DictOf.new (knd := PySem.strKind prog w) ({} : Heap))
  rw [Heap.get?_push_size _ rfl] at ho
  cases ho
  exact ⟨[], r, .nil⟩
theorem under_type {C : Addr} {vals : List Value} : A.under (.builtin "type.__call__" ⟨.ref C :: vals, []⟩) = { A with depth := A.depth + 1, frames := pushEnvs [] A.frames, guards := pushGuards [] A.guards, units := A.units + 1 } := rfl
noncomputable def Callable (prog : Program) (w : World) (K : Frag) (ca : CA) (B : Heap) (G : GT) (d u : Nat) (f : Str) (fv : Value) : Prop :=
  GlobVal K f fv ∧ (∀ h, K.In h → ∃ k, (k = Keeper.frame ∨ k = Keeper.machine ∨ k = Keeper.boundFrame) ∧ Looks (model prog w) h (keeperOf fv) k) ∧
    ∀ A P L m H s vs vals Φ, Room A (d + 1) (u + 2) → St prog w ca B P L m H s.heap → VRs vs vals → callA G f vs H Φ → wpAny (model prog w) A (call fv vals) (EPost prog w ca B P L m Φ s) noE s

theorem inst_push {c : Cls} (S : St prog w ca B P L m H h) : St prog w ca B P L m (updH (updH H h.objs.size (.dict [])) (h.objs.size + 1) (.inst c h.objs.size)) ((h.push emptyDict).push (instObj (ca.of c) h.objs.size)) := by
  have e : (h.push emptyDict).objs.size = h.objs.size + 1 := Heap.size_push ..
  rw [← e]
  exact (S.push (o := .dict []) orel_emptyDict).push (o := .inst c h.objs.size) rfl

theorem known_ok {f : Str} (C : SC prog w K ca T B) (D : Dom prog w K ca T) (SG : SoundG prog w K ca B T G d u) (hk : knownF f = true) : ∃ fv, Callable prog w K ca B G d u f fv := by
  by_cases hb : isBuilt f = true
  · obtain ⟨v, hv⟩ := builtVal_of hb
    refine ⟨v, .inr (C.bi f v hv), fun h _ => built_keeper hv h, fun A P L m H s vs vals Φ R S r k => ?_⟩
    unfold callA at k
    rw [if_pos hb] at k
    exact built_ok hv S r k
  · have hb' : isBuilt f = false := by simpa using hb
    cases hc : clsOf f with
    | some c =>
      have F := C.cl c
      have nm : nameOf c = f := by
        unfold clsOf at hc
        split at hc
        · rename_i q; cases hc; exact q.symm
        · split at hc
          · rename_i q; cases hc; exact q.symm
          · cases hc
      obtain ⟨fd, hfd⟩ := D.init c
      obtain ⟨a, ha, FO⟩ := C.me c sInit fd hfd
      refine ⟨_, .inl (nm ▸ F.nm), fun h X => keeps_K F.keep h X, fun A P L m H s vs vals Φ R S r k => ?_⟩
      unfold callA at k
      rw [hb', hc] at k
      simp only [Bool.false_eq_true, if_false] at k
      refine wpAny_of_codeAny ?_
      obtain ⟨hp, g, dd, tk, os⟩ := s
      have X := C.kin S
      have hx : (Heap.push hp emptyDict).get? (hp.objs.size + 1) = none := get_of_none (by rw [Heap.size_push]; exact Nat.le_refl _)
      have k' := k (hp.objs.size + 1) hp.objs.size (S.noH (get_of_none (Nat.le_succ _))) (S.noH (get_of_none (Nat.le_refl _))) ((by intro e; exact absurd (show hp.objs.size + 1 = hp.objs.size from e) (by omega)))
      refine make_core (makes_of X F.makes) (looks_findIn X ha) (fun self => bind_fn X self FO.fn) (.inl ?_) ?_
      · rfl
      · have R' : Room (A.under (.builtin "type.__call__" ⟨.ref (ca.of c) :: vals, []⟩)) d u := by
          rw [under_type]
          exact ⟨R.hd, by have := R.dp; show A.depth + 1 + d < recursionLimit; omega, by have := R.un; show A.units + 1 + u < cLine; omega⟩
        refine codeAny_mono (SG (.meth c sInit) a _ P L m _ ⟨(hp.push emptyDict).push (instObj (ca.of c) hp.objs.size), g, dd, tk, os⟩ (.ref (hp.objs.size + 1) :: vs) (.ref (hp.objs.size + 1) :: vals) _ (fun fd' e => by rw [hfd] at e; cases e; exact FO) R' (inst_push S) (.cons (.ref _) r) k') fun rr s' hr => ?_
        cases rr with
        | error e => exact hr.elim
        | ok fl =>
          cases fl with
          | ret v =>
            obtain ⟨h', tk', av, H', rfl, S', rv, rfl, kk⟩ := hr
            cases rv
            exact ⟨rfl, h', tk', .ref _, H', rfl, S', .ref _, kk⟩
          | _ => exact hr.elim
    | none =>
      unfold knownF at hk
      rw [hb', hc] at hk
      simp only [Option.isSome_none, Bool.or_self, Bool.false_or] at hk
      obtain ⟨fd, hfd⟩ := D.fn f hk hb' hc
      obtain ⟨a, ha, FO⟩ := C.fnA f fd hfd
      refine ⟨_, .inl ha, fun h X => keeps_K FO.keep h X, fun A P L m H s vs vals Φ R S r k => ?_⟩
      unfold callA at k
      rw [hb', hc] at k
      simp only [Bool.false_eq_true, if_false] at k
      exact wpAny_of_codeAny (SG (.fn f) a A P L m H s vs vals Φ (fun fd' e => by rw [hfd] at e; cases e; exact FO) ⟨R.hd, by have := R.dp; omega, by have := R.un; omega⟩ S r k)
end
end
section
noncomputable def setP (P : PH) (a : Addr) (o : Obj) : PH := fun b => if b = a then some o else P b
noncomputable def rmP (P : PH) (a : Addr) : PH := fun b => if b = a then none else P b
theorem setP_self {P : PH} {a : Addr} {o : Obj} : setP P a o a = some o := by unfold setP; rw [if_pos rfl]
theorem setP_ne {P : PH} {a b : Addr} {o : Obj} (h : b ≠ a) : setP P a o b = P b := by unfold setP; rw [if_neg h]

section
variable {prog : Program} {w : World} {K : Frag} {ca : CA} {T : FnId → Option FD} {B : Heap} {P P' : PH} {L : Addr} {m m' : Str → Option Value} {H H' : AH} {h h' : Heap} {A : Around} {s : Shared} {Φ : AV → AH → Prop}

theorem St.setP (S : St prog w ca B P L m H h) {a : Addr} {o : Obj} (g : h.get? a = some o) (hH : H a = none) (hL : a ≠ L) : St prog w ca B (setP P a o) L m H h where
  fr := S.fr
  offL := by rw [setP_ne (Ne.symm hL)]; exact S.offL
  keep := fun b x e => by
    by_cases q : b = a
    · subst q; rw [setP_self] at e; cases e; exact g
    · rw [setP_ne q] at e; exact S.keep b x e
  rep := fun b x e => by
    obtain ⟨r1, r2⟩ := S.rep b x e
    refine ⟨?_, r2⟩
    rw [setP_ne (fun q => by rw [q, hH] at e; cases e)]
    exact r1
theorem St.subP (S : St prog w ca B P L m H h) (hs : ∀ b o, P' b = some o → P b = some o) : St prog w ca B P' L m H h where
  fr := S.fr
  offL := by
    cases q : P' L with
    | none => rfl
    | some o => have := hs L o q; rw [S.offL] at this; cases this
  keep := fun b x e => S.keep b x (hs b x e)
  rep := fun b x e => by
    obtain ⟨r1, r2⟩ := S.rep b x e
    refine ⟨?_, r2⟩
    cases q : P' b with
    | none => rfl
    | some o => have := hs b o q; rw [r1] at this; cases this
/-- an object of P changes -/
theorem St.chP (S : St prog w ca B P L m H h) {a : Addr} {o o' : Obj} (e : P a = some o) (hB : B.get? a = none) (hk : ∀ b x, b ≠ a → h.get? b = some x → h'.get? b = some x) (g : h'.get? a = some o') :
    St prog w ca B (Mine.setP P a o') L m H h' := by
  have aL : L ≠ a := fun q => by rw [← q, S.offL] at e; cases e
  refine ⟨⟨S.fr.ns.at' fun x ex => hk L x aL ex, fun b x ex => hk b x (fun q => by rw [q, hB] at ex; cases ex) (S.fr.keep b x ex), S.fr.above⟩, ?_, fun b x ex => ?_, fun b x ex => ?_⟩
  · rw [setP_ne aL]; exact S.offL
  · by_cases q : b = a
    · subst q; rw [setP_self] at ex; cases ex; exact g
    · rw [setP_ne q] at ex; exact hk b x q (S.keep b x ex)
  · obtain ⟨r1, r2, r3, ob, r4, r5⟩ := S.rep b x ex
    have q : b ≠ a := fun q => by rw [q, e] at r1; cases r1
    exact ⟨by rw [setP_ne q]; exact r1, r2, r3, ob, hk b ob q r4, r5⟩
/-- an object of P may go -/
theorem St.rmP (S : St prog w ca B P L m H h) {a : Addr} {o : Obj} (e : P a = some o) (hB : B.get? a = none) (hk : ∀ b x, b ≠ a → h.get? b = some x → h'.get? b = some x) :
    St prog w ca B (Mine.rmP P a) L m H h' := by
  have aL : L ≠ a := fun q => by rw [← q, S.offL] at e; cases e
  refine ⟨⟨S.fr.ns.at' fun x ex => hk L x aL ex, fun b x ex => hk b x (fun q => by rw [q, hB] at ex; cases ex) (S.fr.keep b x ex), S.fr.above⟩, ?_, fun b x ex => ?_, fun b x ex => ?_⟩
  · unfold Mine.rmP; rw [if_neg aL]; exact S.offL
  · unfold Mine.rmP at ex
    by_cases q : b = a
    · rw [if_pos q] at ex; cases ex
    · rw [if_neg q] at ex; exact hk b x q (S.keep b x ex)
  · obtain ⟨r1, r2, r3, ob, r4, r5⟩ := S.rep b x ex
    have q : b ≠ a := fun q => by rw [q, e] at r1; cases r1
    exact ⟨by unfold Mine.rmP; rw [if_neg q]; exact r1, r2, r3, ob, hk b ob q r4, r5⟩
/-- a thing that nobody speaks of may change -/
theorem St.but (S : St prog w ca B P L m H h) {a : Addr} (hP : P a = none) (hH : H a = none) (hL : a ≠ L) (hB : B.get? a = none) (hk : ∀ b x, b ≠ a → h.get? b = some x → h'.get? b = some x) : St prog w ca B P L m H h' := by
  refine ⟨⟨S.fr.ns.at' fun x ex => hk L x (Ne.symm hL) ex, fun b x ex => hk b x (fun q => by rw [q, hB] at ex; cases ex) (S.fr.keep b x ex), S.fr.above⟩, S.offL, fun b x ex => hk b x (fun q => by rw [q, hP] at ex; cases ex) (S.keep b x ex), fun b x ex => ?_⟩
  obtain ⟨r1, r2, r3, ob, r4, r5⟩ := S.rep b x ex
  exact ⟨r1, r2, r3, ob, hk b ob (fun q => by rw [q, hH] at ex; cases ex) r4, r5⟩
/-- the namespace is written -/
theorem St.store (S : St prog w ca B P L m H h) (hn : h'.Ns L m') (hs : Heap.SameBut L h h') : St prog w ca B P L m' H h' where
  fr := S.fr.set hn hs
  offL := S.offL
  keep := fun b x e => hs.extBut b x (fun q => by rw [q, S.offL] at e; cases e) (S.keep b x e)
  rep := fun b x e => by
    obtain ⟨r1, r2, r3, ob, r4, r5⟩ := S.rep b x e
    exact ⟨r1, r2, r3, ob, hs.extBut b ob r2 r4, r5⟩
/-- into a new namespace -/
theorem St.enter (S : St prog w ca B P L m H h) {C : Addr} {oL : Obj} (gL : h.get? L = some oL) (hk : ∀ b x, h.get? b = some x → h'.get? b = some x) (hC : h.objs.size ≤ C) (hn : h'.Ns C m') :
    St prog w ca B (Mine.setP P L oL) C m' H h' where
  fr := ⟨hn, fun b x e => hk b x (S.fr.keep b x e), S.geB hC⟩
  offL := by
    have := S.neL (get_of_none hC)
    rw [setP_ne this]
    exact S.noP (get_of_none hC)
  keep := fun b x e => by
    by_cases q : b = L
    · subst q; rw [setP_self] at e; cases e; exact hk _ _ gL
    · rw [setP_ne q] at e; exact hk b x (S.keep b x e)
  rep := fun b x e => by
    obtain ⟨r1, r2, r3, ob, r4, r5⟩ := S.rep b x e
    exact ⟨by rw [setP_ne r2]; exact r1, (fun (q : b = C) => by rw [q, S.noH (get_of_none hC)] at e; cases e), r3, ob, hk b ob r4, r5⟩
/-- and back -/
theorem St.leave (S₀ : St prog w ca B P L m H h) {C : Addr} {oL : Obj} {P₁ : PH} (gL : h.get? L = some oL) (S : St prog w ca B P₁ C m' H' h') (hs : ∀ b o, Mine.setP P L oL b = some o → P₁ b = some o) : St prog w ca B P L m H' h' := by
  have hL : P₁ L = some oL := hs L oL setP_self
  have sub : ∀ b o, P b = some o → P₁ b = some o := fun b o e => hs b o (by rw [setP_ne (fun q => by rw [q, S₀.offL] at e; cases e)]; exact e)
  refine ⟨⟨S₀.fr.ns.at' fun x ex => ?_, S.fr.keep, S₀.fr.above⟩, S₀.offL, fun b x e => S.keep b x (sub b x e), fun b x e => ?_⟩
  · rw [gL] at ex; cases ex; exact S.keep L oL hL
  · obtain ⟨r1, r2, r3, ob, r4, r5⟩ := S.rep b x e
    refine ⟨?_, fun q => ?_, r3, ob, r4, r5⟩
    · cases q : P b with
      | none => rfl
      | some o => have := sub b o q; rw [r1] at this; cases this
    · rw [q, hL] at r1; cases r1

/-- an iterator, as an object -/
noncomputable def ItObj (oI : Obj) (src : Addr) (o : AO) (i : Nat) : Prop := match o with
  | .list _ => oI.cls = .type "list_iterator" ∧ oI.data = .fields #[.ref src, .int i 0]
  | .range a b st => oI = { cls := .type "range_iterator", dict := none, data := .fields #[rawInt (a + st * i), rawInt (Builtin.Range.rangeSize a b st - i), rawInt st], slots := #[] }
  | _ => False

theorem rangeSize_one {a b : Int} : Builtin.Range.rangeSize a b 1 = ((b - a).toNat : Int) := by
  unfold Builtin.Range.rangeSize
  split
  · split
    · rw [Int.ediv_one]; omega
    · omega
  · omega
theorem rangeSize_two {a b : Int} : Builtin.Range.rangeSize a b 2 = (((b - a + 1) / 2).toNat : Int) := by
  unfold Builtin.Range.rangeSize
  split
  · split <;> omega
  · omega
theorem range_items {a b st : Int} {items : List AV} (h : itemsA (.range a b st) = some items) (hs : st = 1 ∨ st = 2) :
    Builtin.Range.rangeSize a b st = items.length ∧ ∀ (i : Nat) (x : AV), items[i]? = some x → x = .int (a + st * i) := by
  unfold itemsA at h
  rcases hs with rfl | rfl
  · simp only [if_true] at h
    cases h
    refine ⟨by rw [rangeSize_one]; simp, fun i x e => ?_⟩
    rw [List.getElem?_map, Option.map_eq_some_iff] at e
    obtain ⟨k, hk, rfl⟩ := e
    have hk' := List.getElem?_eq_some_iff.mp hk
    obtain ⟨q, hq⟩ := hk'
    rw [List.getElem_range] at hq
    subst hq
    simp
  · dsimp only at h
    rw [if_neg (by decide), if_pos rfl] at h
    cases h
    refine ⟨by rw [rangeSize_two]; simp, fun i x e => ?_⟩
    rw [List.getElem?_map, Option.map_eq_some_iff] at e
    obtain ⟨k, hk, rfl⟩ := e
    have hk' := List.getElem?_eq_some_iff.mp hk
    obtain ⟨q, hq⟩ := hk'
    rw [List.getElem_range] at hq
    subst hq
    rfl

theorem iter_ok {src : Addr} {o : AO} {items : List AV} {Q : Value → Shared → Prop} {E : Value → Shared → Prop} (S : St prog w ca B P L m H s.heap) (e : H src = some o) (hi : itemsA o = some items) (hlen : items.length ≤ 4096)
    (h : ∀ I oI h', s.heap.objs.size ≤ I → (∀ b x, s.heap.get? b = some x → h'.get? b = some x) → h'.get? I = some oI → ItObj oI src o 0 → Q (.ref I) { s with heap := h' }) :
    wpAny (model prog w) A (pyIter (.ref src)) Q E s := by
  cases o with
  | list vs =>
    obtain ⟨l, n, hl, r⟩ := S.list e
    exact wpAny_pyIter_list (isList_of (vs := []) hl) (h _ _ _ (Nat.le_refl _) (fun b x ex => Heap.get?_push_of_some _ ex) (Heap.get?_push_size _ rfl) ⟨rfl, rfl⟩)
  | range a b st =>
    obtain ⟨ob, ho, ⟨b1, b2, b3⟩, t, u, v, rfl⟩ := S.get e
    obtain ⟨hsz, _⟩ := range_items hi b3
    refine wpAny_pyIter_range ho ?_ (h _ _ _ (Nat.le_refl _) (fun b x ex => Heap.get?_push_of_some _ ex) (Heap.get?_push_size _ rfl) ?_)
    · unfold Builtin.Range.small Builtin.Range.rangeFitsLong
      rw [hsz]
      simp only [Bool.and_eq_true, decide_eq_true_eq, Bool.or_eq_true, beq_iff_eq]
      have h63 : (2 : Int) ^ 63 = 9223372036854775808 := by decide
      rw [h63]
      refine ⟨⟨⟨⟨by omega, by omega⟩, by omega⟩, by omega⟩, ?_⟩
      rw [if_pos (by omega)]
      right
      simp only [Bool.and_eq_true, decide_eq_true_eq]
      omega
    · show _ = _
      simp
  | _ => cases hi

theorem next_item {I src : Addr} {o : AO} {oI : Obj} {items : List AV} {i : Nat} {av : AV} {Q : Option Value → Shared → Prop} {E : Value → Shared → Prop} (S : St prog w ca B P L m H s.heap) (e : H src = some o) (hi : itemsA o = some items)
    (eI : P I = some oI) (hI : ItObj oI src o i) (hx : items[i]? = some av)
    (h : ∀ v oI' h' tk, VR av v → (∀ b x, b ≠ I → s.heap.get? b = some x → h'.get? b = some x) → h'.get? I = some oI' → ItObj oI' src o (i + 1) → Q (some v) { s with heap := h', toks := tk }) :
    wpAny (model prog w) A (pyNext (.ref I)) Q E s := by
  cases o with
  | list vs =>
    cases hi
    obtain ⟨l, n, hl, r⟩ := S.list e
    obtain ⟨v, hv, rv⟩ := r.get hx
    refine wpAny_pyNext_list_item ⟨oI, S.keep I oI eI, hI.1, hI.2⟩ (isList_of (vs := []) hl) (by simpa using hv) fun h' ⟨o', g, c, d⟩ hs => ?_
    exact h v o' h' s.toks rv (fun b x q ex => hs.extBut b x q ex) g ⟨c, d⟩
  | range a b st =>
    obtain ⟨ob, ho, ⟨b1, b2, b3⟩, t, u, v, rfl⟩ := S.get e
    obtain ⟨hsz, hit⟩ := range_items hi b3
    have hav := hit i av hx
    subst hav
    have hlt : i < items.length := (List.getElem?_eq_some_iff.mp hx).1
    have g := S.keep I oI eI
    unfold ItObj at hI
    rw [hI] at g
    refine wpAny_pyNext_range_item g (by rw [hsz]; omega) fun h' g' hs => ?_
    refine h _ _ h' _ (.int _ _) (fun b x q ex => hs.extBut b x q ex) g' ?_
    unfold ItObj
    simp only
    have e1 : a + st * (i : Int) + st = a + st * ((i + 1 : Nat) : Int) := by rw [Int.natCast_add, Int.mul_add]; omega
    have e2 : Builtin.Range.rangeSize a b st - (i : Int) - 1 = Builtin.Range.rangeSize a b st - ((i + 1 : Nat) : Int) := by omega
    rw [e1, e2]
  | _ => cases hi

theorem next_end {I src : Addr} {o : AO} {oI : Obj} {items : List AV} {i : Nat} {Q : Option Value → Shared → Prop} {E : Value → Shared → Prop} (hA : A.handled = none) (S : St prog w ca B P L m H s.heap) (e : H src = some o) (hi : itemsA o = some items)
    (eI : P I = some oI) (hI : ItObj oI src o i) (hx : items.length ≤ i)
    (h : ∀ h', (∀ b x, b ≠ I → s.heap.get? b = some x → h'.get? b = some x) → Q none { s with heap := h' }) :
    wpAny (model prog w) A (pyNext (.ref I)) Q E s := by
  cases o with
  | list vs =>
    cases hi
    obtain ⟨l, n, hl, r⟩ := S.list e
    refine wpAny_pyNext_list_end hA ⟨oI, S.keep I oI eI, hI.1, hI.2⟩ (isList_of (vs := []) hl) ?_ fun h' hs => h h' hs
    have := r.length
    simp only [List.getElem?_toArray]
    exact List.getElem?_eq_none (by omega)
  | range a b st =>
    obtain ⟨ob, ho, ⟨b1, b2, b3⟩, t, u, v, rfl⟩ := S.get e
    obtain ⟨hsz, hit⟩ := range_items hi b3
    have g := S.keep I oI eI
    unfold ItObj at hI
    rw [hI] at g
    exact wpAny_pyNext_range_end hA g (by rw [hsz]; omega) fun h' hs => h h' hs
  | _ => cases hi
end
end
section
section
variable {prog : Program} {w : World} {K : Frag} {ca : CA} {T : FnId → Option FD} {B : Heap} {P P' : PH} {L : Addr} {m m' : Str → Option Value} {H H' : AH} {h h' : Heap} {A : Around} {s : Shared} {Φ : AV → AH → Prop}
  {sc cs : Scope} {env : Env} {loc : Loc} {G : GT} {d u : Nat}

theorem getL_setL (l : Loc) (x : Str) (v : AV) (y : Str) : getL (setL l x v) y = if y = x then some v else getL l y := by
  induction l with
  | nil =>
    by_cases q : y = x
    · subst q; simp [setL, getL]
    · simp [setL, getL, q, Ne.symm q]
  | cons p r ih =>
    obtain ⟨k, z⟩ := p
    by_cases q : k = x
    · subst q
      by_cases q' : y = k
      · subst q'; simp [setL, getL]
      · simp [setL, getL, q', Ne.symm q']
    · by_cases q' : k = y
      · subst q'; simp [setL, getL, q]
      · simp [setL, getL, q, q', ih]

theorem lookup_mapped {y : Str} (g : Str → NameKind → NameKind) : ∀ (names : List (Str × NameKind)), (names.map fun p => (p.1, g p.1 p.2)).lookup y = (names.lookup y).map (g y)
  | [] => rfl
  | (n, k) :: r => by
    have ih := lookup_mapped (y := y) g r
    rw [List.map_cons]
    cases hx : y == n with
    | true =>
      have e : y = n := eq_of_beq hx
      subst e
      simp [List.lookup_cons]
    | false =>
      rw [List.lookup_cons, List.lookup_cons, hx]
      exact ih
theorem lookup_relabel {y : Str} (names : List (Str × NameKind)) :
    (names.map fun (n, k) => if (k == NameKind.free && env.scope.kind == .function && env.kindOf n == some .cell) then (n, NameKind.cell) else (n, k)).lookup y =
      (names.lookup y).map fun k => if (k == NameKind.free && env.scope.kind == .function && env.kindOf y == some .cell) then NameKind.cell else k := by
  rw [← lookup_mapped (fun n k => if (k == NameKind.free && env.scope.kind == .function && env.kindOf n == some .cell) then NameKind.cell else k) names]
  congr 2
  funext p
  obtain ⟨n, k⟩ := p
  dsimp only
  split <;> rfl

theorem closure_of : ∀ (names : List (Str × NameKind)) (cs0 : List (Str × Addr)), (∀ p ∈ names, p.2 = .free → ∃ c, env.cells.lookup p.1 = some c) → (∀ y c, cs0.lookup y = some c → env.cells.lookup y = some c) →
    ∃ cl, (forIn names cs0 fun (x : Str × NameKind) (cs : List (Str × Addr)) => (if x.2 == NameKind.free then do let a ← cellOf env x.1; pure (ForInStep.yield ((x.1, a) :: cs)) else pure (ForInStep.yield cs) : Sem _)) = (pure cl : Sem _) ∧
      (∀ y c, cl.lookup y = some c → env.cells.lookup y = some c) ∧ (∀ y, ((y, NameKind.free) ∈ names ∨ (cs0.lookup y).isSome = true) → (cl.lookup y).isSome = true)
  | [], cs0, _, h0 => ⟨cs0, by rw [List.forIn_nil], h0, fun y hy => hy.elim (fun q => nomatch q) id⟩
  | (n, k) :: r, cs0, hn, h0 => by
    by_cases hk : (k == NameKind.free) = true
    · have hk' := eq_of_beq hk
      subst hk'
      obtain ⟨c, hc⟩ := hn (n, .free) List.mem_cons_self rfl
      obtain ⟨cl, e, h1, h2⟩ := closure_of r ((n, c) :: cs0) (fun p hp => hn p (List.mem_cons_of_mem _ hp)) (fun y c' e => by
        rw [List.lookup_cons] at e
        cases hx : y == n with
        | true => rw [hx] at e; cases e; rw [eq_of_beq hx]; exact hc
        | false => rw [hx] at e; exact h0 y c' e)
      refine ⟨cl, ?_, h1, fun y hy => h2 y ?_⟩
      · rw [List.forIn_cons]
        simp only [beq_self_eq_true, if_true, cellOf, hc, pure_bind]
        exact e
      · rcases hy with hy | hy
        · rcases List.mem_cons.mp hy with hy | hy
          · cases hy; right; simp [List.lookup_cons]
          · exact .inl hy
        · right
          rw [List.lookup_cons]
          cases hx : y == n with
          | true => rfl
          | false => exact hy
    · obtain ⟨cl, e, h1, h2⟩ := closure_of r cs0 (fun p hp => hn p (List.mem_cons_of_mem _ hp)) h0
      refine ⟨cl, ?_, h1, fun y hy => h2 y (hy.imp (fun q => ?_) id)⟩
      · rw [List.forIn_cons]
        rw [if_neg hk, pure_bind]
        exact e
      · rcases List.mem_cons.mp q with q | q
        · cases q; exact absurd rfl hk
        · exact q
theorem closureFor_of (hn : ∀ p ∈ cs.names, p.2 = .free → ∃ c, env.cells.lookup p.1 = some c) :
    ∃ cl, closureFor cs env = pure cl ∧ ∀ y, (y, NameKind.free) ∈ cs.names → cl.lookup y = env.cells.lookup y := by
  obtain ⟨cl, e, h1, h2⟩ := closure_of cs.names [] hn (fun y c e => nomatch e)
  refine ⟨cl, ?_, fun y hy => ?_⟩
  · unfold closureFor
    show (forIn cs.names [] _ >>= _) = _
    rw [show (fun (x : Str × NameKind) (r : List (Str × Addr)) => _) = _ from rfl]
    refine (congrArg (· >>= fun x => pure x) ?_).trans ((congrArg (· >>= fun x => pure x) e).trans (pure_bind ..))
    congr 1
  · obtain ⟨c, hc⟩ := Option.isSome_iff_exists.mp (h2 y (.inl hy))
    rw [hc, h1 y c hc]

structure CompOk (sc cs : Scope) (x : Str) : Prop where
  kind : cs.kind = .function
  free : ∀ p ∈ cs.names, p.2 = .free → sc.names.lookup p.1 = some .cell
  nocell : ∀ p ∈ cs.names, p.2 ≠ .cell
  only : ∀ p ∈ cs.names, p.2 = .local → cs.names.lookup p.1 = some .local ∧ (p.1 = x ∨ p.1 = sDot)
  x : cs.names.lookup x = some .local
theorem compOk_of {x : Str} (h : compOk sc cs x = true) : CompOk sc cs x := by
  unfold compOk at h
  simp only [Bool.and_eq_true, decide_eq_true_eq, List.all_eq_true, Bool.or_eq_true, bne_iff_ne, beq_iff_eq] at h
  obtain ⟨⟨⟨⟨h1, h2⟩, h3⟩, h4⟩, h5⟩ := h
  refine ⟨h1, fun p hp e => (h2 p hp).resolve_left (fun q => q e), fun p hp => (h3 p hp).1, fun p hp e => (h3 p hp).2.resolve_left (fun q => q e), h4⟩

theorem EnvR.comp {x : Str} {cl : List (Str × Addr)} {C : Addr} {mC : Str → Option Value} {v : Value} {av : AV} (E : EnvR sc env P L m loc) (O : CompOk sc cs x) (hcl : ∀ y, (y, NameKind.free) ∈ cs.names → cl.lookup y = env.cells.lookup y)
    (hP : ∀ b o, P b = some o → P' b = some o) (hv : VR av v) : EnvR cs (compEnvC cs cl C env) P' C (fun y => if y = x then some v else mC y) (setL loc x av) := by
  have look : ∀ y, (compEnvC cs cl C env).kindOf y = (cs.names.lookup y).map fun k => if (k == NameKind.free && env.scope.kind == .function && env.kindOf y == some .cell) then NameKind.cell else k := fun y => lookup_relabel cs.names
  refine ⟨O.kind, E.glo, E.blt, rfl, fun y hy => ?_, fun y av' e hy => ?_, fun y hy => absurd rfl (O.nocell _ (PySem.mem_of_lookup hy))⟩
  · rw [look]
    unfold isGlob at hy
    rw [Bool.and_eq_true] at hy
    obtain ⟨hy, _⟩ := hy
    split at hy
    · rename_i q; rw [q]; rfl
    · cases hy
  · rw [getL_setL] at e
    by_cases q : y = x
    · rw [if_pos q] at e
      cases e
      subst q
      exact ⟨v, hv, .inl ⟨by rw [look, O.x]; rfl, by simp⟩⟩
    · rw [if_neg q] at e
      rw [Bool.and_eq_true] at hy
      obtain ⟨hy, hd⟩ := hy
      have hnd : y ≠ sDot := by
        have := hd
        unfold notDebug at this
        rw [Bool.and_eq_true] at this
        simpa using this.2
      have hf : cs.names.lookup y = some .free := by
        unfold isVar at hy
        split at hy
        · rename_i z; exact (O.only _ (PySem.mem_of_lookup z) rfl).2.elim (fun w => absurd w q) fun w => absurd w hnd
        · rename_i z; exact absurd rfl (O.nocell _ (PySem.mem_of_lookup z))
        · rename_i z; exact z
        · cases hy
      have hsc := O.free _ (PySem.mem_of_lookup hf) rfl
      obtain ⟨hkc, c, hc⟩ := E.cl y hsc
      obtain ⟨v', r, hv'⟩ := E.rd y av' e (by rw [hd, Bool.and_true]; unfold isVar; rw [hsc])
      rcases hv' with ⟨h1, _⟩ | ⟨h1, c', o, h2, h3, h4⟩
      · rw [hkc] at h1; cases h1
      · refine ⟨v', r, .inr ⟨?_, c', o, ?_, hP c' o h3, h4⟩⟩
        · rw [look, hf, hkc, E.kind]; rfl
        · show cl.lookup y = _
          rw [hcl y (PySem.mem_of_lookup hf)]; exact h2

/-- the protected things of a comprehension -/
noncomputable def PB (P : PH) (L : Addr) (oL : Obj) (I : Addr) (oI : Obj) (D : Addr) (oD : Obj) : PH := fun b => if b = D then some oD else if b = I then some oI else if b = L then some oL else P b
end
end
section
theorem addr_ne {a b : Addr} (h : @LT.lt Nat _ a b) : a ≠ b := Nat.ne_of_lt h
theorem addr_ne' {a b : Addr} (h : @LT.lt Nat _ a b) : b ≠ a := Ne.symm (Nat.ne_of_lt h)
section
variable {prog : Program} {w : World} {K : Frag} {ca : CA} {T : FnId → Option FD} {B : Heap} {P P' : PH} {L : Addr} {m m' : Str → Option Value} {H H' : AH} {h h' : Heap} {A : Around} {s : Shared} {Φ : AV → AH → Prop}
  {sc cs : Scope} {env : Env} {loc : Loc} {G : GT} {d u : Nat}

abbrev tests (ifs : List Expr) (env : Env) : Sem Bool := forIn ifs true fun c r => if r = true then do let ok ← isTrue c env (eval c env); pure (ForInStep.yield ok) else pure (ForInStep.yield r)

theorem iter_self {I src : Addr} {o : AO} {oI : Obj} {i : Nat} {Q : Value → Shared → Prop} {E : Value → Shared → Prop} (g : s.heap.get? I = some oI) (hI : ItObj oI src o i) (h : Q (.ref I) s) :
    wpAny (model prog w) A (pyIter (.ref I)) Q E s := by
  cases o with
  | list vs => exact wpAny_pyIter_listiter ⟨oI, g, hI.1, hI.2⟩ h
  | range a b st =>
    unfold ItObj at hI
    rw [hI] at g
    exact wpAny_pyIter_rangeiter g h
  | _ => exact hI.elim

theorem comp_rule {elt iter : Expr} {x : Str} {px pos : Pos} {ifs : List Expr} {cl : List (Str × Addr)} {Bd : AV → AH → (Option AV → AH → Prop) → Prop} {src : Addr} {o : AO} {items : List AV} {RR : Value → Addr → Result → Shared → Prop} {E' : Value → Shared → Prop}
    (E : EnvR sc env P L m loc) (O : CompOk sc cs x) (hcl : ∀ y, (y, NameKind.free) ∈ cs.names → cl.lookup y = env.cells.lookup y) (hA : A.handled = none)
    (S : St prog w ca B P L m H s.heap) (e : H src = some o) (hi : itemsA o = some items) (hlen : items.length ≤ 4096) (k : compA Bd src o items [] H Φ)
    (hbody : ∀ cenv P' C m' H s av K, EnvR cs cenv P' C m' (setL loc x av) → St prog w ca B P' C m' H s.heap → Bd av H K →
      wpAny (model prog w) A (tests ifs cenv) (fun ok s₃ => ∃ h' tk H', s₃ = { s with heap := h', toks := tk } ∧ St prog w ca B P' C m' H' h' ∧
        (if ok then wpAny (model prog w) A (eval elt cenv) (EPost prog w ca B P' C m' (fun y H'' => K (some y) H'') s₃) noE s₃ else K none H')) noE s)
    (hRR : ∀ D C mC h' tk H' ys, St prog w ca B P L m (updH H' D (.list ys)) h' → h'.Ns C mC → P C = none → updH H' D (.list ys) C = none → C ≠ L → B.get? C = none → Φ (.ref D) (updH H' D (.list ys)) →
      RR (.ref D) C (.ok .next) { s with heap := h', toks := tk }) :
    wpAny (model prog w) A (pyIter (.ref src)) (fun it s₂ => wpAny (model prog w) A (newList []) (fun acc s₃ => wpAny (model prog w) A (newFunctionEnv cs env.globals cl [] env.qual none .none (some env)) (fun cenv s₄ =>
      codeAny (model prog w) A (.compStart (.ListComp elt [⟨.Name x px, iter, ifs, 0⟩] cs pos) 0 it acc { cenv with scope := relabel cs env }) (RR acc cenv.locals) s₄) E' s₃) E' s₂) E' s := by
  refine iter_ok S e hi hlen fun I oI₀ h₁ hI hk₁ gI iI => ?_
  refine wpAny_newObj_type (wpAny_newFunctionEnv O.nocell (by intro y hy; simp at hy) (fun h₂ hns₂ hsb₂ => ?_) O.kind)
  dsimp only at hns₂ hsb₂ ⊢
  generalize hH2 : h₁.push { cls := .type "list", dict := none, data := .seq ([] : List Value).toArray } = H2 at hns₂ hsb₂ ⊢
  have hC : H2.objs.size = h₁.objs.size + 1 := by rw [← hH2, Heap.size_push]
  have hIlt : I < h₁.objs.size := Heap.lt_size gI
  have hs1 : s.heap.objs.size < h₁.objs.size := Nat.lt_of_le_of_lt hI hIlt
  have hCs : s.heap.objs.size < H2.objs.size := by rw [hC]; exact Nat.lt_succ_of_lt hs1
  have hI2 : I < H2.objs.size := by rw [hC]; exact Nat.lt_succ_of_lt hIlt
  have hD2 : h₁.objs.size < H2.objs.size := by rw [hC]; exact Nat.lt_succ_self _
  obtain ⟨oL, _, _, gL, _⟩ := id S.fr.ns
  have hLlt : L < s.heap.objs.size := Heap.lt_size gL
  have hIC : I ≠ H2.objs.size := addr_ne hI2
  have hDI : h₁.objs.size ≠ I := addr_ne' hIlt
  have hDC : h₁.objs.size ≠ H2.objs.size := addr_ne hD2
  have hIL : I ≠ L := addr_ne' (Nat.lt_of_lt_of_le hLlt hI)
  have hDL : h₁.objs.size ≠ L := addr_ne' (Nat.lt_trans hLlt hs1)
  have hCL : H2.objs.size ≠ L := addr_ne' (Nat.lt_trans hLlt hCs)
  have old : ∀ b x, s.heap.get? b = some x → h₂.get? b = some x := fun b x ex =>
    hsb₂.extBut b x (addr_ne (Nat.lt_trans (Heap.lt_size (hk₁ b x ex)) hD2)) (Heap.get?_push_of_some _ (hH2 ▸ Heap.get?_push_of_some _ (hk₁ b x ex)))
  have gD : h₂.get? h₁.objs.size = some (listOf ([] : List Value).toArray 0) :=
    hsb₂.extBut _ _ hDC (Heap.get?_push_of_some _ (hH2 ▸ Heap.get?_push_size _ rfl))
  have gI₂ : h₂.get? I = some oI₀ := hsb₂.extBut _ _ hIC (Heap.get?_push_of_some _ (hH2 ▸ Heap.get?_push_of_some _ gI))
  have S₁ : St prog w ca B (setP P L oL) H2.objs.size (fun x => ([] : List (Str × Value)).reverse.lookup x) H h₂ := S.enter gL old (Nat.le_of_lt hCs) hns₂
  have S₂ : St prog w ca B (PB P L oL I oI₀ h₁.objs.size (listOf ([] : List Value).toArray 0)) H2.objs.size (fun x => ([] : List (Str × Value)).reverse.lookup x) H h₂ :=
    ((S₁.setP gI₂ (S.noH (get_of_none hI)) hIC).setP gD (S.noH (get_of_none (Nat.le_of_lt hs1))) hDC).subP fun b x ex => ex
  have BI : B.get? I = none := S.noB (get_of_none hI)
  have BD : B.get? h₁.objs.size = none := S.noB (get_of_none (Nat.le_of_lt hs1))
  have BC : B.get? H2.objs.size = none := S.noB (get_of_none (Nat.le_of_lt hCs))
  have PI : P I = none := S.noP (get_of_none hI)
  have PD : P h₁.objs.size = none := S.noP (get_of_none (Nat.le_of_lt hs1))
  have PC : P H2.objs.size = none := S.noP (get_of_none (Nat.le_of_lt hCs))
  have DB : Own B h₁.objs.size := own_of_ge (S.geB (Nat.le_of_lt hs1))
  have PBsub : ∀ (oI oD : Obj) b x, setP P L oL b = some x → PB P L oL I oI h₁.objs.size oD b = some x := fun oI oD b x ex => by
    unfold setP at ex
    unfold PB
    by_cases q : b = h₁.objs.size
    · rw [if_neg (by rw [q]; exact hDL), q, PD] at ex; cases ex
    · rw [if_neg q]
      by_cases q : b = I
      · rw [if_neg (by rw [q]; exact hIL), q, PI] at ex; cases ex
      · rw [if_neg q]; exact ex
  have Psub : ∀ (oI oD : Obj) b x, P b = some x → PB P L oL I oI h₁.objs.size oD b = some x := fun oI oD b x ex =>
    PBsub oI oD b x (by rw [setP_ne (fun q => by rw [q, S.offL] at ex; cases ex)]; exact ex)
  have PBD : ∀ oI oD, PB P L oL I oI h₁.objs.size oD h₁.objs.size = some oD := fun oI oD => by unfold PB; rw [if_pos rfl]
  have PBI : ∀ oI oD, PB P L oL I oI h₁.objs.size oD I = some oI := fun oI oD => by unfold PB; rw [if_neg (Ne.symm hDI), if_pos rfl]
  generalize hD : h₁.objs.size = D at *
  generalize hCC : H2.objs.size = C at *
  have loop : ∀ s₃ : Shared, s₃ = { s with heap := h₂, toks := s.toks + ([] : List (Str × Value)).length } →
      codeAny (model prog w) A (.compLoop (.ListComp elt [⟨.Name x px, iter, ifs, 0⟩] cs pos) 0 (.ref I) (.ref D) (compEnvC cs cl C env)) (RR (.ref D) C) s₃ := by
    rintro s₃ rfl
    refine codeAny_compLoop_tests
      (fun k s' => ∃ h' tk i ys vals H' mC oI nD, s' = { s with heap := h', toks := tk } ∧ k = items.length + 1 - i ∧ i ≤ items.length ∧ ItObj oI src o i ∧ vals.length ≤ i ∧ VRs ys vals ∧
        St prog w ca B (PB P L oL I oI D (listOf (List.toArray vals) nD)) C mC H' h' ∧ compA Bd src o (items.drop i) ys H' Φ) ?_ (items.length + 1)
      ⟨h₂, _, 0, [], [], H, _, oI₀, 0, rfl, rfl, Nat.zero_le _, iI, Nat.le_refl _, .nil, S₂, k⟩
    rintro k' s' ⟨h', tk, i, ys, vals, H₁, mC, oI, nD, rfl, rfl, hile, iI', hvl, rv, S', k'⟩
    by_cases hlt : i < items.length
    · obtain ⟨av, hav⟩ : ∃ av, items[i]? = some av := ⟨items[i], List.getElem?_eq_getElem hlt⟩
      have hdrop : items.drop i = av :: items.drop (i + 1) := by
        rw [List.drop_eq_getElem_cons hlt]
        rw [List.getElem?_eq_getElem hlt] at hav
        cases hav; rfl
      rw [hdrop] at k'
      unfold compA at k'
      obtain ⟨e', kb⟩ := k'
      refine next_item S' e' hi (PBI _ _) iI' hav fun v oI' h₃ tk₃ hv hk₃ gI' iI'' => ?_
      have S₃ : St prog w ca B (PB P L oL I oI' D (listOf (List.toArray vals) nD)) C mC H₁ h₃ := (S'.chP (PBI _ _) BI hk₃ gI').subP fun b x ex => by
        unfold PB at ex
        unfold setP PB
        by_cases q : b = I
        · subst q; rw [if_neg (Ne.symm hDI), if_pos rfl] at ex; rw [if_pos rfl]; exact ex
        · rw [if_neg q] at ex ⊢; rw [if_neg q]; exact ex
      refine wpAny_assign_Name (wpAny_storeName_local (lookup_relabel_local O.x) S₃.fr.ns (fun h₄ hn₄ hs₄ => ?_) (by simp [compEnvC, relabel, O.kind]))
      have S₄ := S₃.store hn₄ hs₄
      have E₄ : EnvR cs (compEnvC cs cl C env) (PB P L oL I oI' D (listOf (List.toArray vals) nD)) C (fun y => if y = x then some v else mC y) (setL loc x av) := E.comp O hcl (Psub _ _) hv
      refine wpAny_mono (hbody _ _ C _ H₁ { s with heap := h₄, toks := tk₃ + 1 } av _ E₄ S₄ kb) (fun ok s₅ h₅ => ?_) fun _ _ e => e.elim
      obtain ⟨h₅, tk₅, H₅, rfl, S₅, k₅⟩ := h₅
      cases ok with
      | false =>
        simp only [Bool.false_eq_true, if_false] at k₅ ⊢
        exact ⟨items.length + 1 - (i + 1), by omega, h₅, tk₅, i + 1, ys, vals, H₅, _, oI', nD, rfl, rfl, hlt, iI'', by omega, rv, S₅, k₅⟩
      | true =>
        simp only [if_true] at k₅ ⊢
        refine wpAny_mono k₅ (fun y s₆ h₆ => ?_) fun _ _ e => e.elim
        obtain ⟨h₆, tk₆, ya, H₆, rfl, S₆, ry, k₆⟩ := h₆
        refine append_at (hsz := by rw [List.size_toArray, sizeLine_eq]; omega) (S₆.keep D _ (PBD _ _)) fun h₇ hs₇ gD₇ => ?_
        have S₇ : St prog w ca B (PB P L oL I oI' D (listOf (List.toArray (vals ++ [y])) (nD + 1))) C (fun y => if y = x then some v else mC y) H₆ h₇ :=
          (S₆.chP (PBD _ _) BD (fun b x q ex => hs₇.extBut b x q ex) (o' := listOf (List.toArray (vals ++ [y])) (nD + 1)) (by rw [gD₇]; simp)).subP fun b x ex => by
            unfold PB at ex
            unfold setP PB
            by_cases q : b = D
            · subst q; rw [if_pos rfl] at ex ⊢; exact ex
            · rw [if_neg q] at ex ⊢; rw [if_neg q]; exact ex
        exact ⟨items.length + 1 - (i + 1), by omega, h₇, tk₆, i + 1, ys ++ [ya], vals ++ [y], H₆, _, oI', nD + 1, rfl, rfl, hlt, iI'', by rw [List.length_append, List.length_singleton]; omega, rv.append (.cons ry .nil), S₇, k₆⟩
    · have hdrop : items.drop i = [] := List.drop_eq_nil_of_le (by omega)
      rw [hdrop] at k'
      unfold compA at k'
      obtain ⟨e', kb⟩ := k'
      refine next_end hA S' e' hi (PBI _ _) iI' (by omega) fun h₃ hk₃ => ?_
      have S₃ := S'.rmP (PBI _ _) BI hk₃
      have S₄ : St prog w ca B P L m H₁ h₃ := S.leave gL S₃ fun b x ex => by
        unfold rmP
        rw [if_neg]
        · exact PBsub _ _ b x ex
        · intro q
          rw [q, setP_ne hIL, PI] at ex
          cases ex
      have gD₃ : h₃.get? D = some (listOf (List.toArray vals) nD) := S₃.keep D _ (by unfold rmP; rw [if_neg hDI]; exact PBD _ _)
      have hHD : H₁ D = none := by
        cases q : H₁ D with
        | none => rfl
        | some o =>
          have := (S'.rep D o q).1
          rw [PBD] at this; cases this
      have S₅ : St prog w ca B P L m (updH H₁ D (.list ys)) h₃ := S₄.step S₄.fr (fun b x _ _ ex => ex) PD hDL DB gD₃ (orel_list rv)
      have hHC : updH H₁ D (.list ys) C = none := by
        unfold updH
        rw [if_neg (Ne.symm hDC)]
        cases q : H₁ C with
        | none => rfl
        | some o => exact absurd rfl (S'.rep C o q).2.1
      exact hRR D C mC h₃ tk H₁ ys S₅ S₃.fr.ns PC hHC hCL BC (kb D hHD)
  exact codeAny_compStart_list (loop _ rfl) (iter_self gI₂ iI (loop _ rfl))
end
end
section
section
variable {prog : Program} {w : World} {K : Frag} {ca : CA} {T : FnId → Option FD} {B : Heap} {P P' : PH} {L : Addr} {m m' : Str → Option Value} {H H' : AH} {h h' : Heap} {A : Around} {s : Shared} {Φ : AV → AH → Prop}
  {sc cs : Scope} {env : Env} {loc : Loc} {G : GT} {d u : Nat}

theorem starEach_cons {e : Expr} {r : List Expr} (h : noStar e = true) : starEach (e :: r) env = (false, eval e env) :: starEach r env := by
  cases e <;> first | rfl | cases h
theorem star_plain {pos : Pos} : ∀ {es : List Expr}, es.all noStar = true → (backTo pos (starEach es env)).any (·.1) = false ∧ (backTo pos (starEach es env)).all (fun x => !x.1) = true
  | [], _ => ⟨rfl, rfl⟩
  | e :: r, h => by
    rw [List.all_cons, Bool.and_eq_true] at h
    rw [starEach_cons h.1]
    obtain ⟨h1, h2⟩ := star_plain (pos := pos) h.2
    unfold backTo at h1 h2 ⊢
    rw [List.map_cons, List.any_cons, List.all_cons, h1, h2]
    exact ⟨rfl, rfl⟩

theorem callWith_wp {X : Heap → Prop} {f : Value} {first : List Value} {args : List Expr} {pos : Pos} {Q E : Value → Shared → Prop} (hk : ∀ h, X h → ∃ k, (k = Keeper.frame ∨ k = Keeper.machine ∨ k = Keeper.boundFrame) ∧ Looks (model prog w) h (keeperOf f) k)
    (hp : args.all noStar = true) (h : (args = [] → X s.heap ∧ wpAny (model prog w) A (call f (first ++ [])) Q E s) ∧
      (args ≠ [] → wpAny (model prog w) A (spliced (backTo pos (starEach args env))) (fun vs s₁ => X s₁.heap ∧ wpAny (model prog w) A (call f (first ++ vs)) Q E s₁) E s)) :
    wpAny (model prog w) A (callWith pos f first (backTo pos (starEach args env)) []) Q E s := by
  refine callWith_of (P := X) ?_ hk ?_
  · rw [(star_plain hp).1]; rfl
  · cases args with
    | nil => exact evalArgs_nil3 (h.1 rfl)
    | cons e r =>
      have h2 := h.2 (by simp)
      rw [List.all_cons, Bool.and_eq_true] at hp
      rw [starEach_cons hp.1] at h2 ⊢
      exact evalArgs_plain h2

theorem base_eq {o : Expr} {n : Str} (h : baseOk o = true) (w' : Sem Value) : attributeBase o n env w' = w' := by
  cases o with
  | Call f args kws p =>
    cases f with
    | Name x q =>
      cases args with
      | nil =>
        cases kws with
        | nil => cases h
        | cons => rfl
      | cons => rfl
    | _ => rfl
  | _ => rfl

theorem mcall {o : Expr} {n : Str} {apos pos : Pos} {args : List Expr} {Q E : Value → Shared → Prop} (hb : baseOk o = true) (hl : (apos.endLine == pos.line) = true) (hn : args.length < 20) (hp : args.all noStar = true)
    (h : wpAny (model prog w) A (eval o env) (fun ov s₁ => ∀ pl : Sem Bool, wpAny (model prog w) A (getMethod ov n pl) (fun fr s₂ => wpAny (model prog w) A (callWith pos fr.1 fr.2 (backTo pos (starEach args env)) []) Q E s₂) E s₁) E s) :
    wpAny (model prog w) A (eval (.Call (.Attribute o n apos) args [] pos) env) Q E s := by
  rw [arm_eval_Call, base_eq hb]
  refine wpAny_bind (wpAny_mono h (fun ov s₁ h₁ => ?_) fun _ _ e => e)
  refine wpAny_bind (wpAny_standAt ?_)
  have hform : methodCallForm (args.length + ([] : List Keyword).length) (backTo pos (starEach args env)) (backToKw pos (keywordEach [] env)) = true := by
    unfold methodCallForm
    rw [(star_plain hp).2]
    show (true && true && decide (args.length + 0 + 0 < 30)) = true
    simp
    omega
  have hpos : methodCallPos true o env apos pos = pure pos := by unfold methodCallPos; simp [hl]
  unfold methodCall
  rw [hform]
  refine wpAny_bind (wpAny_holding ?_)
  unfold calleeOf
  rw [if_pos rfl]
  refine wpAny_mono (h₁ _) (fun fr s₂ h₂ => ?_) fun _ _ e => e
  exact wpAny_bind (wpAny_of_eq hpos h₂)

theorem meth_append {x : Addr} {l : List Value} {c : Nat} {pl : Sem Bool} {Q : Value × List Value → Shared → Prop} {E : Value → Shared → Prop} (g : s.heap.get? x = some (listOf l.toArray c)) (h : Q (.builtin "list.append", [.ref x]) s) :
    wpAny (model prog w) A (getMethod (.ref x) sAppend pl) Q E s :=
  getMethod_builtin ⟨_, g, rfl⟩ PySem.F.plainAttrs_list PySem.F.slot_list_append PySem.F.type_list_append (fun a e => by cases e; exact ⟨_, g, rfl⟩) h
theorem meth_pop {x : Addr} {l : List Value} {c : Nat} {pl : Sem Bool} {Q : Value × List Value → Shared → Prop} {E : Value → Shared → Prop} (g : s.heap.get? x = some (listOf l.toArray c)) (h : Q (.builtin "list.pop", [.ref x]) s) :
    wpAny (model prog w) A (getMethod (.ref x) sPop pl) Q E s :=
  getMethod_builtin ⟨_, g, rfl⟩ PySem.F.plainAttrs_list PySem.F.slot_list_pop PySem.F.type_list_pop (fun a e => by cases e; exact ⟨_, g, rfl⟩) h
theorem meth_get (S : St prog w ca B P L m H s.heap) {x : Addr} {es : List (Str × AV)} (e : H x = some (.dict es)) {pl : Sem Bool} {Q : Value × List Value → Shared → Prop} {E : Value → Shared → Prop} (h : Q (.builtin "dict.get", [.ref x]) s) :
    wpAny (model prog w) A (getMethod (.ref x) sGet pl) Q E s := by
  obtain ⟨o, ho, kvs, r1, r2⟩ := S.get e
  obtain ⟨_, d2, d3, _⟩ := S.rep x _ e
  exact kdg_method (h₀ := B) (L := L) (news := [(x, o)]) (fun p hp => by rw [List.mem_singleton.mp hp]; exact ⟨ho, d2, d3.1⟩) (.head _) r1 h
theorem shadow_of {od : Obj} {kvs : List (Str × Value)} (r : od.IsDictOf (PySem.strKind prog w) kvs) {n : Str} (h : valueAt kvs n = none) : shadowIn (some od) n = some false := by
  show (lookIn n od).map (·.isSome) = some false
  rw [lookIn_of r n, h]
  rfl
theorem meth_mat (C : SC prog w K ca T B) (S : St prog w ca B P L m H s.heap) {x dx : Addr} {es : List (Str × AV)} {n : Str} {fd : FD} {a : Addr} (e : H x = some (.inst .mat dx)) (e' : H dx = some (.dict es)) (hn : getL es n = none)
    (ha : findIn K (.ref (ca.of .mat)) n = some (some (.ref a))) (FO : FnObj prog w K a fd) {pl : Sem Bool} {Q : Value × List Value → Shared → Prop} {E : Value → Shared → Prop} (h : Q (.ref a, [.ref x]) s) :
    wpAny (model prog w) A (getMethod (.ref x) n pl) Q E s := by
  obtain ⟨od, kvs, hod, r1, r2, I⟩ := S.inst e e'
  have F := C.cl .mat
  exact method_fn (C.kin S) I F.ga F.gt ha FO.fn (shadow_of r1 ((kvs_get r2 n).2 hn)) h

theorem app_ok {x : Addr} {vs : List AV} {vals : List Value} (S : St prog w ca B P L m H s.heap) (r : VRs vs vals) (k : appA x vs H Φ) : wpAny (model prog w) A (call (.builtin "list.append") ([.ref x] ++ vals)) (EPost prog w ca B P L m Φ s) noE s := by
  unfold appA at k
  split at k
  · rename_i us e
    obtain ⟨l, c, hl, rl⟩ := S.list e
    split at k
    · rename_i v r
      obtain ⟨u, rfl, y⟩ := vrs_one r
      refine append_at (hsz := by rw [List.size_toArray, rl.length, sizeLine_eq]; omega) hl fun h' hs ho => ?_
      have ho' : h'.get? x = some (listOf (l ++ [u]).toArray (c + 1)) := by rw [ho]; simp
      exact EPost.mk' (S.updBut e hs ho' (orel_list (rl.append (.cons y .nil)))) .none k.2
    · exact k.elim
  · exact k.elim
theorem pop_ok {x : Addr} {vs : List AV} {vals : List Value} (S : St prog w ca B P L m H s.heap) (r : VRs vs vals) (k : popA x vs H Φ) : wpAny (model prog w) A (call (.builtin "list.pop") ([.ref x] ++ vals)) (EPost prog w ca B P L m Φ s) noE s := by
  unfold popA at k
  split at k
  · rename_i us e
    obtain ⟨l, c, hl, rl⟩ := S.list e
    obtain ⟨_, d2, d3, _⟩ := S.rep x _ e
    split at k
    · rename_i i r
      obtain ⟨rfl, h2, h3⟩ := k
      obtain ⟨u, rfl, y⟩ := vrs_one r
      cases y
      cases rl with
      | nil => exact h3.elim
      | @cons a v us' l' z rl =>
        obtain ⟨N, hN, hne, hm⟩ := S.allAt hl d2 d3.1
        refine kl_popAt (k := 0) (p := []) (q := l') (y := v) S.fr hN (by decide) (by rw [List.size_toArray]; exact seqIndex?_zero (by simp)) rfl (Upd.head hne) (by simp only [List.length_cons] at h2 ⊢; rw [sizeLine_eq, rl.length]; omega) fun h' F' N' => ?_
        exact EPost.mk' (S.upd F' e (keep_of_news S.fr F' N' hm) (N' _ (.head _)).1 (orel_list rl)) z h3
    · exact k.elim
  · exact k.elim
theorem get_ok {x : Addr} {vs : List AV} {vals : List Value} (C : SC prog w K ca T B) (S : St prog w ca B P L m H s.heap) (r : VRs vs vals) (k : getA x vs H Φ) : wpAny (model prog w) A (call (.builtin "dict.get") ([.ref x] ++ vals)) (EPost prog w ca B P L m Φ s) noE s := by
  unfold getA at k
  split at k
  · rename_i es e
    split at k
    · exact dictMeth_ok (n := sGet) C S e r (by rw [if_pos rfl]; exact k)
    · exact k.elim
  · exact k.elim
end
end
section
section
variable (prog : Program) (w : World) (K : Frag) (ca : CA) (T : FnId → Option FD) (B : Heap) (G : GT) (d u : Nat)
noncomputable def ExprOk (e : Expr) : Prop := ∀ (sc : Scope) (env : Env) (P : PH) (L : Addr) (m : Str → Option Value) (loc : Loc) (H : AH) (s : Shared) (A : Around) (Φ : AV → AH → Prop),
  EnvR sc env P L m loc → St prog w ca B P L m H s.heap → Room A (d + 1) (u + 100) → wpE G e sc loc H Φ → wpAny (model prog w) A (eval e env) (EPost prog w ca B P L m Φ s) noE s
noncomputable def ListOk (es : List Expr) : Prop := ∀ (sc : Scope) (env : Env) (P : PH) (L : Addr) (m : Str → Option Value) (loc : Loc) (H : AH) (s : Shared) (A : Around) (Φ : List AV → AH → Prop) (pos : Pos),
  EnvR sc env P L m loc → St prog w ca B P L m H s.heap → Room A (d + 1) (u + 100) → wpEs G es sc loc H Φ → wpAny (model prog w) A (spliced (backTo pos (starEach es env))) (LPost prog w ca B P L m Φ s) noE s
noncomputable def BoolOk (op : BoolOp) (es : List Expr) : Prop := ∀ (sc : Scope) (env : Env) (P : PH) (L : Addr) (m : Str → Option Value) (loc : Loc) (H : AH) (s : Shared) (A : Around) (Φ : AV → AH → Prop) (pos : Pos),
  EnvR sc env P L m loc → St prog w ca B P L m H s.heap → Room A (d + 1) (u + 100) → wpB G op es sc loc H Φ → wpAny (model prog w) A (eval (.BoolOp op es pos) env) (EPost prog w ca B P L m Φ s) noE s
noncomputable def TestOk (e : Expr) : Prop := ∀ (sc : Scope) (env : Env) (P : PH) (L : Addr) (m : Str → Option Value) (loc : Loc) (H : AH) (s : Shared) (A : Around) (Φ : Bool → AH → Prop),
  EnvR sc env P L m loc → St prog w ca B P L m H s.heap → Room A (d + 1) (u + 100) → wpT G e sc loc H (wpE G e sc loc H) Φ → wpAny (model prog w) A (isTrue e env (eval e env)) (BPost prog w ca B P L m Φ s) noE s
noncomputable def TestsOk (op : BoolOp) (es : List Expr) : Prop := ∀ (sc : Scope) (env : Env) (P : PH) (L : Addr) (m : Str → Option Value) (loc : Loc) (H : AH) (s : Shared) (A : Around) (Φ : Bool → AH → Prop),
  EnvR sc env P L m loc → St prog w ca B P L m H s.heap → Room A (d + 1) (u + 100) → wpTs G op es sc loc H Φ → wpAny (model prog w) A (allTrue op es env) (BPost prog w ca B P L m Φ s) noE s

structure IH (n : Nat) : Prop where
  e : ∀ x, sizeOf x < n → ExprOk prog w ca B G d u x
  es : ∀ xs, sizeOf xs < n → ListOk prog w ca B G d u xs
  b : ∀ op xs, sizeOf xs < n → BoolOk prog w ca B G d u op xs
  t : ∀ x, sizeOf x < n → TestOk prog w ca B G d u x
  ts : ∀ op xs, sizeOf xs < n → TestsOk prog w ca B G d u op xs
end

section
variable {prog : Program} {w : World} {K : Frag} {ca : CA} {T : FnId → Option FD} {B : Heap} {P P' : PH} {L : Addr} {m m' : Str → Option Value} {H H' : AH} {h h' : Heap} {A : Around} {s : Shared} {Φ : AV → AH → Prop}
  {sc cs : Scope} {env : Env} {loc : Loc} {G : GT} {d u n : Nat}

theorem ExprOk.go {e : Expr} {Q E' : Value → Shared → Prop} (x : ExprOk prog w ca B G d u e) (E : EnvR sc env P L m loc) (S : St prog w ca B P L m H s.heap) (R : Room A (d + 1) (u + 100)) (k : wpE G e sc loc H Φ)
    (h : ∀ h' tk av H' v, St prog w ca B P L m H' h' → VR av v → Φ av H' → Q v { s with heap := h', toks := tk }) : wpAny (model prog w) A (eval e env) Q E' s := then_ (x sc env P L m loc H s A Φ E S R k) h
theorem ListOk.go {es : List Expr} {Φ : List AV → AH → Prop} {pos : Pos} {Q : List Value → Shared → Prop} {E' : Value → Shared → Prop} (x : ListOk prog w ca B G d u es) (E : EnvR sc env P L m loc) (S : St prog w ca B P L m H s.heap) (R : Room A (d + 1) (u + 100)) (k : wpEs G es sc loc H Φ)
    (h : ∀ h' tk avs H' vs, St prog w ca B P L m H' h' → VRs avs vs → Φ avs H' → Q vs { s with heap := h', toks := tk }) : wpAny (model prog w) A (spliced (backTo pos (starEach es env))) Q E' s :=
  wpAny_mono (x sc env P L m loc H s A Φ pos E S R k) (fun v s₁ ⟨h', tk, av, H', e, S', r, k⟩ => by subst e; exact h h' tk av H' v S' r k) fun _ _ e => e.elim
theorem thenB {t : Sem Bool} {Q : Bool → Shared → Prop} {E' : Value → Shared → Prop} {Ψ : Bool → AH → Prop} (x : wpAny (model prog w) A t (BPost prog w ca B P L m Ψ s) noE s)
    (h : ∀ h' tk b H', St prog w ca B P L m H' h' → Ψ b H' → Q b { s with heap := h', toks := tk }) : wpAny (model prog w) A t Q E' s :=
  wpAny_mono x (fun b s₁ ⟨h', tk, H', e, S', k⟩ => by subst e; exact h h' tk b H' S' k) fun _ _ e => e.elim
theorem TestOk.go {e : Expr} {Φ : Bool → AH → Prop} {Q : Bool → Shared → Prop} {E' : Value → Shared → Prop} (x : TestOk prog w ca B G d u e) (E : EnvR sc env P L m loc) (S : St prog w ca B P L m H s.heap) (R : Room A (d + 1) (u + 100)) (k : wpT G e sc loc H (wpE G e sc loc H) Φ)
    (h : ∀ h' tk b H', St prog w ca B P L m H' h' → Φ b H' → Q b { s with heap := h', toks := tk }) : wpAny (model prog w) A (isTrue e env (eval e env)) Q E' s := thenB (x sc env P L m loc H s A Φ E S R k) h
theorem EnvR.monoP (E : EnvR sc env P L m loc) (hs : ∀ b o, P b = some o → P' b = some o) : EnvR sc env P' L m loc :=
  ⟨E.kind, E.glo, E.blt, E.lcl, E.gl, fun x av e hx => by
    obtain ⟨v, r, q⟩ := E.rd x av e hx
    exact ⟨v, r, q.imp id fun ⟨a, c, o, b, c', d⟩ => ⟨a, c, o, b, hs c o c', d⟩⟩, E.cl⟩

theorem cmp_at {op : CmpOp} {a b : AV} {va vb : Value} {Φ : Bool → Prop} (C : SC prog w K ca T B) (S : St prog w ca B P L m H s.heap) (R : Room A (d + 1) (u + 100)) (ra : VR a va) (rb : VR b vb) (k : cmpA op a b H Φ) :
    wpAny (model prog w) A (compareOp op va vb) (CPost Φ s) noE s := cmp_ok S C.mods ra rb (by have := R.un; omega) k

theorem test_of {e : Expr} (x : ExprOk prog w ca B G d u e) (he : ∀ env whole, isTrue e env whole = (do let v ← whole; standAt e.pos; holding [v] (truthy v)))
    (hw : ∀ sc loc H W Φ, wpT G e sc loc H W Φ = W fun v H₁ => (match v with | .bool b => Φ b H₁ | _ => False)) : TestOk prog w ca B G d u e := by
  intro sc env P L m loc H s A Φ E S R k
  rw [hw] at k
  refine isTrue_plain (x.go E S R k fun h' tk av H' v S' r k' => ?_) (he _ _)
  cases r with
  | bool b => exact wpAny_truthy_bool ⟨h', tk, H', rfl, S', k'⟩
  | _ => exact k'.elim

theorem compare_test {l r : Expr} {op : CmpOp} {p : Pos} (C : SC prog w K ca T B) (xl : ExprOk prog w ca B G d u l) (xr : ExprOk prog w ca B G d u r) : TestOk prog w ca B G d u (.Compare l [op] [r] p) := by
  intro sc env P L m loc H s A Φ E S R k
  obtain ⟨hs, k⟩ : noSet r = true ∧ wpE G l sc loc H fun a H₁ => wpE G r sc loc H₁ fun b H₂ => cmpA op a b H₂ fun c => Φ c H₂ := k
  refine wpAny_isTrue_Compare1 (xl.go E S R k fun h₁ tk₁ a H₁ va S₁ ra k₁ => xr.go E S₁ R k₁ fun h₂ tk₂ b H₂ vb S₂ rb k₂ => ?_) (by cases r <;> first | rfl | cases hs)
  refine wpAny_mono (cmp_at C (s := { s with heap := h₂, toks := tk₂ }) S₂ R ra rb k₂) (fun v s₃ hq => ?_) fun _ _ e => e.elim
  obtain ⟨tk, c, rfl, rfl, kc⟩ := hq
  exact wpAny_truthy_bool ⟨h₂, tk, H₂, rfl, S₂, kc⟩
theorem compare_val {l r : Expr} {op : CmpOp} {p : Pos} (C : SC prog w K ca T B) (xl : ExprOk prog w ca B G d u l) (xr : ExprOk prog w ca B G d u r) : ExprOk prog w ca B G d u (.Compare l [op] [r] p) := by
  intro sc env P L m loc H s A Φ E S R k
  obtain ⟨hs, k⟩ : noSet r = true ∧ wpE G l sc loc H fun a H₁ => wpE G r sc loc H₁ fun b H₂ => cmpA op a b H₂ fun c => Φ (.bool c) H₂ := k
  refine wpAny_Compare1 (xl.go E S R k fun h₁ tk₁ a H₁ va S₁ ra k₁ => xr.go E S₁ R k₁ fun h₂ tk₂ b H₂ vb S₂ rb k₂ => ?_) (by cases r <;> first | rfl | cases hs)
  refine wpAny_mono (cmp_at C (s := { s with heap := h₂, toks := tk₂ }) S₂ R ra rb k₂) (fun v s₃ hq => ?_) fun _ _ e => e.elim
  obtain ⟨tk, c, rfl, rfl, kc⟩ := hq
  exact ⟨h₂, tk, .bool c, H₂, rfl, S₂, .bool c, kc⟩

theorem list_nil : ListOk prog w ca B G d u [] := fun sc env P L m loc H s A Φ pos E S R k => wpAny_items_nil ⟨s.heap, s.toks, [], H, rfl, S, .nil, k⟩
theorem list_cons {e : Expr} {r : List Expr} (x : ExprOk prog w ca B G d u e) (xs : ListOk prog w ca B G d u r) : ListOk prog w ca B G d u (e :: r) := by
  intro sc env P L m loc H s A Φ pos E S R k
  have k' : wpE G e sc loc H fun v H₁ => wpEs G r sc loc H₁ fun vs H₂ => Φ (v :: vs) H₂ := k
  have hs : noStar e = true := by cases e <;> first | rfl | exact k'.elim
  exact wpAny_items_cons (x.go E S R k' fun h₁ tk₁ a H₁ va S₁ ra k₁ => xs.go E S₁ R k₁ fun h₂ tk₂ as H₂ vs S₂ rs k₂ => ⟨h₂, tk₂, a :: as, H₂, rfl, S₂, .cons ra rs, k₂⟩) (starEach_cons hs)

theorem bool_one {op : BoolOp} {e : Expr} (x : ExprOk prog w ca B G d u e) : BoolOk prog w ca B G d u op [e] := fun sc env P L m loc H s A Φ pos E S R k => BoolOp_one (x sc env P L m loc H s A Φ E S R k)
theorem bool_more {op : BoolOp} {e e' : Expr} {r : List Expr} (x : ExprOk prog w ca B G d u e) (xs : BoolOk prog w ca B G d u op (e' :: r)) : BoolOk prog w ca B G d u op (e :: e' :: r) := by
  intro sc env P L m loc H s A Φ pos E S R k
  cases op with
  | And =>
    refine BoolOp_and (x.go E S R k fun h₁ tk₁ a H₁ va S₁ ra k₁ => ?_)
    cases ra with
    | bool b =>
      refine wpAny_truthy_bool ?_
      cases b with
      | true => exact xs sc env P L m loc H₁ { s with heap := h₁, toks := tk₁ } A Φ pos E S₁ R k₁
      | false => exact ⟨h₁, tk₁, .bool false, H₁, rfl, S₁, .bool _, k₁⟩
    | _ => exact k₁.elim
  | Or =>
    refine BoolOp_or (x.go E S R k fun h₁ tk₁ a H₁ va S₁ ra k₁ => ?_)
    cases ra with
    | bool b =>
      refine wpAny_truthy_bool ?_
      cases b with
      | false => exact xs sc env P L m loc H₁ { s with heap := h₁, toks := tk₁ } A Φ pos E S₁ R k₁
      | true => exact ⟨h₁, tk₁, .bool true, H₁, rfl, S₁, .bool _, k₁⟩
    | _ => exact k₁.elim

theorem tests_and {e : Expr} {r : List Expr} (x : TestOk prog w ca B G d u e) (xs : TestsOk prog w ca B G d u .And r) : TestsOk prog w ca B G d u .And (e :: r) := by
  intro sc env P L m loc H s A Φ E S R k
  refine wpAny_allTrue_And_cons (x.go E S R k fun h₁ tk₁ b H₁ S₁ k₁ => ?_)
  cases b with
  | true => exact xs sc env P L m loc H₁ { s with heap := h₁, toks := tk₁ } A Φ E S₁ R k₁
  | false => exact ⟨h₁, tk₁, H₁, rfl, S₁, k₁⟩
theorem tests_or {e : Expr} {r : List Expr} (x : TestOk prog w ca B G d u e) (xs : TestsOk prog w ca B G d u .Or r) : TestsOk prog w ca B G d u .Or (e :: r) := by
  intro sc env P L m loc H s A Φ E S R k
  refine wpAny_allTrue_Or_cons (x.go E S R k fun h₁ tk₁ b H₁ S₁ k₁ => ?_)
  cases b with
  | false => exact xs sc env P L m loc H₁ { s with heap := h₁, toks := tk₁ } A Φ E S₁ R k₁
  | true => exact ⟨h₁, tk₁, H₁, rfl, S₁, k₁⟩
end
end
section
section
variable {prog : Program} {w : World} {K : Frag} {ca : CA} {T : FnId → Option FD} {B : Heap} {P P' : PH} {L : Addr} {m m' : Str → Option Value} {H H' : AH} {h h' : Heap} {A : Around} {s : Shared} {Φ : AV → AH → Prop}
  {sc cs : Scope} {env : Env} {loc : Loc} {G : GT} {d u n : Nat}

theorem args_call {X : Heap → Prop} {f : Value} {first : List Value} {args : List Expr} {pos : Pos} {Ψ : List AV → AH → Prop} {Q E' : Value → Shared → Prop} (hk : ∀ h, X h → ∃ k, (k = Keeper.frame ∨ k = Keeper.machine ∨ k = Keeper.boundFrame) ∧ Looks (model prog w) h (keeperOf f) k)
    (xs : ListOk prog w ca B G d u args) (E : EnvR sc env P L m loc) (S : St prog w ca B P L m H s.heap) (R : Room A (d + 1) (u + 100)) (hp : args.all noStar = true) (k : wpEs G args sc loc H Ψ)
    (hc : ∀ h' tk vs H' vals, St prog w ca B P L m H' h' → VRs vs vals → Ψ vs H' → X h' ∧ wpAny (model prog w) A (call f (first ++ vals)) Q E' { s with heap := h', toks := tk }) :
    wpAny (model prog w) A (callWith pos f first (backTo pos (starEach args env)) []) Q E' s := by
  refine callWith_wp hk hp ⟨fun e => ?_, fun _ => xs.go E S R k fun h₁ tk₁ as H₁ vs S₁ rs k₁ => hc h₁ tk₁ as H₁ vs S₁ rs k₁⟩
  subst e
  exact hc s.heap s.toks [] H [] S .nil k

theorem Room.call (R : Room A (d + 1) (u + 100)) : Room A (d + 1) (u + 2) := ⟨R.hd, R.dp, by have := R.un; omega⟩
theorem Room.plain (R : Room A (d + 1) (u + 100)) : Room A d u := ⟨R.hd, by have := R.dp; omega, by have := R.un; omega⟩

theorem call_name {f : Str} {fp pos : Pos} {args : List Expr} (C : SC prog w K ca T B) (D : Dom prog w K ca T) (SG : SoundG prog w K ca B T G d u) (xs : ListOk prog w ca B G d u args)
    (E : EnvR sc env P L m loc) (S : St prog w ca B P L m H s.heap) (R : Room A (d + 1) (u + 100)) (h1 : isGlob sc f = true) (h2 : knownF f = true) (h3 : args.all noStar = true) (k : wpEs G args sc loc H fun vs H₁ => callA G f vs H₁ Φ) :
    wpAny (model prog w) A (eval (.Call (.Name f fp) args [] pos) env) (EPost prog w ca B P L m Φ s) noE s := by
  obtain ⟨fv, g1, g2, g3⟩ := known_ok C D SG h2
  exact wpAny_Call_NameR (glob_ok C E S h1 g1 (args_call g2 xs E S R h3 k fun h₁ tk₁ as H₁ vs S₁ rs k₁ => ⟨C.kin S₁, g3 A P L m H₁ { s with heap := h₁, toks := tk₁ } as vs Φ R.call S₁ rs k₁⟩))

theorem call_isinst {f c : Str} {fp cp pos : Pos} {e : Expr} (C : SC prog w K ca T B) (x : ExprOk prog w ca B G d u e)
    (E : EnvR sc env P L m loc) (S : St prog w ca B P L m H s.heap) (R : Room A (d + 1) (u + 100)) (hf : f = sIsInst) (h1 : isGlob sc f = true) (h2 : isGlob sc c = true) (h3 : noStar e = true)
    (k : wpE G e sc loc H fun v H₁ => isInstA v c H₁ fun b => Φ (.bool b) H₁) :
    wpAny (model prog w) A (eval (.Call (.Name f fp) [e, .Name c cp] [] pos) env) (EPost prog w ca B P L m Φ s) noE s := by
  subst hf
  have b := C.bi sIsInst (.builtin "isinstance") (by decide +kernel)
  refine wpAny_Call_NameR (glob_ok C E S h1 (.inr b) (callWith_wp (X := fun _ => True) (fun h _ => built_keeper (f := sIsInst) (by decide +kernel) h) (by rw [List.all_cons, h3]; rfl) ⟨fun q => (by cases q), fun _ => ?_⟩))
  refine wpAny_items_cons (x.go E S R k fun h₁ tk₁ a H₁ va S₁ ra k₁ => ?_) (starEach_cons h3)
  obtain ⟨cv, hcv, hi⟩ := isInst_ok (A := A) (s := { s with heap := h₁, toks := tk₁ }) C S₁ ra k₁
  refine wpAny_items_cons (glob_ok (s := { s with heap := h₁, toks := tk₁ }) C E S₁ h2 hcv (wpAny_items_nil ⟨trivial, ?_⟩))
  refine wpAny_mono (hi _ rfl) (fun v s₃ hq => ?_) fun _ _ e => e.elim
  obtain ⟨tk, cc, rfl, rfl, kc⟩ := hq
  exact ⟨h₁, tk, .bool cc, H₁, rfl, S₁, .bool cc, kc⟩

theorem call_meth {o : Expr} {nm : Str} {ap pos : Pos} {args : List Expr} (C : SC prog w K ca T B) (D : Dom prog w K ca T) (SG : SoundG prog w K ca B T G d u) (xo : ExprOk prog w ca B G d u o) (xs : ListOk prog w ca B G d u args)
    (E : EnvR sc env P L m loc) (S : St prog w ca B P L m H s.heap) (R : Room A (d + 1) (u + 100)) (h1 : baseOk o = true) (h2 : (ap.endLine == pos.line) = true) (h3 : args.length < 20) (h4 : args.all noStar = true)
    (k : wpE G o sc loc H fun ov H₁ => methA G ov nm H₁ (wpEs G args sc loc H₁) Φ) :
    wpAny (model prog w) A (eval (.Call (.Attribute o nm ap) args [] pos) env) (EPost prog w ca B P L m Φ s) noE s := by
  refine mcall h1 h2 h3 h4 (xo.go E S R k fun h₁ tk₁ ov H₁ v S₁ rv k₁ pl => ?_)
  unfold methA at k₁
  cases rv with
  | ref x =>
    dsimp only at k₁
    split at k₁
    · rename_i us e
      obtain ⟨l, c, hl, rl⟩ := S₁.list e
      by_cases q : nm = sAppend
      · rw [if_pos q] at k₁
        subst q
        exact meth_append (s := { s with heap := h₁, toks := tk₁ }) hl (args_call (s := { s with heap := h₁, toks := tk₁ }) (X := fun _ => True) (fun h _ => ⟨.machine, .inr (.inl rfl), Looks.of_pure rfl⟩) xs E S₁ R h4 k₁ fun h₂ tk₂ as H₂ vs S₂ rs k₂ => ⟨trivial, app_ok S₂ rs k₂⟩)
      · rw [if_neg q] at k₁
        by_cases q : nm = sPop
        · rw [if_pos q] at k₁
          subst q
          exact meth_pop (s := { s with heap := h₁, toks := tk₁ }) hl (args_call (s := { s with heap := h₁, toks := tk₁ }) (X := fun _ => True) (fun h _ => ⟨.machine, .inr (.inl rfl), Looks.of_pure rfl⟩) xs E S₁ R h4 k₁ fun h₂ tk₂ as H₂ vs S₂ rs k₂ => ⟨trivial, pop_ok S₂ rs k₂⟩)
        · rw [if_neg q] at k₁; exact k₁.elim
    · rename_i es e
      by_cases q : nm = sGet
      · rw [if_pos q] at k₁
        subst q
        exact meth_get (s := { s with heap := h₁, toks := tk₁ }) S₁ e (args_call (s := { s with heap := h₁, toks := tk₁ }) (X := fun _ => True) (fun h _ => ⟨.machine, .inr (.inl rfl), Looks.of_pure rfl⟩) xs E S₁ R h4 k₁ fun h₂ tk₂ as H₂ vs S₂ rs k₂ => ⟨trivial, get_ok C S₂ rs k₂⟩)
      · rw [if_neg q] at k₁; exact k₁.elim
    · rename_i dx e
      obtain ⟨⟨es, e', hn, hm⟩, k₁⟩ := k₁
      obtain ⟨fd, hfd⟩ := D.meth nm hm
      obtain ⟨a, ha, FO⟩ := C.me .mat nm fd hfd
      refine meth_mat (s := { s with heap := h₁, toks := tk₁ }) C S₁ e e' hn ha FO (args_call (s := { s with heap := h₁, toks := tk₁ }) (X := K.In) (fun h X => keeps_K FO.keep h X) xs E S₁ R h4 k₁ fun h₂ tk₂ as H₂ vs S₂ rs k₂ => ⟨C.kin S₂, ?_⟩)
      exact wpAny_of_codeAny (SG (.meth .mat nm) a A P L m H₂ { s with heap := h₂, toks := tk₂ } (.ref x :: as) (.ref x :: vs) Φ (fun fd' e => by rw [hfd] at e; cases e; exact FO) R.plain S₂ (.cons (.ref x) rs) k₂)
    · exact k₁.elim
  | _ => exact k₁.elim

theorem dict_one {k : Str} {kd : Nat} {kp pos : Pos} {e : Expr} (x : ExprOk prog w ca B G d u e)
    (E : EnvR sc env P L m loc) (S : St prog w ca B P L m H s.heap) (R : Room A (d + 1) (u + 100)) (q : wpE G e sc loc H fun v H₁ => allocA H₁ (.dict [(k, v)]) Φ) :
    wpAny (model prog w) A (eval (.Dict [some (.Constant (.str k) kd kp)] [e] pos) env) (EPost prog w ca B P L m Φ s) noE s := by
  refine wpAny_Dict_pairs (knd := PySem.strKind prog w) (pairs := [(eval (.Constant (.str k) kd kp) env, do let x ← eval e env; standAt pos; pure x)]) rfl (by simp) (by simp) ?_
  have hH : H s.heap.objs.size = none := S.noH (get_of_none (Nat.le_refl _))
  have hP : P s.heap.objs.size = none := S.noP (get_of_none (Nat.le_refl _))
  have hL : s.heap.objs.size ≠ L := S.neL (get_of_none (Nat.le_refl _))
  have S₀ : St prog w ca B (setP P s.heap.objs.size emptyDict) L m H (s.heap.push emptyDict) := (S.more fun b o ex => Heap.get?_push_of_some _ ex).setP (Heap.get?_push_size _ rfl) hH hL
  have sub : ∀ b o, P b = some o → setP P s.heap.objs.size emptyDict b = some o := fun b o ex => by rw [setP_ne (fun q => by rw [q, hP] at ex; cases ex)]; exact ex
  refine evalPairs_cons (wpAny_Constant_str ?_)
  refine wpAny_bind (x.go (s := { s with heap := s.heap.push emptyDict, toks := s.toks + 1 }) (E.monoP sub) S₀ R q fun h₁ tk₁ a H₁ va S₁ ra k₁ => wpAny_bind (wpAny_standAt (wpAny_pure (evalPairs_nil ?_))))
  have gd : h₁.get? s.heap.objs.size = some emptyDict := S₁.keep _ _ setP_self
  refine ⟨[(k, va)], ⟨strKind_self k _, rfl, trivial⟩, ?_, fun h' hd hs => ?_⟩
  · obtain ⟨o, ho, r⟩ := Heap.dictOf_iff.mp (Heap.DictOf.new (knd := PySem.strKind prog w) s.heap)
    rw [Heap.get?_push_size _ rfl] at ho
    cases ho
    exact Heap.dictOf_iff.mpr ⟨_, gd, r⟩
  · have hH₁ : H₁ s.heap.objs.size = none := by
      cases q : H₁ s.heap.objs.size with
      | none => rfl
      | some o => have := (S₁.rep _ o q).1; rw [setP_self] at this; cases this
    have S₂ : St prog w ca B P L m H₁ h₁ := S₁.subP sub
    obtain ⟨o, ho, r⟩ := Heap.dictOf_iff.mp hd
    have S₃ : St prog w ca B P L m (updH H₁ s.heap.objs.size (.dict [(k, a)])) h' :=
      S₂.step ⟨S₂.fr.ns.sameBut hs (Ne.symm hL), fun b x ex => hs.extBut b x (fun q => by rw [q, S.noB (get_of_none (Nat.le_refl _))] at ex; cases ex) (S₂.fr.keep b x ex), S₂.fr.above⟩ (fun b x h0 _ ex => hs.extBut b x h0 ex) hP hL (own_of_ge (S.geB (Nat.le_refl _))) ho
        (orel_dict (kvs := [(k, va)]) r (.cons ra .nil))
    exact ⟨h', _, _, _, rfl, S₃, .ref _, k₁ _ hH₁⟩

end
end
section
section
variable {prog : Program} {w : World} {K : Frag} {ca : CA} {T : FnId → Option FD} {B : Heap} {P P' : PH} {L : Addr} {m m' : Str → Option Value} {H H' : AH} {h h' : Heap} {A : Around} {s : Shared} {Φ : AV → AH → Prop}
  {sc cs : Scope} {env : Env} {loc : Loc} {G : GT} {d u n : Nat}

theorem letGo_name {o : Expr} (h : isName o = true) : ∀ v r, letTemporaryGo o v r = pure () := by
  cases o <;> first | (intro _ _; rfl) | cases h
theorem le_line {n : Nat} (h : n ≤ 4096) : n ≤ 16777216 := Nat.le_trans h (by decide)
theorem pick_to (vals : List Value) (k : Int) (h : 0 ≤ k) : slicePick vals.toArray none (some k) none = (vals.take k.toNat).toArray := by
  have e : sliceBounds none (some k) none vals.toArray.size = (((0 : Nat) : Int), ((min k.toNat vals.toArray.size : Nat) : Int), 1) := by
    simp only [sliceBounds, Option.getD_none, show (1 : Int) > 0 by decide, if_true, if_neg (show ¬ (k < 0) by omega)]
    congr 1
    congr 1
    omega
  rw [kmk_pick_nat _ e]
  show (((vals.drop 0).take (min k.toNat vals.toArray.size - 0))).toArray = _
  rw [List.drop_zero, Nat.sub_zero, List.size_toArray, kmk_take_min]
theorem slice_push (S : St prog w ca B P L m H h) (sl : Obj) {vs : List AV} {vals : List Value} (r : VRs vs vals) :
    St prog w ca B P L m (updH H (h.objs.size + 1) (.list vs)) ((h.push sl).push { cls := .type "list", data := .seq vals.toArray }) := by
  have e : (h.push sl).objs.size = h.objs.size + 1 := Heap.size_push ..
  rw [← e]
  exact (S.more fun b o ex => Heap.get?_push_of_some _ ex).push (orel_list r)
theorem slice_no (S : St prog w ca B P L m H h) : H (h.objs.size + 1) = none := S.noH (get_of_none (Nat.le_succ _))

theorem slice_hi {o e : Expr} {p pos : Pos} (xo : ExprOk prog w ca B G d u o) (xe : ExprOk prog w ca B G d u e) : ExprOk prog w ca B G d u (.Subscript o (.Slice none (some e) none p) pos) := by
  intro sc env P L m loc H s A Φ E S R k
  obtain ⟨hn, k⟩ : isName o = true ∧ wpE G o sc loc H fun v H₁ => wpE G e sc loc H₁ fun k H₂ => sliceA v .none (some k) H₂ Φ := k
  refine wpAny_Subscript_list_slice (xo.go E S R k fun h₁ tk₁ a H₁ va S₁ ra k₁ => wpAny_pure (xe.go (s := { s with heap := h₁, toks := tk₁ }) E S₁ R k₁ fun h₂ tk₂ b H₂ vb S₂ rb k₂ => ?_)) (letGo_name hn)
  unfold sliceA at k₂
  cases ra with
  | ref x =>
    obtain ⟨vs, e', hl, k₂⟩ := k₂
    obtain ⟨vals, c, g, r⟩ := S₂.klist e'
    cases rb with
    | int i t =>
      obtain ⟨i0, i1, k₂⟩ := k₂
      refine ⟨x, vals.toArray, none, some i, rfl, isList_of (vs := []) g, by rw [List.size_toArray, r.length, sizeLine_eq]; omega, .none, .int i t, ?_⟩
      rw [pick_to vals i i0]
      exact ⟨_, _, _, _, rfl, slice_push S₂ _ (r.take _), .ref _, k₂ _ (slice_no S₂)⟩
    | _ => exact k₂.elim
  | _ => exact k₂.elim
theorem slice_lo {o e : Expr} {p pos : Pos} (xo : ExprOk prog w ca B G d u o) (xe : ExprOk prog w ca B G d u e) : ExprOk prog w ca B G d u (.Subscript o (.Slice (some e) none none p) pos) := by
  intro sc env P L m loc H s A Φ E S R k
  obtain ⟨hn, k⟩ : isName o = true ∧ wpE G o sc loc H fun v H₁ => wpE G e sc loc H₁ fun k H₂ => sliceA v (some k) .none H₂ Φ := k
  refine wpAny_Subscript_list_slice (xo.go E S R k fun h₁ tk₁ a H₁ va S₁ ra k₁ => xe.go (s := { s with heap := h₁, toks := tk₁ }) E S₁ R k₁ fun h₂ tk₂ b H₂ vb S₂ rb k₂ => wpAny_pure ?_) (letGo_name hn)
  unfold sliceA at k₂
  cases ra with
  | ref x =>
    obtain ⟨vs, e', hl, k₂⟩ := k₂
    obtain ⟨vals, c, g, r⟩ := S₂.klist e'
    cases rb with
    | int i t =>
      obtain ⟨i0, i1, k₂⟩ := k₂
      have hi : (i.toNat : Int) = i := Int.toNat_of_nonneg i0
      refine ⟨x, vals.toArray, some i, none, rfl, isList_of (vs := []) g, by rw [List.size_toArray, r.length, sizeLine_eq]; omega, .int i t, .none, ?_⟩
      have e2 : slicePick vals.toArray (some i) none none = (vals.drop i.toNat).toArray := by
        have q := slicePick_from vals.toArray i.toNat (by rw [List.size_toArray, r.length]; exact i1)
        rw [hi] at q
        exact q
      rw [e2]
      exact ⟨_, _, _, _, rfl, slice_push S₂ _ (r.drop _), .ref _, k₂ _ (slice_no S₂)⟩
    | _ => exact k₂.elim
  | _ => exact k₂.elim
theorem sub_val {o i : Expr} {pos : Pos} (C : SC prog w K ca T B) (xo : ExprOk prog w ca B G d u o) (xi : ExprOk prog w ca B G d u i) (hi : isSlice i = false) : ExprOk prog w ca B G d u (.Subscript o i pos) := by
  intro sc env P L m loc H s A Φ E S R k
  have k : wpE G o sc loc H fun a H₁ => wpE G i sc loc H₁ fun b H₂ => subA a b H₂ Φ := by
    cases i <;> first | exact k.2 | cases hi
  exact Subscript_ (xo.go E S R k fun h₁ tk₁ a H₁ va S₁ ra k₁ => xi.go (s := { s with heap := h₁, toks := tk₁ }) E S₁ R k₁ fun h₂ tk₂ b H₂ vb S₂ rb k₂ => sub_ok (s := { s with heap := h₂, toks := tk₂ }) C S₂ ra rb hi k₂)

theorem folded {iter : Expr} (h : noSet iter = true) : ∀ x, foldedSetIterable iter env x = pure x := by
  cases iter <;> first | (intro _; rfl) | cases h

theorem comp_eval {elt iter : Expr} {x : Str} {px pos : Pos} {ifs : List Expr} {Bd : Loc → AV → AH → (Option AV → AH → Prop) → Prop} (O : CompOk sc cs x) (xi : ExprOk prog w ca B G d u iter)
    (E : EnvR sc env P L m loc) (S : St prog w ca B P L m H s.heap) (R : Room A (d + 1) (u + 100))
    (k : wpE G iter sc loc H fun s H₁ => (match s with
      | .ref a => ∃ o items, H₁ a = some o ∧ itemsA o = some items ∧ items.length ≤ 4096 ∧ compA (fun v H₂ K => Bd (setL loc x v) v H₂ K) a o items [] H₁ Φ
      | _ => False))
    (hbody : ∀ cenv P' C m' H s loc' av K, EnvR cs cenv P' C m' loc' → St prog w ca B P' C m' H s.heap → Bd loc' av H K →
      wpAny (model prog w) A (tests ifs cenv) (fun ok s₃ => ∃ h' tk H', s₃ = { s with heap := h', toks := tk } ∧ St prog w ca B P' C m' H' h' ∧
        (if ok then wpAny (model prog w) A (eval elt cenv) (EPost prog w ca B P' C m' (fun y H'' => K (some y) H'') s₃) noE s₃ else K none H')) noE s) :
    wpAny (model prog w) A (eval (.ListComp elt [⟨.Name x px, iter, ifs, 0⟩] cs pos) env) (EPost prog w ca B P L m Φ s) noE s := by
  have hset : noSet iter = true := by cases iter <;> first | rfl | exact k.elim
  obtain ⟨cl, hcl, hcl'⟩ := closureFor_of (cs := cs) (env := env) fun p hp hf => (E.cl _ (O.free p hp hf)).2
  rw [arm_eval_ListComp]
  show wpAny _ _ (comprehension _ cs env _ (newList []) false (eval iter env) none) _ _ s
  refine wpAny_comprehension_free (g := ⟨.Name x px, iter, ifs, 0⟩) (gs := []) rfl (folded hset) hcl O.kind (fun y hy e => ?_) (xi.go E S R k fun h₁ tk₁ a H₁ va S₁ ra k₁ => ?_)
  · exact (O.only y hy e).1
  cases ra with
  | ref src =>
    obtain ⟨o, items, e, hi, hlen, kc⟩ := k₁
    refine comp_rule (s := { s with heap := h₁, toks := tk₁ }) E O hcl' R.hd S₁ e hi hlen kc (fun cenv P' C m' H s av K E' S' kb => hbody cenv P' C m' H s _ av K E' S' kb) fun D C mC h' tk H' ys S' ns hPC hHC hCL hBC kΦ => ?_
    exact ⟨mC, ns, fun h'' hs => ⟨h'', tk, .ref D, _, rfl, S'.but hPC hHC hCL hBC fun b x q ex => hs.extBut b x q ex, .ref D, kΦ⟩⟩
  | _ => exact k₁.elim

theorem comp_none {elt iter : Expr} {x : Str} {px pos : Pos} (xe : ExprOk prog w ca B G d u elt) (xi : ExprOk prog w ca B G d u iter) : ExprOk prog w ca B G d u (.ListComp elt [⟨.Name x px, iter, [], 0⟩] cs pos) := by
  intro sc env P L m loc H s A Φ E S R k
  obtain ⟨ho, k⟩ : compOk sc cs x = true ∧ _ := k
  refine comp_eval (Bd := fun l v H₂ K => wpE G elt cs l H₂ fun y H₃ => K (some y) H₃) (compOk_of ho) xi E S R k fun cenv P' C m' H s loc' av K E' S' kb => ?_
  exact wpAny_tests_nil ⟨s.heap, s.toks, H, rfl, S', by rw [if_pos rfl]; exact xe cs cenv P' C m' loc' H s A _ E' S' R kb⟩
theorem comp_one {elt iter c : Expr} {x : Str} {px pos : Pos} (xe : ExprOk prog w ca B G d u elt) (xi : ExprOk prog w ca B G d u iter) (xc : TestOk prog w ca B G d u c) : ExprOk prog w ca B G d u (.ListComp elt [⟨.Name x px, iter, [c], 0⟩] cs pos) := by
  intro sc env P L m loc H s A Φ E S R k
  obtain ⟨ho, k⟩ : compOk sc cs x = true ∧ _ := k
  refine comp_eval (Bd := fun l v H₂ K => wpT G c cs l H₂ (wpE G c cs l H₂) fun t H₃ => if t then wpE G elt cs l H₃ fun y H₄ => K (some y) H₄ else K .none H₃) (compOk_of ho) xi E S R k fun cenv P' C m' H s loc' av K E' S' kb => ?_
  refine wpAny_tests_one (xc.go E' S' R kb fun h₁ tk₁ b H₁ S₁ k₁ => ⟨h₁, tk₁, H₁, rfl, S₁, ?_⟩)
  cases b with
  | true =>
    rw [if_pos rfl] at k₁ ⊢
    exact xe cs cenv P' C m' loc' H₁ { s with heap := h₁, toks := tk₁ } A _ E' S₁ R k₁
  | false =>
    rw [if_neg (by decide)] at k₁ ⊢
    exact k₁

theorem attr_val {o : Expr} {nm : Str} {pos : Pos} (C : SC prog w K ca T B) (xo : ExprOk prog w ca B G d u o) : ExprOk prog w ca B G d u (.Attribute o nm pos) := by
  intro sc env P L m loc H s A Φ E S R k
  obtain ⟨hb, k⟩ : baseOk o = true ∧ wpE G o sc loc H fun v H₁ => attrA v nm H₁ Φ := k
  refine Attribute_any_ (xo.go E S R k fun h₁ tk₁ a H₁ va S₁ ra k₁ => attr_ok (s := { s with heap := h₁, toks := tk₁ }) C S₁ ra k₁) ?_
  rw [arm_eval_Attribute, base_eq hb]

theorem comp_more {elt : Expr} {g g' : Comprehension} {gs : List Comprehension} {p : Pos} (k : wpE G (.ListComp elt (g :: g' :: gs) cs p) sc loc H Φ) : False := by
  obtain ⟨tgt, iter, ifs, asy⟩ := g
  cases tgt <;> try exact k
  cases ifs with
  | nil => cases asy with
    | ofNat z => cases z <;> exact k
    | negSucc => exact k
  | cons c cs' => cases cs' with
    | nil => cases asy with
      | ofNat z => cases z <;> exact k
      | negSucc => exact k
    | cons => exact k
theorem call_kws {f : Expr} {args : List Expr} {kw : Keyword} {kws : List Keyword} {p : Pos} (k : wpE G (.Call f args (kw :: kws) p) sc loc H Φ) : False := by
  cases f <;> try exact k
  cases args with
  | nil => exact k
  | cons e args => cases args with
    | nil => exact k
    | cons e2 args =>
      cases args with
      | nil => cases e2 <;> exact k
      | cons => cases e2 <;> exact k
theorem sz_lt {a t n : Nat} (h : t < n + 1) (k : a < t) : a < n := Nat.lt_of_lt_of_le k (Nat.le_of_lt_succ h)
theorem at0 {a : Nat} : a < 1 + a := Nat.lt_add_of_pos_left Nat.one_pos
theorem up {a t b : Nat} (h : a < t) : a < t + b := Nat.lt_add_right b h
theorem mid {a t : Nat} (h : 0 < t) : a < t + a := Nat.lt_add_of_pos_left h
theorem hd_lt {α : Type} [SizeOf α] {e : α} {r : List α} : sizeOf e < sizeOf (e :: r) := by rw [List.cons.sizeOf_spec]; exact up at0
theorem tl_lt {α : Type} [SizeOf α] {e : α} {r : List α} : sizeOf r < sizeOf (e :: r) := by rw [List.cons.sizeOf_spec]; exact mid (up Nat.one_pos)
theorem comp_lt {iter : Expr} {t : Expr} {ifs : List Expr} {z : Nat} : sizeOf iter < sizeOf [Comprehension.mk t iter ifs z] ∧ sizeOf ifs < sizeOf [Comprehension.mk t iter ifs z] := by
  rw [List.cons.sizeOf_spec, Comprehension.mk.sizeOf_spec]
  omega
theorem no_e {x : Expr} (h : ∀ sc loc H Φ, ¬ wpE G x sc loc H Φ) : ExprOk prog w ca B G d u x := fun sc env P L m loc H s A Φ E S R k => (h sc loc H Φ k).elim
theorem no_t {x : Expr} (h : ∀ sc loc H Φ, ¬ wpT G x sc loc H (wpE G x sc loc H) Φ) : TestOk prog w ca B G d u x := fun sc env P L m loc H s A Φ E S R k => (h sc loc H Φ k).elim
theorem step_const {c : Const} {kd : Nat} {p : Pos} : ExprOk prog w ca B G d u (.Constant c kd p) := by
  cases c with
  | none => exact fun sc env P L m loc H s A Φ E S R k => wpAny_Constant_none (EPost.now S .none k)
  | bool b => exact fun sc env P L m loc H s A Φ E S R k => wpAny_Constant_bool (EPost.now S (.bool b) k)
  | int i => exact fun sc env P L m loc H s A Φ E S R k => wpAny_Constant_int (EPost.here S (.int i _) k)
  | str t => exact fun sc env P L m loc H s A Φ E S R k => wpAny_Constant_str (EPost.here S (.str t _) k)
  | _ => exact no_e fun _ _ _ _ k => k
theorem step_bin {l r : Expr} {op : Operator} {p : Pos} (xl : ExprOk prog w ca B G d u l) (xr : ExprOk prog w ca B G d u r) : ExprOk prog w ca B G d u (.BinOp l op r p) := fun sc env P L m loc H s A Φ E S R k =>
  wpAny_BinOp (xl.go E S R k fun h₁ tk₁ a H₁ va S₁ ra k₁ => xr.go (s := { s with heap := h₁, toks := tk₁ }) E S₁ R k₁ fun h₂ tk₂ b H₂ vb S₂ rb k₂ =>
      bin_ok (s := { s with heap := h₂, toks := tk₂ }) S₂ ra rb k₂)
theorem step_neg {y : Expr} {op : UnaryOp} {p : Pos} (xy : ExprOk prog w ca B G d u y) : ExprOk prog w ca B G d u (.UnaryOp op y p) := by
  cases op with
  | USub =>
    intro sc env P L m loc H s A Φ E S R k
    refine wpAny_UnaryOp (xy.go E S R k fun h₁ tk₁ a H₁ va S₁ ra k₁ => ?_)
    cases ra with
    | int i t => exact PyProof.Rows.neg_int ⟨_, _, _, _, rfl, S₁, .int _ _, k₁⟩
    | _ => exact k₁.elim
  | _ => exact no_e fun _ _ _ _ k => k
theorem step_if {t b o : Expr} {p : Pos} (xt : TestOk prog w ca B G d u t) (xb : ExprOk prog w ca B G d u b) (xo : ExprOk prog w ca B G d u o) : ExprOk prog w ca B G d u (.IfExp t b o p) := by
  intro sc env P L m loc H s A Φ E S R k
  refine wpAny_IfExp (xt.go E S R k fun h₁ tk₁ c H₁ S₁ k₁ => ?_)
  cases c with
  | true => exact xb sc env P L m loc H₁ { s with heap := h₁, toks := tk₁ } A Φ E S₁ R k₁
  | false => exact xo sc env P L m loc H₁ { s with heap := h₁, toks := tk₁ } A Φ E S₁ R k₁
theorem step_list {es : List Expr} {p : Pos} (x : ListOk prog w ca B G d u es) : ExprOk prog w ca B G d u (.List es p) := fun sc env P L m loc H s A Φ E S R k =>
  wpAny_List_spliced (x.go E S R k fun h₁ tk₁ as H₁ vs S₁ rs k₁ => ⟨by rw [rs.length, sizeLine_eq]; exact le_line k₁.1, _, _, _, _, rfl, S₁.push (orel_list rs), .ref _, allocA_at S₁ k₁.2⟩)
theorem step_tup {es : List Expr} {kd : Nat} {p : Pos} (x : ListOk prog w ca B G d u es) : ExprOk prog w ca B G d u (.Tuple es kd p) := fun sc env P L m loc H s A Φ E S R k =>
  wpAny_Tuple (x.go E S R k fun h₁ tk₁ as H₁ vs S₁ rs k₁ => ⟨by rw [rs.length, sizeLine_eq]; exact le_line k₁.1, _, _, _, _, rfl, S₁.push (orel_tup rs), .ref _, allocA_at S₁ k₁.2⟩)
theorem step_dict {ks : List (Option Expr)} {vs : List Expr} {p : Pos} (x : ∀ e, sizeOf e < sizeOf vs → ExprOk prog w ca B G d u e) : ExprOk prog w ca B G d u (.Dict ks vs p) := by
  cases ks with
  | nil =>
    cases vs with
    | nil => exact fun sc env P L m loc H s A Φ E S R k => wpAny_Dict_empty ⟨_, _, _, _, rfl, S.push orel_emptyDict, .ref _, allocA_at S k⟩
    | cons => exact no_e fun _ _ _ _ k => k
  | cons k0 ks =>
    cases k0 with
    | none => exact no_e fun _ _ _ _ k => k
    | some k0 =>
      cases k0 with
      | Constant c kd kp =>
        cases c with
        | str t =>
          cases ks with
          | nil =>
            cases vs with
            | nil => exact no_e fun _ _ _ _ k => k
            | cons e vs =>
              cases vs with
              | nil => exact fun sc env P L m loc H s A Φ E S R k => dict_one (x e hd_lt) E S R k
              | cons => exact no_e fun _ _ _ _ k => k
          | cons => exact no_e fun _ _ _ _ k => k
        | _ => exact no_e fun _ _ _ _ k => k
      | _ => exact no_e fun _ _ _ _ k => k
/-- the two kinds of comprehension that are met -/
theorem comp_form {elt : Expr} {gens : List Comprehension} {p : Pos} (k : wpE G (.ListComp elt gens cs p) sc loc H Φ) :
    (∃ y py iter, gens = [⟨.Name y py, iter, [], 0⟩]) ∨ ∃ y py iter c, gens = [⟨.Name y py, iter, [c], 0⟩] := by
  cases gens with
  | nil => exact k.elim
  | cons g gs =>
    cases gs with
    | cons => exact (comp_more k).elim
    | nil =>
      obtain ⟨tgt, iter, ifs, asy⟩ := g
      cases tgt with
      | Name y py =>
        cases ifs with
        | nil =>
          cases asy with
          | ofNat z =>
            cases z with
            | zero => exact .inl ⟨_, _, _, rfl⟩
            | succ => exact k.elim
          | negSucc => exact k.elim
        | cons c cs' =>
          cases cs' with
          | nil =>
            cases asy with
            | ofNat z =>
              cases z with
              | zero => exact .inr ⟨_, _, _, _, rfl⟩
              | succ => exact k.elim
            | negSucc => exact k.elim
          | cons => exact k.elim
      | _ => exact k.elim
theorem step_comp {elt : Expr} {gens : List Comprehension} {p : Pos} (xe : ExprOk prog w ca B G d u elt) (x : ∀ e, sizeOf e < sizeOf gens → ExprOk prog w ca B G d u e) (xt : ∀ e, sizeOf e < sizeOf gens → TestOk prog w ca B G d u e) : ExprOk prog w ca B G d u (.ListComp elt gens cs p) := by
  intro sc env P L m loc H s A Φ E S R k
  rcases comp_form k with ⟨y, py, iter, rfl⟩ | ⟨y, py, iter, c, rfl⟩
  · exact comp_none xe (x iter comp_lt.1) sc env P L m loc H s A Φ E S R k
  · exact comp_one xe (x iter comp_lt.1) (xt c (Nat.lt_trans hd_lt comp_lt.2)) sc env P L m loc H s A Φ E S R k
theorem step_cmp {l : Expr} {ops : List CmpOp} {rs : List Expr} {p : Pos} (C : SC prog w K ca T B) (xl : ExprOk prog w ca B G d u l) (x : ∀ e, sizeOf e < sizeOf rs → ExprOk prog w ca B G d u e) : ExprOk prog w ca B G d u (.Compare l ops rs p) := by
  cases ops with
  | nil => exact no_e fun _ _ _ _ k => k
  | cons op ops =>
    cases ops with
    | cons => exact no_e fun _ _ _ _ k => k
    | nil =>
      cases rs with
      | nil => exact no_e fun _ _ _ _ k => k
      | cons r rs =>
        cases rs with
        | cons => exact no_e fun _ _ _ _ k => k
        | nil => exact compare_val C xl (x r hd_lt)
theorem call_gen {fn : Str} {fp p : Pos} {args : List Expr} (C : SC prog w K ca T B) (D : Dom prog w K ca T) (SG : SoundG prog w K ca B T G d u) (xs : ListOk prog w ca B G d u args)
    (h : ∀ sc loc H Φ, wpE G (.Call (.Name fn fp) args [] p) sc loc H Φ → (isGlob sc fn && knownF fn && args.all noStar) = true ∧ (wpEs G args sc loc H fun vs H₁ => callA G fn vs H₁ Φ)) : ExprOk prog w ca B G d u (.Call (.Name fn fp) args [] p) := fun sc env P L m loc H s A Φ E S R k => by
  obtain ⟨q, k⟩ := h _ _ _ _ k
  simp only [Bool.and_eq_true] at q
  exact call_name C D SG xs E S R q.1.1 q.1.2 q.2 k
theorem step_name {fn : Str} {fp p : Pos} {args : List Expr} (C : SC prog w K ca T B) (D : Dom prog w K ca T) (SG : SoundG prog w K ca B T G d u) (xs : ListOk prog w ca B G d u args) (x : ∀ e, sizeOf e < sizeOf args → ExprOk prog w ca B G d u e) : ExprOk prog w ca B G d u (.Call (.Name fn fp) args [] p) := by
  cases args with
  | nil => exact call_gen C D SG xs fun _ _ _ _ k => k
  | cons e r =>
    cases r with
    | nil => exact call_gen C D SG xs fun _ _ _ _ k => k
    | cons e' r =>
      cases r with
      | cons => exact call_gen C D SG xs fun _ _ _ _ k => by cases e' <;> exact k
      | nil =>
        cases e' with
        | Name c cp =>
          intro sc env P L m loc H s A Φ E S R k
          obtain ⟨q, k⟩ := k
          simp only [Bool.and_eq_true, Bool.or_eq_true, decide_eq_true_eq] at q
          by_cases hf : fn = sIsInst
          · rw [if_pos hf] at k
            exact call_isinst C (x e hd_lt) E S R hf q.1.1 k.1 q.2 k.2
          · rw [if_neg hf] at k
            exact call_name C D SG xs E S R q.1.1 (q.1.2.resolve_left hf) (by rw [List.all_cons, q.2]; rfl) k
        | _ => exact call_gen C D SG xs fun _ _ _ _ k => k
theorem step_call {f : Expr} {p : Pos} {args : List Expr} {kws : List Keyword} (C : SC prog w K ca T B) (D : Dom prog w K ca T) (SG : SoundG prog w K ca B T G d u) (xs : ListOk prog w ca B G d u args) (x : ∀ e, sizeOf e < sizeOf args → ExprOk prog w ca B G d u e)
    (xf : ∀ e, sizeOf e < sizeOf f → ExprOk prog w ca B G d u e) : ExprOk prog w ca B G d u (.Call f args kws p) := by
  cases kws with
  | cons => exact no_e fun _ _ _ _ k => call_kws k
  | nil =>
    cases f with
    | Name fn fp => exact step_name C D SG xs x
    | Attribute o nm ap =>
      intro sc env P L m loc H s A Φ E S R k
      obtain ⟨q, k⟩ : (baseOk o && (ap.endLine == p.line) && decide (args.length < 20) && args.all noStar) = true ∧ wpE G o sc loc H fun ov H₁ => methA G ov nm H₁ (wpEs G args sc loc H₁) Φ := k
      simp only [Bool.and_eq_true, decide_eq_true_eq] at q
      exact call_meth C D SG (xf o (by rw [Expr.Attribute.sizeOf_spec]; exact up (up at0))) xs E S R q.1.1.1 q.1.1.2 q.1.2 q.2 k
    | _ => exact no_e fun _ _ _ _ k => k
theorem step_slice {lo hi' st : Option Expr} {o : Expr} {q p : Pos} (xo : ExprOk prog w ca B G d u o) (x : ∀ e, sizeOf e < sizeOf (Expr.Slice lo hi' st q) → ExprOk prog w ca B G d u e) : ExprOk prog w ca B G d u (.Subscript o (.Slice lo hi' st q) p) := by
  cases lo with
  | none =>
    cases hi' with
    | none => exact no_e fun _ _ _ _ k => absurd (show true = false from k.1) (by decide)
    | some e =>
      cases st with
      | some => exact no_e fun _ _ _ _ k => absurd (show true = false from k.1) (by decide)
      | none => exact slice_hi xo (x e (by rw [Expr.Slice.sizeOf_spec, Option.some.sizeOf_spec]; omega))
  | some e =>
    cases hi' with
    | some => exact no_e fun _ _ _ _ k => absurd (show true = false from k.1) (by decide)
    | none =>
      cases st with
      | some => exact no_e fun _ _ _ _ k => absurd (show true = false from k.1) (by decide)
      | none => exact slice_lo xo (x e (by rw [Expr.Slice.sizeOf_spec, Option.some.sizeOf_spec]; omega))
theorem step_sub {o i : Expr} {p : Pos} (C : SC prog w K ca T B) (xo : ExprOk prog w ca B G d u o) (xi : ExprOk prog w ca B G d u i) (x : ∀ e, sizeOf e < sizeOf i → ExprOk prog w ca B G d u e) : ExprOk prog w ca B G d u (.Subscript o i p) := by
  cases hi : isSlice i with
  | false => exact sub_val C xo xi hi
  | true =>
    cases i with
    | Slice lo hi' st q => exact step_slice xo x
    | _ => cases hi
theorem step_e (C : SC prog w K ca T B) (D : Dom prog w K ca T) (SG : SoundG prog w K ca B T G d u) (I : IH prog w ca B G d u n) : ∀ x, sizeOf x < n + 1 → ExprOk prog w ca B G d u x := by
  intro x hx
  cases x with
  | Constant c kd p => exact step_const
  | Name y p => exact fun sc env P L m loc H s A Φ E S R k => name_ok E S k.1 k.2.choose_spec.1 k.2.choose_spec.2
  | BoolOp op vs p =>
    rw [Expr.BoolOp.sizeOf_spec] at hx
    exact fun sc env P L m loc H s A Φ E S R k => I.b op vs (sz_lt hx (up (mid (up Nat.one_pos)))) sc env P L m loc H s A Φ p E S R k
  | BinOp l op r p =>
    rw [Expr.BinOp.sizeOf_spec] at hx
    exact step_bin (I.e l (sz_lt hx (up (up (up at0))))) (I.e r (sz_lt hx (up (mid (up (up Nat.one_pos))))))
  | UnaryOp op y p =>
    rw [Expr.UnaryOp.sizeOf_spec] at hx
    exact step_neg (I.e y (sz_lt hx (up (mid (up Nat.one_pos)))))
  | IfExp t b o p =>
    rw [Expr.IfExp.sizeOf_spec] at hx
    exact step_if (I.t t (sz_lt hx (up (up (up at0))))) (I.e b (sz_lt hx (up (up (mid (up Nat.one_pos)))))) (I.e o (sz_lt hx (up (mid (up (up Nat.one_pos))))))
  | List es p =>
    rw [Expr.List.sizeOf_spec] at hx
    exact step_list (I.es es (sz_lt hx (up at0)))
  | Tuple es kd p =>
    rw [Expr.Tuple.sizeOf_spec] at hx
    exact step_tup (I.es es (sz_lt hx (up (up at0))))
  | Dict ks vs p =>
    rw [Expr.Dict.sizeOf_spec] at hx
    exact step_dict fun e he => I.e e (sz_lt hx (Nat.lt_trans he (up (mid (up Nat.one_pos)))))
  | ListComp elt gens cs p =>
    rw [Expr.ListComp.sizeOf_spec] at hx
    exact step_comp (I.e elt (sz_lt hx (up (up (up at0))))) (fun e he => I.e e (sz_lt hx (Nat.lt_trans he (up (up (mid (up Nat.one_pos))))))) fun e he => I.t e (sz_lt hx (Nat.lt_trans he (up (up (mid (up Nat.one_pos))))))
  | Compare l ops rs p =>
    rw [Expr.Compare.sizeOf_spec] at hx
    exact step_cmp C (I.e l (sz_lt hx (up (up (up at0))))) fun e he => I.e e (sz_lt hx (Nat.lt_trans he (up (mid (up (up Nat.one_pos))))))
  | Call f args kws p =>
    rw [Expr.Call.sizeOf_spec] at hx
    exact step_call C D SG (I.es args (sz_lt hx (up (up (mid (up Nat.one_pos)))))) (fun e he => I.e e (sz_lt hx (Nat.lt_trans he (up (up (mid (up Nat.one_pos))))))) fun e he => I.e e (sz_lt hx (Nat.lt_trans he (up (up (up at0)))))
  | Attribute o nm p =>
    rw [Expr.Attribute.sizeOf_spec] at hx
    exact attr_val C (I.e o (sz_lt hx (up (up at0))))
  | Subscript o i p =>
    rw [Expr.Subscript.sizeOf_spec] at hx
    exact step_sub C (I.e o (sz_lt hx (up (up at0)))) (I.e i (sz_lt hx (up (mid (up Nat.one_pos))))) fun e he => I.e e (sz_lt hx (Nat.lt_trans he (up (mid (up Nat.one_pos)))))
  | _ => exact no_e fun _ _ _ _ k => k
theorem test_cmp {l : Expr} {ops : List CmpOp} {rs : List Expr} {p : Pos} (C : SC prog w K ca T B) (xl : ExprOk prog w ca B G d u l) (x : ∀ e, sizeOf e < sizeOf rs → ExprOk prog w ca B G d u e) : TestOk prog w ca B G d u (.Compare l ops rs p) := by
  cases ops with
  | nil => exact no_t fun _ _ _ _ k => k
  | cons op ops =>
    cases ops with
    | cons => exact no_t fun _ _ _ _ k => k
    | nil =>
      cases rs with
      | nil => exact no_t fun _ _ _ _ k => k
      | cons r rs =>
        cases rs with
        | cons => exact no_t fun _ _ _ _ k => k
        | nil => exact compare_test C xl (x r hd_lt)
theorem step_t (C : SC prog w K ca T B) (I : IH prog w ca B G d u n) (xe : ∀ x, sizeOf x < n + 1 → ExprOk prog w ca B G d u x) : ∀ x, sizeOf x < n + 1 → TestOk prog w ca B G d u x := by
  intro x hx
  cases x with
  | UnaryOp op y p =>
    cases op with
    | Not =>
      rw [Expr.UnaryOp.sizeOf_spec] at hx
      exact fun sc env P L m loc H s A Φ E S R k => wpAny_isTrue_Not ((I.t y (sz_lt hx (up (mid (up Nat.one_pos))))).go E S R k fun h₁ tk₁ b H₁ S₁ k₁ => ⟨h₁, tk₁, H₁, rfl, S₁, k₁⟩)
    | _ => exact test_of (xe _ hx) (fun _ _ => rfl) (fun _ _ _ _ _ => rfl)
  | BoolOp op vs p =>
    rw [Expr.BoolOp.sizeOf_spec] at hx
    exact fun sc env P L m loc H s A Φ E S R k => wpAny_isTrue_BoolOp (I.ts op vs (sz_lt hx (up (mid (up Nat.one_pos)))) sc env P L m loc H s A Φ E S R k)
  | IfExp t b o p => exact no_t fun _ _ _ _ k => k
  | Compare l ops rs p =>
    rw [Expr.Compare.sizeOf_spec] at hx
    exact test_cmp C (I.e l (sz_lt hx (up (up (up at0))))) fun e he => I.e e (sz_lt hx (Nat.lt_trans he (up (mid (up (up Nat.one_pos))))))
  | _ => exact test_of (xe _ hx) (fun _ _ => rfl) (fun _ _ _ _ _ => rfl)

theorem step_es (I : IH prog w ca B G d u n) : ∀ xs, sizeOf xs < n + 1 → ListOk prog w ca B G d u xs := by
  intro xs hx
  cases xs with
  | nil => exact list_nil
  | cons e r => exact list_cons (I.e e (sz_lt hx hd_lt)) (I.es r (sz_lt hx tl_lt))
theorem step_b (I : IH prog w ca B G d u n) : ∀ op xs, sizeOf xs < n + 1 → BoolOk prog w ca B G d u op xs := by
  intro op xs hx
  cases xs with
  | nil => exact fun sc env P L m loc H s A Φ pos E S R k => k.elim
  | cons e r =>
    cases r with
    | nil => exact bool_one (I.e e (sz_lt hx hd_lt))
    | cons e' r => exact bool_more (I.e e (sz_lt hx hd_lt)) (I.b op (e' :: r) (sz_lt hx tl_lt))
theorem step_ts (I : IH prog w ca B G d u n) : ∀ op xs, sizeOf xs < n + 1 → TestsOk prog w ca B G d u op xs := by
  intro op xs hx
  cases xs with
  | nil =>
    intro sc env P L m loc H s A Φ E S R k
    cases op with
    | And => exact wpAny_allTrue_And_nil ⟨s.heap, s.toks, H, rfl, S, k⟩
    | Or => exact wpAny_allTrue_Or_nil ⟨s.heap, s.toks, H, rfl, S, k⟩
  | cons e r =>
    cases op with
    | And => exact tests_and (I.t e (sz_lt hx hd_lt)) (I.ts .And r (sz_lt hx tl_lt))
    | Or => exact tests_or (I.t e (sz_lt hx hd_lt)) (I.ts .Or r (sz_lt hx tl_lt))

theorem all_e (C : SC prog w K ca T B) (D : Dom prog w K ca T) (SG : SoundG prog w K ca B T G d u) : ∀ n, IH prog w ca B G d u n := by
  intro n
  induction n with
  | zero => exact ⟨fun x h => absurd h (Nat.not_lt_zero _), fun x h => absurd h (Nat.not_lt_zero _), fun _ x h => absurd h (Nat.not_lt_zero _), fun x h => absurd h (Nat.not_lt_zero _), fun _ x h => absurd h (Nat.not_lt_zero _)⟩
  | succ n I =>
    have xe := step_e C D SG I
    exact ⟨xe, step_es I, step_b I, step_t C I xe, step_ts I⟩
theorem expr_ok (C : SC prog w K ca T B) (D : Dom prog w K ca T) (SG : SoundG prog w K ca B T G d u) (e : Expr) : ExprOk prog w ca B G d u e := (all_e C D SG (sizeOf e + 1)).e e (Nat.lt_succ_self _)
theorem test_ok (C : SC prog w K ca T B) (D : Dom prog w K ca T) (SG : SoundG prog w K ca B T G d u) (e : Expr) : TestOk prog w ca B G d u e := (all_e C D SG (sizeOf e + 1)).t e (Nat.lt_succ_self _)
end
end
section
structure FR (sc : Scope) (env : Env) (B : Heap) (P₀ P : PH) : Prop where
  sub : ∀ b o, P₀ b = some o → P b = some o
  off : ∀ x c, env.cells.lookup x = some c → P₀ c = none
  cell : ∀ x c, env.cells.lookup x = some c → B.get? c = none ∧ ∃ o v, P c = some o ∧ o.data = .cell v
  apart : ∀ x y c, env.cells.lookup x = some c → env.cells.lookup y = some c → x = y
  lc : ∀ x, sc.names.lookup x = some .local → env.kindOf x = some .local

inductive FV : AF → Flow → Prop
  | next : FV .next .next
  | brk : FV .brk .brk
  | cont : FV .cont .cont
  | ret {a v} : VR a v → FV (.ret a) (.ret v)

noncomputable def SPost (prog : Program) (w : World) (ca : CA) (B : Heap) (L : Addr) (sc : Scope) (env : Env) (P₀ : PH) (Φ : AF → Loc → AH → Prop) (s : Shared) (f : Flow) (s' : Shared) : Prop :=
  ∃ h' tk P' m' loc' H' af, s' = { s with heap := h', toks := tk } ∧ EnvR sc env P' L m' loc' ∧ FR sc env B P₀ P' ∧ St prog w ca B P' L m' H' h' ∧ FV af f ∧ Φ af loc' H'

section
variable {prog : Program} {w : World} {K : Frag} {ca : CA} {T : FnId → Option FD} {B : Heap} {P P' P₀ : PH} {L : Addr} {m m' : Str → Option Value} {H H' : AH} {h h' : Heap} {A : Around} {s : Shared} {Φ : AV → AH → Prop}
  {sc cs : Scope} {env : Env} {loc loc' : Loc} {G : GT} {d u n : Nat}

theorem EnvR.weaken (E : EnvR sc env P L m loc) (h : LocLe loc' loc) : EnvR sc env P L m loc' :=
  ⟨E.kind, E.glo, E.blt, E.lcl, E.gl, fun x av e hx => E.rd x av (h x av e) hx, E.cl⟩
theorem EnvR.offP (E : EnvR sc env P L m loc) (hs : ∀ x c, env.cells.lookup x = some c → ∀ o, P c = some o → P' c = some o) : EnvR sc env P' L m loc :=
  ⟨E.kind, E.glo, E.blt, E.lcl, E.gl, fun x av e hx => by
    obtain ⟨v, r, q⟩ := E.rd x av e hx
    exact ⟨v, r, q.imp id fun ⟨a, c, o, b, c', d⟩ => ⟨a, c, o, b, hs x c b o c', d⟩⟩, E.cl⟩
theorem FR.offP (F : FR sc env B P₀ P) (hs : ∀ x c, env.cells.lookup x = some c → ∀ o, P c = some o → P' c = some o) (h0 : ∀ b o, P₀ b = some o → P' b = some o) : FR sc env B P₀ P' :=
  ⟨h0, F.off, fun x c e => by obtain ⟨h1, o, v, h2, h3⟩ := F.cell x c e; exact ⟨h1, o, v, hs x c e o h2, h3⟩, F.apart, F.lc⟩

theorem getL_some_setL {x : Str} {av : AV} {y : Str} {v : AV} (e : getL (setL loc x av) y = some v) : (y = x ∧ v = av) ∨ (y ≠ x ∧ getL loc y = some v) := by
  rw [getL_setL] at e
  by_cases q : y = x
  · rw [if_pos q] at e; cases e; exact .inl ⟨q, rfl⟩
  · rw [if_neg q] at e; exact .inr ⟨q, e⟩

theorem store_local {x : Str} {v : Value} {av : AV} {Q : Unit → Shared → Prop} {E' : Value → Shared → Prop} (E : EnvR sc env P L m loc) (F : FR sc env B P₀ P) (S : St prog w ca B P L m H s.heap)
    (hk : env.kindOf x = some .local) (hv : VR av v)
    (k : ∀ h' tk m', EnvR sc env P L m' (setL loc x av) → St prog w ca B P L m' H h' → Heap.SameBut L s.heap h' → Q () { s with heap := h', toks := tk }) : wpAny (model prog w) A (storeName env x v) Q E' s := by
  refine wpAny_storeName_local hk (by rw [E.lcl]; exact S.fr.ns) (fun h' hn hs => ?_) (by rw [E.kind]; rfl)
  rw [E.lcl] at hn hs
  refine k h' _ _ ⟨E.kind, E.glo, E.blt, E.lcl, E.gl, fun y av' e hy => ?_, E.cl⟩ (S.store hn hs) hs
  rcases getL_some_setL e with ⟨rfl, rfl⟩ | ⟨q, e⟩
  · exact ⟨v, hv, .inl ⟨hk, by simp⟩⟩
  · obtain ⟨v', r, z⟩ := E.rd y av' e hy
    exact ⟨v', r, z.imp (fun ⟨a, b⟩ => ⟨a, by simp [q, b]⟩) id⟩

theorem store_ok {x : Str} {v : Value} {av : AV} {Q : Unit → Shared → Prop} {E' : Value → Shared → Prop} (E : EnvR sc env P L m loc) (F : FR sc env B P₀ P) (S : St prog w ca B P L m H s.heap)
    (hx : isStore sc x = true) (hv : VR av v)
    (k : ∀ h' tk P' m', EnvR sc env P' L m' (setL loc x av) → FR sc env B P₀ P' → St prog w ca B P' L m' H h' → Q () { s with heap := h', toks := tk }) : wpAny (model prog w) A (storeName env x v) Q E' s := by
  unfold isStore at hx
  rw [Bool.and_eq_true] at hx
  obtain ⟨hx, _⟩ := hx
  split at hx
  · rename_i q
    exact store_local E F S (F.lc x q) hv fun h' tk m' E₁ S₁ _ => k h' tk P m' E₁ F S₁
  · rename_i q
    obtain ⟨hk, c, hc⟩ := E.cl x q
    obtain ⟨hB, o, v₀, ho, hd⟩ := F.cell x c hc
    refine wpAny_storeName_cell E.kind hk hc ⟨o, S.keep c o ho, hd⟩ fun h' hv' hs => ?_
    obtain ⟨o', ho', hd'⟩ := hv'
    have S₁ := S.chP ho hB (fun b x q ex => hs.extBut b x q ex) ho'
    refine k h' s.toks (setP P c o') m ⟨E.kind, E.glo, E.blt, E.lcl, E.gl, fun y av' e hy => ?_, E.cl⟩ ⟨fun b ob e => ?_, F.off, fun y c' hc' => ?_, F.apart, F.lc⟩ S₁
    · rcases getL_some_setL e with ⟨rfl, rfl⟩ | ⟨q, e⟩
      · exact ⟨v, hv, .inr ⟨hk, c, o', hc, setP_self, hd'⟩⟩
      · obtain ⟨v', r, z⟩ := E.rd y av' e hy
        refine ⟨v', r, z.imp id fun ⟨a, c', o'', b, p, dd⟩ => ⟨a, c', o'', b, ?_, dd⟩⟩
        rw [setP_ne (fun (z : c' = c) => q (F.apart y x c (by rw [← z]; exact b) hc))]
        exact p
    · rw [setP_ne (fun z => by rw [z, F.off x c hc] at e; cases e)]
      exact F.sub b ob e
    · obtain ⟨h1, o'', v'', h2, h3⟩ := F.cell y c' hc'
      by_cases q : c' = c
      · subst q; exact ⟨h1, o', _, setP_self, hd'⟩
      · exact ⟨h1, o'', v'', by rw [setP_ne q]; exact h2, h3⟩
  · cases hx

theorem setL_comm {x y : Str} {a b : AV} (h : x ≠ y) : LocLe (setL (setL loc x a) y b) (setL (setL loc y b) x a) := fun z v e => by
  rw [getL_setL, getL_setL] at e ⊢
  by_cases q : z = x
  · rw [if_pos q]
    rw [if_neg (fun q' => h (q.symm.trans q')), if_pos q] at e
    exact e
  · rw [if_neg q]
    rw [if_neg q] at e
    exact e

/-- unpacking a list -/
theorem draw_list {it t : Addr} {items : Array Value} (hne : t ≠ it) : ∀ (n i : Nat) (s : Shared) (Q : List Value → Shared → Prop) {E : Value → Shared → Prop}, s.heap.IsListIter it t i → s.heap.IsList t items → i + n ≤ items.size →
    (∀ h', h'.IsListIter it t (i + n) → Heap.SameBut it s.heap h' → Q ((items.toList.drop i).take n) { s with heap := h' }) → wpAny (model prog w) A (draw (.ref it) n) Q E s
  | 0, i, s, Q, _, hit, _, _, hQ => by
    show wpAny _ _ (pure []) Q _ s
    exact wpAny_pure (by simpa using hQ s.heap hit (Heap.SameBut.refl ..))
  | n + 1, i, s, Q, _, hit, ht, hle, hQ => by
    have hlt : i < items.size := by omega
    show wpAny _ _ (pyNext (.ref it) >>= _) Q _ s
    refine wpAny_bind (wpAny_pyNext_list_item hit ht (x := items[i]) (by simp [hlt]) fun h₁ hit₁ hs₁ => ?_)
    refine wpAny_bind (wpAny_holding (draw_list hne n (i + 1) _ _ hit₁ (ht.extBut hs₁.extBut hne) (by omega) fun h₂ hit₂ hs₂ => wpAny_pure ?_))
    have hd : items.toList.drop i = items[i] :: items.toList.drop (i + 1) := by simp [List.drop_eq_getElem_cons, hlt]
    have := hQ h₂ (by rw [show i + (n + 1) = i + 1 + n by omega]; exact hit₂) (hs₁.trans hs₂)
    rw [hd, List.take_succ_cons] at this
    exact this
theorem unpackItems_list {t : Addr} {items : Array Value} {Q : List Value → Shared → Prop} {E : Value → Shared → Prop} (hh : A.handled = none) (ht : s.heap.IsList t items)
    (hQ : ∀ h', Heap.ExtBut s.heap.objs.size s.heap h' → Q items.toList { s with heap := h' }) : wpAny (model prog w) A (unpackItems (.ref t) items.size none) Q E s := by
  have hlt : t ≠ s.heap.objs.size := by obtain ⟨o, ho, _⟩ := ht; exact Nat.ne_of_lt (Heap.lt_size ho)
  unfold unpackItems
  refine wpAny_bind ?_
  · unfold notIterableAtAll
    refine wpAny_bind (wpAny_specialOf ht.typeIs slot_list_iter.lookup ?_)
    refine wpAny_pure ?_
    simp only [Bool.false_eq_true, if_false]
    refine wpAny_bind (wpAny_holding (wpAny_pyIter_list ht ?_))
    refine wpAny_bind (wpAny_holding (draw_list hlt items.size 0 _ _ ⟨_, Heap.get?_push_size _ rfl, rfl, rfl⟩ (ht.push _) (by omega) fun h₁ hit₁ hs₁ => ?_))
    have hall : List.take items.size (List.drop 0 items.toList) = items.toList := by
      rw [List.drop_zero]; exact List.take_of_length_le (by simp)
    rw [hall]
    rw [if_neg (by simp)]
    have ht₁ : h₁.IsList t items := (ht.push _).extBut hs₁.extBut hlt
    refine wpAny_bind (wpAny_holding (wpAny_pyNext_list_end hh hit₁ ht₁ (by simp) fun h₂ he₂ => ?_))
    simp only [Option.isSome_none, Bool.false_eq_true, if_false]
    refine wpAny_pure (hQ h₂ fun b o hb e => he₂ b o hb (hs₁.extBut b o hb (Heap.get?_push_of_some _ e)))
theorem St.extNew (S : St prog w ca B P L m H h) (hk : Heap.ExtBut h.objs.size h h') : St prog w ca B P L m H h' :=
  S.more fun b x ex => hk b x (Nat.ne_of_lt (Heap.lt_size ex)) ex
theorem unpack_ok {v : AV} {vv : Value} {n : Nat} {Ψ : List AV → Prop} {Q : List Value → Shared → Prop} {E' : Value → Shared → Prop} (hh : A.handled = none) (S : St prog w ca B P L m H s.heap) (r : VR v vv) (k : unpackA v n H Ψ)
    (hQ : ∀ h' vs vals, St prog w ca B P L m H h' → VRs vs vals → vs.length = n → Ψ vs → Q vals { s with heap := h' }) : wpAny (model prog w) A (unpackItems vv n none) Q E' s := by
  unfold unpackA at k
  cases r <;> first | exact k.elim | skip
  dsimp only at k
  split at k
  · rename_i vs e
    obtain ⟨hn, k⟩ := k
    obtain ⟨vals, c, g, rv⟩ := S.list e
    have hs : vals.toArray.size = n := by rw [List.size_toArray, rv.length, hn]
    rw [← hs]
    exact unpackItems_list hh (isList_of (vs := vs) g) fun h' he => hQ h' vs vals (S.extNew he) rv hn k
  · rename_i vs e
    obtain ⟨hn, k⟩ := k
    obtain ⟨vals, c, g, rv⟩ := S.tup e
    have hs : vals.toArray.size = n := by rw [List.size_toArray, rv.length, hn]
    rw [← hs]
    exact unpackItems_tuple hh (isTup_of g) fun h' he => hQ h' vs vals (S.extNew he) rv hn k
  · exact k.elim
end
end
section
section
variable (prog : Program) (w : World) (K : Frag) (ca : CA) (T : FnId → Option FD) (B : Heap) (G : GT) (d u : Nat)
noncomputable def StmtOk (st : Stmt) : Prop := ∀ (sc : Scope) (env : Env) (P₀ P : PH) (L : Addr) (m : Str → Option Value) (loc : Loc) (H : AH) (s : Shared) (A : Around) (Φ : AF → Loc → AH → Prop),
  EnvR sc env P L m loc → FR sc env B P₀ P → St prog w ca B P L m H s.heap → Room A (d + 1) (u + 100) → wpS G st sc loc H Φ → wpAny (model prog w) A (exec st env) (SPost prog w ca B L sc env P₀ Φ s) noE s
noncomputable def StmtsOk (sts : List Stmt) : Prop := ∀ (sc : Scope) (env : Env) (P₀ P : PH) (L : Addr) (m : Str → Option Value) (loc : Loc) (H : AH) (s : Shared) (A : Around) (Φ : AF → Loc → AH → Prop),
  EnvR sc env P L m loc → FR sc env B P₀ P → St prog w ca B P L m H s.heap → Room A (d + 1) (u + 100) → wpSs G sts sc loc H Φ → wpAny (model prog w) A (execs sts env) (SPost prog w ca B L sc env P₀ Φ s) noE s
end

section
variable {prog : Program} {w : World} {K : Frag} {ca : CA} {T : FnId → Option FD} {B : Heap} {P P' P₀ : PH} {L : Addr} {m m' : Str → Option Value} {H H' : AH} {h h' : Heap} {A : Around} {s : Shared} {Φ : AF → Loc → AH → Prop}
  {sc cs : Scope} {env : Env} {loc loc' : Loc} {G : GT} {d u n : Nat}

theorem SPost.mk' {f : Flow} {af : AF} {tk : Nat} (E : EnvR sc env P' L m' loc') (F : FR sc env B P₀ P') (S : St prog w ca B P' L m' H' h') (v : FV af f) (k : Φ af loc' H') : SPost prog w ca B L sc env P₀ Φ s f { s with heap := h', toks := tk } := ⟨h', tk, P', m', loc', H', af, rfl, E, F, S, v, k⟩
theorem SPost.now {f : Flow} {af : AF} (E : EnvR sc env P L m loc) (F : FR sc env B P₀ P) (S : St prog w ca B P L m H s.heap) (v : FV af f) (k : Φ af loc H) : SPost prog w ca B L sc env P₀ Φ s f s := ⟨s.heap, s.toks, P, m, loc, H, af, rfl, E, F, S, v, k⟩

theorem inter_of (E : EnvR sc env P L m loc) : interactive env = false := by
  unfold interactive
  rw [E.kind]; rfl
theorem swaps_none {e : Expr} {x : Str} {px : Pos} {line : Nat} {env : Env} : ∃ b, swapsWith e (some (.Name x px)) line env = pure b ∧ (b = true → env.kindOf x = some .local ∧ ((∃ a g c p, e = .ListComp a g c p) ∨ (∃ a g c p, e = .SetComp a g c p) ∨ (∃ a v g c p, e = .DictComp a v g c p))) := by
  cases e
  case ListComp a g c p =>
    refine ⟨_, rfl, fun h => ⟨?_, .inl ⟨_, _, _, _, rfl⟩⟩⟩
    simp only [Bool.and_eq_true, beq_iff_eq] at h
    exact h.1.1.2
  case SetComp a g c p =>
    refine ⟨_, rfl, fun h => ⟨?_, .inr (.inl ⟨_, _, _, _, rfl⟩)⟩⟩
    simp only [Bool.and_eq_true, beq_iff_eq] at h
    exact h.1.1.2
  case DictComp a v g c p =>
    refine ⟨_, rfl, fun h => ⟨?_, .inr (.inr ⟨_, _, _, _, _, rfl⟩)⟩⟩
    simp only [Bool.and_eq_true, beq_iff_eq] at h
    exact h.1.1.2
  all_goals exact ⟨false, rfl, fun h => by cases h⟩
theorem swaps_attr {e o : Expr} {n : Str} {p : Pos} {line : Nat} : swapsWith e (some (.Attribute o n p)) line env = pure false := by cases e <;> rfl
theorem swaps_sub {e o i : Expr} {p : Pos} {line : Nat} : swapsWith e (some (.Subscript o i p)) line env = pure false := by cases e <;> rfl

theorem expr_call {f : Expr} {args : List Expr} {kws : List Keyword} {p q : Pos} (xe : ExprOk prog w ca B G d u (.Call f args kws p)) : StmtOk prog w ca B G d u (.Expr (.Call f args kws p) q) := by
  intro sc env P₀ P L m loc H s A Φ E F S R k
  exact wpAny_Expr_any (xe.go E S R k fun h₁ tk₁ a H₁ va S₁ ra k₁ => SPost.mk' E F S₁ .next k₁) (inter_of E) rfl
theorem ret_some {e : Expr} {q : Pos} (xe : ExprOk prog w ca B G d u e) : StmtOk prog w ca B G d u (.Return (some e) q) := by
  intro sc env P₀ P L m loc H s A Φ E F S R k
  exact wpAny_Return_some (xe.go E S R k fun h₁ tk₁ a H₁ va S₁ ra k₁ => SPost.mk' E F S₁ (.ret ra) k₁)
theorem ret_none {q : Pos} : StmtOk prog w ca B G d u (.Return none q) := by
  intro sc env P₀ P L m loc H s A Φ E F S R k
  exact wpAny_Return_none (SPost.now E F S (.ret .none) k)

theorem assign_plain {x : Str} {px q : Pos} {e : Expr} (xe : ExprOk prog w ca B G d u e) (E : EnvR sc env P L m loc) (F : FR sc env B P₀ P) (S : St prog w ca B P L m H s.heap) (R : Room A (d + 1) (u + 100))
    (hx : isStore sc x = true) (hs : swapsWith e (some (.Name x px)) q.line env = pure false) (k : wpE G e sc loc H fun v H₁ => Φ .next (setL loc x v) H₁) :
    wpAny (model prog w) A (exec (.Assign [.Name x px] e q) env) (SPost prog w ca B L sc env P₀ Φ s) noE s :=
  wpAny_Assign_Name (xe.go E S R k fun h₁ tk₁ a H₁ va S₁ ra k₁ => store_ok (s := { s with heap := h₁, toks := tk₁ }) E F S₁ hx ra fun h₂ tk₂ P' m' E₂ F₂ S₂ => SPost.mk' E₂ F₂ S₂ .next k₁) hs

/-- a comprehension that is stored in a local, its block still open -/
theorem comp_assign {elt iter : Expr} {x y : Str} {px py pos spos : Pos} {ifs : List Expr} {Bd : Loc → AV → AH → (Option AV → AH → Prop) → Prop} (O : CompOk sc cs x) (xi : ExprOk prog w ca B G d u iter)
    (E : EnvR sc env P L m loc) (F : FR sc env B P₀ P) (S : St prog w ca B P L m H s.heap) (R : Room A (d + 1) (u + 100))
    (hsw : swapsWith (.ListComp elt [⟨.Name x px, iter, ifs, 0⟩] cs pos) (some (.Name y py)) spos.line env = pure true) (hy : env.kindOf y = some .local)
    (k : wpE G iter sc loc H fun s H₁ => (match s with
      | .ref a => ∃ o items, H₁ a = some o ∧ itemsA o = some items ∧ items.length ≤ 4096 ∧ compA (fun v H₂ K => Bd (setL loc x v) v H₂ K) a o items [] H₁ fun v H₂ => Φ .next (setL loc y v) H₂
      | _ => False))
    (hbody : ∀ cenv P' C m' H s loc' av K, EnvR cs cenv P' C m' loc' → St prog w ca B P' C m' H s.heap → Bd loc' av H K →
      wpAny (model prog w) A (tests ifs cenv) (fun ok s₃ => ∃ h' tk H', s₃ = { s with heap := h', toks := tk } ∧ St prog w ca B P' C m' H' h' ∧
        (if ok then wpAny (model prog w) A (eval elt cenv) (EPost prog w ca B P' C m' (fun y H'' => K (some y) H'') s₃) noE s₃ else K none H')) noE s) :
    wpAny (model prog w) A (exec (.Assign [.Name y py] (.ListComp elt [⟨.Name x px, iter, ifs, 0⟩] cs pos) spos) env) (SPost prog w ca B L sc env P₀ Φ s) noE s := by
  have hset : noSet iter = true := by cases iter <;> first | rfl | exact k.elim
  obtain ⟨cl, hcl, hcl'⟩ := closureFor_of (cs := cs) (env := env) fun p hp hf => (E.cl _ (O.free p hp hf)).2
  rw [exec_Assign_Name_used _ _ _ _ hsw]
  refine wpAny_bind (wpAny_standAt (wpAny_bind ?_))
  show wpAny _ A (do let _ ← comprehension (.ListComp elt [⟨.Name x px, iter, ifs, 0⟩] cs pos) cs env _ (newList []) false (eval iter env) (some (assign (.Name y py) env))) _ _ s
  refine wpAny_bind (wpAny_mono (wpAny_comprehension_free (use := some (assign (.Name y py) env)) (Q := fun _ s' => SPost prog w ca B L sc env P₀ Φ s .next s') (g := ⟨.Name x px, iter, ifs, 0⟩) (gs := []) rfl (folded hset) hcl O.kind (fun y hy e => ?_)
    (xi.go E S R k fun h₁ tk₁ a H₁ va S₁ ra k₁ => ?_)) (fun _ s' hq => wpAny_pure (wpAny_pure hq)) fun _ _ e => e)
  · exact (O.only y hy e).1
  cases ra with
  | ref src =>
    obtain ⟨o, items, e, hi, hlen, kc⟩ := k₁
    refine comp_rule (s := { s with heap := h₁, toks := tk₁ }) E O hcl' R.hd S₁ e hi hlen kc (fun cenv P' C m' H s av K E' S' kb => hbody cenv P' C m' H s _ av K E' S' kb) fun D C mC h' tk H' ys S' ns hPC hHC hCL hBC kΦ => ?_
    show wpAny _ A (assign (.Name y py) env (.ref D)) _ _ _
    refine PySem.wpAny_assign_Name (store_local E F S' hy (.ref D) fun h₂ tk₂ m₂ E₂ S₂ hs₂ => ?_)
    exact ⟨mC, ns.sameBut hs₂ hCL, fun h'' hs => SPost.mk' E₂ F (S₂.but hPC hHC hCL hBC fun b x q ex => hs.extBut b x q ex) .next kΦ⟩
  | _ => exact k₁.elim

theorem assign_name {x : Str} {px q : Pos} {e : Expr} (xs : ∀ e', sizeOf e' ≤ sizeOf e → ExprOk prog w ca B G d u e') (ts : ∀ e', sizeOf e' ≤ sizeOf e → TestOk prog w ca B G d u e') : StmtOk prog w ca B G d u (.Assign [.Name x px] e q) := by
  intro sc env P₀ P L m loc H s A Φ E F S R k
  obtain ⟨hx, k⟩ : isStore sc x = true ∧ wpE G e sc loc H fun v H₁ => Φ .next (setL loc x v) H₁ := k
  obtain ⟨b, hb, hb'⟩ := swaps_none (e := e) (x := x) (px := px) (line := q.line) (env := env)
  cases b with
  | false => exact assign_plain (xs e (Nat.le_refl _)) E F S R hx hb k
  | true =>
    obtain ⟨hl, h | h | h⟩ := hb' rfl
    · obtain ⟨elt, gens, cs, p, rfl⟩ := h
      cases gens with
      | nil => exact k.elim
      | cons g gs =>
        obtain ⟨tgt, iter, ifs, asy⟩ := g
        cases gs with
        | cons => exact (comp_more k).elim
        | nil =>
          cases tgt with
          | Name y py =>
            cases ifs with
            | nil =>
              cases asy with
              | ofNat z =>
                cases z with
                | zero =>
                  obtain ⟨ho, k⟩ : compOk sc cs y = true ∧ _ := k
                  refine comp_assign (Bd := fun l v H₂ K => wpE G elt cs l H₂ fun y H₃ => K (some y) H₃) (compOk_of ho) (xs iter (by simp; omega)) E F S R hb hl k fun cenv P' C m' H s loc' av K E' S' kb => ?_
                  exact wpAny_tests_nil ⟨s.heap, s.toks, H, rfl, S', by rw [if_pos rfl]; exact xs elt (by simp; omega) cs cenv P' C m' loc' H s A _ E' S' R kb⟩
                | succ => exact k.elim
              | negSucc => exact k.elim
            | cons c cs' =>
              cases cs' with
              | nil =>
                cases asy with
                | ofNat z =>
                  cases z with
                  | zero =>
                    obtain ⟨ho, k⟩ : compOk sc cs y = true ∧ _ := k
                    refine comp_assign (Bd := fun l v H₂ K => wpT G c cs l H₂ (wpE G c cs l H₂) fun t H₃ => if t then wpE G elt cs l H₃ fun y H₄ => K (some y) H₄ else K .none H₃) (compOk_of ho) (xs iter (by simp; omega)) E F S R hb hl k fun cenv P' C m' H s loc' av K E' S' kb => ?_
                    refine wpAny_tests_one ((ts c (by simp; omega)).go E' S' R kb fun h₁ tk₁ b H₁ S₁ k₁ => ⟨h₁, tk₁, H₁, rfl, S₁, ?_⟩)
                    cases b with
                    | true =>
                      rw [if_pos rfl] at k₁ ⊢
                      exact xs elt (by simp; omega) cs cenv P' C m' loc' H₁ { s with heap := h₁, toks := tk₁ } A _ E' S₁ R k₁
                    | false =>
                      rw [if_neg (by decide)] at k₁ ⊢
                      exact k₁
                  | succ => exact k.elim
                | negSucc => exact k.elim
              | cons => exact k.elim
          | _ => exact k.elim
    · obtain ⟨elt, gens, cs, p, rfl⟩ := h; exact k.elim
    · obtain ⟨elt, v, gens, cs, p, rfl⟩ := h; exact k.elim

theorem assign_attr {o e : Expr} {nm : Str} {pa q : Pos} (C : SC prog w K ca T B) (xo : ExprOk prog w ca B G d u o) (xe : ExprOk prog w ca B G d u e) : StmtOk prog w ca B G d u (.Assign [.Attribute o nm pa] e q) := by
  intro sc env P₀ P L m loc H s A Φ E F S R k
  have k : wpE G e sc loc H fun v H₁ => wpE G o sc loc H₁ fun ov H₂ => setAttrA ov nm v H₂ fun H₃ => Φ .next loc H₃ := k
  refine plainObj_wpAny_Assign_Attribute (xe.go E S R k fun h₁ tk₁ a H₁ va S₁ ra k₁ => xo.go (s := { s with heap := h₁, toks := tk₁ }) E S₁ R k₁ fun h₂ tk₂ b H₂ vb S₂ rb k₂ => ?_) swaps_attr
  refine wpAny_mono (setAttr_ok (s := { s with heap := h₂, toks := tk₂ }) C S₂ rb ra k₂) (fun _ s₃ hq => ?_) fun _ _ e => e.elim
  obtain ⟨h₃, tk₃, H₃, rfl, S₃, k₃⟩ := hq
  exact SPost.mk' E F S₃ .next k₃
theorem assign_sub {o i e : Expr} {pa q : Pos} (C : SC prog w K ca T B) (xo : ExprOk prog w ca B G d u o) (xi : ExprOk prog w ca B G d u i) (xe : ExprOk prog w ca B G d u e) : StmtOk prog w ca B G d u (.Assign [.Subscript o i pa] e q) := by
  intro sc env P₀ P L m loc H s A Φ E F S R k
  obtain ⟨_, k⟩ : isSlice i = false ∧ wpE G e sc loc H fun v H₁ => wpE G o sc loc H₁ fun ov H₂ => wpE G i sc loc H₂ fun iv H₃ => setItemA ov iv v H₃ fun H₄ => Φ .next loc H₄ := k
  refine wpAny_Assign_Subscript (xe.go E S R k fun h₁ tk₁ a H₁ va S₁ ra k₁ => xo.go (s := { s with heap := h₁, toks := tk₁ }) E S₁ R k₁ fun h₂ tk₂ b H₂ vb S₂ rb k₂ => xi.go (s := { s with heap := h₂, toks := tk₂ }) E S₂ R k₂ fun h₃ tk₃ c H₃ vc S₃ rc k₃ => ?_) swaps_sub
  refine wpAny_mono (setItem_ok (s := { s with heap := h₃, toks := tk₃ }) C S₃ rb rc ra k₃) (fun _ s₃ hq => ?_) fun _ _ e => e.elim
  obtain ⟨h₄, tk₄, H₄, rfl, S₄, k₄⟩ := hq
  exact SPost.mk' E F S₄ .next k₄

theorem aug_name {x : Str} {px q : Pos} {e : Expr} (xe : ExprOk prog w ca B G d u e) : StmtOk prog w ca B G d u (.AugAssign (.Name x px) .Add e q) := by
  intro sc env P₀ P L m loc H s A Φ E F S R k
  obtain ⟨hx, k⟩ : isStore sc x = true ∧ (match getL loc x with
    | some (.int i) => wpE G e sc loc H fun v H₁ => (match v with | .int j => Φ .next (setL loc x (.int (i + j))) H₁ | _ => False)
    | _ => False) := k
  split at k
  · rename_i i hi
    have hv : (isVar sc x && notDebug x) = true := by
      unfold isStore at hx
      unfold isVar
      rw [Bool.and_eq_true] at hx
      obtain ⟨hx, hd⟩ := hx
      rw [hd, Bool.and_true]
      split at hx
      · rename_i z; rw [z]
      · rename_i z; rw [z]
      · cases hx
    obtain ⟨v, r, hv'⟩ := E.rd x _ hi hv
    cases r with
    | int i t =>
      have go : ∀ (Q : Value → Shared → Prop), Q (.int i t) s → wpAny (model prog w) A (loadName env x) Q noE s := fun Q hq => by
        rcases hv' with ⟨h1, h2⟩ | ⟨h1, c, o, h2, h3, h4⟩
        · exact wpAny_loadName_local E.kind h1 (by rw [E.lcl]; exact S.fr.ns) h2 hq
        · exact wpAny_loadName_cell E.kind h1 h2 ⟨o, S.keep c o h3, h4⟩ hq
      refine wpAny_AugAssign_Name (go _ (xe.go E S R k fun h₁ tk₁ a H₁ va S₁ ra k₁ => ?_))
      cases ra with
      | int j u => exact PyProof.Rows.iadd_int (store_ok (s := { s with heap := h₁, toks := _ }) E F S₁ hx (.int _ _) fun h₂ tk₂ P' m' E₂ F₂ S₂ => SPost.mk' E₂ F₂ S₂ .next k₁)
      | _ => exact k₁.elim
  · exact k.elim
end
end
section
section
variable {prog : Program} {w : World} {K : Frag} {ca : CA} {T : FnId → Option FD} {B : Heap} {P P' P₀ : PH} {L : Addr} {m m' : Str → Option Value} {H H' : AH} {h h' : Heap} {A : Around} {s : Shared} {Φ : AF → Loc → AH → Prop}
  {sc cs : Scope} {env : Env} {loc loc' : Loc} {G : GT} {d u n : Nat}

theorem StmtsOk.go {sts : List Stmt} {Q : Flow → Shared → Prop} {E' : Value → Shared → Prop} (x : StmtsOk prog w ca B G d u sts) (E : EnvR sc env P L m loc) (F : FR sc env B P₀ P) (S : St prog w ca B P L m H s.heap) (R : Room A (d + 1) (u + 100)) (k : wpSs G sts sc loc H Φ)
    (h : ∀ h' tk P' m' loc' H' af f, EnvR sc env P' L m' loc' → FR sc env B P₀ P' → St prog w ca B P' L m' H' h' → FV af f → Φ af loc' H' → Q f { s with heap := h', toks := tk }) : wpAny (model prog w) A (execs sts env) Q E' s :=
  wpAny_mono (x sc env P₀ P L m loc H s A Φ E F S R k) (fun f s₁ ⟨h', tk, P', m', loc', H', af, e, E', F', S', v, k⟩ => by subst e; exact h h' tk P' m' loc' H' af f E' F' S' v k) fun _ _ e => e.elim

theorem if_ {t : Expr} {b o : List Stmt} {q : Pos} (xt : TestOk prog w ca B G d u t) (xb : StmtsOk prog w ca B G d u b) (xo : StmtsOk prog w ca B G d u o) : StmtOk prog w ca B G d u (.If t b o q) := by
  intro sc env P₀ P L m loc H s A Φ E F S R k
  have k : wpT G t sc loc H (wpE G t sc loc H) fun c H₁ => if c then wpSs G b sc loc H₁ Φ else wpSs G o sc loc H₁ Φ := k
  refine wpAny_If (xt.go E S R k fun h₁ tk₁ c H₁ S₁ k₁ => ?_)
  cases c with
  | true => exact xb.go (s := { s with heap := h₁, toks := tk₁ }) E F S₁ R k₁ fun h' tk P' m' loc' H' af f E' F' S' v k => SPost.mk' E' F' S' v k
  | false => exact xo.go (s := { s with heap := h₁, toks := tk₁ }) E F S₁ R k₁ fun h' tk P' m' loc' H' af f E' F' S' v k => SPost.mk' E' F' S' v k

theorem while_ {t : Expr} {b : List Stmt} {q : Pos} (xt : TestOk prog w ca B G d u t) (xb : StmtsOk prog w ca B G d u b) : StmtOk prog w ca B G d u (.While t b [] q) := by
  intro sc env P₀ P L m loc H s A Φ E F S R k
  obtain ⟨N, k⟩ : ∃ n, whileA (fun l h K => wpT G t sc l h (wpE G t sc l h) K) (fun l h K => wpSs G b sc l h K) n loc H Φ := k
  refine wpAny_While (codeAny_whileLoop (fun n s' => ∃ h' tk P' m' loc' H', s' = { s with heap := h', toks := tk } ∧ EnvR sc env P' L m' loc' ∧ FR sc env B P₀ P' ∧ St prog w ca B P' L m' H' h' ∧
    whileA (fun l h K => wpT G t sc l h (wpE G t sc l h) K) (fun l h K => wpSs G b sc l h K) n loc' H' Φ) ?_ N ⟨s.heap, s.toks, P, m, loc, H, rfl, E, F, S, k⟩)
  rintro n s' ⟨h', tk, P', m', loc', H', rfl, E', F', S', k'⟩
  cases n with
  | zero => exact k'.elim
  | succ n =>
    obtain ⟨loc₁, hle, k'⟩ := k'
    have E₁ := E'.weaken hle
    refine xt.go (s := { s with heap := h', toks := tk }) E₁ S' R k' fun h₁ tk₁ c H₁ S₁ k₁ => ?_
    cases c with
    | false =>
      rw [if_neg (by decide)]
      exact wpAny_execs_nil (SPost.mk' E₁ F' S₁ .next k₁)
    | true =>
      rw [if_pos rfl]
      refine xb.go (s := { s with heap := h₁, toks := tk₁ }) E₁ F' S₁ R k₁ fun h₂ tk₂ P₂ m₂ loc₂ H₂ af f E₂ F₂ S₂ v k₂ => ?_
      cases v with
      | next => exact ⟨n, Nat.lt_succ_self n, h₂, tk₂, P₂, m₂, loc₂, H₂, rfl, E₂, F₂, S₂, k₂⟩
      | cont => exact ⟨n, Nat.lt_succ_self n, h₂, tk₂, P₂, m₂, loc₂, H₂, rfl, E₂, F₂, S₂, k₂⟩
      | brk => exact SPost.mk' E₂ F₂ S₂ .next k₂
      | ret r => exact SPost.mk' E₂ F₂ S₂ (.ret r) k₂

theorem for_ {x : Str} {px q : Pos} {it : Expr} {b : List Stmt} (xi : ExprOk prog w ca B G d u it) (xb : StmtsOk prog w ca B G d u b) : StmtOk prog w ca B G d u (.For (.Name x px) it b [] q) := by
  intro sc env P₀ P L m loc H s A Φ E F S R k
  obtain ⟨hx, k⟩ : isStore sc x = true ∧ wpE G it sc loc H fun s H₁ => (match s with
    | .ref a => ∃ o items, H₁ a = some o ∧ itemsA o = some items ∧ items.length ≤ 4096 ∧ forA (fun l h K => wpSs G b sc l h K) x a o items loc H₁ Φ
    | _ => False) := k
  have hset : noSet it = true := by cases it <;> first | rfl | exact k.elim
  refine wpAny_For (xi.go E S R k fun h₁ tk₁ a H₁ va S₁ ra k₁ => ?_) (folded hset)
  cases ra with
  | ref src =>
    obtain ⟨o, items, e, hi, hlen, kf⟩ := k₁
    refine iter_ok (s := { s with heap := h₁, toks := tk₁ }) S₁ e hi hlen fun I oI h₂ hI hk₂ gI iI => ?_
    dsimp only at hI
    have S₂ : St prog w ca B P L m H₁ h₂ := S₁.more hk₂
    have PI : P I = none := S₁.noP (get_of_none hI)
    have HI : H₁ I = none := S₁.noH (get_of_none hI)
    have LI : I ≠ L := S₁.neL (get_of_none hI)
    have BI : B.get? I = none := S₁.noB (get_of_none hI)
    have P₀I : P₀ I = none := by
      cases q : P₀ I with
      | none => rfl
      | some o => have := F.sub I o q; rw [PI] at this; cases this
    have offI : ∀ y c, env.cells.lookup y = some c → c ≠ I := fun y c hc q => by
      obtain ⟨_, o', v', h2, _⟩ := F.cell y c hc
      rw [q, PI] at h2; cases h2
    refine codeAny_forLoop (fun n s' => ∃ h' tk i P' m' loc' H' oI', s' = { s with heap := h', toks := tk } ∧ n = items.length + 1 - i ∧ i ≤ items.length ∧ ItObj oI' src o i ∧ P' I = some oI' ∧
      EnvR sc env P' L m' loc' ∧ FR sc env B P₀ P' ∧ St prog w ca B P' L m' H' h' ∧ forA (fun l h K => wpSs G b sc l h K) x src o (items.drop i) loc' H' Φ) ?_ (items.length + 1)
      ⟨h₂, tk₁, 0, setP P I oI, m, loc, H₁, oI, rfl, rfl, Nat.zero_le _, iI, setP_self, E.offP (fun y c hc o' ho => by rw [setP_ne (offI y c hc)]; exact ho),
        F.offP (fun y c hc o' ho => by rw [setP_ne (offI y c hc)]; exact ho) (fun b' o' ho => by rw [setP_ne (fun q => by rw [q, P₀I] at ho; cases ho)]; exact F.sub b' o' ho), S₂.setP gI HI LI, kf⟩
    rintro n s' ⟨h', tk, i, P', m', loc', H', oI', rfl, rfl, hile, iI', PI', E', F', S', k'⟩
    by_cases hlt : i < items.length
    · obtain ⟨av, hav⟩ : ∃ av, items[i]? = some av := ⟨items[i], List.getElem?_eq_getElem hlt⟩
      have hdrop : items.drop i = av :: items.drop (i + 1) := by
        rw [List.drop_eq_getElem_cons hlt]
        rw [List.getElem?_eq_getElem hlt] at hav
        cases hav; rfl
      rw [hdrop] at k'
      unfold forA at k'
      obtain ⟨e', loc₁, hle, kb⟩ := k'
      refine next_item (s := { s with heap := h', toks := tk }) S' e' hi PI' iI' hav fun v oI₂ h₃ tk₃ hv hk₃ gI₃ iI₃ => ?_
      have S₃ := S'.chP PI' BI hk₃ gI₃
      have E₃ : EnvR sc env (setP P' I oI₂) L m' loc' := E'.offP fun y c hc o' ho => by rw [setP_ne (offI y c hc)]; exact ho
      have F₃ : FR sc env B (setP P₀ I oI₂) (setP P' I oI₂) := by
        refine ⟨fun b' o' ho => ?_, fun y c hc => ?_, fun y c hc => ?_, F'.apart, F'.lc⟩
        · unfold setP at ho ⊢
          by_cases q : b' = I
          · rw [if_pos q] at ho ⊢; exact ho
          · rw [if_neg q] at ho ⊢; exact F'.sub b' o' ho
        · rw [setP_ne (offI y c hc)]; exact F'.off y c hc
        · obtain ⟨h1, o', v', h2, h3⟩ := F'.cell y c hc
          exact ⟨h1, o', v', by rw [setP_ne (offI y c hc)]; exact h2, h3⟩
      refine PySem.wpAny_assign_Name (store_ok (s := { s with heap := h₃, toks := tk₃ }) (E₃.weaken hle) F₃ S₃ hx hv fun h₄ tk₄ P₄ m₄ E₄ F₄ S₄ => ?_)
      refine xb.go (s := { s with heap := h₄, toks := tk₄ }) E₄ F₄ S₄ R kb fun h₅ tk₅ P₅ m₅ loc₅ H₅ af f E₅ F₅ S₅ fv k₅ => ?_
      have F₆ : FR sc env B P₀ P₅ := ⟨fun b' o' ho => F₅.sub b' o' (by rw [setP_ne (fun q => by rw [q, P₀I] at ho; cases ho)]; exact ho), F.off, F₅.cell, F₅.apart, F₅.lc⟩
      have PI₅ : P₅ I = some oI₂ := F₅.sub I oI₂ setP_self
      cases fv with
      | next => exact ⟨items.length + 1 - (i + 1), by omega, h₅, tk₅, i + 1, P₅, m₅, loc₅, H₅, oI₂, rfl, rfl, hlt, iI₃, PI₅, E₅, F₆, S₅, k₅⟩
      | cont => exact ⟨items.length + 1 - (i + 1), by omega, h₅, tk₅, i + 1, P₅, m₅, loc₅, H₅, oI₂, rfl, rfl, hlt, iI₃, PI₅, E₅, F₆, S₅, k₅⟩
      | brk => exact SPost.mk' E₅ F₆ S₅ .next k₅
      | ret r => exact SPost.mk' E₅ F₆ S₅ (.ret r) k₅
    · have hdrop : items.drop i = [] := List.drop_eq_nil_of_le (by omega)
      rw [hdrop] at k'
      unfold forA at k'
      obtain ⟨e', loc₁, hle, kb⟩ := k'
      refine next_end (s := { s with heap := h', toks := tk }) R.hd S' e' hi PI' iI' (by omega) fun h₃ hk₃ => ?_
      have S₃ := S'.rmP PI' BI hk₃
      have ne : ∀ y c, env.cells.lookup y = some c → ∀ o', P' c = some o' → rmP P' I c = some o' := fun y c hc o' ho => by unfold rmP; rw [if_neg (offI y c hc)]; exact ho
      exact wpAny_execs_nil (SPost.mk' ((E'.offP ne).weaken hle) (F'.offP ne fun b' o' ho => by unfold rmP; rw [if_neg (fun q => by rw [q, P₀I] at ho; cases ho)]; exact F'.sub b' o' ho) S₃ .next kb)
  | _ => exact k₁.elim

theorem anyStar {a b : Expr} {f : Expr → Bool} (hf : ∀ e, noStar e = true → f e = false) (ha : noStar a = true) (hb : noStar b = true) : [a, b].any f = false := by
  rw [List.any_cons, List.any_cons, List.any_nil, hf a ha, hf b hb]; rfl
theorem swapped_ {x y : Str} {px py tp vp : Pos} {a b : Expr} {k1 k2 : Nat} (bk : env.blockKind = .function) (kx : env.kindOf x = some .local) (ky : env.kindOf y = some .local) (hl : px.line = py.line) (hne : x ≠ y)
    (ha : noStar a = true) (hb : noStar b = true) (hf : foldedForSure 8 a = false) (hc : constantsAlone 8 a = false) : swappedStores [.Tuple [.Name x px, .Name y py] k1 tp] (.Tuple [a, b] k2 vp) env = pure (some [x, y]) := by
  unfold swappedStores
  dsimp only
  rw [bk]
  refine (if_neg (by simp)).trans ((if_neg (by rw [anyStar (fun e he => by cases e <;> first | rfl | cases he) ha hb]; decide)).trans ?_)
  have e1 : (Expr.Name x px).pos = px := rfl
  have hyx : (y == x) = false := by simpa using Ne.symm hne
  simp [kx, ky, hl, hf, hc, e1, hyx, List.eraseDups_cons]
/-- two locals swapped -/
theorem swap_ {x y : Str} {px py tp vp q : Pos} {a b : Expr} {k1 k2 : Nat} (xa : ExprOk prog w ca B G d u a) (xb : ExprOk prog w ca B G d u b) : StmtOk prog w ca B G d u (.Assign [.Tuple [.Name x px, .Name y py] k1 tp] (.Tuple [a, b] k2 vp) q) := by
  intro sc env P₀ P L m loc H s A Φ E F S R k
  obtain ⟨hok, k⟩ : swapOk sc x y px py a b = true ∧ wpE G a sc loc H fun v H₁ => wpE G b sc loc H₁ fun u H₂ => Φ .next (setL (setL loc x v) y u) H₂ := k
  unfold swapOk at hok
  simp only [Bool.and_eq_true, beq_iff_eq, Bool.not_eq_true', beq_eq_false_iff_ne] at hok
  obtain ⟨⟨⟨⟨⟨⟨⟨hx, hy⟩, hl⟩, hne⟩, ha⟩, hb⟩, hf⟩, hc⟩ := hok
  have kx := F.lc x hx
  have ky := F.lc y hy
  have bk : env.blockKind = .function := by unfold Env.blockKind; rw [E.kind]; rfl
  refine Assign_Tuple_swapped (names := [x, y]) ?_ (by rfl) (swapped_ bk kx ky hl hne ha hb hf hc)
  refine wpAny_Tuple (wpAny_items_cons (xa.go E S R k fun h₁ tk₁ va H₁ vv S₁ ra k₁ => ?_) (starEach_cons ha))
  refine wpAny_items_cons (xb.go (s := { s with heap := h₁, toks := tk₁ }) E S₁ R k₁ fun h₂ tk₂ vb H₂ vu S₂ rb k₂ => wpAny_items_nil ?_) (starEach_cons hb)
  refine ⟨by rw [sizeLine_eq]; show (2 : Nat) ≤ 2 ^ 24; decide, ?_⟩
  have S₃ : St prog w ca B P L m H₂ (h₂.push { cls := .type "tuple", data := .seq [vv, vu].toArray }) := S₂.more fun b' o' ex => Heap.get?_push_of_some _ ex
  have ht : IsTup (h₂.push { cls := .type "tuple", data := .seq [vv, vu].toArray }) h₂.objs.size [vv, vu].toArray := ⟨_, Heap.get?_push_size _ rfl, rfl, _, rfl⟩
  refine unpackItems_tuple (items := [vv, vu].toArray) R.hd ht fun h₄ he => ?_
  have S₄ := S₃.extNew he
  show wpAny _ _ (assignInOrder [fun v => bindName env y v, fun v => bindName env x v] [vu, vv]) _ _ _
  refine wpAny_bind (wpAny_holding (wpAny_bindName (store_local E F S₄ ky rb fun h₅ tk₅ m₅ E₅ S₅ _ => ?_)))
  refine wpAny_bind (wpAny_holding (wpAny_bindName (store_local E₅ F S₅ kx ra fun h₆ tk₆ m₆ E₆ S₆ _ => wpAny_pure ?_)))
  exact SPost.mk' (E₆.weaken (setL_comm hne)) F S₆ .next k₂

theorem stores_ {ts : List Expr} : ∀ {xs : List Str}, namesOf ts = some xs → (xs.all fun x => isStore sc x) = true → ∀ {vs : List AV} {vals : List Value}, VRs vs vals → vs.length = xs.length → ∀ {P : PH} {m : Str → Option Value} {loc : Loc} {s : Shared} {Q : Unit → Shared → Prop} {E' : Value → Shared → Prop},
    EnvR sc env P L m loc → FR sc env B P₀ P → St prog w ca B P L m H s.heap → (∀ h' tk P' m', EnvR sc env P' L m' (setLs loc xs vs) → FR sc env B P₀ P' → St prog w ca B P' L m' H h' → Q () { s with heap := h', toks := tk }) →
    wpAny (model prog w) A (assignInOrder ((assignEach ts env).map (·.2)) vals) Q E' s := by
  induction ts with
  | nil =>
    intro xs e hx vs vals r hl P m loc s Q E' E F S h
    cases e
    cases r with
    | nil => exact wpAny_pure (h s.heap s.toks P m E F S)
    | cons => cases hl
  | cons t ts ih =>
    intro xs e hx vs vals r hl P m loc s Q E' E F S h
    cases t with
    | Name x px =>
      obtain ⟨ys, hy, rfl⟩ := Option.map_eq_some_iff.mp e
      rw [List.all_cons, Bool.and_eq_true] at hx
      cases r with
      | nil => cases hl
      | cons rv r =>
        refine wpAny_bind (wpAny_holding (PySem.wpAny_assign_Name (store_ok E F S hx.1 rv fun h₁ tk₁ P₁ m₁ E₁ F₁ S₁ => ?_)))
        exact ih hy hx.2 r (by simpa using hl) E₁ F₁ S₁ fun h' tk P' m' E₂ F₂ S₂ => h h' tk P' m' E₂ F₂ S₂
    | _ => cases e
theorem each_len {ts : List Expr} : ∀ {xs : List Str}, namesOf ts = some xs → (assignEach ts env).length = xs.length ∧ (assignEach ts env).findIdx? (·.1) = none := by
  induction ts with
  | nil => intro xs e; cases e; exact ⟨rfl, rfl⟩
  | cons t ts ih =>
    intro xs e
    cases t with
    | Name x px =>
      obtain ⟨ys, hy, rfl⟩ := Option.map_eq_some_iff.mp e
      obtain ⟨h1, h2⟩ := ih hy
      have e1 : assignEach (.Name x px :: ts) env = (false, assign (.Name x px) env) :: assignEach ts env := rfl
      rw [e1]
      refine ⟨by rw [List.length_cons, h1, List.length_cons], ?_⟩
      rw [List.findIdx?_cons, h2]; rfl
    | _ => cases e
theorem unpack_ {ts : List Expr} {k1 : Nat} {tp q p : Pos} {f : Expr} {args : List Expr} {kws : List Keyword} (xe : ExprOk prog w ca B G d u (.Call f args kws p)) (E : EnvR sc env P L m loc) (F : FR sc env B P₀ P) (S : St prog w ca B P L m H s.heap) (R : Room A (d + 1) (u + 100))
    (k : match namesOf ts with
      | some xs => (xs.all fun x => isStore sc x) = true ∧ wpE G (.Call f args kws p) sc loc H fun v H₁ => unpackA v xs.length H₁ fun vs => Φ .next (setLs loc xs vs) H₁
      | .none => False) : wpAny (model prog w) A (exec (.Assign [.Tuple ts k1 tp] (.Call f args kws p) q) env) (SPost prog w ca B L sc env P₀ Φ s) noE s := by
  split at k
  · rename_i xs hxs
    obtain ⟨hst, k⟩ := k
    obtain ⟨e1, e2⟩ := each_len (env := env) hxs
    refine Assign_Tuple (xe.go E S R k fun h₁ tk₁ a H₁ va S₁ ra k₁ => ?_)
    rw [arm_assign_Tuple]
    refine wpAny_bind (wpAny_standAt ?_)
    unfold unpack
    rw [e1, e2]
    refine wpAny_bind (wpAny_holding (unpack_ok (s := { s with heap := h₁, toks := tk₁ }) R.hd S₁ ra k₁ fun h₂ vs vals S₂ rv hl k₂ => ?_))
    exact stores_ (s := { s with heap := h₂, toks := tk₁ }) hxs hst rv hl E F S₂ fun h₃ tk₃ P' m' E₃ F₃ S₃ => SPost.mk' E₃ F₃ S₃ .next k₂
  · exact k.elim
end
end
section
section
variable {prog : Program} {w : World} {K : Frag} {ca : CA} {T : FnId → Option FD} {B : Heap} {P P' P₀ : PH} {L : Addr} {m m' : Str → Option Value} {H H' : AH} {h h' : Heap} {A : Around} {s : Shared} {Φ : AF → Loc → AH → Prop}
  {sc cs : Scope} {env : Env} {loc loc' : Loc} {G : GT} {d u n : Nat}

theorem nil_ : StmtsOk prog w ca B G d u [] := by
  intro sc env P₀ P L m loc H s A Φ E F S R k
  exact wpAny_execs_nil (SPost.now E F S .next k)
theorem cons_ {st : Stmt} {r : List Stmt} (x : StmtOk prog w ca B G d u st) (xs : StmtsOk prog w ca B G d u r) : StmtsOk prog w ca B G d u (st :: r) := by
  intro sc env P₀ P L m loc H s A Φ E F S R k
  refine wpAny_execs_cons (wpAny_mono (x sc env P₀ P L m loc H s A _ E F S R k) (fun f s₁ hq => ?_) fun _ _ e => e.elim)
  obtain ⟨h₁, tk₁, P₁, m₁, loc₁, H₁, af, rfl, E₁, F₁, S₁, v, k₁⟩ := hq
  cases v with
  | next => exact xs.go (s := { s with heap := h₁, toks := tk₁ }) E₁ F₁ S₁ R k₁ fun h' tk P' m' loc' H' af f E' F' S' v k => SPost.mk' E' F' S' v k
  | brk => exact SPost.mk' E₁ F₁ S₁ .brk k₁
  | cont => exact SPost.mk' E₁ F₁ S₁ .cont k₁
  | ret r => exact SPost.mk' E₁ F₁ S₁ (.ret r) k₁

theorem no_wp {st : Stmt} (h : ∀ sc loc H Φ, wpS G st sc loc H Φ → False) : StmtOk prog w ca B G d u st := fun sc env P₀ P L m loc H s A Φ E F S R k => (h _ _ _ _ k).elim

theorem step_s (C : SC prog w K ca T B) (xe : ∀ e, ExprOk prog w ca B G d u e) (xt : ∀ e, TestOk prog w ca B G d u e) (I : ∀ xs, sizeOf xs < n → StmtsOk prog w ca B G d u xs) : ∀ x, sizeOf x < n + 1 → StmtOk prog w ca B G d u x := by
  intro x hx
  cases x with
  | Expr e q =>
    cases e with
    | Call f args kws p => exact expr_call (xe _)
    | _ => exact no_wp fun _ _ _ _ k => k
  | Return v q =>
    cases v with
    | none => exact ret_none
    | some e => exact ret_some (xe e)
  | Assign ts e q =>
    cases ts with
    | nil => exact no_wp fun _ _ _ _ k => k
    | cons t ts =>
      cases ts with
      | cons => cases t <;> exact no_wp fun _ _ _ _ k => k
      | nil =>
        cases t with
        | Name x px => exact assign_name (fun e' _ => xe e') (fun e' _ => xt e')
        | Attribute o nm pa => exact assign_attr C (xe o) (xe e)
        | Subscript o i pa => exact assign_sub C (xe o) (xe i) (xe e)
        | Tuple ts k1 tp =>
          cases e with
          | Call f args kws p => intro sc env P₀ P L m loc H s A Φ E F S R k; exact unpack_ (xe _) E F S R k
          | Tuple vs k2 vp =>
            rcases vs with _ | ⟨a, _ | ⟨b, _ | _⟩⟩ <;> first | exact no_wp fun _ _ _ _ k => k | skip
            rcases ts with _ | ⟨t1, _ | ⟨t2, _ | _⟩⟩ <;> first | exact no_wp fun _ _ _ _ k => k | skip
            · cases t1 <;> exact no_wp fun _ _ _ _ k => k
            · cases t1 with
              | Name x px =>
                cases t2 with
                | Name y py => exact swap_ (xe a) (xe b)
                | _ => exact no_wp fun _ _ _ _ k => k
              | _ => exact no_wp fun _ _ _ _ k => k
            · cases t1 with
              | Name x px => cases t2 <;> exact no_wp fun _ _ _ _ k => k
              | _ => exact no_wp fun _ _ _ _ k => k
          | _ => exact no_wp fun _ _ _ _ k => k
        | _ => exact no_wp fun _ _ _ _ k => k
  | AugAssign t op e q =>
    cases t with
    | Name x px =>
      cases op with
      | Add => exact aug_name (xe e)
      | _ => exact no_wp fun _ _ _ _ k => k
    | _ => exact no_wp fun _ _ _ _ k => k
  | If t b o q => exact if_ (xt t) (I b (by simp at hx; omega)) (I o (by simp at hx; omega))
  | While t b o q =>
    cases o with
    | nil => exact while_ (xt t) (I b (by simp at hx; omega))
    | cons => exact no_wp fun _ _ _ _ k => k
  | For t it b o q =>
    cases t with
    | Name x px =>
      cases o with
      | nil => exact for_ (xe it) (I b (by simp at hx; omega))
      | cons => exact no_wp fun _ _ _ _ k => k
    | _ => exact no_wp fun _ _ _ _ k => k
  | Pass q => intro sc env P₀ P L m loc H s A Φ E F S R k; exact wpAny_Pass (SPost.now E F S .next k)
  | Continue q => intro sc env P₀ P L m loc H s A Φ E F S R k; exact wpAny_Continue (SPost.now E F S .cont k)
  | Break q => intro sc env P₀ P L m loc H s A Φ E F S R k; exact wpAny_Break (SPost.now E F S .brk k)
  | _ => exact no_wp fun _ _ _ _ k => k

theorem all_s (C : SC prog w K ca T B) (xe : ∀ e, ExprOk prog w ca B G d u e) (xt : ∀ e, TestOk prog w ca B G d u e) : ∀ n, ∀ xs, sizeOf xs < n → StmtsOk prog w ca B G d u xs := by
  intro n
  induction n with
  | zero => exact fun xs h => absurd h (Nat.not_lt_zero _)
  | succ n I =>
    intro xs hx
    cases xs with
    | nil => exact nil_
    | cons st r => exact cons_ (step_s C xe xt I st (by simp at hx; omega)) (I r (by simp at hx; omega))
theorem stmts_ok (C : SC prog w K ca T B) (D : Dom prog w K ca T) (SG : SoundG prog w K ca B T G d u) (xs : List Stmt) : StmtsOk prog w ca B G d u xs :=
  all_s C (expr_ok C D SG) (test_ok C D SG) (sizeOf xs + 1) xs (Nat.lt_succ_self _)
end
end
section
theorem bindL_keep {k : Str → Option NameKind} : ∀ {binds : List (Str × Value)} {m : Str → Option Value} {x : Str}, x ∉ binds.map (·.1) → bindL k binds m x = m x
  | [], m, x, _ => rfl
  | (n, v) :: r, m, x, h => by
    rw [List.map_cons, List.mem_cons, not_or] at h
    unfold bindL
    rw [bindL_keep h.2]
    split
    · exact if_neg h.1
    · rfl
theorem bindC_keep {k : Str → Option NameKind} : ∀ {binds : List (Str × Value)} {m : Str → Option Value} {x : Str}, x ∉ binds.map (·.1) → bindC k binds m x = m x
  | [], m, x, _ => rfl
  | (n, v) :: r, m, x, h => by
    rw [List.map_cons, List.mem_cons, not_or] at h
    unfold bindC
    rw [bindC_keep h.2]
    split
    · rfl
    · exact if_neg h.1
theorem bind_get {k : Str → Option NameKind} : ∀ {binds : List (Str × Value)} {m cm : Str → Option Value} {x : Str} {v : Value}, (binds.map (·.1)).Nodup → (x, v) ∈ binds →
    (k x = some .local → bindL k binds m x = some v) ∧ (k x ≠ some .local → bindC k binds cm x = some v)
  | (n, v') :: r, m, cm, x, v, nd, h => by
    rw [List.map_cons, List.nodup_cons] at nd
    unfold bindL bindC
    rcases List.mem_cons.mp h with e | h
    · cases e
      refine ⟨fun q => ?_, fun q => ?_⟩
      · rw [bindL_keep nd.1, if_pos q, if_pos rfl]
      · rw [bindC_keep nd.1, if_neg q, if_pos rfl]
    · exact bind_get nd.2 h
theorem zip_get : ∀ {names : List Str} {as : List AV} {vs : List Value} {x : Str} {a : AV}, VRs as vs → getL (names.zip as) x = some a → ∃ v, (x, v) ∈ names.zip vs ∧ VR a v
  | [], as, vs, x, a, r, e => by simp [getL] at e
  | n :: names, _, _, x, a, .nil, e => by simp [getL] at e
  | n :: names, _, _, x, a, .cons y r, e => by
    rw [List.zip_cons_cons] at e
    unfold getL at e
    split at e
    · rename_i q
      cases e
      exact ⟨_, by rw [q]; exact List.mem_cons_self, y⟩
    · obtain ⟨v, h1, h2⟩ := zip_get r e
      exact ⟨v, List.mem_cons_of_mem _ h1, h2⟩
theorem zip_names : ∀ {names : List Str} {vs : List Value}, vs.length = names.length → (names.zip vs).map (·.1) = names
  | [], [], _ => rfl
  | n :: names, v :: vs, h => by rw [List.zip_cons_cons, List.map_cons, zip_names (by simpa using h)]

section
variable {prog : Program} {w : World} {K : Frag} {ca : CA} {T : FnId → Option FD} {B : Heap} {P P' P₀ : PH} {L : Addr} {m m' : Str → Option Value} {H H' : AH} {h h' : Heap} {A : Around} {s : Shared} {Φ : AF → Loc → AH → Prop}
  {sc cs : Scope} {env : Env} {loc loc' : Loc} {G : GT} {d u n : Nat}

theorem St.enterC (S : St prog w ca B P L m H h) {C : Addr} {oL : Obj} (gL : h.get? L = some oL) (hk : ∀ b x, h.get? b = some x → h'.get? b = some x) (hC : h.objs.size ≤ C) (hn : h'.Ns C m') {cells : List (Str × Addr)} (hab : ∀ n c, (n, c) ∈ cells → C < c) :
    St prog w ca B (fun b => if b ∈ cells.map (·.2) then h'.get? b else Mine.setP P L oL b) C m' H h' := by
  have S₁ := S.enter gL hk hC hn
  refine ⟨S₁.fr, ?_, fun b x e => ?_, fun b x e => ?_⟩
  · show (if C ∈ cells.map (·.2) then _ else _) = none
    rw [if_neg]
    · exact S₁.offL
    · intro q
      obtain ⟨p, hp, e⟩ := List.mem_map.mp q
      have := hab p.1 p.2 hp
      rw [e] at this
      exact Nat.lt_irrefl _ this
  · split at e
    · exact e
    · exact S₁.keep b x e
  · obtain ⟨r1, r2, r3, ob, r4, r5⟩ := S₁.rep b x e
    refine ⟨?_, r2, r3, ob, r4, r5⟩
    show (if b ∈ cells.map (·.2) then _ else _) = none
    rw [if_neg]
    · exact r1
    · intro q
      obtain ⟨p, hp, e'⟩ := List.mem_map.mp q
      have l1 := hab p.1 p.2 hp
      rw [e'] at l1
      obtain ⟨_, g, _⟩ := S.get e
      exact absurd (Heap.lt_size g) (Nat.not_lt.mpr (Nat.le_of_lt (Nat.lt_of_le_of_lt hC l1)))

theorem mem_lookup {cells : List (Str × Addr)} {x : Str} {c : Addr} (e : cells.lookup x = some c) : c ∈ cells.map (·.2) := List.mem_map.mpr ⟨(x, c), PySem.mem_of_lookup e, rfl⟩

theorem room_deeper (R : Room A (d + 2) (u + 103)) : Room (A.deeper env) (d + 1) (u + 100) := ⟨R.hd, by have := R.dp; show A.depth + 1 + (d + 1) < recursionLimit; omega, by have := R.un; show A.units + 3 + (u + 100) < cLine; omega⟩

theorem call_core {a : Addr} {fd : FD} {vs : List AV} {vals : List Value} {Φ : AV → AH → Prop} {Q : Result → Shared → Prop} (C : SC prog w K ca T B) (D : Dom prog w K ca T) (SG : SoundG prog w K ca B T G d u) (FO : FnObj prog w K a fd)
    (R : Room A (d + 2) (u + 103)) (X : K.In s.heap) (nl : s.heap.NoLimit) (Plow : ∀ b, s.heap.objs.size ≤ b → P₀ b = none) (Blow : ∀ b, s.heap.objs.size ≤ b → B.get? b = none)
    (S₀ : ∀ h₁ L' m' (cells : List (Str × Addr)), (∀ b o, s.heap.get? b = some o → h₁.get? b = some o) → s.heap.objs.size ≤ L' → h₁.Ns L' m' → (∀ n c, (n, c) ∈ cells → L' < c) → St prog w ca B (fun b => if b ∈ cells.map (·.2) then h₁.get? b else P₀ b) L' m' H h₁)
    (r : VRs vs vals) (hlen : vs.length + fd.dflts.length = fd.names.length)
    (k : wpSs G fd.body fd.scope (fd.names.zip (vs ++ fd.dflts)) H fun fl _ H' => match fl with | .ret v => Φ v H' | .next => Φ .none H' | _ => False)
    (fin : ∀ h' tk P' L' m' H' av v, St prog w ca B P' L' m' H' h' → (∀ b o, P₀ b = some o → P' b = some o) → VR av v → Φ av H' → Q (.ok (.ret v)) { s with heap := h', toks := tk }) :
    codeAny (model prog w) A (.call (.ref a) ⟨vals, []⟩) Q s := by
  obtain ⟨qual, dV, kV, doc, pm, cdv, ct, oc, an, od, osl, ho, hcd, hb⟩ := FO.obj
  obtain ⟨dvals, rd, hb⟩ := hb s vals X (by rw [r.length]; exact hlen)
  have rr := r.append rd
  have hl : (vals ++ dvals).length = fd.names.length := by rw [rr.length, List.length_append]; exact hlen
  refine codeAny_call_function (by have := R.dp; omega) (X _ _ ho) rfl FO.co FO.gen rfl (codeRec_of X hcd) (hb _ _ _ _ ?_)
  have hnm := zip_names hl
  refine wpAny_newFunctionEnv_cells FO.kind (fun x hx => kindsX (scope := fd.scope) (binds := fd.names.zip (vals ++ dvals)) ?_ _ x hx) fun env' he s' x => ?_
  · refine List.all_eq_true.mpr fun y hy => ?_
    have : y.1 ∈ fd.names := by rw [← hnm]; exact List.mem_map_of_mem hy
    exact List.all_eq_true.mp FO.named y.1 this
  have hL : env'.locals = s.heap.objs.size := by rw [he]; rfl
  have hcells : env'.cells = cellsFrom (s.heap.objs.size + 1) fd.scope.names [] := by rw [he]; rfl
  have hsc : env'.scope = fd.scope := by rw [he]; rfl
  have hgl : env'.globals = mainGlobals := by rw [he]; rfl
  have hbl : env'.builtins = builtinsNs := by rw [he]; rfl
  have hkd : ∀ y, env'.kindOf y = fd.scope.names.lookup y := fun y => by rw [he]; rfl
  clear he
  refine ⟨nl.keeps x.toInCall.keep, codeAny_func ?_⟩
  obtain ⟨h₁, tk, rfl, _⟩ := x.done
  have hk₁ : ∀ b o, s.heap.get? b = some o → h₁.get? b = some o := x.toInCall.keep
  have ns : h₁.Ns env'.locals _ := x.toInCall.ns
  have hab : ∀ n c, (n, c) ∈ env'.cells → env'.locals < c := x.above
  have S₁ := S₀ h₁ env'.locals _ env'.cells hk₁ (by rw [hL]; exact Nat.le_refl _) ns hab
  have cellAt : ∀ y c, env'.cells.lookup y = some c → (∃ o, h₁.get? c = some o ∧ o.data = .cell (bindC env'.kindOf (fd.names.zip (vals ++ dvals)) (fun _ => none) y)) := fun y c hc => x.cell y c hc
  have nd : ((fd.names.zip (vals ++ dvals)).map (·.1)).Nodup := by rw [hnm]; exact FO.nd'
  have E₁ : EnvR fd.scope env' (fun b => if b ∈ env'.cells.map (·.2) then h₁.get? b else P₀ b) env'.locals (bindL env'.kindOf (fd.names.zip (vals ++ dvals)) fun _ => none) (fd.names.zip (vs ++ fd.dflts)) := by
    refine ⟨by rw [hsc]; exact FO.kind, hgl, hbl, rfl, fun y hy => ?_, fun y av e hy => ?_, fun y hy => ?_⟩
    · rw [hkd]
      unfold isGlob at hy
      rw [Bool.and_eq_true] at hy
      obtain ⟨hy, _⟩ := hy
      split at hy
      · rename_i q; exact q
      · cases hy
    · obtain ⟨v, hm, rv⟩ := zip_get rr e
      refine ⟨v, rv, ?_⟩
      obtain ⟨b1, b2⟩ := bind_get (k := env'.kindOf) (m := fun _ => none) (cm := fun _ => none) nd hm
      have hin : y ∈ fd.names := by rw [← hnm]; exact List.mem_map_of_mem hm
      have hk := List.all_eq_true.mp FO.named y hin
      rcases Bool.or_eq_true_iff.mp hk with q | q
      · have q : env'.kindOf y = some .local := by rw [hkd]; simpa using q
        exact .inl ⟨q, b1 q⟩
      · have q' : fd.scope.names.lookup y = some .cell := by simpa using q
        have q : env'.kindOf y = some .cell := by rw [hkd]; exact q'
        obtain ⟨c, hc⟩ := Option.isSome_iff_exists.mp (cellsFrom_some fd.scope.names (s.heap.objs.size + 1) [] (.inl q'))
        rw [← hcells] at hc
        obtain ⟨o, ho, hd⟩ := cellAt y c hc
        rw [b2 (by rw [q]; simp)] at hd
        exact .inr ⟨q, c, o, hc, (if_pos (mem_lookup hc)).trans ho, hd⟩
    · refine ⟨by rw [hkd]; exact hy, ?_⟩
      obtain ⟨c, hc⟩ := Option.isSome_iff_exists.mp (cellsFrom_some fd.scope.names (s.heap.objs.size + 1) [] (.inl hy))
      exact ⟨c, by rw [hcells]; exact hc⟩
  have above : ∀ y c, env'.cells.lookup y = some c → s.heap.objs.size ≤ c := fun y c hc => by
    have := hab y c (PySem.mem_of_lookup hc)
    rw [hL] at this
    exact Nat.le_of_lt this
  have F₁ : FR fd.scope env' B P₀ (fun b => if b ∈ env'.cells.map (·.2) then h₁.get? b else P₀ b) := by
    have off : ∀ y c, env'.cells.lookup y = some c → P₀ c = none := fun y c hc => Plow c (above y c hc)
    refine ⟨fun b o e => ?_, off, fun y c hc => ?_, fun y z c h1 h2 => name_of_addr x.apart (PySem.mem_of_lookup h1) (PySem.mem_of_lookup h2), fun y hy => by rw [hkd]; exact hy⟩
    · show (if b ∈ env'.cells.map (·.2) then _ else _) = _
      rw [if_neg]
      · exact e
      · intro q
        obtain ⟨pp, hp, e'⟩ := List.mem_map.mp q
        have hlt := hab pp.1 pp.2 hp
        rw [hL, e'] at hlt
        have hge : s.heap.objs.size ≤ b := Nat.le_of_lt hlt
        rw [Plow b hge] at e
        cases e
    · obtain ⟨o, ho, hd⟩ := cellAt y c hc
      exact ⟨Blow c (above y c hc), o, _, (if_pos (mem_lookup hc)).trans ho, hd⟩
  refine (stmts_ok C D SG fd.body).go (s := { s with heap := h₁, toks := tk }) E₁ F₁ S₁ (room_deeper R) k fun h₂ tk₂ P₂ m₂ loc₂ H₂ af f E₂ F₂ S₂ v k₂ => ?_
  cases v with
  | next => exact fin h₂ tk₂ P₂ _ m₂ H₂ .none .none S₂ F₂.sub .none k₂
  | ret rv => exact fin h₂ tk₂ P₂ _ m₂ H₂ _ _ S₂ F₂.sub rv k₂
  | brk => exact k₂.elim
  | cont => exact k₂.elim
theorem call_ok {a : Addr} {fd : FD} {vs : List AV} {vals : List Value} {Φ : AV → AH → Prop} (C : SC prog w K ca T B) (D : Dom prog w K ca T) (SG : SoundG prog w K ca B T G d u) (FO : FnObj prog w K a fd)
    (R : Room A (d + 2) (u + 103)) (S : St prog w ca B P L m H s.heap) (r : VRs vs vals) (hlen : vs.length + fd.dflts.length = fd.names.length)
    (k : wpSs G fd.body fd.scope (fd.names.zip (vs ++ fd.dflts)) H fun fl _ H' => match fl with | .ret v => Φ v H' | .next => Φ .none H' | _ => False) :
    codeAny (model prog w) A (.call (.ref a) ⟨vals, []⟩) (CallPost prog w ca B P L m Φ s) s := by
  obtain ⟨oL, _, _, gL, _⟩ := id S.fr.ns
  obtain ⟨p, loose, mg, mb, TR⟩ := C.top
  have Lold : L < s.heap.objs.size := Heap.lt_size gL
  refine call_core (P₀ := Mine.setP P L oL) C D SG FO R (C.kin S) (TR.nolimit.keeps S.fr.keep) (fun b hb => ?_) (fun b hb => S.noB (get_of_none hb)) (fun h₁ L' m' cells hk hL ns hab => S.enterC gL hk hL ns hab) r hlen k fun h' tk P' L' m' H' av v S' sub rv kv => ?_
  · rw [setP_ne (Ne.symm (Nat.ne_of_lt (Nat.lt_of_lt_of_le Lold hb)))]
    exact S.noP (get_of_none hb)
  · exact ⟨h', tk, av, H', rfl, S.leave gL S' sub, rv, kv⟩
/-- a call from where no frame is -/
theorem call_top {a : Addr} {fd : FD} {vs : List AV} {vals : List Value} {Φ : AV → AH → Prop} {Q : Result → Shared → Prop} (C : SC prog w K ca T B) (D : Dom prog w K ca T) (SG : SoundG prog w K ca B T G d u) (FO : FnObj prog w K a fd)
    (R : Room A (d + 2) (u + 103)) (hB : ∀ b o, B.get? b = some o → s.heap.get? b = some o) (hsz : B.objs.size ≤ s.heap.objs.size)
    (rep : ∀ b o, H b = some o → Own B b ∧ ∃ obj, s.heap.get? b = some obj ∧ ORel prog w ca o obj) (r : VRs vs vals) (hlen : vs.length + fd.dflts.length = fd.names.length)
    (k : wpSs G fd.body fd.scope (fd.names.zip (vs ++ fd.dflts)) H fun fl _ H' => match fl with | .ret v => Φ v H' | .next => Φ .none H' | _ => False)
    (fin : ∀ h' tk P' L' m' H' av v, St prog w ca B P' L' m' H' h' → VR av v → Φ av H' → Q (.ok (.ret v)) { s with heap := h', toks := tk }) :
    codeAny (model prog w) A (.call (.ref a) ⟨vals, []⟩) Q s := by
  obtain ⟨p, loose, mg, mb, TR⟩ := C.top
  have Blow : ∀ b, s.heap.objs.size ≤ b → B.get? b = none := fun b hb => get_of_none (Nat.le_trans hsz hb)
  refine call_core (P₀ := fun _ => none) C D SG FO R (C.X.keeps hB) (TR.nolimit.keeps hB) (fun b hb => rfl) Blow (fun h₁ L' m' cells hk hL ns hab => ?_) r hlen k fun h' tk P' L' m' H' av v S' sub rv kv => fin h' tk P' L' m' H' av v S' rv kv
  refine ⟨⟨ns, fun b o e => hk b o (hB b o e), Nat.le_trans hsz hL⟩, ?_, fun b x e => ?_, fun b x e => ?_⟩
  · show (if L' ∈ cells.map (·.2) then _ else _) = none
    rw [if_neg]
    intro q
    obtain ⟨p, hp, e⟩ := List.mem_map.mp q
    have := hab p.1 p.2 hp
    rw [e] at this
    exact Nat.lt_irrefl _ this
  · split at e
    · exact e
    · cases e
  · obtain ⟨r1, ob, r2, r3⟩ := rep b x e
    have hb : b < s.heap.objs.size := Heap.lt_size r2
    refine ⟨?_, Nat.ne_of_lt (Nat.lt_of_lt_of_le hb hL), r1, ob, hk b ob r2, r3⟩
    show (if b ∈ cells.map (·.2) then _ else _) = none
    rw [if_neg]
    intro q
    obtain ⟨p, hp, e'⟩ := List.mem_map.mp q
    have := hab p.1 p.2 hp
    rw [e'] at this
    exact absurd (Nat.lt_of_lt_of_le hb hL) (Nat.not_lt.mpr (Nat.le_of_lt this))

theorem sound (C : SC prog w K ca T B) (D : Dom prog w K ca T) : ∀ n, SoundG prog w K ca B T (Γ T n) (2 * n) (103 * n)
  | 0 => fun _ _ _ _ _ _ _ _ _ _ _ _ _ _ _ k => k.elim
  | n + 1 => by
    intro id a A P L m H s vs vals Φ FO R S r k
    have SG := sound C D n
    unfold Γ at k
    split at k
    · rename_i fd hfd
      exact call_ok C D SG (FO fd hfd) ⟨R.hd, by have := R.dp; omega, by have := R.un; omega⟩ S r k.1 k.2
    · exact k.elim
end
end
section
abbrev pw : Program := PySem.Challenge.pw_pq1338_01

/-- a def of the text, as the top leaves it: name, qualified name, where it stands, its address, its code's, its defaults, its module and the numbers of its code -/
structure Row where
  name : Str
  qual : Str
  i : Nat
  j : Option Nat
  a : Addr
  c : Addr
  dV : Option Addr
  pm : Str
  pt : Tok
  t1 : Tok
  line : Int
  argc : Int
  fl : Int
  x : Addr
  t4 : Nat
  cell : Bool

noncomputable def de (x : Str) (t : Tok) (v : Value) : Str × Tok × Value := (x, t, v)
noncomputable def topRows : List Row := [
  ⟨"integer", "integer", 3, none, 57, 56, none, "vectorcove.values", 194, 238, 16, 1, 3, 51, 242, false⟩,
  ⟨"double", "double", 4, none, 64, 63, none, "vectorcove.values", 194, 245, 18, 1, 3, 58, 249, false⟩,
  ⟨"character", "character", 5, none, 71, 70, none, "vectorcove.values", 194, 252, 20, 1, 3, 65, 256, false⟩,
  ⟨"length", "length", 6, none, 78, 77, none, "vectorcove.values", 194, 259, 22, 1, 3, 72, 264, false⟩,
  ⟨"is_vector", "is_vector", 7, none, 85, 84, none, "vectorcove.values", 194, 267, 33, 1, 3, 79, 271, false⟩,
  ⟨"share", "share", 9, none, 99, 98, none, "vectorcove.values", 194, 281, 37, 1, 3, 93, 285, false⟩,
  ⟨"get_attr", "get_attr", 11, none, 106, 105, none, "vectorcove.attrs", 288, 290, 42, 2, 3, 100, 295, false⟩,
  ⟨"put_attr", "put_attr", 13, none, 120, 119, none, "vectorcove.attrs", 288, 306, 51, 3, 3, 114, 312, false⟩,
  ⟨"set_names", "set_names", 14, none, 125, 124, none, "vectorcove.attrs", 288, 315, 55, 2, 3, 121, 318, true⟩,
  ⟨"names_of", "names_of", 15, none, 130, 129, none, "vectorcove.attrs", 288, 321, 73, 1, 3, 126, 324, true⟩,
  ⟨"dim_of", "dim_of", 16, none, 137, 136, none, "vectorcove.attrs", 288, 327, 89, 1, 3, 131, 332, false⟩,
  ⟨"class_attr", "class_attr", 18, none, 149, 148, none, "vectorcove.attrs", 288, 341, 99, 1, 3, 143, 346, false⟩,
  ⟨"match_names", "match_names", 27, none, 267, 266, some 262, "vectorcove.callargs", 396, 505, 182, 3, 3, 263, 508, true⟩,
  ⟨"take", "take", 28, none, 273, 272, some 268, "vectorcove.callargs", 396, 511, 191, 3, 3, 269, 514, true⟩,
  ⟨"gcd", "gcd", 33, none, 283, 282, none, "vectorcove.rational", 517, 528, 206, 2, 3, 277, 533, false⟩,
  ⟨"make", "make", 34, none, 290, 289, none, "vectorcove.rational", 517, 536, 210, 2, 3, 284, 542, false⟩,
  ⟨"from_int", "from_int", 35, none, 297, 296, none, "vectorcove.rational", 517, 545, 220, 1, 3, 291, 549, false⟩,
  ⟨"is_na", "is_na", 36, none, 304, 303, none, "vectorcove.rational", 517, 552, 224, 1, 3, 298, 556, false⟩,
  ⟨"div", "div", 40, none, 332, 331, none, "vectorcove.rational", 517, 581, 236, 2, 3, 326, 586, false⟩,
  ⟨"with_names", "with_names", 80, none, 581, 580, none, "vectorcove.coerce", 820, 933, 552, 2, 3, 575, 938, false⟩,
  ⟨"as_kind", "as_kind", 81, none, 586, 585, none, "vectorcove.coerce", 820, 941, 556, 3, 3, 582, 944, true⟩,
  ⟨"is_factor", "is_factor", 83, none, 593, 592, none, "vectorcove.sequences", 947, 949, 564, 1, 3, 587, 953, false⟩,
  ⟨"pick", "pick", 84, none, 598, 597, none, "vectorcove.sequences", 947, 956, 566, 2, 3, 594, 959, true⟩,
  ⟨"is_lacking", "is_lacking", 86, none, 605, 604, none, "vectorcove.sorting", 962, 964, 578, 2, 3, 599, 969, false⟩,
  ⟨"compare_items", "compare_items", 87, none, 612, 611, none, "vectorcove.sorting", 962, 972, 580, 3, 3, 606, 978, false⟩,
  ⟨"check_sortable", "check_sortable", 88, none, 619, 618, none, "vectorcove.sorting", 962, 981, 588, 1, 3, 613, 985, false⟩,
  ⟨"compare_places", "compare_places", 89, none, 626, 625, none, "vectorcove.sorting", 962, 988, 591, 5, 3, 620, 1001, false⟩,
  ⟨"compare_keys", "compare_keys", 90, none, 633, 632, none, "vectorcove.sorting", 962, 1004, 604, 5, 3, 627, 1014, false⟩,
  ⟨"merge_runs", "merge_runs", 91, none, 640, 639, none, "vectorcove.sorting", 962, 1017, 610, 5, 3, 634, 1028, false⟩,
  ⟨"merge_sort", "merge_sort", 92, none, 645, 644, none, "vectorcove.sorting", 962, 1031, 622, 4, 3, 641, 1034, true⟩,
  ⟨"each_key", "each_key", 93, none, 650, 649, none, "vectorcove.sorting", 962, 1037, 634, 2, 3, 646, 1040, true⟩,
  ⟨"kept_places", "kept_places", 94, none, 657, 656, none, "vectorcove.sorting", 962, 1043, 638, 2, 3, 651, 1052, false⟩,
  ⟨"order_by", "order_by", 95, none, 665, 664, some 658, "vectorcove.sorting", 962, 1055, 649, 3, 3, 659, 1063, false⟩,
  ⟨"tie_groups", "tie_groups", 96, none, 672, 671, none, "vectorcove.sorting", 962, 1066, 658, 2, 3, 666, 1073, false⟩,
  ⟨"group_rank", "group_rank", 97, none, 679, 678, none, "vectorcove.sorting", 962, 1076, 666, 4, 3, 673, 1083, false⟩,
  ⟨"rank_of", "rank_of", 98, none, 687, 686, some 680, "vectorcove.sorting", 962, 1087, 676, 2, 3, 681, 1096, false⟩,
  ⟨"needed_arg", "needed_arg", 100, none, 694, 693, none, "vectorcove.seqcalls", 1099, 1101, 690, 2, 3, 688, 1106, false⟩,
  ⟨"flag_arg", "flag_arg", 101, none, 701, 700, none, "vectorcove.seqcalls", 1099, 1109, 694, 2, 3, 695, 1115, false⟩,
  ⟨"flags_arg", "flags_arg", 102, none, 706, 705, none, "vectorcove.seqcalls", 1099, 1118, 703, 2, 3, 702, 1121, true⟩,
  ⟨"b_sort", "b_sort", 103, none, 713, 712, none, "vectorcove.seqcalls", 1099, 1124, 707, 3, 3, 707, 1135, false⟩,
  ⟨"b_order", "b_order", 104, none, 718, 717, none, "vectorcove.seqcalls", 1099, 1138, 718, 3, 3, 714, 1141, true⟩,
  ⟨"b_rank", "b_rank", 105, none, 725, 724, none, "vectorcove.seqcalls", 1099, 1144, 723, 3, 3, 719, 1156, false⟩,
  ⟨"_law_hat", "_law_hat", 107, none, 730, 729, none, "law_pq1338_01", 1159, 1161, 735, 1, 3, 726, 1164, true⟩,
  ⟨"_law_out", "_law_out", 108, none, 737, 736, none, "law_pq1338_01", 1159, 1167, 737, 2, 3, 731, 1172, false⟩,
  ⟨"_law_vector", "_law_vector", 109, none, 744, 743, none, "law_pq1338_01", 1159, 1175, 739, 1, 3, 738, 1183, false⟩,
  ⟨"_law_before", "_law_before", 110, none, 751, 750, none, "law_pq1338_01", 1159, 1186, 753, 5, 3, 745, 1196, false⟩,
  ⟨"_law_told", "_law_told", 111, none, 758, 757, none, "law_pq1338_01", 1159, 1199, 761, 1, 3, 752, 1203, false⟩,
  ⟨"_law_flag", "_law_flag", 112, none, 765, 764, none, "law_pq1338_01", 1159, 1206, 763, 1, 3, 759, 1210, false⟩,
  ⟨"law", "law", 113, none, 770, 769, none, "law_pq1338_01", 1159, 1213, 765, 1, 3, 766, 1216, true⟩]
noncomputable def vecRows : List Row := [
  ⟨"__init__", "Vector.__init__", 2, some 0, 36, 35, some 29, "vectorcove.values", 194, 208, 7, 4, 3, 30, 215, false⟩]
noncomputable def matRows : List Row := [
  ⟨"__init__", "Matching.__init__", 23, some 0, 195, 194, none, "vectorcove.callargs", 396, 410, 114, 3, 3, 189, 416, false⟩,
  ⟨"exact", "Matching.exact", 23, some 1, 202, 201, none, "vectorcove.callargs", 396, 419, 120, 1, 3, 196, 425, false⟩,
  ⟨"partial", "Matching.partial", 23, some 2, 209, 208, none, "vectorcove.callargs", 396, 428, 130, 1, 3, 203, 433, false⟩,
  ⟨"partial_of", "Matching.partial_of", 23, some 3, 216, 215, none, "vectorcove.callargs", 396, 436, 137, 2, 3, 210, 443, false⟩,
  ⟨"positional", "Matching.positional", 23, some 4, 223, 222, none, "vectorcove.callargs", 396, 446, 148, 1, 3, 217, 452, false⟩,
  ⟨"is_free", "Matching.is_free", 23, some 5, 230, 229, none, "vectorcove.callargs", 396, 455, 160, 2, 3, 224, 460, false⟩,
  ⟨"rest", "Matching.rest", 23, some 6, 235, 234, none, "vectorcove.callargs", 396, 463, 163, 1, 3, 231, 466, true⟩]
noncomputable def globRows : List (Str × Tok × Value) := [
  de "__name__" 165 (.str ("law_pq1338_01") 1159),
  de "__doc__" 166 .none,
  de "__package__" 167 .none,
  de "__loader__" 168 (.builtin "__main__.__loader__#opaque"),
  de "__spec__" 169 .none,
  de "__annotations__" 170 (.ref 6),
  de "__builtins__" 171 (.ref 4),
  de "__file__" 173 (.str ("/claim/cut.py") 172),
  de "__cached__" 174 .none,
  de "_wall" 193 (.ref 21),
  de "Vector" 237 (.ref 46),
  de "integer" 244 (.ref 57),
  de "double" 251 (.ref 64),
  de "character" 258 (.ref 71),
  de "length" 266 (.ref 78),
  de "is_vector" 273 (.ref 85),
  de "is_atomic" 280 (.ref 92),
  de "share" 287 (.ref 99),
  de "get_attr" 297 (.ref 106),
  de "drop_attr" 305 (.ref 113),
  de "put_attr" 314 (.ref 120),
  de "set_names" 320 (.ref 125),
  de "names_of" 326 (.ref 130),
  de "dim_of" 334 (.ref 137),
  de "dimnames_of" 340 (.ref 142),
  de "class_attr" 348 (.ref 149),
  de "CoveError" 370 (.ref 159),
  de "Refusal" 395 (.ref 179),
  de "Matching" 480 (.ref 238),
  de "doubled_text" 487 (.ref 249),
  de "argument_text" 498 (.ref 256),
  de "unused_text" 504 (.ref 261),
  de "match_names" 510 (.ref 267),
  de "take" 516 (.ref 273),
  de "NAN" 521 (.ref 274),
  de "INF" 524 (.ref 275),
  de "ZERO" 527 (.ref 276),
  de "gcd" 535 (.ref 283),
  de "make" 544 (.ref 290),
  de "from_int" 551 (.ref 297),
  de "is_na" 558 (.ref 304),
  de "is_finite" 565 (.ref 311),
  de "marked" 573 (.ref 318),
  de "neg" 580 (.ref 325),
  de "div" 588 (.ref 332),
  de "to_whole" 596 (.ref 339),
  de "nearest_whole" 606 (.ref 346),
  de "exponent" 616 (.ref 353),
  de "compare" 626 (.ref 360),
  de "MOST_EXPONENT" 630 (.int 4096 629),
  de "whole_text" 640 (.ref 367),
  de "special_text" 647 (.ref 374),
  de "scaled" 657 (.ref 381),
  de "significant" 667 (.ref 388),
  de "without_tail" 675 (.ref 395),
  de "scientific_text" 687 (.ref 402),
  de "fixed_text" 697 (.ref 409),
  de "measures" 710 (.ref 416),
  de "chosen_form" 727 (.ref 423),
  de "formed" 736 (.ref 430),
  de "common_texts" 742 (.ref 435),
  de "number_text" 751 (.ref 443),
  de "digits_value" 761 (.ref 450),
  de "digit_run" 770 (.ref 457),
  de "exponent_value" 779 (.ref 464),
  de "powered" 788 (.ref 471),
  de "unsigned_number" 807 (.ref 478),
  de "parse_number" 819 (.ref 485),
  de "MOST_INTEGER" 823 (.int 2147483647 822),
  de "note" 831 (.ref 492),
  de "as_logical_text" 838 (.ref 499),
  de "double_to_integer" 847 (.ref 506),
  de "text_to_double" 857 (.ref 513),
  de "to_logical" 865 (.ref 520),
  de "to_integer" 874 (.ref 527),
  de "to_double" 883 (.ref 534),
  de "to_text" 891 (.ref 541),
  de "item_as" 901 (.ref 548),
  de "is_atomic_kind" 908 (.ref 555),
  de "list_item_as" 918 (.ref 562),
  de "refuse_type" 926 (.ref 569),
  de "as_vector_kind" 932 (.ref 574),
  de "with_names" 940 (.ref 581),
  de "as_kind" 946 (.ref 586),
  de "is_factor" 955 (.ref 593),
  de "pick" 961 (.ref 598),
  de "is_lacking" 971 (.ref 605),
  de "compare_items" 980 (.ref 612),
  de "check_sortable" 987 (.ref 619),
  de "compare_places" 1003 (.ref 626),
  de "compare_keys" 1016 (.ref 633),
  de "merge_runs" 1030 (.ref 640),
  de "merge_sort" 1036 (.ref 645),
  de "each_key" 1042 (.ref 650),
  de "kept_places" 1054 (.ref 657),
  de "order_by" 1065 (.ref 665),
  de "tie_groups" 1075 (.ref 672),
  de "group_rank" 1085 (.ref 679),
  de "rank_of" 1098 (.ref 687),
  de "needed_arg" 1108 (.ref 694),
  de "flag_arg" 1117 (.ref 701),
  de "flags_arg" 1123 (.ref 706),
  de "b_sort" 1137 (.ref 713),
  de "b_order" 1143 (.ref 718),
  de "b_rank" 1158 (.ref 725),
  de "_law_hat" 1166 (.ref 730),
  de "_law_out" 1174 (.ref 737),
  de "_law_vector" 1185 (.ref 744),
  de "_law_before" 1198 (.ref 751),
  de "_law_told" 1205 (.ref 758),
  de "_law_flag" 1212 (.ref 765),
  de "law" 1218 (.ref 770)]
-- globRows: 112
noncomputable def vecDict : List (Str × Tok × Value) := [
  de "__module__" 203 (.str ("vectorcove.values") 194),
  de "__firstlineno__" 207 (.int 5 206),
  de "__init__" 217 (.ref 36),
  de "copy" 224 (.ref 43),
  de "__static_attributes__" 230 (.ref 44),
  de "__dict__" 232 (.ref 47),
  de "__weakref__" 234 (.ref 48),
  de "__doc__" 235 .none]
-- vecDict: 4
noncomputable def matDict : List (Str × Tok × Value) := [
  de "__module__" 405 (.str ("vectorcove.callargs") 396),
  de "__firstlineno__" 409 (.int 112 408),
  de "__init__" 418 (.ref 195),
  de "exact" 427 (.ref 202),
  de "partial" 435 (.ref 209),
  de "partial_of" 445 (.ref 216),
  de "positional" 454 (.ref 223),
  de "is_free" 462 (.ref 230),
  de "rest" 468 (.ref 235),
  de "__static_attributes__" 473 (.ref 236),
  de "__dict__" 475 (.ref 239),
  de "__weakref__" 477 (.ref 240),
  de "__doc__" 478 .none]
-- matDict: 4
noncomputable def Row.stmt (r : Row) : Option Stmt := match r.j with
  | .none => pw.main.body[r.i]?
  | some j => methOf pw.main.body[r.i]? j
noncomputable def Row.code (r : Row) : Obj := { cls := .type "code", dict := none, data := .fields (List.toArray (([.str r.name r.t1, .str r.qual (r.t1 + 1), .str "/claim/cut.py" (r.t1 + 2), .int r.line 0, .int r.argc 0, .int 0 0, .int 0 0, .int r.fl 0, .ref r.x, .bool true, .int 181 0, .ref (r.x + 1), .none] : List Value) ++
  (if r.cell then ([.none, .none, .ref (r.x + 2)] : List Value) else [.ref (r.x + 2), .ref (r.x + 3), .ref (r.x + 4)]) ++ [.int r.t4 0, .int r.line 0, .str "/claim/cut.py" (r.t4 + 1)])), slots := #[] }
noncomputable def Row.dv (r : Row) : Value := match r.dV with | .none => .none | some a => .ref a
noncomputable def Row.fn (r : Row) : Obj := match r.stmt with
  | some (.FunctionDef name args body _ _ _ scope _ _ _) => { cls := .type "function", dict := none, data := .func (fnOf name r.qual args body scope r.dv .none .none (.str r.pm r.pt) none (.ref r.c) .none), slots := #[] }
  | _ => default
noncomputable def dictRows (P : Params) (es : List (Str × Tok × Value)) (ep : Nat) : Obj := { cls := .type "dict", dict := none, data := .dict (es.map fun e => { hash := PyData.keyHash P e.1, key := .str e.1 e.2.1, val := e.2.2 }).toArray ep, slots := #[] }
noncomputable def clsOb (nm : Str) (C ns : Addr) (t1 t2 : Tok) : Obj := { cls := .type "type", dict := none, data := .cls (ClassData.mk nm [.type "object"] [.ref C, .type "object"] ns nm true [] [] false none false), slots := #[none, none, some (.str nm t1), some (.str nm t2), some (.builtin "object.__new__"), some (.bool true)] }
noncomputable def tupOb (vs : List Value) : Obj := { cls := .type "tuple", dict := none, data := .seq vs.toArray, slots := #[] }
noncomputable def allRows : List Row := topRows ++ vecRows ++ matRows
/-- the written part -/
noncomputable def KP (P : Params) : Frag := (3, dictRows P globRows 112) :: (45, dictRows P vecDict 4) :: (46, clsOb "Vector" 46 45 196 204) :: (237, dictRows P matDict 4) :: (238, clsOb "Matching" 238 237 398 406) :: (29, tupOb [.none]) :: (268, tupOb [.none]) :: (262, tupOb [.none]) :: (658, tupOb [.bool false, .bool true]) :: (680, tupOb [.str "average" 1086]) ::
  (allRows.map (fun r => (r.a, r.fn)) ++ allRows.map fun r => (r.c, r.code))
noncomputable def asK : List Addr := [3, 45, 46, 237, 238, 29, 268, 262, 658, 680] ++ (allRows.map (·.a) ++ allRows.map (·.c))
theorem asK_ok (P : Params) : asK = (KP P).map (·.1) := by
  simp [asK, KP, List.map_append, Function.comp_def]
noncomputable def Row.dfl (r : Row) : List AV := match r.dV with
  | some 29 => [.none]
  | some 268 => [.none]
  | _ => []
noncomputable def Row.fd (r : Row) : Option FD := fdOfStmt r.dfl r.stmt
noncomputable def rowsOf : Cls → List Row
  | .vec => vecRows
  | .mat => matRows
noncomputable def TT : FnId → Option FD
  | .fn f => (topRows.find? fun r => r.name == f).bind Row.fd
  | .meth c n => ((rowsOf c).find? fun r => r.name == n).bind Row.fd
end
section
noncomputable def runBy (stp : SharedT → Thread → Option (SharedT × Thread)) (ok : Thread → Bool) : Nat → SharedT → Thread → Option SharedT
  | 0, _, _ => none
  | n + 1, s, t => match through t with
    | true => some s
    | false => match ok t with
      | false => none
      | true => match stp s t with
        | some (s', t') => runBy stp ok n s' t'
        | none => none
theorem runBy_of {tb : String → Option Builtin} {p : Program} {w : World} {n₀ : Nat} {ann : Option Value} : ∀ {n : Nat} {s s' : SharedT} {t : Thread},
    runBy (stepT (denote tb) p w) (stepOk n₀ ann) n s t = some s' → topRun tb p w n₀ ann n s.abs t = some s'.abs
  | 0, _, _, _, h => by cases h
  | n + 1, s, s', t, h => by
    unfold runBy at h
    unfold topRun
    cases ht : through t with
    | true => rw [ht] at h; cases h; rfl
    | false =>
      rw [ht] at h
      cases hk : stepOk n₀ ann t with
      | false => rw [hk] at h; cases h
      | true =>
        rw [hk] at h
        cases hs : stepT (denote tb) p w s t with
        | none => rw [hs] at h; cases h
        | some r => obtain ⟨s₂, t₂⟩ := r; rw [hs] at h; rw [stepT_spec hs]; exact runBy_of h

noncomputable def mkT (os : List Obj) : BT := (os.foldl (fun (r : BT × Nat) o => (r.1.ins r.2 o, r.2 + 1)) (.nil, 0)).1
noncomputable def bootS (w : World) (os : OsState) : SharedT := ⟨mkT (boot_heap w.params).objs.toList, 11, {}, #[], boot_drawn, boot_toks, os⟩
theorem bootS_abs (w : World) (os : OsState) : (bootS w os).abs = ⟨boot_heap w.params, #[], boot_drawn, boot_toks, os⟩ := by kernel_rfl

noncomputable def qv : Program := view pw [113]
noncomputable def sLaw : Str := Str.ofString "law"
noncomputable def looseL : List Str := pw.boundNames.filter fun n => !(n == sLaw)
noncomputable def looks (p : Program) (w : World) (s : Shared) := (staticsOk (importedModules p.main.body) (boot_heap w.params) s.heap && namesBound p s.heap && gensDone s && laidKept (boot_heap w.params) s.heap)


noncomputable def XtL (s : Shared) : Bool := xlAt qv [] s && recOk (RowW.records PySem.Challenge.rw_pq1338_01.row.toRowW) s

noncomputable def hookK : Hook := kHook KP asK asK_ok

theorem bigZ (w : World) (os : OsState) : (runBy (stepT (denote treeTable) pw w) (stepOk 11 (some (.ref 6))) 8406 (bootS w os) (topStub pw)).map (fun s => (looks pw w s.abs, openSeen qv looseL (importedModules pw.main.body) XtL true s.abs, s.n, asK.map s.tree.get)) = some (true, openGood qv looseL, 771, (KP w.params).map fun p => some p.2) := by
  rw [PySem.W.Fast.te10156331382660048174, PySem.W.Fast.te11892475500146522536, PySem.W.Fast.te14364793385576792824, PySem.W.Fast.te6613529449190102663, PySem.W.Fast.te4187177175401517315]
  kernel_rfl
theorem bootFacts (w : World) : ((boot_heap w.params).isNs mainGlobals = true) ∧ (boot_heap w.params).objs.size = 11 ∧ (boot_heap w.params).nsMap mainGlobals "__annotations__" = some (.ref 6) := ⟨by kernel_rfl, by kernel_rfl, by kernel_rfl⟩
theorem openPw : opening pw = plainProg pw.main.scope.names := by kernel_rfl
theorem fencePw (s : Shared) : fenceModules? pw s = some s := by kernel_rfl

theorem KP_alive (P : Params) : (KP P).map (fun p => alive p.2) = (KP P).map fun p => some p.2 := by kernel_rfl
theorem asK_low : asK.all (fun a => Nat.blt a 771) = true := by kernel_rfl
theorem K_at {s : SharedT} {P : Params} (hn : s.n = 771) (h : asK.map s.tree.get = (KP P).map fun p => some p.2) : asK.map s.abs.heap.get? = (KP P).map fun p => some p.2 := by
  rw [asK_ok P, List.map_map] at h ⊢
  refine List.map_congr_left fun p hp => ?_
  have h1 : s.tree.get p.1 = some p.2 := List.map_inj_left.mp h p hp
  have h2 : alive p.2 = some p.2 := List.map_inj_left.mp (KP_alive P) p hp
  have h3 : p.1 < 771 := by
    have := List.all_eq_true.mp asK_low p.1 (by rw [asK_ok P]; exact List.mem_map_of_mem hp)
    exact Nat.le_of_ble_eq_true this
  exact (abs_get (by rw [hn]; exact h3) h1).trans h2

theorem left_of {p q : Program} {loose : List Str} {Xt : Shared → Bool} {α : Type} {Yf : Shared → α} {Ya : World → α} {N m₀ : Nat} {ann : Option Value}
    (o : ∀ w : World, (fencedOpening treeTable p w N).map (fun s => (s.heap, s.gens, s.drawn, s.toks)) = some (boot_heap w.params, Array.mk [], boot_drawn, boot_toks))
    (z : ∀ w : World, ((boot_heap w.params).isNs mainGlobals = true) ∧ (boot_heap w.params).objs.size = m₀ ∧ (boot_heap w.params).nsMap mainGlobals "__annotations__" = ann)
    (run : ∀ (w : World) (os : OsState), ∃ s, topRun treeTable p w m₀ ann N ⟨boot_heap w.params, #[], boot_drawn, boot_toks, os⟩ (topStub p) = some s ∧ looks p w s = true ∧ openSeen q loose (importedModules p.main.body) Xt true s = openGood q loose ∧ Yf s = Ya w) :
    LeftO p q loose Xt Yf Ya N := fun w => by
  obtain ⟨⟨h, gs, d, k, os⟩, e, e'⟩ := Option.map_eq_some_iff.mp (o w)
  obtain ⟨rfl, rfl, rfl, rfl⟩ : h = boot_heap w.params ∧ gs = #[] ∧ d = boot_drawn ∧ k = boot_toks := by simpa using e'
  obtain ⟨z1, z2, z3⟩ := z w
  obtain ⟨s, r, l1, l2, l3⟩ := run w os
  have t : topFrom treeTable p w N ⟨boot_heap w.params, #[], boot_drawn, boot_toks, os⟩ = some s := by
    unfold topFrom
    dsimp only
    rw [z1, z2, z3, r]
    show (match looks p w s with | true => _ | false => _) = _
    rw [l1]
  unfold openEnds
  rw [e]
  show (topFrom treeTable p w N _).map _ = _
  rw [t]
  exact congrArg some (Prod.ext l2 l3)
theorem runPw (w : World) (os : OsState) : ∃ s, topRun treeTable pw w 11 (some (.ref 6)) 8406 ⟨boot_heap w.params, #[], boot_drawn, boot_toks, os⟩ (topStub pw) = some s ∧ looks pw w s = true ∧ openSeen qv looseL (importedModules pw.main.body) XtL true s = openGood qv looseL ∧ hookK.obs s = hookK.val w := by
  obtain ⟨sT, h1, l⟩ := Option.map_eq_some_iff.mp (bigZ w os)
  obtain ⟨l1, l⟩ := Prod.mk.inj l
  obtain ⟨l2, l⟩ := Prod.mk.inj l
  obtain ⟨hn, l3⟩ := Prod.mk.inj l
  have r := runBy_of h1
  rw [bootS_abs] at r
  exact ⟨sT.abs, r, l1, l2, K_at hn l3⟩
theorem leftPw : LeftO pw qv looseL XtL hookK.obs hookK.val 8406 := left_of (boot_open openPw (by rfl) fencePw) bootFacts runPw
end
section
noncomputable def caK : CA := ⟨46, 238⟩
noncomputable def Row.data (r : Row) : FuncData := match r.fn with
  | ⟨_, _, .func fd, _⟩ => fd
  | _ => default
noncomputable def FD.ok (fd : FD) : Bool := !fd.scope.isCoroutine && !fd.scope.isGenerator && decide (fd.scope.kind = .function) && (fd.names.all fun y => fd.scope.names.lookup y == some .local || fd.scope.names.lookup y == some .cell) &&
  decide ((cellsFrom 0 fd.scope.names []).map (·.1)).Nodup && decide fd.names.Nodup && decide (fd.names.length - fd.dflts.length ≤ 5 ∧ fd.dflts.length ≤ fd.names.length)
noncomputable def Row.fdOk (r : Row) : Bool := match r.fd with
  | some fd => fd.ok
  | .none => false
noncomputable def Row.names (r : Row) : List Str := (r.fd.map FD.names).getD []
noncomputable def Row.n (r : Row) : Nat := r.names.length - r.dfl.length

theorem chk1 (P : Params) : topRows.map (fun r => nsIn (KP P) mainGlobals r.name) = topRows.map fun r => some (some (.ref r.a)) := by kernel_rfl
theorem chk2 (P : Params) : vecRows.map (fun r => findIn (KP P) (.ref 46) r.name) = vecRows.map fun r => some (some (.ref r.a)) := by kernel_rfl
theorem chk3 (P : Params) : matRows.map (fun r => findIn (KP P) (.ref 238) r.name) = matRows.map fun r => some (some (.ref r.a)) := by kernel_rfl
theorem chk4 (P : Params) : allRows.map (fun r => (KP P).lookup r.a) = allRows.map fun r => some r.fn := by kernel_rfl
theorem chk5 (P : Params) : allRows.map (fun r => codeIn (KP P) (.ref r.c) r.qual) = allRows.map fun _ => true := by kernel_rfl
theorem chk6 : allRows.all Row.fdOk = true := by kernel_rfl
theorem chk7 (P : Params) (S : Setting) (v0 v1 v2 v3 v4 : Value) : allRows.map (fun r => peek (KP P) S (bindArgs r.data ⟨[v0, v1, v2, v3, v4].take r.n, []⟩)) = allRows.map fun r => some (r.names.zip ([v0, v1, v2, v3, v4].take r.n ++ List.replicate r.dfl.length .none)) := by kernel_rfl
theorem chk8 : (topFns.all fun f => (TT (.fn f)).isSome) = true := by kernel_rfl
theorem chk9 : (methsOf.all fun f => (TT (.meth .mat f)).isSome) = true := by kernel_rfl
theorem dom (prog : Program) (w : World) (P : Params) : Dom prog w (KP P) caK TT := by
  refine ⟨fun f h _ _ => ?_, fun c => ?_, fun n h => ?_⟩
  · exact Option.isSome_iff_exists.mp (List.all_eq_true.mp chk8 f (List.contains_iff_mem.mp h))
  · cases c
    · exact Option.isSome_iff_exists.mp (by kernel_rfl)
    · exact Option.isSome_iff_exists.mp (by kernel_rfl)
  · exact Option.isSome_iff_exists.mp (List.all_eq_true.mp chk9 n (List.contains_iff_mem.mp h))

theorem five : ∀ {vals : List Value} {n : Nat}, vals.length = n → n ≤ 5 → [vals.getD 0 .none, vals.getD 1 .none, vals.getD 2 .none, vals.getD 3 .none, vals.getD 4 .none].take n = vals
  | [], 0, _, _ => rfl
  | [_], 1, _, _ => rfl
  | [_, _], 2, _, _ => rfl
  | [_, _, _], 3, _, _ => rfl
  | [_, _, _, _], 4, _, _ => rfl
  | [_, _, _, _, _], 5, _, _ => rfl
  | [], n + 1, h, _ => by simp at h
  | [_], 0, h, _ => by simp at h
  | [_], n + 2, h, _ => by simp at h
  | [_, _], 0, h, _ => by simp at h
  | [_, _], 1, h, _ => by simp at h
  | [_, _], n + 3, h, _ => by simp at h
  | [_, _, _], n, h, k => by simp at h; subst h; rfl
  | [_, _, _, _], n, h, k => by simp at h; subst h; rfl
  | _ :: _ :: _ :: _ :: _ :: r, n, h, k => by
    simp at h
    have : r = [] := List.eq_nil_of_length_eq_zero (by omega)
    subst this
    simp at h; subst h; rfl

theorem dfl_rel (r : Row) : VRs r.dfl (List.replicate r.dfl.length .none) := by
  unfold Row.dfl
  split <;> first | exact .cons .none .nil | exact .nil

theorem fnObj (prog : Program) (w : World) (P : Params) {r : Row} (hr : r ∈ allRows) {fd : FD} (h : r.fd = some fd) : FnObj prog w (KP P) r.a fd := by
  have k4 : (KP P).lookup r.a = some r.fn := List.map_inj_left.mp (chk4 P) r hr
  have k5 : codeIn (KP P) (.ref r.c) r.qual = true := List.map_inj_left.mp (chk5 P) r hr
  have k6 := List.all_eq_true.mp chk6 r hr
  have hn : r.names = fd.names := by unfold Row.names; rw [h]; rfl
  unfold Row.fdOk at k6
  rw [h] at k6
  have k7 := fun S v0 v1 v2 v3 v4 => List.map_inj_left.mp (chk7 P S v0 v1 v2 v3 v4) r hr
  have hd : fd.dflts = r.dfl := by
    unfold Row.fd fdOfStmt at h
    split at h
    · cases h; rfl
    · cases h
  have hrn : r.n = fd.names.length - fd.dflts.length := by unfold Row.n; rw [hn, hd]
  rw [hn] at k7
  simp only [FD.ok, Bool.and_eq_true, Bool.not_eq_true', decide_eq_true_eq] at k6
  obtain ⟨⟨⟨⟨⟨⟨c1, c2⟩, c3⟩, c4⟩, c5⟩, c6⟩, c7, c8⟩ := k6
  obtain ⟨q, e1, e2⟩ : ∃ q, r.data = fnOf fd.name r.qual fd.params fd.body fd.scope r.dv .none .none q none (.ref r.c) .none ∧ r.fn = { cls := .type "function", dict := none, data := .func r.data, slots := #[] } := by
    unfold Row.fd fdOfStmt at h
    unfold Row.data Row.fn
    split at h
    · rename_i e
      cases h
      try rw [e]
      exact ⟨_, rfl, rfl⟩
    · cases h
  refine ⟨?_, ?_, c1, c2, c3, c4, c5, c6, r.qual, r.dv, .none, .none, q, .ref r.c, .none, .type "function", none, none, #[], ?_, k5, fun s vals X hl => ?_⟩
  · show ((KP P).lookup r.a).map (·.cls) = _
    rw [k4, e2]; rfl
  · show (match (KP P).lookup r.a with | some ⟨_, _, .func _, _⟩ => true | some ⟨_, _, .cls _, _⟩ => _ | _ => false) = true
    rw [k4, e2]
  · rw [k4, e2, e1]
  · refine ⟨List.replicate r.dfl.length .none, hd ▸ dfl_rel r, kp_binds X fun S => ?_⟩
    rw [← e1]
    have := k7 S (vals.getD 0 .none) (vals.getD 1 .none) (vals.getD 2 .none) (vals.getD 3 .none) (vals.getD 4 .none)
    rw [five (n := r.n) (by omega) (by omega)] at this
    exact this

theorem clsFacts (P : Params) : ∀ c, ClsFacts (KP P) (caK.of c) c := fun c => by
  have at_ : ∀ c, ∀ n, okAttr c n = true → findIn (KP P) (.ref (caK.of c)) n = some none := fun c n h => by
    have e : (attrsOf c).map (fun n => findIn (KP P) (.ref (caK.of c)) n) = (attrsOf c).map fun _ => some none := by cases c <;> kernel_rfl
    exact List.map_inj_left.mp e n (List.contains_iff_mem.mp h)
  cases c
  · exact ⟨by kernel_rfl, by kernel_rfl, by kernel_rfl, by kernel_rfl, by kernel_rfl, by kernel_rfl, by kernel_rfl, by kernel_rfl, at_ .vec⟩
  · exact ⟨by kernel_rfl, by kernel_rfl, by kernel_rfl, by kernel_rfl, by kernel_rfl, by kernel_rfl, by kernel_rfl, by kernel_rfl, at_ .mat⟩

theorem biFacts (P : Params) : ∀ f v, builtVal f = some v → nsIn (KP P) mainGlobals f = some none ∧ bootBuiltins f = some v ∧ f ≠ "__name__" := fun f v h => by
  unfold builtVal at h
  split at h
  · rename_i q; cases h; subst q; exact ⟨by kernel_rfl, by kernel_rfl, by decide +kernel⟩
  split at h
  · rename_i q; cases h; subst q; exact ⟨by kernel_rfl, by kernel_rfl, by decide +kernel⟩
  split at h
  · rename_i q; cases h; subst q; exact ⟨by kernel_rfl, by kernel_rfl, by decide +kernel⟩
  split at h
  · rename_i q; cases h; subst q; exact ⟨by kernel_rfl, by kernel_rfl, by decide +kernel⟩
  split at h
  · rename_i q; cases h; subst q; exact ⟨by kernel_rfl, by kernel_rfl, by decide +kernel⟩
  split at h
  · rename_i q; cases h; subst q; exact ⟨by kernel_rfl, by kernel_rfl, by decide +kernel⟩
  split at h
  · rename_i q; cases h; subst q; exact ⟨by kernel_rfl, by kernel_rfl, by decide +kernel⟩
  cases h

theorem scK (prog : Program) (w : World) (P : Params) {B : Heap} (X : (KP P).In B) (hm : sysModules < B.objs.size) (ht : ∃ p loose mg mb, TopRead p loose mg mb B) : SC prog w (KP P) caK TT B := by
  refine ⟨X, hm, ht, biFacts P, clsFacts P, fun f fd h => ?_, fun c n fd h => ?_⟩
  · obtain ⟨r, hr, hfd⟩ := Option.bind_eq_some_iff.mp h
    have h1 := List.mem_of_find?_eq_some hr
    have h2 : r.name = f := by have := List.find?_some hr; simpa using this
    subst h2
    exact ⟨r.a, List.map_inj_left.mp (chk1 P) r h1, fnObj prog w P (List.mem_append_left _ (List.mem_append_left _ h1)) hfd⟩
  · obtain ⟨r, hr, hfd⟩ := Option.bind_eq_some_iff.mp h
    have h1 := List.mem_of_find?_eq_some hr
    have h2 : r.name = n := by have := List.find?_some hr; simpa using this
    subst h2
    cases c
    · exact ⟨r.a, List.map_inj_left.mp (chk2 P) r h1, fnObj prog w P (List.mem_append_left _ (List.mem_append_right _ h1)) hfd⟩
    · exact ⟨r.a, List.map_inj_left.mp (chk3 P) r h1, fnObj prog w P (List.mem_append_right _ h1) hfd⟩
end
section
abbrev rwL : OpenLaw := PySem.Challenge.rw_pq1338_01
noncomputable def dLaw : DefRec := match (pw.main.body[113]? : Option Stmt) with
  | some (Stmt.FunctionDef name args body _ _ _ scope _ _ pos) => ⟨name, args, body, scope, pos⟩
  | _ => ⟨default, default, default, default, default⟩
theorem and_t {a b : Bool} (h : a = true) (k : b = true) : (a && b) = true := by rw [h, k]; rfl
theorem look1 : sreFenced rwL.row.prog.main = true := by
  rw [PySem.W.Fast.te11788848310118352699]; kernel_rfl
theorem look2 : ((moduleNames rwL.row.prog.main.body).isEmpty || lookedIntoSs (moduleNames rwL.row.prog.main.body) rwL.row.prog.main.body) = true := by
  rw [PySem.W.Fast.te12862048085361865435]; kernel_rfl
theorem look3 : namesResolve rwL.row.prog = true := by
  rw [PySem.W.Fast.te8377067652309620493]; kernel_rfl
theorem look4 : (rwL.row.prog.boundNames.all (fun n => !worldNames.contains n)) = true := by
  rw [PySem.W.Fast.te18344453789297297638]; kernel_rfl
theorem look5a : (!(importedModules rwL.row.prog.main.body).all cThrough.contains) = false := by kernel_rfl
theorem look5b : ((["vars", "dir", "locals"] : List Str).filter (readsOut rwL.row.prog rwL.row.prog.main.body)) = [] := by
  rw [PySem.W.Fast.te13343964577679436407]; kernel_rfl
theorem look5c : noRoadLSs { strict := false, foot := none, bare := [] } rwL.row.prog.main.body = true := by
  rw [PySem.W.Fast.te8326940854005059898]; kernel_rfl
theorem look6 : (namesMeet rwL.row.prog rwL.row.prog.main.body fun _ n => attrL n) = true := by
  rw [PySem.W.Fast.te17119622794617984870, PySem.W.Fast.te17868728402115742887]; kernel_rfl
theorem lookAll : looksOpen rwL.row.prog = true := by
  unfold looksOpen
  rw [look5a, look5b]
  exact and_t (and_t (and_t (and_t (and_t look1 look2) look3) look4) look5c) look6
theorem rowSaid : rwL.row.wellSaid = true := by
  unfold OpenRow.wellSaid OpenRow.partSaid
  rw [lookAll, PySem.W.Fast.te18344453789297297638]
  kernel_rfl
theorem said : rwL.wellSaid = true := by
  unfold OpenLaw.wellSaid
  rw [rowSaid, PySem.W.Fast.te10501279942588096481, PySem.W.Fast.te8179353310426384613, PySem.W.Fast.te8326940854005059898, PySem.W.Fast.te797321630700447069, PySem.W.Fast.te9558739934217749035, PySem.W.Fast.te16286561074155671207, PySem.W.Fast.named_eq, PySem.W.Fast.te6984425678791042302, PySem.W.Fast.te17119622794617984870]
  kernel_rfl
theorem defLaw : defOf qv rwL.row.toRowW.name = some (dLaw, []) := by kernel_rfl
theorem theLaw : rwL.row.toRowW.prog.theDef rwL.row.toRowW.name = some (dLaw.params, dLaw.body, dLaw.scope) := by kernel_rfl
theorem kwLaw : kwWritten? dLaw.params.kwonlyargs dLaw.params.kw_defaults = some [] := by kernel_rfl
theorem okLaw : (chainsOk qv && opensWell rwL.row.toRowW.prog && (frees rwL.row.toRowW && rwL.row.toRowW.within.isEmpty)) = true := by kernel_rfl
noncomputable def qBears (sc : Scope) (n : Str) : Bool := sc.names.any fun p => PySem.W.Fast.sEq p.1 n
theorem qBears_eq : Scope.bears = qBears := by
  funext sc n
  unfold Scope.bears qBears
  generalize sc.names = l
  induction l with
  | nil => rfl
  | cons p r ih =>
    obtain ⟨x, v⟩ := p
    rw [List.lookup_cons, List.any_cons]
    cases h : (n == x) with
    | true =>
      have : PySem.W.Fast.sEq x n = true := (PySem.W.Fast.sEq_iff ..).2 (beq_iff_eq.mp h).symm
      rw [this]; rfl
    | false =>
      have : PySem.W.Fast.sEq x n = false := by
        cases q : PySem.W.Fast.sEq x n with
        | false => rfl
        | true =>
          have := (PySem.W.Fast.sEq_iff ..).1 q
          rw [this] at h; simp at h
      rw [this]; exact ih
theorem wholeLaw : rwL.row.toRowW.prog.tablesWhole = true := by
  unfold Program.tablesWhole TablesWhole.wProgram TablesWhole.holds
  rw [qBears_eq, PySem.W.Fast.te6116379765354995101]
  kernel_rfl
theorem bareLaw : rwL.row.toRowW.prog.bare := ⟨by kernel_rfl, by kernel_rfl, by kernel_rfl, by kernel_rfl, by kernel_rfl, wholeLaw⟩
theorem promised : rwL.row.toRowW.promised := ⟨[.list []], by decide +kernel, by decide +kernel⟩

abbrev lawWalk : Prop := WalkO qv looseL (fun mg h => XL qv [] mg h) hookK.says rwL.row.toRowW dLaw [] fun f vs => PySem.call f vs
theorem holds_of (h : lawWalk) : rwL.Holds := by
  refine ⟨said, ?_⟩
  refine holds_open (q := qv) (loose := looseL) (Xt := XtL) (XP := XL qv []) (Yf := hookK.obs) (Ya := hookK.val) (YP := hookK.says) (N := 8406) (d := dLaw) (kwd := []) leftPw hookK.of hookK.keeps
    (fun s e => xl_of s (Bool.and_eq_true_iff.mp e).1) XL.keeps defLaw theLaw kwLaw (fun s e => recFacts_of (Bool.and_eq_true_iff.mp e).2) (by kernel_rfl) (row_said said) okLaw bareLaw promised h
end
section
noncomputable def retK (Φ : AV → AH → Prop) : AF → Loc → AH → Prop := fun fl _ H' => match fl with | .ret v => Φ v H' | .next => Φ .none H' | _ => False
noncomputable def andB (v : AV) (A B : Prop) : Prop := match v with
  | .bool true => A
  | .bool false => B
  | _ => False
noncomputable def seqK (G : GT) (r : List Stmt) (sc : Scope) (Ψ : AF → Loc → AH → Prop) : AF → Loc → AH → Prop := fun f loc₁ H₁ => match f with
  | .next => wpSs G r sc loc₁ H₁ Ψ
  | f => Ψ f loc₁ H₁
noncomputable def boolK (Χ : Bool → AH → Prop) : AV → AH → Prop := fun v H₁ => match v with | .bool b => Χ b H₁ | _ => False
noncomputable def negK (Φ : AV → AH → Prop) : AV → AH → Prop := fun a H₁ => match a with | .int i => Φ (.int (-i)) H₁ | _ => False
noncomputable def augK (Ψ : AF → Loc → AH → Prop) (loc : Loc) (x : Str) (i : Int) : AV → AH → Prop := fun v H₁ => match v with | .int j => Ψ .next (setL loc x (.int (i + j))) H₁ | _ => False
noncomputable def turnK (Ψ : AF → Loc → AH → Prop) (K : Loc → AH → Prop) : AF → Loc → AH → Prop := fun f loc' H' => match f with
      | .next => K loc' H'
      | .cont => K loc' H'
      | .brk => Ψ .next loc' H'
      | .ret w => Ψ (.ret w) loc' H'
theorem nl0 {a b N : Nat} (h : b ≤ N) (k : Nat.ble a b = true) : a ≤ N := Nat.le_trans (Nat.le_of_ble_eq_true k) h
theorem nl1 {a b N : Nat} (h : b ≤ N) (k : Nat.ble (a + 1) b = true) : a ≤ N - 1 := Nat.le_sub_of_add_le (Nat.le_trans (Nat.le_of_ble_eq_true k) h)
theorem andB_i {c : Bool} {A B : Prop} (h : if c = true then A else B) : andB (.bool c) A B := by
  cases c
  · exact h
  · exact h
theorem enter {id : FnId} {o : Option FD} {N : Nat} {nm : Str} {ps : Arguments} {body : List Stmt} {sc : Scope} {df vs : List AV} {H : AH} {Φ : AV → AH → Prop} {loc : Loc} (h : TT id = o) (e : o = some ⟨nm, ps, body, sc, df⟩) (hN : 1 ≤ N)
    (hl : vs.length + df.length = (ps.args.map (·.arg)).length) (hloc : (ps.args.map (·.arg)).zip (vs ++ df) = loc) (k : wpSs (Γ TT (N - 1)) body sc loc H (retK Φ)) : Γ TT N id vs H Φ := by
  obtain ⟨n, rfl⟩ : ∃ n, N = n + 1 := ⟨N - 1, by omega⟩
  unfold Γ
  rw [h, e]
  subst hloc
  exact ⟨hl, k⟩

section
variable {G : GT} {sc cs : Scope} {loc : Loc} {H : AH} {Φ : AV → AH → Prop} {Ψ : AF → Loc → AH → Prop} {Χ : Bool → AH → Prop} {W : (AV → AH → Prop) → Prop} {Λ : List AV → AH → Prop} {v u : AV} {p q u' : Pos} {e l r : Expr}
theorem ift {c : Bool} {A B : Prop} (h : c = true) (a : A) : if c = true then A else B := by rw [if_pos h]; exact a
theorem iff_ {c : Bool} {A B : Prop} (h : c = false) (b : B) : if c = true then A else B := by rw [h]; exact b
theorem ifs {c : Bool} {A B : Prop} (a : c = true → A) (b : c = false → B) : if c = true then A else B := by
  cases c
  · exact b rfl
  · exact a rfl
theorem w_name {x : Str} (h : (isVar sc x && notDebug x) = true) (e : getL loc x = some v) (k : Φ v H) : wpE G (.Name x p) sc loc H Φ := ⟨h, v, e, k⟩
theorem w_int {i : Int} {kd : Nat} (k : Φ (.int i) H) : wpE G (.Constant (.int i) kd p) sc loc H Φ := k
theorem w_str {i : Str} {kd : Nat} (k : Φ (.str i) H) : wpE G (.Constant (.str i) kd p) sc loc H Φ := k
theorem w_bool {i : Bool} {kd : Nat} (k : Φ (.bool i) H) : wpE G (.Constant (.bool i) kd p) sc loc H Φ := k
theorem w_none {kd : Nat} (k : Φ .none H) : wpE G (.Constant .none kd p) sc loc H Φ := k
theorem w_bop {op : BoolOp} {vs : List Expr} (k : wpB G op vs sc loc H Φ) : wpE G (.BoolOp op vs p) sc loc H Φ := k
theorem w_bin {op : Operator} (k : wpE G l sc loc H fun a H₁ => wpE G r sc loc H₁ fun b H₂ => binA op a b H₂ Φ) : wpE G (.BinOp l op r p) sc loc H Φ := k
theorem w_neg (k : wpE G e sc loc H (negK Φ)) : wpE G (.UnaryOp .USub e p) sc loc H Φ := k
theorem w_ife {t b o : Expr} (k : wpT G t sc loc H (wpE G t sc loc H) fun c H₁ => if c then wpE G b sc loc H₁ Φ else wpE G o sc loc H₁ Φ) : wpE G (.IfExp t b o p) sc loc H Φ := k
theorem w_list {es : List Expr} (k : wpEs G es sc loc H fun vs H₁ => vs.length ≤ 4096 ∧ allocA H₁ (.list vs) Φ) : wpE G (.List es p) sc loc H Φ := k
theorem w_tuple {es : List Expr} {n : Nat} (k : wpEs G es sc loc H fun vs H₁ => vs.length ≤ 4096 ∧ allocA H₁ (.tuple vs) Φ) : wpE G (.Tuple es n p) sc loc H Φ := k
theorem w_dict0 (k : allocA H (.dict []) Φ) : wpE G (.Dict [] [] p) sc loc H Φ := k
theorem w_dict1 {x : Str} {n : Nat} (k : wpE G e sc loc H fun v H₁ => allocA H₁ (.dict [(x, v)]) Φ) : wpE G (.Dict [some (.Constant (.str x) n q)] [e] p) sc loc H Φ := k
theorem w_cmp {op : CmpOp} (h : noSet r = true) (k : wpE G l sc loc H fun a H₁ => wpE G r sc loc H₁ fun b H₂ => cmpA op a b H₂ fun c => Φ (.bool c) H₂) : wpE G (.Compare l [op] [r] p) sc loc H Φ := ⟨h, k⟩
theorem w_isinst {f c : Str} (hf : decide (f = sIsInst) = true) (h : (isGlob sc f && (decide (f = sIsInst) || knownF f) && noStar e) = true) (hc : isGlob sc c = true) (k : wpE G e sc loc H fun v H₁ => isInstA v c H₁ fun b => Φ (.bool b) H₁) : wpE G (.Call (.Name f q) [e, .Name c p] [] u') sc loc H Φ := by
  have hf := of_decide_eq_true hf
  exact ⟨h, by rw [if_pos hf]; exact ⟨hc, k⟩⟩
theorem w_call {f : Str} {args : List Expr} (h : (isGlob sc f && knownF f && args.all noStar) = true) (k : wpEs G args sc loc H fun vs H₁ => callA G f vs H₁ Φ) : wpE G (.Call (.Name f q) args [] p) sc loc H Φ := by
  rcases args with _ | ⟨a, _ | ⟨b, _ | ⟨c, r⟩⟩⟩
  · exact ⟨h, k⟩
  · exact ⟨h, k⟩
  · cases b with
    | Name c cp =>
      simp only [Bool.and_eq_true] at h
      have hs : f ≠ sIsInst := fun e => by
        have := h.1.2
        rw [e] at this
        exact absurd this (by decide +kernel)
      refine ⟨?_, ?_⟩
      · simp only [Bool.and_eq_true, Bool.or_eq_true]
        refine ⟨⟨h.1.1, .inr h.1.2⟩, ?_⟩
        have := h.2
        rw [List.all_cons, Bool.and_eq_true] at this
        exact this.1
      · rw [if_neg hs]; exact k
    | _ => exact ⟨h, k⟩
  · cases b <;> exact ⟨h, k⟩
theorem w_meth {o : Expr} {n : Str} {ap : Pos} {args : List Expr} (h : (baseOk o && (ap.endLine == p.line) && decide (args.length < 20) && args.all noStar) = true) (k : wpE G o sc loc H fun ov H₁ => methA G ov n H₁ (wpEs G args sc loc H₁) Φ) : wpE G (.Call (.Attribute o n ap) args [] p) sc loc H Φ := ⟨h, k⟩
theorem w_attr {o : Expr} {n : Str} (h : baseOk o = true) (k : wpE G o sc loc H fun v H₁ => attrA v n H₁ Φ) : wpE G (.Attribute o n p) sc loc H Φ := ⟨h, k⟩
theorem w_sliceto {o : Expr} (h : isName o = true) (k : wpE G o sc loc H fun v H₁ => wpE G e sc loc H₁ fun k H₂ => sliceA v .none (some k) H₂ Φ) : wpE G (.Subscript o (.Slice .none (some e) .none q) p) sc loc H Φ := ⟨h, k⟩
theorem w_slicefrom {o : Expr} (h : isName o = true) (k : wpE G o sc loc H fun v H₁ => wpE G e sc loc H₁ fun k H₂ => sliceA v (some k) .none H₂ Φ) : wpE G (.Subscript o (.Slice (some e) .none .none q) p) sc loc H Φ := ⟨h, k⟩
theorem w_sub {o i : Expr} (h : isSlice i = false) (k : wpE G o sc loc H fun v H₁ => wpE G i sc loc H₁ fun k H₂ => subA v k H₂ Φ) : wpE G (.Subscript o i p) sc loc H Φ := by
  cases i <;> first | exact ⟨h, k⟩ | cases h
theorem w_es0 (k : Λ [] H) : wpEs G [] sc loc H Λ := k
theorem w_es1 {es : List Expr} (k : wpE G e sc loc H fun v H₁ => wpEs G es sc loc H₁ fun vs H₂ => Λ (v :: vs) H₂) : wpEs G (e :: es) sc loc H Λ := k
-- truth
theorem t_not (k : wpT G e sc loc H (wpE G e sc loc H) fun b H₁ => Χ (!b) H₁) : wpT G (.UnaryOp .Not e p) sc loc H W Χ := k
theorem t_bop {op : BoolOp} {vs : List Expr} (k : wpTs G op vs sc loc H Χ) : wpT G (.BoolOp op vs p) sc loc H W Χ := k
theorem t_cmp {op : CmpOp} (h : noSet r = true) (k : wpE G l sc loc H fun a H₁ => wpE G r sc loc H₁ fun b H₂ => cmpA op a b H₂ fun c => Χ c H₂) : wpT G (.Compare l [op] [r] p) sc loc H W Χ := ⟨h, k⟩
theorem t_name {x : Str} (k : W (boolK Χ)) : wpT G (.Name x p) sc loc H W Χ := k
theorem t_call {f : Expr} {args : List Expr} {kws : List Keyword} (k : W (boolK Χ)) : wpT G (.Call f args kws p) sc loc H W Χ := k
theorem t_and0 (k : Χ true H) : wpTs G .And [] sc loc H Χ := k
theorem t_or0 (k : Χ false H) : wpTs G .Or [] sc loc H Χ := k
theorem t_and1 {es : List Expr} (k : wpT G e sc loc H (wpE G e sc loc H) fun b H₁ => if b then wpTs G .And es sc loc H₁ Χ else Χ false H₁) : wpTs G .And (e :: es) sc loc H Χ := k
theorem t_or1 {es : List Expr} (k : wpT G e sc loc H (wpE G e sc loc H) fun b H₁ => if b then Χ true H₁ else wpTs G .Or es sc loc H₁ Χ) : wpTs G .Or (e :: es) sc loc H Χ := k
theorem b_one {op : BoolOp} (k : wpE G e sc loc H Φ) : wpB G op [e] sc loc H Φ := k
theorem b_and {es : List Expr} {e' : Expr} (k : wpE G e sc loc H fun v H₁ => andB v (wpB G .And (e' :: es) sc loc H₁ Φ) (Φ (.bool false) H₁)) : wpB G .And (e :: e' :: es) sc loc H Φ := by
  refine cast (congrArg (wpE G e sc loc H) ?_) k
  funext v H₁
  cases v with
  | bool b => cases b <;> rfl
  | _ => rfl
theorem b_or {es : List Expr} {e' : Expr} (k : wpE G e sc loc H fun v H₁ => andB v (Φ (.bool true) H₁) (wpB G .Or (e' :: es) sc loc H₁ Φ)) : wpB G .Or (e :: e' :: es) sc loc H Φ := by
  refine cast (congrArg (wpE G e sc loc H) ?_) k
  funext v H₁
  cases v with
  | bool b => cases b <;> rfl
  | _ => rfl
-- statements
theorem f_next {rs : List Stmt} (k : wpSs G rs sc loc H Ψ) : seqK G rs sc Ψ .next loc H := k
theorem f_ret {rs : List Stmt} (k : Ψ (.ret v) loc H) : seqK G rs sc Ψ (.ret v) loc H := k
theorem f_cont {rs : List Stmt} (k : Ψ .cont loc H) : seqK G rs sc Ψ .cont loc H := k
theorem f_bool {c : Bool} (k : Χ c H) : boolK Χ (.bool c) H := k
theorem f_neg {i : Int} (k : Φ (.int (-i)) H) : negK Φ (.int i) H := k
theorem f_aug {x : Str} {i j : Int} (k : Ψ .next (setL loc x (.int (i + j))) H) : augK Ψ loc x i (.int j) H := k
theorem f_rr (k : Φ v H) : retK Φ (.ret v) loc H := k
theorem f_rn (k : Φ .none H) : retK Φ .next loc H := k
theorem f_tn {K : Loc → AH → Prop} (k : K loc H) : turnK Ψ K .next loc H := k
theorem f_tc {K : Loc → AH → Prop} (k : K loc H) : turnK Ψ K .cont loc H := k
theorem f_tr {K : Loc → AH → Prop} (k : Ψ (.ret v) loc H) : turnK Ψ K (.ret v) loc H := k
theorem s_nil (k : Ψ .next loc H) : wpSs G [] sc loc H Ψ := k
theorem s_cons {st : Stmt} {r : List Stmt} (k : wpS G st sc loc H (seqK G r sc Ψ)) : wpSs G (st :: r) sc loc H Ψ := k
theorem s_expr {f : Expr} {args : List Expr} {kws : List Keyword} (k : wpE G (.Call f args kws p) sc loc H fun _ H₁ => Ψ .next loc H₁) : wpS G (.Expr (.Call f args kws p) q) sc loc H Ψ := k
theorem s_ret (k : wpE G e sc loc H fun v H₁ => Ψ (.ret v) loc H₁) : wpS G (.Return (some e) q) sc loc H Ψ := k
theorem s_ret0 (k : Ψ (.ret .none) loc H) : wpS G (.Return .none q) sc loc H Ψ := k
theorem s_set {x : Str} (h : isStore sc x = true) (k : wpE G e sc loc H fun v H₁ => Ψ .next (setL loc x v) H₁) : wpS G (.Assign [.Name x p] e q) sc loc H Ψ := ⟨h, k⟩
theorem s_attr {o : Expr} {n : Str} (k : wpE G e sc loc H fun v H₁ => wpE G o sc loc H₁ fun ov H₂ => setAttrA ov n v H₂ fun H₃ => Ψ .next loc H₃) : wpS G (.Assign [.Attribute o n p] e q) sc loc H Ψ := k
theorem s_sub {o i : Expr} (h : isSlice i = false) (k : wpE G e sc loc H fun v H₁ => wpE G o sc loc H₁ fun ov H₂ => wpE G i sc loc H₂ fun iv H₃ => setItemA ov iv v H₃ fun H₄ => Ψ .next loc H₄) : wpS G (.Assign [.Subscript o i p] e q) sc loc H Ψ := ⟨h, k⟩
theorem s_unpack {ts : List Expr} {n : Nat} {tp : Pos} {f : Expr} {args : List Expr} {kws : List Keyword} {xs : List Str} (hx : namesOf ts = some xs) (h : (xs.all fun x => isStore sc x) = true)
    (k : wpE G (.Call f args kws p) sc loc H fun v H₁ => unpackA v xs.length H₁ fun vs => Ψ .next (setLs loc xs vs) H₁) : wpS G (.Assign [.Tuple ts n tp] (.Call f args kws p) q) sc loc H Ψ := by
  show (match namesOf ts with | some xs => _ | .none => False)
  rw [hx]
  exact ⟨h, k⟩
theorem s_swap {x y : Str} {px py tp vp : Pos} {a b : Expr} {k1 k2 : Nat} (h : swapOk sc x y px py a b = true) (k : wpE G a sc loc H fun v H₁ => wpE G b sc loc H₁ fun u H₂ => Ψ .next (setL (setL loc x v) y u) H₂) : wpS G (.Assign [.Tuple [.Name x px, .Name y py] k1 tp] (.Tuple [a, b] k2 vp) q) sc loc H Ψ := ⟨h, k⟩
theorem s_aug {x : Str} {i : Int} (h : isStore sc x = true) (g : getL loc x = some (.int i)) (k : wpE G e sc loc H (augK Ψ loc x i)) : wpS G (.AugAssign (.Name x p) .Add e q) sc loc H Ψ := by
  refine ⟨h, ?_⟩
  rw [g]
  exact k
theorem s_if {t : Expr} {b o : List Stmt} (k : wpT G t sc loc H (wpE G t sc loc H) fun c H₁ => if c then wpSs G b sc loc H₁ Ψ else wpSs G o sc loc H₁ Ψ) : wpS G (.If t b o q) sc loc H Ψ := k
theorem s_cont (k : Ψ .cont loc H) : wpS G (.Continue q) sc loc H Ψ := k
theorem o_add {i j : Int} (k : Φ (.int (i + j)) H) : binA .Add (.int i) (.int j) H Φ := k
theorem o_sub {i j : Int} (k : Φ (.int (i - j)) H) : binA .Sub (.int i) (.int j) H Φ := k
theorem o_mod {i j : Int} (h : j ≠ 0) (k : Φ (.int (Int.fmod i j)) H) : binA .Mod (.int i) (.int j) H Φ := ⟨h, k⟩
theorem c_eqi {i j : Int} {Κ : Bool → Prop} (k : Κ (decide (i = j))) : cmpA .Eq (.int i) (.int j) H Κ := k
theorem c_nei {i j : Int} {Κ : Bool → Prop} (k : Κ (!decide (i = j))) : cmpA .NotEq (.int i) (.int j) H Κ := k
theorem c_lti {i j : Int} {Κ : Bool → Prop} (k : Κ (decide (i < j))) : cmpA .Lt (.int i) (.int j) H Κ := k
theorem c_gti {i j : Int} {Κ : Bool → Prop} (k : Κ (decide (j < i))) : cmpA .Gt (.int i) (.int j) H Κ := k
theorem c_lei {i j : Int} {Κ : Bool → Prop} (k : Κ (decide (i ≤ j))) : cmpA .LtE (.int i) (.int j) H Κ := k
theorem c_eqs {i j : Str} {Κ : Bool → Prop} (k : Κ (decide (i = j))) : cmpA .Eq (.str i) (.str j) H Κ := k
theorem c_nes {i j : Str} {Κ : Bool → Prop} (k : Κ (!decide (i = j))) : cmpA .NotEq (.str i) (.str j) H Κ := k
theorem c_eqb {i j : Bool} {Κ : Bool → Prop} (k : Κ (i == j)) : cmpA .Eq (.bool i) (.bool j) H Κ := k
theorem c_neb {i j : Bool} {Κ : Bool → Prop} (k : Κ (!(i == j))) : cmpA .NotEq (.bool i) (.bool j) H Κ := k
theorem c_nenn {Κ : Bool → Prop} (k : Κ false) : cmpA .NotEq .none .none H Κ := k
theorem c_is {a : AV} {Κ : Bool → Prop} (k : Κ (isNone a)) : cmpA .Is a .none H Κ := k
theorem c_isnot {a : AV} {Κ : Bool → Prop} (k : Κ (!isNone a)) : cmpA .IsNot a .none H Κ := k
theorem c_ner {x y : Addr} {Κ : Bool → Prop} (d e : PyData) (h1 : datA H 3 (.ref x) = some d) (h2 : datA H 3 (.ref y) = some e) (h3 : (PySem.SeqAt.shaped d && PySem.SeqAt.shaped e && PySem.SeqAt.noMix d e) = true) (k : Κ (!PySem.Spec.same d e)) : cmpA .NotEq (.ref x) (.ref y) H Κ := ⟨d, e, h1, h2, h3, k⟩
theorem c_inl {s : Str} {x : Addr} {vs : List AV} {r : Bool} {Κ : Bool → Prop} (h : H x = some (.list vs)) (m : memA s vs = some r) (k : Κ r) : cmpA .In (.str s) (.ref x) H Κ := by
  unfold cmpA inA; dsimp only; rw [h]; exact ⟨r, m, k⟩
theorem c_ind {s : Str} {x : Addr} {es : List (Str × AV)} {Κ : Bool → Prop} (h : H x = some (.dict es)) (k : Κ (getL es s).isSome) : cmpA .In (.str s) (.ref x) H Κ := by
  unfold cmpA inA; dsimp only; rw [h]; exact k
theorem c_nint {s : Str} {x : Addr} {vs : List AV} {r : Bool} {Κ : Bool → Prop} (h : H x = some (.tuple vs)) (m : memA s vs = some r) (k : Κ (!r)) : cmpA .NotIn (.str s) (.ref x) H Κ := by
  unfold cmpA inA; dsimp only; rw [h]; exact ⟨r, m, k⟩
theorem c_ninl {s : Str} {x : Addr} {vs : List AV} {r : Bool} {Κ : Bool → Prop} (h : H x = some (.list vs)) (m : memA s vs = some r) (k : Κ (!r)) : cmpA .NotIn (.str s) (.ref x) H Κ := by
  unfold cmpA inA; dsimp only; rw [h]; exact ⟨r, m, k⟩
theorem c_nind {s : Str} {x : Addr} {es : List (Str × AV)} {Κ : Bool → Prop} (h : H x = some (.dict es)) (k : Κ (!(getL es s).isSome)) : cmpA .NotIn (.str s) (.ref x) H Κ := by
  unfold cmpA inA; dsimp only; rw [h]; exact k
theorem a_attr {x dx : Addr} {c : Cls} {es : List (Str × AV)} {n : Str} (h1 : H x = some (.inst c dx)) (h2 : H dx = some (.dict es)) (h3 : okAttr c n = true) (h4 : getL es n = some v) (k : Φ v H) : attrA (.ref x) n H Φ := ⟨c, dx, es, v, h1, h2, h3, h4, k⟩
theorem a_set {x dx : Addr} {c : Cls} {es : List (Str × AV)} {n : Str} {Κ : AH → Prop} (h1 : H x = some (.inst c dx)) (h2 : H dx = some (.dict es)) (h3 : okAttr c n = true) (h4 : es.length ≤ 100) (k : Κ (updH H dx (.dict (setL es n v)))) : setAttrA (.ref x) n v H Κ := ⟨c, dx, es, h1, h2, h3, h4, k⟩
theorem i_list {x : Addr} {i : Int} {vs : List AV} (h : H x = some (.list vs)) (hl : vs.length ≤ 4096) (h0 : 0 ≤ i) (g : vs[i.toNat]? = some v) (k : Φ v H) : subA (.ref x) (.int i) H Φ := by
  unfold subA; dsimp only; rw [h]; exact ⟨hl, v, .inl h0, by unfold idxA; rw [if_pos h0]; exact g, k⟩
theorem i_last {x : Addr} {vs : List AV} (h : H x = some (.list (vs ++ [v]))) (hl : (vs ++ [v]).length ≤ 4096) (k : Φ v H) : subA (.ref x) (.int (-1)) H Φ := by
  unfold subA; dsimp only; rw [h]
  refine ⟨hl, v, .inr (by simp; omega), ?_, k⟩
  unfold idxA
  rw [if_neg (by decide)]
  have : ((-1 : Int) + ((vs ++ [v]).length : Int)).toNat = vs.length := by simp; omega
  rw [this]
  simp
theorem i_tuple {x : Addr} {i : Int} {vs : List AV} (h : H x = some (.tuple vs)) (hl : vs.length ≤ 4096) (h0 : 0 ≤ i) (g : vs[i.toNat]? = some v) (k : Φ v H) : subA (.ref x) (.int i) H Φ := by
  unfold subA; dsimp only; rw [h]; exact ⟨hl, v, h0, g, k⟩
theorem i_dict {x : Addr} {s : Str} {es : List (Str × AV)} (h : H x = some (.dict es)) (g : getL es s = some v) (k : Φ v H) : subA (.ref x) (.str s) H Φ := ⟨es, v, h, g, k⟩
theorem j_list {x : Addr} {i : Int} {vs : List AV} {Κ : AH → Prop} (h : H x = some (.list vs)) (hl : vs.length ≤ 4096) (h0 : 0 ≤ i) (h1 : i < vs.length) (k : Κ (updH H x (.list (vs.set i.toNat v)))) : setItemA (.ref x) (.int i) v H Κ := ⟨vs, h, hl, h0, h1, k⟩
theorem j_dict {x : Addr} {s : Str} {es : List (Str × AV)} {Κ : AH → Prop} (h : H x = some (.dict es)) (hl : es.length ≤ 100) (k : Κ (updH H x (.dict (setL es s v)))) : setItemA (.ref x) (.str s) v H Κ := ⟨es, h, hl, k⟩
theorem m_append {x : Addr} {us : List AV} {R : (List AV → AH → Prop) → Prop} (h : H x = some (.list us)) (k : R fun vs H₂ => appA x vs H₂ Φ) : methA G (.ref x) sAppend H R Φ := by
  unfold methA; dsimp only; rw [h]; dsimp only; rw [if_pos rfl]; exact k
theorem m_pop {x : Addr} {us : List AV} {R : (List AV → AH → Prop) → Prop} (h : H x = some (.list us)) (k : R fun vs H₂ => popA x vs H₂ Φ) : methA G (.ref x) sPop H R Φ := by
  unfold methA; dsimp only; rw [h]; dsimp only; rw [if_neg (by decide +kernel), if_pos rfl]; exact k
theorem m_get {x : Addr} {es : List (Str × AV)} {R : (List AV → AH → Prop) → Prop} (h : H x = some (.dict es)) (k : R fun vs H₂ => getA x vs H₂ Φ) : methA G (.ref x) sGet H R Φ := by
  unfold methA; dsimp only; rw [h]; dsimp only; rw [if_pos rfl]; exact k
theorem m_mat {x dx : Addr} {n : Str} {es : List (Str × AV)} {R : (List AV → AH → Prop) → Prop} (h : H x = some (.inst .mat dx)) (h2 : H dx = some (.dict es)) (h3 : getL es n = .none) (h4 : methsOf.contains n = true) (k : R fun vs H₂ => G (.meth .mat n) (.ref x :: vs) H₂ Φ) : methA G (.ref x) n H R Φ := by
  unfold methA; dsimp only; rw [h]; exact ⟨⟨es, h2, h3, h4⟩, k⟩
theorem p_append {x : Addr} {us : List AV} (h : H x = some (.list us)) (hl : us.length ≤ 4096) (k : Φ .none (updH H x (.list (us ++ [v])))) : appA x [v] H Φ := by
  unfold appA; rw [h]; exact ⟨hl, k⟩
theorem p_pop {x : Addr} {us : List AV} (h : H x = some (.list (u :: us))) (hl : (u :: us).length ≤ 4096) (k : Φ u (updH H x (.list us))) : popA x [.int 0] H Φ := by
  unfold popA; rw [h]; exact ⟨rfl, hl, k⟩
theorem p_get {x : Addr} {s : Str} {es : List (Str × AV)} (h : H x = some (.dict es)) (k : Φ ((getL es s).getD .none) H) : getA x [.str s] H Φ := by
  unfold getA; rw [h]; exact k
theorem k_fn {f : Str} {vs : List AV} (h : (isBuilt f || (clsOf f).isSome) = false) (k : G (.fn f) vs H Φ) : callA G f vs H Φ := by
  rw [Bool.or_eq_false_iff] at h
  have h2 : clsOf f = none := by
    cases q : clsOf f with
    | none => rfl
    | some c => rw [q] at h; cases h.2
  unfold callA
  rw [h.1, h2]
  exact k
theorem k_built {f : Str} {vs : List AV} (h : isBuilt f = true) (k : builtA f vs H Φ) : callA G f vs H Φ := by
  unfold callA
  rw [if_pos h]
  exact k
theorem q_len {x : Addr} {us : List AV} (h : H x = some (.list us)) (hl : us.length ≤ 4096) (k : Φ (.int us.length) H) : builtA sLen [.ref x] H Φ := by
  unfold builtA; rw [if_pos rfl]; exact ⟨us, h, hl, k⟩
theorem q_abs {i : Int} (k : Φ (.int i.natAbs) H) : builtA sAbs [.int i] H Φ := by
  unfold builtA; rw [if_neg (by decide +kernel), if_pos rfl]; exact k
theorem q_list {x : Addr} {us : List AV} (h : H x = some (.list us)) (hl : us.length ≤ 4096) (k : allocA H (.list us) Φ) : builtA sList [.ref x] H Φ := by
  unfold builtA; rw [if_neg (by decide +kernel), if_neg (by decide +kernel), if_neg (by decide +kernel), if_neg (by decide +kernel), if_neg (by decide +kernel), if_pos rfl]; exact ⟨us, h, hl, k⟩
theorem q_range1 {b : Int} (h : -4096 ≤ b ∧ b ≤ 4096) (k : allocA H (.range 0 b 1) Φ) : builtA sRange [.int b] H Φ := by
  unfold builtA; rw [if_neg (by decide +kernel), if_neg (by decide +kernel), if_neg (by decide +kernel), if_pos rfl]; exact ⟨h.1, h.2, k⟩
theorem q_range2 {a b : Int} (h : 0 ≤ a ∧ a ≤ 4096 ∧ -4096 ≤ b ∧ b ≤ 4096) (k : allocA H (.range a b 1) Φ) : builtA sRange [.int a, .int b] H Φ := by
  unfold builtA; rw [if_neg (by decide +kernel), if_neg (by decide +kernel), if_neg (by decide +kernel), if_pos rfl]; exact ⟨h.1, h.2.1, h.2.2.1, h.2.2.2, k⟩
theorem q_range3 {b : Int} (h : -4096 ≤ b ∧ b ≤ 4096) (k : allocA H (.range 0 b 2) Φ) : builtA sRange [.int 0, .int b, .int 2] H Φ := by
  unfold builtA; rw [if_neg (by decide +kernel), if_neg (by decide +kernel), if_neg (by decide +kernel), if_pos rfl]; exact ⟨rfl, h.1, h.2, rfl, k⟩
theorem q_sorted {x : Addr} (ns : List Int) (h : H x = some (.list (ns.map .int))) (hl : ns.length < 64) (k : ∀ ms : List Int, ms.Perm ns → ms.Pairwise (· ≤ ·) → allocA H (.list (ms.map .int)) Φ) : builtA sSorted [.ref x] H Φ := by
  unfold builtA; rw [if_neg (by decide +kernel), if_neg (by decide +kernel), if_neg (by decide +kernel), if_neg (by decide +kernel), if_pos rfl]; exact ⟨ns, h, hl, k⟩
theorem q_chr {i : Int} (h : 32 ≤ i ∧ i < 127) (k : Φ (.str ⟨#[i.toNat]⟩) H) : builtA sChr [.int i] H Φ := by
  unfold builtA; rw [if_neg (by decide +kernel), if_neg (by decide +kernel), if_pos rfl]; exact ⟨h.1, h.2, k⟩
theorem z_to {x : Addr} {vs : List AV} {i : Int} (h : H x = some (.list vs) ∨ ∃ ob, H x = some (.klist vs ob)) (hl : vs.length ≤ 4096) (h0 : 0 ≤ i ∧ i ≤ 4096) (k : allocA H (.list (vs.take i.toNat)) Φ) : sliceA (.ref x) .none (some (.int i)) H Φ := ⟨vs, h, hl, h0.1, h0.2, k⟩
theorem z_from {x : Addr} {vs : List AV} {i : Int} (h : H x = some (.list vs)) (hl : vs.length ≤ 4096) (h0 : 0 ≤ i) (h1 : i.toNat ≤ vs.length) (k : allocA H (.list (vs.drop i.toNat)) Φ) : sliceA (.ref x) (some (.int i)) .none H Φ := ⟨vs, .inl h, hl, h0, h1, k⟩
end
end
section

noncomputable def Ext (H H' : AH) : Prop := ∀ a o, H a = some o → H' a = some o
theorem Ext.refl (H : AH) : Ext H H := fun _ _ h => h
theorem Ext.trans {H H' H'' : AH} (h : Ext H H') (k : Ext H' H'') : Ext H H'' := fun a o e => k a o (h a o e)
theorem updH_self {H : AH} {a : Addr} {o : AO} : updH H a o a = some o := by unfold updH; rw [if_pos rfl]
theorem updH_ne {H : AH} {a b : Addr} {o : AO} (h : b ≠ a) : updH H a o b = H b := by unfold updH; rw [if_neg h]
theorem updH_old {H : AH} {a b : Addr} {o x : AO} (h : H a = none) (e : H b = some x) : updH H a o b = some x := by
  rw [updH_ne (fun q => by rw [q, h] at e; cases e)]; exact e
theorem Ext.upd {H : AH} {a : Addr} {o : AO} (h : H a = none) : Ext H (updH H a o) := fun b x e => updH_old h e
theorem Ext.no {H H' : AH} {a : Addr} (k : Ext H H') (h : H' a = none) : H a = none := by
  cases q : H a with
  | none => rfl
  | some o => have := k a o q; rw [h] at this; cases this
theorem ne_of {H : AH} {a b : Addr} {o : AO} (h : H a = some o) (k : H b = none) : a ≠ b := fun q => by rw [q, k] at h; cases h
theorem ne_obj {H : AH} {a b : Addr} {o o' : AO} (h : H a = some o) (k : H b = some o') (n : o ≠ o') : a ≠ b := fun q => n (by rw [q, k] at h; exact (Option.some.inj h).symm)

theorem alloc {H : AH} {o : AO} {Φ : AV → AH → Prop} (k : ∀ a H', H a = none → Ext H H' → H' a = some o → (∀ b, b ≠ a → H' b = H b) → Φ (.ref a) H') : allocA H o Φ :=
  fun a h => k a _ h (.upd h) updH_self fun b hb => updH_ne hb

-- loops
theorem while_rule {T : Loc → AH → (Bool → AH → Prop) → Prop} {B : Loc → AH → (AF → Loc → AH → Prop) → Prop} {Φ : AF → Loc → AH → Prop} (I : Nat → Loc → AH → Prop)
    (turn : ∀ n loc H (K : Loc → AH → Prop), I n loc H → (∀ m loc₁ loc' H', m < n → LocLe loc₁ loc' → I m loc₁ H' → K loc' H') → T loc H fun c H₁ => if c = true then B loc H₁ (turnK Φ K) else Φ .next loc H₁) :
    ∀ (k : Nat) (n : Nat) (loc loc₀ : Loc) (H : AH), n < k → LocLe loc loc₀ → I n loc H → whileA T B k loc₀ H Φ := by
  intro k
  induction k with
  | zero => intro n loc loc₀ H hk; omega
  | succ k ih =>
    intro n loc loc₀ H hk hle hI
    exact ⟨loc, hle, turn n loc H (fun loc' H' => whileA T B k loc' H' Φ) hI fun m loc₁ loc' H' hm hl hi => ih m loc₁ loc' H' (by omega) hl hi⟩
theorem s_while {G : GT} {sc : Scope} {loc loc₁ : Loc} {H : AH} {Ψ : AF → Loc → AH → Prop} {t : Expr} {b : List Stmt} {q : Pos} (I : Nat → Loc → AH → Prop) (n : Nat) (hle : LocLe loc₁ loc) (start : I n loc₁ H)
    (turn : ∀ n loc H (K : Loc → AH → Prop), I n loc H → (∀ m loc₁ loc' H', m < n → LocLe loc₁ loc' → I m loc₁ H' → K loc' H') → wpT G t sc loc H (wpE G t sc loc H) fun c H₁ => if c = true then wpSs G b sc loc H₁ (turnK Ψ K) else Ψ .next loc H₁) : wpS G (.While t b [] q) sc loc H Ψ :=
  ⟨n + 1, while_rule (T := fun l h K => wpT G t sc l h (wpE G t sc l h) K) (B := fun l h K => wpSs G b sc l h K) I turn (n + 1) n loc₁ loc H (Nat.lt_succ_self n) hle start⟩
theorem for_rule {B : Loc → AH → (AF → Loc → AH → Prop) → Prop} {x : Str} {src : Addr} {o : AO} {Φ : AF → Loc → AH → Prop} (I : List AV → List AV → Loc → AH → Prop)
    (hsrc : ∀ d r loc H, I d r loc H → H src = some o)
    (turn : ∀ d v r loc H (K : Loc → AH → Prop), I d (v :: r) loc H → (∀ loc₁ loc' H', LocLe loc₁ loc' → I (d ++ [v]) r loc₁ H' → K loc' H') → B (setL loc x v) H (turnK Φ K))
    (fin : ∀ d loc H, I d [] loc H → Φ .next loc H) : ∀ (r d : List AV) (loc loc₀ : Loc) (H : AH), I d r loc H → LocLe loc loc₀ → forA B x src o r loc₀ H Φ
  | [], d, loc, loc₀, H, hI, hle => ⟨hsrc _ _ _ _ hI, loc, hle, fin _ _ _ hI⟩
  | v :: r, d, loc, loc₀, H, hI, hle => ⟨hsrc _ _ _ _ hI, loc, hle, turn d v r loc H (fun loc' H' => forA B x src o r loc' H' Φ) hI fun loc₁ loc' H' hl hi => for_rule I hsrc turn fin r _ loc₁ loc' H' hi hl⟩
noncomputable def forK (G : GT) (b : List Stmt) (sc : Scope) (x : Str) (loc : Loc) (Ψ : AF → Loc → AH → Prop) : AV → AH → Prop := fun s H₁ => match s with
      | .ref a => ∃ o items, H₁ a = some o ∧ itemsA o = some items ∧ items.length ≤ 4096 ∧ forA (fun l h K => wpSs G b sc l h K) x a o items loc H₁ Ψ
      | _ => False
noncomputable def compK (B : AV → AH → (Option AV → AH → Prop) → Prop) (Φ : AV → AH → Prop) : AV → AH → Prop := fun s H₁ => match s with
      | .ref a => ∃ o items, H₁ a = some o ∧ itemsA o = some items ∧ items.length ≤ 4096 ∧ compA B a o items [] H₁ Φ
      | _ => False
theorem s_for {G : GT} {sc : Scope} {loc : Loc} {H : AH} {Ψ : AF → Loc → AH → Prop} {x : Str} {it : Expr} {b : List Stmt} {px q : Pos} (h : isStore sc x = true) (k : wpE G it sc loc H (forK G b sc x loc Ψ)) : wpS G (.For (.Name x px) it b [] q) sc loc H Ψ := ⟨h, k⟩
theorem for_go {G : GT} {sc : Scope} {loc loc₁ : Loc} {H : AH} {Ψ : AF → Loc → AH → Prop} {x : Str} {b : List Stmt} {a : Addr} {o : AO} {items : List AV} (ho : H a = some o) (hi : itemsA o = some items) (hl : items.length ≤ 4096) (hle : LocLe loc₁ loc) (I : List AV → List AV → Loc → AH → Prop)
    (start : I [] items loc₁ H) (hsrc : ∀ d r loc H, I d r loc H → H a = some o)
    (turn : ∀ d v r loc H (K : Loc → AH → Prop), I d (v :: r) loc H → (∀ loc₁ loc' H', LocLe loc₁ loc' → I (d ++ [v]) r loc₁ H' → K loc' H') → wpSs G b sc (setL loc x v) H (turnK Ψ K))
    (fin : ∀ d loc H, I d [] loc H → Ψ .next loc H) :
    forK G b sc x loc Ψ (.ref a) H := ⟨o, items, ho, hi, hl, for_rule (B := fun l h K => wpSs G b sc l h K) I hsrc turn fin items [] loc₁ loc H start hle⟩
/-- a comprehension whose turns change nothing -/
theorem comp_pure {B : AV → AH → (Option AV → AH → Prop) → Prop} {src : Addr} {o : AO} {H : AH} {Φ : AV → AH → Prop} (f : AV → Option AV) (hs : H src = some o) : ∀ (items ys : List AV), (∀ v ∈ items, ∀ K : Option AV → AH → Prop, K (f v) H → B v H K) → allocA H (.list (ys ++ items.filterMap f)) Φ → compA B src o items ys H Φ
  | [], ys, _, k => ⟨hs, by simpa using k⟩
  | v :: r, ys, hb, k => by
    refine ⟨hs, hb v List.mem_cons_self _ ?_⟩
    refine comp_pure f hs r _ (fun u hu => hb u (List.mem_cons_of_mem _ hu)) ?_
    cases q : f v with
    | none => rw [List.filterMap_cons_none q] at k; exact k
    | some y => rw [List.filterMap_cons_some q] at k; simpa using k
theorem comp_ext {B : AV → AH → (Option AV → AH → Prop) → Prop} {src : Addr} {o : AO} {Φ : AV → AH → Prop} (I : List AV → List AV → List AV → AH → Prop) (hs : ∀ d r ys H, I d r ys H → H src = some o)
    (turn : ∀ d v r ys H (K : Option AV → AH → Prop), I d (v :: r) ys H → (∀ y H', I (d ++ [v]) r (match y with | some y => ys ++ [y] | .none => ys) H' → K y H') → B v H K)
    (fin : ∀ d ys H, I d [] ys H → allocA H (.list ys) Φ) : ∀ (r d ys : List AV) (H : AH), I d r ys H → compA B src o r ys H Φ
  | [], d, ys, H, hI => ⟨hs _ _ _ _ hI, fin _ _ _ hI⟩
  | v :: r, d, ys, H, hI => ⟨hs _ _ _ _ hI, turn d v r ys H _ hI fun y H' hi => comp_ext I hs turn fin r _ _ _ hi⟩
theorem e_comp0 {G : GT} {sc cs : Scope} {loc : Loc} {H : AH} {Φ : AV → AH → Prop} {elt iter : Expr} {x : Str} {px p : Pos} (h : compOk sc cs x = true) (k : wpE G iter sc loc H (compK (fun v H₂ K => wpE G elt cs (setL loc x v) H₂ fun y H₃ => K (some y) H₃) Φ)) : wpE G (.ListComp elt [⟨.Name x px, iter, [], 0⟩] cs p) sc loc H Φ := ⟨h, k⟩
theorem e_comp1 {G : GT} {sc cs : Scope} {loc : Loc} {H : AH} {Φ : AV → AH → Prop} {elt iter c : Expr} {x : Str} {px p : Pos} (h : compOk sc cs x = true) (k : wpE G iter sc loc H (compK (fun v H₂ K => wpT G c cs (setL loc x v) H₂ (wpE G c cs (setL loc x v) H₂) fun t H₃ => if t then wpE G elt cs (setL loc x v) H₃ fun y H₄ => K (some y) H₄ else K .none H₃) Φ)) : wpE G (.ListComp elt [⟨.Name x px, iter, [c], 0⟩] cs p) sc loc H Φ := ⟨h, k⟩
theorem comp_go {B : AV → AH → (Option AV → AH → Prop) → Prop} {a : Addr} {o : AO} {items : List AV} {H : AH} {Φ : AV → AH → Prop} (f : AV → Option AV) (ho : H a = some o) (hi : itemsA o = some items) (hl : items.length ≤ 4096)
    (hb : ∀ v ∈ items, ∀ K : Option AV → AH → Prop, K (f v) H → B v H K) (k : allocA H (.list (items.filterMap f)) Φ) :
    compK B Φ (.ref a) H := ⟨o, items, ho, hi, hl, comp_pure f ho items [] hb (by simpa using k)⟩
theorem LocLe.nil {l : Loc} : LocLe [] l := fun _ _ e => nomatch e
theorem LocLe.cons {k : Str} {v : AV} {r l : Loc} (h : getL l k = some v) (t : LocLe r l) : LocLe ((k, v) :: r) l := fun x u e => by
  unfold getL at e
  split at e
  · rename_i q; cases e; rw [← q]; exact h
  · exact t x u e

-- numbers
theorem T_integer : TT (.fn (Str.ofString "integer")) = fdOfStmt [] pw.main.body[3]? := by kernel_rfl
theorem T_double : TT (.fn (Str.ofString "double")) = fdOfStmt [] pw.main.body[4]? := by kernel_rfl
theorem T_character : TT (.fn (Str.ofString "character")) = fdOfStmt [] pw.main.body[5]? := by kernel_rfl
theorem T_length : TT (.fn (Str.ofString "length")) = fdOfStmt [] pw.main.body[6]? := by kernel_rfl
theorem T_is_vector : TT (.fn (Str.ofString "is_vector")) = fdOfStmt [] pw.main.body[7]? := by kernel_rfl
theorem T_share : TT (.fn (Str.ofString "share")) = fdOfStmt [] pw.main.body[9]? := by kernel_rfl
theorem T_get_attr : TT (.fn (Str.ofString "get_attr")) = fdOfStmt [] pw.main.body[11]? := by kernel_rfl
theorem T_put_attr : TT (.fn (Str.ofString "put_attr")) = fdOfStmt [] pw.main.body[13]? := by kernel_rfl
theorem T_set_names : TT (.fn (Str.ofString "set_names")) = fdOfStmt [] pw.main.body[14]? := by kernel_rfl
theorem T_names_of : TT (.fn (Str.ofString "names_of")) = fdOfStmt [] pw.main.body[15]? := by kernel_rfl
theorem T_dim_of : TT (.fn (Str.ofString "dim_of")) = fdOfStmt [] pw.main.body[16]? := by kernel_rfl
theorem T_class_attr : TT (.fn (Str.ofString "class_attr")) = fdOfStmt [] pw.main.body[18]? := by kernel_rfl
theorem T_match_names : TT (.fn (Str.ofString "match_names")) = fdOfStmt [] pw.main.body[27]? := by kernel_rfl
theorem T_take : TT (.fn (Str.ofString "take")) = fdOfStmt [.none] pw.main.body[28]? := by kernel_rfl
theorem T_from_int : TT (.fn (Str.ofString "from_int")) = fdOfStmt [] pw.main.body[35]? := by kernel_rfl
theorem T_is_na : TT (.fn (Str.ofString "is_na")) = fdOfStmt [] pw.main.body[36]? := by kernel_rfl
theorem T_div : TT (.fn (Str.ofString "div")) = fdOfStmt [] pw.main.body[40]? := by kernel_rfl
theorem T_with_names : TT (.fn (Str.ofString "with_names")) = fdOfStmt [] pw.main.body[80]? := by kernel_rfl
theorem T_as_kind : TT (.fn (Str.ofString "as_kind")) = fdOfStmt [] pw.main.body[81]? := by kernel_rfl
theorem T_is_factor : TT (.fn (Str.ofString "is_factor")) = fdOfStmt [] pw.main.body[83]? := by kernel_rfl
theorem T_pick : TT (.fn (Str.ofString "pick")) = fdOfStmt [] pw.main.body[84]? := by kernel_rfl
theorem T_is_lacking : TT (.fn (Str.ofString "is_lacking")) = fdOfStmt [] pw.main.body[86]? := by kernel_rfl
theorem T_compare_items : TT (.fn (Str.ofString "compare_items")) = fdOfStmt [] pw.main.body[87]? := by kernel_rfl
theorem T_check_sortable : TT (.fn (Str.ofString "check_sortable")) = fdOfStmt [] pw.main.body[88]? := by kernel_rfl
theorem T_compare_places : TT (.fn (Str.ofString "compare_places")) = fdOfStmt [] pw.main.body[89]? := by kernel_rfl
theorem T_compare_keys : TT (.fn (Str.ofString "compare_keys")) = fdOfStmt [] pw.main.body[90]? := by kernel_rfl
theorem T_merge_runs : TT (.fn (Str.ofString "merge_runs")) = fdOfStmt [] pw.main.body[91]? := by kernel_rfl
theorem T_merge_sort : TT (.fn (Str.ofString "merge_sort")) = fdOfStmt [] pw.main.body[92]? := by kernel_rfl
theorem T_each_key : TT (.fn (Str.ofString "each_key")) = fdOfStmt [] pw.main.body[93]? := by kernel_rfl
theorem T_kept_places : TT (.fn (Str.ofString "kept_places")) = fdOfStmt [] pw.main.body[94]? := by kernel_rfl
theorem T_order_by : TT (.fn (Str.ofString "order_by")) = fdOfStmt [] pw.main.body[95]? := by kernel_rfl
theorem T_tie_groups : TT (.fn (Str.ofString "tie_groups")) = fdOfStmt [] pw.main.body[96]? := by kernel_rfl
theorem T_group_rank : TT (.fn (Str.ofString "group_rank")) = fdOfStmt [] pw.main.body[97]? := by kernel_rfl
theorem T_rank_of : TT (.fn (Str.ofString "rank_of")) = fdOfStmt [] pw.main.body[98]? := by kernel_rfl
theorem T_needed_arg : TT (.fn (Str.ofString "needed_arg")) = fdOfStmt [] pw.main.body[100]? := by kernel_rfl
theorem T_flag_arg : TT (.fn (Str.ofString "flag_arg")) = fdOfStmt [] pw.main.body[101]? := by kernel_rfl
theorem T_flags_arg : TT (.fn (Str.ofString "flags_arg")) = fdOfStmt [] pw.main.body[102]? := by kernel_rfl
theorem T_b_sort : TT (.fn (Str.ofString "b_sort")) = fdOfStmt [] pw.main.body[103]? := by kernel_rfl
theorem T_b_order : TT (.fn (Str.ofString "b_order")) = fdOfStmt [] pw.main.body[104]? := by kernel_rfl
theorem T_b_rank : TT (.fn (Str.ofString "b_rank")) = fdOfStmt [] pw.main.body[105]? := by kernel_rfl
theorem T_law_hat : TT (.fn (Str.ofString "_law_hat")) = fdOfStmt [] pw.main.body[107]? := by kernel_rfl
theorem T_law_out : TT (.fn (Str.ofString "_law_out")) = fdOfStmt [] pw.main.body[108]? := by kernel_rfl
theorem T_law_vector : TT (.fn (Str.ofString "_law_vector")) = fdOfStmt [] pw.main.body[109]? := by kernel_rfl
theorem T_law_before : TT (.fn (Str.ofString "_law_before")) = fdOfStmt [] pw.main.body[110]? := by kernel_rfl
theorem T_law_told : TT (.fn (Str.ofString "_law_told")) = fdOfStmt [] pw.main.body[111]? := by kernel_rfl
theorem T_law_flag : TT (.fn (Str.ofString "_law_flag")) = fdOfStmt [] pw.main.body[112]? := by kernel_rfl
theorem T_law : TT (.fn (Str.ofString "law")) = fdOfStmt [] pw.main.body[113]? := by kernel_rfl
theorem T_Vec_init : TT (.meth .vec (Str.ofString "__init__")) = fdOfStmt [.none] (methOf pw.main.body[2]? 0) := by kernel_rfl
theorem T_Mat_init : TT (.meth .mat (Str.ofString "__init__")) = fdOfStmt [] (methOf pw.main.body[23]? 0) := by kernel_rfl
theorem T_Mat_exact : TT (.meth .mat (Str.ofString "exact")) = fdOfStmt [] (methOf pw.main.body[23]? 1) := by kernel_rfl
theorem T_Mat_partial : TT (.meth .mat (Str.ofString "partial")) = fdOfStmt [] (methOf pw.main.body[23]? 2) := by kernel_rfl
theorem T_Mat_partial_of : TT (.meth .mat (Str.ofString "partial_of")) = fdOfStmt [] (methOf pw.main.body[23]? 3) := by kernel_rfl
theorem T_Mat_positional : TT (.meth .mat (Str.ofString "positional")) = fdOfStmt [] (methOf pw.main.body[23]? 4) := by kernel_rfl
theorem T_Mat_is_free : TT (.meth .mat (Str.ofString "is_free")) = fdOfStmt [] (methOf pw.main.body[23]? 5) := by kernel_rfl
theorem T_Mat_rest : TT (.meth .mat (Str.ofString "rest")) = fdOfStmt [] (methOf pw.main.body[23]? 6) := by kernel_rfl
theorem T_gcd : TT (.fn (Str.ofString "gcd")) = fdOfStmt [] pw.main.body[33]? := by kernel_rfl
theorem gcd_step {x y : Int} (hx : 0 ≤ x) (hy : 0 ≤ y) : Int.gcd y (Int.fmod x y) = Int.gcd x y := by
  rw [Int.fmod_eq_emod_of_nonneg x hy]
  obtain ⟨a, rfl⟩ := Int.eq_ofNat_of_zero_le hx
  obtain ⟨b, rfl⟩ := Int.eq_ofNat_of_zero_le hy
  rw [← Int.natCast_emod]
  show Nat.gcd b (a % b) = Nat.gcd a b
  rw [Nat.gcd_comm b (a % b), Nat.gcd_comm a b]
  exact (Nat.gcd_rec b a).symm
theorem gcd_ok {N : Nat} (hN : 1 ≤ N) {a b : Int} (ha : 0 ≤ a) (hb : 0 ≤ b) {H : AH} {Φ : AV → AH → Prop} (k : Φ (.int (Int.gcd a b)) H) : Γ TT N (.fn (Str.ofString "gcd")) [.int a, .int b] H Φ := by
  refine enter (loc := [(Str.ofString "a", .int a), (Str.ofString "b", .int b)]) T_gcd rfl hN rfl rfl ?_
  (refine s_cons ?_)
  refine s_while (loc₁ := [(Str.ofString "a", .int a), (Str.ofString "b", .int b)]) (fun n loc H' => H' = H ∧ ∃ x y : Int, loc = [(Str.ofString "a", .int x), (Str.ofString "b", .int y)] ∧ 0 ≤ x ∧ 0 ≤ y ∧ Int.gcd x y = Int.gcd a b ∧ n = y.toNat) b.toNat (fun _ _ e => e) ⟨rfl, a, b, rfl, ha, hb, rfl, rfl⟩ ?_
  rintro n loc _ K ⟨rfl, x, y, rfl, hx, hy, hg, rfl⟩ hK
  (refine t_cmp rfl ?_; refine w_name rfl rfl ?_; refine w_int ?_; refine c_gti ?_)
  refine ifs (fun c => ?_) fun c => ?_
  · have c : 0 < y := of_decide_eq_true c
    (refine s_cons ?_; refine s_swap rfl ?_; refine w_name rfl rfl ?_; refine w_bin ?_; refine w_name rfl rfl ?_; refine w_name rfl rfl ?_)
    refine o_mod (by omega) ?_
    refine hK (Int.fmod x y).toNat [(Str.ofString "a", .int y), (Str.ofString "b", .int (Int.fmod x y))] _ _ ?_ (fun _ _ e => e) ⟨rfl, y, Int.fmod x y, rfl, hy, Int.fmod_nonneg_of_pos x c, ?_, rfl⟩
    · have := Int.fmod_lt_of_pos x c
      have := Int.fmod_nonneg_of_pos x c
      omega
    · rw [← hg]; exact gcd_step hx hy
  · have c : ¬ 0 < y := of_decide_eq_false c
    have hy0 : y = 0 := by omega
    subst hy0
    (refine f_next ?_; refine s_cons ?_; refine s_ret ?_; refine w_name rfl rfl ?_; refine f_ret ?_; refine f_rr ?_)
    rw [Int.gcd_zero_right] at hg
    have : (x.natAbs : Int) = x := Int.natAbs_of_nonneg hx
    show Φ (.int x) _
    rw [← this, hg]
    exact k

theorem T_make : TT (.fn (Str.ofString "make")) = fdOfStmt [] pw.main.body[34]? := by kernel_rfl
/-- make, the denominator positive -/
theorem make_ok {N : Nat} (hN : 2 ≤ N) {n : Nat} (hn : n < 2 ^ 20) {H : AH} {Φ : AV → AH → Prop} (k : ∀ a H', H a = none → Ext H H' → H' a = some (.tuple [.int (Int.fdiv n (Int.gcd n 2)), .int (Int.fdiv 2 (Int.gcd n 2))]) → Φ (.ref a) H') :
    Γ TT N (.fn (Str.ofString "make")) [.int n, .int 2] H Φ := by
  refine enter (loc := [(Str.ofString "n", .int n), (Str.ofString "d", .int 2)]) T_make rfl (nl0 hN rfl) rfl rfl ?_
  (refine s_cons ?_; refine s_if ?_; refine t_cmp rfl ?_; refine w_name rfl rfl ?_; refine w_int ?_; refine c_eqi ?_)
  refine iff_ (by decide) ?_
  (refine s_nil ?_; refine f_next ?_; refine s_cons ?_; refine s_if ?_; refine t_cmp rfl ?_; refine w_name rfl rfl ?_; refine w_int ?_; refine c_lti ?_)
  refine iff_ (by decide) ?_
  (refine s_nil ?_; refine f_next ?_; refine s_cons ?_; refine s_set rfl ?_; refine w_call rfl ?_; refine w_es1 ?_; refine w_call rfl ?_; refine w_es1 ?_; refine w_name rfl rfl ?_; refine w_es0 ?_)
  refine k_built rfl (q_abs ?_)
  (refine w_es1 ?_; refine w_name rfl rfl ?_; refine w_es0 ?_)
  refine k_fn rfl ?_
  have hb : Int.gcd (n : Int) 2 ≤ 2 := Nat.le_of_dvd (by decide) (Int.gcd_dvd_natAbs_right n 2)
  have hp : 0 < Int.gcd (n : Int) 2 := Int.gcd_pos_of_ne_zero_right _ (by decide)
  refine gcd_ok (by omega) (by omega) (by decide) ?_
  have e : Int.gcd ((Int.natAbs (n : Int) : Nat) : Int) 2 = Int.gcd n 2 := rfl
  rw [e]
  (refine f_next ?_; refine s_cons ?_; refine s_ret ?_; refine w_tuple ?_; refine w_es1 ?_; refine w_bin ?_; refine w_name rfl rfl ?_; refine w_name rfl rfl ?_)
  refine ⟨⟨by omega, by rw [Int.natAbs_natCast]; omega, by rw [Int.natAbs_natCast]; omega⟩, ?_⟩
  (refine w_es1 ?_; refine w_bin ?_; refine w_name rfl rfl ?_; refine w_name rfl rfl ?_)
  refine ⟨⟨by omega, by decide, by rw [Int.natAbs_natCast]; omega⟩, ?_⟩
  (refine w_es0 ?_)
  refine ⟨by simp, alloc fun a H' h1 h2 h3 _ => ?_⟩
  (refine f_ret ?_; refine f_rr ?_)
  exact k a H' h1 h2 h3
abbrev sS (s : String) : Str := Str.ofString s
noncomputable def vecD (k : Str) (it : AV) (at_ : AV) (sh lo : Bool) : List (Str × AV) := [(Str.ofString "kind", .str k), (Str.ofString "items", it), (Str.ofString "attrs", at_), (Str.ofString "shared", .bool sh), (Str.ofString "loose", .bool lo)]
structure VecAt (H : AH) (x dx : Addr) (k : Str) (it : Addr) (xs : List AV) (at_ : AV) (sh lo : Bool) : Prop where
  i : H x = some (.inst .vec dx)
  d : H dx = some (.dict (vecD k (.ref it) at_ sh lo))
  l : H it = some (.list xs)
theorem VecAt.ext {H H' : AH} {x dx it : Addr} {k : Str} {xs : List AV} {at_ : AV} {sh lo : Bool} (V : VecAt H x dx k it xs at_ sh lo) (e : Ext H H') : VecAt H' x dx k it xs at_ sh lo := ⟨e _ _ V.i, e _ _ V.d, e _ _ V.l⟩
noncomputable def KD (k : Str) : Prop := k = Str.ofString "integer" ∨ k = Str.ofString "character" ∨ k = Str.ofString "logical" ∨ k = Str.ofString "double"
theorem kd_null {k : Str} (h : KD k) : decide (k = Str.ofString "NULL") = false := by rcases h with rfl | rfl | rfl | rfl <;> rfl
theorem kd_lang {k : Str} (h : KD k) : decide (k = Str.ofString "language") = false := by rcases h with rfl | rfl | rfl | rfl <;> rfl
theorem kd_env {k : Str} (h : KD k) : decide (k = Str.ofString "environment") = false := by rcases h with rfl | rfl | rfl | rfl <;> rfl

section
variable {G : GT} {H : AH} {Φ : AV → AH → Prop} {v : AV}
theorem k_cls {f : Str} {c : Cls} {vs : List AV} (h1 : isBuilt f = false) (h2 : clsOf f = some c) (k : ∀ x dx H', H x = none → H dx = none → x ≠ dx → H' x = some (.inst c dx) → H' dx = some (.dict []) → (∀ b, b ≠ x → b ≠ dx → H' b = H b) →
    G (.meth c sInit) (.ref x :: vs) H' fun v H' => v = .none ∧ Φ (.ref x) H') : callA G f vs H Φ := by
  unfold callA
  rw [h1, h2]
  intro x dx hx hd hn
  refine k x dx _ hx hd hn updH_self ?_ fun b h1 h2 => ?_
  · rw [updH_ne (Ne.symm hn)]; exact updH_self
  · rw [updH_ne h1, updH_ne h2]
theorem set_attr {x dx : Addr} {c : Cls} {es : List (Str × AV)} {n : Str} {Κ : AH → Prop} (h1 : H x = some (.inst c dx)) (h2 : H dx = some (.dict es)) (h3 : okAttr c n = true) (h4 : es.length ≤ 100)
    (k : ∀ H', H' x = some (.inst c dx) → H' dx = some (.dict (setL es n v)) → (∀ b, b ≠ dx → H' b = H b) → Κ H') : setAttrA (.ref x) n v H Κ :=
  a_set h1 h2 h3 h4 (k _ (by rw [updH_ne (ne_obj h1 h2 (by simp))]; exact h1) updH_self fun b hb => updH_ne hb)
theorem isi_vec {x dx : Addr} {Χ : Bool → Prop} (h : H x = some (.inst .vec dx)) (k : Χ true) : isInstA (.ref x) sVector H Χ := by
  unfold isInstA; rw [if_pos rfl]; dsimp only; rw [h]; exact k
theorem isi_list {b : Bool} {Χ : Bool → Prop} (k : Χ false) : isInstA (.bool b) sList H Χ := by
  unfold isInstA; rw [if_neg (by decide +kernel), if_pos rfl]; exact k
end

/-- a new vector -/
theorem vec_ok {N : Nat} (hN : 1 ≤ N) {k : Str} {it : AV} {H : AH} {Φ : AV → AH → Prop} (h : ∀ x dx H', H x = none → H dx = none → x ≠ dx → Ext H H' → (∀ b, b ≠ x → b ≠ dx → H' b = H b) → H' x = some (.inst .vec dx) → H' dx = some (.dict (vecD k it .none false false)) → Φ (.ref x) H') :
    callA (Γ TT N) sVector [.str k, it] H Φ := by
  refine k_cls rfl rfl fun x dx H0 hx hd hn hi hd0 ho => ?_
  refine enter (loc := [(Str.ofString "self", .ref x), (Str.ofString "kind", .str k), (Str.ofString "items", it), (Str.ofString "attrs", .none)]) T_Vec_init rfl hN rfl rfl ?_
  (refine s_cons ?_; refine s_attr ?_; refine w_name rfl rfl ?_; refine w_name rfl rfl ?_)
  refine set_attr hi hd0 rfl (by simp) fun H1 i1 d1 o1 => ?_
  (refine f_next ?_; refine s_cons ?_; refine s_attr ?_; refine w_name rfl rfl ?_; refine w_name rfl rfl ?_)
  refine set_attr i1 d1 rfl (Nat.le_of_ble_eq_true rfl) fun H2 i2 d2 o2 => ?_
  (refine f_next ?_; refine s_cons ?_; refine s_attr ?_; refine w_name rfl rfl ?_; refine w_name rfl rfl ?_)
  refine set_attr i2 d2 rfl (Nat.le_of_ble_eq_true rfl) fun H3 i3 d3 o3 => ?_
  (refine f_next ?_; refine s_cons ?_; refine s_attr ?_; refine w_bool ?_; refine w_name rfl rfl ?_)
  refine set_attr i3 d3 rfl (Nat.le_of_ble_eq_true rfl) fun H4 i4 d4 o4 => ?_
  (refine f_next ?_; refine s_cons ?_; refine s_attr ?_; refine w_bool ?_; refine w_name rfl rfl ?_)
  refine set_attr i4 d4 rfl (Nat.le_of_ble_eq_true rfl) fun H5 i5 d5 o5 => ?_
  (refine f_next ?_; refine s_nil ?_; refine f_rn ?_)
  have oo : ∀ b, b ≠ x → b ≠ dx → H5 b = H b := fun b h1 h2 => (((((o5 b h2).trans (o4 b h2)).trans (o3 b h2)).trans (o2 b h2)).trans (o1 b h2)).trans (ho b h1 h2)
  exact ⟨rfl, h x dx H5 hx hd hn (fun b o e => (oo b (ne_of e hx) (ne_of e hd)).trans e) oo i5 d5⟩

/-- a new vector over a copy of a list -/
noncomputable def NewVec (H : AH) (k : Str) (xs : List AV) (Φ : AV → AH → Prop) : Prop := ∀ x dx it H', H x = none → H dx = none → H it = none → Ext H H' → (∀ b, b ≠ x → b ≠ dx → b ≠ it → H' b = H b) → VecAt H' x dx k it xs .none false false → Φ (.ref x) H'
theorem vec_list {N : Nat} (hN : 1 ≤ N) {k : Str} {a : Addr} {xs : List AV} {H : AH} {Φ : AV → AH → Prop} (ha : H a = some (.list xs)) (hl : xs.length ≤ 4096) (h : NewVec H k xs Φ) : callA (Γ TT N) sList [.ref a] H fun v H₁ => callA (Γ TT N) sVector [.str k, v] H₁ Φ := by
  refine k_built rfl (q_list ha hl (alloc fun it H1 f1 e1 g1 o1 => ?_))
  refine vec_ok hN fun x dx H2 fx fd hn e2 o2 i2 d2 => ?_
  refine h x dx it H2 (e1.no fx) (e1.no fd) f1 (e1.trans e2) (fun b h1 h2 h3 => (o2 b h1 h2).trans (o1 b h3)) ⟨i2, d2, e2 _ _ g1⟩
theorem integer_ok {N : Nat} (hN : 2 ≤ N) {a : Addr} {xs : List AV} {H : AH} {Φ : AV → AH → Prop} (ha : H a = some (.list xs)) (hl : xs.length ≤ 4096) (h : NewVec H (Str.ofString "integer") xs Φ) : Γ TT N (.fn (Str.ofString "integer")) [.ref a] H Φ := by
  refine enter (loc := [(Str.ofString "items", .ref a)]) T_integer rfl (nl0 hN rfl) rfl rfl ?_
  (refine s_cons ?_; refine s_ret ?_; refine w_call rfl ?_; refine w_es1 ?_; refine w_str ?_; refine w_es1 ?_; refine w_call rfl ?_; refine w_es1 ?_; refine w_name rfl rfl ?_; refine w_es0 ?_)
  exact vec_list (by omega) ha hl h
theorem double_ok {N : Nat} (hN : 2 ≤ N) {a : Addr} {xs : List AV} {H : AH} {Φ : AV → AH → Prop} (ha : H a = some (.list xs)) (hl : xs.length ≤ 4096) (h : NewVec H (Str.ofString "double") xs Φ) : Γ TT N (.fn (Str.ofString "double")) [.ref a] H Φ := by
  refine enter (loc := [(Str.ofString "items", .ref a)]) T_double rfl (nl0 hN rfl) rfl rfl ?_
  (refine s_cons ?_; refine s_ret ?_; refine w_call rfl ?_; refine w_es1 ?_; refine w_str ?_; refine w_es1 ?_; refine w_call rfl ?_; refine w_es1 ?_; refine w_name rfl rfl ?_; refine w_es0 ?_)
  exact vec_list (by omega) ha hl h
theorem character_ok {N : Nat} (hN : 2 ≤ N) {a : Addr} {xs : List AV} {H : AH} {Φ : AV → AH → Prop} (ha : H a = some (.list xs)) (hl : xs.length ≤ 4096) (h : NewVec H (Str.ofString "character") xs Φ) : Γ TT N (.fn (Str.ofString "character")) [.ref a] H Φ := by
  refine enter (loc := [(Str.ofString "items", .ref a)]) T_character rfl (nl0 hN rfl) rfl rfl ?_
  (refine s_cons ?_; refine s_ret ?_; refine w_call rfl ?_; refine w_es1 ?_; refine w_str ?_; refine w_es1 ?_; refine w_call rfl ?_; refine w_es1 ?_; refine w_name rfl rfl ?_; refine w_es0 ?_)
  exact vec_list (by omega) ha hl h

section
variable {N : Nat} {H : AH} {Φ : AV → AH → Prop} {x dx it : Addr} {k : Str} {xs : List AV} {at_ : AV} {sh lo : Bool}
theorem length_ok (hN : 1 ≤ N) (V : VecAt H x dx k it xs at_ sh lo) (hk : KD k) (hl : xs.length ≤ 4096) (h : Φ (.int xs.length) H) : Γ TT N (.fn (Str.ofString "length")) [.ref x] H Φ := by
  refine enter (loc := [(Str.ofString "v", .ref x)]) T_length rfl hN rfl rfl ?_
  (refine s_cons ?_; refine s_set rfl ?_; refine w_attr rfl ?_; refine w_name rfl rfl ?_)
  refine a_attr V.i V.d rfl rfl ?_
  (refine f_next ?_; refine s_cons ?_; refine s_if ?_; refine t_cmp rfl ?_; refine w_name rfl rfl ?_; refine w_str ?_; refine c_eqs ?_)
  refine iff_ (kd_null hk) ?_
  (refine s_nil ?_; refine f_next ?_; refine s_cons ?_; refine s_if ?_; refine t_bop ?_; refine t_or1 ?_; refine t_call ?_; refine w_isinst rfl rfl rfl ?_; refine w_name rfl rfl ?_)
  refine isi_vec V.i ?_
  (refine f_bool ?_)
  refine ift rfl ?_
  refine ift rfl ?_
  (refine s_cons ?_; refine s_ret ?_; refine w_call rfl ?_; refine w_es1 ?_; refine w_attr rfl ?_; refine w_name rfl rfl ?_)
  refine a_attr V.i V.d rfl rfl ?_
  (refine w_es0 ?_)
  refine k_built rfl (q_len V.l hl ?_)
  (refine f_ret ?_; refine f_ret ?_; refine f_rr ?_)
  exact h
theorem is_vector_ok (hN : 1 ≤ N) (hi : H x = some (.inst .vec dx)) (h : Φ (.bool true) H) : Γ TT N (.fn (Str.ofString "is_vector")) [.ref x] H Φ := by
  refine enter (loc := [(Str.ofString "v", .ref x)]) T_is_vector rfl hN rfl rfl ?_
  (refine s_cons ?_; refine s_ret ?_; refine w_isinst rfl rfl rfl ?_; refine w_name rfl rfl ?_)
  refine isi_vec hi ?_
  (refine f_ret ?_; refine f_rr ?_)
  exact h
theorem share_ok (hN : 1 ≤ N) (hi : H x = some (.inst .vec dx)) (hd : H dx = some (.dict (vecD k (.ref it) at_ sh lo))) (h : ∀ H', H' x = some (.inst .vec dx) → H' dx = some (.dict (vecD k (.ref it) at_ true lo)) → (∀ b, b ≠ dx → H' b = H b) → Φ (.ref x) H') : Γ TT N (.fn (Str.ofString "share")) [.ref x] H Φ := by
  refine enter (loc := [(Str.ofString "v", .ref x)]) T_share rfl hN rfl rfl ?_
  (refine s_cons ?_; refine s_if ?_; refine t_call ?_; refine w_isinst rfl rfl rfl ?_; refine w_name rfl rfl ?_)
  refine isi_vec hi ?_
  (refine f_bool ?_)
  refine ift rfl ?_
  (refine s_cons ?_; refine s_attr ?_; refine w_bool ?_; refine w_name rfl rfl ?_)
  refine set_attr hi hd rfl (Nat.le_of_ble_eq_true rfl) fun H1 i1 d1 o1 => ?_
  (refine f_next ?_; refine s_nil ?_; refine f_next ?_; refine s_cons ?_; refine s_ret ?_; refine w_name rfl rfl ?_; refine f_ret ?_; refine f_rr ?_)
  exact h H1 i1 d1 o1
/-- what stands in attrs: nothing, or the names -/
noncomputable def NmAt (H : AH) (at_ : AV) (ns : Option (List AV)) : Prop := match ns with
  | none => at_ = .none
  | some l => ∃ d nv dn itn sh, at_ = .ref d ∧ H d = some (.dict [(Str.ofString "names", .ref nv)]) ∧ VecAt H nv dn (Str.ofString "character") itn l .none sh false ∧ l.length ≤ 4096
theorem NmAt.ext {H H' : AH} {at_ : AV} {ns : Option (List AV)} (h : NmAt H at_ ns) (e : Ext H H') : NmAt H' at_ ns := by
  unfold NmAt at h ⊢
  split
  · exact h
  · obtain ⟨d, nv, dn, itn, sh, h1, h2, h3, h4⟩ := h
    exact ⟨d, nv, dn, itn, sh, h1, e _ _ h2, h3.ext e, h4⟩
/-- an attribute that is not names -/
theorem get_attr_no (hN : 1 ≤ N) (V : VecAt H x dx k it xs at_ sh lo) {ns : Option (List AV)} (hn : NmAt H at_ ns) {n : Str} (hne : decide (Str.ofString "names" = n) = false) (h : Φ .none H) : Γ TT N (.fn (Str.ofString "get_attr")) [.ref x, .str n] H Φ := by
  refine enter (loc := [(Str.ofString "v", .ref x), (Str.ofString "name", .str n)]) T_get_attr rfl hN rfl rfl ?_
  (refine s_cons ?_; refine s_if ?_; refine t_cmp rfl ?_; refine w_attr rfl ?_; refine w_name rfl rfl ?_)
  refine a_attr V.i V.d rfl rfl ?_
  (refine w_none ?_; refine c_is ?_)
  cases ns with
  | none =>
    have hn : at_ = .none := hn
    subst hn
    refine ift rfl ?_
    (refine s_cons ?_; refine s_ret ?_; refine w_none ?_; refine f_ret ?_; refine f_ret ?_; refine f_rr ?_)
    exact h
  | some l =>
    obtain ⟨d, nv, dn, itn, sh', h1, h2, h3, h4⟩ := hn
    subst h1
    refine iff_ rfl ?_
    (refine s_nil ?_; refine f_next ?_; refine s_cons ?_; refine s_ret ?_; refine w_meth rfl ?_; refine w_attr rfl ?_; refine w_name rfl rfl ?_)
    refine a_attr V.i V.d rfl rfl ?_
    refine m_get h2 ?_
    (refine w_es1 ?_; refine w_name rfl rfl ?_; refine w_es0 ?_)
    refine p_get h2 ?_
    (refine f_ret ?_; refine f_rr ?_)
    have : (getL [(Str.ofString "names", AV.ref nv)] n).getD .none = .none := by
      have q : Str.ofString "names" ≠ n := of_decide_eq_false hne
      show (if Str.ofString "names" = n then some (AV.ref nv) else none).getD .none = .none
      rw [if_neg q]; rfl
    rw [this]
    exact h
theorem get_names_none (hN : 1 ≤ N) (V : VecAt H x dx k it xs .none sh lo) (h : Φ .none H) : Γ TT N (.fn (Str.ofString "get_attr")) [.ref x, .str (Str.ofString "names")] H Φ := by
  refine enter (loc := [(Str.ofString "v", .ref x), (Str.ofString "name", .str (Str.ofString "names"))]) T_get_attr rfl hN rfl rfl ?_
  (refine s_cons ?_; refine s_if ?_; refine t_cmp rfl ?_; refine w_attr rfl ?_; refine w_name rfl rfl ?_)
  refine a_attr V.i V.d rfl rfl ?_
  (refine w_none ?_; refine c_is ?_)
  refine ift rfl ?_
  (refine s_cons ?_; refine s_ret ?_; refine w_none ?_; refine f_ret ?_; refine f_ret ?_; refine f_rr ?_)
  exact h
theorem get_names_some (hN : 1 ≤ N) {d nv : Addr} (V : VecAt H x dx k it xs (.ref d) sh lo) (hd : H d = some (.dict [(Str.ofString "names", .ref nv)])) (h : Φ (.ref nv) H) : Γ TT N (.fn (Str.ofString "get_attr")) [.ref x, .str (Str.ofString "names")] H Φ := by
  refine enter (loc := [(Str.ofString "v", .ref x), (Str.ofString "name", .str (Str.ofString "names"))]) T_get_attr rfl hN rfl rfl ?_
  (refine s_cons ?_; refine s_if ?_; refine t_cmp rfl ?_; refine w_attr rfl ?_; refine w_name rfl rfl ?_)
  refine a_attr V.i V.d rfl rfl ?_
  (refine w_none ?_; refine c_is ?_)
  refine iff_ rfl ?_
  (refine s_nil ?_; refine f_next ?_; refine s_cons ?_; refine s_ret ?_; refine w_meth rfl ?_; refine w_attr rfl ?_; refine w_name rfl rfl ?_)
  refine a_attr V.i V.d rfl rfl ?_
  refine m_get hd ?_
  (refine w_es1 ?_; refine w_name rfl rfl ?_; refine w_es0 ?_)
  refine p_get hd ?_
  (refine f_ret ?_; refine f_rr ?_)
  exact h
theorem dim_of_ok (hN : 2 ≤ N) (V : VecAt H x dx k it xs at_ sh lo) {ns : Option (List AV)} (hn : NmAt H at_ ns) (h : Φ .none H) : Γ TT N (.fn (Str.ofString "dim_of")) [.ref x] H Φ := by
  refine enter (loc := [(Str.ofString "v", .ref x)]) T_dim_of rfl (nl0 hN rfl) rfl rfl ?_
  (refine s_cons ?_; refine s_set rfl ?_; refine w_call rfl ?_; refine w_es1 ?_; refine w_name rfl rfl ?_; refine w_es1 ?_; refine w_str ?_; refine w_es0 ?_)
  refine k_fn rfl (get_attr_no (nl1 hN rfl) V hn rfl ?_)
  (refine f_next ?_; refine s_cons ?_; refine s_if ?_; refine t_cmp rfl ?_; refine w_name rfl rfl ?_; refine w_none ?_; refine c_is ?_)
  refine ift rfl ?_
  (refine s_cons ?_; refine s_ret ?_; refine w_none ?_; refine f_ret ?_; refine f_ret ?_; refine f_rr ?_)
  exact h
/-- names_of: a new list, or None -/
theorem names_of_ok (hN : 3 ≤ N) (V : VecAt H x dx k it xs at_ sh lo) (hk : KD k) {ns : Option (List AV)} (hn : NmAt H at_ ns) (h : match ns with | none => Φ .none H | some l => ∀ a H', H a = none → Ext H H' → H' a = some (.list l) → (∀ b, b ≠ a → H' b = H b) → Φ (.ref a) H') : Γ TT N (.fn (Str.ofString "names_of")) [.ref x] H Φ := by
  refine enter (loc := [(Str.ofString "v", .ref x)]) T_names_of rfl (nl0 hN rfl) rfl rfl ?_
  (refine s_cons ?_; refine s_if ?_; refine t_cmp rfl ?_; refine w_attr rfl ?_; refine w_name rfl rfl ?_)
  refine a_attr V.i V.d rfl rfl ?_
  (refine w_str ?_; refine c_eqs ?_)
  refine iff_ (kd_lang hk) ?_
  (refine s_nil ?_; refine f_next ?_; refine s_cons ?_; refine s_if ?_; refine t_cmp rfl ?_; refine w_attr rfl ?_; refine w_name rfl rfl ?_)
  refine a_attr V.i V.d rfl rfl ?_
  (refine w_str ?_; refine c_eqs ?_)
  refine iff_ (kd_env hk) ?_
  (refine s_nil ?_; refine f_next ?_; refine s_cons ?_; refine s_set rfl ?_; refine w_call rfl ?_; refine w_es1 ?_; refine w_name rfl rfl ?_; refine w_es0 ?_)
  refine k_fn rfl (dim_of_ok (nl1 hN rfl) V hn ?_)
  (refine f_next ?_; refine s_cons ?_; refine s_if ?_; refine t_bop ?_; refine t_and1 ?_; refine t_cmp rfl ?_; refine w_name rfl rfl ?_; refine w_none ?_; refine c_isnot ?_)
  refine iff_ rfl ?_
  refine iff_ rfl ?_
  (refine s_nil ?_; refine f_next ?_; refine s_cons ?_; refine s_set rfl ?_; refine w_call rfl ?_; refine w_es1 ?_; refine w_name rfl rfl ?_; refine w_es1 ?_; refine w_str ?_; refine w_es0 ?_)
  cases ns with
  | none =>
    have hn : at_ = .none := hn
    subst hn
    refine k_fn rfl (get_names_none (nl1 hN rfl) V ?_)
    (refine f_next ?_; refine s_cons ?_; refine s_if ?_; refine t_cmp rfl ?_; refine w_name rfl rfl ?_; refine w_none ?_; refine c_is ?_)
    refine ift rfl ?_
    (refine s_cons ?_; refine s_ret ?_; refine w_none ?_; refine f_ret ?_; refine f_ret ?_; refine f_rr ?_)
    exact h
  | some l =>
    obtain ⟨d, nv, dn, itn, sh', h1, h2, h3, h4⟩ := hn
    subst h1
    refine k_fn rfl (get_names_some (nl1 hN rfl) V h2 ?_)
    (refine f_next ?_; refine s_cons ?_; refine s_if ?_; refine t_cmp rfl ?_; refine w_name rfl rfl ?_; refine w_none ?_; refine c_is ?_)
    refine iff_ rfl ?_
    (refine s_nil ?_; refine f_next ?_; refine s_cons ?_; refine s_ret ?_; refine w_call rfl ?_; refine w_es1 ?_; refine w_attr rfl ?_; refine w_name rfl rfl ?_)
    refine a_attr h3.i h3.d rfl rfl ?_
    (refine w_es0 ?_)
    refine k_built rfl (q_list h3.l h4 (alloc fun a H1 f1 e1 g1 o1 => ?_))
    (refine f_ret ?_; refine f_rr ?_)
    exact h a H1 f1 e1 g1 o1
end
section
variable {N : Nat} {H : AH} {Φ : AV → AH → Prop} {x dx it : Addr} {k : Str} {xs : List AV} {at_ : AV} {sh lo : Bool}
theorem set_item {d : Addr} {es : List (Str × AV)} {s : Str} {v : AV} {Κ : AH → Prop} (h : H d = some (.dict es)) (hl : es.length ≤ 100) (k : ∀ H', H' d = some (.dict (setL es s v)) → (∀ b, b ≠ d → H' b = H b) → Κ H') : setItemA (.ref d) (.str s) v H Κ :=
  j_dict h hl (k _ updH_self fun b hb => updH_ne hb)
theorem push {d : Addr} {us : List AV} {v : AV} (h : H d = some (.list us)) (hl : us.length ≤ 4096) (k : ∀ H', H' d = some (.list (us ++ [v])) → (∀ b, b ≠ d → H' b = H b) → Φ .none H') : appA d [v] H Φ :=
  p_append h hl (k _ updH_self fun b hb => updH_ne hb)

theorem put_attr_ok (hN : 2 ≤ N) {y dy : Addr} {k' : Str} {it' at' : AV} {sh' lo' : Bool} (hi : H x = some (.inst .vec dx)) (hd : H dx = some (.dict (vecD k (.ref it) .none sh lo))) (ji : H y = some (.inst .vec dy)) (jd : ∃ ity, it' = .ref ity ∧ H dy = some (.dict (vecD k' it' at' sh' lo'))) (hne : dx ≠ dy)
    (h : ∀ d0 H', H d0 = none → H' x = some (.inst .vec dx) → H' dx = some (.dict (vecD k (.ref it) (.ref d0) sh lo)) → H' d0 = some (.dict [(Str.ofString "names", .ref y)]) → H' y = some (.inst .vec dy) → H' dy = some (.dict (vecD k' it' at' true lo')) → (∀ b, b ≠ dx → b ≠ dy → b ≠ d0 → H' b = H b) → Φ .none H') :
    Γ TT N (.fn (Str.ofString "put_attr")) [.ref x, .str (Str.ofString "names"), .ref y] H Φ := by
  refine enter (loc := [(Str.ofString "v", .ref x), (Str.ofString "name", .str (Str.ofString "names")), (Str.ofString "value", .ref y)]) T_put_attr rfl (nl0 hN rfl) rfl rfl ?_
  obtain ⟨ity, rfl, jd⟩ := jd
  (refine s_cons ?_; refine s_if ?_; refine t_cmp rfl ?_; refine w_attr rfl ?_; refine w_name rfl rfl ?_)
  refine a_attr hi hd rfl rfl ?_
  (refine w_none ?_; refine c_is ?_)
  refine ift rfl ?_
  (refine s_cons ?_; refine s_attr ?_; refine w_dict0 ?_)
  refine alloc fun d0 H1 f1 e1 g1 o1 => ?_
  (refine w_name rfl rfl ?_)
  refine set_attr (e1 _ _ hi) (e1 _ _ hd) rfl (Nat.le_of_ble_eq_true rfl) fun H2 i2 d2 o2 => ?_
  have nd0 : d0 ≠ dx := Ne.symm (ne_of hd f1)
  have n0y : d0 ≠ dy := Ne.symm (ne_of jd f1)
  have nxy : y ≠ dx := ne_obj ji hd (by simp)
  have nxd : x ≠ dy := ne_obj hi jd (by simp)
  have nyy : y ≠ dy := ne_obj ji jd (by simp)
  (refine f_next ?_; refine s_nil ?_; refine f_next ?_; refine s_cons ?_; refine s_sub rfl ?_; refine w_call rfl ?_; refine w_es1 ?_; refine w_name rfl rfl ?_; refine w_es0 ?_)
  refine k_fn rfl (share_ok (nl1 hN rfl) ((o2 _ nxy).trans (e1 _ _ ji)) ((o2 _ (Ne.symm hne)).trans (e1 _ _ jd)) fun H3 i3 d3 o3 => ?_)
  (refine w_attr rfl ?_; refine w_name rfl rfl ?_)
  have i3' : H3 x = some (.inst .vec dx) := (o3 _ nxd).trans i2
  have d3' : H3 dx = some (.dict (vecD k (.ref it) (.ref d0) sh lo)) := (o3 _ hne).trans d2
  refine a_attr i3' d3' rfl rfl ?_
  (refine w_name rfl rfl ?_)
  have g3 : H3 d0 = some (.dict []) := (o3 _ n0y).trans ((o2 _ nd0).trans g1)
  refine set_item g3 (Nat.le_of_ble_eq_true rfl) fun H4 g4 o4 => ?_
  have nx0 : x ≠ d0 := ne_of hi f1
  have ny0 : y ≠ d0 := ne_of ji f1
  (refine f_next ?_; refine s_nil ?_; refine f_rn ?_)
  exact h d0 H4 f1 ((o4 _ nx0).trans i3') ((o4 _ (Ne.symm nd0)).trans d3') g4 ((o4 _ ny0).trans i3) ((o4 _ (Ne.symm n0y)).trans d3) fun b h1 h2 h3 => (((o4 _ h3).trans (o3 _ h2)).trans (o2 _ h1)).trans (o1 _ h3)

theorem set_names_ok (hN : 3 ≤ N) {t : Addr} {l : List AV} (V : VecAt H x dx k it xs .none sh lo) (hk : KD k) (ht : H t = some (.list l)) (hl : l.length ≤ 4096)
    (h : ∀ d0 y dy ity H', H d0 = none → H y = none → H dy = none → H ity = none → VecAt H' x dx k it xs (.ref d0) sh lo → H' d0 = some (.dict [(Str.ofString "names", .ref y)]) → VecAt H' y dy (Str.ofString "character") ity l .none true false → (∀ b o, b ≠ dx → H b = some o → H' b = some o) → Φ .none H') :
    Γ TT N (.fn (Str.ofString "set_names")) [.ref x, .ref t] H Φ := by
  refine enter (loc := [(Str.ofString "v", .ref x), (Str.ofString "texts", .ref t)]) T_set_names rfl (nl0 hN rfl) rfl rfl ?_
  (refine s_cons ?_; refine s_if ?_; refine t_cmp rfl ?_; refine w_attr rfl ?_; refine w_name rfl rfl ?_)
  refine a_attr V.i V.d rfl rfl ?_
  (refine w_str ?_; refine c_eqs ?_)
  refine iff_ (kd_lang hk) ?_
  (refine s_nil ?_; refine f_next ?_; refine s_cons ?_; refine s_set rfl ?_; refine w_call rfl ?_; refine w_es1 ?_; refine w_name rfl rfl ?_; refine w_es0 ?_)
  refine k_fn rfl (dim_of_ok (ns := none) (nl1 hN rfl) V rfl ?_)
  (refine f_next ?_; refine s_cons ?_; refine s_if ?_; refine t_bop ?_; refine t_and1 ?_; refine t_cmp rfl ?_; refine w_name rfl rfl ?_; refine w_none ?_; refine c_isnot ?_)
  refine iff_ rfl ?_
  refine iff_ rfl ?_
  (refine s_cons ?_; refine s_if ?_; refine t_cmp rfl ?_; refine w_name rfl rfl ?_; refine w_none ?_; refine c_is ?_)
  refine iff_ rfl ?_
  (refine s_cons ?_; refine s_expr ?_; refine w_call rfl ?_; refine w_es1 ?_; refine w_name rfl rfl ?_; refine w_es1 ?_; refine w_str ?_; refine w_es1 ?_; refine w_call rfl ?_; refine w_es1 ?_; refine w_name rfl rfl ?_; refine w_es0 ?_)
  refine k_fn rfl (character_ok (nl1 hN rfl) ht hl fun y dy ity H1 fy fdy fit e1 o1 W => ?_)
  (refine w_es0 ?_)
  refine k_fn rfl (put_attr_ok (nl1 hN rfl) (e1 _ _ V.i) (e1 _ _ V.d) W.i ⟨ity, rfl, W.d⟩ (ne_of V.d fdy) fun d0 H2 f0 i2 d2 g2 iy dy2 o2 => ?_)
  (refine f_next ?_; refine s_nil ?_; refine f_next ?_; refine s_nil ?_; refine f_next ?_; refine s_nil ?_; refine f_rn ?_)
  have keep : ∀ b o, b ≠ dx → H b = some o → H2 b = some o := fun b o hb e => (o2 b hb (ne_of e fdy) (ne_of (e1 _ _ e) f0)).trans (e1 _ _ e)
  refine h d0 y dy ity H2 (e1.no f0) fy fdy fit ⟨i2, d2, keep _ _ (ne_obj V.l V.d (by simp)) V.l⟩ g2 ⟨iy, dy2, (o2 _ ?_ ?_ ?_).trans W.l⟩ keep
  · exact ne_obj W.l (e1 _ _ V.d) (by simp)
  · exact ne_obj W.l W.d (by simp)
  · exact ne_of W.l f0

theorem class_attr_ok (hN : 2 ≤ N) (V : VecAt H x dx k it xs at_ sh lo) {ns : Option (List AV)} (hn : NmAt H at_ ns) (h : ∀ a H', H a = none → Ext H H' → H' a = some (.list []) → Φ (.ref a) H') : Γ TT N (.fn (Str.ofString "class_attr")) [.ref x] H Φ := by
  refine enter (loc := [(Str.ofString "v", .ref x)]) T_class_attr rfl (nl0 hN rfl) rfl rfl ?_
  (refine s_cons ?_; refine s_set rfl ?_; refine w_call rfl ?_; refine w_es1 ?_; refine w_name rfl rfl ?_; refine w_es1 ?_; refine w_str ?_; refine w_es0 ?_)
  refine k_fn rfl (get_attr_no (nl1 hN rfl) V hn rfl ?_)
  (refine f_next ?_; refine s_cons ?_; refine s_if ?_; refine t_cmp rfl ?_; refine w_name rfl rfl ?_; refine w_none ?_; refine c_is ?_)
  refine ift rfl ?_
  (refine s_cons ?_; refine s_ret ?_; refine w_list ?_; refine w_es0 ?_)
  refine ⟨by simp, alloc fun a H1 f1 e1 g1 o1 => ?_⟩
  (refine f_ret ?_; refine f_ret ?_; refine f_rr ?_)
  exact h a H1 f1 e1 g1
theorem is_factor_ok (hN : 3 ≤ N) (V : VecAt H x dx k it xs at_ sh lo) {ns : Option (List AV)} (hn : NmAt H at_ ns) (h : ∀ H', Ext H H' → Φ (.bool false) H') : Γ TT N (.fn (Str.ofString "is_factor")) [.ref x] H Φ := by
  refine enter (loc := [(Str.ofString "v", .ref x)]) T_is_factor rfl (nl0 hN rfl) rfl rfl ?_
  (refine s_cons ?_; refine s_ret ?_; refine w_bop ?_; refine b_and ?_; refine w_cmp rfl ?_; refine w_attr rfl ?_; refine w_name rfl rfl ?_)
  refine a_attr V.i V.d rfl rfl ?_
  (refine w_str ?_; refine c_eqs ?_)
  refine andB_i (ifs (fun c => ?_) fun c => ?_)
  · (refine b_and ?_; refine w_cmp rfl ?_; refine w_str ?_; refine w_call rfl ?_; refine w_es1 ?_; refine w_name rfl rfl ?_; refine w_es0 ?_)
    refine k_fn rfl (class_attr_ok (nl1 hN rfl) V hn fun a H1 f1 e1 g1 => ?_)
    skip
    refine c_inl g1 rfl ?_
    refine andB_i (iff_ rfl ?_)
    (refine f_ret ?_; refine f_rr ?_)
    exact h _ e1
  · (refine f_ret ?_; refine f_rr ?_)
    exact h _ (Ext.refl _)

/-- the items at these places -/
noncomputable def sel (xs : List AV) (ps : List Nat) : List AV := ps.filterMap fun p => xs[p]?
noncomputable def pAV (p : Nat) : AV := .int p
noncomputable def selF (xs : List AV) : AV → Option AV
  | .int i => xs[i.toNat]?
  | _ => none
theorem sel_map (xs : List AV) (ps : List Nat) : (ps.map pAV).filterMap (selF xs) = sel xs ps := by
  unfold sel
  rw [List.filterMap_map]
  rfl
theorem sel_len {xs : List AV} : ∀ {ps : List Nat}, (∀ p ∈ ps, p < xs.length) → (sel xs ps).length = ps.length
  | [], _ => rfl
  | p :: r, h => by
    unfold sel
    rw [List.filterMap_cons_some (List.getElem?_eq_getElem (h p List.mem_cons_self)), List.length_cons, List.length_cons]
    exact congrArg (· + 1) (sel_len fun q hq => h q (List.mem_cons_of_mem _ hq))

theorem pick_ok (hN : 4 ≤ N) (V : VecAt H x dx k it xs at_ sh lo) (hk : KD k) {ns : Option (List AV)} (hn : NmAt H at_ ns) (hl : xs.length ≤ 4096) (hln : ∀ l, ns = some l → l.length = xs.length) {pl : Addr} {ps : List Nat} (hp : H pl = some (.list (ps.map pAV))) (hpl : ps.length ≤ 4096) (hps : ∀ p ∈ ps, p < xs.length)
    (h : ∀ y dy ity at' H', Ext H H' → VecAt H' y dy k ity (sel xs ps) at' false false → NmAt H' at' (ns.map fun l => sel l ps) → Φ (.ref y) H') : Γ TT N (.fn (Str.ofString "pick")) [.ref x, .ref pl] H Φ := by
  refine enter (loc := [(Str.ofString "v", .ref x), (Str.ofString "places", .ref pl)]) T_pick rfl (nl0 hN rfl) rfl rfl ?_
  (refine s_cons ?_; refine s_set rfl ?_; refine w_call rfl ?_; refine w_es1 ?_; refine w_attr rfl ?_; refine w_name rfl rfl ?_)
  refine a_attr V.i V.d rfl rfl ?_
  (refine w_es1 ?_)
  refine e_comp0 rfl ?_
  (refine w_name rfl rfl ?_)
  refine comp_go (selF xs) hp rfl (by simpa using hpl) (fun v hv K hK => ?_) ?_
  · obtain ⟨p, hpm, rfl⟩ := List.mem_map.mp hv
    have hlt := hps p hpm
    (refine w_sub rfl ?_; refine w_attr rfl ?_; refine w_name rfl rfl ?_)
    refine a_attr V.i V.d rfl rfl ?_
    (refine w_name rfl rfl ?_)
    refine i_list V.l hl (by show (0 : Int) ≤ (p : Int); omega) (List.getElem?_eq_getElem (by show (p : Int).toNat < _; simpa using hlt)) ?_
    have e : selF xs (pAV p) = some (xs[((p : Int)).toNat]'(by simpa using hlt)) := List.getElem?_eq_getElem (by simpa using hlt)
    rw [e] at hK
    exact hK
  rw [sel_map]
  refine alloc fun its H1 f1 e1 g1 o1 => ?_
  (refine w_es0 ?_)
  refine vec_ok (nl1 hN rfl) fun y dy H2 fy fdy hyd e2 o2 iy ddy => ?_
  have W : VecAt H2 y dy k its (sel xs ps) .none false false := ⟨iy, ddy, e2 _ _ g1⟩
  (refine f_next ?_; refine s_cons ?_; refine s_set rfl ?_; refine w_call rfl ?_; refine w_es1 ?_; refine w_name rfl rfl ?_; refine w_es0 ?_)
  have V2 := V.ext (e1.trans e2)
  have hn2 := hn.ext (e1.trans e2)
  refine k_fn rfl (names_of_ok (nl1 hN rfl) V2 hk hn2 ?_)
  cases ns with
  | none =>
    (refine f_next ?_; refine s_cons ?_; refine s_if ?_; refine t_cmp rfl ?_; refine w_name rfl rfl ?_; refine w_none ?_; refine c_isnot ?_)
    refine iff_ rfl ?_
    (refine s_nil ?_; refine f_next ?_; refine s_cons ?_; refine s_if ?_; refine t_call ?_; refine w_call rfl ?_; refine w_es1 ?_; refine w_name rfl rfl ?_; refine w_es0 ?_)
    refine k_fn rfl (is_factor_ok (nl1 hN rfl) V2 hn2 fun H3 e3 => ?_)
    (refine f_bool ?_)
    refine iff_ rfl ?_
    (refine s_nil ?_; refine f_next ?_; refine s_cons ?_; refine s_ret ?_; refine w_name rfl rfl ?_; refine f_ret ?_; refine f_rr ?_)
    exact h y dy its .none H3 ((e1.trans e2).trans e3) (W.ext e3) rfl
  | some l =>
    dsimp only
    intro nl H3 f3 e3 g3 o3
    (refine f_next ?_; refine s_cons ?_; refine s_if ?_; refine t_cmp rfl ?_; refine w_name rfl rfl ?_; refine w_none ?_; refine c_isnot ?_)
    refine ift rfl ?_
    (refine s_cons ?_; refine s_expr ?_; refine w_call rfl ?_; refine w_es1 ?_; refine w_name rfl rfl ?_; refine w_es1 ?_)
    have hp3 := (e1.trans (e2.trans e3)) _ _ hp
    have hl' := hln l rfl
    refine e_comp0 rfl ?_
    (refine w_name rfl rfl ?_)
    refine comp_go (selF l) hp3 rfl (by simpa using hpl) (fun v hv K hK => ?_) ?_
    · obtain ⟨p, hpm, rfl⟩ := List.mem_map.mp hv
      have hlt : p < l.length := by rw [hl']; exact hps p hpm
      (refine w_sub rfl ?_; refine w_name rfl rfl ?_; refine w_name rfl rfl ?_)
      refine i_list g3 (by omega) (by show (0 : Int) ≤ (p : Int); omega) (List.getElem?_eq_getElem (by show (p : Int).toNat < _; simpa using hlt)) ?_
      have e : selF l (pAV p) = some (l[((p : Int)).toNat]'(by simpa using hlt)) := List.getElem?_eq_getElem (by simpa using hlt)
      rw [e] at hK
      exact hK
    rw [sel_map]
    refine alloc fun tl H4 f4 e4 g4 o4 => ?_
    (refine w_es0 ?_)
    have hlen : (sel l ps).length ≤ 4096 := by rw [sel_len fun p hp => by rw [hl']; exact hps p hp]; exact hpl
    refine k_fn rfl (set_names_ok (nl1 hN rfl) (W.ext (e3.trans e4)) hk g4 hlen fun d0 z dz itz H5 n1 n2 n3 n4 W5 g5 Z keep => ?_)
    (refine f_next ?_; refine s_nil ?_; refine f_next ?_; refine s_cons ?_; refine s_if ?_; refine t_call ?_; refine w_call rfl ?_; refine w_es1 ?_; refine w_name rfl rfl ?_; refine w_es0 ?_)
    have e5 : Ext H H5 := fun b o e => keep b o (ne_of (e1 _ _ e) fdy) (e4 _ _ (e3 _ _ (e2 _ _ (e1 _ _ e))))
    refine k_fn rfl (is_factor_ok (nl1 hN rfl) (V.ext e5) (hn.ext e5) fun H6 e6 => ?_)
    (refine f_bool ?_)
    refine iff_ rfl ?_
    (refine s_nil ?_; refine f_next ?_; refine s_cons ?_; refine s_ret ?_; refine w_name rfl rfl ?_; refine f_ret ?_; refine f_rr ?_)
    exact h y dy its (.ref d0) H6 (e5.trans e6) (W5.ext e6) ⟨d0, z, dz, itz, true, rfl, e6 _ _ g5, Z.ext e6, hlen⟩
end
section
variable {N : Nat} {H : AH} {Φ : AV → AH → Prop} {x dx it : Addr} {k : Str} {xs : List AV} {at_ : AV} {sh lo : Bool}
theorem with_names_none (hN : 1 ≤ N) {v : AV} (h : Φ v H) : Γ TT N (.fn (Str.ofString "with_names")) [v, .none] H Φ := by
  refine enter (loc := [(Str.ofString "v", v), (Str.ofString "names", .none)]) T_with_names rfl (nl0 hN rfl) rfl rfl ?_
  (refine s_cons ?_; refine s_if ?_; refine t_cmp rfl ?_; refine w_name rfl rfl ?_; refine w_none ?_; refine c_isnot ?_)
  refine iff_ rfl ?_
  (refine s_nil ?_; refine f_next ?_; refine s_cons ?_; refine s_ret ?_; refine w_name rfl rfl ?_; refine f_ret ?_; refine f_rr ?_)
  exact h
theorem as_kind_ok (hN : 4 ≤ N) {n : Addr} (V : VecAt H x dx (Str.ofString "logical") it xs .none sh lo) (hl : xs.length ≤ 4096) (h : ∀ y dy ity H', Ext H H' → VecAt H' y dy (Str.ofString "logical") ity xs .none false false → Φ (.ref y) H') : Γ TT N (.fn (Str.ofString "as_kind")) [.ref x, .str (Str.ofString "logical"), .ref n] H Φ := by
  refine enter (loc := [(Str.ofString "v", .ref x), (Str.ofString "kind", .str (Str.ofString "logical")), (Str.ofString "notes", .ref n)]) T_as_kind rfl (nl0 hN rfl) rfl rfl ?_
  (refine s_cons ?_; refine s_if ?_; refine t_not ?_; refine t_call ?_; refine w_isinst rfl rfl rfl ?_; refine w_name rfl rfl ?_)
  refine isi_vec V.i ?_
  (refine f_bool ?_)
  refine iff_ rfl ?_
  (refine s_nil ?_; refine f_next ?_; refine s_cons ?_; refine s_set rfl ?_; refine w_attr rfl ?_; refine w_name rfl rfl ?_)
  refine a_attr V.i V.d rfl rfl ?_
  (refine f_next ?_; refine s_cons ?_; refine s_if ?_; refine t_cmp rfl ?_; refine w_attr rfl ?_; refine w_name rfl rfl ?_)
  refine a_attr V.i V.d rfl rfl ?_
  (refine w_name rfl rfl ?_; refine c_nes ?_)
  refine iff_ rfl ?_
  (refine s_nil ?_; refine f_next ?_; refine s_cons ?_; refine s_ret ?_; refine w_call rfl ?_; refine w_es1 ?_; refine w_call rfl ?_; refine w_es1 ?_; refine w_name rfl rfl ?_; refine w_es1 ?_; refine w_call rfl ?_; refine w_es1 ?_; refine w_name rfl rfl ?_; refine w_es0 ?_)
  refine k_built rfl (q_list V.l hl (alloc fun a H1 f1 e1 g1 o1 => ?_))
  (refine w_es0 ?_)
  refine vec_ok (nl1 hN rfl) fun y dy H2 fy fdy hyd e2 o2 iy ddy => ?_
  (refine w_es1 ?_; refine w_call rfl ?_; refine w_es1 ?_; refine w_name rfl rfl ?_; refine w_es0 ?_)
  refine k_fn rfl (names_of_ok (nl1 hN rfl) (V.ext (e1.trans e2)) (.inr (.inr (.inl rfl))) (ns := none) rfl ?_)
  (refine w_es0 ?_)
  refine k_fn rfl (with_names_none (nl1 hN rfl) ?_)
  (refine f_ret ?_; refine f_rr ?_)
  exact h y dy a H2 (e1.trans e2) ⟨iy, ddy, e2 _ _ g1⟩
theorem flag_arg_none (hN : 1 ≤ N) {d : AV} (h : Φ d H) : Γ TT N (.fn (Str.ofString "flag_arg")) [.none, d] H Φ := by
  refine enter (loc := [(Str.ofString "v", .none), (Str.ofString "default", d)]) T_flag_arg rfl (nl0 hN rfl) rfl rfl ?_
  (refine s_cons ?_; refine s_if ?_; refine t_cmp rfl ?_; refine w_name rfl rfl ?_; refine w_none ?_; refine c_is ?_)
  refine ift rfl ?_
  (refine s_cons ?_; refine s_ret ?_; refine w_name rfl rfl ?_; refine f_ret ?_; refine f_ret ?_; refine f_rr ?_)
  exact h
/-- what a flag says -/
noncomputable def flagV : AV → AV
  | .int i => .bool (decide (i = 1))
  | v => v
theorem flag_arg_some (hN : 5 ≤ N) {d f : AV} (V : VecAt H x dx (Str.ofString "logical") it [f] .none sh lo) (hf : f = .none ∨ ∃ i, f = .int i) (h : ∀ H', Ext H H' → Φ (flagV f) H') : Γ TT N (.fn (Str.ofString "flag_arg")) [.ref x, d] H Φ := by
  refine enter (loc := [(Str.ofString "v", .ref x), (Str.ofString "default", d)]) T_flag_arg rfl (nl0 hN rfl) rfl rfl ?_
  have kl : KD (Str.ofString "logical") := .inr (.inr (.inl rfl))
  (refine s_cons ?_; refine s_if ?_; refine t_cmp rfl ?_; refine w_name rfl rfl ?_; refine w_none ?_; refine c_is ?_)
  refine iff_ rfl ?_
  (refine s_nil ?_; refine f_next ?_; refine s_cons ?_; refine s_if ?_; refine t_bop ?_; refine t_or1 ?_; refine t_not ?_; refine t_call ?_; refine w_call rfl ?_; refine w_es1 ?_; refine w_name rfl rfl ?_; refine w_es0 ?_)
  refine k_fn rfl (is_vector_ok (nl1 hN rfl) V.i ?_)
  (refine f_bool ?_)
  refine iff_ rfl ?_
  (refine t_or1 ?_; refine t_cmp rfl ?_; refine w_call rfl ?_; refine w_es1 ?_; refine w_name rfl rfl ?_; refine w_es0 ?_)
  refine k_fn rfl (length_ok (nl1 hN rfl) V kl (by simp) ?_)
  (refine w_int ?_; refine c_eqi ?_)
  refine iff_ rfl ?_
  (refine t_or0 ?_)
  refine iff_ rfl ?_
  (refine s_nil ?_; refine f_next ?_; refine s_cons ?_; refine s_set rfl ?_; refine w_sub rfl ?_; refine w_attr rfl ?_; refine w_call rfl ?_; refine w_es1 ?_; refine w_name rfl rfl ?_; refine w_es1 ?_; refine w_str ?_; refine w_es1 ?_; refine w_list ?_; refine w_es0 ?_)
  refine ⟨by simp, alloc fun n H1 f1 e1 g1 o1 => ?_⟩
  (refine w_es0 ?_)
  refine k_fn rfl (as_kind_ok (nl1 hN rfl) (V.ext e1) (by simp) fun y dy ity H2 e2 W => ?_)
  skip
  refine a_attr W.i W.d rfl rfl ?_
  (refine w_int ?_)
  refine i_list W.l (by simp) (by decide) rfl ?_
  (refine f_next ?_; refine s_cons ?_; refine s_if ?_; refine t_cmp rfl ?_; refine w_name rfl rfl ?_; refine w_none ?_; refine c_is ?_)
  rcases hf with rfl | ⟨i, rfl⟩
  · refine ift rfl ?_
    (refine s_cons ?_; refine s_ret ?_; refine w_none ?_; refine f_ret ?_; refine f_ret ?_; refine f_rr ?_)
    exact h H2 (e1.trans e2)
  · refine iff_ rfl ?_
    (refine s_nil ?_; refine f_next ?_; refine s_cons ?_; refine s_ret ?_; refine w_cmp rfl ?_; refine w_name rfl rfl ?_; refine w_int ?_; refine c_eqi ?_; refine f_ret ?_; refine f_rr ?_)
    exact h H2 (e1.trans e2)
theorem flags_arg_none (hN : 2 ≤ N) {d : AV} (h : Φ d H) : Γ TT N (.fn (Str.ofString "flags_arg")) [.none, d] H Φ := by
  refine enter (loc := [(Str.ofString "v", .none), (Str.ofString "default", d)]) T_flags_arg rfl (nl0 hN rfl) rfl rfl ?_
  (refine s_cons ?_; refine s_if ?_; refine t_bop ?_; refine t_and1 ?_; refine t_cmp rfl ?_; refine w_name rfl rfl ?_; refine w_none ?_; refine c_isnot ?_)
  refine iff_ rfl ?_
  refine iff_ rfl ?_
  (refine s_nil ?_; refine f_next ?_; refine s_cons ?_; refine s_ret ?_; refine w_call rfl ?_; refine w_es1 ?_; refine w_name rfl rfl ?_; refine w_es1 ?_; refine w_name rfl rfl ?_; refine w_es0 ?_)
  refine k_fn rfl (flag_arg_none (nl1 hN rfl) ?_)
  (refine f_ret ?_; refine f_rr ?_)
  exact h
theorem flags_arg_some (hN : 6 ≤ N) {d f : AV} (V : VecAt H x dx (Str.ofString "logical") it [f] .none sh lo) (hf : f = .none ∨ ∃ i, f = .int i) (h : ∀ H', Ext H H' → Φ (flagV f) H') : Γ TT N (.fn (Str.ofString "flags_arg")) [.ref x, d] H Φ := by
  refine enter (loc := [(Str.ofString "v", .ref x), (Str.ofString "default", d)]) T_flags_arg rfl (nl0 hN rfl) rfl rfl ?_
  (refine s_cons ?_; refine s_if ?_; refine t_bop ?_; refine t_and1 ?_; refine t_cmp rfl ?_; refine w_name rfl rfl ?_; refine w_none ?_; refine c_isnot ?_)
  refine ift rfl ?_
  (refine t_and1 ?_; refine t_call ?_; refine w_call rfl ?_; refine w_es1 ?_; refine w_name rfl rfl ?_; refine w_es0 ?_)
  refine k_fn rfl (is_vector_ok (nl1 hN rfl) V.i ?_)
  (refine f_bool ?_)
  refine ift rfl ?_
  (refine t_and1 ?_; refine t_cmp rfl ?_; refine w_call rfl ?_; refine w_es1 ?_; refine w_name rfl rfl ?_; refine w_es0 ?_)
  refine k_fn rfl (length_ok (nl1 hN rfl) V (.inr (.inr (.inl rfl))) (by simp) ?_)
  (refine w_int ?_; refine c_gti ?_)
  refine iff_ rfl ?_
  refine iff_ rfl ?_
  (refine s_nil ?_; refine f_next ?_; refine s_cons ?_; refine s_ret ?_; refine w_call rfl ?_; refine w_es1 ?_; refine w_name rfl rfl ?_; refine w_es1 ?_; refine w_name rfl rfl ?_; refine w_es0 ?_)
  refine k_fn rfl (flag_arg_some (nl1 hN rfl) V hf fun H1 e1 => ?_)
  (refine f_ret ?_; refine f_rr ?_)
  exact h H1 e1
theorem needed_arg_ok (hN : 1 ≤ N) {n : AV} (h : Φ (.ref x) H) : Γ TT N (.fn (Str.ofString "needed_arg")) [.ref x, n] H Φ := by
  refine enter (loc := [(Str.ofString "v", .ref x), (Str.ofString "name", n)]) T_needed_arg rfl (nl0 hN rfl) rfl rfl ?_
  (refine s_cons ?_; refine s_if ?_; refine t_cmp rfl ?_; refine w_name rfl rfl ?_; refine w_none ?_; refine c_is ?_)
  refine iff_ rfl ?_
  (refine s_nil ?_; refine f_next ?_; refine s_cons ?_; refine s_ret ?_; refine w_name rfl rfl ?_; refine f_ret ?_; refine f_rr ?_)
  exact h

-- comparing
/-- an item of a vector of the kind k -/
noncomputable def ItemOk (k : Str) (v : AV) : Prop := v = .none ∨ (k = Str.ofString "character" ∧ ∃ s, v = .str s) ∨ ((k = Str.ofString "integer" ∨ k = Str.ofString "logical") ∧ ∃ i, v = .int i)
noncomputable def KS (k : Str) : Prop := k = Str.ofString "integer" ∨ k = Str.ofString "character" ∨ k = Str.ofString "logical"
theorem KS.kd {k : Str} (h : KS k) : KD k := by
  rcases h with rfl | rfl | rfl
  · exact .inl rfl
  · exact .inr (.inl rfl)
  · exact .inr (.inr (.inl rfl))
theorem ks_double {k : Str} (h : KS k) : decide (k = Str.ofString "double") = false := by rcases h with rfl | rfl | rfl <;> rfl
noncomputable def ltV : AV → AV → Bool
  | .int i, .int j => decide (i < j)
  | .str s, .str t => decide (s.cps.toList < t.cps.toList)
  | _, _ => false
noncomputable def cmpI (a b : AV) : Int := if ltV a b then -1 else if ltV b a then 1 else 0
theorem is_lacking_ok (hN : 1 ≤ N) (hk : KS k) {v : AV} (h : Φ (.bool (isNone v)) H) : Γ TT N (.fn (Str.ofString "is_lacking")) [.str k, v] H Φ := by
  refine enter (loc := [(Str.ofString "kind", .str k), (Str.ofString "item", v)]) T_is_lacking rfl (nl0 hN rfl) rfl rfl ?_
  (refine s_cons ?_; refine s_ret ?_; refine w_bop ?_; refine b_or ?_; refine w_cmp rfl ?_; refine w_name rfl rfl ?_; refine w_none ?_; refine c_is ?_)
  refine andB_i (ifs (fun c => ?_) fun c => ?_)
  · (refine f_ret ?_; refine f_rr ?_)
    rw [c] at h
    exact h
  · (refine b_one ?_; refine w_bop ?_; refine b_and ?_; refine w_cmp rfl ?_; refine w_name rfl rfl ?_; refine w_str ?_; refine c_eqs ?_)
    refine andB_i (iff_ (ks_double hk) ?_)
    (refine f_ret ?_; refine f_rr ?_)
    rw [c] at h
    exact h
theorem compare_items_ok (hN : 1 ≤ N) (hk : KS k) {a b : AV} (ha : ItemOk k a) (hb : ItemOk k b) (na : isNone a = false) (nb : isNone b = false) (h : Φ (.int (cmpI a b)) H) : Γ TT N (.fn (Str.ofString "compare_items")) [.str k, a, b] H Φ := by
  refine enter (loc := [(Str.ofString "kind", .str k), (Str.ofString "a", a), (Str.ofString "b", b)]) T_compare_items rfl (nl0 hN rfl) rfl rfl ?_
  (refine s_cons ?_; refine s_if ?_; refine t_cmp rfl ?_; refine w_name rfl rfl ?_; refine w_str ?_; refine c_eqs ?_)
  refine iff_ (ks_double hk) ?_
  have go : ∀ (c : AV → AV → Prop), (∀ i j, a = .int i → b = .int j → c a b) → (∀ s t, a = .str s → b = .str t → c a b) → c a b := fun c h1 h2 => by
    rcases ha with rfl | ⟨k1, s, rfl⟩ | ⟨k1, i, rfl⟩
    · cases na
    · rcases hb with rfl | ⟨k2, t, rfl⟩ | ⟨k2, j, rfl⟩
      · cases nb
      · exact h2 s t rfl rfl
      · subst k1; rcases k2 with k2 | k2 <;> exact absurd k2 (by decide +kernel)
    · rcases hb with rfl | ⟨k2, t, rfl⟩ | ⟨k2, j, rfl⟩
      · cases nb
      · subst k2; rcases k1 with k1 | k1 <;> exact absurd k1 (by decide +kernel)
      · exact h1 i j rfl rfl
  have lt1 : ∀ {Χ : Bool → Prop}, Χ (ltV a b) → cmpA .Lt a b H Χ := fun {Χ} => go (fun a b => Χ (ltV a b) → cmpA .Lt a b H Χ) (fun i j e1 e2 q => by subst e1 e2; exact q) fun s t e1 e2 q => by subst e1 e2; exact q
  have gt1 : ∀ {Χ : Bool → Prop}, Χ (ltV b a) → cmpA .Gt a b H Χ := fun {Χ} => go (fun a b => Χ (ltV b a) → cmpA .Gt a b H Χ) (fun i j e1 e2 q => by subst e1 e2; exact q) fun s t e1 e2 q => by subst e1 e2; exact q
  (refine s_nil ?_; refine f_next ?_; refine s_cons ?_; refine s_if ?_; refine t_cmp rfl ?_; refine w_name rfl rfl ?_; refine w_name rfl rfl ?_)
  refine lt1 (ifs (fun c => ?_) fun c => ?_)
  · (refine s_cons ?_; refine s_ret ?_; refine w_neg ?_; refine w_int ?_; refine f_neg ?_; refine f_ret ?_; refine f_ret ?_; refine f_rr ?_)
    unfold cmpI at h
    rw [if_pos c] at h
    exact h
  · (refine s_nil ?_; refine f_next ?_; refine s_cons ?_; refine s_if ?_; refine t_cmp rfl ?_; refine w_name rfl rfl ?_; refine w_name rfl rfl ?_)
    refine gt1 (ifs (fun c' => ?_) fun c' => ?_)
    · (refine s_cons ?_; refine s_ret ?_; refine w_int ?_; refine f_ret ?_; refine f_ret ?_; refine f_rr ?_)
      unfold cmpI at h
      rw [if_neg (by rw [c]; decide), if_pos c'] at h
      exact h
    · (refine s_nil ?_; refine f_next ?_; refine s_cons ?_; refine s_ret ?_; refine w_int ?_; refine f_ret ?_; refine f_rr ?_)
      unfold cmpI at h
      rw [if_neg (by rw [c]; decide), if_neg (by rw [c']; decide)] at h
      exact h
/-- the order of two places -/
noncomputable def cmpP (xs : List AV) (dec nal : Bool) (i j : Nat) : Int :=
  let a := (xs[i]?).getD .none
  let b := (xs[j]?).getD .none
  if isNone a then (if isNone b then 0 else if nal then 1 else -1) else if isNone b then (if nal then -1 else 1) else if dec then -(cmpI a b) else cmpI a b
theorem compare_places_ok (hN : 2 ≤ N) (V : VecAt H x dx k it xs at_ sh lo) (hk : KS k) (hx : ∀ v ∈ xs, ItemOk k v) (hl : xs.length ≤ 4096) {i j : Nat} (hi : i < xs.length) (hj : j < xs.length) {dec nal : Bool} (h : Φ (.int (cmpP xs dec nal i j)) H) :
    Γ TT N (.fn (Str.ofString "compare_places")) [.ref x, .int i, .int j, .bool dec, .bool nal] H Φ := by
  refine enter (loc := [(Str.ofString "v", .ref x), (Str.ofString "i", .int i), (Str.ofString "j", .int j), (Str.ofString "decreasing", .bool dec), (Str.ofString "na_last", .bool nal)]) T_compare_places rfl (nl0 hN rfl) rfl rfl ?_
  have ei : xs[i]? = some xs[i] := List.getElem?_eq_getElem hi
  have ej : xs[j]? = some xs[j] := List.getElem?_eq_getElem hj
  unfold cmpP at h
  rw [ei, ej] at h
  dsimp only [Option.getD] at h
  have oki := hx _ (List.getElem_mem hi)
  have okj := hx _ (List.getElem_mem hj)
  generalize xs[i] = a at *
  generalize xs[j] = b at *
  (refine s_cons ?_; refine s_set rfl ?_; refine w_sub rfl ?_; refine w_attr rfl ?_; refine w_name rfl rfl ?_)
  refine a_attr V.i V.d rfl rfl ?_
  (refine w_name rfl rfl ?_)
  refine i_list V.l hl (Int.natCast_nonneg i) (by rw [Int.toNat_natCast]; exact ei) ?_
  (refine f_next ?_; refine s_cons ?_; refine s_set rfl ?_; refine w_sub rfl ?_; refine w_attr rfl ?_; refine w_name rfl rfl ?_)
  refine a_attr V.i V.d rfl rfl ?_
  (refine w_name rfl rfl ?_)
  refine i_list V.l hl (Int.natCast_nonneg j) (by rw [Int.toNat_natCast]; exact ej) ?_
  (refine f_next ?_; refine s_cons ?_; refine s_set rfl ?_; refine w_call rfl ?_; refine w_es1 ?_; refine w_attr rfl ?_; refine w_name rfl rfl ?_)
  refine a_attr V.i V.d rfl rfl ?_
  (refine w_es1 ?_; refine w_name rfl rfl ?_; refine w_es0 ?_)
  refine k_fn rfl (is_lacking_ok (nl1 hN rfl) hk ?_)
  (refine f_next ?_; refine s_cons ?_; refine s_set rfl ?_; refine w_call rfl ?_; refine w_es1 ?_; refine w_attr rfl ?_; refine w_name rfl rfl ?_)
  refine a_attr V.i V.d rfl rfl ?_
  (refine w_es1 ?_; refine w_name rfl rfl ?_; refine w_es0 ?_)
  refine k_fn rfl (is_lacking_ok (nl1 hN rfl) hk ?_)
  (refine f_next ?_; refine s_cons ?_; refine s_if ?_; refine t_bop ?_; refine t_and1 ?_; refine t_name ?_; refine w_name rfl rfl ?_; refine f_bool ?_)
  cases na : isNone a with
  | true =>
    rw [na] at h
    refine ift rfl ?_
    (refine t_and1 ?_; refine t_name ?_; refine w_name rfl rfl ?_; refine f_bool ?_)
    cases nb : isNone b with
    | true =>
      rw [nb] at h
      refine ift rfl ?_
      (refine t_and0 ?_)
      refine ift rfl ?_
      (refine s_cons ?_; refine s_ret ?_; refine w_int ?_; refine f_ret ?_; refine f_ret ?_; refine f_rr ?_)
      exact h
    | false =>
      rw [nb] at h
      refine iff_ rfl ?_
      refine iff_ rfl ?_
      (refine s_nil ?_; refine f_next ?_; refine s_cons ?_; refine s_if ?_; refine t_name ?_; refine w_name rfl rfl ?_; refine f_bool ?_)
      refine ift rfl ?_
      (refine s_cons ?_; refine s_ret ?_; refine w_ife ?_; refine t_name ?_; refine w_name rfl rfl ?_; refine f_bool ?_)
      cases nal with
      | true => refine ift rfl ?_; ((refine w_int ?_; refine f_ret ?_; refine f_ret ?_; refine f_rr ?_)); exact h
      | false => refine iff_ rfl ?_; ((refine w_neg ?_; refine w_int ?_; refine f_neg ?_; refine f_ret ?_; refine f_ret ?_; refine f_rr ?_)); exact h
  | false =>
    rw [na] at h
    refine iff_ rfl ?_
    refine iff_ rfl ?_
    (refine s_nil ?_; refine f_next ?_; refine s_cons ?_; refine s_if ?_; refine t_name ?_; refine w_name rfl rfl ?_; refine f_bool ?_)
    refine iff_ rfl ?_
    (refine s_nil ?_; refine f_next ?_; refine s_cons ?_; refine s_if ?_; refine t_name ?_; refine w_name rfl rfl ?_; refine f_bool ?_)
    cases nb : isNone b with
    | true =>
      rw [nb] at h
      refine ift rfl ?_
      (refine s_cons ?_; refine s_ret ?_; refine w_ife ?_; refine t_name ?_; refine w_name rfl rfl ?_; refine f_bool ?_)
      cases nal with
      | true => refine ift rfl ?_; ((refine w_neg ?_; refine w_int ?_; refine f_neg ?_; refine f_ret ?_; refine f_ret ?_; refine f_rr ?_)); exact h
      | false => refine iff_ rfl ?_; ((refine w_int ?_; refine f_ret ?_; refine f_ret ?_; refine f_rr ?_)); exact h
    | false =>
      rw [nb] at h
      refine iff_ rfl ?_
      (refine s_nil ?_; refine f_next ?_; refine s_cons ?_; refine s_set rfl ?_; refine w_call rfl ?_; refine w_es1 ?_; refine w_attr rfl ?_; refine w_name rfl rfl ?_)
      refine a_attr V.i V.d rfl rfl ?_
      (refine w_es1 ?_; refine w_name rfl rfl ?_; refine w_es1 ?_; refine w_name rfl rfl ?_; refine w_es0 ?_)
      refine k_fn rfl (compare_items_ok (nl1 hN rfl) hk oki okj na nb ?_)
      (refine f_next ?_; refine s_cons ?_; refine s_ret ?_; refine w_ife ?_; refine t_name ?_; refine w_name rfl rfl ?_; refine f_bool ?_)
      cases dec with
      | true => refine ift rfl ?_; ((refine w_neg ?_; refine w_name rfl rfl ?_; refine f_neg ?_; refine f_ret ?_; refine f_rr ?_)); exact h
      | false => refine iff_ rfl ?_; ((refine w_name rfl rfl ?_; refine f_ret ?_; refine f_rr ?_)); exact h
end
section
/-- two items of one vector, or NA -/
noncomputable def Same (a b : AV) : Prop := isNone a = true ∨ isNone b = true ∨ (∃ i j, a = .int i ∧ b = .int j) ∨ ∃ s t, a = .str s ∧ b = .str t
theorem same_of {k : Str} {a b : AV} (ha : ItemOk k a) (hb : ItemOk k b) : Same a b := by
  rcases ha with rfl | ⟨k1, s, rfl⟩ | ⟨k1, i, rfl⟩
  · exact .inl rfl
  · rcases hb with rfl | ⟨k2, t, rfl⟩ | ⟨k2, j, rfl⟩
    · exact .inr (.inl rfl)
    · exact .inr (.inr (.inr ⟨s, t, rfl, rfl⟩))
    · subst k1; rcases k2 with k2 | k2 <;> exact absurd k2 (by decide +kernel)
  · rcases hb with rfl | ⟨k2, t, rfl⟩ | ⟨k2, j, rfl⟩
    · exact .inr (.inl rfl)
    · subst k2; rcases k1 with k1 | k1 <;> exact absurd k1 (by decide +kernel)
    · exact .inr (.inr (.inl ⟨i, j, rfl, rfl⟩))

theorem ltV_asymm {a b : AV} (h : ltV a b = true) : ltV b a = false := by
  cases a <;> cases b <;> simp only [ltV] at h ⊢ <;> first | cases h | skip
  · have := of_decide_eq_true h
    exact decide_eq_false (by omega)
  · have := of_decide_eq_true h
    exact decide_eq_false (List.lt_asymm this)
theorem ltV_irrefl (a : AV) : ltV a a = false := by
  cases h : ltV a a with
  | false => rfl
  | true => rw [ltV_asymm h] at h; cases h
/-- not greater: transitive -/
theorem geV_trans {a b c : AV} (s1 : Same a b) (s2 : Same b c) (na : isNone a = false) (nb : isNone b = false) (nc : isNone c = false) (h1 : ltV b a = false) (h2 : ltV c b = false) : ltV c a = false := by
  rcases s1 with s1 | s1 | ⟨i, j, rfl, rfl⟩ | ⟨i, j, rfl, rfl⟩
  · rw [na] at s1; cases s1
  · rw [nb] at s1; cases s1
  · rcases s2 with s2 | s2 | ⟨i', j', e, rfl⟩ | ⟨i', j', e, rfl⟩
    · cases s2
    · rw [nc] at s2; cases s2
    · cases e
      simp only [ltV, decide_eq_false_iff_not] at h1 h2 ⊢
      omega
    · cases e
  · rcases s2 with s2 | s2 | ⟨i', j', e, rfl⟩ | ⟨i', j', e, rfl⟩
    · cases s2
    · rw [nc] at s2; cases s2
    · cases e
    · cases e
      simp only [ltV, decide_eq_false_iff_not] at h1 h2 ⊢
      exact List.not_lt.mpr (List.le_trans (List.not_lt.mp h1) (List.not_lt.mp h2))
theorem ltV_total {a b : AV} (s : Same a b) (na : isNone a = false) (nb : isNone b = false) (h1 : ltV a b = false) (h2 : ltV b a = false) : a = b := by
  rcases s with s1 | s1 | ⟨i, j, rfl, rfl⟩ | ⟨i, j, rfl, rfl⟩
  · rw [na] at s1; cases s1
  · rw [nb] at s1; cases s1
  · simp only [ltV, decide_eq_false_iff_not] at h1 h2
    congr 1; omega
  · simp only [ltV, decide_eq_false_iff_not] at h1 h2
    have := List.le_antisymm (List.not_lt.mp h2) (List.not_lt.mp h1)
    obtain ⟨⟨s⟩⟩ := i
    obtain ⟨⟨t⟩⟩ := j
    have : s = t := this
    rw [this]
theorem cmpI_neg (a b : AV) : cmpI b a = -(cmpI a b) := by
  unfold cmpI
  cases h : ltV a b with
  | true => rw [ltV_asymm h]; simp
  | false => cases h' : ltV b a <;> simp
theorem cmpI_le {a b : AV} : cmpI a b ≤ 0 ↔ ltV b a = false := by
  unfold cmpI
  cases h : ltV a b with
  | true => rw [ltV_asymm h]; simp
  | false => cases h' : ltV b a <;> simp

/-- all items of one kind -/
noncomputable def Kin (xs : List AV) : Prop := ∀ a ∈ xs, ∀ b ∈ xs, Same a b
theorem kin_at {xs : List AV} (h : Kin xs) (i j : Nat) : Same ((xs[i]?).getD .none) ((xs[j]?).getD .none) := by
  cases hi : xs[i]? with
  | none => exact .inl rfl
  | some a =>
    cases hj : xs[j]? with
    | none => exact .inr (.inl rfl)
    | some b => exact h a (List.mem_of_getElem? hi) b (List.mem_of_getElem? hj)
theorem cmpP_neg (xs : List AV) (dec nal : Bool) (i j : Nat) : cmpP xs dec nal j i = -(cmpP xs dec nal i j) := by
  unfold cmpP
  dsimp only
  cases isNone ((xs[i]?).getD .none) <;> cases isNone ((xs[j]?).getD .none) <;> cases nal <;> cases dec <;> simp [cmpI_neg ((xs[i]?).getD .none)]
theorem cmpP_trans {xs : List AV} (K : Kin xs) (dec nal : Bool) {i j l : Nat} (h1 : cmpP xs dec nal i j ≤ 0) (h2 : cmpP xs dec nal j l ≤ 0) : cmpP xs dec nal i l ≤ 0 := by
  have s1 := kin_at K i j
  have s2 := kin_at K j l
  have s3 := kin_at K l j
  have s4 := kin_at K j i
  unfold cmpP at h1 h2 ⊢
  dsimp only at h1 h2 ⊢
  generalize ((xs[i]?).getD .none) = a at *
  generalize ((xs[j]?).getD .none) = b at *
  generalize ((xs[l]?).getD .none) = c at *
  cases na : isNone a <;> cases nb : isNone b <;> cases nc : isNone c <;> simp only [na, nb, nc, Bool.false_eq_true, if_true, if_false] at h1 h2 ⊢
  · cases dec
    · simp only [Bool.false_eq_true, if_false] at h1 h2 ⊢
      rw [cmpI_le] at h1 h2 ⊢
      exact geV_trans s1 s2 na nb nc h1 h2
    · simp only [if_true] at h1 h2 ⊢
      rw [← cmpI_neg, cmpI_le] at h1 h2 ⊢
      exact geV_trans s3 s4 nc nb na h2 h1
  all_goals (cases nal <;> simp at h1 h2 ⊢)

section
variable (c : Nat → Nat → Int)
/-- what stands before what in the stable order -/
noncomputable def Bef (i j : Nat) : Prop := c i j < 0 ∨ (c i j = 0 ∧ i < j)
structure Ord (S : Nat → Prop) : Prop where
  neg : ∀ i j, c j i = -(c i j)
  tr : ∀ i j l, S i → S j → S l → c i j ≤ 0 → c j l ≤ 0 → c i l ≤ 0
theorem bef_le {i j : Nat} (h : Bef c i j) : c i j ≤ 0 := by rcases h with h | h <;> omega
theorem bef_asymm (neg : ∀ i j, c j i = -(c i j)) {i j : Nat} (h : Bef c i j) : ¬ Bef c j i := by
  intro k
  have := neg i j
  rcases h with h | h <;> rcases k with k | k <;> omega
noncomputable def mrgIn (a : Nat) (f : List Nat → List Nat) : List Nat → List Nat
  | [] => a :: f []
  | b :: r => if c a b ≤ 0 then a :: f (b :: r) else b :: mrgIn a f r
noncomputable def mrg : List Nat → List Nat → List Nat
  | [] => fun r => r
  | a :: l => mrgIn c a (mrg l)
theorem mrg_nil (r : List Nat) : mrg c [] r = r := rfl
theorem mrg_cons (a : Nat) (l : List Nat) (b : Nat) (r : List Nat) : mrg c (a :: l) (b :: r) = if c a b ≤ 0 then a :: mrg c l (b :: r) else b :: mrg c (a :: l) r := rfl
theorem mrg_nil_right (l : List Nat) : mrg c l [] = l := by
  induction l with
  | nil => rfl
  | cons a l ih => exact congrArg (List.cons a) ih
theorem mrg_perm (l : List Nat) : ∀ r : List Nat, (mrg c l r).Perm (l ++ r) := by
  induction l with
  | nil => exact fun r => .refl _
  | cons a l ih =>
    intro r
    induction r with
    | nil => rw [mrg_nil_right, List.append_nil]
    | cons b r ir =>
      rw [mrg_cons]
      split
      · exact (ih (b :: r)).cons a
      · refine (ir.cons b).trans ?_
        rw [← List.cons_append]
        exact (List.perm_middle (l₁ := a :: l) (l₂ := r) (a := b)).symm
theorem mrg_sorted {S : Nat → Prop} (O : Ord c S) (l : List Nat) : ∀ r : List Nat, (∀ x ∈ l, S x) → (∀ x ∈ r, S x) → l.Pairwise (Bef c) → r.Pairwise (Bef c) → (∀ x ∈ l, ∀ y ∈ r, x < y) → (mrg c l r).Pairwise (Bef c) := by
  induction l with
  | nil => intro r _ _ _ hr _; exact hr
  | cons a l ih =>
    intro r
    induction r with
    | nil => intro _ _ hl _ _; rw [mrg_nil_right]; exact hl
    | cons b r ir =>
      intro sl sr hl hr hlr
      obtain ⟨l1, l2⟩ := List.pairwise_cons.mp hl
      obtain ⟨r1, r2⟩ := List.pairwise_cons.mp hr
      have sa := sl a List.mem_cons_self
      have sb := sr b List.mem_cons_self
      rw [mrg_cons]
      split
      · rename_i hc
        refine List.pairwise_cons.mpr ⟨fun x hx => ?_, ih (b :: r) (fun x hx => sl x (List.mem_cons_of_mem _ hx)) sr l2 hr fun x hx => hlr x (List.mem_cons_of_mem _ hx)⟩
        rcases List.mem_append.mp ((mrg_perm c l (b :: r)).mem_iff.mp hx) with hx | hx
        · exact l1 x hx
        · have hlt := hlr a List.mem_cons_self x hx
          have : c a x ≤ 0 := by
            rcases List.mem_cons.mp hx with rfl | hx'
            · exact hc
            · exact O.tr a b x sa sb (sr x hx) hc (bef_le c (r1 x hx'))
          rcases Int.lt_or_eq_of_le this with h | h
          · exact .inl h
          · exact .inr ⟨h, hlt⟩
      · rename_i hc
        have hba : c b a < 0 := by rw [O.neg a b]; exact Int.neg_neg_of_pos (Int.not_le.mp hc)
        refine List.pairwise_cons.mpr ⟨fun x hx => ?_, ir sl (fun x hx => sr x (List.mem_cons_of_mem _ hx)) hl r2 fun x hx y hy => hlr x hx y (List.mem_cons_of_mem _ hy)⟩
        rcases List.mem_append.mp ((mrg_perm c (a :: l) r).mem_iff.mp hx) with hx | hx
        · rcases List.mem_cons.mp hx with rfl | hx'
          · exact .inl hba
          · left
            have h1 : c a x ≤ 0 := bef_le c (l1 x hx')
            apply Classical.byContradiction
            intro hn
            have h2 : c x b ≤ 0 := by rw [O.neg b x]; exact Int.neg_nonpos_of_nonneg (Int.not_lt.mp hn)
            exact hc (O.tr a x b sa (sl x hx) sb h1 h2)
        · exact r1 x hx

noncomputable def pass : List (List Nat) → List (List Nat)
  | a :: b :: r => mrg c a b :: pass r
  | r => r
theorem pass_len : ∀ r : List (List Nat), (pass c r).length = (r.length + 1) / 2
  | [] => rfl
  | [_] => by simp [pass]
  | a :: b :: r => by
    rw [pass, List.length_cons, pass_len r]
    exact (Nat.add_div_right _ (by decide)).symm
structure Runs (S : Nat → Prop) (LL : List (List Nat)) : Prop where
  ok : ∀ l ∈ LL, ∀ x ∈ l, S x
  srt : ∀ l ∈ LL, l.Pairwise (Bef c)
  ord : LL.Pairwise fun a b => ∀ x ∈ a, ∀ y ∈ b, x < y
theorem Runs.tail {S : Nat → Prop} {a : List Nat} {r : List (List Nat)} (R : Runs c S (a :: r)) : Runs c S r :=
  ⟨fun l hl => R.ok l (List.mem_cons_of_mem _ hl), fun l hl => R.srt l (List.mem_cons_of_mem _ hl), (List.pairwise_cons.mp R.ord).2⟩
theorem pass_perm : ∀ r : List (List Nat), (pass c r).flatten.Perm r.flatten
  | [] => .refl _
  | [_] => .refl _
  | a :: b :: r => by
    rw [pass, List.flatten_cons, List.flatten_cons, List.flatten_cons, ← List.append_assoc]
    exact (mrg_perm c a b).append (pass_perm r)
theorem pass_runs {S : Nat → Prop} (O : Ord c S) : ∀ r : List (List Nat), Runs c S r → Runs c S (pass c r)
  | [], R => R
  | [_], R => R
  | a :: b :: r, R => by
    have T := pass_runs O r R.tail.tail
    obtain ⟨o1, o2⟩ := List.pairwise_cons.mp R.ord
    obtain ⟨o3, o4⟩ := List.pairwise_cons.mp o2
    have ma : ∀ x, x ∈ mrg c a b → x ∈ a ∨ x ∈ b := fun x hx => List.mem_append.mp ((mrg_perm c a b).mem_iff.mp hx)
    have ha := R.ok a List.mem_cons_self
    have hb := R.ok b (List.mem_cons_of_mem _ List.mem_cons_self)
    rw [pass]
    refine ⟨fun l hl x hx => ?_, fun l hl => ?_, List.pairwise_cons.mpr ⟨fun l hl x hx y hy => ?_, T.ord⟩⟩
    · rcases List.mem_cons.mp hl with rfl | hl
      · exact (ma x hx).elim (ha x) (hb x)
      · exact T.ok l hl x hx
    · rcases List.mem_cons.mp hl with rfl | hl
      · exact mrg_sorted c O a b ha hb (R.srt a List.mem_cons_self) (R.srt b (List.mem_cons_of_mem _ List.mem_cons_self)) (o1 b List.mem_cons_self)
      · exact T.srt l hl
    · have hy' : y ∈ r.flatten := (pass_perm c r).mem_iff.mp (List.mem_flatten.mpr ⟨l, hl, hy⟩)
      obtain ⟨l', hl', hy''⟩ := List.mem_flatten.mp hy'
      exact (ma x hx).elim (fun h => o1 l' (List.mem_cons_of_mem _ hl') x h y hy'') fun h => o3 l' hl' x h y hy''
end

/-- the stable order of the wanted places -/
structure SortOf (c : Nat → Nat → Int) (ks ps : List Nat) : Prop where
  perm : ps.Perm ks
  srt : ps.Pairwise (Bef c)
theorem sort_unique {c : Nat → Nat → Int} (neg : ∀ i j, c j i = -(c i j)) {ks ps qs : List Nat} (h : SortOf c ks ps) (k : SortOf c ks qs) : ps = qs :=
  List.Perm.eq_of_pairwise (fun a b _ _ h1 h2 => absurd h2 (bef_asymm c neg h1)) h.srt k.srt (h.perm.trans k.perm.symm)
end
section
variable {N : Nat} {H : AH} {Φ : AV → AH → Prop} {x dx it : Addr} {k : Str} {xs : List AV} {at_ : AV} {sh lo : Bool}
theorem for_one {G : GT} {sc : Scope} {loc : Loc} {Ψ : AF → Loc → AH → Prop} {y : Str} {b : List Stmt} {a : Addr} {o : AO} {v : AV} (ho : H a = some o) (hi : itemsA o = some [v])
    (h : wpSs G b sc (setL loc y v) H (turnK Ψ fun loc' H' => H' a = some o ∧ ∃ loc₁, LocLe loc₁ loc' ∧ Ψ .next loc₁ H')) : forK G b sc y loc Ψ (.ref a) H :=
  ⟨o, [v], ho, hi, by simp, ho, loc, fun _ _ e => e, h⟩
theorem compare_keys_ok (hN : 3 ≤ N) (V : VecAt H x dx k it xs at_ sh lo) (hk : KS k) (hx : ∀ v ∈ xs, ItemOk k v) (hl : xs.length ≤ 4096) {vsl dl : Addr} {i j : Nat} (hi : i < xs.length) (hj : j < xs.length) {dec nal : Bool} (hv : H vsl = some (.list [.ref x])) (hd : H dl = some (.list [.bool dec]))
    (h : ∀ H', Ext H H' → Φ (.int (cmpP xs dec nal i j)) H') : Γ TT N (.fn (Str.ofString "compare_keys")) [.ref vsl, .int i, .int j, .ref dl, .bool nal] H Φ := by
  refine enter (loc := [(Str.ofString "vs", .ref vsl), (Str.ofString "i", .int i), (Str.ofString "j", .int j), (Str.ofString "decreasing", .ref dl), (Str.ofString "na_last", .bool nal)]) T_compare_keys rfl (nl0 hN rfl) rfl rfl ?_
  (refine s_cons ?_)
  refine s_for rfl ?_
  (refine w_call rfl ?_; refine w_es1 ?_; refine w_call rfl ?_; refine w_es1 ?_; refine w_name rfl rfl ?_; refine w_es0 ?_)
  refine k_built rfl (q_len hv (by simp) ?_)
  (refine w_es0 ?_)
  refine k_built rfl (q_range1 (by simp) (alloc fun rg H1 f1 e1 g1 o1 => ?_))
  have V1 := V.ext e1
  have hv1 := e1 _ _ hv
  have hd1 := e1 _ _ hd
  refine for_one (v := .int 0) g1 rfl ?_
  (refine s_cons ?_; refine s_set rfl ?_; refine w_call rfl ?_; refine w_es1 ?_; refine w_sub rfl ?_; refine w_name rfl rfl ?_; refine w_name rfl rfl ?_)
  refine i_list hv1 (by simp) (by decide) rfl ?_
  (refine w_es1 ?_; refine w_name rfl rfl ?_; refine w_es1 ?_; refine w_name rfl rfl ?_; refine w_es1 ?_; refine w_sub rfl ?_; refine w_name rfl rfl ?_; refine w_name rfl rfl ?_)
  refine i_list hd1 (by simp) (by decide) rfl ?_
  (refine w_es1 ?_; refine w_name rfl rfl ?_; refine w_es0 ?_)
  refine k_fn rfl (compare_places_ok (nl1 hN rfl) V1 hk hx hl hi hj ?_)
  (refine f_next ?_; refine s_cons ?_; refine s_if ?_; refine t_cmp rfl ?_; refine w_name rfl rfl ?_; refine w_int ?_; refine c_nei ?_)
  refine ifs (fun c => ?_) fun c => ?_
  · (refine s_cons ?_; refine s_ret ?_; refine w_name rfl rfl ?_; refine f_ret ?_; refine f_ret ?_; refine f_tr ?_; refine f_ret ?_; refine f_rr ?_)
    exact h H1 e1
  · have c : cmpP xs dec nal i j = 0 := by simpa using c
    (refine s_nil ?_; refine f_next ?_; refine s_nil ?_; refine f_tn ?_)
    refine ⟨g1, _, fun _ _ e => e, ?_⟩
    (refine f_next ?_; refine s_cons ?_; refine s_ret ?_; refine w_int ?_; refine f_ret ?_; refine f_rr ?_)
    rw [c] at h
    exact h H1 e1

theorem drop_cons {α : Type} {l : List α} {i : Nat} (h : i < l.length) : l.drop i = l[i] :: l.drop (i + 1) := List.drop_eq_getElem_cons h
theorem pav_at {l : List Nat} {i : Nat} (h : i < l.length) : (l.map pAV)[(i : Int).toNat]? = some (.int (l[i] : Nat)) := by
  rw [Int.toNat_natCast, List.getElem?_map, List.getElem?_eq_getElem h]; rfl

theorem merge_runs_ok (hN : 4 ≤ N) (V : VecAt H x dx k it xs at_ sh lo) (hk : KS k) (hx : ∀ v ∈ xs, ItemOk k v) (hl : xs.length ≤ 4096) {vsl dl : Addr} {dec nal : Bool} (hv : H vsl = some (.list [.ref x])) (hd : H dl = some (.list [.bool dec]))
    {la ra : Addr} {L R : List Nat} (hL : H la = some (.list (L.map pAV))) (hR : H ra = some (.list (R.map pAV))) (hLx : ∀ p ∈ L, p < xs.length) (hRx : ∀ p ∈ R, p < xs.length) (hlen : L.length + R.length ≤ 4096)
    (h : ∀ a H', H a = none → Ext H H' → H' a = some (.list ((mrg (cmpP xs dec nal) L R).map pAV)) → Φ (.ref a) H') : Γ TT N (.fn (Str.ofString "merge_runs")) [.ref la, .ref ra, .ref vsl, .ref dl, .bool nal] H Φ := by
  refine enter (loc := [(Str.ofString "left", .ref la), (Str.ofString "right", .ref ra), (Str.ofString "vs", .ref vsl), (Str.ofString "decreasing", .ref dl), (Str.ofString "na_last", .bool nal)]) T_merge_runs rfl (nl0 hN rfl) rfl rfl ?_
  (refine s_cons ?_; refine s_set rfl ?_; refine w_list ?_; refine w_es0 ?_)
  refine ⟨by simp, alloc fun m H1 f1 e1 g1 o1 => ?_⟩
  (refine f_next ?_; refine s_cons ?_; refine s_set rfl ?_; refine w_int ?_; refine f_next ?_; refine s_cons ?_; refine s_set rfl ?_; refine w_int ?_; refine f_next ?_; refine s_cons ?_)
  refine s_while (loc₁ := [(Str.ofString "left", .ref la), (Str.ofString "right", .ref ra), (Str.ofString "vs", .ref vsl), (Str.ofString "decreasing", .ref dl), (Str.ofString "na_last", .bool nal), (Str.ofString "merged", .ref m), (Str.ofString "i", .int 0), (Str.ofString "j", .int 0)])
    (fun n loc H' => ∃ (i j : Nat) (M : List Nat), loc = [(Str.ofString "left", .ref la), (Str.ofString "right", .ref ra), (Str.ofString "vs", .ref vsl), (Str.ofString "decreasing", .ref dl), (Str.ofString "na_last", .bool nal), (Str.ofString "merged", .ref m), (Str.ofString "i", .int i), (Str.ofString "j", .int j)] ∧
      Ext H H' ∧ H' m = some (.list (M.map pAV)) ∧ i ≤ L.length ∧ j ≤ R.length ∧ M ++ mrg (cmpP xs dec nal) (L.drop i) (R.drop j) = mrg (cmpP xs dec nal) L R ∧ M.length = i + j ∧ n = (L.length - i) + (R.length - j)) (L.length + R.length) (fun _ _ e => e)
    ⟨0, 0, [], rfl, e1, g1, Nat.zero_le _, Nat.zero_le _, rfl, rfl, by omega⟩ ?_
  rintro n loc H2 K ⟨i, j, M, rfl, e2, g2, hi, hj, hM, hml, rfl⟩ hK
  (refine t_bop ?_; refine t_and1 ?_; refine t_cmp rfl ?_; refine w_name rfl rfl ?_; refine w_call rfl ?_; refine w_es1 ?_; refine w_name rfl rfl ?_; refine w_es0 ?_)
  refine k_built rfl (q_len (e2 _ _ hL) (by simp; omega) ?_)
  (refine c_lti ?_)
  have fin : (i = L.length ∨ j = R.length) → mrg (cmpP xs dec nal) (L.drop i) (R.drop j) = L.drop i ++ R.drop j := fun q => by
    rcases q with rfl | rfl
    · rw [List.drop_length, mrg_nil]; rfl
    · rw [List.drop_length, mrg_nil_right, List.append_nil]
  have turn : ∀ (M' : List Nat) (i' j' : Nat) (H5 : AH) (l' : Loc), LocLe [(Str.ofString "left", .ref la), (Str.ofString "right", .ref ra), (Str.ofString "vs", .ref vsl), (Str.ofString "decreasing", .ref dl), (Str.ofString "na_last", .bool nal), (Str.ofString "merged", .ref m), (Str.ofString "i", .int i'), (Str.ofString "j", .int j')] l' →
      Ext H H5 → H5 m = some (.list (M'.map pAV)) → i' ≤ L.length → j' ≤ R.length → M' ++ mrg (cmpP xs dec nal) (L.drop i') (R.drop j') = mrg (cmpP xs dec nal) L R → M'.length = i' + j' → i + j < i' + j' → K l' H5 := fun M' i' j' H5 l' hle a b c d e f g =>
    hK _ _ l' H5 (by omega) hle ⟨i', j', M', rfl, a, b, c, d, e, f, rfl⟩
  refine ifs (fun c => ?_) fun c => ?_
  · have c : i < L.length := by have := of_decide_eq_true c; simp at this; omega
    (refine t_and1 ?_; refine t_cmp rfl ?_; refine w_name rfl rfl ?_; refine w_call rfl ?_; refine w_es1 ?_; refine w_name rfl rfl ?_; refine w_es0 ?_)
    refine k_built rfl (q_len (e2 _ _ hR) (by simp; omega) ?_)
    (refine c_lti ?_)
    refine ifs (fun c' => ?_) fun c' => ?_
    · have c' : j < R.length := by have := of_decide_eq_true c'; simp at this; omega
      (refine t_and0 ?_)
      refine ift rfl ?_
      (refine s_cons ?_; refine s_if ?_; refine t_cmp rfl ?_; refine w_call rfl ?_; refine w_es1 ?_; refine w_name rfl rfl ?_; refine w_es1 ?_; refine w_sub rfl ?_; refine w_name rfl rfl ?_; refine w_name rfl rfl ?_)
      refine i_list (e2 _ _ hL) (by simp; omega) (Int.natCast_nonneg i) (pav_at c) ?_
      (refine w_es1 ?_; refine w_sub rfl ?_; refine w_name rfl rfl ?_; refine w_name rfl rfl ?_)
      refine i_list (e2 _ _ hR) (by simp; omega) (Int.natCast_nonneg j) (pav_at c') ?_
      (refine w_es1 ?_; refine w_name rfl rfl ?_; refine w_es1 ?_; refine w_name rfl rfl ?_; refine w_es0 ?_)
      refine k_fn rfl (compare_keys_ok (nl1 hN rfl) (V.ext e2) hk hx hl (hLx _ (List.getElem_mem c)) (hRx _ (List.getElem_mem c')) (e2 _ _ hv) (e2 _ _ hd) fun H3 e3 => ?_)
      (refine w_int ?_; refine c_lei ?_)
      have e23 := e2.trans e3
      have step : mrg (cmpP xs dec nal) (L.drop i) (R.drop j) = if cmpP xs dec nal L[i] R[j] ≤ 0 then L[i] :: mrg (cmpP xs dec nal) (L.drop (i + 1)) (R.drop j) else R[j] :: mrg (cmpP xs dec nal) (L.drop i) (R.drop (j + 1)) := by
        rw [drop_cons c, drop_cons c', mrg_cons, ← drop_cons c, ← drop_cons c']
      refine ifs (fun q => ?_) fun q => ?_
      · have q := of_decide_eq_true q
        (refine s_cons ?_; refine s_expr ?_; refine w_meth rfl ?_; refine w_name rfl rfl ?_)
        refine m_append (e3 _ _ g2) ?_
        (refine w_es1 ?_; refine w_sub rfl ?_; refine w_name rfl rfl ?_; refine w_name rfl rfl ?_)
        refine i_list (e23 _ _ hL) (by simp; omega) (Int.natCast_nonneg i) (pav_at c) ?_
        (refine w_es0 ?_)
        refine push (e3 _ _ g2) (by simp; omega) fun H4 g4 o4 => ?_
        (refine f_next ?_; refine s_cons ?_; refine s_aug rfl rfl ?_; refine w_int ?_; refine f_aug ?_; refine f_next ?_; refine s_nil ?_; refine f_next ?_; refine s_nil ?_; refine f_tn ?_)
        rw [if_pos q] at step
        refine turn (M ++ [L[i]]) (i + 1) j H4 _ ?_ (fun b o e => (o4 b (ne_of e f1)).trans (e23 b o e)) (by rw [g4]; simp [pAV]) c hj ?_ (by simp; omega) (by omega)
        · exact .cons rfl (.cons rfl (.cons rfl (.cons rfl (.cons rfl (.cons rfl (.cons rfl (.cons rfl .nil)))))))
        · rw [← hM, step]; simp
      · have q := of_decide_eq_false q
        (refine s_cons ?_; refine s_expr ?_; refine w_meth rfl ?_; refine w_name rfl rfl ?_)
        refine m_append (e3 _ _ g2) ?_
        (refine w_es1 ?_; refine w_sub rfl ?_; refine w_name rfl rfl ?_; refine w_name rfl rfl ?_)
        refine i_list (e23 _ _ hR) (by simp; omega) (Int.natCast_nonneg j) (pav_at c') ?_
        (refine w_es0 ?_)
        refine push (e3 _ _ g2) (by simp; omega) fun H4 g4 o4 => ?_
        (refine f_next ?_; refine s_cons ?_; refine s_aug rfl rfl ?_; refine w_int ?_; refine f_aug ?_; refine f_next ?_; refine s_nil ?_; refine f_next ?_; refine s_nil ?_; refine f_tn ?_)
        rw [if_neg q] at step
        refine turn (M ++ [R[j]]) i (j + 1) H4 _ ?_ (fun b o e => (o4 b (ne_of e f1)).trans (e23 b o e)) (by rw [g4]; simp [pAV]) hi c' ?_ (by simp; omega) (by omega)
        · exact .cons rfl (.cons rfl (.cons rfl (.cons rfl (.cons rfl (.cons rfl (.cons rfl (.cons rfl .nil)))))))
        · rw [← hM, step]; simp
    · have c' : j = R.length := by have := of_decide_eq_false c'; simp at this; omega
      skip
      refine iff_ rfl ?_
      (refine f_next ?_; refine s_cons ?_; refine s_ret ?_; refine w_bin ?_; refine w_bin ?_; refine w_name rfl rfl ?_; refine w_slicefrom rfl ?_; refine w_name rfl rfl ?_; refine w_name rfl rfl ?_)
      refine z_from (e2 _ _ hL) (by simp; omega) (Int.natCast_nonneg i) (by simp; omega) (alloc fun a3 H3 f3 e3 g3 o3 => ?_)
      refine ⟨M.map pAV, _, e3 _ _ g2, g3, by simp; omega, alloc fun a4 H4 f4 e4 g4 o4 => ?_⟩
      (refine w_slicefrom rfl ?_; refine w_name rfl rfl ?_; refine w_name rfl rfl ?_)
      refine z_from (e4 _ _ (e3 _ _ (e2 _ _ hR))) (by simp; omega) (Int.natCast_nonneg j) (by simp; omega) (alloc fun a5 H5 f5 e5 g5 o5 => ?_)
      refine ⟨_, _, e5 _ _ g4, g5, by simp; omega, alloc fun a6 H6 f6 e6 g6 o6 => ?_⟩
      (refine f_ret ?_; refine f_rr ?_)
      refine h a6 H6 (e2.no (e3.no (e4.no (e5.no f6)))) (e2.trans (e3.trans (e4.trans (e5.trans e6)))) ?_
      rw [g6, ← hM, fin (.inr c')]
      simp [List.map_drop]
  · have c : i = L.length := by have := of_decide_eq_false c; simp at this; omega
    refine iff_ rfl ?_
    (refine f_next ?_; refine s_cons ?_; refine s_ret ?_; refine w_bin ?_; refine w_bin ?_; refine w_name rfl rfl ?_; refine w_slicefrom rfl ?_; refine w_name rfl rfl ?_; refine w_name rfl rfl ?_)
    refine z_from (e2 _ _ hL) (by simp; omega) (Int.natCast_nonneg i) (by simp; omega) (alloc fun a3 H3 f3 e3 g3 o3 => ?_)
    refine ⟨M.map pAV, _, e3 _ _ g2, g3, by simp; omega, alloc fun a4 H4 f4 e4 g4 o4 => ?_⟩
    (refine w_slicefrom rfl ?_; refine w_name rfl rfl ?_; refine w_name rfl rfl ?_)
    refine z_from (e4 _ _ (e3 _ _ (e2 _ _ hR))) (by simp; omega) (Int.natCast_nonneg j) (by simp; omega) (alloc fun a5 H5 f5 e5 g5 o5 => ?_)
    refine ⟨_, _, e5 _ _ g4, g5, by simp; omega, alloc fun a6 H6 f6 e6 g6 o6 => ?_⟩
    (refine f_ret ?_; refine f_rr ?_)
    refine h a6 H6 (e2.no (e3.no (e4.no (e5.no f6)))) (e2.trans (e3.trans (e4.trans (e5.trans e6)))) ?_
    rw [g6, ← hM, fin (.inl c)]
    simp [List.map_drop]
end
/-- refs to lists of places -/
noncomputable def Refs (H : AH) (rs : List AV) (LL : List (List Nat)) : Prop := rs.length = LL.length ∧ ∀ (i : Nat) (l : List Nat), LL[i]? = some l → ∃ a : Addr, rs[i]? = some (AV.ref a) ∧ H a = some (AO.list (l.map pAV))
theorem Refs.ext {H H' : AH} {rs : List AV} {LL : List (List Nat)} (R : Refs H rs LL) (e : Ext H H') : Refs H' rs LL := ⟨R.1, fun i l h => by obtain ⟨a, h1, h2⟩ := R.2 i l h; exact ⟨a, h1, e _ _ h2⟩⟩
theorem Refs.nil {H : AH} : Refs H [] [] := ⟨rfl, fun i l h => by simp at h⟩
theorem Refs.snoc {H : AH} {rs : List AV} {LL : List (List Nat)} {a : Addr} {l : List Nat} (R : Refs H rs LL) (h : H a = some (.list (l.map pAV))) : Refs H (rs ++ [.ref a]) (LL ++ [l]) := by
  refine ⟨by simp [R.1], fun i l' e => ?_⟩
  by_cases q : i < LL.length
  · rw [List.getElem?_append_left q] at e
    obtain ⟨b, h1, h2⟩ := R.2 i l' e
    exact ⟨b, by rw [List.getElem?_append_left (by rw [R.1]; exact q)]; exact h1, h2⟩
  · rw [List.getElem?_append_right (by omega)] at e
    have : i - LL.length = 0 := by
      rcases Nat.eq_zero_or_pos (i - LL.length) with z | z
      · exact z
      · rw [List.getElem?_eq_none (by simp; omega)] at e; cases e
    rw [this] at e
    cases e
    exact ⟨a, by rw [List.getElem?_append_right (by rw [R.1]; omega), R.1, this]; rfl, h⟩
/-- own refs, but for one thing that changes -/
theorem Refs.but {H H' : AH} {m : Addr} {rs : List AV} {LL : List (List Nat)} (R : Refs H rs LL) (hm : ∀ a, AV.ref a ∈ rs → a ≠ m) (e : ∀ b, b ≠ m → H' b = H b) : Refs H' rs LL := ⟨R.1, fun i l h => by
  obtain ⟨a, h1, h2⟩ := R.2 i l h
  exact ⟨a, h1, (e a (hm a (List.mem_of_getElem? h1))).trans h2⟩⟩

section
variable {N : Nat} {H : AH} {Φ : AV → AH → Prop} {x dx it : Addr} {k : Str} {xs : List AV} {at_ : AV} {sh lo : Bool}
theorem pass_drop (c : Nat → Nat → Int) : ∀ (LL : List (List Nat)) (i : Nat) (h : 2 * i + 1 < LL.length), pass c (LL.drop (2 * i)) = mrg c (LL[2 * i]) (LL[2 * i + 1]) :: pass c (LL.drop (2 * (i + 1))) := fun LL i h => by
  rw [List.drop_eq_getElem_cons (by omega : 2 * i < LL.length), List.drop_eq_getElem_cons h, pass, show 2 * (i + 1) = 2 * i + 1 + 1 from by omega]
theorem flat_mem {LL : List (List Nat)} {l : List Nat} (h : l ∈ LL) : l.length ≤ LL.flatten.length := by
  induction LL with
  | nil => cases h
  | cons a r ih =>
    rw [List.flatten_cons, List.length_append]
    rcases List.mem_cons.mp h with rfl | h
    · omega
    · have := ih h; omega

theorem merge_sort_ok (hN : 5 ≤ N) (V : VecAt H x dx k it xs at_ sh lo) (hk : KS k) (hx : ∀ v ∈ xs, ItemOk k v) (hl : xs.length ≤ 4096) {vsl dl pl : Addr} {dec nal : Bool} (hv : H vsl = some (.list [.ref x])) (hd : H dl = some (.list [.bool dec]))
    {ks : List Nat} (hp : H pl = some (.list (ks.map pAV))) (hks : ∀ p ∈ ks, p < xs.length) (hasc : ks.Pairwise (· < ·)) (hlen : ks.length ≤ 2000)
    (h : ∀ a H' ps, Ext H H' → H' a = some (.list (ps.map pAV)) → SortOf (cmpP xs dec nal) ks ps → Φ (.ref a) H') : Γ TT N (.fn (Str.ofString "merge_sort")) [.ref pl, .ref vsl, .ref dl, .bool nal] H Φ := by
  refine enter (loc := [(Str.ofString "places", .ref pl), (Str.ofString "vs", .ref vsl), (Str.ofString "decreasing", .ref dl), (Str.ofString "na_last", .bool nal)]) T_merge_sort rfl (nl0 hN rfl) rfl rfl ?_
  have O : Ord (cmpP xs dec nal) fun p => p < xs.length := ⟨cmpP_neg xs dec nal, fun i j l _ _ _ h1 h2 => cmpP_trans (fun a ha b hb => same_of (hx a ha) (hx b hb)) dec nal h1 h2⟩
  (refine s_cons ?_; refine s_set rfl ?_)
  refine e_comp0 rfl ?_
  (refine w_name rfl rfl ?_)
  refine ⟨_, _, hp, rfl, by simp; omega, comp_ext (fun d r ys H' => ∃ ds rs' : List Nat, d = ds.map pAV ∧ r = rs'.map pAV ∧ ds ++ rs' = ks ∧ Ext H H' ∧ Refs H' ys (ds.map fun p => [p])) (fun d r ys H' h => ?_) ?_ ?_ _ [] [] H ⟨[], ks, rfl, rfl, rfl, Ext.refl _, Refs.nil⟩⟩
  · obtain ⟨ds, rs', _, _, _, e, _⟩ := h; exact e _ _ hp
  · rintro d v r ys H' K ⟨ds, rs', rfl, hr, hds, e, R⟩ hK
    cases rs' with
    | nil => cases hr
    | cons p rs' =>
      cases hr
      (refine w_list ?_; refine w_es1 ?_; refine w_name rfl rfl ?_; refine w_es0 ?_)
      refine ⟨by simp, alloc fun a H2 f2 e2 g2 o2 => ?_⟩
      refine hK (some (.ref a)) H2 ⟨ds ++ [p], rs', by simp [pAV], rfl, by simp [hds], e.trans e2, ?_⟩
      rw [List.map_append]
      exact (R.ext e2).snoc (l := [p]) g2
  rintro d ys H1 ⟨ds, rs', _, hr, hds, e1, R1⟩
  have : rs' = [] := by cases rs' with | nil => rfl | cons => cases hr
  subst this
  rw [List.append_nil] at hds
  subst hds
  refine alloc fun ra H2 f2 e2 g2 o2 => ?_
  have R2 := R1.ext e2
  have e12 := e1.trans e2
  clear hr
  have len : ys.length = ds.length := by rw [R1.1, List.length_map]
  (refine f_next ?_; refine s_cons ?_; refine s_if ?_; refine t_cmp rfl ?_; refine w_call rfl ?_; refine w_es1 ?_; refine w_name rfl rfl ?_; refine w_es0 ?_)
  refine k_built rfl (q_len g2 (by omega) ?_)
  (refine w_int ?_; refine c_eqi ?_)
  refine ifs (fun c => ?_) fun c => ?_
  · have c : ds = [] := by have := of_decide_eq_true c; exact List.eq_nil_of_length_eq_zero (by omega)
    (refine s_cons ?_; refine s_ret ?_; refine w_list ?_; refine w_es0 ?_)
    refine ⟨by simp, alloc fun a H3 f3 e3 g3 o3 => ?_⟩
    (refine f_ret ?_; refine f_ret ?_; refine f_rr ?_)
    exact h a H3 [] (e12.trans e3) g3 ⟨by rw [c], .nil⟩
  have c : 0 < ds.length := by have := of_decide_eq_false c; omega
  (refine s_nil ?_; refine f_next ?_; refine s_cons ?_)
  refine s_while (loc₁ := [(Str.ofString "places", .ref pl), (Str.ofString "vs", .ref vsl), (Str.ofString "decreasing", .ref dl), (Str.ofString "na_last", .bool nal), (Str.ofString "runs", .ref ra)])
    (fun n loc H' => ∃ (ra : Addr) (rs : List AV) (LL : List (List Nat)), loc = [(Str.ofString "places", .ref pl), (Str.ofString "vs", .ref vsl), (Str.ofString "decreasing", .ref dl), (Str.ofString "na_last", .bool nal), (Str.ofString "runs", .ref ra)] ∧ Ext H H' ∧ H' ra = some (.list rs) ∧ Refs H' rs LL ∧
      Runs (cmpP xs dec nal) (fun p => p < xs.length) LL ∧ LL.flatten.Perm ds ∧ 0 < LL.length ∧ LL.length ≤ 2000 ∧ n = LL.length) ds.length (fun _ _ e => e)
    ⟨ra, ys, ds.map (fun p => [p]), rfl, e12, g2, R2, ⟨?_, ?_, ?_⟩, ?_, by simpa using c, by simpa using hlen, by simp⟩ ?_
  · intro l hl p hp
    obtain ⟨q, hq, rfl⟩ := List.mem_map.mp hl
    rw [List.mem_singleton.mp hp]; exact hks q hq
  · intro l hl
    obtain ⟨q, hq, rfl⟩ := List.mem_map.mp hl
    exact List.pairwise_singleton _ _
  · refine List.pairwise_map.mpr (hasc.imp fun {a b} hab x hx y hy => ?_)
    rw [List.mem_singleton.mp hx, List.mem_singleton.mp hy]; exact hab
  · have : ∀ l : List Nat, (l.map fun p => [p]).flatten = l := fun l => by induction l with | nil => rfl | cons a r ih => simp [ih]
    rw [this]
  rintro n loc H3 K ⟨ra, rs, LL, rfl, e3, g3, R3, RU, PE, c0, c1, rfl⟩ hK
  have l3 : rs.length = LL.length := R3.1
  (refine t_cmp rfl ?_; refine w_call rfl ?_; refine w_es1 ?_; refine w_name rfl rfl ?_; refine w_es0 ?_)
  refine k_built rfl (q_len g3 (by omega) ?_)
  (refine w_int ?_; refine c_gti ?_)
  have fl : LL.flatten.length = ds.length := PE.length_eq
  refine ifs (fun q => ?_) fun q => ?_
  · have q : 1 < LL.length := by have := of_decide_eq_true q; omega
    (refine s_cons ?_; refine s_set rfl ?_; refine w_list ?_; refine w_es0 ?_)
    refine ⟨by simp, alloc fun lg H4 f4 e4 g4 o4 => ?_⟩
    (refine f_next ?_; refine s_cons ?_)
    refine s_for rfl ?_
    (refine w_call rfl ?_; refine w_es1 ?_; refine w_int ?_; refine w_es1 ?_; refine w_bin ?_; refine w_call rfl ?_; refine w_es1 ?_; refine w_name rfl rfl ?_; refine w_es0 ?_)
    refine k_built rfl (q_len (e4 _ _ g3) (by omega) ?_)
    (refine w_int ?_; refine o_sub ?_; refine w_es1 ?_; refine w_int ?_; refine w_es0 ?_)
    refine k_built rfl (q_range3 (by omega) (alloc fun rg H5 f5 e5 g5 o5 => ?_))
    have hit : itemsA (.range 0 ((rs.length : Int) - 1) 2) = some ((List.range (LL.length / 2)).map fun (i : Nat) => AV.int (0 + 2 * i)) := by
      simp only [itemsA]
      rw [if_neg (by decide), if_pos trivial]
      have : (((rs.length : Int) - 1 - 0 + 1) / 2).toNat = LL.length / 2 := by omega
      rw [this]
    have e35 := e3.trans (e4.trans e5)
    have B5 : H3 lg = none := f4
    refine for_go (loc₁ := [(Str.ofString "places", .ref pl), (Str.ofString "vs", .ref vsl), (Str.ofString "decreasing", .ref dl), (Str.ofString "na_last", .bool nal), (Str.ofString "runs", .ref ra), (Str.ofString "longer", .ref lg)]) g5 hit (by simp; omega)
      (.cons rfl (.cons rfl (.cons rfl (.cons rfl (.cons rfl (.cons rfl .nil)))))) (fun (d r : List AV) (l : Loc) (H' : AH) => ∃ (os : List AV) (P : List (List Nat)), l = [(Str.ofString "places", .ref pl), (Str.ofString "vs", .ref vsl), (Str.ofString "decreasing", .ref dl), (Str.ofString "na_last", .bool nal), (Str.ofString "runs", .ref ra), (Str.ofString "longer", .ref lg)] ∧ ((List.range (LL.length / 2)).map fun (i : Nat) => AV.int (0 + 2 * i)) = d ++ r ∧
        Ext H3 H' ∧ H' rg = some (.range 0 ((rs.length : Int) - 1) 2) ∧ H' lg = some (.list os) ∧ Refs H' os P ∧ P ++ pass (cmpP xs dec nal) (LL.drop (2 * d.length)) = pass (cmpP xs dec nal) LL ∧ P.length = d.length ∧ ∀ a, AV.ref a ∈ os → a ≠ lg)
      ⟨[], [], rfl, rfl, e4.trans e5, g5, e5 _ _ g4, Refs.nil, rfl, rfl, fun _ h => nomatch h⟩ (fun d r l H' z0 => by obtain ⟨_, _, _, _, _, h, _⟩ := z0; exact h) ?_ ?_
    · rintro d v r l H6 K' ⟨os, P, rfl, hdr, e6, gr6, g6, R6, hP, hPl, hos⟩ hK'
      have hv' : ((List.range (LL.length / 2)).map fun (i : Nat) => AV.int (0 + 2 * i))[d.length]? = some v := by rw [hdr]; simp
      rw [List.getElem?_map] at hv'
      obtain ⟨ii, hii, rfl⟩ := Option.map_eq_some_iff.mp hv'
      obtain ⟨hlt, hii⟩ := List.getElem?_eq_some_iff.mp hii
      rw [List.getElem_range] at hii
      subst hii
      rw [List.length_range] at hlt
      have b0 : 2 * d.length < LL.length := by omega
      have b1 : 2 * d.length + 1 < LL.length := by omega
      obtain ⟨a0, ha0, ga0⟩ := R3.2 (2 * d.length) _ (List.getElem?_eq_getElem b0)
      obtain ⟨a1, ha1, ga1⟩ := R3.2 (2 * d.length + 1) _ (List.getElem?_eq_getElem b1)
      have m0 := List.getElem_mem b0
      have m1 := List.getElem_mem b1
      have pd := pass_drop (cmpP xs dec nal) LL d.length b1
      have hlen2 : LL[2 * d.length].length + LL[2 * d.length + 1].length ≤ 4096 := by
        have := flat_mem m0; have := flat_mem m1; omega
      (refine s_cons ?_; refine s_expr ?_; refine w_meth rfl ?_; refine w_name rfl rfl ?_)
      refine m_append g6 ?_
      (refine w_es1 ?_; refine w_call rfl ?_; refine w_es1 ?_; refine w_sub rfl ?_; refine w_name rfl rfl ?_; refine w_name rfl rfl ?_)
      refine i_list (e6 _ _ g3) (by omega) (by omega) (v := .ref a0) (by rw [show ((0 : Int) + 2 * (d.length : Int)).toNat = 2 * d.length from by omega]; exact ha0) ?_
      (refine w_es1 ?_; refine w_sub rfl ?_; refine w_name rfl rfl ?_; refine w_bin ?_; refine w_name rfl rfl ?_; refine w_int ?_; refine o_add ?_)
      refine i_list (e6 _ _ g3) (by omega) (by omega) (v := .ref a1) (by rw [show ((0 : Int) + 2 * (d.length : Int) + 1).toNat = 2 * d.length + 1 from by omega]; exact ha1) ?_
      (refine w_es1 ?_; refine w_name rfl rfl ?_; refine w_es1 ?_; refine w_name rfl rfl ?_; refine w_es1 ?_; refine w_name rfl rfl ?_; refine w_es0 ?_)
      refine k_fn rfl (merge_runs_ok (nl1 hN rfl) (V.ext (e3.trans e6)) hk hx hl ((e3.trans e6) _ _ hv) ((e3.trans e6) _ _ hd) (e6 _ _ ga0) (e6 _ _ ga1) (RU.ok _ m0) (RU.ok _ m1) hlen2 fun ma H7 fma e7 g7 => ?_)
      (refine w_es0 ?_)
      have hos6 : os.length ≤ 4096 := by have := R6.1; omega
      have nma : ma ≠ lg := fun q => by rw [q, g6] at fma; cases fma
      refine push (e7 _ _ g6) hos6 fun H8 g8 o8 => ?_
      (refine f_next ?_; refine s_nil ?_; refine f_tn ?_)
      refine hK' [(Str.ofString "places", .ref pl), (Str.ofString "vs", .ref vsl), (Str.ofString "decreasing", .ref dl), (Str.ofString "na_last", .bool nal), (Str.ofString "runs", .ref ra), (Str.ofString "longer", .ref lg)] _ H8
        (.cons rfl (.cons rfl (.cons rfl (.cons rfl (.cons rfl (.cons rfl .nil))))))
        ⟨os ++ [.ref ma], P ++ [mrg (cmpP xs dec nal) LL[2 * d.length] LL[2 * d.length + 1]], rfl, by rw [hdr]; simp, fun b o e => (o8 b (ne_of e B5)).trans (e7 _ _ (e6 _ _ e)), (o8 _ (ne_obj gr6 g6 (by simp))).trans (e7 _ _ gr6), g8,
          ((R6.ext e7).but hos o8).snoc ((o8 _ nma).trans g7), ?_, by simp [hPl], fun a ha => ?_⟩
      · rw [List.append_assoc, List.length_append, List.length_singleton, ← hP, pd]; rfl
      · rcases List.mem_append.mp ha with ha | ha
        · exact hos a ha
        · cases List.mem_singleton.mp ha; exact nma
    · rintro d l H6 ⟨os, P, rfl, hdr, e6, gr6, g6, R6, hP, hPl, hos⟩
      have hd : d.length = LL.length / 2 := by
        have := congrArg List.length hdr
        simpa using this.symm
      have plen := pass_len (cmpP xs dec nal) LL
      have PR := pass_runs (cmpP xs dec nal) O LL RU
      have PP := (pass_perm (cmpP xs dec nal) LL).trans PE
      have next : ∀ (H9 : AH) (os' : List AV) (lx : Loc), LocLe [(Str.ofString "places", .ref pl), (Str.ofString "vs", .ref vsl), (Str.ofString "decreasing", .ref dl), (Str.ofString "na_last", .bool nal), (Str.ofString "runs", .ref lg)] lx → Ext H3 H9 → H9 lg = some (.list os') → Refs H9 os' (pass (cmpP xs dec nal) LL) → K lx H9 := fun H9 os' lx hle e9 g9 R9 =>
        hK _ _ lx H9 (by rw [plen]; omega) hle ⟨lg, os', _, rfl, e3.trans e9, g9, R9, PR, PP, by rw [plen]; omega, by rw [plen]; omega, rfl⟩
      (refine f_next ?_; refine s_cons ?_; refine s_if ?_; refine t_cmp rfl ?_; refine w_bin ?_; refine w_call rfl ?_; refine w_es1 ?_; refine w_name rfl rfl ?_; refine w_es0 ?_)
      refine k_built rfl (q_len (e6 _ _ g3) (by omega) ?_)
      (refine w_int ?_)
      refine o_mod (by decide) ?_
      (refine w_int ?_; refine c_eqi ?_)
      have hm2 : Int.fmod (rs.length : Int) 2 = ((LL.length % 2 : Nat) : Int) := by
        rw [Int.fmod_eq_emod_of_nonneg _ (by decide), l3]; omega
      rw [hm2]
      refine ifs (fun z => ?_) fun z => ?_
      · have z : LL.length % 2 = 1 := by have := of_decide_eq_true z; omega
        have hlast : 2 * d.length + 1 = LL.length := by omega
        have b0 : 2 * d.length < LL.length := by omega
        obtain ⟨a0, ha0, ga0⟩ := R3.2 (2 * d.length) _ (List.getElem?_eq_getElem b0)
        have hrs : rs = rs.take (2 * d.length) ++ [.ref a0] := by
          have h1 : rs.drop (2 * d.length) = [.ref a0] := by
            have hb : 2 * d.length < rs.length := by omega
            rw [List.drop_eq_getElem_cons hb]
            have : rs[2 * d.length] = .ref a0 := by rw [List.getElem?_eq_getElem hb] at ha0; exact Option.some.inj ha0
            rw [this, List.drop_eq_nil_of_le (by omega)]
          rw [← h1, List.take_append_drop]
        have g6' : H6 ra = some (.list (rs.take (2 * d.length) ++ [.ref a0])) := by rw [← hrs]; exact e6 _ _ g3
        (refine s_cons ?_; refine s_expr ?_; refine w_meth rfl ?_; refine w_name rfl rfl ?_)
        refine m_append g6 ?_
        (refine w_es1 ?_; refine w_sub rfl ?_; refine w_name rfl rfl ?_; refine w_neg ?_; refine w_int ?_; refine f_neg ?_)
        refine i_last g6' (by rw [← hrs]; omega) ?_
        (refine w_es0 ?_)
        have hos6 : os.length ≤ 4096 := by have := R6.1; omega
        have na0 : a0 ≠ lg := ne_of ga0 B5
        refine push g6 hos6 fun H7 g7 o7 => ?_
        (refine f_next ?_; refine s_nil ?_; refine f_next ?_; refine s_cons ?_; refine s_set rfl ?_; refine w_name rfl rfl ?_; refine f_next ?_; refine s_nil ?_; refine f_tn ?_)
        refine next H7 _ _ (.cons rfl (.cons rfl (.cons rfl (.cons rfl (.cons rfl .nil))))) (fun b o e => (o7 b (ne_of e B5)).trans (e6 _ _ e)) g7 ?_
        have : pass (cmpP xs dec nal) LL = P ++ [LL[2 * d.length]] := by
          rw [← hP, List.drop_eq_getElem_cons b0, List.drop_eq_nil_of_le (by omega)]; rfl
        rw [this]
        exact (R6.but hos o7).snoc ((o7 _ na0).trans (e6 _ _ ga0))
      · have z : LL.length % 2 = 0 := by have := of_decide_eq_false z; omega
        (refine s_nil ?_; refine f_next ?_; refine s_cons ?_; refine s_set rfl ?_; refine w_name rfl rfl ?_; refine f_next ?_; refine s_nil ?_; refine f_tn ?_)
        refine next H6 os _ (.cons rfl (.cons rfl (.cons rfl (.cons rfl (.cons rfl .nil))))) e6 g6 ?_
        have : pass (cmpP xs dec nal) LL = P := by
          rw [← hP, List.drop_eq_nil_of_le (by omega)]; simp [pass]
        rw [this]
        exact R6
  · have q : LL.length = 1 := by have := of_decide_eq_false q; omega
    obtain ⟨l, rfl⟩ : ∃ l, LL = [l] := by
      match LL, q with
      | [l], _ => exact ⟨l, rfl⟩
    obtain ⟨a, ha, ga⟩ := R3.2 0 l rfl
    (refine f_next ?_; refine s_cons ?_; refine s_ret ?_; refine w_sub rfl ?_; refine w_name rfl rfl ?_; refine w_int ?_)
    refine i_list g3 (by omega) (by decide) (v := .ref a) ha ?_
    (refine f_ret ?_; refine f_rr ?_)
    exact h a H3 l e3 ga ⟨by simpa using PE, RU.srt l (by simp)⟩
end
section
variable {N : Nat} {H : AH} {Φ : AV → AH → Prop} {x dx it : Addr} {k : Str} {xs : List AV} {at_ : AV} {sh lo : Bool}
/-- the places that stay -/
noncomputable def keptOf (xs : List AV) (drop : Bool) : List Nat := (List.range xs.length).filter fun p => !(drop && isNone ((xs[p]?).getD .none))
noncomputable def nlLast : AV → Bool
  | .bool b => b
  | _ => true
theorem kept_asc (xs : List AV) (drop : Bool) : (keptOf xs drop).Pairwise (· < ·) := List.Pairwise.filter _ List.pairwise_lt_range
theorem kept_lt {xs : List AV} {drop : Bool} {p : Nat} (h : p ∈ keptOf xs drop) : p < xs.length := List.mem_range.mp (List.mem_filter.mp h).1
theorem kept_len (xs : List AV) (drop : Bool) : (keptOf xs drop).length ≤ xs.length := by
  have := List.length_filter_le (fun p => !(drop && isNone ((xs[p]?).getD .none))) (List.range xs.length)
  rwa [List.length_range] at this

theorem each_key_ok (hN : 1 ≤ N) {dec : Bool} (h : ∀ a H', Ext H H' → H' a = some (.list [.bool dec]) → Φ (.ref a) H') : Γ TT N (.fn (Str.ofString "each_key")) [.bool dec, .int 1] H Φ := by
  refine enter (loc := [(Str.ofString "decreasing", .bool dec), (Str.ofString "count", .int 1)]) T_each_key rfl (nl0 hN rfl) rfl rfl ?_
  (refine s_cons ?_; refine s_if ?_; refine t_call ?_; refine w_isinst rfl rfl rfl ?_; refine w_name rfl rfl ?_)
  refine isi_list ?_
  (refine f_bool ?_)
  refine iff_ rfl ?_
  (refine s_nil ?_; refine f_next ?_; refine s_cons ?_; refine s_ret ?_; refine w_bin ?_; refine w_list ?_; refine w_es1 ?_; refine w_name rfl rfl ?_; refine w_es0 ?_)
  refine ⟨by simp, alloc fun a H1 f1 e1 g1 o1 => ?_⟩
  (refine w_name rfl rfl ?_)
  refine ⟨_, g1, by decide, by decide, alloc fun b H2 f2 e2 g2 o2 => ?_⟩
  (refine f_ret ?_; refine f_rr ?_)
  exact h b H2 (e1.trans e2) g2

theorem check_sortable_ok (hN : 1 ≤ N) (V : VecAt H x dx k it xs at_ sh lo) (hk : KS k) (h : ∀ H', Ext H H' → Φ .none H') : Γ TT N (.fn (Str.ofString "check_sortable")) [.ref x] H Φ := by
  refine enter (loc := [(Str.ofString "v", .ref x)]) T_check_sortable rfl (nl0 hN rfl) rfl rfl ?_
  (refine s_cons ?_; refine s_if ?_; refine t_cmp rfl ?_; refine w_attr rfl ?_; refine w_name rfl rfl ?_)
  refine a_attr V.i V.d rfl rfl ?_
  (refine w_tuple ?_; refine w_es1 ?_; refine w_str ?_; refine w_es1 ?_; refine w_str ?_; refine w_es1 ?_; refine w_str ?_; refine w_es1 ?_; refine w_str ?_; refine w_es0 ?_)
  refine ⟨by simp, alloc fun a H1 f1 e1 g1 o1 => ?_⟩
  have m : memA k [.str (Str.ofString "logical"), .str (Str.ofString "integer"), .str (Str.ofString "double"), .str (Str.ofString "character")] = some true := by
    rcases hk with rfl | rfl | rfl <;> rfl
  refine c_nint g1 m ?_
  refine iff_ rfl ?_
  (refine s_nil ?_; refine f_next ?_; refine s_nil ?_; refine f_rn ?_)
  exact h H1 e1

theorem kept_places_ok (hN : 2 ≤ N) (V : VecAt H x dx k it xs at_ sh lo) (hk : KS k) (hl : xs.length ≤ 2000) {vsl : Addr} (hv : H vsl = some (.list [.ref x])) {nl : AV} (h : ∀ a H', Ext H H' → H' a = some (.list ((keptOf xs (isNone nl)).map pAV)) → Φ (.ref a) H') : Γ TT N (.fn (Str.ofString "kept_places")) [.ref vsl, nl] H Φ := by
  refine enter (loc := [(Str.ofString "vs", .ref vsl), (Str.ofString "na_last", nl)]) T_kept_places rfl (nl0 hN rfl) rfl rfl ?_
  (refine s_cons ?_; refine s_set rfl ?_; refine w_list ?_; refine w_es0 ?_)
  refine ⟨by simp, alloc fun pl H1 f1 e1 g1 o1 => ?_⟩
  (refine f_next ?_; refine s_cons ?_)
  refine s_for rfl ?_
  (refine w_call rfl ?_; refine w_es1 ?_; refine w_call rfl ?_; refine w_es1 ?_; refine w_sub rfl ?_; refine w_name rfl rfl ?_; refine w_int ?_)
  refine i_list (e1 _ _ hv) (by simp) (by decide) rfl ?_
  (refine w_es0 ?_)
  refine k_fn rfl (length_ok (nl1 hN rfl) (V.ext e1) hk.kd (by omega) ?_)
  (refine w_es0 ?_)
  refine k_built rfl (q_range1 (by omega) (alloc fun rg H2 f2 e2 g2 o2 => ?_))
  have hit : itemsA (.range 0 (xs.length : Int) 1) = some ((List.range xs.length).map fun (i : Nat) => AV.int (0 + i)) := by
    simp only [itemsA]
    rw [if_pos trivial]
    have : ((xs.length : Int) - 0).toNat = xs.length := by omega
    rw [this]
  have nrp : rg ≠ pl := Ne.symm (ne_of g1 f2)
  refine for_go (loc₁ := [(Str.ofString "vs", .ref vsl), (Str.ofString "na_last", nl), (Str.ofString "places", .ref pl)]) g2 hit (by simp; omega) (fun _ _ e => e)
    (fun (d r : List AV) (l : Loc) (H' : AH) => l = [(Str.ofString "vs", .ref vsl), (Str.ofString "na_last", nl), (Str.ofString "places", .ref pl)] ∧ ((List.range xs.length).map fun (i : Nat) => AV.int (0 + i)) = d ++ r ∧ Ext H H' ∧ H' rg = some (.range 0 (xs.length : Int) 1) ∧
      H' pl = some (.list (((List.range d.length).filter fun p => !(isNone nl && isNone ((xs[p]?).getD .none))).map pAV)))
    ⟨rfl, rfl, e1.trans e2, g2, e2 _ _ g1⟩ (fun d r l H' z0 => by obtain ⟨_, _, _, q, _⟩ := z0; exact q) ?_ ?_
  · rintro d v r l H3 K ⟨rfl, hdr, e3, gr, gp⟩ hK
    have hv' : ((List.range xs.length).map fun (i : Nat) => AV.int (0 + i))[d.length]? = some v := by rw [hdr]; simp
    rw [List.getElem?_map] at hv'
    obtain ⟨ii, hii, rfl⟩ := Option.map_eq_some_iff.mp hv'
    obtain ⟨hlt, hii⟩ := List.getElem?_eq_some_iff.mp hii
    rw [List.getElem_range] at hii
    subst hii
    rw [List.length_range] at hlt
    have V3 := V.ext e3
    have zi : (0 : Int) + (d.length : Int) = (d.length : Int) := by omega
    rw [zi]
    have ei : xs[d.length]? = some xs[d.length] := List.getElem?_eq_getElem hlt
    have hple : (((List.range d.length).filter fun p => !(isNone nl && isNone ((xs[p]?).getD .none))).map pAV).length ≤ 4096 := by
      rw [List.length_map]
      have := List.length_filter_le (fun p => !(isNone nl && isNone ((xs[p]?).getD .none))) (List.range d.length)
      rw [List.length_range] at this
      omega
    have next : ∀ (b : Bool) (lx : Loc) (H4 : AH), (isNone nl && isNone ((xs[d.length]?).getD .none)) = b → LocLe [(Str.ofString "vs", .ref vsl), (Str.ofString "na_last", nl), (Str.ofString "places", .ref pl)] lx → (∀ a, a ≠ pl → H4 a = H3 a) →
        H4 pl = some (.list ((((List.range d.length).filter fun p => !(isNone nl && isNone ((xs[p]?).getD .none))).map pAV) ++ if b then [] else [pAV d.length])) → K lx H4 := fun b lx H4 hb hle ho g4 => by
      refine hK _ lx H4 hle ⟨rfl, by rw [hdr]; simp, fun a o e => (ho a (ne_of e f1)).trans (e3 _ _ e), (ho _ nrp).trans gr, ?_⟩
      rw [g4, List.length_append, List.length_singleton, List.range_succ, List.filter_append, List.map_append, List.filter_cons, List.filter_nil, hb]
      cases b <;> rfl
    (refine s_cons ?_; refine s_set rfl ?_; refine w_bool ?_; refine f_next ?_; refine s_cons ?_; refine s_if ?_; refine t_cmp rfl ?_; refine w_name rfl rfl ?_; refine w_none ?_; refine c_is ?_)
    cases hn : isNone nl with
    | true =>
      rw [hn] at next hple gp
      refine ift rfl ?_
      (refine s_cons ?_)
      refine s_for rfl ?_
      (refine w_name rfl rfl ?_)
      refine for_one (v := .ref x) (e3 _ _ hv) rfl ?_
      (refine s_cons ?_; refine s_if ?_; refine t_call ?_; refine w_call rfl ?_; refine w_es1 ?_; refine w_attr rfl ?_; refine w_name rfl rfl ?_)
      refine a_attr V3.i V3.d rfl rfl ?_
      (refine w_es1 ?_; refine w_sub rfl ?_; refine w_attr rfl ?_; refine w_name rfl rfl ?_)
      refine a_attr V3.i V3.d rfl rfl ?_
      (refine w_name rfl rfl ?_)
      refine i_list V3.l (by omega) (by omega) (by rw [Int.toNat_natCast]; exact ei) ?_
      (refine w_es0 ?_)
      refine k_fn rfl (is_lacking_ok (nl1 hN rfl) hk ?_)
      (refine f_bool ?_)
      rw [ei] at next
      refine ifs (fun c => ?_) fun c => ?_
      · (refine s_cons ?_; refine s_set rfl ?_; refine w_bool ?_; refine f_next ?_; refine s_nil ?_; refine f_next ?_; refine s_nil ?_; refine f_tn ?_)
        refine ⟨e3 _ _ hv, _, fun _ _ e => e, ?_⟩
        (refine f_next ?_; refine s_nil ?_; refine f_next ?_; refine s_cons ?_; refine s_if ?_; refine t_name ?_; refine w_name rfl rfl ?_; refine f_bool ?_)
        refine iff_ rfl ?_
        (refine s_nil ?_; refine f_next ?_; refine s_nil ?_; refine f_tn ?_)
        refine next true _ H3 c (.cons rfl (.cons rfl (.cons rfl .nil))) (fun _ _ => rfl) ?_
        rw [if_pos rfl, List.append_nil]; exact gp
      · (refine s_nil ?_; refine f_next ?_; refine s_nil ?_; refine f_tn ?_)
        refine ⟨e3 _ _ hv, _, fun _ _ e => e, ?_⟩
        (refine f_next ?_; refine s_nil ?_; refine f_next ?_; refine s_cons ?_; refine s_if ?_; refine t_name ?_; refine w_name rfl rfl ?_; refine f_bool ?_)
        refine ift rfl ?_
        (refine s_cons ?_; refine s_expr ?_; refine w_meth rfl ?_; refine w_name rfl rfl ?_)
        refine m_append gp ?_
        (refine w_es1 ?_; refine w_name rfl rfl ?_; refine w_es0 ?_)
        refine push gp hple fun H4 g4 o4 => ?_
        (refine f_next ?_; refine s_nil ?_; refine f_next ?_; refine s_nil ?_; refine f_tn ?_)
        refine next false _ H4 c (.cons rfl (.cons rfl (.cons rfl .nil))) o4 ?_
        exact g4
    | false =>
      rw [hn] at next hple gp
      refine iff_ rfl ?_
      (refine s_nil ?_; refine f_next ?_; refine s_cons ?_; refine s_if ?_; refine t_name ?_; refine w_name rfl rfl ?_; refine f_bool ?_)
      refine ift rfl ?_
      (refine s_cons ?_; refine s_expr ?_; refine w_meth rfl ?_; refine w_name rfl rfl ?_)
      refine m_append gp ?_
      (refine w_es1 ?_; refine w_name rfl rfl ?_; refine w_es0 ?_)
      refine push gp hple fun H4 g4 o4 => ?_
      (refine f_next ?_; refine s_nil ?_; refine f_next ?_; refine s_nil ?_; refine f_tn ?_)
      refine next false _ H4 rfl (.cons rfl (.cons rfl (.cons rfl .nil))) o4 ?_
      exact g4
  · rintro d l H3 ⟨rfl, hdr, e3, gr, gp⟩
    have hd : d.length = xs.length := by
      have := congrArg List.length hdr
      simpa using this.symm
    (refine f_next ?_; refine s_cons ?_; refine s_ret ?_; refine w_name rfl rfl ?_; refine f_ret ?_; refine f_rr ?_)
    rw [hd] at gp
    exact h pl H3 e3 gp

theorem order_by_ok (hN : 6 ≤ N) (V : VecAt H x dx k it xs at_ sh lo) (hk : KS k) (hx : ∀ v ∈ xs, ItemOk k v) (hl : xs.length ≤ 2000) {vsl : Addr} (hv : H vsl = some (.list [.ref x])) {dec : Bool} {nl : AV} (hnl : nl = .none ∨ ∃ b, nl = .bool b)
    (h : ∀ a H' ps, Ext H H' → H' a = some (.list (ps.map pAV)) → SortOf (cmpP xs dec (nlLast nl)) (keptOf xs (isNone nl)) ps → Φ (.ref a) H') : Γ TT N (.fn (Str.ofString "order_by")) [.ref vsl, .bool dec, nl] H Φ := by
  refine enter (loc := [(Str.ofString "vs", .ref vsl), (Str.ofString "decreasing", .bool dec), (Str.ofString "na_last", nl)]) T_order_by rfl (nl0 hN rfl) rfl rfl ?_
  (refine s_cons ?_; refine s_if ?_; refine t_cmp rfl ?_; refine w_call rfl ?_; refine w_es1 ?_; refine w_name rfl rfl ?_; refine w_es0 ?_)
  refine k_built rfl (q_len hv (by simp) ?_)
  (refine w_int ?_; refine c_eqi ?_)
  refine iff_ rfl ?_
  (refine s_nil ?_; refine f_next ?_; refine s_cons ?_)
  refine s_for rfl ?_
  (refine w_name rfl rfl ?_)
  refine for_one (v := .ref x) hv rfl ?_
  (refine s_cons ?_; refine s_expr ?_; refine w_call rfl ?_; refine w_es1 ?_; refine w_name rfl rfl ?_; refine w_es0 ?_)
  refine k_fn rfl (check_sortable_ok (nl1 hN rfl) V hk fun H1 e1 => ?_)
  have V1 := V.ext e1
  have hv1 := e1 _ _ hv
  (refine f_next ?_; refine s_cons ?_; refine s_if ?_; refine t_cmp rfl ?_; refine w_call rfl ?_; refine w_es1 ?_; refine w_name rfl rfl ?_; refine w_es0 ?_)
  refine k_fn rfl (length_ok (nl1 hN rfl) V1 hk.kd (by omega) ?_)
  (refine w_call rfl ?_; refine w_es1 ?_; refine w_sub rfl ?_; refine w_name rfl rfl ?_; refine w_int ?_)
  refine i_list hv1 (by simp) (by decide) rfl ?_
  (refine w_es0 ?_)
  refine k_fn rfl (length_ok (nl1 hN rfl) V1 hk.kd (by omega) ?_)
  (refine c_nei ?_)
  refine iff_ (by simp) ?_
  (refine s_nil ?_; refine f_next ?_; refine s_nil ?_; refine f_tn ?_)
  refine ⟨hv1, _, fun _ _ e => e, ?_⟩
  (refine f_next ?_; refine s_cons ?_; refine s_set rfl ?_; refine w_call rfl ?_; refine w_es1 ?_; refine w_name rfl rfl ?_; refine w_es1 ?_; refine w_call rfl ?_; refine w_es1 ?_; refine w_name rfl rfl ?_; refine w_es0 ?_)
  refine k_built rfl (q_len hv1 (by simp) ?_)
  (refine w_es0 ?_)
  refine k_fn rfl (each_key_ok (nl1 hN rfl) fun fl H2 e2 g2 => ?_)
  (refine f_next ?_; refine s_cons ?_; refine s_ret ?_; refine w_call rfl ?_; refine w_es1 ?_; refine w_call rfl ?_; refine w_es1 ?_; refine w_name rfl rfl ?_; refine w_es1 ?_; refine w_name rfl rfl ?_; refine w_es0 ?_)
  refine k_fn rfl (kept_places_ok (nl1 hN rfl) (V1.ext e2) hk hl (e2 _ _ hv1) fun pl H3 e3 g3 => ?_)
  (refine w_es1 ?_; refine w_name rfl rfl ?_; refine w_es1 ?_; refine w_name rfl rfl ?_; refine w_es1 ?_; refine w_bop ?_; refine b_or ?_; refine w_cmp rfl ?_; refine w_name rfl rfl ?_; refine w_none ?_; refine c_is ?_)
  have e123 := e1.trans (e2.trans e3)
  have fin : Γ TT (N - 1) (.fn (Str.ofString "merge_sort")) [.ref pl, .ref vsl, .ref fl, .bool (nlLast nl)] H3 Φ :=
    merge_sort_ok (by omega) (V.ext e123) hk hx (by omega) (e123 _ _ hv) (e3 _ _ g2) g3 (fun p hp => kept_lt hp) (kept_asc _ _) (by have := kept_len xs (isNone nl); omega) fun a H4 ps e4 g4 S => h a H4 ps (e123.trans e4) g4 S
  rcases hnl with rfl | ⟨b, rfl⟩
  · refine andB_i (ift rfl ?_)
    (refine w_es0 ?_)
    exact k_fn rfl fin
  · refine andB_i (iff_ rfl ?_)
    (refine b_one ?_; refine w_name rfl rfl ?_; refine w_es0 ?_)
    exact k_fn rfl fin
end
/-- b_rank's groups: like ones stand together -/
structure Grp (xs : List AV) (LL : List (List Nat)) : Prop where
  ne : ∀ g ∈ LL, g ≠ []
  eq : ∀ g ∈ LL, ∀ p ∈ g, ∀ q ∈ g, (xs[p]?).getD AV.none = (xs[q]?).getD .none
  lt : LL.Pairwise fun g g' => ∀ p ∈ g, ∀ q ∈ g', ltV ((xs[p]?).getD .none) ((xs[q]?).getD .none) = true
section
variable {N : Nat} {H : AH} {Φ : AV → AH → Prop} {x dx it : Addr} {k : Str} {xs : List AV} {at_ : AV} {sh lo : Bool}
theorem from_int_ok (hN : 1 ≤ N) {i : Int} (h : ∀ a H', H a = none → Ext H H' → H' a = some (.tuple [.int i, .int 1]) → (∀ b, b ≠ a → H' b = H b) → Φ (.ref a) H') : Γ TT N (.fn (Str.ofString "from_int")) [.int i] H Φ := by
  refine enter (loc := [(Str.ofString "n", .int i)]) T_from_int rfl (nl0 hN rfl) rfl rfl ?_
  (refine s_cons ?_; refine s_if ?_; refine t_cmp rfl ?_; refine w_name rfl rfl ?_; refine w_none ?_; refine c_is ?_)
  refine iff_ rfl ?_
  (refine s_nil ?_; refine f_next ?_; refine s_cons ?_; refine s_ret ?_; refine w_tuple ?_; refine w_es1 ?_; refine w_name rfl rfl ?_; refine w_es1 ?_; refine w_int ?_; refine w_es0 ?_)
  refine ⟨by simp, alloc fun a H1 f1 e1 g1 o1 => ?_⟩
  (refine f_ret ?_; refine f_rr ?_)
  exact h a H1 f1 e1 g1 o1
theorem is_na_ok (hN : 1 ≤ N) {a : Addr} {i : Int} (ha : H a = some (.tuple [.int i, .int 1])) (h : Φ (.bool false) H) : Γ TT N (.fn (Str.ofString "is_na")) [.ref a] H Φ := by
  refine enter (loc := [(Str.ofString "x", .ref a)]) T_is_na rfl (nl0 hN rfl) rfl rfl ?_
  (refine s_cons ?_; refine s_ret ?_; refine w_bop ?_; refine b_or ?_; refine w_cmp rfl ?_; refine w_name rfl rfl ?_; refine w_none ?_; refine c_is ?_)
  refine andB_i (iff_ rfl ?_)
  (refine b_one ?_; refine w_bop ?_; refine b_and ?_; refine w_cmp rfl ?_; refine w_sub rfl ?_; refine w_name rfl rfl ?_; refine w_int ?_)
  refine i_tuple ha (by simp) (by decide) rfl ?_
  (refine w_int ?_; refine c_eqi ?_)
  refine andB_i (ifs (fun c => ?_) fun c => ?_)
  · (refine b_one ?_; refine w_cmp rfl ?_; refine w_sub rfl ?_; refine w_name rfl rfl ?_; refine w_int ?_)
    refine i_tuple ha (by simp) (by decide) rfl ?_
    (refine w_int ?_; refine c_eqi ?_; refine f_ret ?_; refine f_rr ?_)
    exact h
  · (refine f_ret ?_; refine f_rr ?_)
    exact h

/-- the middle of first and last -/
theorem div_ok (hN : 3 ≤ N) {n : Nat} (hn : n < 2 ^ 20) {a b : Addr} (ha : H a = some (.tuple [.int n, .int 1])) (hb : H b = some (.tuple [.int 2, .int 1])) (h : ∀ t H', Ext H H' → H' t = some (.tuple [.int (Int.fdiv n (Int.gcd n 2)), .int (Int.fdiv 2 (Int.gcd n 2))]) → Φ (.ref t) H') :
    Γ TT N (.fn (Str.ofString "div")) [.ref a, .ref b] H Φ := by
  refine enter (loc := [(Str.ofString "x", .ref a), (Str.ofString "y", .ref b)]) T_div rfl (nl0 hN rfl) rfl rfl ?_
  (refine s_cons ?_; refine s_if ?_; refine t_bop ?_; refine t_or1 ?_; refine t_call ?_; refine w_call rfl ?_; refine w_es1 ?_; refine w_name rfl rfl ?_; refine w_es0 ?_)
  refine k_fn rfl (is_na_ok (nl1 hN rfl) ha ?_)
  (refine f_bool ?_)
  refine iff_ rfl ?_
  (refine t_or1 ?_; refine t_call ?_; refine w_call rfl ?_; refine w_es1 ?_; refine w_name rfl rfl ?_; refine w_es0 ?_)
  refine k_fn rfl (is_na_ok (nl1 hN rfl) hb ?_)
  (refine f_bool ?_)
  refine iff_ rfl ?_
  (refine t_or0 ?_)
  refine iff_ rfl ?_
  (refine s_nil ?_; refine f_next ?_; refine s_cons ?_; refine s_if ?_; refine t_bop ?_; refine t_and1 ?_; refine t_cmp rfl ?_; refine w_sub rfl ?_; refine w_name rfl rfl ?_; refine w_int ?_)
  refine i_tuple ha (by simp) (by decide) rfl ?_
  (refine w_int ?_; refine c_eqi ?_)
  refine iff_ rfl ?_
  refine iff_ rfl ?_
  (refine s_nil ?_; refine f_next ?_; refine s_cons ?_; refine s_if ?_; refine t_cmp rfl ?_; refine w_sub rfl ?_; refine w_name rfl rfl ?_; refine w_int ?_)
  refine i_tuple ha (by simp) (by decide) rfl ?_
  (refine w_int ?_; refine c_eqi ?_)
  refine iff_ rfl ?_
  (refine s_nil ?_; refine f_next ?_; refine s_cons ?_; refine s_ret ?_; refine w_call rfl ?_; refine w_es1 ?_; refine w_bin ?_; refine w_sub rfl ?_; refine w_name rfl rfl ?_; refine w_int ?_)
  refine i_tuple ha (by simp) (by decide) rfl ?_
  (refine w_sub rfl ?_; refine w_name rfl rfl ?_; refine w_int ?_)
  refine i_tuple hb (by simp) (by decide) rfl ?_
  refine ⟨⟨by omega, by decide⟩, ?_⟩
  (refine w_es1 ?_; refine w_bin ?_; refine w_sub rfl ?_; refine w_name rfl rfl ?_; refine w_int ?_)
  refine i_tuple ha (by simp) (by decide) rfl ?_
  (refine w_sub rfl ?_; refine w_name rfl rfl ?_; refine w_int ?_)
  refine i_tuple hb (by simp) (by decide) rfl ?_
  refine ⟨⟨by decide, by decide⟩, ?_⟩
  (refine w_es0 ?_)
  rw [Int.mul_one]
  exact k_fn rfl (make_ok (nl1 hN rfl) hn fun t H1 f1 e1 g1 => h t H1 e1 g1)

/-- the four ways to rank -/
inductive Ties where
  | avg
  | min
  | max
  | fst
noncomputable def Ties.name : Ties → Str
  | .avg => Str.ofString "average"
  | .min => Str.ofString "min"
  | .max => Str.ofString "max"
  | .fst => Str.ofString "first"
/-- the rank of one that stands as number m among those from first to last -/
noncomputable def RankV (t : Ties) (H : AH) (first last m : Nat) (v : AV) : Prop := match t with
  | .avg => ∃ a, v = .ref a ∧ H a = some (.tuple [.int (Int.fdiv ((first + last : Nat) : Int) (Int.gcd ((first + last : Nat) : Int) 2)), .int (Int.fdiv 2 (Int.gcd ((first + last : Nat) : Int) 2))])
  | .min => v = .int first
  | .max => v = .int last
  | .fst => v = .int ((first + m : Nat) : Int)
theorem RankV.keep {t : Ties} {H H' : AH} {f l m : Nat} {v : AV} (R : RankV t H f l m v) (e : ∀ a vs, H a = some (.tuple vs) → H' a = some (.tuple vs)) : RankV t H' f l m v := by
  cases t with
  | avg => obtain ⟨a, h1, h2⟩ := R; exact ⟨a, h1, e _ _ h2⟩
  | min => exact R
  | max => exact R
  | fst => exact R
theorem group_rank_ok (hN : 4 ≤ N) (t : Ties) {f l m : Nat} (hf : f ≤ 4096) (hl : l ≤ 4096) (h : ∀ v H', Ext H H' → RankV t H' f l m v → Φ v H') : Γ TT N (.fn (Str.ofString "group_rank")) [.str t.name, .int f, .int l, .int m] H Φ := by
  refine enter (loc := [(Str.ofString "ties", .str t.name), (Str.ofString "first", .int f), (Str.ofString "last", .int l), (Str.ofString "number", .int m)]) T_group_rank rfl (nl0 hN rfl) rfl rfl ?_
  cases t with
  | avg =>
    (refine s_cons ?_; refine s_if ?_; refine t_cmp rfl ?_; refine w_name rfl rfl ?_; refine w_str ?_; refine c_eqs ?_)
    refine ift rfl ?_
    (refine s_cons ?_; refine s_ret ?_; refine w_call rfl ?_; refine w_es1 ?_; refine w_call rfl ?_; refine w_es1 ?_; refine w_bin ?_; refine w_name rfl rfl ?_; refine w_name rfl rfl ?_; refine o_add ?_; refine w_es0 ?_)
    refine k_fn rfl (from_int_ok (nl1 hN rfl) fun a H1 f1 e1 g1 o1 => ?_)
    (refine w_es1 ?_; refine w_call rfl ?_; refine w_es1 ?_; refine w_int ?_; refine w_es0 ?_)
    refine k_fn rfl (from_int_ok (nl1 hN rfl) fun b H2 f2 e2 g2 o2 => ?_)
    (refine w_es0 ?_)
    rw [← Int.natCast_add] at g1
    refine k_fn rfl (div_ok (nl1 hN rfl) (by omega) (e2 _ _ g1) g2 fun t H3 e3 g3 => ?_)
    (refine f_ret ?_; refine f_ret ?_; refine f_rr ?_)
    exact h _ H3 (e1.trans (e2.trans e3)) ⟨t, rfl, g3⟩
  | min =>
    (refine s_cons ?_; refine s_if ?_; refine t_cmp rfl ?_; refine w_name rfl rfl ?_; refine w_str ?_; refine c_eqs ?_)
    refine iff_ rfl ?_
    (refine s_nil ?_; refine f_next ?_; refine s_cons ?_; refine s_if ?_; refine t_cmp rfl ?_; refine w_name rfl rfl ?_; refine w_str ?_; refine c_eqs ?_)
    refine ift rfl ?_
    (refine s_cons ?_; refine s_ret ?_; refine w_name rfl rfl ?_; refine f_ret ?_; refine f_ret ?_; refine f_rr ?_)
    exact h _ H (Ext.refl _) rfl
  | max =>
    (refine s_cons ?_; refine s_if ?_; refine t_cmp rfl ?_; refine w_name rfl rfl ?_; refine w_str ?_; refine c_eqs ?_)
    refine iff_ rfl ?_
    (refine s_nil ?_; refine f_next ?_; refine s_cons ?_; refine s_if ?_; refine t_cmp rfl ?_; refine w_name rfl rfl ?_; refine w_str ?_; refine c_eqs ?_)
    refine iff_ rfl ?_
    (refine s_nil ?_; refine f_next ?_; refine s_cons ?_; refine s_if ?_; refine t_cmp rfl ?_; refine w_name rfl rfl ?_; refine w_str ?_; refine c_eqs ?_)
    refine ift rfl ?_
    (refine s_cons ?_; refine s_ret ?_; refine w_name rfl rfl ?_; refine f_ret ?_; refine f_ret ?_; refine f_rr ?_)
    exact h _ H (Ext.refl _) rfl
  | fst =>
    (refine s_cons ?_; refine s_if ?_; refine t_cmp rfl ?_; refine w_name rfl rfl ?_; refine w_str ?_; refine c_eqs ?_)
    refine iff_ rfl ?_
    (refine s_nil ?_; refine f_next ?_; refine s_cons ?_; refine s_if ?_; refine t_cmp rfl ?_; refine w_name rfl rfl ?_; refine w_str ?_; refine c_eqs ?_)
    refine iff_ rfl ?_
    (refine s_nil ?_; refine f_next ?_; refine s_cons ?_; refine s_if ?_; refine t_cmp rfl ?_; refine w_name rfl rfl ?_; refine w_str ?_; refine c_eqs ?_)
    refine iff_ rfl ?_
    (refine s_nil ?_; refine f_next ?_; refine s_cons ?_; refine s_if ?_; refine t_cmp rfl ?_; refine w_name rfl rfl ?_; refine w_str ?_; refine c_eqs ?_)
    refine ift rfl ?_
    (refine s_cons ?_; refine s_ret ?_; refine w_bin ?_; refine w_name rfl rfl ?_; refine w_name rfl rfl ?_; refine o_add ?_; refine f_ret ?_; refine f_ret ?_; refine f_rr ?_)
    rw [← Int.natCast_add]
    exact h _ H (Ext.refl _) rfl
end
section
variable {N : Nat} {H : AH} {Φ : AV → AH → Prop} {x dx it : Addr} {k : Str} {xs : List AV} {at_ : AV} {sh lo : Bool}
theorem kin_of (hx : ∀ v ∈ xs, ItemOk k v) : Kin xs := fun a ha b hb => same_of (hx a ha) (hx b hb)
theorem grp_new (K : Kin xs) {LL : List (List Nat)} {p : Nat} (G : Grp xs LL) (hd : LL = [] ∨ ∃ L g g0, LL = L ++ [g] ∧ g0 ∈ g ∧ ltV ((xs[g0]?).getD .none) ((xs[p]?).getD .none) = true)
    (nn : ∀ q ∈ LL.flatten, isNone ((xs[q]?).getD .none) = false) (np : isNone ((xs[p]?).getD .none) = false) (sorted : ∀ q ∈ LL.flatten, ltV ((xs[p]?).getD .none) ((xs[q]?).getD .none) = false) : Grp xs (LL ++ [[p]]) := by
  refine ⟨fun g hg => ?_, fun g hg a ha b hb => ?_, ?_⟩
  · rcases List.mem_append.mp hg with h | h
    · exact G.ne g h
    · rw [List.mem_singleton.mp h]; simp
  · rcases List.mem_append.mp hg with h | h
    · exact G.eq g h a ha b hb
    · rw [List.mem_singleton.mp h] at ha hb
      rw [List.mem_singleton.mp ha, List.mem_singleton.mp hb]
  · refine List.pairwise_append.mpr ⟨G.lt, List.pairwise_singleton _ _, fun g hg g' hg' q hq p' hp' => ?_⟩
    rw [List.mem_singleton.mp hg'] at hp'
    rw [List.mem_singleton.mp hp']
    rcases hd with rfl | ⟨L, l, g0, rfl, h0, hlt⟩
    · cases hg
    · rcases List.mem_append.mp hg with h | h
      · have e1 := (List.pairwise_append.mp G.lt).2.2 g h l (List.mem_singleton_self l) q hq g0 h0
        have m0 : g0 ∈ (L ++ [l]).flatten := List.mem_flatten.mpr ⟨l, by simp, h0⟩
        have mq : q ∈ (L ++ [l]).flatten := List.mem_flatten.mpr ⟨g, by simp [h], hq⟩
        cases c : ltV ((xs[q]?).getD .none) ((xs[p]?).getD .none) with
        | true => rfl
        | false =>
          have := geV_trans (kin_at K g0 p) (kin_at K p q) (nn _ m0) np (nn _ mq) (sorted g0 m0) c
          rw [this] at e1; cases e1
      · rw [List.mem_singleton.mp h] at hq
        rw [G.eq l (by simp) q hq g0 h0]; exact hlt
theorem grp_same {L : List (List Nat)} {g : List Nat} {g0 p : Nat} (G : Grp xs (L ++ [g])) (h0 : g0 ∈ g) (e : (xs[g0]?).getD AV.none = (xs[p]?).getD .none) : Grp xs (L ++ [g ++ [p]]) := by
  have hq : ∀ q ∈ g ++ [p], (xs[q]?).getD AV.none = (xs[g0]?).getD .none := fun q hq => by
    rcases List.mem_append.mp hq with h | h
    · exact G.eq g (by simp) q h g0 h0
    · rw [List.mem_singleton.mp h, e]
  refine ⟨fun g' hg => ?_, fun g' hg a ha b hb => ?_, ?_⟩
  · rcases List.mem_append.mp hg with h | h
    · exact G.ne g' (List.mem_append_left _ h)
    · rw [List.mem_singleton.mp h]; simp
  · rcases List.mem_append.mp hg with h | h
    · exact G.eq g' (List.mem_append_left _ h) a ha b hb
    · rw [List.mem_singleton.mp h] at ha hb
      rw [hq a ha, hq b hb]
  · have P := List.pairwise_append.mp G.lt
    refine List.pairwise_append.mpr ⟨P.1, List.pairwise_singleton _ _, fun g1 hg g' hg' a ha b hb => ?_⟩
    rw [List.mem_singleton.mp hg'] at hb
    rw [hq b hb]
    exact P.2.2 g1 hg g (List.mem_singleton_self g) a ha g0 h0

theorem tie_groups_ok (hN : 2 ≤ N) (V : VecAt H x dx k it xs at_ sh lo) (hk : KS k) (hx : ∀ v ∈ xs, ItemOk k v) (hl : xs.length ≤ 4096) {pl : Addr} {ps : List Nat} (hp : H pl = some (.list (ps.map pAV))) (hlen : ps.length ≤ 2000)
    (hps : ∀ p ∈ ps, p < xs.length) (nn : ∀ q ∈ ps, isNone ((xs[q]?).getD .none) = false) (sorted : ps.Pairwise fun p q => ltV ((xs[q]?).getD .none) ((xs[p]?).getD .none) = false)
    (h : ∀ a H' rs LL, H a = none → (∀ b, AV.ref b ∈ rs → H b = none) → Ext H H' → H' a = some (.list rs) → Refs H' rs LL → Grp xs LL → LL.flatten = ps → Φ (.ref a) H') : Γ TT N (.fn (Str.ofString "tie_groups")) [.ref x, .ref pl] H Φ := by
  refine enter (loc := [(Str.ofString "v", .ref x), (Str.ofString "places", .ref pl)]) T_tie_groups rfl (nl0 hN rfl) rfl rfl ?_
  have KI := kin_of hx
  (refine s_cons ?_; refine s_set rfl ?_; refine w_list ?_; refine w_es0 ?_)
  refine ⟨by simp, alloc fun ga H1 f1 e1 g1 o1 => ?_⟩
  (refine f_next ?_; refine s_cons ?_)
  refine s_for rfl ?_
  (refine w_name rfl rfl ?_)
  refine for_go (loc₁ := [(Str.ofString "v", .ref x), (Str.ofString "places", .ref pl), (Str.ofString "groups", .ref ga)]) (e1 _ _ hp) rfl (by simp; omega) (fun _ _ e => e)
    (fun (d r : List AV) (l : Loc) (H' : AH) => ∃ (ds rr : List Nat) (rs : List AV) (LL : List (List Nat)), l = [(Str.ofString "v", .ref x), (Str.ofString "places", .ref pl), (Str.ofString "groups", .ref ga)] ∧ d = ds.map pAV ∧ r = rr.map pAV ∧ ds ++ rr = ps ∧ Ext H H' ∧ H' ga = some (.list rs) ∧ Refs H' rs LL ∧
      (∀ a, AV.ref a ∈ rs → H a = none ∧ a ≠ ga) ∧ rs.Pairwise (fun a b => a ≠ b) ∧ Grp xs LL ∧ LL.flatten = ds)
    ⟨[], ps, [], [], rfl, rfl, rfl, rfl, e1, g1, Refs.nil, (fun _ h => nomatch h), .nil, ⟨(fun _ h => nomatch h), (fun _ h => nomatch h), .nil⟩, rfl⟩ (fun d r l H' z0 => by obtain ⟨_, _, _, _, _, _, _, _, e, _⟩ := z0; exact e _ _ hp) ?_ ?_
  · rintro d v r l H2 K ⟨ds, rr, rs, LL, rfl, rfl, hr, hds, e2, g2, R2, own, dis, G, hfl⟩ hK
    cases rr with
    | nil => cases hr
    | cons p rr =>
      cases hr
      have hpm : p ∈ ps := by rw [← hds]; simp
      have hpx := hps p hpm
      have hnp := nn p hpm
      have sp : ∀ q ∈ ds, ltV ((xs[p]?).getD .none) ((xs[q]?).getD .none) = false := fun q hq => by
        rw [← hds] at sorted
        exact (List.pairwise_append.mp sorted).2.2 q hq p (by simp)
      have nd : ∀ q ∈ ds, isNone ((xs[q]?).getD .none) = false := fun q hq => nn q (by rw [← hds]; simp [hq])
      have V2 := V.ext e2
      have rlen : rs.length = LL.length := R2.1
      have dlen : ds.length < ps.length := by rw [← hds]; simp
      have LLlen : LL.length ≤ ds.length := by
        rw [← hfl]
        have : ∀ M : List (List Nat), (∀ g ∈ M, g ≠ []) → M.length ≤ M.flatten.length := fun M => by
          induction M with
          | nil => intro _; simp
          | cons a r ih =>
            intro hM
            have := ih fun g hg => hM g (List.mem_cons_of_mem _ hg)
            have := List.length_pos_iff.mpr (hM a List.mem_cons_self)
            rw [List.flatten_cons, List.length_append, List.length_cons]; omega
        exact this LL G.ne
      have add : ∀ lx, LocLe [(Str.ofString "v", .ref x), (Str.ofString "places", .ref pl), (Str.ofString "groups", .ref ga), (Str.ofString "place", .int p)] lx → Grp xs (LL ++ [[p]]) → ∀ H4 b, H2 b = none → H4 ga = some (.list (rs ++ [.ref b])) → H4 b = some (.list ([p].map pAV)) → (∀ a, a ≠ b → a ≠ ga → H4 a = H2 a) → K lx H4 := fun lx hle G' H4 b fb g4 gb o4 => by
        have bg : b ≠ ga := fun q => by rw [q, g2] at fb; cases fb
        have nb : ∀ a, AV.ref a ∈ rs → a ≠ b := fun a ha => by
          obtain ⟨i, hi, e⟩ := List.getElem_of_mem ha
          have hi' : i < LL.length := by omega
          obtain ⟨a', q1, q2⟩ := R2.2 i _ (List.getElem?_eq_getElem hi')
          rw [List.getElem?_eq_getElem hi, e] at q1
          cases q1
          exact ne_of q2 fb
        refine hK [(Str.ofString "v", .ref x), (Str.ofString "places", .ref pl), (Str.ofString "groups", .ref ga)] lx H4 (fun y v e => hle y v ?_) ⟨ds ++ [p], rr, _, _, rfl, by simp [pAV], rfl, by simp [hds], ?_, g4, ?_, ?_, ?_, G', by simp [hfl]⟩
        · have : ∀ a b c : Str × AV, ∀ d, getL [a, b, c] y = some v → getL [a, b, c, d] y = some v := fun a b c d q => by
            unfold getL at q ⊢
            split
            · rename_i z; rw [if_pos z] at q; exact q
            · rename_i z; rw [if_neg z] at q
              unfold getL at q ⊢
              split
              · rename_i z; rw [if_pos z] at q; exact q
              · rename_i z; rw [if_neg z] at q
                unfold getL at q ⊢
                split
                · rename_i z; rw [if_pos z] at q; exact q
                · rename_i z; rw [if_neg z] at q; cases q
          exact this _ _ _ _ e
        · exact fun a o e => (o4 a (ne_of (e2 _ _ e) fb) (ne_of e f1)).trans (e2 _ _ e)
        · refine Refs.snoc (l := [p]) ⟨R2.1, fun i l hl => ?_⟩ gb
          obtain ⟨a, q1, q2⟩ := R2.2 i l hl
          have ma := List.mem_of_getElem? q1
          exact ⟨a, q1, (o4 a (nb a ma) (own a ma).2).trans q2⟩
        · intro a ha
          rcases List.mem_append.mp ha with ha | ha
          · exact own a ha
          · cases List.mem_singleton.mp ha
            exact ⟨e2.no fb, bg⟩
        · refine List.pairwise_append.mpr ⟨dis, List.pairwise_singleton _ _, fun u hu w hw e => ?_⟩
          rw [List.mem_singleton.mp hw] at e
          rw [e] at hu
          exact nb b hu rfl
      (refine s_cons ?_; refine s_if ?_; refine t_bop ?_; refine t_and1 ?_; refine t_cmp rfl ?_; refine w_call rfl ?_; refine w_es1 ?_; refine w_name rfl rfl ?_; refine w_es0 ?_)
      refine k_built rfl (q_len g2 (by omega) ?_)
      (refine w_int ?_; refine c_gti ?_)
      rcases List.eq_nil_or_concat LL with rfl | ⟨L, g, rfl⟩
      · have hr0 : rs = [] := List.eq_nil_of_length_eq_zero (by simpa using rlen)
        subst hr0
        refine iff_ rfl ?_
        refine iff_ rfl ?_
        (refine s_cons ?_; refine s_expr ?_; refine w_meth rfl ?_; refine w_name rfl rfl ?_)
        refine m_append g2 ?_
        (refine w_es1 ?_; refine w_list ?_; refine w_es1 ?_; refine w_name rfl rfl ?_; refine w_es0 ?_)
        refine ⟨by simp, alloc fun b H3 f3 e3 g3 o3 => ?_⟩
        (refine w_es0 ?_)
        refine push (e3 _ _ g2) (by simp) fun H4 g4 o4 => ?_
        (refine f_next ?_; refine s_nil ?_; refine f_next ?_; refine s_nil ?_; refine f_tn ?_)
        exact add _ (fun _ _ e => e) (grp_new KI G (.inl rfl) (fun _ h => nomatch h) hnp (fun _ h => nomatch h)) H4 b f3 g4 ((o4 b (fun q => by rw [q, g2] at f3; cases f3)).trans g3) (fun a h1 h2 => (o4 a h2).trans (o3 a h1))
      · have G' : Grp xs (L ++ [g]) := by simpa using G
        rw [List.concat_eq_append] at *
        refine ift (by simp; have := rlen; simp at this; omega) ?_
        obtain ⟨rs', u, rfl⟩ : ∃ rs' u, rs = rs' ++ [u] := by
          rcases List.eq_nil_or_concat rs with rfl | ⟨a, b, rfl⟩
          · simp at rlen
          · exact ⟨a, b, List.concat_eq_append⟩
        have rl' : rs'.length = L.length := by simpa using rlen
        obtain ⟨la, q1, q2⟩ := R2.2 L.length g (by rw [List.getElem?_append_right (Nat.le_refl _), Nat.sub_self]; rfl)
        rw [← rl', List.getElem?_append_right (Nat.le_refl _), Nat.sub_self] at q1
        cases q1
        have gne := G.ne g (by simp)
        obtain ⟨g0, gr, rfl⟩ : ∃ g0 gr, g = g0 :: gr := by
          cases g with
          | nil => exact absurd rfl gne
          | cons a b => exact ⟨a, b, rfl⟩
        have mg0 : g0 ∈ ds := by rw [← hfl]; simp
        have g0x := hps g0 (by rw [← hds]; simp [mg0])
        have n0 := nd g0 mg0
        have E0 : xs[g0]? = some xs[g0] := List.getElem?_eq_getElem g0x
        have Ep : xs[p]? = some xs[p] := List.getElem?_eq_getElem hpx
        have glen : (g0 :: gr).length ≤ 4096 := by
          have := flat_mem (LL := L ++ [g0 :: gr]) (l := g0 :: gr) (by simp)
          rw [hfl] at this; omega
        (refine t_and1 ?_; refine t_cmp rfl ?_; refine w_call rfl ?_; refine w_es1 ?_; refine w_attr rfl ?_; refine w_name rfl rfl ?_)
        refine a_attr V2.i V2.d rfl rfl ?_
        (refine w_es1 ?_; refine w_sub rfl ?_; refine w_attr rfl ?_; refine w_name rfl rfl ?_)
        refine a_attr V2.i V2.d rfl rfl ?_
        (refine w_sub rfl ?_; refine w_sub rfl ?_; refine w_name rfl rfl ?_; refine w_neg ?_; refine w_int ?_; refine f_neg ?_)
        refine i_last g2 (by omega) ?_
        (refine w_int ?_)
        refine i_list q2 (by rw [List.length_map]; exact glen) (by decide) (v := .int g0) rfl ?_
        refine i_list V2.l hl (by omega) (by rw [Int.toNat_natCast]; exact E0) ?_
        (refine w_es1 ?_; refine w_sub rfl ?_; refine w_attr rfl ?_; refine w_name rfl rfl ?_)
        refine a_attr V2.i V2.d rfl rfl ?_
        (refine w_name rfl rfl ?_)
        refine i_list V2.l hl (Int.natCast_nonneg p) (by rw [Int.toNat_natCast]; exact Ep) ?_
        (refine w_es0 ?_)
        have s0 := sp g0 mg0
        rw [E0] at n0
        rw [Ep] at hnp
        rw [E0, Ep] at s0
        dsimp only [Option.getD] at n0 hnp s0
        refine k_fn rfl (compare_items_ok (nl1 hN rfl) hk (hx _ (List.getElem_mem g0x)) (hx _ (List.getElem_mem hpx)) n0 hnp ?_)
        (refine w_int ?_; refine c_eqi ?_)
        have cI : cmpI xs[g0] xs[p] = if ltV xs[g0] xs[p] then -1 else 0 := by
          unfold cmpI
          rw [s0]; rfl
        cases c : ltV xs[g0] xs[p] with
        | true =>
          rw [cI, c]
          refine iff_ rfl ?_
          refine iff_ rfl ?_
          (refine s_cons ?_; refine s_expr ?_; refine w_meth rfl ?_; refine w_name rfl rfl ?_)
          refine m_append g2 ?_
          (refine w_es1 ?_; refine w_list ?_; refine w_es1 ?_; refine w_name rfl rfl ?_; refine w_es0 ?_)
          refine ⟨by simp, alloc fun b H3 f3 e3 g3 o3 => ?_⟩
          (refine w_es0 ?_)
          refine push (e3 _ _ g2) (by omega) fun H4 g4 o4 => ?_
          (refine f_next ?_; refine s_nil ?_; refine f_next ?_; refine s_nil ?_; refine f_tn ?_)
          exact add _ (fun _ _ e => e) (grp_new KI G (.inr ⟨L, g0 :: gr, g0, rfl, by simp, by rw [E0, Ep]; exact c⟩) (by rw [hfl]; exact nd) (by rw [Ep]; exact hnp) (by rw [hfl]; exact sp)) H4 b f3 g4 ((o4 b (fun q => by rw [q, g2] at f3; cases f3)).trans g3) (fun a h1 h2 => (o4 a h2).trans (o3 a h1))
        | false =>
          rw [cI, c]
          refine ift rfl ?_
          (refine t_and0 ?_)
          refine ift rfl ?_
          (refine s_cons ?_; refine s_expr ?_; refine w_meth rfl ?_; refine w_sub rfl ?_; refine w_name rfl rfl ?_; refine w_neg ?_; refine w_int ?_; refine f_neg ?_)
          refine i_last g2 (by omega) ?_
          refine m_append q2 ?_
          (refine w_es1 ?_; refine w_name rfl rfl ?_; refine w_es0 ?_)
          refine push q2 (by rw [List.length_map]; exact glen) fun H4 g4 o4 => ?_
          (refine f_next ?_; refine s_nil ?_; refine f_next ?_; refine s_nil ?_; refine f_tn ?_)
          have ola := own la (by simp)
          have dis' := List.pairwise_append.mp dis
          refine hK [(Str.ofString "v", .ref x), (Str.ofString "places", .ref pl), (Str.ofString "groups", .ref ga)] _ H4 (.cons rfl (.cons rfl (.cons rfl .nil))) ⟨ds ++ [p], rr, rs' ++ [.ref la], L ++ [(g0 :: gr) ++ [p]], rfl, by simp [pAV], rfl, by simp [hds], ?_, (o4 _ (Ne.symm ola.2)).trans g2, ?_, own, dis, grp_same (g0 := g0) G (by simp) ?_, ?_⟩
          · exact fun a o e => (o4 a (ne_of e ola.1)).trans (e2 _ _ e)
          · refine Refs.snoc ⟨rl', fun i l hl => ?_⟩ (by rw [g4, List.map_append]; rfl)
            have hi : i < L.length := (List.getElem?_eq_some_iff.mp hl).1
            obtain ⟨a, w1, w2⟩ := R2.2 i l (by rw [List.getElem?_append_left hi]; exact hl)
            rw [List.getElem?_append_left (by omega)] at w1
            refine ⟨a, w1, (o4 a ?_).trans w2⟩
            intro q
            rw [q] at w1
            exact dis'.2.2 _ (List.mem_of_getElem? w1) _ (List.mem_singleton_self _) rfl
          · rw [E0, Ep]
            exact ltV_total (same_of (hx _ (List.getElem_mem g0x)) (hx _ (List.getElem_mem hpx))) n0 hnp c s0
          · rw [← hfl]; simp
  · rintro d l H2 ⟨ds, rr, rs, LL, rfl, rfl, hr, hds, e2, g2, R2, own, dis, G, hfl⟩
    have : rr = [] := by cases rr with | nil => rfl | cons => cases hr
    subst this
    rw [List.append_nil] at hds
    subst hds
    (refine f_next ?_; refine s_cons ?_; refine s_ret ?_; refine w_name rfl rfl ?_; refine f_ret ?_; refine f_rr ?_)
    exact h ga H2 rs LL f1 (fun b hb => (own b hb).1) e2 g2 R2 G hfl
end
/-- how many are less; how many are not greater -/
noncomputable def lowC (xs : List AV) (u : AV) : Nat := xs.countP fun o => !isNone o && ltV o u
noncomputable def highC (xs : List AV) (u : AV) : Nat := xs.countP fun o => !isNone o && !ltV u o
section
variable {N : Nat} {H : AH} {Φ : AV → AH → Prop} {x dx it : Addr} {k : Str} {xs : List AV} {at_ : AV} {sh lo : Bool}
theorem count_kept (P : AV → Bool) {ps : List Nat} (hp : ps.Perm (keptOf xs true)) : xs.countP (fun o => !isNone o && P o) = ps.countP fun q => P ((xs[q]?).getD .none) := by
  rw [hp.countP_eq, keptOf, List.countP_filter]
  have e : xs = (List.range xs.length).map fun i => (xs[i]?).getD .none := by
    refine List.ext_getElem (by simp) fun i h1 h2 => ?_
    rw [List.getElem_map, List.getElem_range, List.getElem?_eq_getElem h1]; rfl
  conv => lhs; rw [e, List.countP_map]
  refine List.countP_congr fun i hi => ?_
  simp only [Function.comp, Bool.true_and]
  rw [Bool.and_comm]
theorem grp_count (KI : Kin xs) {ps : List Nat} (hp : ps.Perm (keptOf xs true)) {A B : List (List Nat)} {g : List Nat} (G : Grp xs (A ++ g :: B)) (hfl : (A ++ g :: B).flatten = ps) {p : Nat} (hpg : p ∈ g) :
    lowC xs ((xs[p]?).getD .none) = A.flatten.length ∧ highC xs ((xs[p]?).getD .none) = A.flatten.length + g.length := by
  have PA := List.pairwise_append.mp G.lt
  have PB := List.pairwise_cons.mp PA.2.1
  have ha : ∀ q ∈ A.flatten, ltV ((xs[q]?).getD .none) ((xs[p]?).getD .none) = true := fun q hq => by
    obtain ⟨l, h1, h2⟩ := List.mem_flatten.mp hq
    exact PA.2.2 l h1 g (List.mem_cons_self) q h2 p hpg
  have hg : ∀ q ∈ g, (xs[q]?).getD AV.none = (xs[p]?).getD .none := fun q hq => G.eq g (by simp) q hq p hpg
  have hb : ∀ q ∈ B.flatten, ltV ((xs[p]?).getD .none) ((xs[q]?).getD .none) = true := fun q hq => by
    obtain ⟨l, h1, h2⟩ := List.mem_flatten.mp hq
    exact PB.1 l h1 p hpg q h2
  constructor
  · unfold lowC
    rw [count_kept _ hp, ← hfl, List.flatten_append, List.flatten_cons, List.countP_append, List.countP_append]
    rw [List.countP_eq_length.mpr ha, List.countP_eq_zero.mpr fun q hq => by rw [hg q hq, ltV_irrefl]; simp, List.countP_eq_zero.mpr fun q hq => by rw [ltV_asymm (hb q hq)]; simp]
    rfl
  · unfold highC
    rw [count_kept (fun o => !ltV ((xs[p]?).getD .none) o) hp, ← hfl, List.flatten_append, List.flatten_cons, List.countP_append, List.countP_append]
    rw [List.countP_eq_length.mpr fun q hq => by rw [ltV_asymm (ha q hq)]; rfl, List.countP_eq_length.mpr fun q hq => by rw [hg q hq, ltV_irrefl]; rfl, List.countP_eq_zero.mpr fun q hq => by rw [hb q hq]; simp]
    rfl

/-- all stays but for one thing -/
noncomputable def ExtB (a : Addr) (H H' : AH) : Prop := ∀ b o, b ≠ a → H b = some o → H' b = some o
theorem ExtB.refl {a : Addr} {H : AH} : ExtB a H H := fun _ _ _ h => h
theorem ExtB.ext {a : Addr} {H H' H'' : AH} (e : ExtB a H H') (k : Ext H' H'') : ExtB a H H'' := fun b o h q => k _ _ (e b o h q)
theorem ExtB.set {a : Addr} {H H' H'' : AH} (e : ExtB a H H') (k : ∀ b, b ≠ a → H'' b = H' b) : ExtB a H H'' := fun b o h q => (k b h).trans (e b o h q)
theorem ExtB.trans {a : Addr} {H H' H'' : AH} (e : ExtB a H H') (k : ExtB a H' H'') : ExtB a H H'' := fun b o h q => k _ _ h (e b o h q)
theorem ExtB.out {a : Addr} {H₀ H H' : AH} (e : ExtB a H H') (k : Ext H₀ H) (n : H₀ a = none) : Ext H₀ H' := fun b o q => e _ _ (ne_of q n) (k _ _ q)

/-- the kind of a vector of ranks -/
noncomputable def Ties.kind : Ties → Str
  | .avg => Str.ofString "double"
  | _ => Str.ofString "integer"
theorem set_at {d : Addr} {vs : List AV} {i : Int} {v : AV} {Κ : AH → Prop} (h : H d = some (.list vs)) (hl : vs.length ≤ 4096) (h0 : 0 ≤ i) (h1 : i < vs.length) (k : ∀ H', H' d = some (.list (vs.set i.toNat v)) → (∀ b, b ≠ d → H' b = H b) → Κ H') : setItemA (.ref d) (.int i) v H Κ :=
  j_list h hl h0 h1 (k _ updH_self fun b hb => updH_ne hb)

/-- the ranks, as far as the first t places go -/
structure Ranked (H : AH) (t : Ties) (xs : List AV) (ps : List Nat) (rk : List AV) (n : Nat) : Prop where
  len : rk.length = xs.length
  ok : ∀ i p, i < n → ps[i]? = some p → ∃ v, rk[p]? = some v ∧ ∃ m, RankV t H (lowC xs ((xs[p]?).getD .none) + 1) (highC xs ((xs[p]?).getD .none)) m v ∧ lowC xs ((xs[p]?).getD .none) + m = i
  no : ∀ p, p < xs.length → (∀ i, i < n → ps[i]? ≠ some p) → rk[p]? = some .none
theorem Ranked.keep {H H' : AH} {t : Ties} {ps : List Nat} {rk : List AV} {n : Nat} (R : Ranked H t xs ps rk n) (e : ∀ a vs, H a = some (.tuple vs) → H' a = some (.tuple vs)) : Ranked H' t xs ps rk n :=
  ⟨R.len, fun i p h1 h2 => by obtain ⟨v, q1, m, q2, q3⟩ := R.ok i p h1 h2; exact ⟨v, q1, m, q2.keep e, q3⟩, R.no⟩
theorem Ranked.step {t : Ties} {ps : List Nat} {rk : List AV} {n : Nat} (R : Ranked H t xs ps rk n) (nod : ps.Nodup) {p m : Nat} {v : AV} (hp : ps[n]? = some p) (hpx : p < xs.length) (hv : RankV t H (lowC xs ((xs[p]?).getD .none) + 1) (highC xs ((xs[p]?).getD .none)) m v) (hm : lowC xs ((xs[p]?).getD .none) + m = n) : Ranked H t xs ps (rk.set p v) (n + 1) := by
  refine ⟨by rw [List.length_set, R.len], fun i q hi hq => ?_, fun q hq hno => ?_⟩
  · by_cases e : i = n
    · subst e
      rw [hp] at hq; cases hq
      exact ⟨v, by rw [List.getElem?_set_self (by rw [R.len]; exact hpx)], m, hv, hm⟩
    · obtain ⟨w, q1, q2⟩ := R.ok i q (by omega) hq
      refine ⟨w, ?_, q2⟩
      rw [List.getElem?_set_ne]
      · exact q1
      · intro z
        subst z
        obtain ⟨l1, e1⟩ := List.getElem?_eq_some_iff.mp hp
        obtain ⟨l2, e2⟩ := List.getElem?_eq_some_iff.mp hq
        exact e ((List.getElem_inj (h₀ := l2) (h₁ := l1) nod).mp (e2.trans e1.symm))
  · rw [List.getElem?_set_ne]
    · exact R.no q hq fun i hi => hno i (by omega)
    · intro z
      exact hno n (by omega) (by rw [hp, z])

theorem rank_of_ok (hN : 8 ≤ N) (V : VecAt H x dx k it xs at_ sh lo) (hk : KS k) (hx : ∀ v ∈ xs, ItemOk k v) (hl : xs.length ≤ 2000) (t : Ties)
    (h : ∀ y dy ity rk H' ps, H dy = none → Ext H H' → SortOf (cmpP xs false true) (keptOf xs true) ps → VecAt H' y dy t.kind ity rk .none false false → Ranked H' t xs ps rk ps.length → Φ (.ref y) H') : Γ TT N (.fn (Str.ofString "rank_of")) [.ref x, .str t.name] H Φ := by
  refine enter (loc := [(Str.ofString "v", .ref x), (Str.ofString "ties", .str t.name)]) T_rank_of rfl (nl0 hN rfl) rfl rfl ?_
  (refine s_cons ?_; refine s_expr ?_; refine w_call rfl ?_; refine w_es1 ?_; refine w_name rfl rfl ?_; refine w_es0 ?_)
  refine k_fn rfl (check_sortable_ok (nl1 hN rfl) V hk fun H1 e1 => ?_)
  (refine f_next ?_; refine s_cons ?_; refine s_if ?_; refine t_cmp rfl ?_; refine w_name rfl rfl ?_; refine w_tuple ?_; refine w_es1 ?_; refine w_str ?_; refine w_es1 ?_; refine w_str ?_; refine w_es1 ?_; refine w_str ?_; refine w_es1 ?_; refine w_str ?_; refine w_es1 ?_; refine w_str ?_; refine w_es0 ?_)
  refine ⟨by simp, alloc fun tl H2 f2 e2 g2 o2 => ?_⟩
  have m : memA t.name [.str (Str.ofString "average"), .str (Str.ofString "min"), .str (Str.ofString "max"), .str (Str.ofString "first"), .str (Str.ofString "last")] = some true := by
    cases t <;> rfl
  refine c_nint g2 m ?_
  refine iff_ rfl ?_
  (refine s_nil ?_; refine f_next ?_; refine s_cons ?_; refine s_set rfl ?_; refine w_bin ?_; refine w_list ?_; refine w_es1 ?_; refine w_none ?_; refine w_es0 ?_)
  refine ⟨by simp, alloc fun nl H3 f3 e3 g3 o3 => ?_⟩
  (refine w_call rfl ?_; refine w_es1 ?_; refine w_name rfl rfl ?_; refine w_es0 ?_)
  refine k_fn rfl (length_ok (nl1 hN rfl) (V.ext (e1.trans (e2.trans e3))) hk.kd (by omega) ?_)
  skip
  refine ⟨_, g3, by omega, by omega, alloc fun rl H4 f4 e4 g4 o4 => ?_⟩
  (refine f_next ?_; refine s_cons ?_; refine s_set rfl ?_; refine w_int ?_; refine f_next ?_; refine s_cons ?_)
  refine s_for rfl ?_
  (refine w_call rfl ?_; refine w_es1 ?_; refine w_name rfl rfl ?_; refine w_es1 ?_; refine w_call rfl ?_; refine w_es1 ?_; refine w_list ?_; refine w_es1 ?_; refine w_name rfl rfl ?_; refine w_es0 ?_)
  refine ⟨by simp, alloc fun vl H5 f5 e5 g5 o5 => ?_⟩
  (refine w_es1 ?_; refine w_bool ?_; refine w_es1 ?_; refine w_none ?_; refine w_es0 ?_)
  have e15 := e1.trans (e2.trans (e3.trans (e4.trans e5)))
  have V5 := V.ext e15
  have fr : H rl = none := (e1.trans (e2.trans e3)).no f4
  refine k_fn rfl (order_by_ok (nl1 hN rfl) V5 hk hx hl g5 (.inl rfl) fun pl H6 ps e6 g6 S => ?_)
  (refine w_es0 ?_)
  have S : SortOf (cmpP xs false true) (keptOf xs true) ps := S
  have KI := kin_of hx
  have psx : ∀ p ∈ ps, p < xs.length := fun p hp => kept_lt (S.perm.mem_iff.mp hp)
  have nn : ∀ q ∈ ps, isNone ((xs[q]?).getD .none) = false := fun q hq => by
    have := (List.mem_filter.mp (S.perm.mem_iff.mp hq)).2
    simpa using this
  have psl : ps.length ≤ 2000 := by have := S.perm.length_eq; have := kept_len xs true; omega
  have nod : ps.Nodup := S.perm.nodup_iff.mpr ((kept_asc xs true).imp fun h => Nat.ne_of_lt h)
  have sorted : ps.Pairwise fun p q => ltV ((xs[q]?).getD .none) ((xs[p]?).getD .none) = false := by
    refine List.Pairwise.imp_of_mem (fun {p q} hp hq hb => ?_) S.srt
    have hb := bef_le _ hb
    unfold cmpP at hb
    dsimp only at hb
    rw [nn p hp, nn q hq] at hb
    exact cmpI_le.mp hb
  refine k_fn rfl (tie_groups_ok (nl1 hN rfl) (V5.ext e6) hk hx (by omega) g6 psl psx nn sorted fun ga H7 rs LL f7 own7 e7 g7 R7 G hfl => ?_)
  have e17 := e15.trans (e6.trans e7)
  have r7 : H7 rl = some (.list (List.replicate xs.length .none)) := (e5.trans (e6.trans e7)) _ _ g4
  have gl : rl ≠ ga := ne_of (e5.trans e6 _ _ g4) f7
  have ol : ∀ b, AV.ref b ∈ rs → b ≠ rl := fun b hb => Ne.symm (ne_of (e5.trans e6 _ _ g4) (own7 b hb))
  have LLn : LL.length ≤ 2000 := by
    have : ∀ M : List (List Nat), (∀ g ∈ M, g ≠ []) → M.length ≤ M.flatten.length := fun M => by
      induction M with
      | nil => intro _; simp
      | cons a r ih =>
        intro hM
        have := ih fun g hg => hM g (List.mem_cons_of_mem _ hg)
        have := List.length_pos_iff.mpr (hM a List.mem_cons_self)
        rw [List.flatten_cons, List.length_append, List.length_cons]; omega
    have := this LL G.ne
    rw [hfl] at this; omega
  have R0 : Ranked H7 t xs ps (List.replicate xs.length .none) 0 := ⟨by simp, fun i p h _ => by omega, fun p hp _ => by simp [hp]⟩
  refine for_go (loc₁ := [(Str.ofString "v", .ref x), (Str.ofString "ties", .str t.name), (Str.ofString "ranks", .ref rl), (Str.ofString "done", .int 0)]) g7 rfl (by rw [R7.1]; omega) (fun _ _ e => e)
    (fun (d r : List AV) (l : Loc) (H' : AH) => ∃ (gs rr : List (List Nat)) (rk : List AV), l = [(Str.ofString "v", .ref x), (Str.ofString "ties", .str t.name), (Str.ofString "ranks", .ref rl), (Str.ofString "done", .int (gs.flatten.length : Nat))] ∧ d ++ r = rs ∧ gs ++ rr = LL ∧ d.length = gs.length ∧ ExtB rl H7 H' ∧ H' rl = some (.list rk) ∧ Ranked H' t xs ps rk gs.flatten.length)
    ⟨[], LL, _, rfl, rfl, rfl, rfl, .refl, r7, R0⟩ (fun d r l H' z0 => by obtain ⟨_, _, _, _, _, _, _, e, _⟩ := z0; exact e _ _ (Ne.symm gl) g7) ?_ ?_
  · rintro d v r l H8 K ⟨gs, rr, rk, rfl, hdr, hgs, hlen, e8, g8, RK⟩ hK
    have hdl : d.length < LL.length := by rw [← R7.1, ← hdr]; simp
    obtain ⟨g, rr, rfl⟩ : ∃ g rr', rr = g :: rr' := by
      cases rr with
      | nil => rw [← hgs] at hdl; simp at hdl; omega
      | cons a b => exact ⟨a, b, rfl⟩
    obtain ⟨a, q1, q2⟩ := R7.2 d.length g (by rw [← hgs, hlen]; simp)
    rw [← hdr] at q1
    simp at q1
    subst q1
    have arl := ol a (by rw [← hdr]; simp)
    have q8 := e8 _ _ arl q2
    have gm : g ∈ LL := by rw [← hgs]; simp
    have gl' := flat_mem gm
    rw [hfl] at gl'
    have total : gs.flatten.length + g.length ≤ ps.length := by rw [← hfl, ← hgs]; simp
    (refine s_cons ?_)
    refine s_for rfl ?_
    (refine w_call rfl ?_; refine w_es1 ?_; refine w_call rfl ?_; refine w_es1 ?_; refine w_name rfl rfl ?_; refine w_es0 ?_)
    refine k_built rfl (q_len q8 (by rw [List.length_map]; omega) ?_)
    (refine w_es0 ?_)
    rw [List.length_map]
    refine k_built rfl (q_range1 (by omega) (alloc fun rg H9 f9 e9 g9 o9 => ?_))
    have hit : itemsA (.range 0 (g.length : Int) 1) = some ((List.range g.length).map fun (i : Nat) => AV.int (0 + i)) := by
      simp only [itemsA]
      rw [if_pos trivial]
      have : ((g.length : Int) - 0).toNat = g.length := by omega
      rw [this]
    have rgl : rg ≠ rl := Ne.symm (ne_of g8 f9)
    refine for_go (loc₁ := [(Str.ofString "v", .ref x), (Str.ofString "ties", .str t.name), (Str.ofString "ranks", .ref rl), (Str.ofString "done", .int (gs.flatten.length : Nat)), (Str.ofString "group", .ref a)]) g9 hit (by simp; omega) (.cons rfl (.cons rfl (.cons rfl (.cons rfl (.cons rfl .nil)))))
      (fun (d r : List AV) (l : Loc) (H' : AH) => ∃ rk : List AV, l = [(Str.ofString "v", .ref x), (Str.ofString "ties", .str t.name), (Str.ofString "ranks", .ref rl), (Str.ofString "done", .int (gs.flatten.length : Nat)), (Str.ofString "group", .ref a)] ∧ ((List.range g.length).map fun (i : Nat) => AV.int (0 + i)) = d ++ r ∧ ExtB rl H9 H' ∧ H' rl = some (.list rk) ∧ Ranked H' t xs ps rk (gs.flatten.length + d.length))
      ⟨rk, rfl, rfl, .refl, e9 _ _ g8, RK.keep fun a vs q => e9 _ _ q⟩ (fun d r l H' z0 => by obtain ⟨_, _, _, e, _⟩ := z0; exact e _ _ rgl g9) ?_ ?_
    · rintro d2 v r2 l H10 K' ⟨rk, rfl, hdr2, e10, g10, RK⟩ hK'
      have hv' : ((List.range g.length).map fun (i : Nat) => AV.int (0 + i))[d2.length]? = some v := by rw [hdr2]; simp
      rw [List.getElem?_map] at hv'
      obtain ⟨ii, hii, rfl⟩ := Option.map_eq_some_iff.mp hv'
      obtain ⟨hlt, hii⟩ := List.getElem?_eq_some_iff.mp hii
      rw [List.getElem_range] at hii
      subst hii
      rw [List.length_range] at hlt
      have zi : (0 : Int) + (d2.length : Int) = (d2.length : Int) := by omega
      rw [zi]
      have q10 := e10 _ _ arl (e9 _ _ q8)
      have mg : g[d2.length] ∈ g := List.getElem_mem hlt
      have cnt := grp_count KI S.perm (A := gs) (B := rr) (by rw [hgs]; exact G) (by rw [hgs]; exact hfl) mg
      have pat : ps[gs.flatten.length + d2.length]? = some g[d2.length] := by
        rw [← hfl, ← hgs, List.flatten_append, List.flatten_cons, List.getElem?_append_right (by omega), List.getElem?_append_left (by omega)]
        rw [show gs.flatten.length + d2.length - gs.flatten.length = d2.length from by omega]
        exact List.getElem?_eq_getElem hlt
      have px := psx _ (List.mem_of_getElem? pat)
      (refine s_cons ?_; refine s_sub rfl ?_; refine w_call rfl ?_; refine w_es1 ?_; refine w_name rfl rfl ?_; refine w_es1 ?_; refine w_bin ?_; refine w_name rfl rfl ?_; refine w_int ?_; refine o_add ?_; refine w_es1 ?_; refine w_bin ?_; refine w_name rfl rfl ?_; refine w_call rfl ?_; refine w_es1 ?_; refine w_name rfl rfl ?_; refine w_es0 ?_)
      refine k_built rfl (q_len q10 (by rw [List.length_map]; omega) ?_)
      (refine o_add ?_; refine w_es1 ?_; refine w_name rfl rfl ?_; refine w_es0 ?_)
      rw [List.length_map, ← Int.natCast_add, show ((gs.flatten.length : Nat) : Int) + 1 = ((gs.flatten.length + 1 : Nat) : Int) from rfl]
      refine k_fn rfl (group_rank_ok (nl1 hN rfl) t (by omega) (by omega) fun v H11 e11 RV => ?_)
      (refine w_name rfl rfl ?_; refine w_sub rfl ?_; refine w_name rfl rfl ?_; refine w_name rfl rfl ?_)
      refine i_list (e11 _ _ q10) (by rw [List.length_map]; omega) (Int.natCast_nonneg _) (pav_at hlt) ?_
      have g11 := e11 _ _ g10
      have rkl : rk.length = xs.length := RK.len
      refine set_at g11 (by omega) (Int.natCast_nonneg _) (by omega) fun H12 g12 o12 => ?_
      (refine f_next ?_; refine s_nil ?_; refine f_tn ?_)
      rw [Int.toNat_natCast] at g12
      have kt : ∀ a vs, H11 a = some (.tuple vs) → H12 a = some (.tuple vs) := fun a vs q => (o12 a (ne_obj q g11 (by simp))).trans q
      refine hK' [(Str.ofString "v", .ref x), (Str.ofString "ties", .str t.name), (Str.ofString "ranks", .ref rl), (Str.ofString "done", .int (gs.flatten.length : Nat)), (Str.ofString "group", .ref a)] _ H12 (.cons rfl (.cons rfl (.cons rfl (.cons rfl (.cons rfl .nil))))) ⟨_, rfl, by rw [hdr2]; simp, (e10.ext e11).set o12, g12, ?_⟩
      rw [List.length_append, List.length_singleton, ← Nat.add_assoc]
      exact ((RK.keep fun a vs q => e11 _ _ q).step nod pat px (by rw [cnt.1, cnt.2]; exact RV) (by rw [cnt.1])).keep kt
    · rintro d2 l H10 ⟨rk, rfl, hdr2, e10, g10, RK⟩
      have hd2 : d2.length = g.length := by
        have := congrArg List.length hdr2
        simpa using this.symm
      rw [hd2] at RK
      have q10 := e10 _ _ arl (e9 _ _ q8)
      (refine f_next ?_; refine s_cons ?_; refine s_aug rfl rfl ?_; refine w_call rfl ?_; refine w_es1 ?_; refine w_name rfl rfl ?_; refine w_es0 ?_)
      refine k_built rfl (q_len q10 (by rw [List.length_map]; omega) ?_)
      (refine f_aug ?_; refine f_next ?_; refine s_nil ?_; refine f_tn ?_)
      rw [List.length_map, ← Int.natCast_add]
      refine hK [(Str.ofString "v", .ref x), (Str.ofString "ties", .str t.name), (Str.ofString "ranks", .ref rl), (Str.ofString "done", .int ((gs.flatten.length + g.length : Nat) : Int))] _ H10 (.cons rfl (.cons rfl (.cons rfl (.cons rfl .nil)))) ⟨gs ++ [g], rr, rk, ?_, by rw [← hdr]; simp, by rw [← hgs]; simp, by simp [hlen], (e8.ext e9).trans e10, g10, ?_⟩
      · simp
      · have : (gs ++ [g]).flatten.length = gs.flatten.length + g.length := by simp
        rw [this]; exact RK
  · rintro d l H8 ⟨gs, rr, rk, rfl, hdr, hgs, hlen, e8, g8, RK⟩
    have : rr = [] := by
      have := congrArg List.length hgs
      have := congrArg List.length hdr
      have := R7.1
      simp at *
      exact List.eq_nil_of_length_eq_zero (by omega)
    subst this
    rw [List.append_nil] at hgs
    subst hgs
    rw [hfl] at RK
    have e08 := e8.out e17 fr
    have rkl : rk.length = xs.length := RK.len
    (refine f_next ?_; refine s_cons ?_; refine s_if ?_; refine t_cmp rfl ?_; refine w_name rfl rfl ?_; refine w_str ?_; refine c_eqs ?_)
    have fin : ∀ y dy ity H9, H8 y = none → H8 dy = none → H8 ity = none → Ext H8 H9 → (∀ b, b ≠ y → b ≠ dy → b ≠ ity → H9 b = H8 b) → VecAt H9 y dy t.kind ity rk .none false false → Φ (.ref y) H9 := fun y dy ity H9 _ nd _ e9 _ W => h y dy ity rk H9 ps (e08.no nd) (e08.trans e9) S W (RK.keep fun a vs q => e9 _ _ q)
    cases t with
    | avg =>
      refine ift rfl ?_
      (refine s_cons ?_; refine s_ret ?_; refine w_call rfl ?_; refine w_es1 ?_; refine w_name rfl rfl ?_; refine w_es0 ?_)
      exact k_fn rfl (double_ok (nl1 hN rfl) g8 (by omega) fin)
    | min =>
      refine iff_ rfl ?_
      (refine s_nil ?_; refine f_next ?_; refine s_cons ?_; refine s_ret ?_; refine w_call rfl ?_; refine w_es1 ?_; refine w_name rfl rfl ?_; refine w_es0 ?_)
      exact k_fn rfl (integer_ok (nl1 hN rfl) g8 (by omega) fin)
    | max =>
      refine iff_ rfl ?_
      (refine s_nil ?_; refine f_next ?_; refine s_cons ?_; refine s_ret ?_; refine w_call rfl ?_; refine w_es1 ?_; refine w_name rfl rfl ?_; refine w_es0 ?_)
      exact k_fn rfl (integer_ok (nl1 hN rfl) g8 (by omega) fin)
    | fst =>
      refine iff_ rfl ?_
      (refine s_nil ?_; refine f_next ?_; refine s_cons ?_; refine s_ret ?_; refine w_call rfl ?_; refine w_es1 ?_; refine w_name rfl rfl ?_; refine w_es0 ?_)
      exact k_fn rfl (integer_ok (nl1 hN rfl) g8 (by omega) fin)
end
noncomputable def sEll : Str := Str.ofString "..."
noncomputable def tagIs (v : AV) (s : Str) : Bool := match v with
  | .str t => decide (t = s)
  | _ => false
noncomputable def TagOk (v : AV) : Prop := v = .none ∨ ∃ s, v = .str s
/-- one name against the tags -/
noncomputable def exIn (T : List AV) (f : Str) : List Nat → List (Str × AV) → List Int → Option (List (Str × AV) × List Int)
  | [], P, U => some (P, U)
  | j :: r, P, U => if (tagIs ((T[j]?).getD .none) f && decide ((U[j]?).getD 0 = 0)) = true then (if (getL P f).isSome = true ∨ 90 < P.length then none else exIn T f r (setL P f (.int j)) (U.set j 2)) else exIn T f r P U
noncomputable def exOut (T : List AV) : List Str → List (Str × AV) → List Int → Option (List (Str × AV) × List Int)
  | [], P, U => some (P, U)
  | f :: r, P, U => if f = sEll then exOut T r P U else (exIn T f (List.range T.length) P U).bind fun s => exOut T r s.1 s.2
noncomputable def freeAt (T : List AV) (U : List Int) (j : Nat) : Bool := decide ((U[j]?).getD 0 = 0) && (isNone ((T[j]?).getD .none) || tagIs ((T[j]?).getD .none) (Str.ofString ""))
noncomputable def skipF (T : List AV) (U : List Int) : Nat → Nat → Nat
  | 0, q => q
  | n + 1, q => if q < T.length ∧ freeAt T U q = false then skipF T U n (q + 1) else q
noncomputable def posF (T : List AV) : List Str → Nat → List (Str × AV) → List Int → Option (List (Str × AV) × List Int)
  | [], _, P, U => some (P, U)
  | f :: r, q, P, U => if f = sEll then some (P, U) else if (getL P f).isSome = true then posF T r q P U else
    if skipF T U (T.length - q) q < T.length then (if 90 < P.length then none else posF T r (skipF T U (T.length - q) q) (setL P f (.int (skipF T U (T.length - q) q : Nat))) (U.set (skipF T U (T.length - q) q) 2)) else posF T r (skipF T U (T.length - q) q) P U
noncomputable def iAV (i : Int) : AV := .int i

theorem items_range (n : Nat) : itemsA (.range 0 (n : Int) 1) = some ((List.range n).map pAV) := by
  simp only [itemsA]
  rw [if_pos trivial]
  have : ((n : Int) - 0).toNat = n := by omega
  rw [this]
  refine congrArg some (List.map_congr_left fun i _ => ?_)
  show AV.int _ = AV.int _
  rw [Int.zero_add]

structure MatAt (H : AH) (m md fl tl ul pl : Addr) (F : List Str) (T : List AV) (U : List Int) (P : List (Str × AV)) : Prop where
  i : H m = some (.inst .mat md)
  d : H md = some (.dict [(Str.ofString "formals", .ref fl), (Str.ofString "tags", .ref tl), (Str.ofString "used", .ref ul), (Str.ofString "places", .ref pl)])
  f : H fl = some (.list (F.map .str))
  t : H tl = some (.list T)
  u : H ul = some (.list (U.map iAV))
  p : H pl = some (.dict P)
  n1 : fl ≠ ul
  n2 : tl ≠ ul
  n3 : md ≠ pl
  hu : U.length = T.length
  ht : T.length ≤ 90
  tt : ∀ v ∈ T, TagOk v
/-- all stays but for two things -/
noncomputable def ExtC (a b : Addr) (H H' : AH) : Prop := ∀ c o, c ≠ a → c ≠ b → H c = some o → H' c = some o
theorem ExtC.refl {a b : Addr} {H : AH} : ExtC a b H H := fun _ _ _ _ h => h
theorem ExtC.ext {a b : Addr} {H H' H'' : AH} (e : ExtC a b H H') (k : Ext H' H'') : ExtC a b H H'' := fun c o h1 h2 q => k _ _ (e c o h1 h2 q)
theorem ExtC.trans {a b : Addr} {H H' H'' : AH} (e : ExtC a b H H') (k : ExtC a b H' H'') : ExtC a b H H'' := fun c o h1 h2 q => k _ _ h1 h2 (e c o h1 h2 q)
theorem ExtC.out {a b : Addr} {H₀ H H' : AH} (e : ExtC a b H H') (k : Ext H₀ H) (n : H₀ a = none) (n' : H₀ b = none) : Ext H₀ H' := fun c o q => e _ _ (ne_of q n) (ne_of q n') (k _ _ q)

section
variable {N : Nat} {H : AH} {Φ : AV → AH → Prop} {m md fl tl ul pl : Addr} {F : List Str} {T : List AV} {U : List Int} {P : List (Str × AV)}
theorem MatAt.ext {H' : AH} (M : MatAt H m md fl tl ul pl F T U P) (e : Ext H H') : MatAt H' m md fl tl ul pl F T U P :=
  ⟨e _ _ M.i, e _ _ M.d, e _ _ M.f, e _ _ M.t, e _ _ M.u, e _ _ M.p, M.n1, M.n2, M.n3, M.hu, M.ht, M.tt⟩
theorem MatAt.to {H' : AH} {U' : List Int} {P' : List (Str × AV)} (M : MatAt H m md fl tl ul pl F T U P) (e : ExtC ul pl H H') (hu : H' ul = some (.list (U'.map iAV))) (hp : H' pl = some (.dict P')) (hl : U'.length = U.length) : MatAt H' m md fl tl ul pl F T U' P' :=
  ⟨e _ _ (ne_obj M.i M.u (by simp)) (ne_obj M.i M.p (by simp)) M.i, e _ _ (ne_obj M.d M.u (by simp)) M.n3 M.d, e _ _ M.n1 (ne_obj M.f M.p (by simp)) M.f, e _ _ M.n2 (ne_obj M.t M.p (by simp)) M.t, hu, hp, M.n1, M.n2, M.n3, hl.trans M.hu, M.ht, M.tt⟩
theorem c_tag {v : AV} {s : Str} {Κ : Bool → Prop} (hv : TagOk v) (k : Κ (tagIs v s)) : cmpA .Eq v (.str s) H Κ := by
  rcases hv with rfl | ⟨t, rfl⟩
  · exact k
  · exact k
theorem u_at {j : Nat} (hj : j < U.length) : (U.map iAV)[((j : Nat) : Int).toNat]? = some (.int ((U[j]?).getD 0)) := by
  rw [Int.toNat_natCast, List.getElem?_map, List.getElem?_eq_getElem hj]; rfl

theorem mat_exact_ok (hN : 1 ≤ N) (M : MatAt H m md fl tl ul pl F T U P) (hF : F.length ≤ 4096) {P' : List (Str × AV)} {U' : List Int} (he : exOut T F P U = some (P', U')) (h : ∀ H', ExtC ul pl H H' → MatAt H' m md fl tl ul pl F T U' P' → Φ .none H') :
    Γ TT N (.meth .mat (Str.ofString "exact")) [.ref m] H Φ := by
  refine enter (loc := [(Str.ofString "self", .ref m)]) T_Mat_exact rfl (nl0 hN rfl) rfl rfl ?_
  (refine s_cons ?_)
  refine s_for rfl ?_
  (refine w_attr rfl ?_; refine w_name rfl rfl ?_)
  refine a_attr M.i M.d rfl rfl ?_
  refine for_go (loc₁ := [(Str.ofString "self", .ref m)]) M.f rfl (by simpa using hF) (fun _ _ e => e)
    (fun (d r : List AV) (l : Loc) (H' : AH) => ∃ (fr : List Str) (P1 : List (Str × AV)) (U1 : List Int), l = [(Str.ofString "self", .ref m)] ∧ r = fr.map .str ∧ ExtC ul pl H H' ∧ MatAt H' m md fl tl ul pl F T U1 P1 ∧ exOut T fr P1 U1 = some (P', U'))
    ⟨F, P, U, rfl, rfl, .refl, M, he⟩ (fun d r l H' z0 => by obtain ⟨_, _, _, _, _, _, M', _⟩ := z0; exact M'.f) ?_ ?_
  · rintro d v r l H1 K ⟨fr, P1, U1, rfl, hr, e1, M1, he1⟩ hK
    cases fr with
    | nil => cases hr
    | cons f fr =>
      cases hr
      rw [exOut] at he1
      (refine s_cons ?_; refine s_if ?_; refine t_cmp rfl ?_; refine w_name rfl rfl ?_; refine w_str ?_; refine c_nes ?_)
      by_cases c : f = sEll
      · rw [if_pos c] at he1
        refine iff_ (by rw [c]; rfl) ?_
        (refine s_nil ?_; refine f_next ?_; refine s_nil ?_; refine f_tn ?_)
        exact hK [(Str.ofString "self", .ref m)] _ H1 (.cons rfl .nil) ⟨fr, P1, U1, rfl, rfl, e1, M1, he1⟩
      · rw [if_neg c] at he1
        obtain ⟨s, hs, he2⟩ := Option.bind_eq_some_iff.mp he1
        refine ift (by rw [decide_eq_false (show ¬ f = Str.ofString "..." from c)]; rfl) ?_
        (refine s_cons ?_)
        refine s_for rfl ?_
        (refine w_call rfl ?_; refine w_es1 ?_; refine w_call rfl ?_; refine w_es1 ?_; refine w_attr rfl ?_; refine w_name rfl rfl ?_)
        refine a_attr M1.i M1.d rfl rfl ?_
        (refine w_es0 ?_)
        have ht := M.ht
        refine k_built rfl (q_len M1.t (by omega) ?_)
        (refine w_es0 ?_)
        refine k_built rfl (q_range1 (by omega) (alloc fun rg H2 f2 e2 g2 o2 => ?_))
        have hit := items_range T.length
        have ru : rg ≠ ul := Ne.symm (ne_of M1.u f2)
        have rp : rg ≠ pl := Ne.symm (ne_of M1.p f2)
        refine for_go (loc₁ := [(Str.ofString "self", .ref m), (Str.ofString "name", .str f)]) g2 hit (by simp; omega) (fun _ _ e => e)
          (fun (d r : List AV) (l : Loc) (H' : AH) => ∃ (js : List Nat) (P2 : List (Str × AV)) (U2 : List Int), l = [(Str.ofString "self", .ref m), (Str.ofString "name", .str f)] ∧ r = js.map pAV ∧ (∀ j ∈ js, j < T.length) ∧ ExtC ul pl H2 H' ∧ MatAt H' m md fl tl ul pl F T U2 P2 ∧ exIn T f js P2 U2 = some s)
          ⟨List.range T.length, P1, U1, rfl, rfl, fun j hj => List.mem_range.mp hj, .refl, M1.ext e2, hs⟩ (fun d r l H' z0 => by obtain ⟨_, _, _, _, _, _, e, _⟩ := z0; exact e _ _ ru rp g2) ?_ ?_
        · rintro d2 v r2 l H3 K' ⟨js, P2, U2, rfl, hr2, hj, e3, M3, he3⟩ hK'
          cases js with
          | nil => cases hr2
          | cons j js =>
            cases hr2
            have jl := hj j List.mem_cons_self
            have hj' : ∀ j ∈ js, j < T.length := fun i hi => hj i (List.mem_cons_of_mem _ hi)
            change wpSs _ _ _ (setL _ _ (.int (j : Int))) _ _
            rw [exIn] at he3
            have ju : j < U2.length := by rw [M3.hu]; exact jl
            have ul2 : (U2.map iAV).length ≤ 4096 := by rw [List.length_map, M3.hu]; omega
            have Tj : T[j]? = some T[j] := List.getElem?_eq_getElem jl
            (refine s_cons ?_; refine s_if ?_; refine t_bop ?_; refine t_and1 ?_; refine t_cmp rfl ?_; refine w_sub rfl ?_; refine w_attr rfl ?_; refine w_name rfl rfl ?_)
            refine a_attr M3.i M3.d rfl rfl ?_
            (refine w_name rfl rfl ?_)
            refine i_list M3.t (by omega) (Int.natCast_nonneg j) (by rw [Int.toNat_natCast]; exact Tj) ?_
            (refine w_name rfl rfl ?_)
            refine c_tag (M.tt _ (List.getElem_mem jl)) ?_
            have skip : ∀ lx, LocLe [(Str.ofString "self", .ref m), (Str.ofString "name", .str f)] lx → exIn T f js P2 U2 = some s → K' lx H3 := fun lx hle q => hK' _ lx H3 hle ⟨js, P2, U2, rfl, rfl, hj', e3, M3, q⟩
            cases c1 : tagIs T[j] f with
            | false =>
              have c1' : (tagIs ((T[j]?).getD .none) f && decide ((U2[j]?).getD 0 = 0)) = false := by rw [Tj, Option.getD_some, c1]; rfl
              rw [if_neg (fun z => by rw [c1'] at z; cases z)] at he3
              refine iff_ rfl ?_
              refine iff_ rfl ?_
              (refine s_nil ?_; refine f_next ?_; refine s_nil ?_; refine f_tn ?_)
              exact skip _ (.cons rfl (.cons rfl .nil)) he3
            | true =>
              refine ift rfl ?_
              (refine t_and1 ?_; refine t_cmp rfl ?_; refine w_sub rfl ?_; refine w_attr rfl ?_; refine w_name rfl rfl ?_)
              refine a_attr M3.i M3.d rfl rfl ?_
              (refine w_name rfl rfl ?_)
              refine i_list M3.u ul2 (Int.natCast_nonneg j) (u_at ju) ?_
              (refine w_int ?_; refine c_eqi ?_)
              cases c2 : decide ((U2[j]?).getD 0 = 0) with
              | false =>
                have c2' : (tagIs ((T[j]?).getD .none) f && decide ((U2[j]?).getD 0 = 0)) = false := by rw [c2, Bool.and_false]
                rw [if_neg (fun z => by rw [c2'] at z; cases z)] at he3
                refine iff_ rfl ?_
                refine iff_ rfl ?_
                (refine s_nil ?_; refine f_next ?_; refine s_nil ?_; refine f_tn ?_)
                exact skip _ (.cons rfl (.cons rfl .nil)) he3
              | true =>
                have c2' : (tagIs ((T[j]?).getD .none) f && decide ((U2[j]?).getD 0 = 0)) = true := by rw [Tj, Option.getD_some, c1, c2]; rfl
                rw [if_pos c2'] at he3
                refine ift rfl ?_
                (refine t_and0 ?_)
                refine ift rfl ?_
                (refine s_cons ?_; refine s_if ?_; refine t_cmp rfl ?_; refine w_name rfl rfl ?_; refine w_attr rfl ?_; refine w_name rfl rfl ?_)
                refine a_attr M3.i M3.d rfl rfl ?_
                skip
                refine c_ind M3.p ?_
                by_cases c3 : (getL P2 f).isSome = true ∨ 90 < P2.length
                · rw [if_pos c3] at he3; cases he3
                rw [if_neg c3] at he3
                refine iff_ (by cases q : (getL P2 f).isSome with | true => exact absurd (.inl q) c3 | false => rfl) ?_
                (refine s_nil ?_; refine f_next ?_; refine s_cons ?_; refine s_sub rfl ?_; refine w_name rfl rfl ?_; refine w_attr rfl ?_; refine w_name rfl rfl ?_)
                refine a_attr M3.i M3.d rfl rfl ?_
                (refine w_name rfl rfl ?_)
                refine set_item M3.p (by omega) fun H4 g4 o4 => ?_
                (refine f_next ?_; refine s_cons ?_; refine s_sub rfl ?_; refine w_int ?_; refine w_attr rfl ?_; refine w_name rfl rfl ?_)
                have e4 : ExtC ul pl H3 H4 := fun c o h1 h2 q => (o4 c h2).trans q
                have M4 := M3.to e4 ((o4 _ (ne_obj M3.u M3.p (by simp))).trans M3.u) g4 rfl
                refine a_attr M4.i M4.d rfl rfl ?_
                (refine w_name rfl rfl ?_)
                refine set_at M4.u ul2 (Int.natCast_nonneg j) (by rw [List.length_map]; omega) fun H5 g5 o5 => ?_
                (refine f_next ?_; refine s_nil ?_; refine f_next ?_; refine s_nil ?_; refine f_tn ?_)
                have e5 : ExtC ul pl H4 H5 := fun c o h1 h2 q => (o5 c h1).trans q
                refine hK' [(Str.ofString "self", .ref m), (Str.ofString "name", .str f)] _ H5 (.cons rfl (.cons rfl .nil)) ⟨js, setL P2 f (.int j), U2.set j 2, rfl, rfl, hj', (e3.trans e4).trans e5, M4.to e5 (by rw [g5, Int.toNat_natCast, List.map_set]; rfl) ((o5 _ (Ne.symm (ne_obj M4.u M4.p (by simp)))).trans g4) (by rw [List.length_set]), he3⟩
        · rintro d2 l H3 ⟨js, P2, U2, rfl, hr2, hj, e3, M3, he3⟩
          have : js = [] := by cases js with | nil => rfl | cons => cases hr2
          subst this
          rw [exIn] at he3
          cases he3
          (refine f_next ?_; refine s_nil ?_; refine f_next ?_; refine s_nil ?_; refine f_tn ?_)
          exact hK [(Str.ofString "self", .ref m)] _ H3 (.cons rfl .nil) ⟨fr, P2, U2, rfl, rfl, (e1.ext e2).trans e3, M3, he2⟩
  · rintro d l H1 ⟨fr, P1, U1, rfl, hr, e1, M1, he1⟩
    have : fr = [] := by cases fr with | nil => rfl | cons => cases hr
    subst this
    rw [exOut] at he1
    cases he1
    (refine f_next ?_; refine s_nil ?_; refine f_rn ?_)
    exact h H1 e1 M1
end
section
variable {N : Nat} {H : AH} {Φ : AV → AH → Prop} {m md fl tl ul pl : Addr} {F : List Str} {T : List AV} {U : List Int} {P : List (Str × AV)}
/-- partial matching finds nothing to do -/
noncomputable def NoPar (T : List AV) (U : List Int) : Prop := ∀ j, j < T.length → (U[j]?).getD 0 = 2 ∨ (T[j]?).getD .none = AV.none
theorem mat_partial_of_ok (hN : 1 ≤ N) (M : MatAt H m md fl tl ul pl F T U P) (np : NoPar T U) {f : Str} (h : ∀ H', Ext H H' → Φ .none H') : Γ TT N (.meth .mat (Str.ofString "partial_of")) [.ref m, .str f] H Φ := by
  refine enter (loc := [(Str.ofString "self", .ref m), (Str.ofString "name", .str f)]) T_Mat_partial_of rfl (nl0 hN rfl) rfl rfl ?_
  have ht := M.ht
  (refine s_cons ?_)
  refine s_for rfl ?_
  (refine w_call rfl ?_; refine w_es1 ?_; refine w_call rfl ?_; refine w_es1 ?_; refine w_attr rfl ?_; refine w_name rfl rfl ?_)
  refine a_attr M.i M.d rfl rfl ?_
  (refine w_es0 ?_)
  refine k_built rfl (q_len M.t (by omega) ?_)
  (refine w_es0 ?_)
  refine k_built rfl (q_range1 (by omega) (alloc fun rg H2 f2 e2 g2 o2 => ?_))
  refine for_go (loc₁ := [(Str.ofString "self", .ref m), (Str.ofString "name", .str f)]) g2 (items_range T.length) (by simp; omega) (fun _ _ e => e)
    (fun (d r : List AV) (l : Loc) (H' : AH) => ∃ (js : List Nat), l = [(Str.ofString "self", .ref m), (Str.ofString "name", .str f)] ∧ r = js.map pAV ∧ (∀ j ∈ js, j < T.length) ∧ H' = H2) ⟨_, rfl, rfl, fun j hj => List.mem_range.mp hj, rfl⟩ (fun d r l H' z0 => by obtain ⟨_, _, _, _, e⟩ := z0; rw [e]; exact g2) ?_ ?_
  · rintro d v r l _ K ⟨js, rfl, hr, hj, rfl⟩ hK
    cases js with
    | nil => cases hr
    | cons j js =>
      cases hr
      have jl := hj j List.mem_cons_self
      have hj' : ∀ j ∈ js, j < T.length := fun i hi => hj i (List.mem_cons_of_mem _ hi)
      change wpSs _ _ _ (setL _ _ (.int (j : Int))) _ _
      have M2 := M.ext e2
      have ju : j < U.length := by rw [M.hu]; exact jl
      have Tj : T[j]? = some T[j] := List.getElem?_eq_getElem jl
      (refine s_cons ?_; refine s_set rfl ?_; refine w_sub rfl ?_; refine w_attr rfl ?_; refine w_name rfl rfl ?_)
      refine a_attr M2.i M2.d rfl rfl ?_
      (refine w_name rfl rfl ?_)
      refine i_list M2.t (by omega) (Int.natCast_nonneg j) (by rw [Int.toNat_natCast]; exact Tj) ?_
      (refine f_next ?_; refine s_cons ?_; refine s_if ?_; refine t_bop ?_; refine t_and1 ?_; refine t_cmp rfl ?_; refine w_sub rfl ?_; refine w_attr rfl ?_; refine w_name rfl rfl ?_)
      refine a_attr M2.i M2.d rfl rfl ?_
      (refine w_name rfl rfl ?_)
      refine i_list M2.u (by rw [List.length_map, M.hu]; omega) (Int.natCast_nonneg j) (u_at ju) ?_
      (refine w_int ?_; refine c_nei ?_)
      refine ifs (fun c => ?_) fun c => ?_
      · have c : (U[j]?).getD 0 ≠ 2 := by simpa using c
        have tn : T[j] = .none := by
          rcases np j jl with q | q
          · exact absurd q c
          · rwa [Tj] at q
        (refine t_and1 ?_; refine t_cmp rfl ?_; refine w_name rfl rfl ?_; refine w_none ?_; refine c_isnot ?_)
        rw [tn]
        refine iff_ rfl ?_
        refine iff_ rfl ?_
        (refine s_nil ?_; refine f_next ?_; refine s_nil ?_; refine f_tn ?_)
        exact hK [(Str.ofString "self", .ref m), (Str.ofString "name", .str f)] _ _ (.cons rfl (.cons rfl .nil)) ⟨js, rfl, rfl, hj', rfl⟩
      · refine iff_ rfl ?_
        (refine s_nil ?_; refine f_next ?_; refine s_nil ?_; refine f_tn ?_)
        exact hK [(Str.ofString "self", .ref m), (Str.ofString "name", .str f)] _ _ (.cons rfl (.cons rfl .nil)) ⟨js, rfl, rfl, hj', rfl⟩
  · rintro d l _ ⟨js, rfl, hr, hj, rfl⟩
    (refine f_next ?_; refine s_nil ?_; refine f_rn ?_)
    exact h _ e2
theorem mat_partial_ok (hN : 2 ≤ N) (M : MatAt H m md fl tl ul pl F T U P) (hF : F.length ≤ 4096) (np : NoPar T U) (h : ∀ H', Ext H H' → Φ .none H') : Γ TT N (.meth .mat (Str.ofString "partial")) [.ref m] H Φ := by
  refine enter (loc := [(Str.ofString "self", .ref m)]) T_Mat_partial rfl (nl0 hN rfl) rfl rfl ?_
  (refine s_cons ?_)
  refine s_for rfl ?_
  (refine w_attr rfl ?_; refine w_name rfl rfl ?_)
  refine a_attr M.i M.d rfl rfl ?_
  refine for_go (loc₁ := [(Str.ofString "self", .ref m)]) M.f rfl (by simpa using hF) (fun _ _ e => e)
    (fun (d r : List AV) (l : Loc) (H' : AH) => ∃ (fr : List Str), l = [(Str.ofString "self", .ref m)] ∧ r = fr.map .str ∧ Ext H H') ⟨F, rfl, rfl, .refl _⟩ (fun d r l H' z0 => by obtain ⟨_, _, _, e⟩ := z0; exact e _ _ M.f) ?_ ?_
  · rintro d v r l H1 K ⟨fr, rfl, hr, e1⟩ hK
    cases fr with
    | nil => cases hr
    | cons f fr =>
      cases hr
      have M1 := M.ext e1
      (refine s_cons ?_; refine s_if ?_; refine t_cmp rfl ?_; refine w_name rfl rfl ?_; refine w_str ?_; refine c_eqs ?_)
      refine ifs (fun c => ?_) fun c => ?_
      · (refine s_cons ?_; refine s_ret0 ?_; refine f_ret ?_; refine f_ret ?_; refine f_tr ?_; refine f_ret ?_; refine f_rr ?_)
        exact h H1 e1
      · (refine s_nil ?_; refine f_next ?_; refine s_cons ?_; refine s_if ?_; refine t_cmp rfl ?_; refine w_name rfl rfl ?_; refine w_attr rfl ?_; refine w_name rfl rfl ?_)
        refine a_attr M1.i M1.d rfl rfl ?_
        refine c_nind M1.p ?_
        refine ifs (fun c => ?_) fun c => ?_
        · (refine s_cons ?_; refine s_expr ?_; refine w_meth rfl ?_; refine w_name rfl rfl ?_)
          refine m_mat M1.i M1.d rfl rfl ?_
          (refine w_es1 ?_; refine w_name rfl rfl ?_; refine w_es0 ?_)
          refine mat_partial_of_ok (nl1 hN rfl) M1 np fun H2 e2 => ?_
          (refine f_next ?_; refine s_nil ?_; refine f_next ?_; refine s_nil ?_; refine f_tn ?_)
          exact hK [(Str.ofString "self", .ref m)] _ H2 (.cons rfl .nil) ⟨fr, rfl, rfl, e1.trans e2⟩
        · (refine s_nil ?_; refine f_next ?_; refine s_nil ?_; refine f_tn ?_)
          exact hK [(Str.ofString "self", .ref m)] _ H1 (.cons rfl .nil) ⟨fr, rfl, rfl, e1⟩
  · rintro d l H1 ⟨fr, rfl, hr, e1⟩
    (refine f_next ?_; refine s_nil ?_; refine f_rn ?_)
    exact h H1 e1
theorem mat_is_free_ok (hN : 1 ≤ N) (M : MatAt H m md fl tl ul pl F T U P) {j : Nat} (jl : j < T.length) (h : Φ (.bool (freeAt T U j)) H) : Γ TT N (.meth .mat (Str.ofString "is_free")) [.ref m, .int j] H Φ := by
  refine enter (loc := [(Str.ofString "self", .ref m), (Str.ofString "place", .int j)]) T_Mat_is_free rfl (nl0 hN rfl) rfl rfl ?_
  have ht := M.ht
  have ju : j < U.length := by rw [M.hu]; exact jl
  have Tj : T[j]? = some T[j] := List.getElem?_eq_getElem jl
  unfold freeAt at h
  rw [Tj, Option.getD_some] at h
  (refine s_cons ?_; refine s_ret ?_; refine w_bop ?_; refine b_and ?_; refine w_cmp rfl ?_; refine w_sub rfl ?_; refine w_attr rfl ?_; refine w_name rfl rfl ?_)
  refine a_attr M.i M.d rfl rfl ?_
  (refine w_name rfl rfl ?_)
  refine i_list M.u (by rw [List.length_map, M.hu]; omega) (Int.natCast_nonneg j) (u_at ju) ?_
  (refine w_int ?_; refine c_eqi ?_)
  refine andB_i (ifs (fun c => ?_) fun c => ?_)
  · rw [c, Bool.true_and] at h
    (refine b_one ?_; refine w_bop ?_; refine b_or ?_; refine w_cmp rfl ?_; refine w_sub rfl ?_; refine w_attr rfl ?_; refine w_name rfl rfl ?_)
    refine a_attr M.i M.d rfl rfl ?_
    (refine w_name rfl rfl ?_)
    refine i_list M.t (by omega) (Int.natCast_nonneg j) (by rw [Int.toNat_natCast]; exact Tj) ?_
    (refine w_none ?_; refine c_is ?_)
    refine andB_i (ifs (fun c => ?_) fun c => ?_)
    · rw [c, Bool.true_or] at h
      (refine f_ret ?_; refine f_rr ?_)
      exact h
    · rw [c, Bool.false_or] at h
      (refine b_one ?_; refine w_cmp rfl ?_; refine w_sub rfl ?_; refine w_attr rfl ?_; refine w_name rfl rfl ?_)
      refine a_attr M.i M.d rfl rfl ?_
      (refine w_name rfl rfl ?_)
      refine i_list M.t (by omega) (Int.natCast_nonneg j) (by rw [Int.toNat_natCast]; exact Tj) ?_
      (refine w_str ?_)
      refine c_tag (M.tt _ (List.getElem_mem jl)) ?_
      (refine f_ret ?_; refine f_rr ?_)
      exact h
  · rw [c, Bool.false_and] at h
    (refine f_ret ?_; refine f_rr ?_)
    exact h
theorem mat_positional_ok (hN : 2 ≤ N) (M : MatAt H m md fl tl ul pl F T U P) (hF : F.length ≤ 4096) {P' : List (Str × AV)} {U' : List Int} (he : posF T F 0 P U = some (P', U')) (h : ∀ H', ExtC ul pl H H' → MatAt H' m md fl tl ul pl F T U' P' → Φ .none H') :
    Γ TT N (.meth .mat (Str.ofString "positional")) [.ref m] H Φ := by
  refine enter (loc := [(Str.ofString "self", .ref m)]) T_Mat_positional rfl (nl0 hN rfl) rfl rfl ?_
  have ht := M.ht
  (refine s_cons ?_; refine s_set rfl ?_; refine w_int ?_; refine f_next ?_; refine s_cons ?_)
  refine s_for rfl ?_
  (refine w_attr rfl ?_; refine w_name rfl rfl ?_)
  refine a_attr M.i M.d rfl rfl ?_
  refine for_go (loc₁ := [(Str.ofString "self", .ref m), (Str.ofString "place", .int (0 : Nat))]) M.f rfl (by simpa using hF) (fun _ _ e => e)
    (fun (d r : List AV) (l : Loc) (H' : AH) => ∃ (fr : List Str) (q : Nat) (P1 : List (Str × AV)) (U1 : List Int), l = [(Str.ofString "self", .ref m), (Str.ofString "place", .int q)] ∧ r = fr.map .str ∧ ExtC ul pl H H' ∧ MatAt H' m md fl tl ul pl F T U1 P1 ∧ posF T fr q P1 U1 = some (P', U'))
    ⟨F, 0, P, U, rfl, rfl, .refl, M, he⟩ (fun d r l H' z0 => by obtain ⟨_, _, _, _, _, _, _, M', _⟩ := z0; exact M'.f) ?_ ?_
  · rintro d v r l H1 K ⟨fr, q, P1, U1, rfl, hr, e1, M1, he1⟩ hK
    cases fr with
    | nil => cases hr
    | cons f fr =>
      cases hr
      rw [posF] at he1
      (refine s_cons ?_; refine s_if ?_; refine t_cmp rfl ?_; refine w_name rfl rfl ?_; refine w_str ?_; refine c_eqs ?_)
      by_cases c : f = sEll
      · rw [if_pos c] at he1
        cases he1
        refine ift (by rw [c]; rfl) ?_
        (refine s_cons ?_; refine s_ret0 ?_; refine f_ret ?_; refine f_ret ?_; refine f_tr ?_; refine f_ret ?_; refine f_rr ?_)
        exact h H1 e1 M1
      rw [if_neg c] at he1
      refine iff_ (by rw [decide_eq_false (show ¬ f = Str.ofString "..." from c)]) ?_
      (refine s_nil ?_; refine f_next ?_; refine s_cons ?_; refine s_if ?_; refine t_cmp rfl ?_; refine w_name rfl rfl ?_; refine w_attr rfl ?_; refine w_name rfl rfl ?_)
      refine a_attr M1.i M1.d rfl rfl ?_
      refine c_nind M1.p ?_
      by_cases c2 : (getL P1 f).isSome = true
      · rw [if_pos c2] at he1
        refine iff_ (by rw [c2]; rfl) ?_
        (refine s_nil ?_; refine f_next ?_; refine s_nil ?_; refine f_tn ?_)
        exact hK [(Str.ofString "self", .ref m), (Str.ofString "place", .int q)] _ H1 (.cons rfl (.cons rfl .nil)) ⟨fr, q, P1, U1, rfl, rfl, e1, M1, he1⟩
      rw [if_neg c2] at he1
      refine ift (by rw [Bool.not_eq_true] at c2; rw [c2]; rfl) ?_
      (refine s_cons ?_)
      refine s_while (loc₁ := [(Str.ofString "self", .ref m), (Str.ofString "place", .int q), (Str.ofString "name", .str f)])
        (fun n loc H' => ∃ q' : Nat, loc = [(Str.ofString "self", .ref m), (Str.ofString "place", .int q'), (Str.ofString "name", .str f)] ∧ H' = H1 ∧ n = T.length - q' ∧ skipF T U1 (T.length - q') q' = skipF T U1 (T.length - q) q) (T.length - q) (fun _ _ e => e) ⟨q, rfl, rfl, rfl, rfl⟩ ?_
      rintro n loc _ K2 ⟨q', rfl, rfl, rfl, hsk⟩ hK2
      have fin : (¬ (q' < T.length ∧ freeAt T U1 q' = false)) → skipF T U1 (T.length - q) q = q' := fun z => by
        rw [← hsk]
        cases T.length - q' with
        | zero => rfl
        | succ n => rw [skipF, if_neg z]
      (refine t_bop ?_; refine t_and1 ?_; refine t_cmp rfl ?_; refine w_name rfl rfl ?_; refine w_call rfl ?_; refine w_es1 ?_; refine w_attr rfl ?_; refine w_name rfl rfl ?_)
      refine a_attr M1.i M1.d rfl rfl ?_
      (refine w_es0 ?_)
      refine k_built rfl (q_len M1.t (by omega) ?_)
      (refine c_lti ?_)
      by_cases z : q' < T.length
      · refine ift (decide_eq_true (by omega)) ?_
        (refine t_and1 ?_; refine t_not ?_; refine t_call ?_; refine w_meth rfl ?_; refine w_name rfl rfl ?_)
        refine m_mat M1.i M1.d rfl rfl ?_
        (refine w_es1 ?_; refine w_name rfl rfl ?_; refine w_es0 ?_)
        refine mat_is_free_ok (nl1 hN rfl) M1 z ?_
        (refine f_bool ?_)
        cases z2 : freeAt T U1 q' with
        | false =>
          refine ift rfl ?_
          (refine t_and0 ?_)
          refine ift rfl ?_
          (refine s_cons ?_; refine s_aug rfl rfl ?_; refine w_int ?_; refine f_aug ?_; refine f_next ?_; refine s_nil ?_; refine f_tn ?_)
          refine hK2 (T.length - (q' + 1)) [(Str.ofString "self", .ref m), (Str.ofString "place", .int ((q' + 1 : Nat) : Int)), (Str.ofString "name", .str f)] _ _ (by omega) (.cons rfl (.cons rfl (.cons rfl .nil))) ⟨q' + 1, rfl, rfl, rfl, ?_⟩
          rw [← hsk]
          have : T.length - q' = (T.length - (q' + 1)) + 1 := by omega
          rw [this, skipF, if_pos ⟨z, z2⟩]
        | true =>
          have hq := fin (fun w => by rw [z2] at w; cases w.2)
          rw [hq, if_pos z] at he1
          refine iff_ rfl ?_
          refine iff_ rfl ?_
          (refine f_next ?_; refine s_cons ?_; refine s_if ?_; refine t_cmp rfl ?_; refine w_name rfl rfl ?_; refine w_call rfl ?_; refine w_es1 ?_; refine w_attr rfl ?_; refine w_name rfl rfl ?_)
          refine a_attr M1.i M1.d rfl rfl ?_
          (refine w_es0 ?_)
          refine k_built rfl (q_len M1.t (by omega) ?_)
          (refine c_lti ?_)
          refine ift (decide_eq_true (by omega)) ?_
          (refine s_cons ?_; refine s_sub rfl ?_; refine w_name rfl rfl ?_; refine w_attr rfl ?_; refine w_name rfl rfl ?_)
          refine a_attr M1.i M1.d rfl rfl ?_
          (refine w_name rfl rfl ?_)
          by_cases c3 : 90 < P1.length
          · rw [if_pos c3] at he1; cases he1
          rw [if_neg c3] at he1
          refine set_item M1.p (by omega) fun H4 g4 o4 => ?_
          (refine f_next ?_; refine s_cons ?_; refine s_sub rfl ?_; refine w_int ?_; refine w_attr rfl ?_; refine w_name rfl rfl ?_)
          have e4 : ExtC ul pl _ H4 := fun c o h1 h2 q => (o4 c h2).trans q
          have M4 := M1.to e4 ((o4 _ (ne_obj M1.u M1.p (by simp))).trans M1.u) g4 rfl
          refine a_attr M4.i M4.d rfl rfl ?_
          (refine w_name rfl rfl ?_)
          have hu := M1.hu
          refine set_at M4.u (by rw [List.length_map, M1.hu]; omega) (Int.natCast_nonneg q') (by rw [List.length_map]; omega) fun H5 g5 o5 => ?_
          (refine f_next ?_; refine s_nil ?_; refine f_next ?_; refine s_nil ?_; refine f_next ?_; refine s_nil ?_; refine f_tn ?_)
          have e5 : ExtC ul pl H4 H5 := fun c o h1 h2 q => (o5 c h1).trans q
          exact hK [(Str.ofString "self", .ref m), (Str.ofString "place", .int q')] _ H5 (.cons rfl (.cons rfl .nil)) ⟨fr, q', _, U1.set q' 2, rfl, rfl, (e1.trans e4).trans e5, M4.to e5 (by rw [g5, Int.toNat_natCast, List.map_set]; rfl) ((o5 _ (Ne.symm (ne_obj M4.u M4.p (by simp)))).trans g4) (by rw [List.length_set]), he1⟩
      · have hq := fin (fun w => z w.1)
        rw [hq, if_neg z] at he1
        refine iff_ (decide_eq_false (by omega)) ?_
        refine iff_ rfl ?_
        (refine f_next ?_; refine s_cons ?_; refine s_if ?_; refine t_cmp rfl ?_; refine w_name rfl rfl ?_; refine w_call rfl ?_; refine w_es1 ?_; refine w_attr rfl ?_; refine w_name rfl rfl ?_)
        refine a_attr M1.i M1.d rfl rfl ?_
        (refine w_es0 ?_)
        refine k_built rfl (q_len M1.t (by omega) ?_)
        (refine c_lti ?_)
        refine iff_ (decide_eq_false (by omega)) ?_
        (refine s_nil ?_; refine f_next ?_; refine s_nil ?_; refine f_next ?_; refine s_nil ?_; refine f_tn ?_)
        exact hK [(Str.ofString "self", .ref m), (Str.ofString "place", .int q')] _ _ (.cons rfl (.cons rfl .nil)) ⟨fr, q', P1, U1, rfl, rfl, e1, M1, he1⟩
  · rintro d l H1 ⟨fr, q, P1, U1, rfl, hr, e1, M1, he1⟩
    have : fr = [] := by cases fr with | nil => rfl | cons => cases hr
    subst this
    rw [posF] at he1
    cases he1
    (refine f_next ?_; refine s_nil ?_; refine f_rn ?_)
    exact h H1 e1 M1

noncomputable def restOf (T : List AV) (U : List Int) : List Nat := (List.range T.length).filter fun j => decide ((U[j]?).getD 0 = 0)
theorem mat_rest_ok (hN : 1 ≤ N) (M : MatAt H m md fl tl ul pl F T U P) (h : ∀ a H', Ext H H' → H' a = some (.list ((restOf T U).map pAV)) → Φ (.ref a) H') : Γ TT N (.meth .mat (Str.ofString "rest")) [.ref m] H Φ := by
  refine enter (loc := [(Str.ofString "self", .ref m)]) T_Mat_rest rfl (nl0 hN rfl) rfl rfl ?_
  have ht := M.ht
  (refine s_cons ?_; refine s_ret ?_)
  refine e_comp1 rfl ?_
  (refine w_call rfl ?_; refine w_es1 ?_; refine w_call rfl ?_; refine w_es1 ?_; refine w_attr rfl ?_; refine w_name rfl rfl ?_)
  refine a_attr M.i M.d rfl rfl ?_
  (refine w_es0 ?_)
  refine k_built rfl (q_len M.t (by omega) ?_)
  (refine w_es0 ?_)
  refine k_built rfl (q_range1 (by omega) (alloc fun rg H2 f2 e2 g2 o2 => ?_))
  have M2 := M.ext e2
  refine comp_go (fun v => match v with | .int j => (if decide ((U[j.toNat]?).getD 0 = 0) = true then some v else none) | _ => none) g2 (items_range T.length) (by simp; omega) (fun v hv K hK => ?_) ?_
  · obtain ⟨j, hj, rfl⟩ := List.mem_map.mp hv
    have jl := List.mem_range.mp hj
    have ju : j < U.length := by rw [M.hu]; exact jl
    change wpT _ _ _ (setL _ _ (.int (j : Int))) _ _ _
    (refine t_cmp rfl ?_; refine w_sub rfl ?_; refine w_attr rfl ?_; refine w_name rfl rfl ?_)
    refine a_attr M2.i M2.d rfl rfl ?_
    (refine w_name rfl rfl ?_)
    refine i_list M2.u (by rw [List.length_map, M.hu]; omega) (Int.natCast_nonneg j) (u_at ju) ?_
    (refine w_int ?_; refine c_eqi ?_)
    simp only [pAV, Int.toNat_natCast] at hK
    refine ifs (fun c => ?_) fun c => ?_
    · rw [if_pos c] at hK
      (refine w_name rfl rfl ?_)
      exact hK
    · rw [if_neg (fun z => by rw [c] at z; cases z)] at hK
      exact hK
  · refine alloc fun a H3 f3 e3 g3 o3 => ?_
    (refine f_ret ?_; refine f_rr ?_)
    refine h a H3 (e2.trans e3) ?_
    rw [g3, List.filterMap_map, restOf]
    congr 2
    generalize List.range T.length = l
    induction l with
    | nil => rfl
    | cons j r ih =>
      simp only [List.filterMap_cons, Function.comp, pAV, Int.toNat_natCast, List.filter_cons]
      by_cases c : (U[j]?).getD 0 = 0
      · rw [if_pos (decide_eq_true c), if_pos (decide_eq_true c), List.map_cons]; exact congrArg _ ih
      · rw [if_neg (fun z => c (of_decide_eq_true z)), if_neg (fun z => c (of_decide_eq_true z))]; exact ih
end
/-- the arguments of a call: a list of pairs -/
noncomputable def ArgsAt (H : AH) (al : Addr) (as : List (AV × AV)) : Prop := ∃ rs : List AV, H al = some (.list rs) ∧ rs.length = as.length ∧ ∀ (i : Nat) (q : AV × AV), as[i]? = some q → ∃ a : Addr, rs[i]? = some (AV.ref a) ∧ H a = some (AO.tuple [q.1, q.2])
theorem ArgsAt.ext {H H' : AH} {al : Addr} {as : List (AV × AV)} (A : ArgsAt H al as) (e : Ext H H') : ArgsAt H' al as := by
  obtain ⟨rs, h1, h2, h3⟩ := A
  exact ⟨rs, e _ _ h1, h2, fun i q h => by obtain ⟨a, q1, q2⟩ := h3 i q h; exact ⟨a, q1, e _ _ q2⟩⟩
theorem args1 {H : AH} {al t1 : Addr} {a1 b1 : AV} (g : H al = some (.list [.ref t1])) (h1 : H t1 = some (.tuple [a1, b1])) : ArgsAt H al [(a1, b1)] := ⟨_, g, rfl, fun i q hq => by
  match i, hq with
  | 0, hq => cases hq; exact ⟨t1, rfl, h1⟩⟩
theorem args2 {H : AH} {al t1 t2 : Addr} {a1 b1 a2 b2 : AV} (g : H al = some (.list [.ref t1, .ref t2])) (h1 : H t1 = some (.tuple [a1, b1])) (h2 : H t2 = some (.tuple [a2, b2])) : ArgsAt H al [(a1, b1), (a2, b2)] := ⟨_, g, rfl, fun i q hq => by
  match i, hq with
  | 0, hq => cases hq; exact ⟨t1, rfl, h1⟩
  | 1, hq => cases hq; exact ⟨t2, rfl, h2⟩⟩
theorem args3 {H : AH} {al t1 t2 t3 : Addr} {a1 b1 a2 b2 a3 b3 : AV} (g : H al = some (.list [.ref t1, .ref t2, .ref t3])) (h1 : H t1 = some (.tuple [a1, b1])) (h2 : H t2 = some (.tuple [a2, b2])) (h3 : H t3 = some (.tuple [a3, b3])) : ArgsAt H al [(a1, b1), (a2, b2), (a3, b3)] := ⟨_, g, rfl, fun i q hq => by
  match i, hq with
  | 0, hq => cases hq; exact ⟨t1, rfl, h1⟩
  | 1, hq => cases hq; exact ⟨t2, rfl, h2⟩
  | 2, hq => cases hq; exact ⟨t3, rfl, h3⟩⟩
theorem len3 {vs : List AV} (h : vs.length = 3) : ∃ a b c, vs = [a, b, c] := by
  match vs, h with
  | [a, b, c], _ => exact ⟨a, b, c, rfl⟩
theorem len4 {vs : List AV} (h : vs.length = 4) : ∃ a b c d, vs = [a, b, c, d] := by
  match vs, h with
  | [a, b, c, d], _ => exact ⟨a, b, c, d, rfl⟩
noncomputable def fstOf (H : AH) : AV → Option AV := fun v => match v with
  | .ref a => (match H a with | some (.tuple (t :: _)) => some t | _ => none)
  | _ => none
theorem fst_map {H : AH} : ∀ (rs : List AV) (as : List (AV × AV)), rs.length = as.length → (∀ (i : Nat) (q : AV × AV), as[i]? = some q → ∃ a : Addr, rs[i]? = some (AV.ref a) ∧ H a = some (AO.tuple [q.1, q.2])) → rs.filterMap (fstOf H) = as.map (·.1)
  | [], [], _, _ => rfl
  | [], _ :: _, h, _ => nomatch h
  | _ :: _, [], h, _ => nomatch h
  | u :: rs, q :: as, h, k => by
    obtain ⟨a, q1, q2⟩ := k 0 q rfl
    cases q1
    have e : fstOf H (.ref a) = some q.1 := by unfold fstOf; simp only [q2]
    rw [List.filterMap_cons_some e, fst_map rs as (Nat.succ.inj h) fun i q hq => k (i + 1) q hq]
    rfl
section
variable {N : Nat} {H : AH} {Φ : AV → AH → Prop}
/-- the matching as a whole -/
noncomputable def matchF (F : List Str) (T : List AV) : Option (List (Str × AV) × List Nat) :=
  (exOut T F [] (List.replicate T.length 0)).bind fun s => if (∀ j, j < T.length → (s.2[j]?).getD 0 = 2 ∨ isNone ((T[j]?).getD .none) = true) then (posF T F 0 s.1 s.2).bind fun s' => if restOf T s'.2 = [] ∨ sEll ∈ F then some (s'.1, restOf T s'.2) else none else none
theorem memA_map (s : Str) : ∀ F : List Str, memA s (F.map .str) = some (decide (s ∈ F))
  | [] => rfl
  | f :: F => by
    rw [List.map_cons, memA, memA_map s F]
    show some (decide (f = s) || decide (s ∈ F)) = _
    refine congrArg some ?_
    by_cases h : s = f
    · subst h; simp
    · have h' : f ≠ s := fun q => h q.symm
      simp [h, h']
theorem mat_new_ok (hN : 1 ≤ N) {fl tl : Addr} {F : List Str} {T : List AV} (hf : H fl = some (.list (F.map .str))) (ht : H tl = some (.list T)) (hT : T.length ≤ 90) (tt : ∀ v ∈ T, TagOk v)
    (h : ∀ m md ul pl H', H ul = none → H pl = none → Ext H H' → MatAt H' m md fl tl ul pl F T (List.replicate T.length 0) [] → Φ (.ref m) H') : callA (Γ TT N) sMatching [.ref fl, .ref tl] H Φ := by
  refine k_cls rfl rfl fun m md H0 hx hd hn hi hd0 ho => ?_
  refine enter (loc := [(Str.ofString "self", .ref m), (Str.ofString "formals", .ref fl), (Str.ofString "tags", .ref tl)]) T_Mat_init rfl hN rfl rfl ?_
  (refine s_cons ?_; refine s_attr ?_; refine w_name rfl rfl ?_; refine w_name rfl rfl ?_)
  refine set_attr hi hd0 rfl (by simp) fun H1 i1 d1 o1 => ?_
  (refine f_next ?_; refine s_cons ?_; refine s_attr ?_; refine w_name rfl rfl ?_; refine w_name rfl rfl ?_)
  refine set_attr i1 d1 rfl (Nat.le_of_ble_eq_true rfl) fun H2 i2 d2 o2 => ?_
  have out : ∀ b o, H b = some o → H2 b = some o := fun b o e => ((o2 b (ne_of e hd)).trans (o1 b (ne_of e hd))).trans ((ho b (ne_of e hx) (ne_of e hd)).trans e)
  (refine f_next ?_; refine s_cons ?_; refine s_attr ?_; refine w_bin ?_; refine w_list ?_; refine w_es1 ?_; refine w_int ?_; refine w_es0 ?_)
  refine ⟨by simp, alloc fun zl H3 f3 e3 g3 o3 => ?_⟩
  (refine w_call rfl ?_; refine w_es1 ?_; refine w_name rfl rfl ?_; refine w_es0 ?_)
  refine k_built rfl (q_len (e3 _ _ (out _ _ ht)) (by omega) ?_)
  refine ⟨_, g3, by omega, by omega, alloc fun ul H4 f4 e4 g4 o4 => ?_⟩
  have dul : md ≠ ul := ne_of (e3 _ _ d2) f4
  (refine w_name rfl rfl ?_)
  refine set_attr (e4 _ _ (e3 _ _ i2)) (e4 _ _ (e3 _ _ d2)) rfl (Nat.le_of_ble_eq_true rfl) fun H5 i5 d5 o5 => ?_
  (refine f_next ?_; refine s_cons ?_; refine s_attr ?_; refine w_dict0 ?_)
  refine alloc fun pl H6 f6 e6 g6 o6 => ?_
  have dpl : md ≠ pl := ne_of d5 f6
  (refine w_name rfl rfl ?_)
  refine set_attr (e6 _ _ i5) (e6 _ _ d5) rfl (Nat.le_of_ble_eq_true rfl) fun H7 i7 d7 o7 => ?_
  (refine f_next ?_; refine s_nil ?_; refine f_rn ?_)
  have oo : Ext H H7 := fun b o e => by
    have h1 := ne_of e hd
    exact (o7 b h1).trans (e6 _ _ ((o5 b h1).trans (e4 _ _ (e3 _ _ (out b o e)))))
  have nu : H ul = none := by
    cases q : H ul with
    | none => rfl
    | some o => have := e3 _ _ (out _ _ q); rw [f4] at this; cases this
  have np : H pl = none := by
    cases q : H pl with
    | none => rfl
    | some o => have := (o5 pl (ne_of q hd)).trans (e4 _ _ (e3 _ _ (out _ _ q))); rw [f6] at this; cases this
  refine ⟨rfl, h m md ul pl H7 nu np oo ⟨i7, d7, oo _ _ hf, oo _ _ ht, (o7 _ (Ne.symm dul)).trans (e6 _ _ ((o5 _ (Ne.symm dul)).trans ?_)), (o7 _ (Ne.symm dpl)).trans g6, ne_of hf nu, ne_of ht nu, dpl, by simp, hT, tt⟩⟩
  rw [g4]
  simp [iAV]
theorem match_names_ok (hN : 4 ≤ N) {fl al : Addr} {F : List Str} {as : List (AV × AV)} {P : List (Str × AV)} {R : List Nat} (hf : H fl = some (.list (F.map .str))) (ha : ArgsAt H al as) (hF : F.length ≤ 90) (has : as.length ≤ 90) (tt : ∀ q ∈ as, TagOk q.1) (hm : matchF F (as.map (·.1)) = some (P, R))
    (h : ∀ t pl rl H', Ext H H' → H' t = some (.tuple [.ref pl, .ref rl]) → H' pl = some (.dict P) → H' rl = some (.list (R.map pAV)) → Φ (.ref t) H') : Γ TT N (.fn (Str.ofString "match_names")) [.ref fl, .ref al, .none] H Φ := by
  refine enter (loc := [(Str.ofString "formals", .ref fl), (Str.ofString "args", .ref al), (Str.ofString "show", .none)]) T_match_names rfl (nl0 hN rfl) rfl rfl ?_
  obtain ⟨rs, h1, h2, h3⟩ := ha
  (refine s_cons ?_; refine s_set rfl ?_; refine w_call rfl ?_; refine w_es1 ?_; refine w_name rfl rfl ?_; refine w_es1 ?_)
  refine e_comp0 rfl ?_
  (refine w_name rfl rfl ?_)
  refine comp_go (fstOf H) h1 rfl (by omega) (fun v hv K hK => ?_) ?_
  · obtain ⟨i, hi, rfl⟩ := List.getElem_of_mem hv
    obtain ⟨a, q1, q2⟩ := h3 i _ (List.getElem?_eq_getElem (by omega))
    rw [List.getElem?_eq_getElem hi] at q1
    have q1 := Option.some.inj q1
    rw [q1] at hK ⊢
    (refine w_sub rfl ?_; refine w_name rfl rfl ?_; refine w_int ?_)
    refine i_tuple q2 (by simp) (by decide) rfl ?_
    unfold fstOf at hK
    simp only [q2] at hK
    exact hK
  have hmap := fst_map rs as h2 h3
  rw [hmap]
  refine alloc fun tl H1 f1 e1 g1 o1 => ?_
  (refine w_es0 ?_)
  refine mat_new_ok (nl1 hN rfl) (e1 _ _ hf) g1 (by simpa using has) (fun v hv => by obtain ⟨q, hq, rfl⟩ := List.mem_map.mp hv; exact tt q hq) fun m md ul pl H2 nu np e2 M => ?_
  (refine f_next ?_; refine s_cons ?_; refine s_expr ?_; refine w_meth rfl ?_; refine w_name rfl rfl ?_)
  have nu0 := e1.no nu
  have np0 := e1.no np
  unfold matchF at hm
  obtain ⟨⟨P1, U1⟩, hx, hm⟩ := Option.bind_eq_some_iff.mp hm
  split at hm
  case isFalse => cases hm
  rename_i hpar
  obtain ⟨⟨P2, U2⟩, hp, hm⟩ := Option.bind_eq_some_iff.mp hm
  split at hm
  case isFalse => cases hm
  rename_i hrest
  cases hm
  refine m_mat M.i M.d rfl rfl ?_
  (refine w_es0 ?_)
  refine mat_exact_ok (nl1 hN rfl) M (by omega) hx fun H3 e3 M3 => ?_
  (refine f_next ?_; refine s_cons ?_; refine s_expr ?_; refine w_meth rfl ?_; refine w_name rfl rfl ?_)
  refine m_mat M3.i M3.d rfl rfl ?_
  (refine w_es0 ?_)
  refine mat_partial_ok (nl1 hN rfl) M3 (by omega) (fun j hj => ?_) fun H4 e4 => ?_
  · rcases hpar j hj with q | q
    · exact .inl q
    · right
      revert q
      cases (((as.map (·.1))[j]?).getD AV.none) with
      | none => exact fun _ => rfl
      | bool b => exact fun q => nomatch q
      | int b => exact fun q => nomatch q
      | str b => exact fun q => nomatch q
      | ref b => exact fun q => nomatch q
  have M4 := M3.ext e4
  (refine f_next ?_; refine s_cons ?_; refine s_expr ?_; refine w_meth rfl ?_; refine w_name rfl rfl ?_)
  refine m_mat M4.i M4.d rfl rfl ?_
  (refine w_es0 ?_)
  refine mat_positional_ok (nl1 hN rfl) M4 (by omega) hp fun H5 e5 M5 => ?_
  have e05 : Ext H H5 := e5.out ((e3.out (e1.trans e2) nu0 np0).trans e4) nu0 np0
  (refine f_next ?_; refine s_cons ?_; refine s_set rfl ?_; refine w_meth rfl ?_; refine w_name rfl rfl ?_)
  refine m_mat M5.i M5.d rfl rfl ?_
  (refine w_es0 ?_)
  refine mat_rest_ok (nl1 hN rfl) M5 fun rl H6 e6 g6 => ?_
  have M6 := M5.ext e6
  (refine f_next ?_; refine s_cons ?_; refine s_if ?_; refine t_bop ?_; refine t_and1 ?_; refine t_cmp rfl ?_; refine w_call rfl ?_; refine w_es1 ?_; refine w_name rfl rfl ?_; refine w_es0 ?_)
  have hrl : ((restOf (as.map (·.1)) U2).map pAV).length ≤ 4096 := by
    rw [List.length_map, restOf]
    have := List.length_filter_le (fun j => decide ((U2[j]?).getD 0 = 0)) (List.range (as.map (·.1)).length)
    rw [List.length_range] at this
    have hl : (as.map (·.1)).length ≤ 90 := by simpa using has
    omega
  refine k_built rfl (q_len g6 hrl ?_)
  (refine w_int ?_; refine c_gti ?_)
  have fin : ∀ G : GT, ∀ t H7, Ext H6 H7 → H7 t = some (.tuple [.ref pl, .ref rl]) → Φ (.ref t) H7 := fun _ t H7 e7 g7 => h t pl rl H7 (e05.trans (e6.trans e7)) g7 (e7 _ _ M6.p) (e7 _ _ g6)
  by_cases z : restOf (as.map (·.1)) U2 = []
  · refine iff_ (by rw [z]; rfl) ?_
    refine iff_ rfl ?_
    (refine s_nil ?_; refine f_next ?_; refine s_cons ?_; refine s_ret ?_; refine w_tuple ?_; refine w_es1 ?_; refine w_attr rfl ?_; refine w_name rfl rfl ?_)
    refine a_attr M6.i M6.d rfl rfl ?_
    (refine w_es1 ?_; refine w_name rfl rfl ?_; refine w_es0 ?_)
    refine ⟨by simp, alloc fun t H7 f7 e7 g7 o7 => ?_⟩
    (refine f_ret ?_; refine f_rr ?_)
    exact fin (Γ TT N) t H7 e7 g7
  · refine ifs (fun c => ?_) fun c => ?_
    · (refine t_and1 ?_; refine t_cmp rfl ?_; refine w_str ?_; refine w_name rfl rfl ?_)
      refine c_ninl (e6 _ _ (e05 _ _ hf)) (memA_map _ F) ?_
      refine iff_ (by rw [decide_eq_true (show Str.ofString "..." ∈ F from hrest.resolve_left z)]; rfl) ?_
      refine iff_ rfl ?_
      (refine s_nil ?_; refine f_next ?_; refine s_cons ?_; refine s_ret ?_; refine w_tuple ?_; refine w_es1 ?_; refine w_attr rfl ?_; refine w_name rfl rfl ?_)
      refine a_attr M6.i M6.d rfl rfl ?_
      (refine w_es1 ?_; refine w_name rfl rfl ?_; refine w_es0 ?_)
      refine ⟨by simp, alloc fun t H7 f7 e7 g7 o7 => ?_⟩
      (refine f_ret ?_; refine f_rr ?_)
      exact fin (Γ TT N) t H7 e7 g7
    · refine iff_ rfl ?_
      (refine s_nil ?_; refine f_next ?_; refine s_cons ?_; refine s_ret ?_; refine w_tuple ?_; refine w_es1 ?_; refine w_attr rfl ?_; refine w_name rfl rfl ?_)
      refine a_attr M6.i M6.d rfl rfl ?_
      (refine w_es1 ?_; refine w_name rfl rfl ?_; refine w_es0 ?_)
      refine ⟨by simp, alloc fun t H7 f7 e7 g7 o7 => ?_⟩
      (refine f_ret ?_; refine f_rr ?_)
      exact fin (Γ TT N) t H7 e7 g7
end
/-- what take gives for one formal -/
noncomputable def TakeAt (z : Addr) (H : AH) (P : List (Str × AV)) (R : List Nat) (rs : List AV) (as : List (AV × AV)) (f : Str) (v : AV) : Prop :=
  if f = sEll then ∃ ra : Addr, v = .ref ra ∧ ra ≠ z ∧ H ra = some (.list (sel rs R)) else match getL P f with
    | some (.int j) => ∃ q, as[j.toNat]? = some q ∧ v = q.2
    | some _ => False
    | none => v = .none
noncomputable def TakeAll (z : Addr) (H : AH) (P : List (Str × AV)) (R : List Nat) (rs : List AV) (as : List (AV × AV)) : List Str → List AV → Prop
  | [], [] => True
  | f :: F, v :: vs => TakeAt z H P R rs as f v ∧ TakeAll z H P R rs as F vs
  | _, _ => False
section
variable {N : Nat} {z : Addr} {H : AH} {Φ : AV → AH → Prop} {P : List (Str × AV)} {R : List Nat} {rs : List AV} {as : List (AV × AV)}
theorem TakeAt.ext {H' : AH} {f : Str} {v : AV} (t : TakeAt z H P R rs as f v) (e : ExtB z H H') : TakeAt z H' P R rs as f v := by
  unfold TakeAt at t ⊢
  split
  · rename_i c
    rw [if_pos c] at t
    obtain ⟨ra, h1, h2, h3⟩ := t
    exact ⟨ra, h1, h2, e _ _ h2 h3⟩
  · rename_i c
    rw [if_neg c] at t
    exact t
theorem TakeAll.ext {H' : AH} (e : ExtB z H H') : ∀ {F : List Str} {vs : List AV}, TakeAll z H P R rs as F vs → TakeAll z H' P R rs as F vs
  | [], [], _ => trivial
  | _ :: _, _ :: _, t => ⟨t.1.ext e, t.2.ext e⟩
theorem TakeAll.snoc {f : Str} {v : AV} (k : TakeAt z H P R rs as f v) : ∀ {F : List Str} {vs : List AV}, TakeAll z H P R rs as F vs → TakeAll z H P R rs as (F ++ [f]) (vs ++ [v])
  | [], [], _ => ⟨k, trivial⟩
  | _ :: _, _ :: _, t => ⟨t.1, t.2.snoc k⟩
theorem TakeAll.len : ∀ {F : List Str} {vs : List AV}, TakeAll z H P R rs as F vs → vs.length = F.length
  | [], [], _ => rfl
  | _ :: _, _ :: _, t => congrArg (· + 1) t.2.len

theorem u_tuple {a : Addr} {vs : List AV} {n : Nat} {Κ : List AV → Prop} (h : H a = some (.tuple vs)) (hl : vs.length = n) (k : Κ vs) : unpackA (.ref a) n H Κ := by
  unfold unpackA; dsimp only; rw [h]; exact ⟨hl, k⟩
theorem u_list {a : Addr} {vs : List AV} {n : Nat} {Κ : List AV → Prop} (h : H a = some (.list vs)) (hl : vs.length = n) (k : Κ vs) : unpackA (.ref a) n H Κ := by
  unfold unpackA; dsimp only; rw [h]; exact ⟨hl, k⟩
theorem take_ok (hN : 5 ≤ N) {fl al : Addr} {F : List Str} (hf : H fl = some (.list (F.map .str))) (h1 : H al = some (.list rs)) (h2 : rs.length = as.length) (h3 : ∀ (i : Nat) (q : AV × AV), as[i]? = some q → ∃ a : Addr, rs[i]? = some (AV.ref a) ∧ H a = some (AO.tuple [q.1, q.2]))
    (hF : F.length ≤ 90) (has : as.length ≤ 90) (tt : ∀ q ∈ as, TagOk q.1) (hm : matchF F (as.map (·.1)) = some (P, R)) (hP : ∀ f ∈ F, f ≠ sEll → (getL P f = none ∨ ∃ j : Nat, getL P f = some (.int j) ∧ j < as.length)) (hR : ∀ j ∈ R, j < as.length) (hRl : R.length ≤ 4096)
    (h : ∀ a vs H', Ext H H' → H' a = some (.list vs) → TakeAll a H' P R rs as F vs → Φ (.ref a) H') : Γ TT N (.fn (Str.ofString "take")) [.ref al, .ref fl] H Φ := by
  refine enter (loc := [(Str.ofString "args", .ref al), (Str.ofString "formals", .ref fl), (Str.ofString "show", .none)]) T_take rfl (nl0 hN rfl) rfl rfl ?_
  (refine s_cons ?_; refine s_unpack rfl rfl ?_; refine w_call rfl ?_; refine w_es1 ?_; refine w_call rfl ?_; refine w_es1 ?_; refine w_name rfl rfl ?_; refine w_es0 ?_)
  refine k_built rfl (q_list hf (by simp; omega) (alloc fun fl' H1 f1 e1 g1 o1 => ?_))
  (refine w_es1 ?_; refine w_name rfl rfl ?_; refine w_es1 ?_; refine w_name rfl rfl ?_; refine w_es0 ?_)
  refine k_fn rfl (match_names_ok (as := as) (nl1 hN rfl) g1 (ArgsAt.ext ⟨rs, h1, h2, h3⟩ e1) hF has tt hm fun t pl rl H2 e2 g2 gp gr => ?_)
  refine u_tuple g2 rfl ?_
  have e12 := e1.trans e2
  (refine f_next ?_; refine s_cons ?_; refine s_set rfl ?_; refine w_list ?_; refine w_es0 ?_)
  refine ⟨by simp, alloc fun vl H3 f3 e3 g3 o3 => ?_⟩
  have fv : H vl = none := e12.no f3
  have npv : pl ≠ vl := ne_of gp f3
  have nrv : rl ≠ vl := ne_of gr f3
  (refine f_next ?_; refine s_cons ?_)
  refine s_for rfl ?_
  (refine w_name rfl rfl ?_)
  refine for_go (loc₁ := [(Str.ofString "args", .ref al), (Str.ofString "formals", .ref fl), (Str.ofString "places", .ref pl), (Str.ofString "rest", .ref rl), (Str.ofString "values", .ref vl)]) ((e12.trans e3) _ _ hf) rfl (by simp; omega) (.cons rfl (.cons rfl (.cons rfl (.cons rfl (.cons rfl .nil)))))
    (fun (d r : List AV) (l : Loc) (H' : AH) => ∃ (fd fr : List Str) (vs : List AV), l = [(Str.ofString "args", .ref al), (Str.ofString "formals", .ref fl), (Str.ofString "places", .ref pl), (Str.ofString "rest", .ref rl), (Str.ofString "values", .ref vl)] ∧ r = fr.map .str ∧ fd ++ fr = F ∧ ExtB vl H3 H' ∧ H' vl = some (.list vs) ∧ TakeAll vl H' P R rs as fd vs)
    ⟨[], F, [], rfl, rfl, rfl, .refl, g3, trivial⟩ (fun d r l H' z0 => by obtain ⟨_, _, _, _, _, _, e, _⟩ := z0; exact e _ _ (ne_of hf fv) ((e12.trans e3) _ _ hf)) ?_ ?_
  · rintro d v r l H4 K ⟨fd, fr, vs, rfl, hr, hfd, e4, g4, TA⟩ hK
    cases fr with
    | nil => cases hr
    | cons f fr =>
      cases hr
      have fm : f ∈ F := by rw [← hfd]; simp
      have vl4 : vs.length ≤ 4096 := by
        rw [TA.len]
        have := congrArg List.length hfd
        simp at this
        omega
      have e04 : Ext H H4 := e4.out (e12.trans e3) fv
      have next : ∀ lx H5 H6 v, LocLe [(Str.ofString "args", .ref al), (Str.ofString "formals", .ref fl), (Str.ofString "places", .ref pl), (Str.ofString "rest", .ref rl), (Str.ofString "values", .ref vl)] lx → Ext H4 H5 → TakeAt vl H5 P R rs as f v → H6 vl = some (.list (vs ++ [v])) → (∀ b, b ≠ vl → H6 b = H5 b) → K lx H6 := fun lx H5 H6 v hle e5 ta g6 o6 => by
        refine hK _ lx H6 hle ⟨fd ++ [f], fr, vs ++ [v], rfl, rfl, by simp [hfd], (e4.ext e5).set o6, g6, ?_⟩
        have up : ExtB vl H5 H6 := fun b o h q => (o6 b h).trans q
        exact (TA.ext (fun b o _ q => up b o ‹_› (e5 _ _ q))).snoc (ta.ext up)
      (refine s_cons ?_; refine s_if ?_; refine t_cmp rfl ?_; refine w_name rfl rfl ?_; refine w_str ?_; refine c_eqs ?_)
      refine ifs (fun c => ?_) fun c => ?_
      · have c : f = sEll := of_decide_eq_true c
        (refine s_cons ?_; refine s_expr ?_; refine w_meth rfl ?_; refine w_name rfl rfl ?_)
        refine m_append g4 ?_
        (refine w_es1 ?_)
        refine e_comp0 rfl ?_
        (refine w_name rfl rfl ?_)
        refine comp_go (selF rs) (e4 _ _ nrv (e3 _ _ gr)) rfl (by simpa using hRl) (fun v hv K hK => ?_) ?_
        · obtain ⟨p, hpm, rfl⟩ := List.mem_map.mp hv
          have hlt : p < rs.length := by rw [h2]; exact hR p hpm
          (refine w_sub rfl ?_; refine w_name rfl rfl ?_; refine w_name rfl rfl ?_)
          refine i_list (e04 _ _ h1) (by omega) (by show (0 : Int) ≤ (p : Int); omega) (List.getElem?_eq_getElem (by show (p : Int).toNat < _; simpa using hlt)) ?_
          have e : selF rs (pAV p) = some (rs[((p : Int)).toNat]'(by simpa using hlt)) := List.getElem?_eq_getElem (by simpa using hlt)
          rw [e] at hK
          exact hK
        rw [sel_map]
        refine alloc fun ra H5 f5 e5 g5 o5 => ?_
        (refine w_es0 ?_)
        refine push (e5 _ _ g4) vl4 fun H6 g6 o6 => ?_
        (refine f_next ?_; refine s_nil ?_; refine f_next ?_; refine s_nil ?_; refine f_tn ?_)
        exact next _ H5 H6 _ (.cons rfl (.cons rfl (.cons rfl (.cons rfl (.cons rfl .nil))))) e5 (by unfold TakeAt; rw [if_pos c]; exact ⟨ra, rfl, Ne.symm (ne_of g4 f5), g5⟩) g6 o6
      · have c : ¬ f = sEll := of_decide_eq_false c
        (refine s_cons ?_; refine s_if ?_; refine t_cmp rfl ?_; refine w_name rfl rfl ?_; refine w_name rfl rfl ?_)
        refine c_ind (e4 _ _ npv (e3 _ _ gp)) ?_
        rcases hP f fm c with q | ⟨j, q, jl⟩
        · refine iff_ (by rw [q]; rfl) ?_
          (refine s_cons ?_; refine s_expr ?_; refine w_meth rfl ?_; refine w_name rfl rfl ?_)
          refine m_append g4 ?_
          (refine w_es1 ?_; refine w_none ?_; refine w_es0 ?_)
          refine push g4 vl4 fun H6 g6 o6 => ?_
          (refine f_next ?_; refine s_nil ?_; refine f_next ?_; refine s_nil ?_; refine f_next ?_; refine s_nil ?_; refine f_tn ?_)
          exact next _ H4 H6 _ (.cons rfl (.cons rfl (.cons rfl (.cons rfl (.cons rfl .nil))))) (.refl _) (by unfold TakeAt; rw [if_neg c, q]) g6 o6
        · refine ift (by rw [q]; rfl) ?_
          obtain ⟨a, q1, q2⟩ := h3 j _ (List.getElem?_eq_getElem jl)
          (refine s_cons ?_; refine s_expr ?_; refine w_meth rfl ?_; refine w_name rfl rfl ?_)
          refine m_append g4 ?_
          (refine w_es1 ?_; refine w_sub rfl ?_; refine w_sub rfl ?_; refine w_name rfl rfl ?_; refine w_sub rfl ?_; refine w_name rfl rfl ?_; refine w_name rfl rfl ?_)
          refine i_dict (e4 _ _ npv (e3 _ _ gp)) q ?_
          refine i_list (e04 _ _ h1) (by omega) (Int.natCast_nonneg j) (by rw [Int.toNat_natCast]; exact q1) ?_
          (refine w_int ?_)
          refine i_tuple (e04 _ _ q2) (by simp) (by decide) rfl ?_
          (refine w_es0 ?_)
          refine push g4 vl4 fun H6 g6 o6 => ?_
          (refine f_next ?_; refine s_nil ?_; refine f_next ?_; refine s_nil ?_; refine f_next ?_; refine s_nil ?_; refine f_tn ?_)
          exact next _ H4 H6 _ (.cons rfl (.cons rfl (.cons rfl (.cons rfl (.cons rfl .nil))))) (.refl _) (by unfold TakeAt; rw [if_neg c, q]; exact ⟨_, by rw [Int.toNat_natCast]; exact List.getElem?_eq_getElem jl, rfl⟩) g6 o6
  · rintro d l H4 ⟨fd, fr, vs, rfl, hr, hfd, e4, g4, TA⟩
    have : fr = [] := by cases fr with | nil => rfl | cons => cases hr
    subst this
    rw [List.append_nil] at hfd
    subst hfd
    (refine f_next ?_; refine s_cons ?_; refine s_ret ?_; refine w_name rfl rfl ?_; refine f_ret ?_; refine f_rr ?_)
    exact h vl vs H4 (e4.out (e12.trans e3) fv) g4 TA
end
noncomputable def argV (P : List (Str × AV)) (as : List (AV × AV)) (f : Str) : AV := match getL P f with
  | some (.int j) => ((as[j.toNat]?).map (·.2)).getD .none
  | _ => .none
theorem take_arg {z : Addr} {H : AH} {P : List (Str × AV)} {R : List Nat} {rs : List AV} {as : List (AV × AV)} {f : Str} {v : AV} (hf : decide (f = sEll) = false) (t : TakeAt z H P R rs as f v) : v = argV P as f := by
  unfold TakeAt at t
  rw [if_neg (of_decide_eq_false hf)] at t
  unfold argV
  split at t
  · rename_i j e
    obtain ⟨q, h1, rfl⟩ := t
    rw [e]
    dsimp only
    rw [h1]; rfl
  · exact t.elim
  · rename_i e
    rw [e]; exact t
/-- a flag as the caller gives it: nothing, or a vector of one truth -/
noncomputable def FlagAt (H : AH) (v d r : AV) : Prop := (v = .none ∧ r = d) ∨ ∃ x dx it f sh lo, v = .ref x ∧ VecAt H x dx (Str.ofString "logical") it [f] .none sh lo ∧ (f = .none ∨ ∃ i, f = .int i) ∧ r = flagV f
theorem FlagAt.ext {H H' : AH} {v d r : AV} (F : FlagAt H v d r) (e : Ext H H') : FlagAt H' v d r := by
  rcases F with q | ⟨x, dx, it, f, sh, lo, h1, h2, h3, h4⟩
  · exact .inl q
  · exact .inr ⟨x, dx, it, f, sh, lo, h1, h2.ext e, h3, h4⟩
section
variable {N : Nat} {H : AH} {Φ : AV → AH → Prop} {x dx it : Addr} {k : Str} {xs : List AV} {at_ : AV} {sh lo : Bool}
theorem flag_arg_ok (hN : 5 ≤ N) {v d r : AV} (F : FlagAt H v d r) (h : ∀ H', Ext H H' → Φ r H') : Γ TT N (.fn (Str.ofString "flag_arg")) [v, d] H Φ := by
  rcases F with ⟨rfl, rfl⟩ | ⟨x, dx, it, f, sh, lo, rfl, h2, h3, rfl⟩
  · exact flag_arg_none (by omega) (h H (Ext.refl _))
  · exact flag_arg_some hN h2 h3 h
theorem flags_arg_ok (hN : 6 ≤ N) {v d r : AV} (F : FlagAt H v d r) (h : ∀ H', Ext H H' → Φ r H') : Γ TT N (.fn (Str.ofString "flags_arg")) [v, d] H Φ := by
  rcases F with ⟨rfl, rfl⟩ | ⟨x, dx, it, f, sh, lo, rfl, h2, h3, rfl⟩
  · exact flags_arg_none (by omega) (h H (Ext.refl _))
  · exact flags_arg_some hN h2 h3 h
noncomputable def p1AV (p : Nat) : AV := .int ((p : Int) + 1)
noncomputable def orderF : List Str := [Str.ofString "...", Str.ofString "na.last", Str.ofString "decreasing", Str.ofString "method"]
theorem b_order_ok (hN : 7 ≤ N) (V : VecAt H x dx k it xs at_ sh lo) (hk : KS k) (hx : ∀ v ∈ xs, ItemOk k v) (hl : xs.length ≤ 2000) {al : Addr} {as : List (AV × AV)} {P : List (Str × AV)} {j : Nat} (ha : ArgsAt H al as)
    (has : as.length ≤ 90) (tt : ∀ q ∈ as, TagOk q.1) (hm : matchF orderF (as.map (·.1)) = some (P, [j])) (hP : ∀ f ∈ orderF, f ≠ sEll → (getL P f = none ∨ ∃ j : Nat, getL P f = some (.int j) ∧ j < as.length)) (hj : ∃ t, as[j]? = some (t, .ref x))
    {dec : Bool} {nl : AV} (hnl : nl = .none ∨ ∃ b, nl = .bool b) (fd : FlagAt H (argV P as (Str.ofString "decreasing")) (.bool false) (.bool dec)) (fl : FlagAt H (argV P as (Str.ofString "na.last")) (.bool true) nl)
    (h : ∀ y dy ity H' ps, Ext H H' → SortOf (cmpP xs dec (nlLast nl)) (keptOf xs (isNone nl)) ps → VecAt H' y dy (Str.ofString "integer") ity (ps.map p1AV) .none false false → Φ (.ref y) H') :
    Γ TT N (.fn (Str.ofString "b_order")) [.none, .ref al, .none] H Φ := by
  refine enter (loc := [(Str.ofString "interp", .none), (Str.ofString "args", .ref al), (Str.ofString "env", .none)]) T_b_order rfl (nl0 hN rfl) rfl rfl ?_
  obtain ⟨rs, h1, h2, h3⟩ := ha
  obtain ⟨tx, hj⟩ := hj
  have jl : j < as.length := (List.getElem?_eq_some_iff.mp hj).1
  (refine s_cons ?_; refine s_unpack rfl rfl ?_; refine w_call rfl ?_; refine w_es1 ?_; refine w_name rfl rfl ?_; refine w_es1 ?_; refine w_list ?_; refine w_es1 ?_; refine w_str ?_; refine w_es1 ?_; refine w_str ?_; refine w_es1 ?_; refine w_str ?_; refine w_es1 ?_; refine w_str ?_; refine w_es0 ?_)
  refine ⟨by simp, alloc fun fl' H1 f1 e1 g1 o1 => ?_⟩
  (refine w_es0 ?_)
  refine k_fn rfl (take_ok (F := orderF) (as := as) (nl1 hN rfl) g1 (e1 _ _ h1) h2 (fun i q hq => by obtain ⟨a, q1, q2⟩ := h3 i q hq; exact ⟨a, q1, e1 _ _ q2⟩) (by decide) has tt hm hP (fun i hi => by rw [List.mem_singleton.mp hi]; exact jl) (by simp) fun vl vs H2 e2 g2 TA => ?_)
  obtain ⟨v0, v1, v2, v3, rfl⟩ : ∃ v0 v1 v2 v3, vs = [v0, v1, v2, v3] := len4 TA.len
  obtain ⟨t0, t1, t2, t3, _⟩ := TA
  have t1 := take_arg (by decide +kernel) t1
  have t2 := take_arg (by decide +kernel) t2
  subst t1 t2
  unfold TakeAt at t0
  rw [if_pos (by decide +kernel)] at t0
  obtain ⟨ra, rfl, _, gra⟩ := t0
  obtain ⟨a, q1, q2⟩ := h3 j _ hj
  have hsel : sel rs [j] = [.ref a] := by
    show List.filterMap _ _ = _
    simp [q1]
  rw [hsel] at gra
  have e12 := e1.trans e2
  have V2 := V.ext e12
  refine u_list g2 rfl ?_
  (refine f_next ?_; refine s_cons ?_; refine s_set rfl ?_)
  refine e_comp1 rfl ?_
  (refine w_name rfl rfl ?_)
  refine comp_go (fun _ => some (.ref x)) gra rfl (by simp) (fun v hv K hK => ?_) ?_
  · rw [List.mem_singleton.mp hv]
    (refine t_cmp rfl ?_; refine w_attr rfl ?_; refine w_sub rfl ?_; refine w_name rfl rfl ?_; refine w_int ?_)
    refine i_tuple (e12 _ _ q2) (by simp) (by decide) rfl ?_
    refine a_attr V2.i V2.d rfl rfl ?_
    (refine w_str ?_; refine c_nes ?_)
    refine ift (by rw [kd_null hk.kd]; rfl) ?_
    (refine w_sub rfl ?_; refine w_name rfl rfl ?_; refine w_int ?_)
    refine i_tuple (e12 _ _ q2) (by simp) (by decide) rfl ?_
    exact hK
  refine alloc fun kl H3 f3 e3 g3 o3 => ?_
  (refine f_next ?_; refine s_cons ?_; refine s_set rfl ?_; refine w_call rfl ?_; refine w_es1 ?_; refine w_name rfl rfl ?_; refine w_es1 ?_; refine w_call rfl ?_; refine w_es1 ?_; refine w_name rfl rfl ?_; refine w_es1 ?_; refine w_bool ?_; refine w_es0 ?_)
  refine k_fn rfl (flags_arg_ok (nl1 hN rfl) (fd.ext (e12.trans e3)) fun H4 e4 => ?_)
  (refine w_es1 ?_; refine w_call rfl ?_; refine w_es1 ?_; refine w_name rfl rfl ?_; refine w_es1 ?_; refine w_bool ?_; refine w_es0 ?_)
  refine k_fn rfl (flag_arg_ok (nl1 hN rfl) (fl.ext (e12.trans (e3.trans e4))) fun H5 e5 => ?_)
  (refine w_es0 ?_)
  have e05 := e12.trans (e3.trans (e4.trans e5))
  refine k_fn rfl (order_by_ok (nl1 hN rfl) (V.ext e05) hk hx hl ((e4.trans e5) _ _ g3) hnl fun pl H6 ps e6 g6 S => ?_)
  (refine f_next ?_; refine s_cons ?_; refine s_ret ?_; refine w_call rfl ?_; refine w_es1 ?_)
  have psl : ps.length ≤ 2000 := by have := S.perm.length_eq; have := kept_len xs (isNone nl); omega
  refine e_comp0 rfl ?_
  (refine w_name rfl rfl ?_)
  refine comp_go (fun v => match v with | .int i => some (.int (i + 1)) | _ => none) g6 rfl (by simp; omega) (fun v hv K hK => ?_) ?_
  · obtain ⟨p, hpm, rfl⟩ := List.mem_map.mp hv
    change wpE _ _ _ (setL _ _ (.int (p : Int))) _ _
    (refine w_bin ?_; refine w_name rfl rfl ?_; refine w_int ?_; refine o_add ?_)
    exact hK
  have hmap : (ps.map pAV).filterMap (fun v => match v with | .int i => some (AV.int (i + 1)) | _ => none) = ps.map p1AV := by
    rw [List.filterMap_map]
    show ps.filterMap (fun p => some (p1AV p)) = _
    exact congrFun (List.filterMap_eq_map (f := p1AV)) ps
  rw [hmap]
  refine alloc fun ol H7 f7 e7 g7 o7 => ?_
  (refine w_es0 ?_)
  refine k_fn rfl (integer_ok (nl1 hN rfl) g7 (by simp; omega) fun y dy ity H8 n1 n2 n3 e8 o8 W => ?_)
  (refine f_ret ?_; refine f_rr ?_)
  exact h y dy ity H8 ps (e05.trans (e6.trans (e7.trans e8))) S W

noncomputable def sortF : List Str := [Str.ofString "x", Str.ofString "decreasing", Str.ofString "...", Str.ofString "na.last"]
theorem b_sort_ok (hN : 8 ≤ N) (V : VecAt H x dx k it xs at_ sh lo) (hk : KS k) {ns : Option (List AV)} (hn : NmAt H at_ ns) (hln : ∀ l, ns = some l → l.length = xs.length) (hx : ∀ v ∈ xs, ItemOk k v) (hl : xs.length ≤ 2000) {al : Addr} {as : List (AV × AV)} {P : List (Str × AV)} (ha : ArgsAt H al as)
    (has : as.length ≤ 90) (tt : ∀ q ∈ as, TagOk q.1) (hm : matchF sortF (as.map (·.1)) = some (P, [])) (hP : ∀ f ∈ sortF, f ≠ sEll → (getL P f = none ∨ ∃ j : Nat, getL P f = some (.int j) ∧ j < as.length)) (hj : argV P as (Str.ofString "x") = .ref x)
    {dec : Bool} {nl : AV} (hnl : nl = .none ∨ ∃ b, nl = .bool b) (fd : FlagAt H (argV P as (Str.ofString "decreasing")) (.bool false) (.bool dec)) (fl : FlagAt H (argV P as (Str.ofString "na.last")) .none nl)
    (h : ∀ y dy ity at' H' ps, Ext H H' → SortOf (cmpP xs dec (nlLast nl)) (keptOf xs (isNone nl)) ps → VecAt H' y dy k ity (sel xs ps) at' false false → NmAt H' at' (ns.map fun l => sel l ps) → Φ (.ref y) H') :
    Γ TT N (.fn (Str.ofString "b_sort")) [.none, .ref al, .none] H Φ := by
  refine enter (loc := [(Str.ofString "interp", .none), (Str.ofString "args", .ref al), (Str.ofString "env", .none)]) T_b_sort rfl (nl0 hN rfl) rfl rfl ?_
  obtain ⟨rs, h1, h2, h3⟩ := ha
  (refine s_cons ?_; refine s_unpack rfl rfl ?_; refine w_call rfl ?_; refine w_es1 ?_; refine w_name rfl rfl ?_; refine w_es1 ?_; refine w_list ?_; refine w_es1 ?_; refine w_str ?_; refine w_es1 ?_; refine w_str ?_; refine w_es1 ?_; refine w_str ?_; refine w_es1 ?_; refine w_str ?_; refine w_es0 ?_)
  refine ⟨by simp, alloc fun fl' H1 f1 e1 g1 o1 => ?_⟩
  (refine w_es0 ?_)
  refine k_fn rfl (take_ok (F := sortF) (as := as) (nl1 hN rfl) g1 (e1 _ _ h1) h2 (fun i q hq => by obtain ⟨a, q1, q2⟩ := h3 i q hq; exact ⟨a, q1, e1 _ _ q2⟩) (by decide) has tt hm hP (fun i hi => nomatch hi) (by simp) fun vl vs H2 e2 g2 TA => ?_)
  obtain ⟨v0, v1, v2, v3, rfl⟩ : ∃ v0 v1 v2 v3, vs = [v0, v1, v2, v3] := len4 TA.len
  obtain ⟨t0, t1, t2, t3, _⟩ := TA
  have t0 := take_arg (by decide +kernel) t0
  have t1 := take_arg (by decide +kernel) t1
  have t3 := take_arg (by decide +kernel) t3
  rw [hj] at t0
  subst t0 t1 t3
  have e12 := e1.trans e2
  have V2 := V.ext e12
  refine u_list g2 rfl ?_
  (refine f_next ?_; refine s_cons ?_; refine s_expr ?_; refine w_call rfl ?_; refine w_es1 ?_; refine w_name rfl rfl ?_; refine w_es1 ?_; refine w_str ?_; refine w_es0 ?_)
  refine k_fn rfl (needed_arg_ok (nl1 hN rfl) ?_)
  (refine f_next ?_; refine s_cons ?_; refine s_if ?_; refine t_cmp rfl ?_; refine w_attr rfl ?_; refine w_name rfl rfl ?_)
  refine a_attr V2.i V2.d rfl rfl ?_
  (refine w_str ?_; refine c_eqs ?_)
  refine iff_ (kd_null hk.kd) ?_
  (refine s_nil ?_; refine f_next ?_; refine s_cons ?_; refine s_if ?_; refine t_cmp rfl ?_; refine w_attr rfl ?_; refine w_name rfl rfl ?_)
  refine a_attr V2.i V2.d rfl rfl ?_
  (refine w_tuple ?_; refine w_es1 ?_; refine w_str ?_; refine w_es1 ?_; refine w_str ?_; refine w_es1 ?_; refine w_str ?_; refine w_es1 ?_; refine w_str ?_; refine w_es0 ?_)
  refine ⟨by simp, alloc fun tl H3 f3 e3 g3 o3 => ?_⟩
  have m : memA k [.str (Str.ofString "logical"), .str (Str.ofString "integer"), .str (Str.ofString "double"), .str (Str.ofString "character")] = some true := by
    rcases hk with rfl | rfl | rfl <;> rfl
  refine c_nint g3 m ?_
  refine iff_ rfl ?_
  (refine s_nil ?_; refine f_next ?_; refine s_cons ?_; refine s_set rfl ?_; refine w_call rfl ?_; refine w_es1 ?_; refine w_name rfl rfl ?_; refine w_es1 ?_; refine w_bool ?_; refine w_es0 ?_)
  refine k_fn rfl (flag_arg_ok (nl1 hN rfl) (fd.ext (e12.trans e3)) fun H4 e4 => ?_)
  (refine f_next ?_; refine s_cons ?_; refine s_if ?_; refine t_cmp rfl ?_; refine w_name rfl rfl ?_; refine w_none ?_; refine c_is ?_)
  refine iff_ rfl ?_
  (refine s_nil ?_; refine f_next ?_; refine s_cons ?_; refine s_ret ?_; refine w_call rfl ?_; refine w_es1 ?_; refine w_name rfl rfl ?_; refine w_es1 ?_; refine w_call rfl ?_; refine w_es1 ?_; refine w_list ?_; refine w_es1 ?_; refine w_name rfl rfl ?_; refine w_es0 ?_)
  refine ⟨by simp, alloc fun kl H5 f5 e5 g5 o5 => ?_⟩
  (refine w_es1 ?_; refine w_name rfl rfl ?_; refine w_es1 ?_; refine w_call rfl ?_; refine w_es1 ?_; refine w_name rfl rfl ?_; refine w_es1 ?_; refine w_none ?_; refine w_es0 ?_)
  refine k_fn rfl (flag_arg_ok (nl1 hN rfl) (fl.ext (e12.trans (e3.trans (e4.trans e5)))) fun H6 e6 => ?_)
  (refine w_es0 ?_)
  have e06 := e12.trans (e3.trans (e4.trans (e5.trans e6)))
  refine k_fn rfl (order_by_ok (nl1 hN rfl) (V.ext e06) hk hx hl (e6 _ _ g5) hnl fun pl H7 ps e7 g7 S => ?_)
  (refine w_es0 ?_)
  have psl : ps.length ≤ 2000 := by have := S.perm.length_eq; have := kept_len xs (isNone nl); omega
  refine k_fn rfl (pick_ok (nl1 hN rfl) (V.ext (e06.trans e7)) hk.kd (hn.ext (e06.trans e7)) (by omega) hln g7 (by omega) (fun p hp => kept_lt (S.perm.mem_iff.mp hp)) fun y dy ity at' H8 e8 W NW => ?_)
  (refine f_ret ?_; refine f_rr ?_)
  exact h y dy ity at' H8 ps (e06.trans (e7.trans e8)) S W NW
noncomputable def rankF : List Str := [Str.ofString "x", Str.ofString "na.last", Str.ofString "ties.method"]
theorem b_rank_ok (hN : 9 ≤ N) (V : VecAt H x dx k it xs at_ sh lo) (hk : KS k) {ns : Option (List AV)} (hn : NmAt H at_ ns) (hx : ∀ v ∈ xs, ItemOk k v) (hl : xs.length ≤ 2000) {al : Addr} {as : List (AV × AV)} {P : List (Str × AV)} (ha : ArgsAt H al as)
    (has : as.length ≤ 90) (tt : ∀ q ∈ as, TagOk q.1) (hm : matchF rankF (as.map (·.1)) = some (P, [])) (hP : ∀ f ∈ rankF, f ≠ sEll → (getL P f = none ∨ ∃ j : Nat, getL P f = some (.int j) ∧ j < as.length)) (hj : argV P as (Str.ofString "x") = .ref x)
    (t : Ties) {tx td ti : Addr} {tsh tlo : Bool} (ht : argV P as (Str.ofString "ties.method") = .ref tx) (TV : VecAt H tx td (Str.ofString "character") ti [.str t.name] .none tsh tlo)
    (h : ∀ y dy ity rk at' H' ps, Ext H H' → SortOf (cmpP xs false true) (keptOf xs true) ps → VecAt H' y dy t.kind ity rk at' false false → NmAt H' at' ns → Ranked H' t xs ps rk ps.length → Φ (.ref y) H') :
    Γ TT N (.fn (Str.ofString "b_rank")) [.none, .ref al, .none] H Φ := by
  refine enter (loc := [(Str.ofString "interp", .none), (Str.ofString "args", .ref al), (Str.ofString "env", .none)]) T_b_rank rfl (nl0 hN rfl) rfl rfl ?_
  obtain ⟨rs, h1, h2, h3⟩ := ha
  (refine s_cons ?_; refine s_unpack rfl rfl ?_; refine w_call rfl ?_; refine w_es1 ?_; refine w_name rfl rfl ?_; refine w_es1 ?_; refine w_list ?_; refine w_es1 ?_; refine w_str ?_; refine w_es1 ?_; refine w_str ?_; refine w_es1 ?_; refine w_str ?_; refine w_es0 ?_)
  refine ⟨by simp, alloc fun fl' H1 f1 e1 g1 o1 => ?_⟩
  (refine w_es0 ?_)
  refine k_fn rfl (take_ok (F := rankF) (as := as) (nl1 hN rfl) g1 (e1 _ _ h1) h2 (fun i q hq => by obtain ⟨a, q1, q2⟩ := h3 i q hq; exact ⟨a, q1, e1 _ _ q2⟩) (by decide) has tt hm hP (fun i hi => nomatch hi) (by simp) fun vl vs H2 e2 g2 TA => ?_)
  obtain ⟨v0, v1, v2, rfl⟩ : ∃ v0 v1 v2, vs = [v0, v1, v2] := len3 TA.len
  obtain ⟨t0, t1, t2, _⟩ := TA
  have t0 := take_arg (by decide +kernel) t0
  have t2 := take_arg (by decide +kernel) t2
  rw [hj] at t0
  rw [ht] at t2
  subst t0 t2
  have e12 := e1.trans e2
  have V2 := V.ext e12
  have T2 := TV.ext e12
  refine u_list g2 rfl ?_
  (refine f_next ?_; refine s_cons ?_; refine s_expr ?_; refine w_call rfl ?_; refine w_es1 ?_; refine w_name rfl rfl ?_; refine w_es1 ?_; refine w_str ?_; refine w_es0 ?_)
  refine k_fn rfl (needed_arg_ok (nl1 hN rfl) ?_)
  (refine f_next ?_; refine s_cons ?_; refine s_set rfl ?_; refine w_str ?_; refine f_next ?_; refine s_cons ?_; refine s_if ?_; refine t_bop ?_; refine t_and1 ?_; refine t_cmp rfl ?_; refine w_name rfl rfl ?_; refine w_none ?_; refine c_isnot ?_)
  refine ift rfl ?_
  (refine t_and1 ?_; refine t_cmp rfl ?_; refine w_attr rfl ?_; refine w_name rfl rfl ?_)
  refine a_attr T2.i T2.d rfl rfl ?_
  (refine w_str ?_; refine c_eqs ?_)
  refine ift rfl ?_
  (refine t_and1 ?_; refine t_cmp rfl ?_; refine w_call rfl ?_; refine w_es1 ?_; refine w_name rfl rfl ?_; refine w_es0 ?_)
  refine k_fn rfl (length_ok (nl1 hN rfl) T2 (.inr (.inl rfl)) (by simp) ?_)
  (refine w_int ?_; refine c_gti ?_)
  refine ift rfl ?_
  (refine t_and0 ?_)
  refine ift rfl ?_
  (refine s_cons ?_; refine s_set rfl ?_; refine w_sub rfl ?_; refine w_attr rfl ?_; refine w_name rfl rfl ?_)
  refine a_attr T2.i T2.d rfl rfl ?_
  (refine w_int ?_)
  refine i_list T2.l (by simp) (by decide) rfl ?_
  (refine f_next ?_; refine s_nil ?_; refine f_next ?_; refine s_cons ?_; refine s_set rfl ?_; refine w_call rfl ?_; refine w_es1 ?_; refine w_name rfl rfl ?_; refine w_es1 ?_; refine w_name rfl rfl ?_; refine w_es0 ?_)
  refine k_fn rfl (rank_of_ok (nl1 hN rfl) V2 hk hx hl t fun y dy ity rk H3 ps fdy e3 S W RK => ?_)
  (refine f_next ?_; refine s_cons ?_; refine s_set rfl ?_; refine w_call rfl ?_; refine w_es1 ?_; refine w_name rfl rfl ?_; refine w_es0 ?_)
  refine k_fn rfl (names_of_ok (nl1 hN rfl) (V2.ext e3) hk.kd ((hn.ext e12).ext e3) ?_)
  cases ns with
  | none =>
    (refine f_next ?_; refine s_cons ?_; refine s_if ?_; refine t_cmp rfl ?_; refine w_name rfl rfl ?_; refine w_none ?_; refine c_isnot ?_)
    refine iff_ rfl ?_
    (refine s_nil ?_; refine f_next ?_; refine s_cons ?_; refine s_ret ?_; refine w_name rfl rfl ?_; refine f_ret ?_; refine f_rr ?_)
    exact h y dy ity rk .none H3 ps (e12.trans e3) S W rfl RK
  | some l =>
    dsimp only
    intro nl H4 f4 e4 g4 o4
    have hln : l.length ≤ 4096 := by
      obtain ⟨_, _, _, _, _, _, _, _, q⟩ := hn
      exact q
    (refine f_next ?_; refine s_cons ?_; refine s_if ?_; refine t_cmp rfl ?_; refine w_name rfl rfl ?_; refine w_none ?_; refine c_isnot ?_)
    refine ift rfl ?_
    (refine s_cons ?_; refine s_attr ?_; refine w_dict1 ?_; refine w_call rfl ?_; refine w_es1 ?_; refine w_call rfl ?_; refine w_es1 ?_; refine w_name rfl rfl ?_; refine w_es0 ?_)
    refine k_fn rfl (character_ok (nl1 hN rfl) g4 hln fun z zd zi H5 n1 n2 n3 e5 o5 Z => ?_)
    (refine w_es0 ?_)
    have W5 := W.ext (e4.trans e5)
    refine k_fn rfl (share_ok (nl1 hN rfl) Z.i Z.d fun H6 i6 d6 o6 => ?_)
    have e46 : Ext H4 H6 := fun b o q => (o6 b (ne_of q n2)).trans (e5 _ _ q)
    have W6 := (W.ext e4).ext e46
    have l6 : H6 zi = some (.list l) := (o6 _ (ne_obj Z.l Z.d (by simp))).trans Z.l
    skip
    refine alloc fun dd H7 f7 e7 g7 o7 => ?_
    have W7 := W6.ext e7
    (refine w_name rfl rfl ?_)
    refine set_attr W7.i W7.d rfl (Nat.le_of_ble_eq_true rfl) fun H8 i8 d8 o8 => ?_
    (refine f_next ?_; refine s_nil ?_; refine f_next ?_; refine s_cons ?_; refine s_ret ?_; refine w_name rfl rfl ?_; refine f_ret ?_; refine f_rr ?_)
    have W4 := W.ext e4
    have nyz : z ≠ dy := Ne.symm (ne_of W4.d n1)
    have nyzd : zd ≠ dy := Ne.symm (ne_of W4.d n2)
    have nyzi : zi ≠ dy := Ne.symm (ne_of W4.d n3)
    have ndd : dd ≠ dy := Ne.symm (ne_of W6.d f7)
    have e07 := e12.trans (e3.trans (e4.trans (e46.trans e7)))
    have fdy0 : H dy = none := e12.no fdy
    refine h y dy ity rk (.ref dd) H8 ps (fun b o q => (o8 b (ne_of q fdy0)).trans (e07 _ _ q)) S ⟨i8, d8, (o8 _ (ne_obj W7.l W7.d (by simp))).trans W7.l⟩ ?_ (RK.keep fun a vs q => ?_)
    · exact ⟨dd, z, zd, zi, true, rfl, (o8 _ ndd).trans g7, ⟨(o8 _ nyz).trans (e7 _ _ i6), (o8 _ nyzd).trans (e7 _ _ d6), (o8 _ nyzi).trans (e7 _ _ l6)⟩, hln⟩
    · exact (o8 _ (ne_obj (e7 _ _ (e46 _ _ (e4 _ _ q))) W7.d (by simp))).trans (e7 _ _ (e46 _ _ (e4 _ _ q)))
end
/-- a plain item: NA, a whole number, a text -/
noncomputable def Sc (v : AV) : Prop := v = .none ∨ (∃ i, v = .int i) ∨ ∃ s, v = .str s ∧ PySem.PyData.strOk s = true
noncomputable def toD : AV → PyData
  | .int i => .int i
  | .str s => .str s
  | .bool b => .bool b
  | _ => .none
theorem datA_sc {H : AH} {n : Nat} {v : AV} (h : Sc v) : datA H n v = some (toD v) := by
  rcases h with rfl | ⟨i, rfl⟩ | ⟨s, rfl, _⟩ <;> cases n <;> rfl
theorem mapM_sc {H : AH} {n : Nat} : ∀ {l : List AV}, (∀ v ∈ l, Sc v) → l.mapM (datA H n) = some (l.map toD)
  | [], _ => rfl
  | v :: l, h => by
    rw [List.mapM_cons, datA_sc (h v List.mem_cons_self), mapM_sc fun u hu => h u (List.mem_cons_of_mem _ hu)]
    rfl
theorem datA_list {H : AH} {n : Nat} {a : Addr} {l : List AV} (ha : H a = some (.list l)) (h : ∀ v ∈ l, Sc v) : datA H (n + 1) (.ref a) = some (.list (l.map toD)) := by
  show (match H a with | some (.list vs) => (vs.mapM (datA H n)).map PyData.list | some (.tuple vs) => (vs.mapM (datA H n)).map PyData.tuple | _ => none) = _
  rw [ha]
  dsimp only
  rw [mapM_sc h]; rfl
theorem sc_lay {v : AV} (h : Sc v) : (toD v).canLay0 = true ∧ (toD v).depth = 0 ∧ PySem.SeqAt.noMix (toD v) (toD v) = true := by
  rcases h with rfl | ⟨i, rfl⟩ | ⟨s, rfl, e⟩
  · simp [toD, PyData.canLay0, PyData.depth, PySem.SeqAt.noMix]
  · simp [toD, PyData.canLay0, PyData.depth, PySem.SeqAt.noMix]
  · simp [toD, PyData.canLay0, PyData.depth, PySem.SeqAt.noMix, e]
theorem sc_all : ∀ {l : List AV}, (∀ v ∈ l, Sc v) → PyData.canLayAll0 (l.map toD) = true ∧ PyData.depthAll (l.map toD) = 0 ∧ PySem.SeqAt.noMixAll (l.map toD) (l.map toD) = true
  | [], _ => by simp [PyData.canLayAll0, PyData.depthAll, PySem.SeqAt.noMixAll]
  | v :: l, h => by
    have h1 := sc_lay (h v List.mem_cons_self)
    have h2 := sc_all fun u hu => h u (List.mem_cons_of_mem _ hu)
    simp [PyData.canLayAll0, PyData.depthAll, PySem.SeqAt.noMixAll, h1, h2]
theorem sc_fit {l : List AV} (h : ∀ v ∈ l, Sc v) : PySem.SeqAt.shaped (.list (l.map toD)) = true := by
  have := sc_all h
  simp [PySem.SeqAt.shaped, PyData.canLay0, PyData.depth, this]
section
variable {H : AH} {Κ : Bool → Prop} {a b : Addr} {l : List AV}
theorem ne_same (ha : H a = some (.list l)) (hb : H b = some (.list l)) (h : ∀ v ∈ l, Sc v) (k : Κ false) : cmpA .NotEq (.ref a) (.ref b) H Κ := by
  refine c_ner _ _ (datA_list ha h) (datA_list hb h) ?_ ?_
  · rw [sc_fit h]
    simp [PySem.SeqAt.noMix, (sc_all h).2.2]
  · rw [PyProof.Rows.same_iff.mpr rfl]; exact k
theorem ne_nil (ha : H a = some (.list l)) (hb : H b = some (.list [])) (h : ∀ v ∈ l, Sc v) (k : Κ (!l.isEmpty)) : cmpA .NotEq (.ref a) (.ref b) H Κ := by
  refine c_ner _ _ (datA_list ha h) (datA_list (l := []) hb fun _ q => nomatch q) ?_ ?_
  · rw [sc_fit h, sc_fit (l := []) fun _ q => nomatch q]
    cases l <;> simp [PySem.SeqAt.noMix, PySem.SeqAt.noMixAll]
  · cases l with
    | nil => exact k
    | cons v l =>
      have : Spec.same (.list ((v :: l).map toD)) (.list (([] : List AV).map toD)) = false := by simp [Spec.same, Spec.sameAll]
      rw [this]; exact k
end
theorem sc_pav (l : List Nat) : ∀ v ∈ l.map pAV, Sc v := fun v h => by
  obtain ⟨p, _, rfl⟩ := List.mem_map.mp h
  exact .inr (.inl ⟨p, rfl⟩)

section
variable {N : Nat} {H : AH} {Φ : AV → AH → Prop} {x dx it : Addr} {k : Str} {xs : List AV} {at_ : AV} {sh lo : Bool}
theorem law_hat_ok (hN : 1 ≤ N) {a : Addr} {ns : List Int} {ob : Obj} (ha : H a = some (.klist (ns.map .int) ob)) (hl : ns.length ≤ 63) (h : ∀ (b : Addr) (H' : AH) (hs : List Nat), H b = none → Ext H H' → H' b = some (.list (hs.map pAV)) → hs.length ≤ 40 → Φ (.ref b) H') : Γ TT N (.fn (Str.ofString "_law_hat")) [.ref a] H Φ := by
  refine enter (loc := [(Str.ofString "script", .ref a)]) T_law_hat rfl (nl0 hN rfl) rfl rfl ?_
  (refine s_cons ?_; refine s_ret ?_)
  refine e_comp0 rfl ?_
  (refine w_sliceto rfl ?_; refine w_name rfl rfl ?_; refine w_int ?_)
  refine z_to (.inr ⟨ob, ha⟩) (by simp; omega) (by decide) (alloc fun c H1 f1 e1 g1 o1 => ?_)
  refine comp_go (fun v => match v with | .int i => some (.int i.natAbs) | _ => none) g1 rfl (by simp; omega) (fun v hv K hK => ?_) ?_
  · obtain ⟨i, hi, rfl⟩ := List.mem_map.mp (List.mem_of_mem_take hv)
    (refine w_call rfl ?_; refine w_es1 ?_; refine w_name rfl rfl ?_; refine w_es0 ?_)
    refine k_built rfl (q_abs ?_)
    exact hK
  have hmap : ((ns.map AV.int).take (40 : Int).toNat).filterMap (fun v => match v with | .int i => some (AV.int i.natAbs) | _ => none) = ((ns.take 40).map Int.natAbs).map pAV := by
    rw [← List.map_take, List.filterMap_map, List.map_map]
    exact congrFun (List.filterMap_eq_map (f := pAV ∘ Int.natAbs)) _
  rw [hmap]
  refine alloc fun b H2 f2 e2 g2 o2 => ?_
  (refine f_ret ?_; refine f_rr ?_)
  exact h b H2 _ (e1.no f2) (e1.trans e2) g2 (by simp; omega)

theorem law_out_ok (hN : 1 ≤ N) {a : Addr} {hs : List Nat} (ha : H a = some (.list (hs.map pAV))) (hl : hs.length ≤ 40) {bd : Nat} (hb : 0 < bd) (h : ∀ (v : Nat) (hs' : List Nat) (H' : AH), v < bd → hs'.length ≤ 40 → ExtB a H H' → H' a = some (.list (hs'.map pAV)) → Φ (.int v) H') : Γ TT N (.fn (Str.ofString "_law_out")) [.ref a, .int bd] H Φ := by
  refine enter (loc := [(Str.ofString "hat", .ref a), (Str.ofString "bound", .int bd)]) T_law_out rfl (nl0 hN rfl) rfl rfl ?_
  (refine s_cons ?_; refine s_ret ?_; refine w_ife ?_; refine t_cmp rfl ?_; refine w_name rfl rfl ?_; refine w_list ?_; refine w_es0 ?_)
  refine ⟨by simp, alloc fun c H1 f1 e1 g1 o1 => ?_⟩
  refine ne_nil (e1 _ _ ha) g1 (sc_pav hs) ?_
  cases hs with
  | nil =>
    refine iff_ rfl ?_
    (refine w_int ?_; refine f_ret ?_; refine f_rr ?_)
    exact h 0 [] H1 hb (by simp) (fun b o n q => e1 _ _ q) (e1 _ _ ha)
  | cons q hs =>
    refine ift rfl ?_
    (refine w_bin ?_; refine w_meth rfl ?_; refine w_name rfl rfl ?_)
    refine m_pop (e1 _ _ ha) ?_
    (refine w_es1 ?_; refine w_int ?_; refine w_es0 ?_)
    refine p_pop (e1 _ _ ha) (by simp; simp at hl; omega) ?_
    (refine w_name rfl rfl ?_)
    have bn : ((bd : Nat) : Int) ≠ 0 := by omega
    show binA .Mod (.int (q : Int)) (.int (bd : Int)) _ _
    refine o_mod bn ?_
    (refine f_ret ?_; refine f_rr ?_)
    have : Int.fmod (q : Int) (bd : Int) = ((q % bd : Nat) : Int) := by rw [Int.fmod_eq_emod_of_nonneg _ (by omega)]; rfl
    rw [this]
    exact h (q % bd) hs _ (Nat.mod_lt _ hb) (by simp at hl; omega) (fun b o n z => (updH_ne n).trans (e1 _ _ z)) updH_self
end
section
variable {N : Nat} {H : AH} {Φ : AV → AH → Prop} {x dx it : Addr} {k : Str} {xs : List AV} {at_ : AV} {sh lo : Bool}
theorem c_eqv {a b : AV} {Κ : Bool → Prop} (s : Same a b) (na : isNone a = false) (nb : isNone b = false) (h1 : a = b → Κ true) (h2 : a ≠ b → Κ false) : cmpA .Eq a b H Κ := by
  rcases s with q | q | ⟨i, j, rfl, rfl⟩ | ⟨s, t, rfl, rfl⟩
  · rw [q] at na; cases na
  · rw [q] at nb; cases nb
  · show Κ (decide (i = j))
    by_cases e : i = j
    · rw [decide_eq_true e]; exact h1 (by rw [e])
    · rw [decide_eq_false e]; exact h2 fun q => e (by cases q; rfl)
  · show Κ (decide (s = t))
    by_cases e : s = t
    · rw [decide_eq_true e]; exact h1 (by rw [e])
    · rw [decide_eq_false e]; exact h2 fun q => e (by cases q; rfl)
theorem c_ltv {a b : AV} {Κ : Bool → Prop} (s : Same a b) (na : isNone a = false) (nb : isNone b = false) (h : Κ (ltV a b)) : cmpA .Lt a b H Κ := by
  rcases s with q | q | ⟨i, j, rfl, rfl⟩ | ⟨s, t, rfl, rfl⟩
  · rw [q] at na; cases na
  · rw [q] at nb; cases nb
  · exact h
  · exact h
theorem c_lev {a b : AV} {Κ : Bool → Prop} (s : Same a b) (na : isNone a = false) (nb : isNone b = false) (h : Κ (!ltV b a)) : cmpA .LtE a b H Κ := by
  rcases s with q | q | ⟨i, j, rfl, rfl⟩ | ⟨s, t, rfl, rfl⟩
  · rw [q] at na; cases na
  · rw [q] at nb; cases nb
  · show Κ (decide (i ≤ j))
    have : decide (i ≤ j) = !decide (j < i) := by by_cases e : i ≤ j <;> simp [e] <;> omega
    rw [this]; exact h
  · show Κ (decide (¬ t.cps.toList < s.cps.toList))
    rw [decide_not]; exact h
theorem law_before_ok (hN : 1 ≤ N) (V : VecAt H x dx k it xs at_ sh lo) (hx : ∀ v ∈ xs, ItemOk k v) (hl : xs.length ≤ 4096) {i j : Nat} (hi : i < xs.length) (hj : j < xs.length) {falls last : Bool} (hb : Bef (cmpP xs falls last) i j) (h : Φ (.bool true) H) :
    Γ TT N (.fn (Str.ofString "_law_before")) [.ref x, .int i, .int j, .bool falls, .bool last] H Φ := by
  refine enter (loc := [(Str.ofString "v", .ref x), (Str.ofString "i", .int i), (Str.ofString "j", .int j), (Str.ofString "falls", .bool falls), (Str.ofString "last", .bool last)]) T_law_before rfl (nl0 hN rfl) rfl rfl ?_
  have ei : xs[i]? = some xs[i] := List.getElem?_eq_getElem hi
  have ej : xs[j]? = some xs[j] := List.getElem?_eq_getElem hj
  unfold Bef cmpP at hb
  rw [ei, ej] at hb
  dsimp only [Option.getD] at hb
  have oki := hx _ (List.getElem_mem hi)
  have okj := hx _ (List.getElem_mem hj)
  generalize xs[i] = a at *
  generalize xs[j] = b at *
  have S := same_of oki okj
  (refine s_cons ?_; refine s_set rfl ?_; refine w_sub rfl ?_; refine w_attr rfl ?_; refine w_name rfl rfl ?_)
  refine a_attr V.i V.d rfl rfl ?_
  (refine w_name rfl rfl ?_)
  refine i_list V.l hl (Int.natCast_nonneg i) (by rw [Int.toNat_natCast]; exact ei) ?_
  (refine f_next ?_; refine s_cons ?_; refine s_set rfl ?_; refine w_sub rfl ?_; refine w_attr rfl ?_; refine w_name rfl rfl ?_)
  refine a_attr V.i V.d rfl rfl ?_
  (refine w_name rfl rfl ?_)
  refine i_list V.l hl (Int.natCast_nonneg j) (by rw [Int.toNat_natCast]; exact ej) ?_
  (refine f_next ?_; refine s_cons ?_; refine s_if ?_; refine t_cmp rfl ?_; refine w_cmp rfl ?_; refine w_name rfl rfl ?_; refine w_none ?_; refine c_is ?_; refine w_cmp rfl ?_; refine w_name rfl rfl ?_; refine w_none ?_; refine c_is ?_; refine c_neb ?_)
  cases na : isNone a with
  | true =>
    rw [na] at hb
    cases nb : isNone b with
    | true =>
      rw [nb] at hb
      refine iff_ rfl ?_
      (refine s_nil ?_; refine f_next ?_; refine s_cons ?_; refine s_if ?_; refine t_bop ?_; refine t_or1 ?_; refine t_cmp rfl ?_; refine w_name rfl rfl ?_; refine w_none ?_; refine c_is ?_)
      rw [na]
      refine ift rfl ?_
      refine ift rfl ?_
      (refine s_cons ?_; refine s_ret ?_; refine w_cmp rfl ?_; refine w_name rfl rfl ?_; refine w_name rfl rfl ?_; refine c_lti ?_; refine f_ret ?_; refine f_ret ?_; refine f_rr ?_)
      have : i < j := by rcases hb with q | q <;> simp at q; exact q
      rw [decide_eq_true (by omega)]
      exact h
    | false =>
      rw [nb] at hb
      refine ift rfl ?_
      (refine s_cons ?_; refine s_ret ?_; refine w_cmp rfl ?_; refine w_cmp rfl ?_; refine w_name rfl rfl ?_; refine w_none ?_; refine c_is ?_; refine w_name rfl rfl ?_; refine c_eqb ?_; refine f_ret ?_; refine f_ret ?_; refine f_rr ?_)
      rw [nb]
      cases last with
      | true => simp at hb
      | false => exact h
  | false =>
    rw [na] at hb
    cases nb : isNone b with
    | true =>
      rw [nb] at hb
      refine ift rfl ?_
      (refine s_cons ?_; refine s_ret ?_; refine w_cmp rfl ?_; refine w_cmp rfl ?_; refine w_name rfl rfl ?_; refine w_none ?_; refine c_is ?_; refine w_name rfl rfl ?_; refine c_eqb ?_; refine f_ret ?_; refine f_ret ?_; refine f_rr ?_)
      rw [nb]
      cases last with
      | true => exact h
      | false => simp at hb
    | false =>
      rw [nb] at hb
      refine iff_ rfl ?_
      (refine s_nil ?_; refine f_next ?_; refine s_cons ?_; refine s_if ?_; refine t_bop ?_; refine t_or1 ?_; refine t_cmp rfl ?_; refine w_name rfl rfl ?_; refine w_none ?_; refine c_is ?_)
      rw [na]
      refine iff_ rfl ?_
      (refine t_or1 ?_; refine t_cmp rfl ?_; refine w_name rfl rfl ?_; refine w_name rfl rfl ?_)
      refine c_eqv S na nb (fun e => ?_) fun e => ?_
      · subst e
        refine ift rfl ?_
        refine ift rfl ?_
        (refine s_cons ?_; refine s_ret ?_; refine w_cmp rfl ?_; refine w_name rfl rfl ?_; refine w_name rfl rfl ?_; refine c_lti ?_; refine f_ret ?_; refine f_ret ?_; refine f_rr ?_)
        have z : cmpI a a = 0 := by unfold cmpI; rw [ltV_irrefl]; rfl
        rw [z] at hb
        have : i < j := by rcases hb with q | q <;> cases falls <;> simp at q <;> exact q
        rw [decide_eq_true (by omega)]
        exact h
      · refine iff_ rfl ?_
        (refine t_or0 ?_)
        refine iff_ rfl ?_
        (refine s_nil ?_; refine f_next ?_; refine s_cons ?_; refine s_ret ?_; refine w_cmp rfl ?_; refine w_cmp rfl ?_; refine w_name rfl rfl ?_; refine w_name rfl rfl ?_)
        refine c_ltv S na nb ?_
        (refine w_name rfl rfl ?_; refine c_neb ?_; refine f_ret ?_; refine f_rr ?_)
        have : (!(ltV a b == falls)) = true := by
          cases c1 : ltV a b with
          | true =>
            have c2 := ltV_asymm c1
            have z : cmpI a b = -1 := by unfold cmpI; rw [c1]; rfl
            rw [z] at hb
            cases falls with
            | true => simp at hb
            | false => rfl
          | false =>
            cases c2 : ltV b a with
            | true =>
              have z : cmpI a b = 1 := by unfold cmpI; rw [c1, c2]; rfl
              rw [z] at hb
              cases falls with
              | true => rfl
              | false => simp at hb
            | false => exact absurd (ltV_total S na nb c1 c2) e
        rw [this]
        exact h
theorem law_told_ok (hN : 1 ≤ N) (V : VecAt H x dx k it xs at_ sh lo) {ns : Option (List AV)} (hn : NmAt H at_ ns) (h : match ns with | none => Φ .none H | some l => ∀ a, H a = some (.list l) → Φ (.ref a) H) : Γ TT N (.fn (Str.ofString "_law_told")) [.ref x] H Φ := by
  refine enter (loc := [(Str.ofString "v", .ref x)]) T_law_told rfl (nl0 hN rfl) rfl rfl ?_
  (refine s_cons ?_; refine s_ret ?_; refine w_ife ?_; refine t_cmp rfl ?_; refine w_attr rfl ?_; refine w_name rfl rfl ?_)
  refine a_attr V.i V.d rfl rfl ?_
  (refine w_none ?_; refine c_is ?_)
  cases ns with
  | none =>
    have hn : at_ = .none := hn
    subst hn
    refine ift rfl ?_
    (refine w_none ?_; refine f_ret ?_; refine f_rr ?_)
    exact h
  | some l =>
    obtain ⟨d, nv, dn, itn, sh', h1, h2, h3, h4⟩ := hn
    subst h1
    refine iff_ rfl ?_
    (refine w_attr rfl ?_; refine w_sub rfl ?_; refine w_attr rfl ?_; refine w_name rfl rfl ?_)
    refine a_attr V.i V.d rfl rfl ?_
    (refine w_str ?_)
    refine i_dict h2 rfl ?_
    refine a_attr h3.i h3.d rfl rfl ?_
    (refine f_ret ?_; refine f_rr ?_)
    exact h itn h3.l
theorem law_flag_ok (hN : 2 ≤ N) {v : AV} (h : ∀ x dx it H', Ext H H' → VecAt H' x dx (Str.ofString "logical") it [v] .none false false → Φ (.ref x) H') : Γ TT N (.fn (Str.ofString "_law_flag")) [v] H Φ := by
  refine enter (loc := [(Str.ofString "value", v)]) T_law_flag rfl (nl0 hN rfl) rfl rfl ?_
  (refine s_cons ?_; refine s_ret ?_; refine w_call rfl ?_; refine w_es1 ?_; refine w_str ?_; refine w_es1 ?_; refine w_list ?_; refine w_es1 ?_; refine w_name rfl rfl ?_; refine w_es0 ?_)
  refine ⟨by simp, alloc fun a H1 f1 e1 g1 o1 => ?_⟩
  (refine w_es0 ?_)
  refine vec_ok (nl1 hN rfl) fun y dy H2 fy fdy hyd e2 o2 iy ddy => ?_
  (refine f_ret ?_; refine f_rr ?_)
  exact h y dy a H2 (e1.trans e2) ⟨iy, ddy, e2 _ _ g1⟩
/-- the kinds that the law draws -/
noncomputable def kindN : Nat → Str
  | 0 => Str.ofString "integer"
  | 1 => Str.ofString "character"
  | _ => Str.ofString "logical"
theorem law_vector_ok (hN : 2 ≤ N) {a : Addr} {hs : List Nat} (ha : H a = some (.list (hs.map pAV))) (hl : hs.length ≤ 40)
    (h : ∀ (x dx it : Addr) (k : Str) (xs : List AV) (H' : AH) (hs' : List Nat), H x = none → H dx = none → it ≠ a → KS k → (∀ v ∈ xs, ItemOk k v) → (∀ v ∈ xs, Sc v) → xs.length ≤ 9 → ExtB a H H' → H' a = some (.list (hs'.map pAV)) → hs'.length ≤ 40 → VecAt H' x dx k it xs .none false false → Φ (.ref x) H') :
    Γ TT N (.fn (Str.ofString "_law_vector")) [.ref a] H Φ := by
  refine enter (loc := [(Str.ofString "hat", .ref a)]) T_law_vector rfl (nl0 hN rfl) rfl rfl ?_
  (refine s_cons ?_; refine s_set rfl ?_; refine w_sub rfl ?_; refine w_list ?_; refine w_es1 ?_; refine w_str ?_; refine w_es1 ?_; refine w_str ?_; refine w_es1 ?_; refine w_str ?_; refine w_es0 ?_)
  refine ⟨by simp, alloc fun kl H1 f1 e1 g1 o1 => ?_⟩
  (refine w_call rfl ?_; refine w_es1 ?_; refine w_name rfl rfl ?_; refine w_es1 ?_; refine w_int ?_; refine w_es0 ?_)
  refine k_fn rfl (law_out_ok (bd := 3) (nl1 hN rfl) (e1 _ _ ha) hl (by decide) fun v hs1 H2 hv l1 e2 g2 => ?_)
  have nkl : kl ≠ a := Ne.symm (ne_of ha f1)
  have hk : ([AV.str (Str.ofString "integer"), .str (Str.ofString "character"), .str (Str.ofString "logical")])[((v : Nat) : Int).toNat]? = some (.str (kindN v)) := by
    obtain rfl | rfl | rfl : v = 0 ∨ v = 1 ∨ v = 2 := by omega
    · rfl
    · rfl
    · rfl
  have ks : KS (kindN v) := by
    obtain rfl | rfl | rfl : v = 0 ∨ v = 1 ∨ v = 2 := by omega
    · exact .inl rfl
    · exact .inr (.inl rfl)
    · exact .inr (.inr rfl)
  refine i_list (e2 _ _ nkl g1) (by simp) (Int.natCast_nonneg v) hk ?_
  generalize kindN v = kd at ks
  have b2 : ExtB a H H2 := fun b o n q => e2 _ _ n (e1 _ _ q)
  (refine f_next ?_; refine s_cons ?_; refine s_set rfl ?_; refine w_list ?_; refine w_es0 ?_)
  refine ⟨by simp, alloc fun il H3 f3 e3 g3 o3 => ?_⟩
  have nil : il ≠ a := Ne.symm (ne_of g2 f3)
  have fil : H il = none := by
    cases q : H il with
    | none => rfl
    | some o => have := b2 _ _ nil q; rw [f3] at this; cases this
  (refine f_next ?_; refine s_cons ?_)
  refine s_for rfl ?_
  (refine w_call rfl ?_; refine w_es1 ?_; refine w_call rfl ?_; refine w_es1 ?_; refine w_name rfl rfl ?_; refine w_es1 ?_; refine w_int ?_; refine w_es0 ?_)
  refine k_fn rfl (law_out_ok (bd := 10) (nl1 hN rfl) (e3 _ _ g2) l1 (by decide) fun n hs2 H4 hn l2 e4 g4 => ?_)
  (refine w_es0 ?_)
  refine k_built rfl (q_range1 (by omega) (alloc fun rg H5 f5 e5 g5 o5 => ?_))
  have nra : rg ≠ a := Ne.symm (ne_of g4 f5)
  have g5i := e5 _ _ (e4 _ _ nil g3)
  have nri : rg ≠ il := Ne.symm (ne_of (e4 _ _ nil g3) f5)
  have b5 : ExtB a H H5 := fun b o q z => e5 _ _ (e4 _ _ q (e3 _ _ (b2 _ _ q z)))
  refine for_go (loc₁ := [(Str.ofString "hat", .ref a), (Str.ofString "kind", .str kd), (Str.ofString "items", .ref il)]) g5 (items_range n) (by simp; omega) (fun _ _ e => e)
    (fun (d r : List AV) (l : Loc) (H' : AH) => ∃ (us : List AV) (hs' : List Nat), l = [(Str.ofString "hat", .ref a), (Str.ofString "kind", .str kd), (Str.ofString "items", .ref il)] ∧ d.length + r.length = n ∧ ExtC a il H5 H' ∧ H' il = some (.list us) ∧ us.length = d.length ∧ (∀ v ∈ us, ItemOk kd v) ∧ (∀ v ∈ us, Sc v) ∧ H' a = some (.list (hs'.map pAV)) ∧ hs'.length ≤ 40)
    ⟨[], hs2, rfl, by simp, .refl, g5i, rfl, (fun _ q => nomatch q), (fun _ q => nomatch q), e5 _ _ g4, l2⟩ (fun d r l H' z0 => by obtain ⟨_, _, _, _, e, _⟩ := z0; exact e _ _ nra nri g5) ?_ ?_
  · rintro d w r l H6 K ⟨us, hs3, rfl, hdr, e6, g6, ul, ok, sc, ga6, l3⟩ hK
    have next : ∀ lx H8 u hs', LocLe [(Str.ofString "hat", .ref a), (Str.ofString "kind", .str kd), (Str.ofString "items", .ref il)] lx → ExtC a il H6 H8 → ItemOk kd u → Sc u → H8 il = some (.list (us ++ [u])) → H8 a = some (.list (List.map pAV hs')) → hs'.length ≤ 40 → K lx H8 := fun lx H8 u hs' hle e8 ou su g8 ga8 l8 =>
      hK _ lx H8 hle ⟨us ++ [u], hs', rfl, by simp at hdr ⊢; omega, e6.trans e8, g8, by simp [ul], fun v hv => by
        rcases List.mem_append.mp hv with q | q
        · exact ok v q
        · rw [List.mem_singleton.mp q]; exact ou, fun v hv => by
        rcases List.mem_append.mp hv with q | q
        · exact sc v q
        · rw [List.mem_singleton.mp q]; exact su, ga8, l8⟩
    have ulen : us.length ≤ 4096 := by simp at hdr; omega
    (refine s_cons ?_; refine s_set rfl ?_; refine w_call rfl ?_; refine w_es1 ?_; refine w_name rfl rfl ?_; refine w_es1 ?_; refine w_int ?_; refine w_es0 ?_)
    refine k_fn rfl (law_out_ok (bd := 7) (nl1 hN rfl) ga6 l3 (by decide) fun m hs4 H7 hm l4 e7 g7 => ?_)
    have e67 : ExtC a il H6 H7 := fun c o h1 h2 q => e7 _ _ h1 q
    have g7i := e7 _ _ nil g6
    (refine f_next ?_; refine s_cons ?_; refine s_if ?_; refine t_cmp rfl ?_; refine w_name rfl rfl ?_; refine w_int ?_; refine c_eqi ?_)
    refine ifs (fun c => ?_) fun c => ?_
    · (refine s_cons ?_; refine s_expr ?_; refine w_meth rfl ?_; refine w_name rfl rfl ?_)
      refine m_append g7i ?_
      (refine w_es1 ?_; refine w_none ?_; refine w_es0 ?_)
      refine push g7i ulen fun H8 g8 o8 => ?_
      (refine f_next ?_; refine s_nil ?_; refine f_next ?_; refine s_nil ?_; refine f_tn ?_)
      exact next _ H8 .none hs4 (.cons rfl (.cons rfl (.cons rfl .nil))) (e67.trans fun c o h1 h2 q => (o8 c h2).trans q) (.inl rfl) (.inl rfl) g8 ((o8 _ (Ne.symm nil)).trans g7) l4
    · have c : m < 6 := by have := of_decide_eq_false c; omega
      (refine s_cons ?_; refine s_if ?_; refine t_cmp rfl ?_; refine w_name rfl rfl ?_; refine w_str ?_; refine c_eqs ?_)
      refine ifs (fun c1 => ?_) fun c1 => ?_
      · have c1 : kd = Str.ofString "integer" := of_decide_eq_true c1
        (refine s_cons ?_; refine s_expr ?_; refine w_meth rfl ?_; refine w_name rfl rfl ?_)
        refine m_append g7i ?_
        (refine w_es1 ?_; refine w_sub rfl ?_; refine w_list ?_; refine w_es1 ?_; refine w_int ?_; refine w_es1 ?_; refine w_int ?_; refine w_es1 ?_; refine w_neg ?_; refine w_int ?_; refine f_neg ?_; refine w_es1 ?_; refine w_int ?_; refine w_es1 ?_; refine w_int ?_; refine w_es1 ?_; refine w_int ?_; refine w_es0 ?_)
        refine ⟨Nat.le_of_ble_eq_true rfl, alloc fun ll H8 f8 e8 g8 o8 => ?_⟩
        (refine w_name rfl rfl ?_)
        refine i_list g8 (Nat.le_of_ble_eq_true rfl) (Int.natCast_nonneg m) (List.getElem?_eq_getElem (by rw [Int.toNat_natCast]; exact c)) ?_
        (refine w_es0 ?_)
        generalize hu : ([AV.int 10, AV.int 9, AV.int (-1), AV.int 0, AV.int 100, AV.int 9])[((m : Nat) : Int).toNat]'(by rw [Int.toNat_natCast]; exact c) = u
        have um : u ∈ [AV.int 10, AV.int 9, AV.int (-1), AV.int 0, AV.int 100, AV.int 9] := by rw [← hu]; exact List.getElem_mem _
        obtain ⟨i, rfl⟩ : ∃ i, u = .int i := by
          have : ∀ v ∈ [AV.int 10, AV.int 9, AV.int (-1), AV.int 0, AV.int 100, AV.int 9], ∃ i, v = .int i := by
            intro v hv
            simp at hv
            rcases hv with rfl | rfl | rfl | rfl | rfl | rfl <;> exact ⟨_, rfl⟩
          exact this u um
        refine push (e8 _ _ g7i) ulen fun H9 g9 o9 => ?_
        (refine f_next ?_; refine s_nil ?_; refine f_next ?_; refine s_nil ?_; refine f_next ?_; refine s_nil ?_; refine f_tn ?_)
        exact next _ H9 _ hs4 (.cons rfl (.cons rfl (.cons rfl .nil))) (e67.trans fun c o h1 h2 q => (o9 c h2).trans (e8 _ _ q)) (.inr (.inr ⟨.inl c1, i, rfl⟩)) (.inr (.inl ⟨i, rfl⟩)) g9 ((o9 _ (Ne.symm nil)).trans (e8 _ _ g7)) l4
      · (refine s_cons ?_; refine s_if ?_; refine t_cmp rfl ?_; refine w_name rfl rfl ?_; refine w_str ?_; refine c_eqs ?_)
        refine ifs (fun c2 => ?_) fun c2 => ?_
        · have c2 : kd = Str.ofString "character" := of_decide_eq_true c2
          (refine s_cons ?_; refine s_expr ?_; refine w_meth rfl ?_; refine w_name rfl rfl ?_)
          refine m_append g7i ?_
          (refine w_es1 ?_; refine w_sub rfl ?_; refine w_list ?_; refine w_es1 ?_; refine w_str ?_; refine w_es1 ?_; refine w_str ?_; refine w_es1 ?_; refine w_str ?_; refine w_es1 ?_; refine w_str ?_; refine w_es1 ?_; refine w_str ?_; refine w_es1 ?_; refine w_str ?_; refine w_es0 ?_)
          refine ⟨Nat.le_of_ble_eq_true rfl, alloc fun ll H8 f8 e8 g8 o8 => ?_⟩
          (refine w_name rfl rfl ?_)
          refine i_list g8 (Nat.le_of_ble_eq_true rfl) (Int.natCast_nonneg m) (List.getElem?_eq_getElem (by rw [Int.toNat_natCast]; exact c)) ?_
          (refine w_es0 ?_)
          generalize hu : ([AV.str (Str.ofString "b"), AV.str (Str.ofString "a"), AV.str (Str.ofString ""), AV.str (Str.ofString "B"), AV.str (Str.ofString "ab"), AV.str (Str.ofString "a")])[((m : Nat) : Int).toNat]'(by rw [Int.toNat_natCast]; exact c) = u
          have um : u ∈ [AV.str (Str.ofString "b"), AV.str (Str.ofString "a"), AV.str (Str.ofString ""), AV.str (Str.ofString "B"), AV.str (Str.ofString "ab"), AV.str (Str.ofString "a")] := by rw [← hu]; exact List.getElem_mem _
          obtain ⟨i, rfl, hi⟩ : ∃ i, u = .str i ∧ PySem.PyData.strOk i = true := by
            have : ∀ v ∈ [AV.str (Str.ofString "b"), AV.str (Str.ofString "a"), AV.str (Str.ofString ""), AV.str (Str.ofString "B"), AV.str (Str.ofString "ab"), AV.str (Str.ofString "a")], ∃ i, v = .str i ∧ PySem.PyData.strOk i = true := by
              intro v hv
              simp only [List.mem_cons, List.not_mem_nil, or_false] at hv
              rcases hv with rfl | rfl | rfl | rfl | rfl | rfl <;> exact ⟨_, rfl, by decide +kernel⟩
            exact this u um
          refine push (e8 _ _ g7i) ulen fun H9 g9 o9 => ?_
          (refine f_next ?_; refine s_nil ?_; refine f_next ?_; refine s_nil ?_; refine f_next ?_; refine s_nil ?_; refine f_next ?_; refine s_nil ?_; refine f_tn ?_)
          exact next _ H9 _ hs4 (.cons rfl (.cons rfl (.cons rfl .nil))) (e67.trans fun c o h1 h2 q => (o9 c h2).trans (e8 _ _ q)) (.inr (.inl ⟨c2, i, rfl⟩)) (.inr (.inr ⟨i, rfl, hi⟩)) g9 ((o9 _ (Ne.symm nil)).trans (e8 _ _ g7)) l4
        · have c3 : kd = Str.ofString "logical" := by
            rcases ks with rfl | rfl | rfl
            · simp at c1
            · simp at c2
            · rfl
          (refine s_cons ?_; refine s_expr ?_; refine w_meth rfl ?_; refine w_name rfl rfl ?_)
          refine m_append g7i ?_
          (refine w_es1 ?_; refine w_bin ?_; refine w_name rfl rfl ?_; refine w_int ?_)
          refine o_mod (by decide) ?_
          (refine w_es0 ?_)
          refine push g7i ulen fun H8 g8 o8 => ?_
          (refine f_next ?_; refine s_nil ?_; refine f_next ?_; refine s_nil ?_; refine f_next ?_; refine s_nil ?_; refine f_next ?_; refine s_nil ?_; refine f_tn ?_)
          exact next _ H8 _ hs4 (.cons rfl (.cons rfl (.cons rfl .nil))) (e67.trans fun c o h1 h2 q => (o8 c h2).trans q) (.inr (.inr ⟨.inr c3, _, rfl⟩)) (.inr (.inl ⟨_, rfl⟩)) g8 ((o8 _ (Ne.symm nil)).trans g7) l4
  · rintro d l H6 ⟨us, hs3, rfl, hdr, e6, g6, ul, ok, sc, ga6, l3⟩
    (refine f_next ?_; refine s_cons ?_; refine s_ret ?_; refine w_call rfl ?_; refine w_es1 ?_; refine w_name rfl rfl ?_; refine w_es1 ?_; refine w_name rfl rfl ?_; refine w_es0 ?_)
    refine vec_ok (nl1 hN rfl) fun y dy H7 fy fdy hyd e7 o7 iy ddy => ?_
    (refine f_ret ?_; refine f_rr ?_)
    have b7 : ExtB a H H7 := fun b o n q => e7 _ _ (e6 _ _ n (ne_of q fil) (b5 _ _ n q))
    have back : ∀ b, H6 b = none → H b = none := fun b q => by
      cases z : H b with
      | none => rfl
      | some o =>
        by_cases w : b = a
        · rw [w, ga6] at q; cases q
        · have := e6 _ _ w (ne_of z fil) (b5 _ _ w z)
          rw [q] at this; cases this
    exact h y dy il kd us H7 hs3 (back _ fy) (back _ fdy) nil ks ok sc (by simp at hdr; omega) b7 (e7 _ _ ga6) l3 ⟨iy, ddy, e7 _ _ g6⟩
end
section
variable {G : GT} {sc : Scope} {loc : Loc} {H : AH}
/-- a test whose ways meet again -/
theorem s_if_join {t : Expr} {b o : List Stmt} {q : Pos} {Ψ : AF → Loc → AH → Prop} (I : Loc → AH → Prop) (k : ∀ Ψ' : AF → Loc → AH → Prop, (∀ l H', I l H' → Ψ' .next l H') → wpT G t sc loc H (wpE G t sc loc H) fun c H₁ => if c then wpSs G b sc loc H₁ Ψ' else wpSs G o sc loc H₁ Ψ')
    (c : ∀ l H', I l H' → Ψ .next l H') : wpS G (.If t b o q) sc loc H Ψ := k Ψ c
theorem ite_int {c : Bool} {i j : Int} {Φ : AV → AH → Prop} {k1 k2 : Nat} {p q : Pos} (h : Φ (.int (if c = true then i else j)) H) : if c = true then wpE G (.Constant (.int i) k1 p) sc loc H Φ else wpE G (.Constant (.int j) k2 q) sc loc H Φ := by
  cases c
  · exact h
  · exact h
end
/-- the law's vector, its names, and the names' list as the law has it -/
structure LSt (H : AH) (hat x dx it : Addr) (k : Str) (xs : List AV) (at_ hv : AV) (ns : Option (List AV)) : Prop where
  v : VecAt H x dx k it xs at_ false false
  n : it ≠ hat
  m : match ns with
    | none => at_ = .none ∧ hv = .none
    | some l => ∃ d nv dn hl, at_ = .ref d ∧ hv = .ref hl ∧ hl ≠ hat ∧ H d = some (.dict [(Str.ofString "names", .ref nv)]) ∧ VecAt H nv dn (Str.ofString "character") hl l .none false false ∧ l.length = xs.length ∧ ∀ v ∈ l, Sc v
section
variable {H : AH} {hat x dx it : Addr} {k : Str} {xs : List AV} {at_ hv : AV} {ns : Option (List AV)}
theorem LSt.extB {H' : AH} {l0 : List AV} (S : LSt H hat x dx it k xs at_ hv ns) (hh : H hat = some (.list l0)) (e : ExtB hat H H') : LSt H' hat x dx it k xs at_ hv ns := by
  refine ⟨⟨e _ _ (ne_obj S.v.i hh (by simp)) S.v.i, e _ _ (ne_obj S.v.d hh (by simp)) S.v.d, e _ _ S.n S.v.l⟩, S.n, ?_⟩
  have m := S.m
  cases ns with
  | none => exact m
  | some l =>
    obtain ⟨d, nv, dn, hl, h1, h2, h3, h4, h5, h6⟩ := m
    exact ⟨d, nv, dn, hl, h1, h2, h3, e _ _ (ne_obj h4 hh (by simp)) h4, ⟨e _ _ (ne_obj h5.i hh (by simp)) h5.i, e _ _ (ne_obj h5.d hh (by simp)) h5.d, e _ _ h3 h5.l⟩, h6⟩
theorem LSt.ext {H' : AH} (S : LSt H hat x dx it k xs at_ hv ns) (e : Ext H H') : LSt H' hat x dx it k xs at_ hv ns := by
  refine ⟨S.v.ext e, S.n, ?_⟩
  have m := S.m
  cases ns with
  | none => exact m
  | some l =>
    obtain ⟨d, nv, dn, hl, h1, h2, h3, h4, h5, h6⟩ := m
    exact ⟨d, nv, dn, hl, h1, h2, h3, e _ _ h4, h5.ext e, h6⟩
theorem LSt.nm (S : LSt H hat x dx it k xs at_ hv ns) (hl : xs.length ≤ 9) : NmAt H at_ ns := by
  have m := S.m
  cases ns with
  | none => exact m.1
  | some l =>
    obtain ⟨d, nv, dn, hl', h1, h2, h3, h4, h5, h6, h7⟩ := m
    exact ⟨d, nv, dn, hl', false, h1, h4, h5, by omega⟩
theorem LSt.ln (S : LSt H hat x dx it k xs at_ hv ns) : ∀ l, ns = some l → l.length = xs.length ∧ ∀ v ∈ l, Sc v := fun l e => by
  subst e
  obtain ⟨d, nv, dn, hl', h1, h2, h3, h4, h5, h6, h7⟩ := S.m
  exact ⟨h6, h7⟩
/-- what where says of NA -/
noncomputable def lastW : AV → Bool
  | .int i => !decide (i = 0)
  | _ => true
noncomputable def WhereOk (v : AV) : Prop := v = .none ∨ v = .int 1 ∨ v = .int 0
theorem where_last {v : AV} (h : WhereOk v) : nlLast (flagV v) = lastW v := by
  rcases h with rfl | rfl | rfl <;> rfl
theorem where_none {v : AV} (h : WhereOk v) : isNone (flagV v) = isNone v := by
  rcases h with rfl | rfl | rfl <;> rfl
theorem where_b {v : AV} (h : WhereOk v) : flagV v = .none ∨ ∃ b, flagV v = .bool b := by
  rcases h with rfl | rfl | rfl
  · exact .inl rfl
  · exact .inr ⟨_, rfl⟩
  · exact .inr ⟨_, rfl⟩
theorem where_f {v : AV} (h : WhereOk v) : v = .none ∨ ∃ i, v = .int i := by
  rcases h with rfl | rfl | rfl
  · exact .inl rfl
  · exact .inr ⟨_, rfl⟩
  · exact .inr ⟨_, rfl⟩
theorem c_where {v : AV} {Κ : Bool → Prop} (h : WhereOk v) (k : Κ (lastW v)) : cmpA .NotEq v (.int 0) H Κ := by
  rcases h with rfl | rfl | rfl <;> exact k
end
section
variable {N : Nat} {H : AH} {Φ : AV → AH → Prop}
theorem chr_sc {i : Nat} (h : i < 15) : Sc (.str ⟨#[(112 + (i : Int)).toNat]⟩) := by
  refine .inr (.inr ⟨_, rfl, ?_⟩)
  have : (112 + (i : Int)).toNat = 112 + i := by omega
  rw [this]
  simp [PySem.PyData.strOk]
  omega
theorem mt_order : matchF orderF [.str (Str.ofString "decreasing"), .none, .str (Str.ofString "na.last")] = some ([(Str.ofString "na.last", .int 2), (Str.ofString "decreasing", .int 0)], [1]) := by rfl
theorem mt_sort : matchF sortF [.str (Str.ofString "x"), .none, .str (Str.ofString "na.last")] = some ([(Str.ofString "x", .int 0), (Str.ofString "na.last", .int 2), (Str.ofString "decreasing", .int 1)], []) := by rfl
theorem mt_sort0 : matchF sortF [.none] = some ([(Str.ofString "x", .int 0)], []) := by rfl
theorem mt_order0 : matchF orderF [.none, .str (Str.ofString "na.last")] = some ([(Str.ofString "na.last", .int 1)], [0]) := by rfl
theorem mt_rank : matchF rankF [.none, .str (Str.ofString "ties.method")] = some ([(Str.ofString "ties.method", .int 1), (Str.ofString "x", .int 0)], []) := by rfl
end
theorem getL_set (es : List (Str × AV)) (n : Str) (v : AV) : getL (setL es n v) n = some v := by
  induction es with
  | nil => show (if n = n then some v else none) = _; rw [if_pos rfl]
  | cons p r ih =>
    obtain ⟨m, w⟩ := p
    by_cases q : m = n
    · subst q
      show getL (if m = m then (m, v) :: r else _) m = _
      rw [if_pos rfl]
      show (if m = m then some v else _) = _
      rw [if_pos rfl]
    · show getL (if m = n then _ else (m, w) :: setL r n v) n = _
      rw [if_neg q]
      show (if m = n then some w else getL (setL r n v) n) = _
      rw [if_neg q]; exact ih
theorem getL_set_ne (es : List (Str × AV)) {n m : Str} (v : AV) (h : m ≠ n) : getL (setL es n v) m = getL es m := by
  induction es with
  | nil => show (if n = m then some v else none) = none; rw [if_neg (Ne.symm h)]
  | cons p r ih =>
    obtain ⟨o, w⟩ := p
    by_cases q : o = n
    · subst q
      show getL (if o = o then (o, v) :: r else _) m = _
      rw [if_pos rfl]
      show (if o = m then some v else _) = (if o = m then some w else _)
      rw [if_neg (Ne.symm h), if_neg (Ne.symm h)]
    · show getL (if o = n then _ else (o, w) :: setL r n v) m = _
      rw [if_neg q]
      show (if o = m then some w else getL (setL r n v) m) = (if o = m then some w else getL r m)
      rw [ih]
theorem setL_len (es : List (Str × AV)) (n : Str) (v : AV) : (setL es n v).length ≤ es.length + 1 := by
  induction es with
  | nil => exact Nat.le_refl _
  | cons p r ih =>
    obtain ⟨o, w⟩ := p
    show (if o = n then (o, v) :: r else (o, w) :: setL r n v).length ≤ _
    split
    · simp
    · simp; exact ih
theorem ties_ne {t u : Ties} (h : t ≠ u) : t.name ≠ u.name := by
  cases t <;> cases u <;> first | exact absurd rfl h | decide +kernel
/-- the ranks that the law has kept so far -/
noncomputable def RankD (H : AH) (z : Addr) (xs : List AV) (qs : List Nat) (es : List (Str × AV)) (t : Ties) : Prop := ∃ (ity : Addr) (rk : List AV), ity ≠ z ∧ getL es t.name = some (AV.ref ity) ∧ H ity = some (AO.list rk) ∧ Ranked H t xs qs rk qs.length
theorem w_ife_join {G : GT} {sc : Scope} {loc : Loc} {H : AH} {Φ : AV → AH → Prop} {t b o : Expr} {p : Pos} (I : AV → AH → Prop) (k : ∀ Φ' : AV → AH → Prop, (∀ v H', I v H' → Φ' v H') → wpT G t sc loc H (wpE G t sc loc H) fun c H₁ => if c then wpE G b sc loc H₁ Φ' else wpE G o sc loc H₁ Φ') (c : ∀ v H', I v H' → Φ v H') : wpE G (.IfExp t b o p) sc loc H Φ := k Φ c
theorem low_len (xs : List AV) (u : AV) : ((xs.filterMap fun v => if isNone v = true then none else some v).filterMap fun v => if ltV v u = true then some v else none).length = lowC xs u := by
  unfold lowC
  induction xs with
  | nil => rfl
  | cons v r ih =>
    cases c : isNone v <;> cases c2 : ltV v u <;> simp [c, c2, ih]
theorem high_len (xs : List AV) (u : AV) : ((xs.filterMap fun v => if isNone v = true then none else some v).filterMap fun v => if (!ltV u v) = true then some v else none).length = highC xs u := by
  unfold highC
  induction xs with
  | nil => rfl
  | cons v r ih =>
    simp at ih
    cases c : isNone v <;> cases c2 : ltV u v <;> simp [c, c2, ih]
theorem ne_rank {H : AH} {Κ : Bool → Prop} {la lb t u : Addr} {a b p q : Int} (ha : H la = some (.list [.int a, .int b, .ref t])) (hb : H lb = some (.list [.int a, .int b, .ref u])) (ht : H t = some (.tuple [.int p, .int q])) (hu : H u = some (.tuple [.int p, .int q])) (k : Κ false) : cmpA .NotEq (.ref la) (.ref lb) H Κ := by
  have d2 : ∀ t, H t = some (.tuple [.int p, .int q]) → datA H 2 (.ref t) = some (.tuple [.int p, .int q]) := fun t h => by
    show (match H t with | some (.list vs) => (vs.mapM (datA H 1)).map PyData.list | some (.tuple vs) => (vs.mapM (datA H 1)).map PyData.tuple | _ => none) = _
    rw [h]; rfl
  have d3 : ∀ l t, H l = some (.list [.int a, .int b, .ref t]) → H t = some (.tuple [.int p, .int q]) → datA H 3 (.ref l) = some (.list [.int a, .int b, .tuple [.int p, .int q]]) := fun l t h h' => by
    show (match H l with | some (.list vs) => (vs.mapM (datA H 2)).map PyData.list | some (.tuple vs) => (vs.mapM (datA H 2)).map PyData.tuple | _ => none) = _
    rw [h]
    dsimp only
    rw [List.mapM_cons, List.mapM_cons, List.mapM_cons, d2 t h']
    rfl
  refine c_ner _ _ (d3 la t ha ht) (d3 lb u hb hu) ?_ ?_
  · simp [PySem.SeqAt.shaped, PySem.SeqAt.noMix, PySem.SeqAt.noMixAll, PyData.canLay0, PyData.canLayAll0, PyData.depth, PyData.depthAll]
  · rw [PyProof.Rows.same_iff.mpr rfl]; exact k
theorem law_told_none {N : Nat} {H : AH} {Φ : AV → AH → Prop} {x dx it : Addr} {k : Str} {xs : List AV} {at_ : AV} {sh lo : Bool} (hN : 1 ≤ N) (V : VecAt H x dx k it xs at_ sh lo) (hn : NmAt H at_ none) (h : Φ .none H) : Γ TT N (.fn (Str.ofString "_law_told")) [.ref x] H Φ := law_told_ok (ns := none) hN V hn h
theorem law_told_some {N : Nat} {H : AH} {Φ : AV → AH → Prop} {x dx it : Addr} {k : Str} {xs : List AV} {at_ : AV} {sh lo : Bool} {l : List AV} (hN : 1 ≤ N) (V : VecAt H x dx k it xs at_ sh lo) (hn : NmAt H at_ (some l)) (h : ∀ a, H a = some (.list l) → Φ (.ref a) H) : Γ TT N (.fn (Str.ofString "_law_told")) [.ref x] H Φ := law_told_ok (ns := some l) hN V hn h

set_option maxHeartbeats 4000000 in
theorem law_ok {N : Nat} {H : AH} {Φ : AV → AH → Prop} (hN : 11 ≤ N) {a : Addr} {ns0 : List Int} {ob : Obj} (ha : H a = some (.klist (ns0.map .int) ob)) (hl0 : ns0.length ≤ 63) (h : ∀ H', Ext H H' → Φ (.bool true) H') : Γ TT N (.fn (Str.ofString "law")) [.ref a] H Φ := by
  refine enter (loc := [(Str.ofString "script", .ref a)]) T_law rfl (nl0 hN rfl) rfl rfl ?_
  (refine s_cons ?_; refine s_set rfl ?_; refine w_call rfl ?_; refine w_es1 ?_; refine w_name rfl rfl ?_; refine w_es0 ?_)
  refine k_fn rfl (law_hat_ok (nl1 hN rfl) ha hl0 fun hat H1 hs f1 e1 g1 l1 => ?_)
  (refine f_next ?_; refine s_cons ?_; refine s_set rfl ?_; refine w_call rfl ?_; refine w_es1 ?_; refine w_name rfl rfl ?_; refine w_es0 ?_)
  refine k_fn rfl (law_vector_ok (nl1 hN rfl) g1 l1 fun x dx it k xs H2 hs2 fx fdx nit hk hx sc hl e2 g2 l2 V => ?_)
  have fdx0 : H dx = none := e1.no fdx
  have fx0 : H x = none := e1.no fx
  have E2 : Ext H H2 := e2.out e1 f1
  (refine f_next ?_; refine s_cons ?_; refine s_set rfl ?_; refine w_call rfl ?_; refine w_es1 ?_; refine w_attr rfl ?_; refine w_name rfl rfl ?_)
  refine a_attr V.i V.d rfl rfl ?_
  (refine w_es0 ?_)
  refine k_built rfl (q_len V.l (by omega) ?_)
  (refine f_next ?_; refine s_cons ?_; refine s_set rfl ?_; refine w_none ?_; refine f_next ?_; refine s_cons ?_)
  refine s_if_join (fun l H' => ∃ (at_ hv : AV) (ns : Option (List AV)) (hs' : List Nat), l = [(Str.ofString "script", .ref a), (Str.ofString "hat", .ref hat), (Str.ofString "v", .ref x), (Str.ofString "many", .int xs.length), (Str.ofString "heads", hv)] ∧ Ext H H' ∧ LSt H' hat x dx it k xs at_ hv ns ∧ H' hat = some (.list (hs'.map pAV)) ∧ hs'.length ≤ 40) (fun Ψ' hΨ => ?_) ?_
  · (refine t_cmp rfl ?_; refine w_call rfl ?_; refine w_es1 ?_; refine w_name rfl rfl ?_; refine w_es1 ?_; refine w_int ?_; refine w_es0 ?_)
    refine k_fn rfl (law_out_ok (bd := 2) (nl1 hN rfl) g2 l2 (by decide) fun v hs3 H3 hv l3 e3 g3 => ?_)
    have V3 : LSt H3 hat x dx it k xs .none .none none := LSt.extB (l0 := hs2.map pAV) ⟨V, nit, rfl, rfl⟩ g2 e3
    have E3 : Ext H H3 := e3.out E2 f1
    (refine w_int ?_; refine c_eqi ?_)
    refine ifs (fun c => ?_) fun c => ?_
    · (refine s_cons ?_; refine s_set rfl ?_)
      refine e_comp0 rfl ?_
      (refine w_call rfl ?_; refine w_es1 ?_; refine w_name rfl rfl ?_; refine w_es0 ?_)
      refine k_built rfl (q_range1 (by omega) (alloc fun rg H4 f4 e4 g4 o4 => ?_))
      refine comp_go (fun v => match v with | .int i => some (.str ⟨#[(112 + i).toNat]⟩) | _ => none) g4 (items_range xs.length) (by simp; omega) (fun v hv K hK => ?_) ?_
      · obtain ⟨i, hi, rfl⟩ := List.mem_map.mp hv
        have := List.mem_range.mp hi
        change wpE _ _ _ (setL _ _ (.int (i : Int))) _ _
        (refine w_call rfl ?_; refine w_es1 ?_; refine w_bin ?_; refine w_int ?_; refine w_name rfl rfl ?_; refine o_add ?_; refine w_es0 ?_)
        refine k_built rfl (q_chr (by omega) ?_)
        exact hK
      have hmap : ((List.range xs.length).map pAV).filterMap (fun v => match v with | .int i => some (AV.str ⟨#[(112 + i).toNat]⟩) | _ => none) = (List.range xs.length).map fun (i : Nat) => AV.str ⟨#[(112 + (i : Int)).toNat]⟩ := by
        rw [List.filterMap_map]
        exact congrFun (List.filterMap_eq_map (f := fun (i : Nat) => AV.str ⟨#[(112 + (i : Int)).toNat]⟩)) _
      rw [hmap]
      refine alloc fun hd H5 f5 e5 g5 o5 => ?_
      (refine f_next ?_; refine s_cons ?_; refine s_attr ?_; refine w_dict1 ?_; refine w_call rfl ?_; refine w_es1 ?_; refine w_str ?_; refine w_es1 ?_; refine w_name rfl rfl ?_; refine w_es0 ?_)
      refine vec_ok (nl1 hN rfl) fun z dz H6 fz fdz hzd e6 o6 iz ddz => ?_
      skip
      refine alloc fun dd H7 f7 e7 g7 o7 => ?_
      have e37 := e4.trans (e5.trans (e6.trans e7))
      have S7 := V3.ext e37
      (refine w_name rfl rfl ?_)
      refine set_attr S7.v.i S7.v.d rfl (Nat.le_of_ble_eq_true rfl) fun H8 i8 d8 o8 => ?_
      refine hΨ _ _ ⟨.ref dd, .ref hd, some ((List.range xs.length).map fun (i : Nat) => AV.str ⟨#[(112 + (i : Int)).toNat]⟩), hs3, rfl, fun b o q => (o8 b (ne_of q fdx0)).trans (e37 _ _ (E3 _ _ q)), ⟨⟨i8, d8, (o8 _ (ne_obj S7.v.l S7.v.d (by simp))).trans S7.v.l⟩, nit, dd, z, dz, hd, rfl, rfl, ?_, ?_, ⟨?_, ?_, ?_⟩, by simp, ?_⟩, ?_, l3⟩
      · exact Ne.symm (ne_of ((e4 _ _ g3)) f5)
      · refine (o8 _ ?_).trans g7
        exact Ne.symm (ne_of ((e4.trans (e5.trans e6)) _ _ V3.v.d) f7)
      · refine (o8 _ ?_).trans (e7 _ _ iz)
        exact ne_obj (e7 _ _ iz) S7.v.d (by simp)
      · refine (o8 _ ?_).trans (e7 _ _ ddz)
        exact Ne.symm (ne_of ((e4.trans e5) _ _ V3.v.d) fdz)
      · refine (o8 _ (ne_obj ((e6.trans e7) _ _ g5) S7.v.d (by simp))).trans ((e6.trans e7) _ _ g5)
      · intro v hv
        obtain ⟨i, hi, rfl⟩ := List.mem_map.mp hv
        have := List.mem_range.mp hi
        exact chr_sc (by omega)
      · exact (o8 _ (ne_obj (e37 _ _ g3) S7.v.d (by simp))).trans (e37 _ _ g3)
    · (refine s_nil ?_)
      exact hΨ _ _ ⟨.none, .none, none, hs3, rfl, E3, V3, g3, l3⟩
  rintro l H3 ⟨at_, hv, ns, hs3, rfl, E3, S3, g3, l3⟩
  (refine f_next ?_; refine s_cons ?_; refine s_set rfl ?_; refine w_cmp rfl ?_; refine w_call rfl ?_; refine w_es1 ?_; refine w_name rfl rfl ?_; refine w_es1 ?_; refine w_int ?_; refine w_es0 ?_)
  refine k_fn rfl (law_out_ok (bd := 2) (nl1 hN rfl) g3 l3 (by decide) fun fv hs4 H4 hfv l4 e4 g4 => ?_)
  have S4 := S3.extB g3 e4
  have E4 : Ext H H4 := e4.out E3 f1
  (refine w_int ?_; refine c_eqi ?_; refine f_next ?_; refine s_cons ?_; refine s_set rfl ?_; refine w_sub rfl ?_; refine w_list ?_; refine w_es1 ?_; refine w_int ?_; refine w_es1 ?_; refine w_int ?_; refine w_es1 ?_; refine w_none ?_; refine w_es0 ?_)
  have FA : ∃ b, decide ((fv : Int) = 1) = b := ⟨_, rfl⟩
  obtain ⟨falls, hfa⟩ := FA
  rw [hfa]
  refine ⟨by simp, alloc fun wl H5 f5 e5 g5 o5 => ?_⟩
  have nwl : wl ≠ hat := Ne.symm (ne_of g4 f5)
  (refine w_call rfl ?_; refine w_es1 ?_; refine w_name rfl rfl ?_; refine w_es1 ?_; refine w_int ?_; refine w_es0 ?_)
  refine k_fn rfl (law_out_ok (bd := 3) (nl1 hN rfl) (e5 _ _ g4) l4 (by decide) fun wi hs6 H6 hwi l6 e6 g6 => ?_)
  have S6 := (S4.ext e5).extB (e5 _ _ g4) e6
  have E6 : Ext H H6 := e6.out (E4.trans e5) f1
  obtain ⟨wv, hwv, hw⟩ : ∃ wv, ([AV.int 1, AV.int 0, AV.none])[((wi : Nat) : Int).toNat]? = some wv ∧ WhereOk wv := by
    obtain rfl | rfl | rfl : wi = 0 ∨ wi = 1 ∨ wi = 2 := by omega
    · exact ⟨_, rfl, .inr (.inl rfl)⟩
    · exact ⟨_, rfl, .inr (.inr rfl)⟩
    · exact ⟨_, rfl, .inl rfl⟩
  refine i_list (e6 _ _ nwl g5) (by simp) (Int.natCast_nonneg wi) hwv ?_
  clear hwv hwi
  (refine f_next ?_; refine s_cons ?_; refine s_set rfl ?_)
  refine e_comp1 rfl ?_
  (refine w_call rfl ?_; refine w_es1 ?_; refine w_name rfl rfl ?_; refine w_es0 ?_)
  refine k_built rfl (q_range1 (by omega) (alloc fun rg H7 f7 e7 g7 o7 => ?_))
  have S7 := S6.ext e7
  refine comp_go (fun v => match v with | .int i => (if (!(isNone wv && isNone ((xs[i.toNat]?).getD .none))) = true then some v else none) | _ => none) g7 (items_range xs.length) (by simp; omega) (fun v hv K hK => ?_) ?_
  · obtain ⟨p, hp, rfl⟩ := List.mem_map.mp hv
    have hp := List.mem_range.mp hp
    have ep : xs[p]? = some xs[p] := List.getElem?_eq_getElem hp
    simp only [pAV, Int.toNat_natCast, ep, Option.getD_some] at hK
    change wpT _ _ _ (setL _ _ (.int (p : Int))) _ _ _
    (refine t_bop ?_; refine t_or1 ?_; refine t_cmp rfl ?_; refine w_name rfl rfl ?_; refine w_none ?_; refine c_isnot ?_)
    cases c : isNone wv with
    | false =>
      rw [c] at hK
      refine ift rfl ?_
      refine ift rfl ?_
      (refine w_name rfl rfl ?_)
      exact hK
    | true =>
      rw [c] at hK
      refine iff_ rfl ?_
      (refine t_or1 ?_; refine t_cmp rfl ?_; refine w_sub rfl ?_; refine w_attr rfl ?_; refine w_name rfl rfl ?_)
      refine a_attr S7.v.i S7.v.d rfl rfl ?_
      (refine w_name rfl rfl ?_)
      refine i_list S7.v.l (by omega) (Int.natCast_nonneg p) (by rw [Int.toNat_natCast]; exact ep) ?_
      (refine w_none ?_; refine c_isnot ?_)
      cases c2 : isNone xs[p] with
      | true =>
        rw [c2] at hK
        refine iff_ rfl ?_
        (refine t_or0 ?_)
        refine iff_ rfl ?_
        exact hK
      | false =>
        rw [c2] at hK
        refine ift rfl ?_
        refine ift rfl ?_
        (refine w_name rfl rfl ?_)
        exact hK
  have hmap : ((List.range xs.length).map pAV).filterMap (fun v => match v with | .int i => (if (!(isNone wv && isNone ((xs[i.toNat]?).getD .none))) = true then some v else none) | _ => none) = (keptOf xs (isNone wv)).map pAV := by
    rw [List.filterMap_map, keptOf]
    generalize List.range xs.length = l
    induction l with
    | nil => rfl
    | cons j r ih =>
      simp only [List.filterMap_cons, Function.comp, pAV, Int.toNat_natCast, List.filter_cons]
      by_cases c : (!(isNone wv && isNone ((xs[j]?).getD .none))) = true
      · rw [if_pos c, if_pos c, List.map_cons]; exact congrArg _ ih
      · rw [if_neg c, if_neg c]; exact ih
  rw [hmap]
  refine alloc fun wt H8 f8 e8 g8 o8 => ?_
  have S8 := S7.ext e8
  have E8 := E6.trans (e7.trans e8)
  clear hmap
  (refine f_next ?_; refine s_cons ?_; refine s_set rfl ?_; refine w_call rfl ?_; refine w_es1 ?_; refine w_none ?_; refine w_es1 ?_; refine w_list ?_; refine w_es1 ?_; refine w_tuple ?_; refine w_es1 ?_; refine w_str ?_; refine w_es1 ?_; refine w_call rfl ?_; refine w_es1 ?_; refine w_ife ?_; refine t_name ?_; refine w_name rfl rfl ?_; refine f_bool ?_)
  refine ite_int ?_
  (refine w_es0 ?_)
  refine k_fn rfl (law_flag_ok (nl1 hN rfl) fun fx1 fd1 fi1 H9 e9 FV1 => ?_)
  (refine w_es0 ?_)
  refine ⟨by simp, alloc fun t1 H10 f10 e10 g10 o10 => ?_⟩
  (refine w_es1 ?_; refine w_tuple ?_; refine w_es1 ?_; refine w_none ?_; refine w_es1 ?_; refine w_name rfl rfl ?_; refine w_es0 ?_)
  refine ⟨by simp, alloc fun t2 H11 f11 e11 g11 o11 => ?_⟩
  (refine w_es1 ?_; refine w_tuple ?_; refine w_es1 ?_; refine w_str ?_; refine w_es1 ?_; refine w_call rfl ?_; refine w_es1 ?_; refine w_name rfl rfl ?_; refine w_es0 ?_)
  refine k_fn rfl (law_flag_ok (nl1 hN rfl) fun fx2 fd2 fi2 H12 e12 FV2 => ?_)
  (refine w_es0 ?_)
  refine ⟨by simp, alloc fun t3 H13 f13 e13 g13 o13 => ?_⟩
  (refine w_es0 ?_)
  refine ⟨by simp, alloc fun al H14 f14 e14 g14 o14 => ?_⟩
  (refine w_es1 ?_; refine w_none ?_; refine w_es0 ?_)
  have e8_14 := e9.trans (e10.trans (e11.trans (e12.trans (e13.trans e14))))
  have S14 := S8.ext e8_14
  have E14 := E8.trans e8_14
  have hx9 : xs.length ≤ 2000 := by omega
  have A1 : ArgsAt H14 al [(.str (Str.ofString "decreasing"), .ref fx1), (.none, .ref x), (.str (Str.ofString "na.last"), .ref fx2)] := args3 g14 ((e11.trans (e12.trans (e13.trans e14))) _ _ g10) ((e12.trans (e13.trans e14)) _ _ g11) (e14 _ _ g13)
  have flg : flagV (.int (if falls = true then 1 else 0)) = .bool falls := by cases falls <;> rfl
  have F1 : FlagAt H14 (.ref fx1) (.bool false) (.bool falls) := .inr ⟨fx1, fd1, fi1, _, _, _, rfl, FV1.ext (e10.trans (e11.trans (e12.trans (e13.trans e14)))), .inr ⟨_, rfl⟩, flg.symm⟩
  have F2 : ∀ d, FlagAt H14 (.ref fx2) d (flagV wv) := fun d => .inr ⟨fx2, fd2, fi2, _, _, _, rfl, FV2.ext (e13.trans e14), where_f hw, rfl⟩
  have tt1 : ∀ q ∈ [((.str (Str.ofString "decreasing") : AV), AV.ref fx1), (.none, .ref x), (.str (Str.ofString "na.last"), .ref fx2)], TagOk q.1 := by
    intro q hq
    simp only [List.mem_cons, List.not_mem_nil, or_false] at hq
    rcases hq with rfl | rfl | rfl
    · exact .inr ⟨_, rfl⟩
    · exact .inl rfl
    · exact .inr ⟨_, rfl⟩
  have P1 : ∀ f ∈ orderF, f ≠ sEll → (getL [(Str.ofString "na.last", AV.int 2), (Str.ofString "decreasing", AV.int 0)] f = none ∨ ∃ j : Nat, getL [(Str.ofString "na.last", AV.int 2), (Str.ofString "decreasing", AV.int 0)] f = some (.int j) ∧ j < 3) := by
    intro f hf hn
    simp only [orderF, List.mem_cons, List.not_mem_nil, or_false] at hf
    rcases hf with rfl | rfl | rfl | rfl
    · exact absurd rfl hn
    · exact .inr ⟨2, rfl, by decide⟩
    · exact .inr ⟨0, rfl, by decide⟩
    · exact .inl rfl
  refine k_fn rfl (b_order_ok (P := [(Str.ofString "na.last", .int 2), (Str.ofString "decreasing", .int 0)]) (j := 1) (nl1 hN rfl) S14.v hk hx hx9 A1 (by simp) tt1 mt_order P1 ⟨_, rfl⟩ (where_b hw) F1 (F2 _) fun y1 d1 i1 H15 ps e15 SO1 W1 => ?_)
  have S15 := S14.ext e15
  have E15 := E14.trans e15
  rw [where_last hw, where_none hw] at SO1
  have psk := SO1.perm
  have psx : ∀ p ∈ ps, p < xs.length := fun p hp => kept_lt (psk.mem_iff.mp hp)
  have psl : ps.length ≤ 9 := by have := psk.length_eq; have := kept_len xs (isNone wv); omega
  clear A1 F1 tt1 P1
  (refine f_next ?_; refine s_cons ?_; refine s_set rfl ?_)
  refine e_comp0 rfl ?_
  (refine w_attr rfl ?_; refine w_name rfl rfl ?_)
  refine a_attr W1.i W1.d rfl rfl ?_
  refine comp_go (fun v => match v with | .int i => some (.int (i - 1)) | _ => none) W1.l rfl (by simp; omega) (fun v hv K hK => ?_) ?_
  · obtain ⟨p, hp, rfl⟩ := List.mem_map.mp hv
    change wpE _ _ _ (setL _ _ (.int ((p : Int) + 1))) _ _
    (refine w_bin ?_; refine w_name rfl rfl ?_; refine w_int ?_; refine o_sub ?_)
    exact hK
  have hmap : (ps.map p1AV).filterMap (fun v => match v with | .int i => some (AV.int (i - 1)) | _ => none) = ps.map pAV := by
    rw [List.filterMap_map]
    refine (congrArg (fun f => List.filterMap f ps) (funext fun p => ?_)).trans (congrFun (List.filterMap_eq_map (f := pAV)) ps)
    show some (AV.int ((p : Int) + 1 - 1)) = some (AV.int (p : Int))
    rw [Int.add_sub_cancel]
  rw [hmap]
  refine alloc fun pl H16 f16 e16 g16 o16 => ?_
  have S16 := S15.ext e16
  have E16 := E15.trans e16
  have W16 := W1.ext e16
  clear hmap
  (refine f_next ?_; refine s_cons ?_; refine s_if ?_; refine t_bop ?_; refine t_or1 ?_; refine t_cmp rfl ?_; refine w_attr rfl ?_; refine w_name rfl rfl ?_)
  refine a_attr W16.i W16.d rfl rfl ?_
  (refine w_str ?_; refine c_nes ?_)
  refine iff_ rfl ?_
  (refine t_or1 ?_; refine t_cmp rfl ?_; refine w_call rfl ?_; refine w_es1 ?_; refine w_name rfl rfl ?_; refine w_es0 ?_)
  have toI : ∀ l : List Nat, l.map pAV = (l.map fun (p : Nat) => (p : Int)).map AV.int := fun l => by rw [List.map_map]; rfl
  have g16' := g16
  rw [toI] at g16'
  refine k_built rfl (q_sorted (ps.map fun (p : Nat) => (p : Int)) g16' (by simp; omega) fun ms mp msrt => ?_)
  have hms : ms = (keptOf xs (isNone wv)).map fun (p : Nat) => (p : Int) := by
    refine List.Perm.eq_of_pairwise (le := (· ≤ ·)) (fun a b _ _ h1 h2 => Int.le_antisymm h1 h2) msrt (List.pairwise_map.mpr ((kept_asc xs (isNone wv)).imp fun {a b} q => by have : a < b := q; show (a : Int) ≤ (b : Int); omega)) (mp.trans (psk.map _))
  subst hms
  rw [← toI]
  refine alloc fun sl H17 f17 e17 g17 o17 => ?_
  have e8_17 := e8_14.trans (e15.trans (e16.trans e17))
  have S17 := S16.ext e17
  have E17 := E16.trans e17
  (refine w_name rfl rfl ?_)
  refine ne_same g17 (e8_17 _ _ g8) (sc_pav _) ?_
  refine iff_ rfl ?_
  (refine t_or0 ?_)
  refine iff_ rfl ?_
  (refine s_nil ?_; refine f_next ?_; refine s_cons ?_)
  refine s_for rfl ?_
  (refine w_call rfl ?_; refine w_es1 ?_; refine w_int ?_; refine w_es1 ?_; refine w_call rfl ?_; refine w_es1 ?_; refine w_name rfl rfl ?_; refine w_es0 ?_)
  have g17p := e17 _ _ g16
  refine k_built rfl (q_len g17p (by simp; omega) ?_)
  (refine w_es0 ?_)
  rw [List.length_map]
  refine k_built rfl (q_range2 (by omega) (alloc fun rg2 H18 f18 e18 g18 o18 => ?_))
  have S18 := S17.ext e18
  have E18 := E17.trans e18
  have hit2 : itemsA (.range 1 (ps.length : Int) 1) = some ((List.range (ps.length - 1)).map fun (i : Nat) => AV.int (1 + i)) := by
    simp only [itemsA]
    rw [if_pos trivial]
    have : ((ps.length : Int) - 1).toNat = ps.length - 1 := by omega
    rw [this]
  refine for_go g18 hit2 (by simp; omega) (fun _ _ e => e)
    (fun (d r : List AV) (l : Loc) (H' : AH) => l = [(Str.ofString "script", .ref a), (Str.ofString "hat", .ref hat), (Str.ofString "v", .ref x), (Str.ofString "many", .int xs.length), (Str.ofString "heads", hv), (Str.ofString "falls", .bool falls), (Str.ofString "where", wv), (Str.ofString "wanted", .ref wt), (Str.ofString "told", .ref y1), (Str.ofString "places", .ref pl)] ∧ H' = H18 ∧ d ++ r = ((List.range (ps.length - 1)).map fun (i : Nat) => AV.int (1 + i)))
    ⟨rfl, rfl, rfl⟩ (fun d r l H' z0 => by obtain ⟨_, q, _⟩ := z0; rw [q]; exact g18) ?_ ?_
  · rintro d v r l _ K ⟨rfl, rfl, hdr⟩ hK
    have hv' : ((List.range (ps.length - 1)).map fun (i : Nat) => AV.int (1 + i))[d.length]? = some v := by rw [← hdr]; simp
    rw [List.getElem?_map] at hv'
    obtain ⟨ii, hii, rfl⟩ := Option.map_eq_some_iff.mp hv'
    obtain ⟨hlt, hii⟩ := List.getElem?_eq_some_iff.mp hii
    rw [List.getElem_range] at hii
    subst hii
    rw [List.length_range] at hlt
    have p0 : d.length < ps.length := by omega
    have p1 : d.length + 1 < ps.length := by omega
    (refine s_cons ?_; refine s_if ?_; refine t_not ?_; refine t_call ?_; refine w_call rfl ?_; refine w_es1 ?_; refine w_name rfl rfl ?_; refine w_es1 ?_; refine w_sub rfl ?_; refine w_name rfl rfl ?_; refine w_bin ?_; refine w_name rfl rfl ?_; refine w_int ?_; refine o_sub ?_)
    refine i_list (e18 _ _ g17p) (by simp; omega) (by omega) (by rw [show ((1 : Int) + (d.length : Int) - 1).toNat = ((d.length : Nat) : Int).toNat from by omega]; exact pav_at p0) ?_
    (refine w_es1 ?_; refine w_sub rfl ?_; refine w_name rfl rfl ?_; refine w_name rfl rfl ?_)
    refine i_list (e18 _ _ g17p) (by simp; omega) (by omega) (by rw [show ((1 : Int) + (d.length : Int)).toNat = ((d.length + 1 : Nat) : Int).toNat from by omega]; exact pav_at p1) ?_
    (refine w_es1 ?_; refine w_name rfl rfl ?_; refine w_es1 ?_; refine w_cmp rfl ?_; refine w_name rfl rfl ?_; refine w_int ?_)
    refine c_where hw ?_
    (refine w_es0 ?_)
    refine k_fn rfl (law_before_ok (nl1 hN rfl) S18.v hx (by omega) (psx _ (List.getElem_mem p0)) (psx _ (List.getElem_mem p1)) (List.pairwise_iff_getElem.mp SO1.srt _ _ p0 p1 (Nat.lt_succ_self _)) ?_)
    (refine f_bool ?_)
    refine iff_ rfl ?_
    (refine s_nil ?_; refine f_next ?_; refine s_nil ?_; refine f_tn ?_)
    refine hK _ _ _ (.cons rfl (.cons rfl (.cons rfl (.cons rfl (.cons rfl (.cons rfl (.cons rfl (.cons rfl (.cons rfl (.cons rfl .nil)))))))))) ⟨rfl, rfl, by rw [← hdr]; simp⟩
  rintro d l _ ⟨rfl, rfl, _⟩
  clear hit2
  (refine f_next ?_; refine s_cons ?_; refine s_set rfl ?_; refine w_call rfl ?_; refine w_es1 ?_; refine w_none ?_; refine w_es1 ?_; refine w_list ?_; refine w_es1 ?_; refine w_tuple ?_; refine w_es1 ?_; refine w_str ?_; refine w_es1 ?_; refine w_name rfl rfl ?_; refine w_es0 ?_)
  refine ⟨by simp, alloc fun t1 H19 f19 e19 g19 o19 => ?_⟩
  (refine w_es1 ?_; refine w_tuple ?_; refine w_es1 ?_; refine w_none ?_; refine w_es1 ?_; refine w_call rfl ?_; refine w_es1 ?_; refine w_ife ?_; refine t_name ?_; refine w_name rfl rfl ?_; refine f_bool ?_)
  refine ite_int ?_
  (refine w_es0 ?_)
  refine k_fn rfl (law_flag_ok (nl1 hN rfl) fun fx1 fd1 fi1 H20 e20 FV1 => ?_)
  (refine w_es0 ?_)
  refine ⟨by simp, alloc fun t2 H21 f21 e21 g21 o21 => ?_⟩
  (refine w_es1 ?_; refine w_tuple ?_; refine w_es1 ?_; refine w_str ?_; refine w_es1 ?_; refine w_call rfl ?_; refine w_es1 ?_; refine w_name rfl rfl ?_; refine w_es0 ?_)
  refine k_fn rfl (law_flag_ok (nl1 hN rfl) fun fx2 fd2 fi2 H22 e22 FV2 => ?_)
  (refine w_es0 ?_)
  refine ⟨by simp, alloc fun t3 H23 f23 e23 g23 o23 => ?_⟩
  (refine w_es0 ?_)
  refine ⟨by simp, alloc fun al H24 f24 e24 g24 o24 => ?_⟩
  (refine w_es1 ?_; refine w_none ?_; refine w_es0 ?_)
  have e18_24 := e19.trans (e20.trans (e21.trans (e22.trans (e23.trans e24))))
  have S24 := S18.ext e18_24
  have E24 := E18.trans e18_24
  have A1 : ArgsAt H24 al [(.str (Str.ofString "x"), .ref x), (.none, .ref fx1), (.str (Str.ofString "na.last"), .ref fx2)] := args3 g24 ((e20.trans (e21.trans (e22.trans (e23.trans e24)))) _ _ g19) ((e22.trans (e23.trans e24)) _ _ g21) (e24 _ _ g23)
  have F1 : FlagAt H24 (.ref fx1) (.bool false) (.bool falls) := .inr ⟨fx1, fd1, fi1, _, _, _, rfl, FV1.ext (e21.trans (e22.trans (e23.trans e24))), .inr ⟨_, rfl⟩, flg.symm⟩
  have F2 : ∀ d, FlagAt H24 (.ref fx2) d (flagV wv) := fun d => .inr ⟨fx2, fd2, fi2, _, _, _, rfl, FV2.ext (e23.trans e24), where_f hw, rfl⟩
  have tt1 : ∀ q ∈ [((.str (Str.ofString "x") : AV), AV.ref x), (.none, .ref fx1), (.str (Str.ofString "na.last"), .ref fx2)], TagOk q.1 := by
    intro q hq
    simp only [List.mem_cons, List.not_mem_nil, or_false] at hq
    rcases hq with rfl | rfl | rfl
    · exact .inr ⟨_, rfl⟩
    · exact .inl rfl
    · exact .inr ⟨_, rfl⟩
  have P1 : ∀ f ∈ sortF, f ≠ sEll → (getL [(Str.ofString "x", AV.int 0), (Str.ofString "na.last", .int 2), (Str.ofString "decreasing", .int 1)] f = none ∨ ∃ j : Nat, getL [(Str.ofString "x", AV.int 0), (Str.ofString "na.last", .int 2), (Str.ofString "decreasing", .int 1)] f = some (.int j) ∧ j < 3) := by
    intro f hf hn
    simp only [sortF, List.mem_cons, List.not_mem_nil, or_false] at hf
    rcases hf with rfl | rfl | rfl | rfl
    · exact .inr ⟨0, rfl, by decide⟩
    · exact .inr ⟨1, rfl, by decide⟩
    · exact absurd rfl hn
    · exact .inr ⟨2, rfl, by decide⟩
  have lnx : ∀ l, ns = some l → l.length = xs.length := fun l q => (S24.ln l q).1
  have KI := kin_of hx
  have neg := cmpP_neg xs
  refine k_fn rfl (b_sort_ok (P := [(Str.ofString "x", AV.int 0), (Str.ofString "na.last", .int 2), (Str.ofString "decreasing", .int 1)]) (nl1 hN rfl) S24.v hk (S24.nm hl) lnx hx hx9 A1 (by simp) tt1 mt_sort P1 rfl (where_b hw) F1 (F2 _) fun y2 d2 i2 at2 H25 ps2 e25 SO2 W2 NM2 => ?_)
  rw [where_last hw, where_none hw] at SO2
  have := sort_unique (neg falls (lastW wv)) SO2 SO1
  subst this
  have S25 := S24.ext e25
  have E25 := E24.trans e25
  have e16_25 := e17.trans (e18.trans (e18_24.trans e25))
  have g25p := e16_25 _ _ g16
  clear A1 F1 tt1 P1
  (refine f_next ?_; refine s_cons ?_; refine s_if ?_; refine t_bop ?_; refine t_or1 ?_; refine t_cmp rfl ?_; refine w_attr rfl ?_; refine w_name rfl rfl ?_)
  refine a_attr W2.i W2.d rfl rfl ?_
  (refine w_attr rfl ?_; refine w_name rfl rfl ?_)
  refine a_attr S25.v.i S25.v.d rfl rfl ?_
  (refine c_nes ?_)
  refine iff_ (by simp) ?_
  (refine t_or1 ?_; refine t_cmp rfl ?_; refine w_attr rfl ?_; refine w_name rfl rfl ?_)
  refine a_attr W2.i W2.d rfl rfl ?_
  skip
  refine e_comp0 rfl ?_
  (refine w_name rfl rfl ?_)
  refine comp_go (selF xs) g25p rfl (by simp; omega) (fun v hv K hK => ?_) ?_
  · obtain ⟨p, hpm, rfl⟩ := List.mem_map.mp hv
    have hlt := psx p hpm
    (refine w_sub rfl ?_; refine w_attr rfl ?_; refine w_name rfl rfl ?_)
    refine a_attr S25.v.i S25.v.d rfl rfl ?_
    (refine w_name rfl rfl ?_)
    refine i_list S25.v.l (by omega) (by show (0 : Int) ≤ (p : Int); omega) (List.getElem?_eq_getElem (by show (p : Int).toNat < _; simpa using hlt)) ?_
    have e : selF xs (pAV p) = some (xs[((p : Int)).toNat]'(by simpa using hlt)) := List.getElem?_eq_getElem (by simpa using hlt)
    rw [e] at hK
    exact hK
  rw [sel_map]
  refine alloc fun cl H26 f26 e26 g26 o26 => ?_
  have selsc : ∀ (l : List AV) (qs : List Nat), (∀ v ∈ l, Sc v) → ∀ v ∈ sel l qs, Sc v := fun l qs hl v hv => by
    obtain ⟨p, _, q⟩ := List.mem_filterMap.mp hv
    exact hl v (List.mem_of_getElem? q)
  refine ne_same (e26 _ _ W2.l) g26 (selsc xs _ sc) ?_
  refine iff_ rfl ?_
  (refine t_or0 ?_)
  refine iff_ rfl ?_
  have S26 := S25.ext e26
  have E26 := E25.trans e26
  have W26 := W2.ext e26
  have NM26 := NM2.ext e26
  have g26p := e26 _ _ g25p
  (refine s_nil ?_)
  (refine f_next ?_)
  (refine s_cons ?_)
  refine s_if_join (fun l H' => l = [(Str.ofString "script", .ref a), (Str.ofString "hat", .ref hat), (Str.ofString "v", .ref x), (Str.ofString "many", .int xs.length), (Str.ofString "heads", hv), (Str.ofString "falls", .bool falls), (Str.ofString "where", wv), (Str.ofString "wanted", .ref wt), (Str.ofString "told", .ref y1), (Str.ofString "places", .ref pl), (Str.ofString "found", .ref y2)] ∧ Ext H26 H') (fun Ψ' hΨ => ?_) ?_
  · (refine t_cmp rfl ?_; refine w_call rfl ?_; refine w_es1 ?_; refine w_name rfl rfl ?_; refine w_es0 ?_)
    cases ns with
    | none =>
      have hh : hv = .none := S26.m.2
      refine k_fn rfl (law_told_none (nl1 hN rfl) W26 NM26 ?_)
      (refine w_ife ?_; refine t_cmp rfl ?_; refine w_name rfl rfl ?_; refine w_none ?_; refine c_is ?_)
      rw [hh]
      refine ift rfl ?_
      (refine w_none ?_; refine c_nenn ?_)
      refine iff_ rfl ?_
      (refine s_nil ?_)
      refine hΨ _ _ ⟨by rw [hh]; rfl, Ext.refl _⟩
    | some l =>
      obtain ⟨d, nv, dn, hl', h1, h2, h3, h4, h5, h6, h7⟩ := S26.m
      refine k_fn rfl (law_told_some (nl1 hN rfl) W26 NM26 fun b gb => ?_)
      (refine w_ife ?_; refine t_cmp rfl ?_; refine w_name rfl rfl ?_; refine w_none ?_; refine c_is ?_)
      rw [h2]
      refine iff_ rfl ?_
      refine e_comp0 rfl ?_
      (refine w_name rfl rfl ?_)
      refine comp_go (selF l) g26p rfl (by simp; omega) (fun v hv K hK => ?_) ?_
      · obtain ⟨p, hpm, rfl⟩ := List.mem_map.mp hv
        have hlt : p < l.length := by rw [h6]; exact psx p hpm
        (refine w_sub rfl ?_; refine w_name rfl rfl ?_; refine w_name rfl rfl ?_)
        refine i_list h5.l (by omega) (by show (0 : Int) ≤ (p : Int); omega) (List.getElem?_eq_getElem (by show (p : Int).toNat < _; simpa using hlt)) ?_
        have e : selF l (pAV p) = some (l[((p : Int)).toNat]'(by simpa using hlt)) := List.getElem?_eq_getElem (by simpa using hlt)
        rw [e] at hK
        exact hK
      rw [sel_map]
      refine alloc fun nl H27 f27 e27 g27 o27 => ?_
      refine ne_same (e27 _ _ gb) g27 (selsc l _ h7) ?_
      refine iff_ rfl ?_
      (refine s_nil ?_)
      refine hΨ _ _ ⟨by rw [h2]; rfl, e27⟩
  rintro l H27 ⟨rfl, e27⟩
  have S27 := S26.ext e27
  have E27 := E26.trans e27
  (refine f_next ?_; refine s_cons ?_; refine s_set rfl ?_; refine w_call rfl ?_; refine w_es1 ?_; refine w_none ?_; refine w_es1 ?_; refine w_list ?_; refine w_es1 ?_; refine w_tuple ?_; refine w_es1 ?_; refine w_none ?_; refine w_es1 ?_; refine w_name rfl rfl ?_; refine w_es0 ?_)
  refine ⟨by simp, alloc fun t1 H28 f28 e28 g28 o28 => ?_⟩
  (refine w_es0 ?_)
  refine ⟨by simp, alloc fun al H29 f29 e29 g29 o29 => ?_⟩
  (refine w_es1 ?_; refine w_none ?_; refine w_es0 ?_)
  have S29 := S27.ext (e28.trans e29)
  have E29 := E27.trans (e28.trans e29)
  have A1 : ArgsAt H29 al [(.none, .ref x)] := args1 g29 (e29 _ _ g28)
  have tt1 : ∀ q ∈ [((.none : AV), AV.ref x)], TagOk q.1 := by
    intro q hq
    simp only [List.mem_cons, List.not_mem_nil, or_false] at hq
    subst hq
    exact .inl rfl
  have P1 : ∀ f ∈ sortF, f ≠ sEll → (getL [(Str.ofString "x", AV.int 0)] f = none ∨ ∃ j : Nat, getL [(Str.ofString "x", AV.int 0)] f = some (.int j) ∧ j < 1) := by
    intro f hf hn
    simp only [sortF, List.mem_cons, List.not_mem_nil, or_false] at hf
    rcases hf with rfl | rfl | rfl | rfl
    · exact .inr ⟨0, rfl, by decide⟩
    · exact .inl rfl
    · exact absurd rfl hn
    · exact .inl rfl
  refine k_fn rfl (b_sort_ok (P := [(Str.ofString "x", AV.int 0)]) (dec := false) (nl := .none) (nl1 hN rfl) S29.v hk (S29.nm hl) lnx hx hx9 A1 (by simp) tt1 mt_sort0 P1 rfl (.inl rfl) (.inl ⟨rfl, rfl⟩) (.inl ⟨rfl, rfl⟩) fun y3 d3 i3 at3 H30 qs e30 SQ W3 NM3 => ?_)
  have SQ : SortOf (cmpP xs false true) (keptOf xs true) qs := SQ
  have S30 := S29.ext e30
  have E30 := E29.trans e30
  clear A1 tt1 P1
  (refine f_next ?_; refine s_cons ?_; refine s_set rfl ?_; refine w_attr rfl ?_; refine w_call rfl ?_; refine w_es1 ?_; refine w_none ?_; refine w_es1 ?_; refine w_list ?_; refine w_es1 ?_; refine w_tuple ?_; refine w_es1 ?_; refine w_none ?_; refine w_es1 ?_; refine w_name rfl rfl ?_; refine w_es0 ?_)
  refine ⟨by simp, alloc fun t1 H31 f31 e31 g31 o31 => ?_⟩
  (refine w_es1 ?_; refine w_tuple ?_; refine w_es1 ?_; refine w_str ?_; refine w_es1 ?_; refine w_call rfl ?_; refine w_es1 ?_; refine w_none ?_; refine w_es0 ?_)
  refine k_fn rfl (law_flag_ok (nl1 hN rfl) fun fx2 fd2 fi2 H32 e32 FV2 => ?_)
  (refine w_es0 ?_)
  refine ⟨by simp, alloc fun t2 H33 f33 e33 g33 o33 => ?_⟩
  (refine w_es0 ?_)
  refine ⟨by simp, alloc fun al H34 f34 e34 g34 o34 => ?_⟩
  (refine w_es1 ?_; refine w_none ?_; refine w_es0 ?_)
  have e30_34 := e31.trans (e32.trans (e33.trans e34))
  have S34 := S30.ext e30_34
  have E34 := E30.trans e30_34
  have A1 : ArgsAt H34 al [(.none, .ref x), (.str (Str.ofString "na.last"), .ref fx2)] := args2 g34 ((e32.trans (e33.trans e34)) _ _ g31) (e34 _ _ g33)
  have F2 : FlagAt H34 (.ref fx2) (.bool true) .none := .inr ⟨fx2, fd2, fi2, _, _, _, rfl, FV2.ext (e33.trans e34), .inl rfl, rfl⟩
  have tt1 : ∀ q ∈ [((.none : AV), AV.ref x), (.str (Str.ofString "na.last"), .ref fx2)], TagOk q.1 := by
    intro q hq
    simp only [List.mem_cons, List.not_mem_nil, or_false] at hq
    rcases hq with rfl | rfl
    · exact .inl rfl
    · exact .inr ⟨_, rfl⟩
  have P1 : ∀ f ∈ orderF, f ≠ sEll → (getL [(Str.ofString "na.last", AV.int 1)] f = none ∨ ∃ j : Nat, getL [(Str.ofString "na.last", AV.int 1)] f = some (.int j) ∧ j < 2) := by
    intro f hf hn
    simp only [orderF, List.mem_cons, List.not_mem_nil, or_false] at hf
    rcases hf with rfl | rfl | rfl | rfl
    · exact absurd rfl hn
    · exact .inr ⟨1, rfl, by decide⟩
    · exact .inl rfl
    · exact .inl rfl
  refine k_fn rfl (b_order_ok (P := [(Str.ofString "na.last", .int 1)]) (j := 0) (dec := false) (nl := .none) (nl1 hN rfl) S34.v hk hx hx9 A1 (by simp) tt1 mt_order0 P1 ⟨_, rfl⟩ (.inl rfl) (.inl ⟨rfl, rfl⟩) F2 fun y4 d4 i4 H35 qs2 e35 SQ2 W4 => ?_)
  have := sort_unique (neg false true) SQ2 SQ
  subst this
  have S35 := S34.ext e35
  have E35 := E34.trans e35
  have W3' := W3.ext (e30_34.trans e35)
  have q9 : qs2.length ≤ 9 := by have := SQ.perm.length_eq; have := kept_len xs true; omega
  clear A1 F2 tt1 P1
  refine a_attr W4.i W4.d rfl rfl ?_
  (refine f_next ?_; refine s_cons ?_; refine s_if ?_; refine t_cmp rfl ?_; refine w_attr rfl ?_; refine w_name rfl rfl ?_)
  refine a_attr W3'.i W3'.d rfl rfl ?_
  skip
  refine e_comp0 rfl ?_
  (refine w_name rfl rfl ?_)
  refine comp_go (fun v => match v with | .int i => xs[(i - 1).toNat]? | _ => none) W4.l rfl (by simp; omega) (fun v hv K hK => ?_) ?_
  · obtain ⟨p, hpm, rfl⟩ := List.mem_map.mp hv
    have hlt := kept_lt (SQ.perm.mem_iff.mp hpm)
    change wpE _ _ _ (setL _ _ (.int ((p : Int) + 1))) _ _
    have e : ((p : Int) + 1 - 1).toNat = p := by omega
    have ep : xs[p]? = some xs[p] := List.getElem?_eq_getElem hlt
    simp only [p1AV, e, ep] at hK
    (refine w_sub rfl ?_; refine w_attr rfl ?_; refine w_name rfl rfl ?_)
    refine a_attr S35.v.i S35.v.d rfl rfl ?_
    (refine w_bin ?_; refine w_name rfl rfl ?_; refine w_int ?_; refine o_sub ?_)
    refine i_list S35.v.l (by omega) (by omega) (by rw [e]; exact ep) ?_
    exact hK
  have hmap : (qs2.map p1AV).filterMap (fun v => match v with | .int i => xs[(i - 1).toNat]? | _ => none) = sel xs qs2 := by
    rw [List.filterMap_map]
    refine congrArg (fun f => List.filterMap f qs2) (funext fun p => ?_)
    show xs[((p : Int) + 1 - 1).toNat]? = xs[p]?
    rw [show ((p : Int) + 1 - 1).toNat = p from by omega]
  rw [hmap]
  refine alloc fun cl2 H36 f36 e36 g36 o36 => ?_
  refine ne_same (e36 _ _ W3'.l) g36 (selsc xs _ sc) ?_
  refine iff_ rfl ?_
  (refine s_nil ?_; refine f_next ?_; refine s_cons ?_; refine s_set rfl ?_; refine w_dict0 ?_)
  refine alloc fun rkd H37 f37 e37 g37 o37 => ?_
  (refine f_next ?_; refine s_cons ?_)
  refine s_for rfl ?_
  (refine w_list ?_; refine w_es1 ?_; refine w_str ?_; refine w_es1 ?_; refine w_str ?_; refine w_es1 ?_; refine w_str ?_; refine w_es1 ?_; refine w_str ?_; refine w_es0 ?_)
  refine ⟨by simp, alloc fun tl H38 f38 e38 g38 o38 => ?_⟩
  have S38 := S35.ext (e36.trans (e37.trans e38))
  have E37 := E35.trans (e36.trans e37)
  have E38 := E37.trans e38
  have W4' := W4.ext (e36.trans (e37.trans e38))
  have fk : H rkd = none := (E35.trans e36).no f37
  have ntl : tl ≠ rkd := Ne.symm (ne_of g37 f38)
  have Sk : ∀ H', ExtB rkd H38 H' → LSt H' hat x dx it k xs at_ hv ns := fun H' e => by
    have gk := e38 _ _ g37
    have SS := S35.ext e36
    have ni : it ≠ rkd := ne_of SS.v.l f37
    refine ⟨⟨e _ _ (ne_obj S38.v.i gk (by simp)) S38.v.i, e _ _ (ne_of SS.v.d f37) S38.v.d, e _ _ ni S38.v.l⟩, S38.n, ?_⟩
    have m := SS.m
    have m' := S38.m
    cases ns with
    | none => exact m
    | some l =>
      obtain ⟨d, nv, dn, hl', h1, h2, h3, h4, h5, h6⟩ := m
      have up := e37.trans e38
      exact ⟨d, nv, dn, hl', h1, h2, h3, e _ _ (ne_of h4 f37) (up _ _ h4), ⟨e _ _ (ne_of h5.i f37) (up _ _ h5.i), e _ _ (ne_of h5.d f37) (up _ _ h5.d), e _ _ (ne_of h5.l f37) (up _ _ h5.l)⟩, h6⟩
  refine for_go (loc₁ := [(Str.ofString "v", .ref x), (Str.ofString "many", .int xs.length), (Str.ofString "heads", hv), (Str.ofString "rising", .ref i4), (Str.ofString "ranks", .ref rkd)]) g38 rfl (by simp) (.cons rfl (.cons rfl (.cons rfl (.cons rfl (.cons rfl .nil)))))
    (fun (d r : List AV) (l : Loc) (H' : AH) => ∃ (ts rest : List Ties) (es : List (Str × AV)), l = [(Str.ofString "v", .ref x), (Str.ofString "many", .int xs.length), (Str.ofString "heads", hv), (Str.ofString "rising", .ref i4), (Str.ofString "ranks", .ref rkd)] ∧ ts ++ rest = [.min, .max, .fst, .avg] ∧ r = rest.map (fun t => AV.str t.name) ∧ ExtB rkd H38 H' ∧ H' rkd = some (.dict es) ∧ es.length ≤ ts.length ∧ ∀ t ∈ ts, RankD H' rkd xs qs2 es t)
    ⟨[], [.min, .max, .fst, .avg], [], rfl, rfl, rfl, .refl, e38 _ _ g37, Nat.le_refl _, fun _ q => nomatch q⟩ (fun d r l H' z0 => by obtain ⟨_, _, _, _, _, _, e, _⟩ := z0; exact e _ _ ntl g38) ?_ ?_
  · rintro d v r l H39 K ⟨ts, rest, es, rfl, hts, hr, e39, g39, esl, RD⟩ hK
    cases rest with
    | nil => cases hr
    | cons t rest =>
      cases hr
      have S39 := Sk H39 e39
      have tsl : ts.length ≤ 4 := by have := congrArg List.length hts; simp at this; omega
      (refine s_cons ?_; refine s_set rfl ?_; refine w_call rfl ?_; refine w_es1 ?_; refine w_none ?_; refine w_es1 ?_; refine w_list ?_; refine w_es1 ?_; refine w_tuple ?_; refine w_es1 ?_; refine w_none ?_; refine w_es1 ?_; refine w_name rfl rfl ?_; refine w_es0 ?_)
      refine ⟨by simp, alloc fun t1 H40 f40 e40 g40 o40 => ?_⟩
      (refine w_es1 ?_; refine w_tuple ?_; refine w_es1 ?_; refine w_str ?_; refine w_es1 ?_; refine w_call rfl ?_; refine w_es1 ?_; refine w_str ?_; refine w_es1 ?_; refine w_list ?_; refine w_es1 ?_; refine w_name rfl rfl ?_; refine w_es0 ?_)
      refine ⟨by simp, alloc fun tn H41 f41 e41 g41 o41 => ?_⟩
      (refine w_es0 ?_)
      refine vec_ok (nl1 hN rfl) fun tx td H42 ftx ftd htd e42 o42 itx dtd => ?_
      (refine w_es0 ?_)
      refine ⟨by simp, alloc fun t2 H43 f43 e43 g43 o43 => ?_⟩
      (refine w_es0 ?_)
      refine ⟨by simp, alloc fun al H44 f44 e44 g44 o44 => ?_⟩
      (refine w_es1 ?_; refine w_none ?_; refine w_es0 ?_)
      have up := e40.trans (e41.trans (e42.trans (e43.trans e44)))
      have S44 := S39.ext up
      have TV : VecAt H44 tx td (Str.ofString "character") tn [.str t.name] .none false false := ⟨(e43.trans e44) _ _ itx, (e43.trans e44) _ _ dtd, (e42.trans (e43.trans e44)) _ _ g41⟩
      have A1 : ArgsAt H44 al [(.none, .ref x), (.str (Str.ofString "ties.method"), .ref tx)] := args2 g44 ((e41.trans (e42.trans (e43.trans e44))) _ _ g40) (e44 _ _ g43)
      have tt1 : ∀ q ∈ [((.none : AV), AV.ref x), (.str (Str.ofString "ties.method"), .ref tx)], TagOk q.1 := by
        intro q hq
        simp only [List.mem_cons, List.not_mem_nil, or_false] at hq
        rcases hq with rfl | rfl
        · exact .inl rfl
        · exact .inr ⟨_, rfl⟩
      have P1 : ∀ f ∈ rankF, f ≠ sEll → (getL [(Str.ofString "ties.method", AV.int 1), (Str.ofString "x", .int 0)] f = none ∨ ∃ j : Nat, getL [(Str.ofString "ties.method", AV.int 1), (Str.ofString "x", .int 0)] f = some (.int j) ∧ j < 2) := by
        intro f hf hn
        simp only [rankF, List.mem_cons, List.not_mem_nil, or_false] at hf
        rcases hf with rfl | rfl | rfl
        · exact .inr ⟨0, rfl, by decide⟩
        · exact .inl rfl
        · exact .inr ⟨1, rfl, by decide⟩
      refine k_fn rfl (b_rank_ok (P := [(Str.ofString "ties.method", AV.int 1), (Str.ofString "x", .int 0)]) (nl1 hN rfl) S44.v hk (S44.nm hl) hx hx9 A1 (by simp) tt1 mt_rank P1 rfl t rfl TV fun y5 d5 i5 rk at5 H45 ps5 e45 S5 W5 NM5 RK => ?_)
      have := sort_unique (neg false true) S5 SQ2
      subst this
      have S45 := S44.ext e45
      have e39_45 := up.trans e45
      clear A1 tt1 P1
      have gk45 := e39_45 _ _ g39
      (refine f_next ?_)
      (refine s_cons ?_)
      refine s_if_join (fun l H' => l = [(Str.ofString "v", .ref x), (Str.ofString "many", .int xs.length), (Str.ofString "heads", hv), (Str.ofString "rising", .ref i4), (Str.ofString "ranks", .ref rkd), (Str.ofString "ties", .str t.name), (Str.ofString "rank", .ref y5)] ∧ H' = H45) (fun Ψ' hΨ => ?_) ?_
      · (refine t_cmp rfl ?_; refine w_call rfl ?_; refine w_es1 ?_; refine w_name rfl rfl ?_; refine w_es0 ?_)
        cases ns with
        | none =>
          have hh : hv = .none := S45.m.2
          refine k_fn rfl (law_told_none (nl1 hN rfl) W5 NM5 ?_)
          (refine w_name rfl rfl ?_)
          rw [hh]
          (refine c_nenn ?_)
          refine iff_ rfl ?_
          (refine s_nil ?_)
          refine hΨ _ _ ⟨by rw [hh]; rfl, rfl⟩
        | some l =>
          obtain ⟨d, nv, dn, hl', h1, h2, h3, h4, h5, h6, h7⟩ := S45.m
          refine k_fn rfl (law_told_some (nl1 hN rfl) W5 NM5 fun b gb => ?_)
          (refine w_name rfl rfl ?_)
          rw [h2]
          refine ne_same gb h5.l h7 ?_
          refine iff_ rfl ?_
          (refine s_nil ?_)
          refine hΨ _ _ ⟨by rw [h2]; rfl, rfl⟩
      rintro l _ ⟨rfl, rfl⟩
      (refine f_next ?_; refine s_cons ?_; refine s_sub rfl ?_; refine w_attr rfl ?_; refine w_name rfl rfl ?_)
      refine a_attr W5.i W5.d rfl rfl ?_
      (refine w_name rfl rfl ?_; refine w_name rfl rfl ?_)
      refine set_item gk45 (by omega) fun H46 g46 o46 => ?_
      (refine f_next ?_; refine s_nil ?_; refine f_tn ?_)
      have tup : ∀ a vs, H39 a = some (.tuple vs) → H46 a = some (.tuple vs) := fun a vs q => (o46 a (ne_obj (e39_45 _ _ q) gk45 (by simp))).trans (e39_45 _ _ q)
      have nd : (ts ++ t :: rest).Nodup := by rw [hts]; simp
      have nin : ∀ u ∈ ts, u ≠ t := fun u hu q => (List.nodup_append.mp nd).2.2 u hu t List.mem_cons_self q
      refine hK [(Str.ofString "v", .ref x), (Str.ofString "many", .int xs.length), (Str.ofString "heads", hv), (Str.ofString "rising", .ref i4), (Str.ofString "ranks", .ref rkd)] _ H46 (.cons rfl (.cons rfl (.cons rfl (.cons rfl (.cons rfl .nil))))) ⟨ts ++ [t], rest, setL es t.name (.ref i5), rfl, by rw [← hts]; simp, rfl, (e39.ext e39_45).set o46, g46, ?_, fun u hu => ?_⟩
      · have := setL_len es t.name (.ref i5)
        simp; omega
      · rcases List.mem_append.mp hu with hu | hu
        · obtain ⟨ity, rk', q1, q2, q3, q4⟩ := RD u hu
          exact ⟨ity, rk', q1, by rw [getL_set_ne _ _ (ties_ne (nin u hu))]; exact q2, (o46 _ q1).trans (e39_45 _ _ q3), q4.keep tup⟩
        · rw [List.mem_singleton.mp hu]
          have n5 := ne_obj W5.l gk45 (by simp)
          exact ⟨i5, rk, n5, getL_set _ _ _, (o46 _ n5).trans W5.l, RK.keep fun a vs q => (o46 a (ne_obj q gk45 (by simp))).trans q⟩
  · rintro d l H47 ⟨ts, rest, es, rfl, hts, hr, e47, g47, esl, RD⟩
    have : rest = [] := by cases rest with | nil => rfl | cons => cases hr
    subst this
    rw [List.append_nil] at hts
    subst hts
    have S47 := Sk H47 e47
    have E47 : Ext H H47 := e47.out E38 fk
    have g47r : H47 i4 = some (.list (qs2.map p1AV)) := e47 _ _ (ne_of ((W4.ext e36).l) f37) W4'.l
    (refine f_next ?_; refine s_cons ?_)
    refine s_for rfl ?_
    (refine w_call rfl ?_; refine w_es1 ?_; refine w_name rfl rfl ?_; refine w_es0 ?_)
    refine k_built rfl (q_range1 (by omega) (alloc fun rg3 H48 f48 e48 g48 o48 => ?_))
    refine for_go (loc₁ := [(Str.ofString "v", .ref x), (Str.ofString "many", .int xs.length), (Str.ofString "heads", hv), (Str.ofString "rising", .ref i4), (Str.ofString "ranks", .ref rkd)]) g48 (items_range xs.length) (by simp; omega) (fun _ _ e => e)
      (fun (d r : List AV) (l : Loc) (H' : AH) => ∃ js : List Nat, l = [(Str.ofString "v", .ref x), (Str.ofString "many", .int xs.length), (Str.ofString "heads", hv), (Str.ofString "rising", .ref i4), (Str.ofString "ranks", .ref rkd)] ∧ r = js.map pAV ∧ (∀ j ∈ js, j < xs.length) ∧ Ext H48 H')
      ⟨_, rfl, rfl, fun j hj => List.mem_range.mp hj, .refl _⟩ (fun d r l H' z0 => by obtain ⟨_, _, _, _, e⟩ := z0; exact e _ _ g48) ?_ ?_
    · rintro d v r l H49 K ⟨js, rfl, hr, hj, e49⟩ hK
      cases js with
      | nil => cases hr
      | cons p js =>
        cases hr
        have hp := hj p List.mem_cons_self
        have ep : xs[p]? = some xs[p] := List.getElem?_eq_getElem hp
        have up := e48.trans e49
        have S49 := S47.ext up
        have g49 := up _ _ g47
        have g49r := up _ _ g47r
        have next : ∀ lx H', LocLe [(Str.ofString "v", .ref x), (Str.ofString "many", .int xs.length), (Str.ofString "heads", hv), (Str.ofString "rising", .ref i4), (Str.ofString "ranks", .ref rkd)] lx → Ext H49 H' → K lx H' := fun lx H' hle e => hK _ lx H' hle ⟨js, rfl, rfl, fun j h => hj j (List.mem_cons_of_mem _ h), e49.trans e⟩
        change wpSs _ _ _ (setL _ _ (.int (p : Int))) _ _
        (refine s_cons ?_; refine s_set rfl ?_; refine w_sub rfl ?_; refine w_attr rfl ?_; refine w_name rfl rfl ?_)
        refine a_attr S49.v.i S49.v.d rfl rfl ?_
        (refine w_name rfl rfl ?_)
        refine i_list S49.v.l (by omega) (Int.natCast_nonneg p) (by rw [Int.toNat_natCast]; exact ep) ?_
        (refine f_next ?_; refine s_cons ?_; refine s_set rfl ?_)
        refine e_comp1 rfl ?_
        (refine w_attr rfl ?_; refine w_name rfl rfl ?_)
        refine a_attr S49.v.i S49.v.d rfl rfl ?_
        refine comp_go (fun v => if isNone v = true then none else some v) S49.v.l rfl (by omega) (fun v hv K hK => ?_) ?_
        · (refine t_cmp rfl ?_; refine w_name rfl rfl ?_; refine w_none ?_; refine c_isnot ?_)
          refine ifs (fun c => ?_) fun c => ?_
          · have c : isNone v = false := by simpa using c
            rw [c] at hK
            (refine w_name rfl rfl ?_)
            exact hK
          · have c : isNone v = true := by simpa using c
            rw [c] at hK
            exact hK
        refine alloc fun thl H50 f50 e50 g50 o50 => ?_
        have S50 := S49.ext e50
        have RDt : ∀ t : Ties, RankD H50 rkd xs qs2 es t := fun t => by
          obtain ⟨ity, rk, q1, q2, q3, q4⟩ := RD t (by cases t <;> simp)
          exact ⟨ity, rk, q1, q2, e50 _ _ (up _ _ q3), q4.keep fun a vs q => e50 _ _ (up _ _ q)⟩
        have g50k := e50 _ _ g49
        have rkl : ∀ rk : List AV, ∀ t, Ranked H50 t xs qs2 rk qs2.length → rk.length ≤ 4096 := fun rk t R => by rw [R.len]; omega
        (refine f_next ?_; refine s_cons ?_; refine s_if ?_; refine t_cmp rfl ?_; refine w_name rfl rfl ?_; refine w_none ?_; refine c_is ?_)
        refine ifs (fun c => ?_) fun c => ?_
        · have nq : ∀ i, i < qs2.length → qs2[i]? ≠ some p := fun i _ e => by
            have := (List.mem_filter.mp (SQ.perm.mem_iff.mp (List.mem_of_getElem? e))).2
            rw [ep, Option.getD_some, c] at this
            cases this
          (refine s_cons ?_; refine s_if ?_; refine t_cmp rfl ?_)
          refine e_comp0 rfl ?_
          (refine w_list ?_; refine w_es1 ?_; refine w_str ?_; refine w_es1 ?_; refine w_str ?_; refine w_es1 ?_; refine w_str ?_; refine w_es1 ?_; refine w_str ?_; refine w_es0 ?_)
          refine ⟨by simp, alloc fun nl4 H51 f51 e51 g51 o51 => ?_⟩
          refine comp_go (fun _ => some .none) g51 rfl (by simp) (fun v hv K hK => ?_) ?_
          · obtain ⟨t, rfl⟩ : ∃ t : Ties, v = .str t.name := by
              simp only [List.mem_cons, List.not_mem_nil, or_false] at hv
              rcases hv with rfl | rfl | rfl | rfl
              · exact ⟨.min, rfl⟩
              · exact ⟨.max, rfl⟩
              · exact ⟨.fst, rfl⟩
              · exact ⟨.avg, rfl⟩
            obtain ⟨ity, rk, q1, q2, q3, q4⟩ := RDt t
            (refine w_sub rfl ?_; refine w_sub rfl ?_; refine w_name rfl rfl ?_; refine w_name rfl rfl ?_)
            refine i_dict (e51 _ _ g50k) q2 ?_
            (refine w_name rfl rfl ?_)
            refine i_list (e51 _ _ q3) (rkl rk t q4) (Int.natCast_nonneg p) (by rw [Int.toNat_natCast]; exact q4.no p hp nq) ?_
            exact hK
          refine alloc fun nl5 H52 f52 e52 g52 o52 => ?_
          (refine w_bin ?_; refine w_list ?_; refine w_es1 ?_; refine w_none ?_; refine w_es0 ?_)
          refine ⟨by simp, alloc fun nl6 H53 f53 e53 g53 o53 => ?_⟩
          (refine w_int ?_)
          refine ⟨_, g53, by decide, by decide, alloc fun nl7 H54 f54 e54 g54 o54 => ?_⟩
          refine ne_same ((e53.trans e54) _ _ g52) g54 (fun v hv => ?_) ?_
          · left
            simpa using hv
          refine iff_ rfl ?_
          (refine s_nil ?_; refine f_next ?_; refine s_cons ?_; refine s_cont ?_; refine f_cont ?_; refine f_cont ?_; refine f_tc ?_)
          exact next _ H54 (.cons rfl (.cons rfl (.cons rfl (.cons rfl (.cons rfl .nil))))) (e50.trans (e51.trans (e52.trans (e53.trans e54))))
        · have hkin := kin_of hx
          have pin : p ∈ qs2 := SQ.perm.mem_iff.mpr (List.mem_filter.mpr ⟨List.mem_range.mpr hp, by rw [ep, Option.getD_some, c]; rfl⟩)
          obtain ⟨i, hi, ei⟩ := List.getElem_of_mem pin
          have hqi : qs2[i]? = some p := by rw [List.getElem?_eq_getElem hi, ei]
          have inth : ∀ v ∈ xs.filterMap (fun v => if isNone v = true then none else some v), v ∈ xs ∧ isNone v = false := fun v hv => by
            obtain ⟨w, hw1, hw2⟩ := List.mem_filterMap.mp hv
            by_cases z : isNone w = true
            · rw [if_pos z] at hw2; cases hw2
            · rw [if_neg z] at hw2; cases hw2
              exact ⟨hw1, by simpa using z⟩
          have thle : (xs.filterMap (fun v => if isNone v = true then none else some v)).length ≤ 9 := Nat.le_trans (List.length_filterMap_le _ _) hl
          have pm := List.getElem_mem hp
          (refine s_nil ?_; refine f_next ?_; refine s_cons ?_; refine s_set rfl ?_; refine w_bin ?_; refine w_int ?_; refine w_call rfl ?_; refine w_es1 ?_)
          refine e_comp1 rfl ?_
          (refine w_name rfl rfl ?_)
          refine comp_go (fun v => if ltV v xs[p] = true then some v else none) g50 rfl (by omega) (fun v hv K hK => ?_) ?_
          · obtain ⟨v1, v2⟩ := inth v hv
            (refine t_cmp rfl ?_; refine w_name rfl rfl ?_; refine w_name rfl rfl ?_)
            refine c_ltv (hkin v v1 _ pm) v2 c ?_
            refine ifs (fun c => ?_) fun c => ?_
            · rw [if_pos c] at hK
              (refine w_name rfl rfl ?_)
              exact hK
            · rw [if_neg (fun z => by rw [c] at z; cases z)] at hK
              exact hK
          refine alloc fun ll1 H51 f51 e51 g51 o51 => ?_
          (refine w_es0 ?_)
          refine k_built rfl (q_len g51 (Nat.le_trans (List.length_filterMap_le _ _) (by omega)) ?_)
          rw [low_len]
          (refine o_add ?_; refine f_next ?_; refine s_cons ?_; refine s_set rfl ?_; refine w_call rfl ?_; refine w_es1 ?_)
          refine e_comp1 rfl ?_
          (refine w_name rfl rfl ?_)
          refine comp_go (fun v => if (!ltV xs[p] v) = true then some v else none) (e51 _ _ g50) rfl (by omega) (fun v hv K hK => ?_) ?_
          · obtain ⟨v1, v2⟩ := inth v hv
            (refine t_cmp rfl ?_; refine w_name rfl rfl ?_; refine w_name rfl rfl ?_)
            refine c_lev (hkin v v1 _ pm) v2 c ?_
            refine ifs (fun c => ?_) fun c => ?_
            · rw [if_pos c] at hK
              (refine w_name rfl rfl ?_)
              exact hK
            · rw [if_neg (fun z => by rw [c] at z; cases z)] at hK
              exact hK
          refine alloc fun ll2 H52 f52 e52 g52 o52 => ?_
          (refine w_es0 ?_)
          refine k_built rfl (q_len g52 (Nat.le_trans (List.length_filterMap_le _ _) (by omega)) ?_)
          rw [high_len]
          have lo9 : lowC xs xs[p] ≤ 9 := Nat.le_trans List.countP_le_length hl
          have hi9 : highC xs xs[p] ≤ 9 := Nat.le_trans List.countP_le_length hl
          have RF : ∀ t : Ties, ∃ (ity : Addr) (rk : List AV) (v : AV) (m : Nat), getL es t.name = some (.ref ity) ∧ H50 ity = some (.list rk) ∧ rk.length ≤ 4096 ∧ rk[p]? = some v ∧ RankV t H50 (lowC xs xs[p] + 1) (highC xs xs[p]) m v ∧ lowC xs xs[p] + m = i := fun t => by
            obtain ⟨ity, rk, q1, q2, q3, q4⟩ := RDt t
            obtain ⟨v, r1, m, r2, r3⟩ := q4.ok i p hi hqi
            rw [ep, Option.getD_some] at r2 r3
            exact ⟨ity, rk, v, m, q2, q3, rkl rk t q4, r1, r2, r3⟩
          generalize hlo : lowC xs xs[p] = lo at *
          generalize hhi : highC xs xs[p] = hi' at *
          (refine f_next ?_; refine s_cons ?_; refine s_set rfl ?_; refine w_bin ?_; refine w_name rfl rfl ?_; refine w_name rfl rfl ?_; refine o_add ?_; refine f_next ?_; refine s_cons ?_; refine s_set rfl ?_)
          have nn : (1 : Int) + (lo : Int) + (hi' : Int) = ((lo + 1 + hi' : Nat) : Int) := by omega
          rw [nn]
          refine w_ife_join (fun v H' => ∃ hf, v = .ref hf ∧ Ext H52 H' ∧ H' hf = some (.tuple [.int (Int.fdiv ((lo + 1 + hi' : Nat) : Int) (Int.gcd ((lo + 1 + hi' : Nat) : Int) 2)), .int (Int.fdiv 2 (Int.gcd ((lo + 1 + hi' : Nat) : Int) 2))])) (fun Φ' hΦ => ?_) ?_
          · (refine t_cmp rfl ?_; refine w_bin ?_; refine w_name rfl rfl ?_; refine w_int ?_)
            refine o_mod (by decide) ?_
            (refine w_int ?_; refine c_eqi ?_)
            rw [Int.fmod_eq_emod_of_nonneg _ (by decide)]
            generalize lo + 1 + hi' = n at *
            refine ifs (fun z => ?_) fun z => ?_
            · have z : (n : Int) % 2 = 0 := of_decide_eq_true z
              (refine w_tuple ?_; refine w_es1 ?_; refine w_bin ?_; refine w_name rfl rfl ?_; refine w_int ?_)
              refine ⟨⟨by decide, by omega, by decide⟩, ?_⟩
              (refine w_es1 ?_; refine w_int ?_; refine w_es0 ?_)
              refine ⟨by simp, alloc fun hf H53 f53 e53 g53 o53 => hΦ _ _ ⟨hf, rfl, e53, ?_⟩⟩
              have : Int.gcd (n : Int) 2 = 2 := by
                show Nat.gcd n 2 = 2
                exact Nat.gcd_eq_right (Nat.dvd_of_mod_eq_zero (by omega))
              rw [g53, this]
              rfl
            · have z : ¬ (n : Int) % 2 = 0 := of_decide_eq_false z
              (refine w_tuple ?_; refine w_es1 ?_; refine w_name rfl rfl ?_; refine w_es1 ?_; refine w_int ?_; refine w_es0 ?_)
              refine ⟨by simp, alloc fun hf H53 f53 e53 g53 o53 => hΦ _ _ ⟨hf, rfl, e53, ?_⟩⟩
              have : Int.gcd (n : Int) 2 = 1 := by
                show Nat.gcd n 2 = 1
                rw [Nat.gcd_comm, Nat.gcd_rec, show n % 2 = 1 from by omega]
                exact Nat.gcd_one_left 2
              rw [g53, this]
              show _ = some (AO.tuple [.int (Int.fdiv n 1), .int 2])
              rw [Int.fdiv_one]
          rintro _ H53 ⟨hf, rfl, e53, g53⟩
          have e50_53 := e51.trans (e52.trans e53)
          obtain ⟨ty1, rk1, v1, m1, a1, b1, c1, d1, r1, s1⟩ := RF .min
          obtain ⟨ty2, rk2, v2, m2, a2, b2, c2, d2, r2, s2⟩ := RF .max
          obtain ⟨ty3, rk3, v3, m3, a3, b3, c3, d3, r3, s3⟩ := RF .avg
          obtain ⟨ty4, rk4, v4, m4, a4, b4, c4, d4, r4, s4⟩ := RF .fst
          have r1 : v1 = .int ((lo + 1 : Nat) : Int) := r1
          have r2 : v2 = .int (hi' : Int) := r2
          have r4 : v4 = .int ((lo + 1 + m4 : Nat) : Int) := r4
          obtain ⟨ta, rfl, gta⟩ := r3
          subst r1 r2 r4
          have g53k := e50_53 _ _ g50k
          (refine f_next ?_; refine s_cons ?_; refine s_if ?_; refine t_cmp rfl ?_; refine w_list ?_; refine w_es1 ?_; refine w_sub rfl ?_; refine w_sub rfl ?_; refine w_name rfl rfl ?_; refine w_str ?_)
          refine i_dict g53k a1 ?_
          (refine w_name rfl rfl ?_)
          refine i_list (e50_53 _ _ b1) c1 (Int.natCast_nonneg p) (by rw [Int.toNat_natCast]; exact d1) ?_
          (refine w_es1 ?_; refine w_sub rfl ?_; refine w_sub rfl ?_; refine w_name rfl rfl ?_; refine w_str ?_)
          refine i_dict g53k a2 ?_
          (refine w_name rfl rfl ?_)
          refine i_list (e50_53 _ _ b2) c2 (Int.natCast_nonneg p) (by rw [Int.toNat_natCast]; exact d2) ?_
          (refine w_es1 ?_; refine w_sub rfl ?_; refine w_sub rfl ?_; refine w_name rfl rfl ?_; refine w_str ?_)
          refine i_dict g53k a3 ?_
          (refine w_name rfl rfl ?_)
          refine i_list (e50_53 _ _ b3) c3 (Int.natCast_nonneg p) (by rw [Int.toNat_natCast]; exact d3) ?_
          (refine w_es0 ?_)
          refine ⟨by simp, alloc fun la H54 f54 e54 g54 o54 => ?_⟩
          (refine w_list ?_; refine w_es1 ?_; refine w_name rfl rfl ?_; refine w_es1 ?_; refine w_name rfl rfl ?_; refine w_es1 ?_; refine w_name rfl rfl ?_; refine w_es0 ?_)
          refine ⟨by simp, alloc fun lb H55 f55 e55 g55 o55 => ?_⟩
          have lo1 : (1 : Int) + (lo : Int) = ((lo + 1 : Nat) : Int) := by omega
          rw [lo1] at g55
          refine ne_rank (e55 _ _ g54) g55 ((e50_53.trans (e54.trans e55)) _ _ gta) ((e54.trans e55) _ _ g53) ?_
          refine iff_ rfl ?_
          (refine s_nil ?_; refine f_next ?_; refine s_cons ?_; refine s_if ?_; refine t_cmp rfl ?_; refine w_sub rfl ?_; refine w_name rfl rfl ?_; refine w_bin ?_; refine w_sub rfl ?_; refine w_sub rfl ?_; refine w_name rfl rfl ?_; refine w_str ?_)
          have e50_55 := e50_53.trans (e54.trans e55)
          refine i_dict (e50_55 _ _ g50k) a4 ?_
          (refine w_name rfl rfl ?_)
          refine i_list (e50_55 _ _ b4) c4 (Int.natCast_nonneg p) (by rw [Int.toNat_natCast]; exact d4) ?_
          (refine w_int ?_; refine o_sub ?_)
          have e4 : (((lo + 1 + m4 : Nat) : Int) - 1).toNat = i := by omega
          refine i_list ((e50.trans e50_55) _ _ g49r) (by simp; omega) (by omega) (v := .int ((p : Int) + 1)) (by rw [e4, List.getElem?_map, hqi]; rfl) ?_
          (refine w_bin ?_; refine w_name rfl rfl ?_; refine w_int ?_; refine o_add ?_; refine c_nei ?_)
          refine iff_ (by simp) ?_
          (refine s_nil ?_; refine f_next ?_; refine s_nil ?_; refine f_tn ?_)
          exact next _ H55 (.cons rfl (.cons rfl (.cons rfl (.cons rfl (.cons rfl .nil))))) (e50.trans e50_55)
    · rintro d l H49 ⟨js, rfl, hr, hj, e49⟩
      (refine f_next ?_; refine s_cons ?_; refine s_ret ?_; refine w_bool ?_; refine f_ret ?_; refine f_rr ?_)
      exact h H49 (E47.trans (e48.trans e49))
end
section
theorem vrs_well {P : Params} {h : Heap} : ∀ {ns : List Int} {vs : List Value}, WellAll P h vs (ofPys (ns.map PyData.int)) → VRs (ns.map AV.int) vs
  | [], _, x => by
    cases x
    exact .nil
  | n :: ns, _, x => by
    cases x with
    | cons y z =>
      cases y with
      | int i t => exact .cons (.int n t) (vrs_well z)
noncomputable def isLst (o : Obj) : Bool := match o.cls with
  | .type t => t == "list"
  | _ => false
theorem kNoList (P : Params) : (KP P).map (fun p => isLst p.2) = (KP P).map fun _ => false := by kernel_rfl
theorem memk {b : Obj} {a : Addr} : ∀ {l : List (Addr × Obj)}, l.lookup a = some b → (a, b) ∈ l
  | [], h => by cases h
  | (k, v) :: r, h => by
    rw [List.lookup_cons] at h
    cases q : a == k with
    | true => rw [q] at h; cases h; rw [eq_of_beq q]; exact List.mem_cons_self
    | false => rw [q] at h; exact List.mem_cons_of_mem _ (memk h)
theorem ns_hide {h : Heap} {x a : Addr} {m : Str → Option Value} {vs : Array Value} (n : h.Ns a m) (hx : ∃ o k, h.get? x = some o ∧ o.data = .seq vs k) : (h.hide x).Ns a m := by
  obtain ⟨o, es, ep, ho, hd, r⟩ := n
  obtain ⟨o', k, ho', hd'⟩ := hx
  refine ⟨o, es, ep, (Heap.hide_ne _ fun q => ?_).trans ho, hd, r⟩
  rw [q, ho'] at ho
  cases ho
  rw [hd'] at hd; cases hd
theorem law_name : dLaw.name = sLaw := by kernel_rfl
theorem mem_of_reads {h : Heap} {x : Addr} {xs : List PyData} {as : List Addr} (r : Reads h (.ref x) (.list xs) as) : x ∈ as := by
  cases r with
  | list => exact List.mem_cons_self
theorem law_walk : lawWalk := by
  intro w s₀ s₁ mg mb G Y fa o pm cd doc dV kV ho hd hcd hD hmg hg args vals as hpre hlay hrd hwl hlo
  have KX : (KP w.params).In s₁.heap := kIn_of Y
  have hsh := (pre_splitW hpre).1
  have hcond := (pre_splitW hpre).2
  have hlo2 := hlo
  wrow_hasAll hsh hlay
  wrow_readAll hrd hwl hlo
  w_cond hcond
  rename_i ns _ _ _ _ _ _ _ x _ _ _ _ w1 r0 _ _ hlen _
  refine enter_call ?_
  refine codeAny_mono ?_ (fun _ _ g => GoodW.toG g)
  have low := G.low
  obtain ⟨ws, gx, wv⟩ : ∃ ws : List Value, s₁.heap.get? x = some (listOf ws.toArray 0) ∧ WellAll w.params s₁.heap ws (ofPys (ns.map PyData.int)) := by
    cases w1 with
    | list g q => exact ⟨_, g, q⟩
  have hx : ∃ o k, s₁.heap.get? x = some o ∧ o.data = .seq ws.toArray k := ⟨_, 0, gx, rfl⟩
  have xm : x ≠ sysModules := fun q => by
    have := hlo2 x (List.mem_append_left _ (mem_of_reads r0))
    rw [q] at this
    simp at this
  have KB : (KP w.params).In (s₁.heap.hide x) := fun b o e => by
    refine (Heap.hide_ne _ fun q => ?_).trans (KX b o e)
    have h1 := List.map_inj_left.mp (kNoList w.params) (b, o) (memk e)
    have h2 := KX b o e
    rw [q, gx] at h2
    cases h2
    cases h1
  have TB : TopRead qv looseL mg mb (s₁.heap.hide x) := by
    have T := topRead_of G.T
    obtain ⟨mc, n1, n2⟩ := T.nolimit
    exact ⟨ns_hide T.g hx, ns_hide T.b hx, ⟨mc, ns_hide n1 hx, n2⟩, T.builtins, T.free⟩
  have hB : ∀ b o, (s₁.heap.hide x).get? b = some o → s₁.heap.get? b = some o := fun b o e => by
    by_cases q : b = x
    · rw [q, Heap.hide_self] at e; cases e
    · rw [Heap.hide_ne _ q] at e; exact e
  have C := scK rwL.row.prog w w.params KB (by rw [Heap.hide_size]; exact low) ⟨qv, looseL, mg, mb, TB⟩
  have D := dom rwL.row.prog w w.params
  have L := law_ok (N := 11) (H := fun b => if b = x then some (.klist (ns.map .int) (listOf ws.toArray 0)) else none) (Φ := fun v H' => v = .bool true ∧ Ext (fun b => if b = x then some (.klist (ns.map .int) (listOf ws.toArray 0)) else none) H') (by decide) (a := x) (ns0 := ns) (ob := listOf ws.toArray 0) (if_pos rfl) (by omega) fun H' e => ⟨rfl, e⟩
  unfold Γ at L
  split at L
  case h_2 => exact L.elim
  rename_i fd hfd
  obtain ⟨a', n1, FO⟩ := C.fnA _ _ hfd
  have ha' : a' = fa := by
    have := mg_of KB TB.g n1
    have h2 := hmg
    rw [law_name] at h2
    have e : sLaw = Str.ofString "law" := rfl
    rw [e] at h2
    rw [this] at h2
    cases h2; rfl
  subst ha'
  refine call_top (B := s₁.heap.hide x) C D (sound C D 10) FO ⟨rfl, by decide, by decide⟩ hB (Nat.le_of_eq (Heap.hide_size _ _)) (fun b o e => ?_) (.cons (.ref x) .nil) L.1 L.2 fun h' tk P' L' m' H' av v S r k => ?_
  · by_cases q : b = x
    · rw [if_pos q] at e
      cases e
      subst q
      exact ⟨⟨Heap.hide_self _ _, fun _ => xm⟩, _, gx, rfl, ws, 0, rfl, vrs_well wv⟩
    · rw [if_neg q] at e; cases e
  · obtain ⟨rfl, ex⟩ := k
    cases r
    refine ⟨.inl ⟨.bool true, .bool true, [], rfl, raisesW_false (by wrow_none_raised), .bool true, ?_, unshared_nil⟩, fun b o e => ?_, rfl, hg⟩
    · wrow_post
    · by_cases q : b = x
      · subst q
        rw [gx] at e
        cases e
        obtain ⟨_, _, _, ob, g1, g2⟩ := S.rep b _ (ex b _ (if_pos rfl))
        rw [g1, g2.1]
      · exact S.fr.keep b o ((Heap.hide_ne _ q).trans e)
theorem goal_done : rwL.Holds := holds_of law_walk
end
end Mine

theorem PySem.Challenge.cw_pq1338_01_holds : PySem.Challenge.rw_pq1338_01.Holds := by
  exact Mine.goal_done
