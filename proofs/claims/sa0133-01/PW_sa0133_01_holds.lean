import PyProof.Rows.All
import Wide.All
import OpenK.AllK
import Wide.FinOn
import Lean
import PySem.Challenge.RW_sa0133_01

set_option Elab.async false
set_option maxRecDepth 100000
set_option linter.all false
set_option bootstrap.genMatcherCode false
set_option genSizeOf false
/-! ## M1 -/
set_option genSizeOfSpec false
namespace Mine
open PySem PySem.W PyProof.Rows PySem.Calls

inductive MV where
  | none | bool (b : Bool) | int (i : Int) | ref (id : Nat) | bref (k : Nat)
  deriving DecidableEq, Inhabited

inductive MObj where
  | list (xs : List MV) | tup (xs : List MV) | inst (c : Nat) (fs : List (Nat × MV)) | dict (fs : List (Nat × MV)) | range (a b s : Int) | gone
  deriving DecidableEq, Inhabited

noncomputable abbrev Hp := List MObj
noncomputable abbrev Loc := List (Option MV)

set_option genInjectivity false
mutual
inductive E where
  | loc (i : Nat) | int (i : Int) | bool (b : Bool) | none | glob (g : Nat)
  | bin (op : Operator) (l r : E)
  | un (op : UnaryOp) (e : E)
  | cmp (op : CmpOp) (l r : E)
  | cmp2 (o1 o2 : CmpOp) (a b c : E)
  | and (a b : E) | and3 (a b c : E)
  | or (a b : E) | or3 (a b c : E) | or4 (a b c d : E)
  | ife (c t e : E)
  | attr (e : E) (f : Nat)
  | idx (e i : E)
  | key (e : E) (k : Nat)
  | call (f : Nat) (as : Es)
  | new (c : Nat) (as : Es)
  | len (e : E)
  | rng1 (b : E)
  | rng3 (a b s : E)
  | list (es : Es) | tup (es : Es)
  | pop (e : E)
  | compR (hi : E) (cap : Nat) (cond : E)
  | compL (src : E) (cap : Nat) (elt : E)
  | neNil (e : E)
inductive Es where | nil | cons (e : E) (r : Es)
end

mutual
inductive S where
  | set (i : Nat) (e : E)
  | unpack2 (i j : Nat) (e : E)
  | unpack3 (i j k : Nat) (e : E)
  | setA (o : E) (f : Nat) (e : E)
  | setI (o i e : E)
  | augN (i : Nat) (op : Operator) (e : E)
  | augA (o : E) (f : Nat) (op : Operator) (e : E)
  | augI (o i : E) (op : Operator) (e : E)
  | augK (o : E) (k : Nat) (op : Operator) (e : E)
  | ifs (c : E) (t e : Ss)
  | while (c : E) (b : Ss)
  | forR1 (x : Nat) (hi : E) (b : Ss)
  | forR2 (x : Nat) (lo hi : E) (b : Ss)
  | forV (x : Nat) (e : E) (b : Ss)
  | ret (e : E)
  | app (o e : E)
  | expr (e : E)
  | raise
inductive Ss where | nil | cons (s : S) (r : Ss)
end

set_option genInjectivity true

/-! evaluation -/
noncomputable def binI (op : Operator) (a b : Int) : Option Int := match op with
  | .Add => some (a + b)
  | .Sub => some (a - b)
  | .Mult => if a.natAbs < 4294967296 ∧ b.natAbs < 4294967296 then some (a * b) else none
  | .FloorDiv => if b ≠ 0 ∧ a.natAbs < 1073741824 ∧ b.natAbs < 1073741824 then some (a.fdiv b) else none
  | .Mod => if b ≠ 0 then some (a.fmod b) else none
  | .BitAnd => some (Builtin.bitAnd a b)
  | .BitOr => some (Builtin.bitOr a b)
  | .BitXor => some (Builtin.bitXor a b)
  | .LShift => if 0 ≤ b ∧ b ≤ 1000 ∧ a.natAbs < 18446744073709551616 then some (a * 2 ^ b.toNat) else none
  | .RShift => if 0 ≤ b then some (a.fdiv (2 ^ b.toNat)) else none
  | _ => none

noncomputable def binV (op : Operator) (v w : MV) (σ : Hp) : Option (MV × Hp) := match v, w with
  | .int a, .int b => (binI op a b).map fun c => (.int c, σ)
  | .ref id, .int n => match op, σ[id]? with
    | .Mult, some (.list xs) => if 0 ≤ n ∧ n < 1000 ∧ xs.length * n.toNat ≤ 256 then some (.ref σ.length, σ ++ [.list (List.replicate n.toNat xs).flatten]) else none
    | _, _ => none
  | _, _ => none

noncomputable def binA (op : Operator) (v w : MV) (σ : Hp) : Option (MV × Hp) := match v with
  | .int _ => binV op v w σ
  | _ => none

noncomputable def cmpI (op : CmpOp) (a b : Int) : Option Bool := match op with
  | .Eq => some (a == b)
  | .NotEq => some (a != b)
  | .Lt => some (decide (a < b))
  | .LtE => some (decide (a ≤ b))
  | .Gt => some (decide (b < a))
  | .GtE => some (decide (b ≤ a))
  | _ => none

noncomputable def cmpV (op : CmpOp) (v w : MV) : Option Bool := match v, w with
  | .int a, .int b => cmpI op a b
  | _, _ => none

noncomputable def tr (v : MV) : Option Bool := match v with
  | .bool b => some b
  | .int i => some (i != 0)
  | _ => none

noncomputable def unV (op : UnaryOp) (v : MV) : Option MV := match op, v with
  | .USub, .int a => some (.int (-a))
  | .Invert, .int a => some (.int (Builtin.bitNot a))
  | .Not, v => (tr v).map fun b => .bool (!b)
  | _, _ => none

noncomputable def fldGet : List (Nat × MV) → Nat → Option MV
  | [], _ => none
  | (g, w) :: r, f => if g = f then some w else fldGet r f

noncomputable def fldPut : List (Nat × MV) → Nat → MV → List (Nat × MV)
  | [], f, v => [(f, v)]
  | (g, w) :: r, f, v => if g = f then (g, v) :: r else (g, w) :: fldPut r f v

noncomputable def getA (σ : Hp) (v : MV) (f : Nat) : Option MV := match v with
  | .ref id => match σ[id]? with
    | some (.inst _ fs) => fldGet fs f
    | _ => none
  | _ => none

noncomputable def putA (σ : Hp) (v : MV) (f : Nat) (w : MV) : Option Hp := match v with
  | .ref id => match σ[id]? with
    | some (.inst c fs) => if fs.length < 500 then some (σ.set id (.inst c (fldPut fs f w))) else none
    | _ => none
  | _ => none

noncomputable def getK (σ : Hp) (v : MV) (k : Nat) : Option MV := match v with
  | .ref id => match σ[id]? with
    | some (.dict fs) => fldGet fs k
    | _ => none
  | _ => none

noncomputable def putK (σ : Hp) (v : MV) (k : Nat) (w : MV) : Option Hp := match v with
  | .ref id => match σ[id]? with
    | some (.dict fs) => match fldGet fs k with
      | some _ => if fs.length < 500 then some (σ.set id (.dict (fldPut fs k w))) else none
      | none => none
    | _ => none
  | _ => none

noncomputable def stepsTab : List (List Int) := [[0, 1, 0, -1, 1, 1, -1, -1], [1, 0, -1, 0, 1, -1, -1, 1]]

noncomputable def place (n : Nat) (i : Int) : Option Nat := if 0 ≤ i then (if i < n then some i.toNat else none) else if 0 ≤ i + n then some (i + n).toNat else none

noncomputable def getI (σ : Hp) (v w : MV) : Option MV := match v, w with
  | .ref id, .int i => match σ[id]? with
    | some (.list xs) => if xs.length ≤ 1000 then (place xs.length i).bind fun j => xs[j]? else none
    | some (.tup xs) => if xs.length ≤ 1000 then (place xs.length i).bind fun j => xs[j]? else none
    | _ => none
  | .bref k, .int i => match stepsTab[k]? with
    | some xs => (place xs.length i).bind fun j => xs[j]?.map MV.int
    | none => none
  | _, _ => none

noncomputable def putI (σ : Hp) (v w x : MV) : Option Hp := match v, w with
  | .ref id, .int i => match σ[id]? with
    | some (.list xs) => if xs.length ≤ 1000 then (place xs.length i).map fun j => σ.set id (.list (xs.set j x)) else none
    | _ => none
  | _, _ => none

noncomputable def lenV (σ : Hp) (v : MV) : Option Int := match v with
  | .ref id => match σ[id]? with
    | some (.list xs) => if xs.length ≤ 1000 then some xs.length else none
    | _ => none
  | _ => none

noncomputable def popV (σ : Hp) (v : MV) : Option (MV × Hp) := match v with
  | .ref id => match σ[id]? with
    | some (.list xs) => if xs.length ≤ 1000 then xs.getLast?.map fun x => (x, σ.set id (.list xs.dropLast)) else none
    | _ => none
  | _ => none

noncomputable def appV (σ : Hp) (v x : MV) : Option Hp := match v with
  | .ref id => match σ[id]? with
    | some (.list xs) => if xs.length ≤ 1000 then some (σ.set id (.list (xs ++ [x]))) else none
    | _ => none
  | _ => none

noncomputable def isL (σ : Hp) (v : MV) : Bool := match v with
  | .ref id => match σ[id]? with
    | some (.list _) => true
    | _ => false
  | _ => false

noncomputable def rngV (a b s : MV) (σ : Hp) : Option (MV × Hp) := match a, b, s with
  | .int a, .int b, .int s => if (s = 1 ∨ s = -1) ∧ a.natAbs ≤ 1000 ∧ b.natAbs ≤ 1000 then some (.ref σ.length, σ ++ [.range a b s]) else none
  | _, _, _ => none

noncomputable def rangeUp (a : Int) : Nat → List MV
  | 0 => []
  | n + 1 => .int a :: rangeUp (a + 1) n
noncomputable def rangeDn (a : Int) : Nat → List MV
  | 0 => []
  | n + 1 => .int a :: rangeDn (a - 1) n
noncomputable def rangeL (a b s : Int) : List MV := if s = 1 then rangeUp a (b - a).toNat else rangeDn a (a - b).toNat

noncomputable def filtN (t : MV → Option Bool) : List MV → Option (List MV)
  | [] => some []
  | v :: r => (t v).bind fun b => (filtN t r).map fun l => if b then v :: l else l
noncomputable def mapN (t : MV → Option MV) : List MV → Option (List MV)
  | [] => some []
  | v :: r => (t v).bind fun b => (mapN t r).map fun l => b :: l

noncomputable def isInt : MV → Bool
  | .int _ => true
  | _ => false
noncomputable abbrev Gam := Nat → List MV → Hp → Option (MV × Hp)
noncomputable def noCalls : Gam := fun _ _ _ => none

noncomputable def globTab : List (Str × MV) := [
  ("WHITE", .int 0), ("BLACK", .int 1), ("PAWN", .int 1), ("KNIGHT", .int 2), ("BISHOP", .int 3), ("ROOK", .int 4), ("QUEEN", .int 5), ("KING", .int 6), ("EMPTY", .int 0),
  ("NORMAL", .int 0), ("PROMOTION", .int 1), ("EN_PASSANT", .int 2), ("CASTLING", .int 3), ("STEP_FILES", .bref 0), ("STEP_RANKS", .bref 1)]
noncomputable def globV (g : Nat) : Option MV := globTab[g]?.map (·.2)
noncomputable def fldTab : List Str := ["files", "ranks", "size", "full", "has_double", "has_castling", "file_masks", "rank_masks", "rays", "king", "knight", "pawn", "castles", "rights_lost",
  "geo", "zob", "board", "kinds", "sides", "side", "rights", "ep", "half", "key", "history", "pieces", "row", "at"]
/-- the __init__ of a class -/
noncomputable def initOf : Nat → Nat := fun c => 100 + c

mutual
noncomputable def evE (Γ : Gam) (loc : Loc) : E → Hp → Option (MV × Hp)
  | .loc i, σ => (loc[i]?.join).map fun v => (v, σ)
  | .int i, σ => some (.int i, σ)
  | .bool b, σ => some (.bool b, σ)
  | .none, σ => some (.none, σ)
  | .glob g, σ => (globV g).map fun v => (v, σ)
  | .bin op l r, σ => (evE Γ loc l σ).bind fun p => (evE Γ loc r p.2).bind fun q => binV op p.1 q.1 q.2
  | .un op e, σ => (evE Γ loc e σ).bind fun p => (unV op p.1).map fun v => (v, p.2)
  | .cmp op l r, σ => (evE Γ loc l σ).bind fun p => (evE Γ loc r p.2).bind fun q => (cmpV op p.1 q.1).map fun b => (.bool b, q.2)
  | .cmp2 o1 o2 a b c, σ => (evE Γ loc a σ).bind fun p => (evE Γ loc b p.2).bind fun q => (cmpV o1 p.1 q.1).bind fun t =>
      if t then (evE Γ loc c q.2).bind fun r => (cmpV o2 q.1 r.1).map fun t => (.bool t, r.2) else some (.bool false, q.2)
  | .and a b, σ => (evE Γ loc a σ).bind fun p => (tr p.1).bind fun t => if t then evE Γ loc b p.2 else some p
  | .and3 a b c, σ => (evE Γ loc a σ).bind fun p => (tr p.1).bind fun t => if t then (evE Γ loc b p.2).bind fun q => (tr q.1).bind fun t => if t then evE Γ loc c q.2 else some q else some p
  | .or a b, σ => (evE Γ loc a σ).bind fun p => (tr p.1).bind fun t => if t then some p else evE Γ loc b p.2
  | .or3 a b c, σ => (evE Γ loc a σ).bind fun p => (tr p.1).bind fun t => if t then some p else (evE Γ loc b p.2).bind fun q => (tr q.1).bind fun t => if t then some q else evE Γ loc c q.2
  | .or4 a b c d, σ => (evE Γ loc a σ).bind fun p => (tr p.1).bind fun t => if t then some p else (evE Γ loc b p.2).bind fun q => (tr q.1).bind fun t => if t then some q else
      (evE Γ loc c q.2).bind fun r => (tr r.1).bind fun t => if t then some r else evE Γ loc d r.2
  | .ife c t e, σ => (evE Γ loc c σ).bind fun p => (tr p.1).bind fun b => if b then evE Γ loc t p.2 else evE Γ loc e p.2
  | .attr e f, σ => (evE Γ loc e σ).bind fun p => (getA p.2 p.1 f).map fun v => (v, p.2)
  | .idx e i, σ => (evE Γ loc e σ).bind fun p => (evE Γ loc i p.2).bind fun q => (getI q.2 p.1 q.1).map fun v => (v, q.2)
  | .key e k, σ => (evE Γ loc e σ).bind fun p => (getK p.2 p.1 k).map fun v => (v, p.2)
  | .call f as, σ => (evEs Γ loc as σ).bind fun p => if f < 100 then Γ f p.1 p.2 else none
  | .new c as, σ => (evEs Γ loc as σ).bind fun p => (Γ (initOf c) (.ref p.2.length :: p.1) (p.2 ++ [.inst c []])).bind fun q => if q.1 = .none then some (.ref p.2.length, q.2) else none
  | .len e, σ => (evE Γ loc e σ).bind fun p => (lenV p.2 p.1).map fun n => (.int n, p.2)
  | .rng1 b, σ => (evE Γ loc b σ).bind fun p => rngV (.int 0) p.1 (.int 1) p.2
  | .rng3 a b s, σ => (evE Γ loc a σ).bind fun p => (evE Γ loc b p.2).bind fun q => (evE Γ loc s q.2).bind fun r => rngV p.1 q.1 r.1 r.2
  | .list es, σ => (evEs Γ loc es σ).bind fun p => some (.ref p.2.length, p.2 ++ [.list p.1])
  | .tup es, σ => (evEs Γ loc es σ).bind fun p => some (.ref p.2.length, p.2 ++ [.tup p.1])
  | .pop e, σ => (evE Γ loc e σ).bind fun p => popV p.2 p.1
  | .compR hi cap cond, σ => (evE Γ loc hi σ).bind fun p => match p.1 with
      | .int n => if 0 ≤ n ∧ n ≤ 1000 then (filtN (fun v => (evE noCalls [some v, loc[cap]?.join] cond p.2).bind fun q => if q.2 = p.2 then tr q.1 else none) (rangeUp 0 n.toNat)).map fun l => (.ref p.2.length, p.2 ++ [.list l]) else none
      | _ => none
  | .compL src cap elt, σ => (evE Γ loc src σ).bind fun p => match p.1 with
      | .ref id => match p.2[id]? with
        | some (.list xs) => if xs.length ≤ 1000 then (mapN (fun v => (evE noCalls [some v, loc[cap]?.join] elt p.2).bind fun q => if q.2 = p.2 then some q.1 else none) xs).map fun l => (.ref p.2.length, p.2 ++ [.list l]) else none
        | _ => none
      | _ => none
  | .neNil e, σ => (evE Γ loc e σ).bind fun p => match p.1 with
      | .ref id => match p.2[id]? with
        | some (.list xs) => if xs.all isInt then some (.bool (xs != []), p.2 ++ [.list []]) else none
        | _ => none
      | _ => none
noncomputable def evEs (Γ : Gam) (loc : Loc) : Es → Hp → Option (List MV × Hp)
  | .nil, σ => some ([], σ)
  | .cons e r, σ => (evE Γ loc e σ).bind fun p => (evEs Γ loc r p.2).bind fun q => some (p.1 :: q.1, q.2)
end

theorem qa1 (Γ loc i σ) : evE Γ loc (.loc i) σ = (loc[i]?.join).map fun v => (v, σ) := rfl
theorem qa2 (Γ loc i σ) : evE Γ loc (.int i) σ = some (.int i, σ) := rfl
theorem qa3 (Γ loc b σ) : evE Γ loc (.bool b) σ = some (.bool b, σ) := rfl
theorem qa4 (Γ loc σ) : evE Γ loc (.none) σ = some (.none, σ) := rfl
theorem qa5 (Γ loc g σ) : evE Γ loc (.glob g) σ = (globV g).map fun v => (v, σ) := rfl
theorem qa6 (Γ loc op l r σ) : evE Γ loc (.bin op l r) σ = (evE Γ loc l σ).bind fun p => (evE Γ loc r p.2).bind fun q => binV op p.1 q.1 q.2 := rfl
theorem qa7 (Γ loc op e σ) : evE Γ loc (.un op e) σ = (evE Γ loc e σ).bind fun p => (unV op p.1).map fun v => (v, p.2) := rfl
theorem qa8 (Γ loc op l r σ) : evE Γ loc (.cmp op l r) σ = (evE Γ loc l σ).bind fun p => (evE Γ loc r p.2).bind fun q => (cmpV op p.1 q.1).map fun b => (.bool b, q.2) := rfl
theorem qa9 (Γ loc o1 o2 a b c σ) : evE Γ loc (.cmp2 o1 o2 a b c) σ = (evE Γ loc a σ).bind fun p => (evE Γ loc b p.2).bind fun q => (cmpV o1 p.1 q.1).bind fun t =>
      if t then (evE Γ loc c q.2).bind fun r => (cmpV o2 q.1 r.1).map fun t => (.bool t, r.2) else some (.bool false, q.2) := rfl
theorem qa10 (Γ loc a b σ) : evE Γ loc (.and a b) σ = (evE Γ loc a σ).bind fun p => (tr p.1).bind fun t => if t then evE Γ loc b p.2 else some p := rfl
theorem qa11 (Γ loc a b c σ) : evE Γ loc (.and3 a b c) σ = (evE Γ loc a σ).bind fun p => (tr p.1).bind fun t => if t then (evE Γ loc b p.2).bind fun q => (tr q.1).bind fun t => if t then evE Γ loc c q.2 else some q else some p := rfl
theorem qa12 (Γ loc a b σ) : evE Γ loc (.or a b) σ = (evE Γ loc a σ).bind fun p => (tr p.1).bind fun t => if t then some p else evE Γ loc b p.2 := rfl
theorem qa13 (Γ loc a b c σ) : evE Γ loc (.or3 a b c) σ = (evE Γ loc a σ).bind fun p => (tr p.1).bind fun t => if t then some p else (evE Γ loc b p.2).bind fun q => (tr q.1).bind fun t => if t then some q else evE Γ loc c q.2 := rfl
theorem qa14 (Γ loc a b c d σ) : evE Γ loc (.or4 a b c d) σ = (evE Γ loc a σ).bind fun p => (tr p.1).bind fun t => if t then some p else (evE Γ loc b p.2).bind fun q => (tr q.1).bind fun t => if t then some q else
      (evE Γ loc c q.2).bind fun r => (tr r.1).bind fun t => if t then some r else evE Γ loc d r.2 := rfl
theorem qa15 (Γ loc c t e σ) : evE Γ loc (.ife c t e) σ = (evE Γ loc c σ).bind fun p => (tr p.1).bind fun b => if b then evE Γ loc t p.2 else evE Γ loc e p.2 := rfl
theorem qa16 (Γ loc e f σ) : evE Γ loc (.attr e f) σ = (evE Γ loc e σ).bind fun p => (getA p.2 p.1 f).map fun v => (v, p.2) := rfl
theorem qa17 (Γ loc e i σ) : evE Γ loc (.idx e i) σ = (evE Γ loc e σ).bind fun p => (evE Γ loc i p.2).bind fun q => (getI q.2 p.1 q.1).map fun v => (v, q.2) := rfl
theorem qa18 (Γ loc e k σ) : evE Γ loc (.key e k) σ = (evE Γ loc e σ).bind fun p => (getK p.2 p.1 k).map fun v => (v, p.2) := rfl
theorem qa19 (Γ loc f as σ) : evE Γ loc (.call f as) σ = (evEs Γ loc as σ).bind fun p => if f < 100 then Γ f p.1 p.2 else none := rfl
theorem qa20 (Γ loc c as σ) : evE Γ loc (.new c as) σ = (evEs Γ loc as σ).bind fun p => (Γ (initOf c) (.ref p.2.length :: p.1) (p.2 ++ [.inst c []])).bind fun q => if q.1 = .none then some (.ref p.2.length, q.2) else none := rfl
theorem qa21 (Γ loc e σ) : evE Γ loc (.len e) σ = (evE Γ loc e σ).bind fun p => (lenV p.2 p.1).map fun n => (.int n, p.2) := rfl
theorem qa22 (Γ loc b σ) : evE Γ loc (.rng1 b) σ = (evE Γ loc b σ).bind fun p => rngV (.int 0) p.1 (.int 1) p.2 := rfl
theorem qa23 (Γ loc a b s σ) : evE Γ loc (.rng3 a b s) σ = (evE Γ loc a σ).bind fun p => (evE Γ loc b p.2).bind fun q => (evE Γ loc s q.2).bind fun r => rngV p.1 q.1 r.1 r.2 := rfl
theorem qa24 (Γ loc es σ) : evE Γ loc (.list es) σ = (evEs Γ loc es σ).bind fun p => some (.ref p.2.length, p.2 ++ [.list p.1]) := rfl
theorem qa25 (Γ loc es σ) : evE Γ loc (.tup es) σ = (evEs Γ loc es σ).bind fun p => some (.ref p.2.length, p.2 ++ [.tup p.1]) := rfl
theorem qa26 (Γ loc e σ) : evE Γ loc (.pop e) σ = (evE Γ loc e σ).bind fun p => popV p.2 p.1 := rfl
theorem qa27 (Γ loc hi cap cond σ) : evE Γ loc (.compR hi cap cond) σ = (evE Γ loc hi σ).bind fun p => match p.1 with
      | .int n => if 0 ≤ n ∧ n ≤ 1000 then (filtN (fun v => (evE noCalls [some v, loc[cap]?.join] cond p.2).bind fun q => if q.2 = p.2 then tr q.1 else none) (rangeUp 0 n.toNat)).map fun l => (.ref p.2.length, p.2 ++ [.list l]) else none
      | _ => none := rfl
theorem qa28 (Γ loc src cap elt σ) : evE Γ loc (.compL src cap elt) σ = (evE Γ loc src σ).bind fun p => match p.1 with
      | .ref id => match p.2[id]? with
        | some (.list xs) => if xs.length ≤ 1000 then (mapN (fun v => (evE noCalls [some v, loc[cap]?.join] elt p.2).bind fun q => if q.2 = p.2 then some q.1 else none) xs).map fun l => (.ref p.2.length, p.2 ++ [.list l]) else none
        | _ => none
      | _ => none := rfl
theorem qa29 (Γ loc e σ) : evE Γ loc (.neNil e) σ = (evE Γ loc e σ).bind fun p => match p.1 with
      | .ref id => match p.2[id]? with
        | some (.list xs) => if xs.all isInt then some (.bool (xs != []), p.2 ++ [.list []]) else none
        | _ => none
      | _ => none := rfl
theorem qb1 (Γ loc σ) : evEs Γ loc (.nil) σ = some ([], σ) := rfl
theorem qb2 (Γ loc e r σ) : evEs Γ loc (.cons e r) σ = (evE Γ loc e σ).bind fun p => (evEs Γ loc r p.2).bind fun q => some (p.1 :: q.1, q.2) := rfl

theorem la0 (Γ : Gam) (v : MV) (l : Loc) (σ : Hp) : evE Γ (some v :: l) (.loc 0) σ = some (v, σ) := rfl
theorem la1 (Γ : Gam) (a0 : Option MV) (v : MV) (l : Loc) (σ : Hp) : evE Γ (a0 :: some v :: l) (.loc 1) σ = some (v, σ) := rfl
theorem la2 (Γ : Gam) (a0 a1 : Option MV) (v : MV) (l : Loc) (σ : Hp) : evE Γ (a0 :: a1 :: some v :: l) (.loc 2) σ = some (v, σ) := rfl
theorem la3 (Γ : Gam) (a0 a1 a2 : Option MV) (v : MV) (l : Loc) (σ : Hp) : evE Γ (a0 :: a1 :: a2 :: some v :: l) (.loc 3) σ = some (v, σ) := rfl
theorem la4 (Γ : Gam) (a0 a1 a2 a3 : Option MV) (v : MV) (l : Loc) (σ : Hp) : evE Γ (a0 :: a1 :: a2 :: a3 :: some v :: l) (.loc 4) σ = some (v, σ) := rfl
theorem la5 (Γ : Gam) (a0 a1 a2 a3 a4 : Option MV) (v : MV) (l : Loc) (σ : Hp) : evE Γ (a0 :: a1 :: a2 :: a3 :: a4 :: some v :: l) (.loc 5) σ = some (v, σ) := rfl
theorem la6 (Γ : Gam) (a0 a1 a2 a3 a4 a5 : Option MV) (v : MV) (l : Loc) (σ : Hp) : evE Γ (a0 :: a1 :: a2 :: a3 :: a4 :: a5 :: some v :: l) (.loc 6) σ = some (v, σ) := rfl
theorem la7 (Γ : Gam) (a0 a1 a2 a3 a4 a5 a6 : Option MV) (v : MV) (l : Loc) (σ : Hp) : evE Γ (a0 :: a1 :: a2 :: a3 :: a4 :: a5 :: a6 :: some v :: l) (.loc 7) σ = some (v, σ) := rfl
theorem la8 (Γ : Gam) (a0 a1 a2 a3 a4 a5 a6 a7 : Option MV) (v : MV) (l : Loc) (σ : Hp) : evE Γ (a0 :: a1 :: a2 :: a3 :: a4 :: a5 :: a6 :: a7 :: some v :: l) (.loc 8) σ = some (v, σ) := rfl
theorem la9 (Γ : Gam) (a0 a1 a2 a3 a4 a5 a6 a7 a8 : Option MV) (v : MV) (l : Loc) (σ : Hp) : evE Γ (a0 :: a1 :: a2 :: a3 :: a4 :: a5 :: a6 :: a7 :: a8 :: some v :: l) (.loc 9) σ = some (v, σ) := rfl
theorem la10 (Γ : Gam) (a0 a1 a2 a3 a4 a5 a6 a7 a8 a9 : Option MV) (v : MV) (l : Loc) (σ : Hp) : evE Γ (a0 :: a1 :: a2 :: a3 :: a4 :: a5 :: a6 :: a7 :: a8 :: a9 :: some v :: l) (.loc 10) σ = some (v, σ) := rfl
theorem la11 (Γ : Gam) (a0 a1 a2 a3 a4 a5 a6 a7 a8 a9 a10 : Option MV) (v : MV) (l : Loc) (σ : Hp) : evE Γ (a0 :: a1 :: a2 :: a3 :: a4 :: a5 :: a6 :: a7 :: a8 :: a9 :: a10 :: some v :: l) (.loc 11) σ = some (v, σ) := rfl
theorem la12 (Γ : Gam) (a0 a1 a2 a3 a4 a5 a6 a7 a8 a9 a10 a11 : Option MV) (v : MV) (l : Loc) (σ : Hp) : evE Γ (a0 :: a1 :: a2 :: a3 :: a4 :: a5 :: a6 :: a7 :: a8 :: a9 :: a10 :: a11 :: some v :: l) (.loc 12) σ = some (v, σ) := rfl
theorem la13 (Γ : Gam) (a0 a1 a2 a3 a4 a5 a6 a7 a8 a9 a10 a11 a12 : Option MV) (v : MV) (l : Loc) (σ : Hp) : evE Γ (a0 :: a1 :: a2 :: a3 :: a4 :: a5 :: a6 :: a7 :: a8 :: a9 :: a10 :: a11 :: a12 :: some v :: l) (.loc 13) σ = some (v, σ) := rfl

inductive Fl where | next | ret (v : MV)
  deriving DecidableEq, Inhabited

noncomputable abbrev Out := Option (Fl × Loc × Hp)

noncomputable def whileN (t : Loc → Hp → Option (MV × Hp)) (b : Loc → Hp → Out) : Nat → Loc → Hp → Out
  | 0, _, _ => none
  | n + 1, loc, σ => (t loc σ).bind fun p => (tr p.1).bind fun c => if c then (b loc p.2).bind fun r => match r.1 with
      | .next => whileN t b n r.2.1 r.2.2
      | .ret v => some (.ret v, r.2)
    else some (.next, loc, p.2)

noncomputable def forN (x : Nat) (b : Loc → Hp → Out) : List MV → Loc → Hp → Out
  | [], loc, σ => some (.next, loc, σ)
  | v :: vs, loc, σ => (b (loc.set x (some v)) σ).bind fun r => match r.1 with
      | .next => forN x b vs r.2.1 r.2.2
      | .ret v => some (.ret v, r.2)

noncomputable def fuel : Nat := 64

noncomputable def tupGet (σ : Hp) (v : MV) : Option (List MV) := match v with
  | .ref id => match σ[id]? with
    | some (.tup xs) => some xs
    | _ => none
  | _ => none

mutual
noncomputable def evS (Γ : Gam) : S → Loc → Hp → Out
  | .set i e, loc, σ => (evE Γ loc e σ).bind fun p => some (.next, loc.set i (some p.1), p.2)
  | .unpack2 i j e, loc, σ => (evE Γ loc e σ).bind fun p => match tupGet p.2 p.1 with
      | some [a, b] => some (.next, (loc.set i (some a)).set j (some b), p.2)
      | _ => none
  | .unpack3 i j k e, loc, σ => (evE Γ loc e σ).bind fun p => match tupGet p.2 p.1 with
      | some [a, b, c] => some (.next, ((loc.set i (some a)).set j (some b)).set k (some c), p.2)
      | _ => none
  | .setA o f e, loc, σ => (evE Γ loc e σ).bind fun p => (evE Γ loc o p.2).bind fun q => (putA q.2 q.1 f p.1).bind fun σ' => some (.next, loc, σ')
  | .setI o i e, loc, σ => (evE Γ loc e σ).bind fun p => (evE Γ loc o p.2).bind fun q => (evE Γ loc i q.2).bind fun r => (putI r.2 q.1 r.1 p.1).bind fun σ' => some (.next, loc, σ')
  | .augN i op e, loc, σ => (loc[i]?.join).bind fun v => (evE Γ loc e σ).bind fun p => (binA op v p.1 p.2).bind fun q => some (.next, loc.set i (some q.1), q.2)
  | .augA o f op e, loc, σ => (evE Γ loc o σ).bind fun p => (getA p.2 p.1 f).bind fun v => (evE Γ loc e p.2).bind fun q => (binA op v q.1 q.2).bind fun r => (putA r.2 p.1 f r.1).bind fun σ' => some (.next, loc, σ')
  | .augI o i op e, loc, σ => (evE Γ loc o σ).bind fun p => (evE Γ loc i p.2).bind fun p' => (getI p'.2 p.1 p'.1).bind fun v => (evE Γ loc e p'.2).bind fun q => (binA op v q.1 q.2).bind fun r =>
      (putI r.2 p.1 p'.1 r.1).bind fun σ' => some (.next, loc, σ')
  | .augK o k op e, loc, σ => (evE Γ loc o σ).bind fun p => (getK p.2 p.1 k).bind fun v => (evE Γ loc e p.2).bind fun q => (binA op v q.1 q.2).bind fun r => (putK r.2 p.1 k r.1).bind fun σ' => some (.next, loc, σ')
  | .ifs c t e, loc, σ => (evE Γ loc c σ).bind fun p => (tr p.1).bind fun b => if b then evSs Γ t loc p.2 else evSs Γ e loc p.2
  | .while c b, loc, σ => whileN (fun loc σ => evE Γ loc c σ) (evSs Γ b) fuel loc σ
  | .forR1 x hi b, loc, σ => (evE Γ loc hi σ).bind fun p => match p.1 with
      | .int n => if 0 ≤ n ∧ n ≤ 1000 then forN x (evSs Γ b) (rangeUp 0 n.toNat) loc p.2 else none
      | _ => none
  | .forR2 x lo hi b, loc, σ => (evE Γ loc lo σ).bind fun p => (evE Γ loc hi p.2).bind fun q => match p.1, q.1 with
      | .int a, .int n => if 0 ≤ a ∧ a ≤ 1000 ∧ 0 ≤ n ∧ n ≤ 1000 then forN x (evSs Γ b) (rangeUp a (n - a).toNat) loc q.2 else none
      | _, _ => none
  | .forV x e b, loc, σ => (evE Γ loc e σ).bind fun p => match p.1 with
      | .ref id => match p.2[id]? with
        | some (.range a c s) => if (s = 1 ∨ s = -1) ∧ a.natAbs ≤ 1000 ∧ c.natAbs ≤ 1000 then forN x (evSs Γ b) (rangeL a c s) loc p.2 else none
        | some (.list xs) => if xs.length ≤ 1000 then forN x (evSs Γ b) xs loc (p.2.set id .gone) else none
        | _ => none
      | _ => none
  | .ret e, loc, σ => (evE Γ loc e σ).bind fun p => some (.ret p.1, loc, p.2)
  | .app o e, loc, σ => (evE Γ loc o σ).bind fun p => if isL p.2 p.1 = false then none else (evE Γ loc e p.2).bind fun q => (appV q.2 p.1 q.1).bind fun σ' => some (.next, loc, σ')
  | .expr e, loc, σ => (evE Γ loc e σ).bind fun p => if p.1 = .none then some (.next, loc, p.2) else none
  | .raise, _, _ => none
noncomputable def evSs (Γ : Gam) : Ss → Loc → Hp → Out
  | .nil, loc, σ => some (.next, loc, σ)
  | .cons s r, loc, σ => (evS Γ s loc σ).bind fun p => match p.1 with
      | .next => evSs Γ r p.2.1 p.2.2
      | .ret v => some (.ret v, p.2)
end

theorem qc1 (Γ i e loc σ) : evS Γ (.set i e) loc σ = (evE Γ loc e σ).bind fun p => some (.next, loc.set i (some p.1), p.2) := rfl
theorem qc2 (Γ i j e loc σ) : evS Γ (.unpack2 i j e) loc σ = (evE Γ loc e σ).bind fun p => match tupGet p.2 p.1 with
      | some [a, b] => some (.next, (loc.set i (some a)).set j (some b), p.2)
      | _ => none := rfl
theorem qc3 (Γ i j k e loc σ) : evS Γ (.unpack3 i j k e) loc σ = (evE Γ loc e σ).bind fun p => match tupGet p.2 p.1 with
      | some [a, b, c] => some (.next, ((loc.set i (some a)).set j (some b)).set k (some c), p.2)
      | _ => none := rfl
theorem qc4 (Γ o f e loc σ) : evS Γ (.setA o f e) loc σ = (evE Γ loc e σ).bind fun p => (evE Γ loc o p.2).bind fun q => (putA q.2 q.1 f p.1).bind fun σ' => some (.next, loc, σ') := rfl
theorem qc5 (Γ o i e loc σ) : evS Γ (.setI o i e) loc σ = (evE Γ loc e σ).bind fun p => (evE Γ loc o p.2).bind fun q => (evE Γ loc i q.2).bind fun r => (putI r.2 q.1 r.1 p.1).bind fun σ' => some (.next, loc, σ') := rfl
theorem qc6 (Γ i op e loc σ) : evS Γ (.augN i op e) loc σ = (loc[i]?.join).bind fun v => (evE Γ loc e σ).bind fun p => (binA op v p.1 p.2).bind fun q => some (.next, loc.set i (some q.1), q.2) := rfl
theorem qc7 (Γ o f op e loc σ) : evS Γ (.augA o f op e) loc σ = (evE Γ loc o σ).bind fun p => (getA p.2 p.1 f).bind fun v => (evE Γ loc e p.2).bind fun q => (binA op v q.1 q.2).bind fun r => (putA r.2 p.1 f r.1).bind fun σ' => some (.next, loc, σ') := rfl
theorem qc8 (Γ o i op e loc σ) : evS Γ (.augI o i op e) loc σ = (evE Γ loc o σ).bind fun p => (evE Γ loc i p.2).bind fun p' => (getI p'.2 p.1 p'.1).bind fun v => (evE Γ loc e p'.2).bind fun q => (binA op v q.1 q.2).bind fun r =>
      (putI r.2 p.1 p'.1 r.1).bind fun σ' => some (.next, loc, σ') := rfl
theorem qc9 (Γ o k op e loc σ) : evS Γ (.augK o k op e) loc σ = (evE Γ loc o σ).bind fun p => (getK p.2 p.1 k).bind fun v => (evE Γ loc e p.2).bind fun q => (binA op v q.1 q.2).bind fun r => (putK r.2 p.1 k r.1).bind fun σ' => some (.next, loc, σ') := rfl
theorem qc10 (Γ c t e loc σ) : evS Γ (.ifs c t e) loc σ = (evE Γ loc c σ).bind fun p => (tr p.1).bind fun b => if b then evSs Γ t loc p.2 else evSs Γ e loc p.2 := rfl
theorem qc11 (Γ c b loc σ) : evS Γ (.while c b) loc σ = whileN (fun loc σ => evE Γ loc c σ) (evSs Γ b) fuel loc σ := rfl
theorem qc12 (Γ x hi b loc σ) : evS Γ (.forR1 x hi b) loc σ = (evE Γ loc hi σ).bind fun p => match p.1 with
      | .int n => if 0 ≤ n ∧ n ≤ 1000 then forN x (evSs Γ b) (rangeUp 0 n.toNat) loc p.2 else none
      | _ => none := rfl
theorem qc13 (Γ x lo hi b loc σ) : evS Γ (.forR2 x lo hi b) loc σ = (evE Γ loc lo σ).bind fun p => (evE Γ loc hi p.2).bind fun q => match p.1, q.1 with
      | .int a, .int n => if 0 ≤ a ∧ a ≤ 1000 ∧ 0 ≤ n ∧ n ≤ 1000 then forN x (evSs Γ b) (rangeUp a (n - a).toNat) loc q.2 else none
      | _, _ => none := rfl
theorem qc14 (Γ x e b loc σ) : evS Γ (.forV x e b) loc σ = (evE Γ loc e σ).bind fun p => match p.1 with
      | .ref id => match p.2[id]? with
        | some (.range a c s) => if (s = 1 ∨ s = -1) ∧ a.natAbs ≤ 1000 ∧ c.natAbs ≤ 1000 then forN x (evSs Γ b) (rangeL a c s) loc p.2 else none
        | some (.list xs) => if xs.length ≤ 1000 then forN x (evSs Γ b) xs loc (p.2.set id .gone) else none
        | _ => none
      | _ => none := rfl
theorem qc15 (Γ e loc σ) : evS Γ (.ret e) loc σ = (evE Γ loc e σ).bind fun p => some (.ret p.1, loc, p.2) := rfl
theorem qc16 (Γ o e loc σ) : evS Γ (.app o e) loc σ = (evE Γ loc o σ).bind fun p => if isL p.2 p.1 = false then none else (evE Γ loc e p.2).bind fun q => (appV q.2 p.1 q.1).bind fun σ' => some (.next, loc, σ') := rfl
theorem qc17 (Γ e loc σ) : evS Γ (.expr e) loc σ = (evE Γ loc e σ).bind fun p => if p.1 = .none then some (.next, loc, p.2) else none := rfl
theorem qc18 (Γ x0 x1) : evS Γ (.raise) x0 x1 = none := rfl
theorem qd1 (Γ loc σ) : evSs Γ (.nil) loc σ = some (.next, loc, σ) := rfl
theorem qd2 (Γ s r loc σ) : evSs Γ (.cons s r) loc σ = (evS Γ s loc σ).bind fun p => match p.1 with
      | .next => evSs Γ r p.2.1 p.2.2
      | .ret v => some (.ret v, p.2) := rfl

/-- the goal out of the way while facts are taken apart -/
theorem hide {P : Prop} (h : ∀ X : Prop, (P → X) → X) : P := h P id
theorem len_two {α : Type} : ∀ {l : List α}, l.length = 2 → ∃ a b, l = [a, b]
  | [a, b], _ => ⟨a, b, rfl⟩
theorem len_three {α : Type} : ∀ {l : List α}, l.length = 3 → ∃ a b c, l = [a, b, c]
  | [a, b, c], _ => ⟨a, b, c, rfl⟩
structure Fn where
  vars : List Str
  arity : Nat
  body : Ss

noncomputable def runFn (Γ : Gam) (fd : Fn) (args : List MV) (σ : Hp) : Option (MV × Hp) :=
  if args.length = fd.arity then (evSs Γ fd.body (args.map some ++ List.replicate (fd.vars.length - fd.arity) none) σ).bind fun r => match r.1 with
    | .next => some (.none, r.2.2)
    | .ret v => some (v, r.2.2)
  else none
noncomputable def callF (P : Nat → Option Fn) : Nat → Gam
  | 0 => noCalls
  | n + 1 => fun f args σ => (P f).bind fun fd => runFn (callF P n) fd args σ
end Mine

/-! ## M2 -/
namespace Mine
open PySem
-- make_piece
noncomputable def F0 : Fn := ⟨["side", "kind"], 2,
    (.cons (.ret (.bin .Add (.bin .Mult (.loc 0) (.int 8)) (.loc 1)))
    .nil)⟩
-- side_of
noncomputable def F1 : Fn := ⟨["piece"], 1,
    (.cons (.ret (.bin .RShift (.loc 0) (.int 3)))
    .nil)⟩
-- kind_of
noncomputable def F2 : Fn := ⟨["piece"], 1,
    (.cons (.ret (.bin .BitAnd (.loc 0) (.int 7)))
    .nil)⟩
-- pack_move
noncomputable def F3 : Fn := ⟨["origin", "to", "special", "promo", "field"], 4,
    (.cons (.set 4 (.int 0))
    (.cons (.ifs (.cmp .Eq (.loc 2) (.glob 10)) (.cons (.set 4 (.bin .Sub (.loc 3) (.glob 3)))
    .nil) .nil)
    (.cons (.ret (.bin .BitOr (.bin .BitOr (.bin .BitOr (.loc 1) (.bin .LShift (.loc 0) (.int 6))) (.bin .LShift (.loc 4) (.int 12))) (.bin .LShift (.loc 2) (.int 14))))
    .nil)))⟩
-- move_from
noncomputable def F4 : Fn := ⟨["move"], 1,
    (.cons (.ret (.bin .BitAnd (.bin .RShift (.loc 0) (.int 6)) (.int 63)))
    .nil)⟩
-- move_to
noncomputable def F5 : Fn := ⟨["move"], 1,
    (.cons (.ret (.bin .BitAnd (.loc 0) (.int 63)))
    .nil)⟩
-- move_special
noncomputable def F6 : Fn := ⟨["move"], 1,
    (.cons (.ret (.bin .BitAnd (.bin .RShift (.loc 0) (.int 14)) (.int 3)))
    .nil)⟩
-- more_than_one
noncomputable def F7 : Fn := ⟨["b"], 1,
    (.cons (.ret (.cmp .NotEq (.bin .BitAnd (.loc 0) (.bin .Sub (.loc 0) (.int 1))) (.int 0)))
    .nil)⟩
-- highest
noncomputable def F8 : Fn := ⟨["b", "width", "square"], 1,
    (.cons (.ifs (.cmp .Eq (.loc 0) (.int 0)) (.cons (.ret (.un .USub (.int 1)))
    .nil) .nil)
    (.cons (.set 1 (.int 1))
    (.cons (.while (.bin .RShift (.loc 0) (.loc 1)) (.cons (.augN 1 .Mult (.int 2))
    .nil))
    (.cons (.set 2 (.int 0))
    (.cons (.while (.cmp .Gt (.loc 1) (.int 1)) (.cons (.augN 1 .FloorDiv (.int 2))
    (.cons (.ifs (.bin .RShift (.loc 0) (.loc 1)) (.cons (.augN 0 .RShift (.loc 1))
    (.cons (.augN 2 .Add (.loc 1))
    .nil)) .nil)
    .nil)))
    (.cons (.ret (.loc 2))
    .nil))))))⟩
-- lowest
noncomputable def F9 : Fn := ⟨["b"], 1,
    (.cons (.ret (.call 8 (.cons (.bin .BitAnd (.loc 0) (.un .USub (.loc 0))) .nil)))
    .nil)⟩
-- squares_of
noncomputable def F10 : Fn := ⟨["b", "out", "square"], 1,
    (.cons (.set 1 (.list .nil))
    (.cons (.set 2 (.int 0))
    (.cons (.while (.loc 0) (.cons (.while (.un .Not (.bin .BitAnd (.loc 0) (.int 15))) (.cons (.augN 0 .RShift (.int 4))
    (.cons (.augN 2 .Add (.int 4))
    .nil)))
    (.cons (.ifs (.bin .BitAnd (.loc 0) (.int 1)) (.cons (.app (.loc 1) (.loc 2))
    .nil) .nil)
    (.cons (.augN 0 .RShift (.int 1))
    (.cons (.augN 2 .Add (.int 1))
    .nil)))))
    (.cons (.ret (.loc 1))
    .nil))))⟩
-- is_growing
noncomputable def F11 : Fn := ⟨["d"], 1,
    (.cons (.ret (.or (.cmp .Gt (.idx (.glob 14) (.loc 0)) (.int 0)) (.cmp .Eq (.loc 0) (.int 1))))
    .nil)⟩
-- add_masks
noncomputable def F12 : Fn := ⟨["geo", "row", "column", "r", "f"], 1,
    (.cons (.set 1 (.bin .Sub (.bin .LShift (.int 1) (.attr (.loc 0) 0)) (.int 1)))
    (.cons (.set 2 (.int 0))
    (.cons (.forR1 3 (.attr (.loc 0) 1) (.cons (.app (.attr (.loc 0) 7) (.bin .LShift (.loc 1) (.bin .Mult (.loc 3) (.attr (.loc 0) 0))))
    (.cons (.augN 2 .BitOr (.bin .LShift (.int 1) (.bin .Mult (.loc 3) (.attr (.loc 0) 0))))
    .nil)))
    (.cons (.forR1 4 (.attr (.loc 0) 0) (.cons (.app (.attr (.loc 0) 6) (.bin .LShift (.loc 2) (.loc 4)))
    .nil))
    .nil))))⟩
-- inner_squares
noncomputable def F13 : Fn := ⟨["geo", "d", "edge"], 2,
    (.cons (.set 2 (.int 0))
    (.cons (.ifs (.cmp .Gt (.idx (.glob 13) (.loc 1)) (.int 0)) (.cons (.augN 2 .BitOr (.idx (.attr (.loc 0) 6) (.bin .Sub (.attr (.loc 0) 0) (.int 1))))
    .nil) .nil)
    (.cons (.ifs (.cmp .Lt (.idx (.glob 13) (.loc 1)) (.int 0)) (.cons (.augN 2 .BitOr (.idx (.attr (.loc 0) 6) (.int 0)))
    .nil) .nil)
    (.cons (.ifs (.cmp .Gt (.idx (.glob 14) (.loc 1)) (.int 0)) (.cons (.augN 2 .BitOr (.idx (.attr (.loc 0) 7) (.bin .Sub (.attr (.loc 0) 1) (.int 1))))
    .nil) .nil)
    (.cons (.ifs (.cmp .Lt (.idx (.glob 14) (.loc 1)) (.int 0)) (.cons (.augN 2 .BitOr (.idx (.attr (.loc 0) 7) (.int 0)))
    .nil) .nil)
    (.cons (.ret (.bin .BitAnd (.attr (.loc 0) 3) (.un .Invert (.loc 2))))
    .nil))))))⟩
-- add_rays
noncomputable def F14 : Fn := ⟨["geo", "d", "inner", "delta", "ray", "order", "square", "goal"], 1,
    (.cons (.setA (.loc 0) 9 (.bin .Mult (.list (.cons (.int 0) .nil)) (.attr (.loc 0) 2)))
    (.cons (.forR1 1 (.int 8) (.cons (.set 2 (.call 13 (.cons (.loc 0) (.cons (.loc 1) .nil))))
    (.cons (.set 3 (.bin .Add (.bin .Mult (.idx (.glob 14) (.loc 1)) (.attr (.loc 0) 0)) (.idx (.glob 13) (.loc 1))))
    (.cons (.set 4 (.bin .Mult (.list (.cons (.int 0) .nil)) (.attr (.loc 0) 2)))
    (.cons (.set 5 (.rng1 (.attr (.loc 0) 2)))
    (.cons (.ifs (.call 11 (.cons (.loc 1) .nil)) (.cons (.set 5 (.rng3 (.bin .Sub (.attr (.loc 0) 2) (.int 1)) (.un .USub (.int 1)) (.un .USub (.int 1))))
    .nil) .nil)
    (.cons (.forV 6 (.loc 5) (.cons (.ifs (.bin .BitAnd (.bin .RShift (.loc 2) (.loc 6)) (.int 1)) (.cons (.set 7 (.bin .Add (.loc 6) (.loc 3)))
    (.cons (.setI (.loc 4) (.loc 6) (.bin .BitOr (.idx (.loc 4) (.loc 7)) (.bin .LShift (.int 1) (.loc 7))))
    (.cons (.augI (.attr (.loc 0) 9) (.loc 6) .BitOr (.bin .LShift (.int 1) (.loc 7)))
    .nil))) .nil)
    .nil))
    (.cons (.app (.attr (.loc 0) 8) (.loc 4))
    .nil))))))))
    .nil))⟩
-- add_pawns
noncomputable def F15 : Fn := ⟨["geo", "square"], 1,
    (.cons (.forR1 1 (.attr (.loc 0) 2) (.cons (.app (.idx (.attr (.loc 0) 11) (.int 0)) (.bin .BitAnd (.idx (.attr (.loc 0) 9) (.loc 1)) (.bin .BitOr (.idx (.idx (.attr (.loc 0) 8) (.int 4)) (.loc 1)) (.idx (.idx (.attr (.loc 0) 8) (.int 7)) (.loc 1)))))
    (.cons (.app (.idx (.attr (.loc 0) 11) (.int 1)) (.bin .BitAnd (.idx (.attr (.loc 0) 9) (.loc 1)) (.bin .BitOr (.idx (.idx (.attr (.loc 0) 8) (.int 5)) (.loc 1)) (.idx (.idx (.attr (.loc 0) 8) (.int 6)) (.loc 1)))))
    .nil)))
    .nil)⟩
-- add_knights
noncomputable def F16 : Fn := ⟨["geo", "files", "not_first", "not_last", "not_first_two", "not_last_two", "square", "b", "near", "far", "found"], 1,
    (.cons (.set 1 (.attr (.loc 0) 0))
    (.cons (.set 2 (.bin .BitAnd (.attr (.loc 0) 3) (.un .Invert (.idx (.attr (.loc 0) 6) (.int 0)))))
    (.cons (.set 3 (.bin .BitAnd (.attr (.loc 0) 3) (.un .Invert (.idx (.attr (.loc 0) 6) (.bin .Sub (.loc 1) (.int 1))))))
    (.cons (.set 4 (.bin .BitAnd (.loc 2) (.un .Invert (.idx (.attr (.loc 0) 6) (.int 1)))))
    (.cons (.set 5 (.bin .BitAnd (.loc 3) (.un .Invert (.idx (.attr (.loc 0) 6) (.bin .Sub (.loc 1) (.int 2))))))
    (.cons (.forR1 6 (.attr (.loc 0) 2) (.cons (.set 7 (.bin .LShift (.int 1) (.loc 6)))
    (.cons (.set 8 (.bin .BitOr (.bin .BitAnd (.bin .LShift (.loc 7) (.int 1)) (.loc 2)) (.bin .BitAnd (.bin .RShift (.loc 7) (.int 1)) (.loc 3))))
    (.cons (.set 9 (.bin .BitOr (.bin .BitAnd (.bin .LShift (.loc 7) (.int 2)) (.loc 4)) (.bin .BitAnd (.bin .RShift (.loc 7) (.int 2)) (.loc 5))))
    (.cons (.set 10 (.bin .BitOr (.bin .BitOr (.bin .BitOr (.bin .LShift (.loc 8) (.bin .Mult (.int 2) (.loc 1))) (.bin .RShift (.loc 8) (.bin .Mult (.int 2) (.loc 1)))) (.bin .LShift (.loc 9) (.loc 1))) (.bin .RShift (.loc 9) (.loc 1))))
    (.cons (.app (.attr (.loc 0) 10) (.bin .BitAnd (.loc 10) (.attr (.loc 0) 3)))
    .nil))))))
    .nil))))))⟩
-- add_castles
noncomputable def F17 : Fn := ⟨["geo", "start", "index", "base", "corner", "way", "goal"], 1,
    (.cons (.setA (.loc 0) 13 (.bin .Mult (.list (.cons (.int 0) .nil)) (.attr (.loc 0) 2)))
    (.cons (.set 1 (.bin .FloorDiv (.attr (.loc 0) 0) (.int 2)))
    (.cons (.forR1 2 (.int 4) (.cons (.set 3 (.bin .Mult (.bin .Mult (.bin .RShift (.loc 2) (.int 1)) (.bin .Sub (.attr (.loc 0) 1) (.int 1))) (.attr (.loc 0) 0)))
    (.cons (.set 4 (.bin .Sub (.attr (.loc 0) 0) (.int 1)))
    (.cons (.set 5 (.int 1))
    (.cons (.ifs (.bin .BitAnd (.loc 2) (.int 1)) (.cons (.set 4 (.int 0))
    (.cons (.set 5 (.un .USub (.int 1)))
    .nil)) .nil)
    (.cons (.set 6 (.bin .Add (.loc 1) (.bin .Mult (.int 2) (.loc 5))))
    (.cons (.ifs (.and (.attr (.loc 0) 5) (.cmp .Gt (.bin .Mult (.bin .Sub (.loc 4) (.loc 6)) (.loc 5)) (.int 0))) (.cons (.app (.attr (.loc 0) 12) (.tup (.cons (.bin .Add (.loc 3) (.loc 1)) (.cons (.bin .Add (.loc 3) (.loc 6)) (.cons (.bin .Add (.loc 3) (.loc 4)) (.cons (.bin .Sub (.bin .Add (.loc 3) (.loc 6)) (.loc 5)) .nil))))))
    (.cons (.augI (.attr (.loc 0) 13) (.bin .Add (.loc 3) (.loc 1)) .BitOr (.bin .LShift (.int 1) (.loc 2)))
    (.cons (.augI (.attr (.loc 0) 13) (.bin .Add (.loc 3) (.loc 4)) .BitOr (.bin .LShift (.int 1) (.loc 2)))
    .nil))) (.cons (.app (.attr (.loc 0) 12) .none)
    .nil))
    .nil)))))))
    .nil)))⟩
-- make_geometry
noncomputable def F18 : Fn := ⟨["files", "ranks", "has_double", "has_castling", "geo"], 4,
    (.cons (.ifs (.or4 (.cmp .Lt (.loc 0) (.int 2)) (.cmp .Gt (.loc 0) (.int 8)) (.cmp .Lt (.loc 1) (.int 3)) (.cmp .Gt (.loc 1) (.int 8))) (.cons .raise
    .nil) .nil)
    (.cons (.set 4 (.new 0 (.cons (.loc 0) (.cons (.loc 1) (.cons (.loc 2) (.cons (.loc 3) .nil))))))
    (.cons (.expr (.call 12 (.cons (.loc 4) .nil)))
    (.cons (.expr (.call 14 (.cons (.loc 4) .nil)))
    (.cons (.expr (.call 15 (.cons (.loc 4) .nil)))
    (.cons (.expr (.call 16 (.cons (.loc 4) .nil)))
    (.cons (.expr (.call 17 (.cons (.loc 4) .nil)))
    (.cons (.ret (.loc 4))
    .nil))))))))⟩
-- ray_attacks
noncomputable def F19 : Fn := ⟨["geo", "d", "square", "occupied", "ray", "stop", "behind"], 4,
    (.cons (.set 4 (.idx (.idx (.attr (.loc 0) 8) (.loc 1)) (.loc 2)))
    (.cons (.set 5 (.bin .BitAnd (.loc 4) (.loc 3)))
    (.cons (.ifs (.cmp .Eq (.loc 5) (.int 0)) (.cons (.ret (.loc 4))
    .nil) .nil)
    (.cons (.ifs (.call 11 (.cons (.loc 1) .nil)) (.cons (.ret (.bin .BitAnd (.loc 4) (.bin .BitXor (.loc 5) (.bin .Sub (.loc 5) (.int 1)))))
    .nil) .nil)
    (.cons (.set 6 (.bin .RShift (.loc 5) (.int 1)))
    (.cons (.augN 6 .BitOr (.bin .RShift (.loc 6) (.int 1)))
    (.cons (.augN 6 .BitOr (.bin .RShift (.loc 6) (.int 2)))
    (.cons (.augN 6 .BitOr (.bin .RShift (.loc 6) (.int 4)))
    (.cons (.augN 6 .BitOr (.bin .RShift (.loc 6) (.int 8)))
    (.cons (.augN 6 .BitOr (.bin .RShift (.loc 6) (.int 16)))
    (.cons (.augN 6 .BitOr (.bin .RShift (.loc 6) (.int 32)))
    (.cons (.ret (.bin .BitAnd (.loc 4) (.un .Invert (.loc 6))))
    .nil))))))))))))⟩
-- rook_attacks
noncomputable def F20 : Fn := ⟨["geo", "square", "occupied", "found", "d"], 3,
    (.cons (.set 3 (.int 0))
    (.cons (.forR1 4 (.int 4) (.cons (.augN 3 .BitOr (.call 19 (.cons (.loc 0) (.cons (.loc 4) (.cons (.loc 1) (.cons (.loc 2) .nil))))))
    .nil))
    (.cons (.ret (.loc 3))
    .nil)))⟩
-- bishop_attacks
noncomputable def F21 : Fn := ⟨["geo", "square", "occupied", "found", "d"], 3,
    (.cons (.set 3 (.int 0))
    (.cons (.forR2 4 (.int 4) (.int 8) (.cons (.augN 3 .BitOr (.call 19 (.cons (.loc 0) (.cons (.loc 4) (.cons (.loc 1) (.cons (.loc 2) .nil))))))
    .nil))
    (.cons (.ret (.loc 3))
    .nil)))⟩
-- queen_attacks
noncomputable def F22 : Fn := ⟨["geo", "square", "occupied"], 3,
    (.cons (.ret (.bin .BitOr (.call 20 (.cons (.loc 0) (.cons (.loc 1) (.cons (.loc 2) .nil)))) (.call 21 (.cons (.loc 0) (.cons (.loc 1) (.cons (.loc 2) .nil))))))
    .nil)⟩
-- slider_attacks
noncomputable def F23 : Fn := ⟨["geo", "kind", "square", "occupied"], 4,
    (.cons (.ifs (.cmp .Eq (.loc 1) (.glob 4)) (.cons (.ret (.call 21 (.cons (.loc 0) (.cons (.loc 2) (.cons (.loc 3) .nil)))))
    .nil) .nil)
    (.cons (.ifs (.cmp .Eq (.loc 1) (.glob 5)) (.cons (.ret (.call 20 (.cons (.loc 0) (.cons (.loc 2) (.cons (.loc 3) .nil)))))
    .nil) .nil)
    (.cons (.ifs (.cmp .Eq (.loc 1) (.glob 6)) (.cons (.ret (.call 22 (.cons (.loc 0) (.cons (.loc 2) (.cons (.loc 3) .nil)))))
    .nil) .nil)
    (.cons (.ret (.int 0))
    .nil))))⟩
-- piece_attacks
noncomputable def F24 : Fn := ⟨["geo", "side", "kind", "square", "occupied"], 5,
    (.cons (.ifs (.cmp .Eq (.loc 2) (.glob 2)) (.cons (.ret (.idx (.idx (.attr (.loc 0) 11) (.loc 1)) (.loc 3)))
    .nil) .nil)
    (.cons (.ifs (.cmp .Eq (.loc 2) (.glob 3)) (.cons (.ret (.idx (.attr (.loc 0) 10) (.loc 3)))
    .nil) .nil)
    (.cons (.ifs (.cmp .Eq (.loc 2) (.glob 7)) (.cons (.ret (.idx (.attr (.loc 0) 9) (.loc 3)))
    .nil) .nil)
    (.cons (.ret (.call 23 (.cons (.loc 0) (.cons (.loc 2) (.cons (.loc 3) (.cons (.loc 4) .nil))))))
    .nil))))⟩
-- direction
noncomputable def F25 : Fn := ⟨["geo", "a", "b", "d"], 3,
    (.cons (.forR1 3 (.int 8) (.cons (.ifs (.bin .BitAnd (.bin .RShift (.idx (.idx (.attr (.loc 0) 8) (.loc 3)) (.loc 1)) (.loc 2)) (.int 1)) (.cons (.ret (.loc 3))
    .nil) .nil)
    .nil))
    (.cons (.ret (.un .USub (.int 1)))
    .nil))⟩
-- between
noncomputable def F26 : Fn := ⟨["geo", "a", "b", "d"], 3,
    (.cons (.set 3 (.call 25 (.cons (.loc 0) (.cons (.loc 1) (.cons (.loc 2) .nil)))))
    (.cons (.ifs (.cmp .Lt (.loc 3) (.int 0)) (.cons (.ret (.int 0))
    .nil) .nil)
    (.cons (.ret (.bin .BitAnd (.idx (.idx (.attr (.loc 0) 8) (.loc 3)) (.loc 1)) (.idx (.idx (.attr (.loc 0) 8) (.bin .BitXor (.loc 3) (.int 2))) (.loc 2))))
    .nil)))⟩
-- put_piece
noncomputable def F27 : Fn := ⟨["pos", "piece", "s", "bit"], 3,
    (.cons (.set 3 (.bin .LShift (.int 1) (.loc 2)))
    (.cons (.setI (.attr (.loc 0) 16) (.loc 2) (.loc 1))
    (.cons (.augI (.attr (.loc 0) 17) (.call 2 (.cons (.loc 1) .nil)) .BitOr (.loc 3))
    (.cons (.augI (.attr (.loc 0) 18) (.call 1 (.cons (.loc 1) .nil)) .BitOr (.loc 3))
    (.cons (.augA (.loc 0) 23 .BitXor (.idx (.idx (.attr (.attr (.loc 0) 15) 25) (.loc 1)) (.loc 2)))
    .nil)))))⟩
-- occupied
noncomputable def F28 : Fn := ⟨["pos"], 1,
    (.cons (.ret (.bin .BitOr (.idx (.attr (.loc 0) 18) (.glob 0)) (.idx (.attr (.loc 0) 18) (.glob 1))))
    .nil)⟩
-- king_square
noncomputable def F29 : Fn := ⟨["pos", "side"], 2,
    (.cons (.ret (.call 9 (.cons (.bin .BitAnd (.idx (.attr (.loc 0) 18) (.loc 1)) (.idx (.attr (.loc 0) 17) (.glob 7))) .nil)))
    .nil)⟩
-- straight_sliders
noncomputable def F30 : Fn := ⟨["pos"], 1,
    (.cons (.ret (.bin .BitOr (.idx (.attr (.loc 0) 17) (.glob 5)) (.idx (.attr (.loc 0) 17) (.glob 6))))
    .nil)⟩
-- slanting_sliders
noncomputable def F31 : Fn := ⟨["pos"], 1,
    (.cons (.ret (.bin .BitOr (.idx (.attr (.loc 0) 17) (.glob 4)) (.idx (.attr (.loc 0) 17) (.glob 6))))
    .nil)⟩
-- pawn_attackers
noncomputable def F32 : Fn := ⟨["pos", "square", "side"], 3,
    (.cons (.ret (.bin .BitAnd (.bin .BitAnd (.idx (.idx (.attr (.attr (.loc 0) 14) 11) (.bin .Sub (.int 1) (.loc 2))) (.loc 1)) (.idx (.attr (.loc 0) 17) (.glob 2))) (.idx (.attr (.loc 0) 18) (.loc 2))))
    .nil)⟩
-- step_attackers
noncomputable def F33 : Fn := ⟨["pos", "square", "side", "geo", "near"], 3,
    (.cons (.set 3 (.attr (.loc 0) 14))
    (.cons (.set 4 (.bin .BitAnd (.idx (.attr (.loc 3) 10) (.loc 1)) (.idx (.attr (.loc 0) 17) (.glob 3))))
    (.cons (.augN 4 .BitOr (.bin .BitAnd (.idx (.attr (.loc 3) 9) (.loc 1)) (.idx (.attr (.loc 0) 17) (.glob 7))))
    (.cons (.ret (.bin .BitOr (.call 32 (.cons (.loc 0) (.cons (.loc 1) (.cons (.loc 2) .nil)))) (.bin .BitAnd (.loc 4) (.idx (.attr (.loc 0) 18) (.loc 2)))))
    .nil))))⟩
-- line_attackers
noncomputable def F34 : Fn := ⟨["pos", "square", "occupied", "hits", "straight", "slanting"], 3,
    (.cons (.set 3 (.int 0))
    (.cons (.set 4 (.call 30 (.cons (.loc 0) .nil)))
    (.cons (.ifs (.loc 4) (.cons (.augN 3 .BitOr (.bin .BitAnd (.call 20 (.cons (.attr (.loc 0) 14) (.cons (.loc 1) (.cons (.loc 2) .nil)))) (.loc 4)))
    .nil) .nil)
    (.cons (.set 5 (.call 31 (.cons (.loc 0) .nil)))
    (.cons (.ifs (.loc 5) (.cons (.augN 3 .BitOr (.bin .BitAnd (.call 21 (.cons (.attr (.loc 0) 14) (.cons (.loc 1) (.cons (.loc 2) .nil)))) (.loc 5)))
    .nil) .nil)
    (.cons (.ret (.loc 3))
    .nil))))))⟩
-- attackers_to
noncomputable def F35 : Fn := ⟨["pos", "square", "occupied", "steps"], 3,
    (.cons (.set 3 (.bin .BitOr (.call 33 (.cons (.loc 0) (.cons (.loc 1) (.cons (.glob 0) .nil)))) (.call 33 (.cons (.loc 0) (.cons (.loc 1) (.cons (.glob 1) .nil))))))
    (.cons (.ret (.bin .BitOr (.loc 3) (.call 34 (.cons (.loc 0) (.cons (.loc 1) (.cons (.loc 2) .nil))))))
    .nil))⟩
-- snipers_of
noncomputable def F36 : Fn := ⟨["pos", "side", "king", "hits"], 2,
    (.cons (.set 2 (.call 29 (.cons (.loc 0) (.cons (.loc 1) .nil))))
    (.cons (.set 3 (.bin .BitAnd (.call 20 (.cons (.attr (.loc 0) 14) (.cons (.loc 2) (.cons (.int 0) .nil)))) (.call 30 (.cons (.loc 0) .nil))))
    (.cons (.augN 3 .BitOr (.bin .BitAnd (.call 21 (.cons (.attr (.loc 0) 14) (.cons (.loc 2) (.cons (.int 0) .nil)))) (.call 31 (.cons (.loc 0) .nil))))
    (.cons (.ret (.bin .BitAnd (.loc 3) (.idx (.attr (.loc 0) 18) (.bin .Sub (.int 1) (.loc 1)))))
    .nil))))⟩
-- blockers
noncomputable def F37 : Fn := ⟨["pos", "side", "king", "snipers", "standing", "held", "pinners", "sniper", "inside"], 2,
    (.cons (.set 2 (.call 29 (.cons (.loc 0) (.cons (.loc 1) .nil))))
    (.cons (.set 3 (.call 36 (.cons (.loc 0) (.cons (.loc 1) .nil))))
    (.cons (.set 4 (.bin .BitXor (.bin .BitOr (.idx (.attr (.loc 0) 18) (.glob 0)) (.idx (.attr (.loc 0) 18) (.glob 1))) (.loc 3)))
    (.cons (.set 5 (.int 0))
    (.cons (.set 6 (.int 0))
    (.cons (.forV 7 (.call 10 (.cons (.loc 3) .nil)) (.cons (.set 8 (.bin .BitAnd (.call 26 (.cons (.attr (.loc 0) 14) (.cons (.loc 2) (.cons (.loc 7) .nil)))) (.loc 4)))
    (.cons (.ifs (.and (.loc 8) (.un .Not (.call 7 (.cons (.loc 8) .nil)))) (.cons (.augN 5 .BitOr (.loc 8))
    (.cons (.ifs (.bin .BitAnd (.loc 8) (.idx (.attr (.loc 0) 18) (.loc 1))) (.cons (.augN 6 .BitOr (.bin .LShift (.int 1) (.loc 7)))
    .nil) .nil)
    .nil)) .nil)
    .nil)))
    (.cons (.ret (.tup (.cons (.loc 5) (.cons (.loc 6) .nil))))
    .nil)))))))⟩
-- least_attacker
noncomputable def F38 : Fn := ⟨["pos", "attackers", "side", "own", "kind", "some"], 3,
    (.cons (.set 3 (.bin .BitAnd (.loc 1) (.idx (.attr (.loc 0) 18) (.loc 2))))
    (.cons (.ifs (.cmp .Eq (.loc 3) (.int 0)) (.cons (.ret (.un .USub (.int 1)))
    .nil) .nil)
    (.cons (.forR2 4 (.glob 2) (.bin .Add (.glob 7) (.int 1)) (.cons (.set 5 (.bin .BitAnd (.loc 3) (.idx (.attr (.loc 0) 17) (.loc 4))))
    (.cons (.ifs (.loc 5) (.cons (.ret (.call 9 (.cons (.loc 5) .nil)))
    .nil) .nil)
    .nil)))
    (.cons (.ret (.un .USub (.int 1)))
    .nil))))⟩
-- next_attacker
noncomputable def F39 : Fn := ⟨["pos", "attackers", "occupied", "side", "pins", "free", "square"], 5,
    (.cons (.set 5 (.loc 1))
    (.cons (.ifs (.bin .BitAnd (.idx (.idx (.loc 4) (.loc 3)) (.int 1)) (.loc 2)) (.cons (.augN 5 .BitAnd (.bin .BitXor (.attr (.attr (.loc 0) 14) 3) (.idx (.idx (.loc 4) (.loc 3)) (.int 0))))
    .nil) .nil)
    (.cons (.set 6 (.call 38 (.cons (.loc 0) (.cons (.loc 5) (.cons (.loc 3) .nil)))))
    (.cons (.ifs (.and3 (.cmp .GtE (.loc 6) (.int 0)) (.cmp .Eq (.call 2 (.cons (.idx (.attr (.loc 0) 16) (.loc 6)) .nil)) (.glob 7)) (.bin .BitAnd (.loc 1) (.idx (.attr (.loc 0) 18) (.bin .Sub (.int 1) (.loc 3))))) (.cons (.ret (.un .USub (.int 1)))
    .nil) .nil)
    (.cons (.ret (.loc 6))
    .nil)))))⟩
-- opened_attackers
noncomputable def F40 : Fn := ⟨["pos", "square", "occupied", "kind", "found"], 4,
    (.cons (.set 4 (.int 0))
    (.cons (.ifs (.or3 (.cmp .Eq (.loc 3) (.glob 2)) (.cmp .Eq (.loc 3) (.glob 4)) (.cmp .Eq (.loc 3) (.glob 6))) (.cons (.augN 4 .BitOr (.bin .BitAnd (.call 21 (.cons (.attr (.loc 0) 14) (.cons (.loc 1) (.cons (.loc 2) .nil)))) (.bin .BitOr (.idx (.attr (.loc 0) 17) (.glob 4)) (.idx (.attr (.loc 0) 17) (.glob 6)))))
    .nil) .nil)
    (.cons (.ifs (.or (.cmp .Eq (.loc 3) (.glob 5)) (.cmp .Eq (.loc 3) (.glob 6))) (.cons (.augN 4 .BitOr (.bin .BitAnd (.call 20 (.cons (.attr (.loc 0) 14) (.cons (.loc 1) (.cons (.loc 2) .nil)))) (.bin .BitOr (.idx (.attr (.loc 0) 17) (.glob 5)) (.idx (.attr (.loc 0) 17) (.glob 6)))))
    .nil) .nil)
    (.cons (.ret (.loc 4))
    .nil))))⟩
-- first_taken
noncomputable def F41 : Fn := ⟨["pos", "move", "values", "goal", "gone", "taken", "behind"], 3,
    (.cons (.set 3 (.call 5 (.cons (.loc 1) .nil)))
    (.cons (.set 4 (.bin .BitOr (.bin .LShift (.int 1) (.call 4 (.cons (.loc 1) .nil))) (.bin .LShift (.int 1) (.loc 3))))
    (.cons (.set 5 (.idx (.loc 2) (.call 2 (.cons (.idx (.attr (.loc 0) 16) (.loc 3)) .nil))))
    (.cons (.ifs (.cmp .Eq (.call 6 (.cons (.loc 1) .nil)) (.glob 11)) (.cons (.set 6 (.ife (.cmp .Eq (.attr (.loc 0) 19) (.glob 1)) (.bin .Add (.loc 3) (.attr (.attr (.loc 0) 14) 0)) (.bin .Sub (.loc 3) (.attr (.attr (.loc 0) 14) 0))))
    (.cons (.augN 4 .BitOr (.bin .LShift (.int 1) (.loc 6)))
    (.cons (.set 5 (.idx (.loc 2) (.glob 2)))
    .nil))) .nil)
    (.cons (.ret (.tup (.cons (.loc 5) (.cons (.bin .BitAnd (.bin .BitOr (.idx (.attr (.loc 0) 18) (.int 0)) (.idx (.attr (.loc 0) 18) (.int 1))) (.bin .BitXor (.attr (.attr (.loc 0) 14) 3) (.loc 4))) .nil))))
    .nil)))))⟩
-- see
noncomputable def F42 : Fn := ⟨["pos", "move", "values", "goal", "taken", "occupied", "pins", "attackers", "kind", "side", "swap", "square", "last"], 3,
    (.cons (.ifs (.cmp .Eq (.call 6 (.cons (.loc 1) .nil)) (.glob 12)) (.cons (.ret (.int 0))
    .nil) .nil)
    (.cons (.set 3 (.call 5 (.cons (.loc 1) .nil)))
    (.cons (.unpack2 4 5 (.call 41 (.cons (.loc 0) (.cons (.loc 1) (.cons (.loc 2) .nil)))))
    (.cons (.set 6 (.tup (.cons (.call 37 (.cons (.loc 0) (.cons (.int 0) .nil))) (.cons (.call 37 (.cons (.loc 0) (.cons (.int 1) .nil))) .nil))))
    (.cons (.set 7 (.bin .BitAnd (.call 35 (.cons (.loc 0) (.cons (.loc 3) (.cons (.loc 5) .nil)))) (.loc 5)))
    (.cons (.set 8 (.call 2 (.cons (.idx (.attr (.loc 0) 16) (.call 4 (.cons (.loc 1) .nil))) .nil)))
    (.cons (.set 9 (.bin .Sub (.int 1) (.attr (.loc 0) 19)))
    (.cons (.set 10 (.list (.cons (.loc 4) .nil)))
    (.cons (.set 11 (.call 39 (.cons (.loc 0) (.cons (.loc 7) (.cons (.loc 5) (.cons (.loc 9) (.cons (.loc 6) .nil)))))))
    (.cons (.while (.cmp .GtE (.loc 11) (.int 0)) (.cons (.app (.loc 10) (.bin .Sub (.idx (.loc 2) (.loc 8)) (.idx (.loc 10) (.un .USub (.int 1)))))
    (.cons (.set 8 (.call 2 (.cons (.idx (.attr (.loc 0) 16) (.loc 11)) .nil)))
    (.cons (.augN 5 .BitXor (.bin .LShift (.int 1) (.loc 11)))
    (.cons (.set 7 (.bin .BitAnd (.bin .BitOr (.loc 7) (.call 40 (.cons (.loc 0) (.cons (.loc 3) (.cons (.loc 5) (.cons (.loc 8) .nil)))))) (.loc 5)))
    (.cons (.set 9 (.bin .Sub (.int 1) (.loc 9)))
    (.cons (.set 11 (.call 39 (.cons (.loc 0) (.cons (.loc 7) (.cons (.loc 5) (.cons (.loc 9) (.cons (.loc 6) .nil)))))))
    .nil)))))))
    (.cons (.while (.cmp .Gt (.len (.loc 10)) (.int 1)) (.cons (.set 12 (.pop (.loc 10)))
    (.cons (.ifs (.cmp .Lt (.un .USub (.loc 12)) (.idx (.loc 10) (.un .USub (.int 1)))) (.cons (.setI (.loc 10) (.un .USub (.int 1)) (.un .USub (.loc 12)))
    .nil) .nil)
    .nil)))
    (.cons (.ret (.idx (.loc 10) (.int 0)))
    .nil))))))))))))⟩
-- see_ge
noncomputable def F43 : Fn := ⟨["pos", "move", "threshold", "values", "goal", "taken", "occupied", "swap", "pins", "attackers", "side", "good", "square", "kind"], 4,
    (.cons (.ifs (.cmp .Eq (.call 6 (.cons (.loc 1) .nil)) (.glob 12)) (.cons (.ret (.cmp .GtE (.int 0) (.loc 2)))
    .nil) .nil)
    (.cons (.set 4 (.call 5 (.cons (.loc 1) .nil)))
    (.cons (.unpack2 5 6 (.call 41 (.cons (.loc 0) (.cons (.loc 1) (.cons (.loc 3) .nil)))))
    (.cons (.set 7 (.bin .Sub (.loc 5) (.loc 2)))
    (.cons (.ifs (.cmp .Lt (.loc 7) (.int 0)) (.cons (.ret (.bool false))
    .nil) .nil)
    (.cons (.set 7 (.bin .Sub (.idx (.loc 3) (.call 2 (.cons (.idx (.attr (.loc 0) 16) (.call 4 (.cons (.loc 1) .nil))) .nil))) (.loc 7)))
    (.cons (.ifs (.cmp .LtE (.loc 7) (.int 0)) (.cons (.ret (.bool true))
    .nil) .nil)
    (.cons (.set 8 (.tup (.cons (.call 37 (.cons (.loc 0) (.cons (.int 0) .nil))) (.cons (.call 37 (.cons (.loc 0) (.cons (.int 1) .nil))) .nil))))
    (.cons (.set 9 (.bin .BitAnd (.call 35 (.cons (.loc 0) (.cons (.loc 4) (.cons (.loc 6) .nil)))) (.loc 6)))
    (.cons (.set 10 (.bin .Sub (.int 1) (.attr (.loc 0) 19)))
    (.cons (.set 11 (.bool true))
    (.cons (.set 12 (.call 39 (.cons (.loc 0) (.cons (.loc 9) (.cons (.loc 6) (.cons (.loc 10) (.cons (.loc 8) .nil)))))))
    (.cons (.while (.cmp .GtE (.loc 12) (.int 0)) (.cons (.set 11 (.un .Not (.loc 11)))
    (.cons (.set 13 (.call 2 (.cons (.idx (.attr (.loc 0) 16) (.loc 12)) .nil)))
    (.cons (.set 7 (.bin .Sub (.idx (.loc 3) (.loc 13)) (.loc 7)))
    (.cons (.ifs (.or (.cmp .Lt (.loc 7) (.int 0)) (.and (.loc 11) (.cmp .Eq (.loc 7) (.int 0)))) (.cons (.ret (.loc 11))
    .nil) .nil)
    (.cons (.augN 6 .BitXor (.bin .LShift (.int 1) (.loc 12)))
    (.cons (.set 9 (.bin .BitAnd (.bin .BitOr (.loc 9) (.call 40 (.cons (.loc 0) (.cons (.loc 4) (.cons (.loc 6) (.cons (.loc 13) .nil)))))) (.loc 6)))
    (.cons (.set 10 (.bin .Sub (.int 1) (.loc 10)))
    (.cons (.set 12 (.call 39 (.cons (.loc 0) (.cons (.loc 9) (.cons (.loc 6) (.cons (.loc 10) (.cons (.loc 8) .nil)))))))
    .nil)))))))))
    (.cons (.ret (.loc 11))
    .nil))))))))))))))⟩
-- _law_ration
noncomputable def F44 : Fn := ⟨["sack", "many"], 2,
    (.cons (.augK (.loc 0) 27 .Add (.int 1))
    (.cons (.ifs (.cmp .LtE (.key (.loc 0) 27) (.len (.key (.loc 0) 26))) (.cons (.ret (.bin .Mod (.idx (.key (.loc 0) 26) (.bin .Sub (.key (.loc 0) 27) (.int 1))) (.loc 1)))
    .nil) .nil)
    (.cons (.ret (.bin .Mod (.bin .Add (.bin .Add (.bin .Mult (.int 17) (.key (.loc 0) 27)) (.bin .FloorDiv (.bin .Mult (.key (.loc 0) 27) (.key (.loc 0) 27)) (.int 3))) (.int 4)) (.loc 1)))
    .nil)))⟩
-- _law_board
noncomputable def F45 : Fn := ⟨["sack", "files", "ranks", "size", "pos", "king"], 1,
    (.cons (.unpack2 1 2 (.tup (.cons (.bin .Add (.int 3) (.call 44 (.cons (.loc 0) (.cons (.int 2) .nil)))) (.cons (.bin .Add (.int 4) (.call 44 (.cons (.loc 0) (.cons (.int 2) .nil)))) .nil))))
    (.cons (.set 3 (.bin .Mult (.loc 1) (.loc 2)))
    (.cons (.set 4 (.new 2 (.cons (.call 18 (.cons (.loc 1) (.cons (.loc 2) (.cons (.bool false) (.cons (.bool false) .nil))))) (.cons (.new 1 (.cons (.bin .Mult (.list (.cons (.bin .Mult (.list (.cons (.int 0) .nil)) (.loc 3)) .nil)) (.int 15)) (.cons (.bin .Mult (.list (.cons (.int 0) .nil)) (.loc 1)) (.cons (.bin .Mult (.list (.cons (.int 0) .nil)) (.int 16)) (.cons (.int 0) .nil))))) .nil))))
    (.cons (.set 5 (.call 44 (.cons (.loc 0) (.cons (.loc 3) .nil))))
    (.cons (.expr (.call 27 (.cons (.loc 4) (.cons (.call 0 (.cons (.int 0) (.cons (.int 6) .nil))) (.cons (.loc 5) .nil)))))
    (.cons (.expr (.call 27 (.cons (.loc 4) (.cons (.call 0 (.cons (.int 1) (.cons (.int 6) .nil))) (.cons (.bin .Mod (.bin .Add (.bin .Add (.loc 5) (.int 1)) (.call 44 (.cons (.loc 0) (.cons (.bin .Sub (.loc 3) (.int 1)) .nil)))) (.loc 3)) .nil)))))
    (.cons (.setA (.loc 4) 19 (.call 44 (.cons (.loc 0) (.cons (.int 2) .nil))))
    (.cons (.ret (.loc 4))
    .nil))))))))⟩
-- _law_men
noncomputable def F46 : Fn := ⟨["sack", "pos", "size", "turn", "square", "kind", "side"], 2,
    (.cons (.set 2 (.attr (.attr (.loc 1) 14) 2))
    (.cons (.forR1 3 (.call 44 (.cons (.loc 0) (.cons (.int 7) .nil))) (.cons (.unpack3 4 5 6 (.tup (.cons (.call 44 (.cons (.loc 0) (.cons (.loc 2) .nil))) (.cons (.bin .Add (.int 1) (.call 44 (.cons (.loc 0) (.cons (.int 5) .nil)))) (.cons (.call 44 (.cons (.loc 0) (.cons (.int 2) .nil))) .nil)))))
    (.cons (.ifs (.and (.cmp .Eq (.loc 5) (.glob 2)) (.un .Not (.cmp2 .LtE .Lt (.attr (.attr (.loc 1) 14) 0) (.loc 4) (.bin .Sub (.loc 2) (.attr (.attr (.loc 1) 14) 0))))) (.cons (.set 5 (.glob 3))
    .nil) .nil)
    (.cons (.ifs (.cmp .Eq (.bin .BitAnd (.bin .RShift (.call 28 (.cons (.loc 1) .nil)) (.loc 4)) (.int 1)) (.int 0)) (.cons (.expr (.call 27 (.cons (.loc 1) (.cons (.call 0 (.cons (.loc 6) (.cons (.loc 5) .nil))) (.cons (.loc 4) .nil)))))
    .nil) .nil)
    .nil))))
    .nil))⟩
-- _law_goals
noncomputable def F47 : Fn := ⟨["pos", "origin", "kind", "goals"], 2,
    (.cons (.set 2 (.call 2 (.cons (.idx (.attr (.loc 0) 16) (.loc 1)) .nil)))
    (.cons (.set 3 (.bin .BitAnd (.call 24 (.cons (.attr (.loc 0) 14) (.cons (.attr (.loc 0) 19) (.cons (.loc 2) (.cons (.loc 1) (.cons (.call 28 (.cons (.loc 0) .nil)) .nil)))))) (.un .Invert (.idx (.attr (.loc 0) 18) (.attr (.loc 0) 19)))))
    (.cons (.ifs (.cmp .Eq (.loc 2) (.glob 2)) (.cons (.augN 3 .BitAnd (.idx (.attr (.loc 0) 18) (.bin .Sub (.int 1) (.attr (.loc 0) 19))))
    .nil) .nil)
    (.cons (.ret (.compR (.attr (.attr (.loc 0) 14) 2) 3 (.cmp .Eq (.bin .BitAnd (.bin .RShift (.loc 1) (.loc 0)) (.int 1)) (.int 1))))
    .nil))))⟩
-- _law_exchange_right
noncomputable def F48 : Fn := ⟨["pos", "origin", "goal", "prices", "stretch", "move", "stands", "taker", "won", "foes"], 5,
    (.cons (.set 5 (.call 3 (.cons (.loc 1) (.cons (.loc 2) (.cons (.glob 9) (.cons (.int 0) .nil))))))
    (.cons (.unpack2 6 7 (.tup (.cons (.idx (.loc 3) (.call 2 (.cons (.idx (.attr (.loc 0) 16) (.loc 2)) .nil))) (.cons (.idx (.loc 3) (.call 2 (.cons (.idx (.attr (.loc 0) 16) (.loc 1)) .nil))) .nil))))
    (.cons (.set 8 (.call 42 (.cons (.loc 0) (.cons (.loc 5) (.cons (.loc 3) .nil)))))
    (.cons (.ifs (.un .Not (.cmp2 .LtE .LtE (.bin .Sub (.loc 6) (.loc 7)) (.loc 8) (.loc 6))) (.cons (.ret (.bool false))
    .nil) .nil)
    (.cons (.set 9 (.bin .BitAnd (.call 35 (.cons (.loc 0) (.cons (.loc 2) (.cons (.bin .BitXor (.call 28 (.cons (.loc 0) .nil)) (.bin .LShift (.int 1) (.loc 1))) .nil)))) (.idx (.attr (.loc 0) 18) (.bin .Sub (.int 1) (.attr (.loc 0) 19)))))
    (.cons (.ifs (.and (.cmp .Eq (.loc 9) (.int 0)) (.cmp .NotEq (.loc 8) (.loc 6))) (.cons (.ret (.bool false))
    .nil) .nil)
    (.cons (.ifs (.or (.un .Not (.call 43 (.cons (.loc 0) (.cons (.loc 5) (.cons (.loc 8) (.cons (.loc 3) .nil)))))) (.call 43 (.cons (.loc 0) (.cons (.loc 5) (.cons (.bin .Add (.loc 8) (.int 1)) (.cons (.loc 3) .nil)))))) (.cons (.ret (.bool false))
    .nil) .nil)
    (.cons (.ret (.cmp .Eq (.call 42 (.cons (.loc 0) (.cons (.loc 5) (.cons (.compL (.loc 3) 4 (.bin .Mult (.loc 1) (.loc 0))) .nil)))) (.bin .Mult (.loc 4) (.loc 8))))
    .nil))))))))⟩
-- __init__
noncomputable def I0 : Fn := ⟨["self", "files", "ranks", "has_double", "has_castling"], 5,
    (.cons (.setA (.loc 0) 0 (.loc 1))
    (.cons (.setA (.loc 0) 1 (.loc 2))
    (.cons (.setA (.loc 0) 2 (.bin .Mult (.loc 1) (.loc 2)))
    (.cons (.setA (.loc 0) 3 (.bin .Sub (.bin .LShift (.int 1) (.bin .Mult (.loc 1) (.loc 2))) (.int 1)))
    (.cons (.setA (.loc 0) 4 (.and (.loc 3) (.cmp .GtE (.loc 2) (.int 5))))
    (.cons (.setA (.loc 0) 5 (.loc 4))
    (.cons (.setA (.loc 0) 6 (.list .nil))
    (.cons (.setA (.loc 0) 7 (.list .nil))
    (.cons (.setA (.loc 0) 8 (.list .nil))
    (.cons (.setA (.loc 0) 9 (.list .nil))
    (.cons (.setA (.loc 0) 10 (.list .nil))
    (.cons (.setA (.loc 0) 11 (.list (.cons (.list .nil) (.cons (.list .nil) .nil))))
    (.cons (.setA (.loc 0) 12 (.list .nil))
    (.cons (.setA (.loc 0) 13 (.list .nil))
    .nil))))))))))))))⟩
-- __init__
noncomputable def I1 : Fn := ⟨["self", "pieces", "ep", "rights", "side"], 5,
    (.cons (.setA (.loc 0) 25 (.loc 1))
    (.cons (.setA (.loc 0) 21 (.loc 2))
    (.cons (.setA (.loc 0) 20 (.loc 3))
    (.cons (.setA (.loc 0) 19 (.loc 4))
    .nil))))⟩
-- __init__
noncomputable def I2 : Fn := ⟨["self", "geo", "zob"], 3,
    (.cons (.setA (.loc 0) 14 (.loc 1))
    (.cons (.setA (.loc 0) 15 (.loc 2))
    (.cons (.setA (.loc 0) 16 (.bin .Mult (.list (.cons (.glob 8) .nil)) (.attr (.loc 1) 2)))
    (.cons (.setA (.loc 0) 17 (.bin .Mult (.list (.cons (.int 0) .nil)) (.int 7)))
    (.cons (.setA (.loc 0) 18 (.list (.cons (.int 0) (.cons (.int 0) .nil))))
    (.cons (.setA (.loc 0) 19 (.glob 0))
    (.cons (.setA (.loc 0) 20 (.int 0))
    (.cons (.setA (.loc 0) 21 (.un .USub (.int 1)))
    (.cons (.setA (.loc 0) 22 (.int 0))
    (.cons (.setA (.loc 0) 3 (.int 1))
    (.cons (.setA (.loc 0) 23 (.int 0))
    (.cons (.setA (.loc 0) 24 (.list .nil))
    .nil))))))))))))⟩
-- law
noncomputable def FLaw : Fn := ⟨["script", "sack", "pos", "prices", "turn", "men", "spot", "origin", "goals", "goal", "free"], 1,
    (.cons (.set 2 (.call 45 (.cons (.loc 1) .nil)))
    (.cons (.set 3 (.list (.cons (.int 0) .nil)))
    (.cons (.forR1 4 (.int 6) (.cons (.app (.loc 3) (.call 44 (.cons (.loc 1) (.cons (.int 41) .nil))))
    .nil))
    (.cons (.expr (.call 46 (.cons (.loc 1) (.cons (.loc 2) .nil))))
    (.cons (.set 5 (.compR (.attr (.attr (.loc 2) 14) 2) 2 (.cmp .Eq (.bin .BitAnd (.bin .RShift (.idx (.attr (.loc 1) 18) (.attr (.loc 1) 19)) (.loc 0)) (.int 1)) (.int 1))))
    (.cons (.set 6 (.call 44 (.cons (.loc 1) (.cons (.int 8) .nil))))
    (.cons (.forR1 4 (.len (.loc 5)) (.cons (.set 7 (.idx (.loc 5) (.bin .Mod (.bin .Add (.loc 6) (.loc 4)) (.len (.loc 5)))))
    (.cons (.set 8 (.call 47 (.cons (.loc 2) (.cons (.loc 7) .nil))))
    (.cons (.ifs (.neNil (.loc 8)) (.cons (.set 9 (.idx (.loc 8) (.bin .Mod (.call 44 (.cons (.loc 1) (.cons (.int 8) .nil))) (.len (.loc 8)))))
    (.cons (.ret (.call 48 (.cons (.loc 2) (.cons (.loc 7) (.cons (.loc 9) (.cons (.loc 3) (.cons (.bin .Add (.int 2) (.call 44 (.cons (.loc 1) (.cons (.int 3) .nil)))) .nil)))))))
    .nil)) .nil)
    .nil))))
    (.cons (.set 10 (.compR (.attr (.attr (.loc 2) 14) 2) 2 (.cmp .Eq (.bin .BitAnd (.bin .RShift (.idx (.attr (.loc 1) 18) (.attr (.loc 1) 19)) (.loc 0)) (.int 1)) (.int 0))))
    (.cons (.ret (.call 48 (.cons (.loc 2) (.cons (.idx (.loc 5) (.int 0)) (.cons (.idx (.loc 10) (.int 0)) (.cons (.loc 3) (.cons (.int 2) .nil)))))))
    .nil)))))))))⟩
noncomputable def funNames : List Str := (["make_piece", "side_of", "kind_of", "pack_move", "move_from", "move_to", "move_special", "more_than_one", "highest", "lowest", "squares_of", "is_growing", "add_masks", "inner_squares", "add_rays", "add_pawns", "add_knights", "add_castles", "make_geometry", "ray_attacks", "rook_attacks", "bishop_attacks", "queen_attacks", "slider_attacks", "piece_attacks", "direction", "between", "put_piece", "occupied", "king_square", "straight_sliders", "slanting_sliders", "pawn_attackers", "step_attackers", "line_attackers", "attackers_to", "snipers_of", "blockers", "least_attacker", "next_attacker", "opened_attackers", "first_taken", "see", "see_ge", "_law_ration", "_law_board", "_law_men", "_law_goals", "_law_exchange_right"] : List String).map Str.ofString
noncomputable def clsNames : List Str := ["Geometry", "Zobrist", "Position"]
noncomputable def progTab : List (Nat × Fn) := [(0, F0), (1, F1), (2, F2), (3, F3), (4, F4), (5, F5), (6, F6), (7, F7), (8, F8), (9, F9), (10, F10), (11, F11), (12, F12), (13, F13), (14, F14), (15, F15), (16, F16), (17, F17), (18, F18), (19, F19), (20, F20), (21, F21), (22, F22), (23, F23), (24, F24), (25, F25), (26, F26), (27, F27), (28, F28), (29, F29), (30, F30), (31, F31), (32, F32), (33, F33), (34, F34), (35, F35), (36, F36), (37, F37), (38, F38), (39, F39), (40, F40), (41, F41), (42, F42), (43, F43), (44, F44), (45, F45), (46, F46), (47, F47), (48, F48), (100, I0), (101, I1), (102, I2)]
noncomputable def prog (f : Nat) : Option Fn := progTab.lookup f
theorem pg0 : prog 0 = some F0 := rfl
theorem pg1 : prog 1 = some F1 := rfl
theorem pg2 : prog 2 = some F2 := rfl
theorem pg3 : prog 3 = some F3 := rfl
theorem pg4 : prog 4 = some F4 := rfl
theorem pg5 : prog 5 = some F5 := rfl
theorem pg6 : prog 6 = some F6 := rfl
theorem pg7 : prog 7 = some F7 := rfl
theorem pg8 : prog 8 = some F8 := rfl
theorem pg9 : prog 9 = some F9 := rfl
theorem pg10 : prog 10 = some F10 := rfl
theorem pg11 : prog 11 = some F11 := rfl
theorem pg12 : prog 12 = some F12 := rfl
theorem pg13 : prog 13 = some F13 := rfl
theorem pg14 : prog 14 = some F14 := rfl
theorem pg15 : prog 15 = some F15 := rfl
theorem pg16 : prog 16 = some F16 := rfl
theorem pg17 : prog 17 = some F17 := rfl
theorem pg18 : prog 18 = some F18 := rfl
theorem pg19 : prog 19 = some F19 := rfl
theorem pg20 : prog 20 = some F20 := rfl
theorem pg21 : prog 21 = some F21 := rfl
theorem pg22 : prog 22 = some F22 := rfl
theorem pg23 : prog 23 = some F23 := rfl
theorem pg24 : prog 24 = some F24 := rfl
theorem pg25 : prog 25 = some F25 := rfl
theorem pg26 : prog 26 = some F26 := rfl
theorem pg27 : prog 27 = some F27 := rfl
theorem pg28 : prog 28 = some F28 := rfl
theorem pg29 : prog 29 = some F29 := rfl
theorem pg30 : prog 30 = some F30 := rfl
theorem pg31 : prog 31 = some F31 := rfl
theorem pg32 : prog 32 = some F32 := rfl
theorem pg33 : prog 33 = some F33 := rfl
theorem pg34 : prog 34 = some F34 := rfl
theorem pg35 : prog 35 = some F35 := rfl
theorem pg36 : prog 36 = some F36 := rfl
theorem pg37 : prog 37 = some F37 := rfl
theorem pg38 : prog 38 = some F38 := rfl
theorem pg39 : prog 39 = some F39 := rfl
theorem pg40 : prog 40 = some F40 := rfl
theorem pg41 : prog 41 = some F41 := rfl
theorem pg42 : prog 42 = some F42 := rfl
theorem pg43 : prog 43 = some F43 := rfl
theorem pg44 : prog 44 = some F44 := rfl
theorem pg45 : prog 45 = some F45 := rfl
theorem pg46 : prog 46 = some F46 := rfl
theorem pg47 : prog 47 = some F47 := rfl
theorem pg48 : prog 48 = some F48 := rfl
theorem pg100 : prog 100 = some I0 := rfl
theorem pg101 : prog 101 = some I1 := rfl
theorem pg102 : prog 102 = some I2 := rfl

end Mine

/-! ## M3 -/
namespace Mine
open PySem PySem.W PyProof.Rows PySem.Calls

noncomputable abbrev Mu := List (Addr × Addr)
noncomputable abbrev Nw := List (Addr × Obj)

noncomputable def VR (BA : Nat → Addr) (μ : Mu) : MV → Value → Prop
  | .none, x => x = .none
  | .bool b, x => x = .bool b
  | .int i, x => ∃ t, x = .int i t
  | .ref id, x => ∃ p : Addr × Addr, μ[id]? = some p ∧ x = .ref p.1
  | .bref k, x => x = .ref (BA k)

noncomputable def VRs (BA : Nat → Addr) (μ : Mu) : List MV → List Value → Prop
  | [], [] => True
  | v :: r, x :: r' => VR BA μ v x ∧ VRs BA μ r r'
  | _, _ => False

noncomputable def FRs (BA : Nat → Addr) (μ : Mu) : List (Nat × MV) → List DictEntry → Prop
  | [], [] => True
  | (f, v) :: r, e :: r' => (∃ x t, fldTab[f]? = some x ∧ e.key = .str x t ∧ VR BA μ v e.val) ∧ FRs BA μ r r'
  | _, _ => False

noncomputable def KVs (BA : Nat → Addr) (μ : Mu) : List (Nat × MV) → List (Str × Value) → Prop
  | [], [] => True
  | (f, v) :: r, e :: r' => (fldTab[f]? = some e.1 ∧ VR BA μ v e.2) ∧ KVs BA μ r r'
  | _, _ => False

noncomputable abbrev tupObj (vs : List Value) : Obj := { cls := .type "tuple", data := .seq vs.toArray }
noncomputable abbrev rngObj (a b s : Int) (t u v : Tok) : Obj := { cls := .type "range", data := .fields #[.int a t, .int b u, .int s v] }

/-- the world's fixed names -/
structure Gl where
  prog : Program
  w : World
  CA : Nat → Addr
  BA : Nat → Addr
  FA : Nat → Addr
noncomputable abbrev Gl.M (G : Gl) : Model := model G.prog G.w

noncomputable def ObjIn (G : Gl) (μ : Mu) (news : Nw) (p : Addr × Addr) : MObj → Prop
  | .list xs => ∃ vs n, (p.1, listOf vs.toArray n) ∈ news ∧ VRs G.BA μ xs vs ∧ p.2 = p.1
  | .tup xs => ∃ vs, (p.1, tupObj vs) ∈ news ∧ VRs G.BA μ xs vs ∧ p.2 = p.1
  | .inst c fs => ∃ es n, (p.1, instObj (G.CA c) p.2) ∈ news ∧ (p.2, dictOf es n) ∈ news ∧ FRs G.BA μ fs es ∧ c < 3
  | .dict fs => ∃ o kvs, (p.1, o) ∈ news ∧ o.IsDictOf (PySem.strKind G.prog G.w) kvs ∧ KVs G.BA μ fs kvs ∧ p.2 = p.1
  | .range a b s => ∃ t u v, (p.1, rngObj a b s t u v) ∈ news ∧ p.2 = p.1
  | .gone => True

structure Sim (G : Gl) (μ : Mu) (σ : Hp) (news : Nw) : Prop where
  nd : (news.map (·.1)).Nodup
  len : μ.length = σ.length
  obj : ∀ (i : Nat) (o : MObj) (p : Addr × Addr), σ[i]? = some o → μ[i]? = some p → ObjIn G μ news p o
  ap : ∀ (i j : Nat) (o o' : MObj) (p q : Addr × Addr), σ[i]? = some o → σ[j]? = some o' → o ≠ .gone → o' ≠ .gone → μ[i]? = some p → μ[j]? = some q → i ≠ j → p.1 ≠ q.1 ∧ p.1 ≠ q.2 ∧ p.2 ≠ q.1 ∧ p.2 ≠ q.2

noncomputable def Foot (μ : Mu) (σ : Hp) (a : Addr) : Prop := ∃ (i : Nat) (p : Addr × Addr) (o : MObj), μ[i]? = some p ∧ σ[i]? = some o ∧ o ≠ MObj.gone ∧ (a = p.1 ∨ a = p.2)

structure Ext (X : Addr → Prop) (μ : Mu) (σ : Hp) (news : Nw) (μ' : Mu) (σ' : Hp) (news' : Nw) : Prop where
  pre : ∃ t, μ' = μ ++ t
  keep : ∀ p ∈ news, ¬ Foot μ σ p.1 → ¬ X p.1 → p ∈ news'
  foot : ∀ a, Foot μ' σ' a → Foot μ σ a ∨ a ∉ news.map (·.1)
  keys : ∀ a, a ∈ news.map (·.1) → a ∈ news'.map (·.1)

noncomputable abbrev NoX : Addr → Prop := fun _ => False

section basic
variable {G : Gl} {BA : Nat → Addr} {μ μ' μ'' : Mu} {σ σ' σ'' : Hp} {news news' news'' : Nw} {X : Addr → Prop}

theorem Ext.refl : Ext X μ σ news μ σ news := ⟨⟨[], by simp⟩, fun _ h _ _ => h, fun _ h => .inl h, fun _ h => h⟩
theorem Ext.trans (e : Ext X μ σ news μ' σ' news') (e' : Ext X μ' σ' news' μ'' σ'' news'') : Ext X μ σ news μ'' σ'' news'' := by
  obtain ⟨t, rfl⟩ := e.pre
  obtain ⟨t', rfl⟩ := e'.pre
  refine ⟨⟨t ++ t', by simp⟩, fun p hp hf hx => e'.keep p (e.keep p hp hf hx) (fun hf' => ?_) hx, fun a ha => ?_, fun a ha => e'.keys a (e.keys a ha)⟩
  · rcases e.foot _ hf' with q | q
    · exact hf q
    · exact q (List.mem_map.mpr ⟨p, hp, rfl⟩)
  · rcases e'.foot a ha with q | q
    · exact e.foot a q
    · exact .inr fun z => q (e.keys a z)
theorem Ext.wk (e : Ext NoX μ σ news μ' σ' news') : Ext X μ σ news μ' σ' news' := ⟨e.pre, fun p a b _ => e.keep p a b (fun z => z), e.foot, e.keys⟩

theorem VR.mono {v : MV} {x : Value} (t : Mu) (h : VR BA μ v x) : VR BA (μ ++ t) v x := by
  cases v with
  | ref id => obtain ⟨p, hp, e⟩ := h; exact ⟨p, by rw [List.getElem?_append_left (List.getElem?_eq_some_iff.mp hp).1]; exact hp, e⟩
  | _ => exact h
theorem VR.ext {v : MV} {x : Value} (h : VR BA μ v x) (e : Ext X μ σ news μ' σ' news') : VR BA μ' v x := by
  obtain ⟨t, rfl⟩ := e.pre; exact h.mono t
theorem VRs.mono (t : Mu) : ∀ {vs : List MV} {xs : List Value}, VRs BA μ vs xs → VRs BA (μ ++ t) vs xs
  | [], [], _ => trivial
  | _ :: _, _ :: _, h => ⟨h.1.mono t, VRs.mono t h.2⟩
  | [], _ :: _, h => h.elim
  | _ :: _, [], h => h.elim
theorem VRs.ext {vs : List MV} {xs : List Value} (h : VRs BA μ vs xs) (e : Ext X μ σ news μ' σ' news') : VRs BA μ' vs xs := by
  obtain ⟨t, rfl⟩ := e.pre; exact h.mono t
theorem FRs.mono (t : Mu) : ∀ {vs : List (Nat × MV)} {xs : List DictEntry}, FRs BA μ vs xs → FRs BA (μ ++ t) vs xs
  | [], [], _ => trivial
  | (_, _) :: _, _ :: _, ⟨⟨x, tk, a, b, c⟩, h⟩ => ⟨⟨x, tk, a, b, c.mono t⟩, FRs.mono t h⟩
  | [], _ :: _, h => h.elim
  | _ :: _, [], h => h.elim
theorem KVs.mono (t : Mu) : ∀ {vs : List (Nat × MV)} {xs : List (Str × Value)}, KVs BA μ vs xs → KVs BA (μ ++ t) vs xs
  | [], [], _ => trivial
  | (_, _) :: _, _ :: _, ⟨⟨a, c⟩, h⟩ => ⟨⟨a, c.mono t⟩, KVs.mono t h⟩
  | [], _ :: _, h => h.elim
  | _ :: _, [], h => h.elim
theorem VRs.len : ∀ {vs : List MV} {xs : List Value}, VRs BA μ vs xs → xs.length = vs.length
  | [], [], _ => rfl
  | _ :: _, _ :: _, h => by rw [List.length_cons, List.length_cons, VRs.len h.2]
  | [], _ :: _, h => h.elim
  | _ :: _, [], h => h.elim
theorem VRs.get : ∀ {vs : List MV} {xs : List Value} {i : Nat} {v : MV}, VRs BA μ vs xs → vs[i]? = some v → ∃ x, xs[i]? = some x ∧ VR BA μ v x
  | [], [], _, _, _, e => by simp at e
  | v :: _, x :: _, 0, _, h, e => by simp at e; subst e; exact ⟨x, by simp, h.1⟩
  | _ :: _, _ :: _, i + 1, _, h, e => by simp at e; simpa using VRs.get h.2 e
  | [], _ :: _, _, _, h, _ => h.elim
  | _ :: _, [], _, _, h, _ => h.elim
theorem VRs.set : ∀ {vs : List MV} {xs : List Value} {i : Nat} {v : MV} {x : Value}, VRs BA μ vs xs → VR BA μ v x → VRs BA μ (vs.set i v) (xs.set i x)
  | [], [], _, _, _, _, _ => trivial
  | _ :: _, _ :: _, 0, _, _, h, e => ⟨e, h.2⟩
  | _ :: _, _ :: _, i + 1, _, _, h, e => ⟨h.1, VRs.set h.2 e⟩
  | [], _ :: _, _, _, _, h, _ => h.elim
  | _ :: _, [], _, _, _, h, _ => h.elim
theorem VRs.snoc : ∀ {vs : List MV} {xs : List Value} {v : MV} {x : Value}, VRs BA μ vs xs → VR BA μ v x → VRs BA μ (vs ++ [v]) (xs ++ [x])
  | [], [], _, _, _, e => ⟨e, trivial⟩
  | _ :: _, _ :: _, _, _, h, e => ⟨h.1, VRs.snoc h.2 e⟩
  | [], _ :: _, _, _, h, _ => h.elim
  | _ :: _, [], _, _, h, _ => h.elim
theorem VRs.append : ∀ {vs : List MV} {xs : List Value} {vs' : List MV} {xs' : List Value}, VRs BA μ vs xs → VRs BA μ vs' xs' → VRs BA μ (vs ++ vs') (xs ++ xs')
  | [], [], _, _, _, e => e
  | _ :: _, _ :: _, _, _, h, e => ⟨h.1, VRs.append h.2 e⟩
  | [], _ :: _, _, _, h, _ => h.elim
  | _ :: _, [], _, _, h, _ => h.elim
theorem VRs.rep {vs : List MV} {xs : List Value} (h : VRs BA μ vs xs) : ∀ n : Nat, VRs BA μ (List.replicate n vs).flatten (List.replicate n xs).flatten
  | 0 => trivial
  | n + 1 => by rw [List.replicate_succ, List.replicate_succ, List.flatten_cons, List.flatten_cons]; exact h.append (VRs.rep h n)
theorem VRs.dropLast : ∀ {vs : List MV} {xs : List Value}, VRs BA μ vs xs → VRs BA μ vs.dropLast xs.dropLast
  | [], [], _ => trivial
  | [_], [_], _ => trivial
  | [_], _ :: _ :: _, h => h.2.elim
  | _ :: _ :: _, [_], h => h.2.elim
  | _ :: _ :: _, _ :: _ :: _, h => ⟨h.1, VRs.dropLast h.2⟩
  | [], _ :: _, h => h.elim
  | _ :: _, [], h => h.elim

/-! replacing one object of the ledger -/
noncomputable def repl (d : Addr) (o : Obj) (news : Nw) : Nw := news.map fun p => if p.1 = d then (d, o) else p
theorem repl_keys (d : Addr) (o : Obj) (news : Nw) : (repl d o news).map (·.1) = news.map (·.1) := by
  unfold repl
  rw [List.map_map]
  refine List.map_congr_left fun p _ => ?_
  simp only [Function.comp]
  split
  · rename_i h; exact h.symm
  · rfl
theorem repl_other {d : Addr} {o : Obj} {p : Addr × Obj} (h : p ∈ news) (ne : p.1 ≠ d) : p ∈ repl d o news :=
  List.mem_map.mpr ⟨p, h, if_neg ne⟩
theorem repl_self {d : Addr} {o o' : Obj} (h : (d, o') ∈ news) : (d, o) ∈ repl d o news := List.mem_map.mpr ⟨_, h, if_pos rfl⟩
theorem repl_none {d : Addr} {o : Obj} : ∀ {news : Nw}, (∀ p ∈ news, p.1 ≠ d) → repl d o news = news
  | [], _ => rfl
  | p :: r, h => by
    unfold repl
    rw [List.map_cons, if_neg (h p (.head _))]
    exact congrArg _ (repl_none fun q hq => h q (.tail _ hq))
theorem upd_repl {d : Addr} {o o' : Obj} : ∀ {news : Nw}, (news.map (·.1)).Nodup → (d, o) ∈ news → Upd d o o' news (repl d o' news)
  | [], _, h => nomatch h
  | p :: r, nd, h => by
    rw [List.map_cons, List.nodup_cons] at nd
    by_cases e : p.1 = d
    · have hr : ∀ q ∈ r, q.1 ≠ d := fun q hq z => nd.1 (by rw [e, ← z]; exact List.mem_map.mpr ⟨q, hq, rfl⟩)
      have hp : p = (d, o) := by
        rcases List.mem_cons.mp h with q | q
        · exact q.symm
        · exact absurd rfl (hr _ q)
      subst hp
      have : repl d o' ((d, o) :: r) = (d, o') :: r := by
        unfold repl
        rw [List.map_cons, if_pos rfl]
        exact congrArg _ (repl_none hr)
      rw [this]
      exact .head hr
    · have hm : (d, o) ∈ r := by
        rcases List.mem_cons.mp h with q | q
        · exact absurd (by rw [← q]) e
        · exact q
      have : repl d o' (p :: r) = p :: repl d o' r := by
        unfold repl
        rw [List.map_cons, if_neg e]
      rw [this]
      exact .tail e (upd_repl nd.2 hm)
theorem updF_repl {d : Addr} {o : Obj} : ∀ {news : Nw}, (news.map (·.1)).Nodup → (d, o) ∈ news → UpdF d o news (fun o' => repl d o' news)
  | [], _, h => nomatch h
  | p :: r, nd, h => by
    rw [List.map_cons, List.nodup_cons] at nd
    by_cases e : p.1 = d
    · have hr : ∀ q ∈ r, q.1 ≠ d := fun q hq z => nd.1 (by rw [e, ← z]; exact List.mem_map.mpr ⟨q, hq, rfl⟩)
      have hp : p = (d, o) := by
        rcases List.mem_cons.mp h with q | q
        · exact q.symm
        · exact absurd rfl (hr _ q)
      subst hp
      have : (fun o' => repl d o' ((d, o) :: r)) = fun o' => (d, o') :: r := by
        funext o'
        unfold repl
        rw [List.map_cons, if_pos rfl]
        exact congrArg _ (repl_none hr)
      rw [this]
      exact .head hr
    · have hm : (d, o) ∈ r := by
        rcases List.mem_cons.mp h with q | q
        · exact absurd (by rw [← q]) e
        · exact q
      have : (fun o' => repl d o' (p :: r)) = fun o' => p :: repl d o' r := by
        funext o'
        unfold repl
        rw [List.map_cons, if_neg e]
      rw [this]
      exact .tail e (updF_repl nd.2 hm)
theorem nodup_eq {d : Addr} {o o' : Obj} : ∀ {news : Nw}, (news.map (·.1)).Nodup → (d, o) ∈ news → (d, o') ∈ news → o = o'
  | p :: r, nd, h, h' => by
    rw [List.map_cons, List.nodup_cons] at nd
    rcases List.mem_cons.mp h with q | q <;> rcases List.mem_cons.mp h' with q' | q'
    · rw [← q] at q'; cases q'; rfl
    · exact absurd (List.mem_map.mpr ⟨_, q', by rw [← q]⟩) nd.1
    · exact absurd (List.mem_map.mpr ⟨_, q, by rw [← q']⟩) nd.1
    · exact nodup_eq nd.2 q q'

/-- what does not touch the object's own places keeps it -/
theorem ObjIn.mono {p : Addr × Addr} {o : MObj} (t : Mu) (h : ObjIn G μ news p o) (hk : ∀ q ∈ news, q.1 = p.1 ∨ q.1 = p.2 → q ∈ news') : ObjIn G (μ ++ t) news' p o := by
  cases o with
  | list xs => obtain ⟨vs, n, a, b, c⟩ := h; exact ⟨vs, n, hk _ a (.inl rfl), b.mono t, c⟩
  | tup xs => obtain ⟨vs, a, b, c⟩ := h; exact ⟨vs, hk _ a (.inl rfl), b.mono t, c⟩
  | inst c fs => obtain ⟨es, n, a, b, d, e⟩ := h; exact ⟨es, n, hk _ a (.inl rfl), hk _ b (.inr rfl), d.mono t, e⟩
  | dict fs => obtain ⟨o, kvs, a, b, c, d⟩ := h; exact ⟨o, kvs, hk _ a (.inl rfl), b, c.mono t, d⟩
  | range a b s => obtain ⟨t, u, v, a, b⟩ := h; exact ⟨t, u, v, hk _ a (.inl rfl), b⟩
  | gone => trivial
theorem ObjIn.keys {p : Addr × Addr} {o : MObj} (h : ObjIn G μ news p o) (ho : o ≠ .gone) : p.1 ∈ news.map (·.1) ∧ p.2 ∈ news.map (·.1) := by
  cases o with
  | list xs => obtain ⟨vs, n, a, b, c⟩ := h; rw [c]; exact ⟨List.mem_map.mpr ⟨_, a, rfl⟩, List.mem_map.mpr ⟨_, a, rfl⟩⟩
  | tup xs => obtain ⟨vs, a, b, c⟩ := h; rw [c]; exact ⟨List.mem_map.mpr ⟨_, a, rfl⟩, List.mem_map.mpr ⟨_, a, rfl⟩⟩
  | inst c fs => obtain ⟨es, n, a, b, d⟩ := h; exact ⟨List.mem_map.mpr ⟨_, a, rfl⟩, List.mem_map.mpr ⟨_, b, rfl⟩⟩
  | dict fs => obtain ⟨o, kvs, a, b, c, d⟩ := h; rw [d]; exact ⟨List.mem_map.mpr ⟨_, a, rfl⟩, List.mem_map.mpr ⟨_, a, rfl⟩⟩
  | range a b s => obtain ⟨t, u, v, a, b⟩ := h; rw [b]; exact ⟨List.mem_map.mpr ⟨_, a, rfl⟩, List.mem_map.mpr ⟨_, a, rfl⟩⟩
  | gone => exact absurd rfl ho

theorem Sim.mu (S : Sim G μ σ news) {i : Nat} {o : MObj} (h : σ[i]? = some o) : ∃ p, μ[i]? = some p :=
  ⟨μ[i]'(by rw [S.len]; exact (List.getElem?_eq_some_iff.mp h).1), List.getElem?_eq_getElem _⟩
theorem Sim.sg (S : Sim G μ σ news) {i : Nat} {p : Addr × Addr} (h : μ[i]? = some p) : ∃ o, σ[i]? = some o :=
  ⟨σ[i]'(by rw [← S.len]; exact (List.getElem?_eq_some_iff.mp h).1), List.getElem?_eq_getElem _⟩
theorem Sim.foot_key (S : Sim G μ σ news) {a : Addr} (h : Foot μ σ a) : a ∈ news.map (·.1) := by
  obtain ⟨i, p, o, hp, ho, hg, h⟩ := h
  have q := (S.obj i o p ho hp).keys hg
  rcases h with rfl | rfl
  · exact q.1
  · exact q.2

/-- a new object -/
theorem Sim.grow (S : Sim G μ σ news) {p : Addr × Addr} {o : MObj} (nd : (news'.map (·.1)).Nodup) (hk : ∀ q ∈ news, q ∈ news')
    (h1 : p.1 ∉ news.map (·.1)) (h2 : p.2 ∉ news.map (·.1)) (ho : ObjIn G (μ ++ [p]) news' p o) : Sim G (μ ++ [p]) (σ ++ [o]) news' := by
  refine ⟨nd, by simp [S.len], fun i o' q ho' hq => ?_, fun i j o1 o2 q r h3 h4 g3 g4 h5 h6 ne => ?_⟩
  · by_cases hi : i < σ.length
    · rw [List.getElem?_append_left hi] at ho'
      rw [List.getElem?_append_left (by rw [S.len]; exact hi)] at hq
      exact (S.obj i o' q ho' hq).mono _ fun x hx _ => hk x hx
    · have hi' : i = σ.length := by
        have := (List.getElem?_eq_some_iff.mp ho').1
        simp at this; omega
      subst hi'
      rw [List.getElem?_append_right (Nat.le_refl _)] at ho'
      rw [List.getElem?_append_right (by rw [S.len]; exact Nat.le_refl _), S.len] at hq
      simp at ho' hq
      subst ho' hq
      exact ho
  · have old : ∀ {k : Nat} {ok : MObj} {pk : Addr × Addr}, k < σ.length → (σ ++ [o])[k]? = some ok → (μ ++ [p])[k]? = some pk → σ[k]? = some ok ∧ μ[k]? = some pk := fun hlt a b =>
      ⟨by rwa [List.getElem?_append_left hlt] at a, by rwa [List.getElem?_append_left (by rw [S.len]; exact hlt)] at b⟩
    have new : ∀ {k : Nat} {ok : MObj} {pk : Addr × Addr}, ¬ k < σ.length → (σ ++ [o])[k]? = some ok → (μ ++ [p])[k]? = some pk → k = σ.length ∧ pk = p := fun {k} _ _ hlt a b => by
      have hk' : k = σ.length := by
        have := (List.getElem?_eq_some_iff.mp a).1
        simp at this; exact Nat.le_antisymm (Nat.le_of_lt_succ this) (Nat.le_of_not_lt hlt)
      subst hk'
      rw [List.getElem?_append_right (by rw [S.len]; exact Nat.le_refl _), S.len] at b
      simp at b
      exact ⟨rfl, b.symm⟩
    by_cases hi : i < σ.length <;> by_cases hj : j < σ.length
    · obtain ⟨a, b⟩ := old hi h3 h5
      obtain ⟨c, d⟩ := old hj h4 h6
      exact S.ap i j o1 o2 q r a c g3 g4 b d ne
    · obtain ⟨a, b⟩ := old hi h3 h5
      obtain ⟨rfl, rfl⟩ := new hj h4 h6
      have z := (S.obj i o1 q a b).keys g3
      exact ⟨fun e => h1 (e ▸ z.1), fun e => h2 (e ▸ z.1), fun e => h1 (e ▸ z.2), fun e => h2 (e ▸ z.2)⟩
    · obtain ⟨c, d⟩ := old hj h4 h6
      obtain ⟨rfl, rfl⟩ := new hi h3 h5
      have z := (S.obj j o2 r c d).keys g4
      exact ⟨fun e => h1 (e ▸ z.1), fun e => h1 (e ▸ z.2), fun e => h2 (e ▸ z.1), fun e => h2 (e ▸ z.2)⟩
    · exact absurd ((new hi h3 h5).1.trans (new hj h4 h6).1.symm) ne
theorem Ext.grow (S : Sim G μ σ news) {p : Addr × Addr} {o : MObj} (hk : ∀ q ∈ news, q ∈ news') (h1 : p.1 ∉ news.map (·.1)) (h2 : p.2 ∉ news.map (·.1)) :
    Ext X μ σ news (μ ++ [p]) (σ ++ [o]) news' := by
  refine ⟨⟨_, rfl⟩, fun q hq _ _ => hk q hq, fun a ha => ?_, fun a ha => ?_⟩
  · obtain ⟨i, q, o', hq, ho', hg, h⟩ := ha
    by_cases hi : i < σ.length
    · rw [List.getElem?_append_left hi] at ho'
      rw [List.getElem?_append_left (by rw [S.len]; exact hi)] at hq
      exact .inl ⟨i, q, o', hq, ho', hg, h⟩
    · have hi' : i = σ.length := by
        have := (List.getElem?_eq_some_iff.mp ho').1
        simp at this; omega
      subst hi'
      rw [List.getElem?_append_right (by rw [S.len]; exact Nat.le_refl _), S.len] at hq
      simp at hq
      subst hq
      right
      rcases h with rfl | rfl
      · exact h1
      · exact h2
  · obtain ⟨q, hq, rfl⟩ := List.mem_map.mp ha
    exact List.mem_map.mpr ⟨q, hk q hq, rfl⟩

theorem set_ne {σ : Hp} {i j : Nat} {o : MObj} (h : i ≠ j) : (σ.set i o)[j]? = σ[j]? := by rw [List.getElem?_set]; simp [h]
theorem set_self {σ : Hp} {i : Nat} {o o₀ : MObj} (h : σ[i]? = some o₀) : (σ.set i o)[i]? = some o := by
  rw [List.getElem?_set]; simp [(List.getElem?_eq_some_iff.mp h).1]

/-- an object's place d (its own or its dict's) is written anew -/
theorem Sim.put (S : Sim G μ σ news) {id : Nat} {p : Addr × Addr} {o₀ o : MObj} {d : Addr} {co : Obj} (h0 : σ[id]? = some o₀) (hg0 : o₀ ≠ .gone) (hp : μ[id]? = some p) (hd : d = p.1 ∨ d = p.2)
    (ho : ObjIn G μ (repl d co news) p o) : Sim G μ (σ.set id o) (repl d co news) := by
  refine ⟨by rw [repl_keys]; exact S.nd, by rw [List.length_set]; exact S.len, fun i o' q ho' hq => ?_, fun i j o1 o2 q r h3 h4 g3 g4 h5 h6 ne => ?_⟩
  · by_cases hi : id = i
    · subst hi
      rw [set_self h0] at ho'
      rw [hp] at hq
      cases ho'; cases hq
      exact ho
    · rw [set_ne hi] at ho'
      by_cases hg : o' = .gone
      · subst hg; trivial
      have z := (S.obj i o' q ho' hq).mono (G := G) (news' := repl d co news) [] fun x hx hx' => repl_other hx fun e => by
        have y := S.ap id i o₀ o' p q h0 ho' hg0 hg hp hq hi
        rcases hd with rfl | rfl <;> rcases hx' with e' | e' <;> rw [e] at e'
        · exact y.1 e'
        · exact y.2.1 e'
        · exact y.2.2.1 e'
        · exact y.2.2.2 e'
      rwa [List.append_nil] at z
  · have back : ∀ {k : Nat} {ok : MObj}, (σ.set id o)[k]? = some ok → ok ≠ .gone → ∃ ok', σ[k]? = some ok' ∧ ok' ≠ .gone := fun {k ok} a g => by
      by_cases hk : id = k
      · subst hk; exact ⟨o₀, h0, hg0⟩
      · rw [set_ne hk] at a; exact ⟨ok, a, g⟩
    obtain ⟨o1', a1, b1⟩ := back h3 g3
    obtain ⟨o2', a2, b2⟩ := back h4 g4
    exact S.ap i j o1' o2' q r a1 a2 b1 b2 h5 h6 ne
theorem Ext.put {id : Nat} {p : Addr × Addr} {o₀ o : MObj} {d : Addr} {co : Obj} (h0 : σ[id]? = some o₀) (hg0 : o₀ ≠ .gone) (hp : μ[id]? = some p) (hd : d = p.1 ∨ d = p.2) :
    Ext X μ σ news μ (σ.set id o) (repl d co news) := by
  refine ⟨⟨[], by simp⟩, fun q hq hf _ => repl_other hq fun e => hf ⟨id, p, o₀, hp, h0, hg0, by rw [e]; exact hd⟩, fun a ha => ?_, fun a ha => by rw [repl_keys]; exact ha⟩
  obtain ⟨i, q, o', hq, ho', hg, h⟩ := ha
  left
  by_cases hi : id = i
  · subst hi
    exact ⟨id, q, o₀, hq, h0, hg0, h⟩
  · rw [set_ne hi] at ho'
    exact ⟨i, q, o', hq, ho', hg, h⟩
end basic
end Mine

/-! ## M4 -/
namespace Mine
open PySem PySem.W PyProof.Rows PySem.Calls

noncomputable def Kx (G : Gl) (h₀ : Heap) (L : Addr) (m : Str → Option Value) (s : Shared) (X : Addr → Prop) (μ : Mu) (σ : Hp) (news : Nw) (σ' : Hp) (v : MV) (Q : Value → Shared → Prop) : Prop :=
  ∀ h' tk μ' news' x, Fr h₀ L h' m → News h₀ L h' news' → Sim G μ' σ' news' → Ext X μ σ news μ' σ' news' → VR G.BA μ' v x → Q x ⟨h', s.gens, s.drawn, tk, s.os⟩
noncomputable def Ku (G : Gl) (h₀ : Heap) (L : Addr) (m : Str → Option Value) (s : Shared) (X : Addr → Prop) (μ : Mu) (σ : Hp) (news : Nw) (σ' : Hp) (Q : Unit → Shared → Prop) : Prop :=
  ∀ h' tk μ' news', Fr h₀ L h' m → News h₀ L h' news' → Sim G μ' σ' news' → Ext X μ σ news μ' σ' news' → Q () ⟨h', s.gens, s.drawn, tk, s.os⟩

structure KOk (G : Gl) (K : Frag) : Prop where
  glob : ∀ (g : Nat) (x : Str) (v : MV), globTab[g]? = some (x, v) → ∃ u, nsIn K mainGlobals x = some (some u) ∧ VR G.BA [] v u
  bref : ∀ (k : Nat) (xs : List Int), stepsTab[k]? = some xs → ∃ o vs n, K.lookup (G.BA k) = some o ∧ o.cls = .type "tuple" ∧ o.data = .seq vs n ∧ VRs G.BA [] (xs.map MV.int) vs.toList
  fn : ∀ (f : Nat) (x : Str), funNames[f]? = some x → f < 100 ∧ nsIn K mainGlobals x = some (some (.ref (G.FA f))) ∧ keepIn K (.ref (G.FA f)) = true
  cls : ∀ (c : Nat) (x : Str), clsNames[c]? = some x → c < 3 ∧ nsIn K mainGlobals x = some (some (.ref (G.CA c))) ∧ keepIn K (.ref (G.CA c)) = true ∧ makesIn K (G.CA c) = true ∧
    findIn K (.ref (G.CA c)) "__init__" = some (some (.ref (G.FA (initOf c)))) ∧ isFn K (.ref (G.FA (initOf c))) = true
  fld : ∀ (c f : Nat) (x : Str), c < 3 → fldTab[f]? = some x → plainGet K (G.CA c) x = true ∧ hasDictIn K (G.CA c) = true ∧ findIn K (.ref (G.CA c)) x = some none ∧ takerIn K (G.CA c) x = some none
  cset : ∀ c, c < 3 → findIn K (.ref (G.CA c)) "__setattr__" = some (some (.builtin "object.__setattr__")) ∧ plainOver K (G.CA c) = true
  rng : nsIn K mainGlobals "range" = some none
  len : nsIn K mainGlobals "len" = some none

theorem fld_inj : ∀ (i j : Nat) (x : Str), fldTab[i]? = some x → fldTab[j]? = some x → i = j := by
  have key : ∀ i : Fin 28, ∀ j : Fin 28, fldTab[i.1]? = fldTab[j.1]? → i = j := by decide +kernel
  intro i j x hi hj
  have a := (List.getElem?_eq_some_iff.mp hi).1
  have b := (List.getElem?_eq_some_iff.mp hj).1
  have e : fldTab.length = 28 := by decide +kernel
  rw [e] at a b
  have := key ⟨i, a⟩ ⟨j, b⟩ (hi.trans hj.symm)
  exact congrArg Fin.val this

section
variable {G : Gl} {A : Around} {E : Value → Shared → Prop} {s : Shared} {K : Frag} {h₀ : Heap} {L : Addr} {m : Str → Option Value} {news : Nw} {μ : Mu} {σ σ' : Hp} {X : Addr → Prop} {v w' r : MV} {x y : Value}

/-- an int comes back, nothing else is turned -/
theorem kx_int {Q : Value → Shared → Prop} {i : Int} {tk tk' : Tok} (F : Fr h₀ L s.heap m) (N : News h₀ L s.heap news) (S : Sim G μ σ news) (k : Kx G h₀ L m s X μ σ news σ (.int i) Q) : Q (.int i tk) { s with toks := tk' } :=
  k s.heap tk' μ news _ F N S .refl ⟨tk, rfl⟩
theorem kx_bool {Q : Value → Shared → Prop} {b : Bool} {tk' : Tok} (F : Fr h₀ L s.heap m) (N : News h₀ L s.heap news) (S : Sim G μ σ news) (k : Kx G h₀ L m s X μ σ news σ (.bool b) Q) : Q (.bool b) { s with toks := tk' } :=
  k s.heap tk' μ news _ F N S .refl rfl

theorem alloc1 {o : Obj} {mo : MObj} (F : Fr h₀ L s.heap m) (N : News h₀ L s.heap news) (S : Sim G μ σ news) (a : Addr) (lt : ∀ p ∈ news, p.1 < a) (ho : ObjIn G (μ ++ [(a, a)]) ((a, o) :: news) (a, a) mo) :
    Sim G (μ ++ [(a, a)]) (σ ++ [mo]) ((a, o) :: news) ∧ Ext X μ σ news (μ ++ [(a, a)]) (σ ++ [mo]) ((a, o) :: news) ∧ VR G.BA (μ ++ [(a, a)]) (.ref σ.length) (.ref a) := by
  have nk : a ∉ news.map (·.1) := fun hm => by
    obtain ⟨p, hp, e⟩ := List.mem_map.mp hm
    have := lt p hp
    exact Nat.lt_irrefl a (by rw [← e] at this ⊢; exact this)
  have hk : ∀ q ∈ news, q ∈ (a, o) :: news := fun q hq => .tail _ hq
  exact ⟨S.grow (by rw [List.map_cons, List.nodup_cons]; exact ⟨nk, S.nd⟩) hk nk nk ho, .grow S hk nk nk, ⟨(a, a), by rw [← S.len]; simp, rfl⟩⟩

theorem newList_s {vs : List MV} {xs : List Value} {Q : Value → Shared → Prop} (F : Fr h₀ L s.heap m) (N : News h₀ L s.heap news) (S : Sim G μ σ news) (hv : VRs G.BA μ vs xs) (hz : vs.length ≤ 100000)
    (k : Kx G h₀ L m s X μ σ news (σ ++ [.list vs]) (.ref σ.length) Q) : wpAny G.M A (newList xs) Q E s := by
  refine newList_K F N (fun l h' F' N' lt => ?_) (by rw [hv.len, sizeLine_eq]; omega)
  obtain ⟨a, b, c⟩ := alloc1 (X := X) (o := listOf xs.toArray 0) (mo := .list vs) F N S l lt ⟨xs, 0, .head _, hv.mono _, rfl⟩
  exact k h' s.toks _ _ _ F' N' a b c
theorem newTup_s {vs : List MV} {xs : List Value} {Q : Value → Shared → Prop} (F : Fr h₀ L s.heap m) (N : News h₀ L s.heap news) (S : Sim G μ σ news) (hv : VRs G.BA μ vs xs) (hz : vs.length ≤ 100000)
    (k : Kx G h₀ L m s X μ σ news (σ ++ [.tup vs]) (.ref σ.length) Q) : wpAny G.M A (newTuple xs) Q E s := by
  refine newTuple_N F N (fun h' F' N' => ?_) (by rw [hv.len, sizeLine_eq]; omega)
  obtain ⟨a, b, c⟩ := alloc1 (X := X) (o := tupObj xs) (mo := .tup vs) F N S s.heap.objs.size (fun p hp => Heap.lt_size (N p hp).1) ⟨xs, .head _, hv.mono _, rfl⟩
  exact k h' s.toks _ _ _ F' N' a b c

theorem mulOk {a b : Int} (ha : a.natAbs < 4294967296) (hb : b.natAbs < 4294967296) : IntMulOk a b := by mul_fits
theorem divOk {a b : Int} (ha : a.natAbs < 1073741824) (hb : b.natAbs < 1073741824) : Builtin.divisionGoesByPylong a b = false := PyProof.noPylong_small (by omega)

/-- an int operation -/
theorem binI_s {op : Operator} {a b c : Int} {t u : Tok} {Q : Value → Shared → Prop} (h : binI op a b = some c) (k : ∀ tk tk', Q (.int c tk) { s with toks := tk' }) :
    wpAny G.M A (binaryOp op (.int a t) (.int b u)) Q E s := by
  cases op <;> simp only [binI, Option.some.injEq, reduceCtorEq] at h
  · subst h; exact P.add_int (k _ _)
  · subst h; exact P.sub_int (k _ _)
  · split at h
    · rename_i q; cases h; exact P.mul_int (k _ _) (mulOk q.1 q.2)
    · cases h
  · split at h
    · rename_i q; cases h; exact mod_int' q (k _ _)
    · cases h
  · split at h
    · rename_i q; cases h; exact lshift_int_small q.1 (by omega) (by omega) (k _ _)
    · cases h
  · split at h
    · rename_i q; cases h; exact rshift_int q (k _ _)
    · cases h
  · subst h; exact or_int (k _ _)
  · subst h; exact xor_int (k _ _)
  · subst h; exact and_int (k _ _)
  · split at h
    · rename_i q; cases h; exact floordiv_int q.1 (k _ _) (.inl (divOk q.2.1 q.2.2))
    · cases h
theorem binI_i {op : Operator} {a b c : Int} {t u : Tok} {Q : Value → Shared → Prop} (h : binI op a b = some c) (k : ∀ tk tk', Q (.int c tk) { s with toks := tk' }) :
    wpAny G.M A (inplaceOp op (.int a t) (.int b u)) Q E s := by
  cases op <;> simp only [binI, Option.some.injEq, reduceCtorEq] at h
  · subst h; exact P.iadd_int (k _ _)
  · subst h; exact P.isub_int (k _ _)
  · split at h
    · rename_i q; cases h; exact P.imul_int (k _ _) (mulOk q.1 q.2)
    · cases h
  · split at h
    · rename_i q; cases h; exact imod_int q (k _ _)
    · cases h
  · split at h
    · rename_i q; cases h; exact ilshift_int_small q.1 (by omega) (by omega) (k _ _)
    · cases h
  · split at h
    · rename_i q; cases h; exact irshift_int q (k _ _)
    · cases h
  · subst h; exact ior_int (k _ _)
  · subst h; exact ixor_int (k _ _)
  · subst h; exact iand_int (k _ _)
  · split at h
    · rename_i q; cases h; exact ifloordiv_int q.1 (k _ _) (.inl (divOk q.2.1 q.2.2))
    · cases h

theorem binV_inv {op : Operator} (h : binV op v w' σ = some (r, σ')) : (∃ a b c, v = .int a ∧ w' = .int b ∧ binI op a b = some c ∧ r = .int c ∧ σ' = σ) ∨
    (∃ id n xs, op = .Mult ∧ v = .ref id ∧ w' = .int n ∧ σ[id]? = some (.list xs) ∧ 0 ≤ n ∧ n < 1000 ∧ xs.length * n.toNat ≤ 256 ∧ r = .ref σ.length ∧ σ' = σ ++ [.list (List.replicate n.toNat xs).flatten]) := by
  unfold binV at h
  split at h
  · rename_i a b
    left
    cases hc : binI op a b with
    | none => rw [hc] at h; cases h
    | some c => rw [hc] at h; cases h; exact ⟨a, b, c, rfl, rfl, hc, rfl, rfl⟩
  · rename_i id n
    right
    split at h
    · rename_i xs hx
      split at h
      · rename_i q; cases h; exact ⟨id, n, xs, rfl, rfl, rfl, hx, q.1, q.2.1, q.2.2, rfl, rfl⟩
      · cases h
    · cases h
  · cases h
theorem binV_s {op : Operator} {Q : Value → Shared → Prop} (F : Fr h₀ L s.heap m) (N : News h₀ L s.heap news) (S : Sim G μ σ news) (hx : VR G.BA μ v x) (hy : VR G.BA μ w' y) (h : binV op v w' σ = some (r, σ'))
    (k : Kx G h₀ L m s X μ σ news σ' r Q) : wpAny G.M A (binaryOp op x y) Q E s := by
  rcases binV_inv h with ⟨a, b, c, rfl, rfl, e, rfl, rfl⟩ | ⟨id, n, xs, rfl, rfl, rfl, hid, h0, h1, h2, rfl, rfl⟩
  · obtain ⟨t, rfl⟩ := hx
    obtain ⟨u, rfl⟩ := hy
    exact binI_s e fun _ _ => kx_int F N S k
  · obtain ⟨p, hp, rfl⟩ := hx
    obtain ⟨u, rfl⟩ := hy
    obtain ⟨vs, n', hm, hv, _⟩ := S.obj _ _ _ hid hp
    refine KMa.mul F N (PySem.IsL.isList (n := n') (N _ hm).1) (by omega) (by omega) (by rw [hv.len]; exact h2) rfl fun l h' F' N' lt => ?_
    obtain ⟨a, b, c⟩ := alloc1 (X := X) (o := listOf (List.replicate n.toNat vs).flatten.toArray 0) (mo := .list (List.replicate n.toNat xs).flatten) F N S l lt ⟨_, 0, .head _, (hv.rep _).mono _, rfl⟩
    exact k h' s.toks _ _ _ F' N' a b c
theorem binV_i {op : Operator} {Q : Value → Shared → Prop} (F : Fr h₀ L s.heap m) (N : News h₀ L s.heap news) (S : Sim G μ σ news) (hx : VR G.BA μ v x) (hy : VR G.BA μ w' y) (h : binV op v w' σ = some (r, σ'))
    (hi : ∃ a, v = .int a) (k : Kx G h₀ L m s X μ σ news σ' r Q) : wpAny G.M A (inplaceOp op x y) Q E s := by
  rcases binV_inv h with ⟨a, b, c, rfl, rfl, e, rfl, rfl⟩ | ⟨id, n, xs, rfl, rfl, rfl, hid, h0, h1, h2, rfl, rfl⟩
  · obtain ⟨t, rfl⟩ := hx
    obtain ⟨u, rfl⟩ := hy
    exact binI_i e fun _ _ => kx_int F N S k
  · obtain ⟨a, e⟩ := hi; cases e

theorem cmpV_inv {op : CmpOp} {b : Bool} (h : cmpV op v w' = some b) : ∃ i j, v = .int i ∧ w' = .int j ∧ cmpI op i j = some b := by
  unfold cmpV at h
  split at h
  · exact ⟨_, _, rfl, rfl, h⟩
  · cases h
theorem cmpI_s {op : CmpOp} {a b : Int} {c : Bool} {t u : Tok} {Q : Value → Shared → Prop} (h : cmpI op a b = some c) (k : Q (.bool c) s) : wpAny G.M A (compareOp op (.int a t) (.int b u)) Q E s := by
  cases op <;> simp only [cmpI, Option.some.injEq, reduceCtorEq] at h <;> subst h
  · exact P.eq_int k
  · exact P.ne_int k
  · exact P.lt_int k
  · exact P.le_int k
  · exact P.gt_int k
  · exact P.ge_int k

theorem tr_s {b : Bool} {Q : Bool → Shared → Prop} (hx : VR G.BA μ v x) (h : tr v = some b) (k : Q b s) : wpAny G.M A (truthy x) Q E s := by
  unfold tr at h
  split at h
  · cases h; cases hx; exact wpAny_truthy_bool k
  · cases h; obtain ⟨t, rfl⟩ := hx; exact P.truthy_int k
  · cases h

theorem unV_s {op : UnaryOp} {Q : Value → Shared → Prop} (F : Fr h₀ L s.heap m) (N : News h₀ L s.heap news) (S : Sim G μ σ news) (hx : VR G.BA μ v x) (h : unV op v = some r) (k : Kx G h₀ L m s X μ σ news σ r Q) :
    wpAny G.M A (unaryOp op x) Q E s := by
  unfold unV at h
  split at h
  · cases h; obtain ⟨t, rfl⟩ := hx; exact P.neg_int (kx_int F N S k)
  · cases h; obtain ⟨t, rfl⟩ := hx; exact invert_int (kx_int F N S k)
  · cases hb : tr v with
    | none => rw [hb] at h; cases h
    | some b => rw [hb] at h; cases h; exact not_of (tr_s hx hb (kx_bool F N S k))
  · cases h

/-! attributes -/
theorem isStr_fld {f g : Nat} {x y : Str} {t : Tok} (hf : fldTab[f]? = some x) (hg : fldTab[g]? = some y) : (Value.str y t).isStr x = decide (g = f) := by
  show (y == x) = _
  by_cases e : g = f
  · subst e
    rw [hf] at hg
    cases hg
    simp
  · have : y ≠ x := fun z => e (fld_inj g f x (z ▸ hg) hf)
    simp [e, this]
theorem FRs.get {BA : Nat → Addr} {μ : Mu} {f : Nat} {x : Str} (hf : fldTab[f]? = some x) : ∀ {fs : List (Nat × MV)} {es : List DictEntry} {v : MV}, FRs BA μ fs es → fldGet fs f = some v → ∃ u, getL x es = some (some u) ∧ VR BA μ v u
  | [], [], _, _, h => by cases h
  | (g, w) :: r, e :: r', v, ⟨⟨y, t, hy, hk, hv⟩, hr⟩, h => by
    have q := isStr_fld (t := t) hf hy
    unfold fldGet at h
    unfold getL
    rw [List.find?_cons, hk, q]
    by_cases eq : g = f
    · rw [if_pos eq] at h
      cases h
      simp only [eq, decide_true]
      exact ⟨_, rfl, hv⟩
    · rw [if_neg eq] at h
      simp only [eq, decide_false]
      obtain ⟨u, a, b⟩ := FRs.get hf hr h
      refine ⟨u, ?_, b⟩
      unfold getL at a
      cases hfi : List.find? (fun x_1 => x_1.key.isStr x) r' with
      | some z => rw [hfi] at a; exact a
      | none => rw [hfi] at a; simp only at a; split at a <;> simp at a
  | [], _ :: _, _, h, _ => h.elim
  | _ :: _, [], _, h, _ => h.elim
theorem FRs.info {BA : Nat → Addr} {μ : Mu} {f : Nat} {x : Str} (hf : fldTab[f]? = some x) : ∀ {fs : List (Nat × MV)} {es : List DictEntry}, FRs BA μ fs es → (getL x es).isSome = true ∧ es.any (·.refKey) = false ∧ es.length = fs.length
  | [], [], _ => ⟨rfl, rfl, rfl⟩
  | (g, w) :: r, e :: r', ⟨⟨y, t, hy, hk, hv⟩, hr⟩ => by
    obtain ⟨a, b, c⟩ := FRs.info hf hr
    have hrk : e.refKey = false := by unfold DictEntry.refKey; rw [hk]
    have hany : (e :: r').any (·.refKey) = false := by rw [List.any_cons, hrk, b]; rfl
    refine ⟨?_, hany, by rw [List.length_cons, List.length_cons, c]⟩
    unfold getL
    split
    · rfl
    · rw [hany]; rfl
  | [], _ :: _, h => h.elim
  | _ :: _, [], h => h.elim
theorem FRs.put {BA : Nat → Addr} {μ : Mu} {f : Nat} {x : Str} {hs : Int} {t : Tok} {v : MV} {u : Value} (hf : fldTab[f]? = some x) (hv : VR BA μ v u) : ∀ {fs : List (Nat × MV)} {es : List DictEntry}, FRs BA μ fs es → FRs BA μ (fldPut fs f v) (putL x hs (.str x t) u es)
  | [], [], _ => ⟨⟨x, t, hf, rfl, hv⟩, trivial⟩
  | (g, w) :: r, e :: r', ⟨⟨y, t', hy, hk, hw⟩, hr⟩ => by
    have q := isStr_fld (t := t') hf hy
    unfold fldPut putL
    rw [hk, q]
    by_cases eq : g = f
    · simp only [eq, decide_true, if_true]
      exact ⟨⟨y, t', eq ▸ hy, rfl, hv⟩, hr⟩
    · simp only [eq, decide_false, if_false]
      exact ⟨⟨y, t', hy, hk, hw⟩, FRs.put hf hv hr⟩
  | [], _ :: _, h => h.elim
  | _ :: _, [], h => h.elim
end
end Mine

/-! ## M5 -/
namespace Mine
open PySem PySem.W PyProof.Rows PySem.Calls

theorem KVs.get {BA : Nat → Addr} {μ : Mu} {f : Nat} {x : Str} (hf : fldTab[f]? = some x) : ∀ {fs : List (Nat × MV)} {es : List (Str × Value)} {v : MV}, KVs BA μ fs es → fldGet fs f = some v → ∃ u, valueAt es x = some u ∧ VR BA μ v u
  | [], [], _, _, h => by cases h
  | (g, w) :: r, (y, u) :: r', v, ⟨⟨hy, hv⟩, hr⟩, h => by
    unfold fldGet at h
    unfold valueAt
    rw [List.find?_cons]
    by_cases eq : g = f
    · rw [if_pos eq] at h
      cases h
      have : y = x := by rw [eq] at hy; exact Option.some.inj (hy.symm.trans hf)
      simp only [this, decide_true]
      exact ⟨_, rfl, hv⟩
    · rw [if_neg eq] at h
      have : y ≠ x := fun z => eq (fld_inj g f x (z ▸ hy) hf)
      simp only [this, decide_false]
      exact KVs.get hf hr h
  | [], _ :: _, _, h, _ => h.elim
  | _ :: _, [], _, h, _ => h.elim
theorem KVs.len {BA : Nat → Addr} {μ : Mu} : ∀ {fs : List (Nat × MV)} {es : List (Str × Value)}, KVs BA μ fs es → es.length = fs.length
  | [], [], _ => rfl
  | (_, _) :: _, _ :: _, h => by rw [List.length_cons, List.length_cons, KVs.len h.2]
  | [], _ :: _, h => h.elim
  | _ :: _, [], h => h.elim
theorem KVs.any {BA : Nat → Addr} {μ : Mu} {f : Nat} {x : Str} (hf : fldTab[f]? = some x) : ∀ {fs : List (Nat × MV)} {es : List (Str × Value)}, KVs BA μ fs es → (fldGet fs f).isSome = true → (es.any fun kv => decide (kv.1 = x)) = true
  | [], [], _, h => by cases h
  | (g, w) :: r, (y, u) :: r', ⟨⟨hy, hv⟩, hr⟩, h => by
    unfold fldGet at h
    rw [List.any_cons]
    by_cases eq : g = f
    · have : y = x := by rw [eq] at hy; exact Option.some.inj (hy.symm.trans hf)
      simp [this]
    · rw [if_neg eq] at h
      rw [KVs.any hf hr h, Bool.or_true]
  | [], _ :: _, h, _ => h.elim
  | _ :: _, [], h, _ => h.elim
theorem KVs.none {BA : Nat → Addr} {μ : Mu} {f : Nat} {x : Str} {v : MV} {u : Value} (hf : fldTab[f]? = some x) (hv : VR BA μ v u) : ∀ {fs : List (Nat × MV)} {es : List (Str × Value)}, KVs BA μ fs es → (es.map (·.1)).Nodup → (fldGet fs f).isSome = true →
    KVs BA μ (fldPut fs f v) (es.map fun kv => if kv.1 = x then (kv.1, u) else kv)
  | [], [], _, _, h => by cases h
  | (g, w) :: r, (y, u') :: r', ⟨⟨hy, hw⟩, hr⟩, nd, h => by
    rw [List.map_cons, List.nodup_cons] at nd
    unfold fldGet at h
    unfold fldPut
    rw [List.map_cons]
    by_cases eq : g = f
    · have e : y = x := by rw [eq] at hy; exact Option.some.inj (hy.symm.trans hf)
      subst e
      rw [if_pos eq]
      simp only [if_true]
      have same : (r'.map fun kv => if kv.1 = y then (kv.1, u) else kv) = r' := by
        conv => rhs; rw [← List.map_id r']
        refine List.map_congr_left fun kv hkv => ?_
        rw [if_neg fun z => nd.1 (List.mem_map.mpr ⟨kv, hkv, z⟩)]
        rfl
      exact ⟨⟨hy, hv⟩, by rw [same]; exact hr⟩
    · have e : y ≠ x := fun z => eq (fld_inj g f x (z ▸ hy) hf)
      rw [if_neg eq] at h ⊢
      simp only [e, if_false]
      exact ⟨⟨hy, hw⟩, KVs.none hf hv hr nd.2 h⟩
  | [], _ :: _, h, _, _ => h.elim
  | _ :: _, [], h, _, _ => h.elim

theorem place_seq {n : Nat} {i : Int} {j : Nat} (h : place n i = some j) (hn : n ≤ 1000) : seqIndex? i n = some j ∧ j < n ∧ -(2 ^ 63) ≤ i ∧ i < 2 ^ 63 ∧ (0 ≤ i → j = i.toNat) ∧ (i < 0 → j = (i + n).toNat ∧ -(n : Int) ≤ i) := by
  unfold place at h
  split at h
  · rename_i h0
    split at h
    · rename_i h1
      cases h
      exact ⟨PySem.seqIndex_of h0 h1, by omega, by omega, by omega, fun _ => rfl, fun q => by omega⟩
    · cases h
  · rename_i h0
    split at h
    · rename_i h1
      cases h
      exact ⟨PySem.seqIndex_neg (by omega) (by omega), by omega, by omega, by omega, fun q => by omega, fun _ => ⟨rfl, by omega⟩⟩
    · cases h

section
variable {G : Gl} {A : Around} {E : Value → Shared → Prop} {s : Shared} {K : Frag} {h₀ : Heap} {L : Addr} {m : Str → Option Value} {news : Nw} {μ : Mu} {σ σ' : Hp} {X : Addr → Prop} {v w' r : MV} {x y z : Value}

theorem inst_at {p : Addr × Addr} {c : Nat} {es : List DictEntry} {n : Nat} (N : News h₀ L s.heap news) (h1 : (p.1, instObj (G.CA c) p.2) ∈ news) (h2 : (p.2, dictOf es n) ∈ news) : W.InstAt s.heap p.1 (instObj (G.CA c) p.2) (G.CA c) (some (dictOf es n)) :=
  ⟨(N _ h1).1, rfl, rfl, (N _ h2).1⟩
theorem handedIn_of {μ : Mu} {BA : Nat → Addr} (h : VR BA μ v x) : handedIn x = true := by
  cases v with
  | none => cases h; rfl
  | bool b => cases h; rfl
  | int i => obtain ⟨t, rfl⟩ := h; rfl
  | ref id => obtain ⟨p, _, rfl⟩ := h; rfl
  | bref k => cases h; rfl

theorem getA_inv {f : Nat} (h : getA σ v f = some r) : ∃ id c fs, v = .ref id ∧ σ[id]? = some (.inst c fs) ∧ fldGet fs f = some r := by
  unfold getA at h
  split at h
  · split at h
    · rename_i c fs e; exact ⟨_, c, fs, rfl, e, h⟩
    · cases h
  · cases h
theorem getA_s {f : Nat} {nm : Str} {expr : Bool} {Q : Value → Shared → Prop} (KK : KOk G K) (XX : K.In h₀) (F : Fr h₀ L s.heap m) (N : News h₀ L s.heap news) (S : Sim G μ σ news) (hf : fldTab[f]? = some nm) (hx : VR G.BA μ v x) (h : getA σ v f = some r)
    (k : Kx G h₀ L m s X μ σ news σ r Q) : wpAny G.M A (getAttr x nm expr) Q E s := by
  obtain ⟨id, c, fs, rfl, hid, hg⟩ := getA_inv h
  obtain ⟨p, hp, rfl⟩ := hx
  obtain ⟨es, n, h1, h2, hF, hc⟩ := S.obj _ _ _ hid hp
  obtain ⟨u, hu, hv⟩ := hF.get hf hg
  obtain ⟨a, b, c', d⟩ := KK.fld c f nm hc hf
  exact get_own F XX (inst_at N h1 h2) a b c' rfl hu (handedIn_of hv) (k s.heap _ μ news u F N S .refl hv)

theorem putA_inv {f : Nat} (h : putA σ v f r = some σ') : ∃ id c fs, v = .ref id ∧ σ[id]? = some (.inst c fs) ∧ fs.length < 500 ∧ σ' = σ.set id (.inst c (fldPut fs f r)) := by
  unfold putA at h
  split at h
  · split at h
    · split at h
      · cases h; rename_i c fs e q; exact ⟨_, c, fs, rfl, e, q, rfl⟩
      · cases h
    · cases h
  · cases h
theorem putL_len (x : Str) (hs : Int) (key v : Value) : ∀ es : List DictEntry, (putL x hs key v es).length ≤ es.length + 1
  | [] => Nat.le_refl _
  | e :: r => by
    unfold putL
    split
    · simp
    · simp only [List.length_cons]; have := putL_len x hs key v r; omega
theorem ne_pair {p : Addr × Addr} {c : Nat} {es : List DictEntry} {n : Nat} (S : Sim G μ σ news) (h1 : (p.1, instObj (G.CA c) p.2) ∈ news) (h2 : (p.2, dictOf es n) ∈ news) : p.1 ≠ p.2 := fun e => by
  rw [← e] at h2
  have := nodup_eq S.nd h1 (by rw [e] at h2 ⊢; exact h2)
  exact absurd (congrArg Obj.cls this) (by simp)
theorem putA_s {f : Nat} {nm : Str} {Q : Unit → Shared → Prop} (KK : KOk G K) (XX : K.In h₀) (F : Fr h₀ L s.heap m) (N : News h₀ L s.heap news) (S : Sim G μ σ news) (hf : fldTab[f]? = some nm) (hx : VR G.BA μ v x) (hy : VR G.BA μ r y) (h : putA σ v f r = some σ')
    (k : Ku G h₀ L m s X μ σ news σ' Q) : wpAny G.M A (setAttr x nm y) Q E s := by
  obtain ⟨id, c, fs, rfl, hid, hlen, rfl⟩ := putA_inv h
  obtain ⟨p, hp, rfl⟩ := hx
  obtain ⟨es, n, h1, h2, hF, hc⟩ := S.obj _ _ _ hid hp
  obtain ⟨a, b, c', d⟩ := KK.fld c f nm hc hf
  obtain ⟨e1, e2⟩ := KK.cset c hc
  obtain ⟨i1, i2, i3⟩ := hF.info hf
  have ne := ne_pair S h1 h2
  refine set_dict F XX N (inst_at N h1 h2) rfl e1 e2 d b i1 rfl (upd_repl S.nd h2) ?_ fun h' F' N' => ?_
  · have := putL_len nm (PyData.keyHash G.w.params nm) (.str nm (s.toks + 1)) y es
    omega
  · exact k h' _ μ _ F' N' (S.put hid (fun z => by cases z) hp (.inr rfl) ⟨_, _, repl_other h1 ne, repl_self h2, hF.put hf hy, hc⟩) (.put hid (fun z => by cases z) hp (.inr rfl))

/-! items -/
theorem getI_inv {i : MV} (h : getI σ v i = some r) : (∃ id k xs j, v = .ref id ∧ i = .int k ∧ (σ[id]? = some (.list xs) ∨ σ[id]? = some (.tup xs)) ∧ xs.length ≤ 1000 ∧ place xs.length k = some j ∧ xs[j]? = some r) ∨
    (∃ b k xs j n, v = .bref b ∧ i = .int k ∧ stepsTab[b]? = some xs ∧ place xs.length k = some j ∧ xs[j]? = some n ∧ r = .int n) := by
  unfold getI at h
  split at h
  · left
    split at h
    · rename_i xs e
      split at h
      · rename_i q
        obtain ⟨j, a, b⟩ := Option.bind_eq_some_iff.mp h
        exact ⟨_, _, xs, j, rfl, rfl, .inl e, q, a, b⟩
      · cases h
    · rename_i xs e
      split at h
      · rename_i q
        obtain ⟨j, a, b⟩ := Option.bind_eq_some_iff.mp h
        exact ⟨_, _, xs, j, rfl, rfl, .inr e, q, a, b⟩
      · cases h
    · cases h
  · right
    split at h
    · rename_i xs e
      obtain ⟨j, a, b⟩ := Option.bind_eq_some_iff.mp h
      obtain ⟨n, c, d⟩ := Option.map_eq_some_iff.mp b
      exact ⟨_, _, xs, j, n, rfl, rfl, e, a, c, d.symm⟩
    · cases h
  · cases h
theorem list_item {l : Addr} {items : Array Value} {k : Int} {j : Nat} {t : Tok} {Q : Value → Shared → Prop} (hl : s.heap.IsList l items) (hn : items.size ≤ 1000) (hj : place items.size k = some j) (hx : items[j]? = some x) (h : Q x s) :
    wpAny G.M A (getItem (.ref l) (.int k t)) Q E s := by
  obtain ⟨_, hlt, a, b, c, d⟩ := place_seq hj hn
  by_cases h0 : 0 ≤ k
  · exact wpAny_getItem_list hl h0 b (by rw [← c h0]; exact hx) h
  · obtain ⟨e, f⟩ := d (by omega)
    exact wpAny_getItem_list_neg hl (by omega) f a (by rw [← e]; exact hx) h
theorem tup_item {l : Addr} {items : Array Value} {k : Int} {j : Nat} {t : Tok} {Q : Value → Shared → Prop} (hl : IsTup s.heap l items) (hn : items.size ≤ 1000) (hj : place items.size k = some j) (hx : items[j]? = some x) (h : Q x s) :
    wpAny G.M A (getItem (.ref l) (.int k t)) Q E s := by
  obtain ⟨q, hlt, a, b, c, d⟩ := place_seq hj hn
  exact getItem_tuple hl a b q hx h
/-- the object that is asked, its type's own lookup, its item -/
theorem getI_obj {i : MV} (KK : KOk G K) (XX : K.In h₀) (F : Fr h₀ L s.heap m) (N : News h₀ L s.heap news) (S : Sim G μ σ news) (hx : VR G.BA μ v x) (hy : VR G.BA μ i y) (h : getI σ v i = some r) :
    (∃ T id, s.TypeIs x T ∧ typeLookup (.type T) "__getitem__" = pure (some (.builtin id))) ∧ ∃ u, VR G.BA μ r u ∧ ∀ (Q : Value → Shared → Prop), Q u s → wpAny G.M A (getItem x y) Q E s := by
  rcases getI_inv h with ⟨id, k, xs, j, rfl, rfl, ho, hn, hj, hr⟩ | ⟨b, k, xs, j, n, rfl, rfl, hb, hj, hr, rfl⟩
  · obtain ⟨p, hp, rfl⟩ := hx
    obtain ⟨t, rfl⟩ := hy
    rcases ho with ho | ho
    · obtain ⟨vs, n, hm, hv, _⟩ := S.obj _ _ _ ho hp
      obtain ⟨u, hu, hur⟩ := hv.get hr
      have hl := PySem.IsL.isList (n := n) (N _ hm).1
      have e : vs.toArray.size = xs.length := by simp [hv.len]
      exact ⟨⟨_, _, hl.typeIs, slot_list_getitem.lookup⟩, u, hur, fun Q q => list_item hl (by omega) (by rw [e]; exact hj) (by simpa using hu) q⟩
    · obtain ⟨vs, hm, hv, _⟩ := S.obj _ _ _ ho hp
      obtain ⟨u, hu, hur⟩ := hv.get hr
      have hl : IsTup s.heap p.1 vs.toArray := ⟨_, (N _ hm).1, rfl, 0, rfl⟩
      have e : vs.toArray.size = xs.length := by simp [hv.len]
      exact ⟨⟨_, _, hl.typeIs, slot_tuple_getitem.lookup⟩, u, hur, fun Q q => tup_item hl (by omega) (by rw [e]; exact hj) (by simpa using hu) q⟩
  · cases hx
    obtain ⟨t, rfl⟩ := hy
    obtain ⟨o, vs, n', ho, hc, hd, hv⟩ := KK.bref b xs hb
    obtain ⟨u, hu, hur⟩ := hv.get (i := j) (v := .int n) (by rw [List.getElem?_map, hr]; rfl)
    have hl : IsTup s.heap (G.BA b) vs := ⟨o, (XX.keeps F.keep) _ _ ho, hc, n', hd⟩
    have e : vs.size = xs.length := by have := hv.len; simp at this; exact this
    have hxs : xs.length ≤ 1000 := by
      have : ∀ xs ∈ stepsTab, xs.length ≤ 1000 := by decide
      exact this xs (List.mem_of_getElem? hb)
    exact ⟨⟨_, _, hl.typeIs, slot_tuple_getitem.lookup⟩, u, hur, fun Q q => tup_item hl (by omega) (by rw [e]; exact hj) (by simpa using hu) q⟩
theorem getI_s {i : MV} {Q : Value → Shared → Prop} (KK : KOk G K) (XX : K.In h₀) (F : Fr h₀ L s.heap m) (N : News h₀ L s.heap news) (S : Sim G μ σ news) (hx : VR G.BA μ v x) (hy : VR G.BA μ i y) (h : getI σ v i = some r) (k : Kx G h₀ L m s X μ σ news σ r Q) :
    wpAny G.M A (getItem x y) Q E s := by
  obtain ⟨_, u, hu, q⟩ := getI_obj (A := A) (E := E) KK XX F N S hx hy h
  exact q Q (k s.heap _ μ news u F N S .refl hu)
theorem getI_t {i : MV} {value slice : PySem.Expr} {Q : Value → Shared → Prop} (KK : KOk G K) (XX : K.In h₀) (F : Fr h₀ L s.heap m) (N : News h₀ L s.heap news) (S : Sim G μ σ news) (hx : VR G.BA μ v x) (hy : VR G.BA μ i y) (h : getI σ v i = some r)
    (hs : subscripted slice false x y = operate [x, y] (getItem x y)) (k : Kx G h₀ L m s X μ σ news σ r Q) : wpAny G.M A (subscriptTail value slice x y) Q E s := by
  obtain ⟨⟨T, id, a, b⟩, u, hu, q⟩ := getI_obj (A := A) (E := E) KK XX F N S hx hy h
  exact tail_any a b (q Q (k s.heap _ μ news u F N S .refl hu)) hs

theorem setL_some : ∀ (l : List Value) (j : Nat) (u : Value), j < l.length → ki_setL l j u = some (l.set j u)
  | [], _, _, h => absurd h (Nat.not_lt_zero _)
  | _ :: _, 0, _, _ => rfl
  | a :: r, j + 1, u, h => by
    unfold ki_setL
    rw [setL_some r j u (Nat.lt_of_succ_lt_succ h)]
    rfl
theorem putI_inv {i : MV} (h : putI σ v i r = some σ') : ∃ id k xs j, v = .ref id ∧ i = .int k ∧ σ[id]? = some (.list xs) ∧ xs.length ≤ 1000 ∧ place xs.length k = some j ∧ σ' = σ.set id (.list (xs.set j r)) := by
  unfold putI at h
  split at h
  · split at h
    · rename_i xs e
      split at h
      · rename_i q
        obtain ⟨j, a, b⟩ := Option.map_eq_some_iff.mp h
        exact ⟨_, _, xs, j, rfl, rfl, e, q, a, b.symm⟩
      · cases h
    · cases h
  · cases h
theorem putI_s {i : MV} {Q : Unit → Shared → Prop} (F : Fr h₀ L s.heap m) (N : News h₀ L s.heap news) (S : Sim G μ σ news) (hx : VR G.BA μ v x) (hy : VR G.BA μ i y) (hz : VR G.BA μ r z) (h : putI σ v i r = some σ')
    (k : Ku G h₀ L m s X μ σ news σ' Q) : wpAny G.M A (setItem x y z) Q E s := by
  obtain ⟨id, kk, xs, j, rfl, rfl, hid, hn, hj, rfl⟩ := putI_inv h
  obtain ⟨p, hp, rfl⟩ := hx
  obtain ⟨t, rfl⟩ := hy
  obtain ⟨vs, n, hm, hv, hpp⟩ := S.obj _ _ _ hid hp
  have e : vs.toArray.size = xs.length := by simp [hv.len]
  obtain ⟨q, hlt, a, b, c, d⟩ := place_seq hj hn
  have hset : ki_setL vs.toArray.toList j z = some (vs.set j z) := setL_some vs j z (by rw [hv.len]; exact hlt)
  have U := upd_repl (o' := listOf (vs.set j z).toArray n) S.nd hm
  have fin : ∀ h', Fr h₀ L h' m → News h₀ L h' (repl p.1 (listOf (vs.set j z).toArray n) news) → Q () { s with heap := h' } := fun h' F' N' =>
    k h' _ μ _ F' N' (S.put hid (fun z => by cases z) hp (.inl rfl) ⟨_, _, repl_self hm, hv.set hz, hpp⟩) (.put hid (fun z => by cases z) hp (.inl rfl))
  by_cases h0 : 0 ≤ kk
  · exact ki_set F N h0 b (by rw [← c h0]; exact hset) U fin
  · exact ki_setNeg F N (by omega) a (by rw [e]; exact q) hset U fin

theorem len_s {n : Int} {Q : Value → Shared → Prop} (F : Fr h₀ L s.heap m) (N : News h₀ L s.heap news) (S : Sim G μ σ news) (hx : VR G.BA μ v x) (h : lenV σ v = some n) (k : Kx G h₀ L m s X μ σ news σ (.int n) Q) :
    wpAny G.M A (call (.builtin "len") [x]) Q E s := by
  unfold lenV at h
  split at h
  · split at h
    · rename_i xs e
      split at h
      · rename_i q
        cases h
        obtain ⟨p, hp, rfl⟩ := hx
        obtain ⟨vs, n, hm, hv, _⟩ := S.obj _ _ _ e hp
        have es : vs.toArray.size = xs.length := by simp [hv.len]
        refine Calls.call_len_list (PySem.IsL.isList (n := n) (N _ hm).1) (by omega) ?_
        rw [es]
        exact k s.heap _ μ news _ F N S .refl ⟨_, rfl⟩
      · cases h
    · cases h
  · cases h

theorem last_some : ∀ (l : List Value) (u : Value), l.getLast? = some u → kl_last l = some (l.dropLast, u)
  | [], _, h => by cases h
  | [a], u, h => by simp at h; subst h; rfl
  | a :: b :: r, u, h => by
    have h' : (b :: r).getLast? = some u := by rw [List.getLast?_cons_cons] at h; exact h
    unfold kl_last
    rw [last_some (b :: r) u h']
    rfl
theorem VRs.last {BA : Nat → Addr} {μ : Mu} : ∀ {vs : List MV} {xs : List Value} {v : MV}, VRs BA μ vs xs → vs.getLast? = some v → ∃ u, xs.getLast? = some u ∧ VR BA μ v u
  | [], [], _, _, h => by cases h
  | [a], [b], v, h, e => by simp at e; subst e; exact ⟨b, rfl, h.1⟩
  | [_], _ :: _ :: _, _, h, _ => h.2.elim
  | _ :: _ :: _, [_], _, h, _ => h.2.elim
  | _ :: a :: r, _ :: b :: r', v, h, e => by
    rw [List.getLast?_cons_cons] at e ⊢
    exact VRs.last h.2 e
  | [], _ :: _, _, h, _ => h.elim
  | _ :: _, [], _, h, _ => h.elim
theorem popV_inv (h : popV σ v = some (r, σ')) : ∃ id xs, v = .ref id ∧ σ[id]? = some (.list xs) ∧ xs.length ≤ 1000 ∧ xs.getLast? = some r ∧ σ' = σ.set id (.list xs.dropLast) := by
  unfold popV at h
  split at h
  · split at h
    · rename_i xs e
      split at h
      · rename_i q
        obtain ⟨j, a, b⟩ := Option.map_eq_some_iff.mp h
        cases b
        exact ⟨_, xs, rfl, e, q, a, rfl⟩
      · cases h
    · cases h
  · cases h
theorem pop_s {Q : Value → Shared → Prop} (F : Fr h₀ L s.heap m) (N : News h₀ L s.heap news) (S : Sim G μ σ news) (hx : VR G.BA μ v x) (h : popV σ v = some (r, σ')) (k : Kx G h₀ L m s X μ σ news σ' r Q) :
    wpAny G.M A (call (.builtin "list.pop") [x]) Q E s := by
  obtain ⟨id, xs, rfl, hid, hn, hl, rfl⟩ := popV_inv h
  obtain ⟨p, hp, rfl⟩ := hx
  obtain ⟨vs, n, hm, hv, hpp⟩ := S.obj _ _ _ hid hp
  obtain ⟨u, hu, hur⟩ := hv.last hl
  refine kl_pop F N (last_some _ _ hu) (upd_repl S.nd hm) (by rw [sizeLine_eq]; have := hv.len; simp; omega) fun h' F' N' => ?_
  exact k h' _ μ _ _ F' N' (S.put hid (fun z => by cases z) hp (.inl rfl) ⟨_, _, repl_self hm, hv.dropLast, hpp⟩) (.put hid (fun z => by cases z) hp (.inl rfl)) hur

theorem appV_inv (h : appV σ v r = some σ') : ∃ id xs, v = .ref id ∧ σ[id]? = some (.list xs) ∧ xs.length ≤ 1000 ∧ σ' = σ.set id (.list (xs ++ [r])) := by
  unfold appV at h
  split at h
  · split at h
    · rename_i xs e
      split at h
      · rename_i q
        cases h
        exact ⟨_, xs, rfl, e, q, rfl⟩
      · cases h
    · cases h
  · cases h
theorem app_s {Q : Value → Shared → Prop} (F : Fr h₀ L s.heap m) (N : News h₀ L s.heap news) (S : Sim G μ σ news) (hx : VR G.BA μ v x) (hy : VR G.BA μ r y) (h : appV σ v r = some σ') (k : Kx G h₀ L m s X μ σ news σ' .none Q) :
    wpAny G.M A (call (.builtin "list.append") [x, y]) Q E s := by
  obtain ⟨id, xs, rfl, hid, hn, rfl⟩ := appV_inv h
  obtain ⟨p, hp, rfl⟩ := hx
  obtain ⟨vs, n, hm, hv, hpp⟩ := S.obj _ _ _ hid hp
  have e : vs.toArray.push y = (vs ++ [y]).toArray := by simp
  have U := upd_repl (o' := listOf (vs.toArray.push y) (n + 1)) S.nd hm
  refine append_K F N U (fun h' F' N' => ?_) (by rw [sizeLine_eq]; have := hv.len; simp; omega)
  rw [e] at N'
  exact k h' _ μ _ _ F' N' (S.put hid (fun z => by cases z) hp (.inl rfl) ⟨_, _, repl_self hm, hv.snoc hy, hpp⟩) (.put hid (fun z => by cases z) hp (.inl rfl)) rfl

/-! the dict of a written make -/
theorem getK_inv {f : Nat} (h : getK σ v f = some r) : ∃ id fs, v = .ref id ∧ σ[id]? = some (.dict fs) ∧ fldGet fs f = some r := by
  unfold getK at h
  split at h
  · split at h
    · rename_i fs e; exact ⟨_, fs, rfl, e, h⟩
    · cases h
  · cases h
theorem getK_o {f : Nat} {nm : Str} {t : Tok} (N : News h₀ L s.heap news) (S : Sim G μ σ news) (hf : fldTab[f]? = some nm) (hx : VR G.BA μ v x) (h : getK σ v f = some r) :
    (∃ T id, s.TypeIs x T ∧ typeLookup (.type T) "__getitem__" = pure (some (.builtin id))) ∧ ∃ u, VR G.BA μ r u ∧ ∀ (Q : Value → Shared → Prop), Q u { s with toks := s.toks + 1 } → wpAny G.M A (getItem x (.str nm t)) Q E s := by
  obtain ⟨id, fs, rfl, hid, hg⟩ := getK_inv h
  obtain ⟨p, hp, rfl⟩ := hx
  obtain ⟨o, kvs, hm, hd, hv, hpp⟩ := S.obj _ _ _ hid hp
  obtain ⟨u, hu, hur⟩ := hv.get hf hg
  exact ⟨⟨_, _, (kda_dict N hm hd).typeIs, slot_dict_getitem.lookup⟩, u, hur, fun Q q => kdt_getItem N hm hd (strKind_is _ _ _ _) hu q⟩
theorem getK_t {f : Nat} {nm : Str} {t : Tok} {value slice : PySem.Expr} {Q : Value → Shared → Prop} (F : Fr h₀ L s.heap m) (N : News h₀ L s.heap news) (S : Sim G μ σ news) (hf : fldTab[f]? = some nm) (hx : VR G.BA μ v x) (h : getK σ v f = some r)
    (hs : subscripted slice false x (.str nm t) = operate [x, .str nm t] (getItem x (.str nm t))) (k : Kx G h₀ L m s X μ σ news σ r Q) : wpAny G.M A (subscriptTail value slice x (.str nm t)) Q E s := by
  obtain ⟨⟨T, id, a, b⟩, u, hu, q⟩ := getK_o (A := A) (E := E) (t := t) N S hf hx h
  exact tail_any a b (q Q (k s.heap _ μ news u F N S .refl hu)) hs
theorem getK_s {f : Nat} {nm : Str} {t : Tok} {Q : Value → Shared → Prop} (F : Fr h₀ L s.heap m) (N : News h₀ L s.heap news) (S : Sim G μ σ news) (hf : fldTab[f]? = some nm) (hx : VR G.BA μ v x) (h : getK σ v f = some r)
    (k : Kx G h₀ L m s X μ σ news σ r Q) : wpAny G.M A (getItem x (.str nm t)) Q E s := by
  obtain ⟨_, u, hu, q⟩ := getK_o (A := A) (E := E) (t := t) N S hf hx h
  exact q Q (k s.heap _ μ news u F N S .refl hu)
theorem putK_inv {f : Nat} (h : putK σ v f r = some σ') : ∃ id fs, v = .ref id ∧ σ[id]? = some (.dict fs) ∧ (fldGet fs f).isSome = true ∧ fs.length < 500 ∧ σ' = σ.set id (.dict (fldPut fs f r)) := by
  unfold putK at h
  split at h
  · split at h
    · rename_i fs e
      split at h
      · rename_i q
        split at h
        · cases h; rename_i l; exact ⟨_, fs, rfl, e, by rw [q]; rfl, l, rfl⟩
        · cases h
      · cases h
    · cases h
  · cases h
theorem putK_s {f : Nat} {nm : Str} {t : Tok} {Q : Unit → Shared → Prop} (F : Fr h₀ L s.heap m) (N : News h₀ L s.heap news) (S : Sim G μ σ news) (hf : fldTab[f]? = some nm) (hx : VR G.BA μ v x) (hy : VR G.BA μ r y) (h : putK σ v f r = some σ')
    (k : Ku G h₀ L m s X μ σ news σ' Q) : wpAny G.M A (setItem x (.str nm t) y) Q E s := by
  obtain ⟨id, fs, rfl, hid, hg, hl, rfl⟩ := putK_inv h
  obtain ⟨p, hp, rfl⟩ := hx
  obtain ⟨o, kvs, hm, hd, hv, hpp⟩ := S.obj _ _ _ hid hp
  have nd : (kvs.map (·.1)).Nodup := by obtain ⟨_, _, _, _, _, _, q⟩ := hd; exact q
  refine kda_set F N (updF_repl S.nd hm) hd (strKind_is _ _ _ _) (by rw [sizeLine_eq]; have := hv.len; omega) fun h' o' F' N' hd' => ?_
  have e : stored kvs nm y = kvs.map fun kv => if kv.1 = nm then (kv.1, y) else kv := by
    unfold stored
    rw [if_pos (hv.any hf hg)]
  rw [e] at hd'
  exact k h' _ μ _ F' N' (S.put hid (fun z => by cases z) hp (.inl rfl) ⟨_, _, repl_self hm, hd', hv.none hf hy nd hg, hpp⟩) (.put hid (fun z => by cases z) hp (.inl rfl))

/-! ranges -/
theorem rng_news {a b c : Int} {h' : Heap} {t u w : Tok} (F : Fr h₀ L s.heap m) (N : News h₀ L s.heap news) (hr : IsRange h' s.heap.objs.size a b c t u w) (hk : ∀ b o, s.heap.get? b = some o → h'.get? b = some o) :
    News h₀ L h' ((s.heap.objs.size, rngObj a b c t u w) :: news) := news_pushed F N hk hr rfl
theorem rng_s {a b c : Int} {Q : Value → Shared → Prop} (N : News h₀ L s.heap news) (S : Sim G μ σ news) (k : Kx G h₀ L m s X μ σ news (σ ++ [.range a b c]) (.ref σ.length) Q)
    {h' : Heap} {tk : Nat} {t u w : Tok} (F : Fr h₀ L s.heap m) (F' : Fr h₀ L h' m) (hr : IsRange h' s.heap.objs.size a b c t u w) (hk : ∀ b o, s.heap.get? b = some o → h'.get? b = some o) : Q (.ref s.heap.objs.size) { s with heap := h', toks := tk } := by
  obtain ⟨d, e, f⟩ := alloc1 (X := X) (o := rngObj a b c t u w) (mo := .range a b c) F N S s.heap.objs.size (fun p hp => Heap.lt_size (N p hp).1) ⟨t, u, w, .head _, rfl⟩
  exact k h' tk _ _ _ F' (rng_news F N hr hk) d e f
theorem rngV_inv {a b c : MV} (h : rngV a b c σ = some (r, σ')) : ∃ i j k, a = .int i ∧ b = .int j ∧ c = .int k ∧ (k = 1 ∨ k = -1) ∧ i.natAbs ≤ 1000 ∧ j.natAbs ≤ 1000 ∧ r = .ref σ.length ∧ σ' = σ ++ [.range i j k] := by
  unfold rngV at h
  split at h
  · split at h
    · rename_i q; cases h; exact ⟨_, _, _, rfl, rfl, rfl, q.1, q.2.1, q.2.2, rfl, rfl⟩
    · cases h
  · cases h
end
end Mine

/-! ## X1 -/
namespace Mine
open PySem PySem.W PyProof.Rows PySem.Calls
theorem ff {P : Prop} (h : false = true) : P := Bool.noConfusion h
noncomputable def xName (t : PySem.Expr) (k : Str → Pos → Bool) : Bool := @PySem.Expr.casesOn (fun _ => Bool) t (fun _ _ _ => false) (fun _ _ _ => false) (fun _ _ _ _ => false) (fun _ _ _ => false) (fun _ _ _ _ => false) (fun _ _ _ _ => false) (fun _ _ _ => false) (fun _ _ _ => false) (fun _ _ _ _ => false) (fun _ _ _ _ => false) (fun _ _ _ _ _ => false) (fun _ _ _ _ => false) (fun _ _ => false) (fun _ _ => false) (fun _ _ => false) (fun _ _ _ _ => false) (fun _ _ _ _ => false) (fun _ _ _ _ => false) (fun _ _ => false) (fun _ _ _ => false) (fun _ _ _ => false) (fun _ _ _ => false) (fun _ _ => false) (fun a0 a1 => k a0 a1) (fun _ _ => false) (fun _ _ _ => false) (fun _ _ _ _ => false)
def xNameM (k : Str → Pos → Bool) (t : PySem.Expr) : Prop := ∃ a0 a1, t = .Name a0 a1 ∧ k a0 a1 = true
theorem xName_t {t : PySem.Expr} {k : Str → Pos → Bool} : xName t k = true → xNameM k t := @PySem.Expr.casesOn (fun t => xName t k = true → xNameM k t) t (fun _ _ _ h => ff h) (fun _ _ _ h => ff h) (fun _ _ _ _ h => ff h) (fun _ _ _ h => ff h) (fun _ _ _ _ h => ff h) (fun _ _ _ _ h => ff h) (fun _ _ _ h => ff h) (fun _ _ _ h => ff h) (fun _ _ _ _ h => ff h) (fun _ _ _ _ h => ff h) (fun _ _ _ _ _ h => ff h) (fun _ _ _ _ h => ff h) (fun _ _ h => ff h) (fun _ _ h => ff h) (fun _ _ h => ff h) (fun _ _ _ _ h => ff h) (fun _ _ _ _ h => ff h) (fun _ _ _ _ h => ff h) (fun _ _ h => ff h) (fun _ _ _ h => ff h) (fun _ _ _ h => ff h) (fun _ _ _ h => ff h) (fun _ _ h => ff h) (fun a0 a1 h => ⟨a0, a1, rfl, h⟩) (fun _ _ h => ff h) (fun _ _ _ h => ff h) (fun _ _ _ _ h => ff h)
noncomputable def xConst (t : PySem.Expr) (k : PySem.Const → Nat → Pos → Bool) : Bool := @PySem.Expr.casesOn (fun _ => Bool) t (fun _ _ _ => false) (fun _ _ _ => false) (fun _ _ _ _ => false) (fun _ _ _ => false) (fun _ _ _ _ => false) (fun _ _ _ _ => false) (fun _ _ _ => false) (fun _ _ _ => false) (fun _ _ _ _ => false) (fun _ _ _ _ => false) (fun _ _ _ _ _ => false) (fun _ _ _ _ => false) (fun _ _ => false) (fun _ _ => false) (fun _ _ => false) (fun _ _ _ _ => false) (fun _ _ _ _ => false) (fun _ _ _ _ => false) (fun _ _ => false) (fun a0 a1 a2 => k a0 a1 a2) (fun _ _ _ => false) (fun _ _ _ => false) (fun _ _ => false) (fun _ _ => false) (fun _ _ => false) (fun _ _ _ => false) (fun _ _ _ _ => false)
def xConstM (k : PySem.Const → Nat → Pos → Bool) (t : PySem.Expr) : Prop := ∃ a0 a1 a2, t = .Constant a0 a1 a2 ∧ k a0 a1 a2 = true
theorem xConst_t {t : PySem.Expr} {k : PySem.Const → Nat → Pos → Bool} : xConst t k = true → xConstM k t := @PySem.Expr.casesOn (fun t => xConst t k = true → xConstM k t) t (fun _ _ _ h => ff h) (fun _ _ _ h => ff h) (fun _ _ _ _ h => ff h) (fun _ _ _ h => ff h) (fun _ _ _ _ h => ff h) (fun _ _ _ _ h => ff h) (fun _ _ _ h => ff h) (fun _ _ _ h => ff h) (fun _ _ _ _ h => ff h) (fun _ _ _ _ h => ff h) (fun _ _ _ _ _ h => ff h) (fun _ _ _ _ h => ff h) (fun _ _ h => ff h) (fun _ _ h => ff h) (fun _ _ h => ff h) (fun _ _ _ _ h => ff h) (fun _ _ _ _ h => ff h) (fun _ _ _ _ h => ff h) (fun _ _ h => ff h) (fun a0 a1 a2 h => ⟨a0, a1, a2, rfl, h⟩) (fun _ _ _ h => ff h) (fun _ _ _ h => ff h) (fun _ _ h => ff h) (fun _ _ h => ff h) (fun _ _ h => ff h) (fun _ _ _ h => ff h) (fun _ _ _ _ h => ff h)
noncomputable def xBin (t : PySem.Expr) (k : PySem.Expr → Operator → PySem.Expr → Pos → Bool) : Bool := @PySem.Expr.casesOn (fun _ => Bool) t (fun _ _ _ => false) (fun _ _ _ => false) (fun a0 a1 a2 a3 => k a0 a1 a2 a3) (fun _ _ _ => false) (fun _ _ _ _ => false) (fun _ _ _ _ => false) (fun _ _ _ => false) (fun _ _ _ => false) (fun _ _ _ _ => false) (fun _ _ _ _ => false) (fun _ _ _ _ _ => false) (fun _ _ _ _ => false) (fun _ _ => false) (fun _ _ => false) (fun _ _ => false) (fun _ _ _ _ => false) (fun _ _ _ _ => false) (fun _ _ _ _ => false) (fun _ _ => false) (fun _ _ _ => false) (fun _ _ _ => false) (fun _ _ _ => false) (fun _ _ => false) (fun _ _ => false) (fun _ _ => false) (fun _ _ _ => false) (fun _ _ _ _ => false)
def xBinM (k : PySem.Expr → Operator → PySem.Expr → Pos → Bool) (t : PySem.Expr) : Prop := ∃ a0 a1 a2 a3, t = .BinOp a0 a1 a2 a3 ∧ k a0 a1 a2 a3 = true
theorem xBin_t {t : PySem.Expr} {k : PySem.Expr → Operator → PySem.Expr → Pos → Bool} : xBin t k = true → xBinM k t := @PySem.Expr.casesOn (fun t => xBin t k = true → xBinM k t) t (fun _ _ _ h => ff h) (fun _ _ _ h => ff h) (fun a0 a1 a2 a3 h => ⟨a0, a1, a2, a3, rfl, h⟩) (fun _ _ _ h => ff h) (fun _ _ _ _ h => ff h) (fun _ _ _ _ h => ff h) (fun _ _ _ h => ff h) (fun _ _ _ h => ff h) (fun _ _ _ _ h => ff h) (fun _ _ _ _ h => ff h) (fun _ _ _ _ _ h => ff h) (fun _ _ _ _ h => ff h) (fun _ _ h => ff h) (fun _ _ h => ff h) (fun _ _ h => ff h) (fun _ _ _ _ h => ff h) (fun _ _ _ _ h => ff h) (fun _ _ _ _ h => ff h) (fun _ _ h => ff h) (fun _ _ _ h => ff h) (fun _ _ _ h => ff h) (fun _ _ _ h => ff h) (fun _ _ h => ff h) (fun _ _ h => ff h) (fun _ _ h => ff h) (fun _ _ _ h => ff h) (fun _ _ _ _ h => ff h)
noncomputable def xUn (t : PySem.Expr) (k : UnaryOp → PySem.Expr → Pos → Bool) : Bool := @PySem.Expr.casesOn (fun _ => Bool) t (fun _ _ _ => false) (fun _ _ _ => false) (fun _ _ _ _ => false) (fun a0 a1 a2 => k a0 a1 a2) (fun _ _ _ _ => false) (fun _ _ _ _ => false) (fun _ _ _ => false) (fun _ _ _ => false) (fun _ _ _ _ => false) (fun _ _ _ _ => false) (fun _ _ _ _ _ => false) (fun _ _ _ _ => false) (fun _ _ => false) (fun _ _ => false) (fun _ _ => false) (fun _ _ _ _ => false) (fun _ _ _ _ => false) (fun _ _ _ _ => false) (fun _ _ => false) (fun _ _ _ => false) (fun _ _ _ => false) (fun _ _ _ => false) (fun _ _ => false) (fun _ _ => false) (fun _ _ => false) (fun _ _ _ => false) (fun _ _ _ _ => false)
def xUnM (k : UnaryOp → PySem.Expr → Pos → Bool) (t : PySem.Expr) : Prop := ∃ a0 a1 a2, t = .UnaryOp a0 a1 a2 ∧ k a0 a1 a2 = true
theorem xUn_t {t : PySem.Expr} {k : UnaryOp → PySem.Expr → Pos → Bool} : xUn t k = true → xUnM k t := @PySem.Expr.casesOn (fun t => xUn t k = true → xUnM k t) t (fun _ _ _ h => ff h) (fun _ _ _ h => ff h) (fun _ _ _ _ h => ff h) (fun a0 a1 a2 h => ⟨a0, a1, a2, rfl, h⟩) (fun _ _ _ _ h => ff h) (fun _ _ _ _ h => ff h) (fun _ _ _ h => ff h) (fun _ _ _ h => ff h) (fun _ _ _ _ h => ff h) (fun _ _ _ _ h => ff h) (fun _ _ _ _ _ h => ff h) (fun _ _ _ _ h => ff h) (fun _ _ h => ff h) (fun _ _ h => ff h) (fun _ _ h => ff h) (fun _ _ _ _ h => ff h) (fun _ _ _ _ h => ff h) (fun _ _ _ _ h => ff h) (fun _ _ h => ff h) (fun _ _ _ h => ff h) (fun _ _ _ h => ff h) (fun _ _ _ h => ff h) (fun _ _ h => ff h) (fun _ _ h => ff h) (fun _ _ h => ff h) (fun _ _ _ h => ff h) (fun _ _ _ _ h => ff h)
noncomputable def xCmp (t : PySem.Expr) (k : PySem.Expr → List CmpOp → List PySem.Expr → Pos → Bool) : Bool := @PySem.Expr.casesOn (fun _ => Bool) t (fun _ _ _ => false) (fun _ _ _ => false) (fun _ _ _ _ => false) (fun _ _ _ => false) (fun _ _ _ _ => false) (fun _ _ _ _ => false) (fun _ _ _ => false) (fun _ _ _ => false) (fun _ _ _ _ => false) (fun _ _ _ _ => false) (fun _ _ _ _ _ => false) (fun _ _ _ _ => false) (fun _ _ => false) (fun _ _ => false) (fun _ _ => false) (fun a0 a1 a2 a3 => k a0 a1 a2 a3) (fun _ _ _ _ => false) (fun _ _ _ _ => false) (fun _ _ => false) (fun _ _ _ => false) (fun _ _ _ => false) (fun _ _ _ => false) (fun _ _ => false) (fun _ _ => false) (fun _ _ => false) (fun _ _ _ => false) (fun _ _ _ _ => false)
def xCmpM (k : PySem.Expr → List CmpOp → List PySem.Expr → Pos → Bool) (t : PySem.Expr) : Prop := ∃ a0 a1 a2 a3, t = .Compare a0 a1 a2 a3 ∧ k a0 a1 a2 a3 = true
theorem xCmp_t {t : PySem.Expr} {k : PySem.Expr → List CmpOp → List PySem.Expr → Pos → Bool} : xCmp t k = true → xCmpM k t := @PySem.Expr.casesOn (fun t => xCmp t k = true → xCmpM k t) t (fun _ _ _ h => ff h) (fun _ _ _ h => ff h) (fun _ _ _ _ h => ff h) (fun _ _ _ h => ff h) (fun _ _ _ _ h => ff h) (fun _ _ _ _ h => ff h) (fun _ _ _ h => ff h) (fun _ _ _ h => ff h) (fun _ _ _ _ h => ff h) (fun _ _ _ _ h => ff h) (fun _ _ _ _ _ h => ff h) (fun _ _ _ _ h => ff h) (fun _ _ h => ff h) (fun _ _ h => ff h) (fun _ _ h => ff h) (fun a0 a1 a2 a3 h => ⟨a0, a1, a2, a3, rfl, h⟩) (fun _ _ _ _ h => ff h) (fun _ _ _ _ h => ff h) (fun _ _ h => ff h) (fun _ _ _ h => ff h) (fun _ _ _ h => ff h) (fun _ _ _ h => ff h) (fun _ _ h => ff h) (fun _ _ h => ff h) (fun _ _ h => ff h) (fun _ _ _ h => ff h) (fun _ _ _ _ h => ff h)
noncomputable def xBo (t : PySem.Expr) (k : PySem.BoolOp → List PySem.Expr → Pos → Bool) : Bool := @PySem.Expr.casesOn (fun _ => Bool) t (fun a0 a1 a2 => k a0 a1 a2) (fun _ _ _ => false) (fun _ _ _ _ => false) (fun _ _ _ => false) (fun _ _ _ _ => false) (fun _ _ _ _ => false) (fun _ _ _ => false) (fun _ _ _ => false) (fun _ _ _ _ => false) (fun _ _ _ _ => false) (fun _ _ _ _ _ => false) (fun _ _ _ _ => false) (fun _ _ => false) (fun _ _ => false) (fun _ _ => false) (fun _ _ _ _ => false) (fun _ _ _ _ => false) (fun _ _ _ _ => false) (fun _ _ => false) (fun _ _ _ => false) (fun _ _ _ => false) (fun _ _ _ => false) (fun _ _ => false) (fun _ _ => false) (fun _ _ => false) (fun _ _ _ => false) (fun _ _ _ _ => false)
def xBoM (k : PySem.BoolOp → List PySem.Expr → Pos → Bool) (t : PySem.Expr) : Prop := ∃ a0 a1 a2, t = .BoolOp a0 a1 a2 ∧ k a0 a1 a2 = true
theorem xBo_t {t : PySem.Expr} {k : PySem.BoolOp → List PySem.Expr → Pos → Bool} : xBo t k = true → xBoM k t := @PySem.Expr.casesOn (fun t => xBo t k = true → xBoM k t) t (fun a0 a1 a2 h => ⟨a0, a1, a2, rfl, h⟩) (fun _ _ _ h => ff h) (fun _ _ _ _ h => ff h) (fun _ _ _ h => ff h) (fun _ _ _ _ h => ff h) (fun _ _ _ _ h => ff h) (fun _ _ _ h => ff h) (fun _ _ _ h => ff h) (fun _ _ _ _ h => ff h) (fun _ _ _ _ h => ff h) (fun _ _ _ _ _ h => ff h) (fun _ _ _ _ h => ff h) (fun _ _ h => ff h) (fun _ _ h => ff h) (fun _ _ h => ff h) (fun _ _ _ _ h => ff h) (fun _ _ _ _ h => ff h) (fun _ _ _ _ h => ff h) (fun _ _ h => ff h) (fun _ _ _ h => ff h) (fun _ _ _ h => ff h) (fun _ _ _ h => ff h) (fun _ _ h => ff h) (fun _ _ h => ff h) (fun _ _ h => ff h) (fun _ _ _ h => ff h) (fun _ _ _ _ h => ff h)
noncomputable def xIf (t : PySem.Expr) (k : PySem.Expr → PySem.Expr → PySem.Expr → Pos → Bool) : Bool := @PySem.Expr.casesOn (fun _ => Bool) t (fun _ _ _ => false) (fun _ _ _ => false) (fun _ _ _ _ => false) (fun _ _ _ => false) (fun _ _ _ _ => false) (fun a0 a1 a2 a3 => k a0 a1 a2 a3) (fun _ _ _ => false) (fun _ _ _ => false) (fun _ _ _ _ => false) (fun _ _ _ _ => false) (fun _ _ _ _ _ => false) (fun _ _ _ _ => false) (fun _ _ => false) (fun _ _ => false) (fun _ _ => false) (fun _ _ _ _ => false) (fun _ _ _ _ => false) (fun _ _ _ _ => false) (fun _ _ => false) (fun _ _ _ => false) (fun _ _ _ => false) (fun _ _ _ => false) (fun _ _ => false) (fun _ _ => false) (fun _ _ => false) (fun _ _ _ => false) (fun _ _ _ _ => false)
def xIfM (k : PySem.Expr → PySem.Expr → PySem.Expr → Pos → Bool) (t : PySem.Expr) : Prop := ∃ a0 a1 a2 a3, t = .IfExp a0 a1 a2 a3 ∧ k a0 a1 a2 a3 = true
theorem xIf_t {t : PySem.Expr} {k : PySem.Expr → PySem.Expr → PySem.Expr → Pos → Bool} : xIf t k = true → xIfM k t := @PySem.Expr.casesOn (fun t => xIf t k = true → xIfM k t) t (fun _ _ _ h => ff h) (fun _ _ _ h => ff h) (fun _ _ _ _ h => ff h) (fun _ _ _ h => ff h) (fun _ _ _ _ h => ff h) (fun a0 a1 a2 a3 h => ⟨a0, a1, a2, a3, rfl, h⟩) (fun _ _ _ h => ff h) (fun _ _ _ h => ff h) (fun _ _ _ _ h => ff h) (fun _ _ _ _ h => ff h) (fun _ _ _ _ _ h => ff h) (fun _ _ _ _ h => ff h) (fun _ _ h => ff h) (fun _ _ h => ff h) (fun _ _ h => ff h) (fun _ _ _ _ h => ff h) (fun _ _ _ _ h => ff h) (fun _ _ _ _ h => ff h) (fun _ _ h => ff h) (fun _ _ _ h => ff h) (fun _ _ _ h => ff h) (fun _ _ _ h => ff h) (fun _ _ h => ff h) (fun _ _ h => ff h) (fun _ _ h => ff h) (fun _ _ _ h => ff h) (fun _ _ _ _ h => ff h)
noncomputable def xAt (t : PySem.Expr) (k : PySem.Expr → Str → Pos → Bool) : Bool := @PySem.Expr.casesOn (fun _ => Bool) t (fun _ _ _ => false) (fun _ _ _ => false) (fun _ _ _ _ => false) (fun _ _ _ => false) (fun _ _ _ _ => false) (fun _ _ _ _ => false) (fun _ _ _ => false) (fun _ _ _ => false) (fun _ _ _ _ => false) (fun _ _ _ _ => false) (fun _ _ _ _ _ => false) (fun _ _ _ _ => false) (fun _ _ => false) (fun _ _ => false) (fun _ _ => false) (fun _ _ _ _ => false) (fun _ _ _ _ => false) (fun _ _ _ _ => false) (fun _ _ => false) (fun _ _ _ => false) (fun a0 a1 a2 => k a0 a1 a2) (fun _ _ _ => false) (fun _ _ => false) (fun _ _ => false) (fun _ _ => false) (fun _ _ _ => false) (fun _ _ _ _ => false)
def xAtM (k : PySem.Expr → Str → Pos → Bool) (t : PySem.Expr) : Prop := ∃ a0 a1 a2, t = .Attribute a0 a1 a2 ∧ k a0 a1 a2 = true
theorem xAt_t {t : PySem.Expr} {k : PySem.Expr → Str → Pos → Bool} : xAt t k = true → xAtM k t := @PySem.Expr.casesOn (fun t => xAt t k = true → xAtM k t) t (fun _ _ _ h => ff h) (fun _ _ _ h => ff h) (fun _ _ _ _ h => ff h) (fun _ _ _ h => ff h) (fun _ _ _ _ h => ff h) (fun _ _ _ _ h => ff h) (fun _ _ _ h => ff h) (fun _ _ _ h => ff h) (fun _ _ _ _ h => ff h) (fun _ _ _ _ h => ff h) (fun _ _ _ _ _ h => ff h) (fun _ _ _ _ h => ff h) (fun _ _ h => ff h) (fun _ _ h => ff h) (fun _ _ h => ff h) (fun _ _ _ _ h => ff h) (fun _ _ _ _ h => ff h) (fun _ _ _ _ h => ff h) (fun _ _ h => ff h) (fun _ _ _ h => ff h) (fun a0 a1 a2 h => ⟨a0, a1, a2, rfl, h⟩) (fun _ _ _ h => ff h) (fun _ _ h => ff h) (fun _ _ h => ff h) (fun _ _ h => ff h) (fun _ _ _ h => ff h) (fun _ _ _ _ h => ff h)
noncomputable def xSub (t : PySem.Expr) (k : PySem.Expr → PySem.Expr → Pos → Bool) : Bool := @PySem.Expr.casesOn (fun _ => Bool) t (fun _ _ _ => false) (fun _ _ _ => false) (fun _ _ _ _ => false) (fun _ _ _ => false) (fun _ _ _ _ => false) (fun _ _ _ _ => false) (fun _ _ _ => false) (fun _ _ _ => false) (fun _ _ _ _ => false) (fun _ _ _ _ => false) (fun _ _ _ _ _ => false) (fun _ _ _ _ => false) (fun _ _ => false) (fun _ _ => false) (fun _ _ => false) (fun _ _ _ _ => false) (fun _ _ _ _ => false) (fun _ _ _ _ => false) (fun _ _ => false) (fun _ _ _ => false) (fun _ _ _ => false) (fun a0 a1 a2 => k a0 a1 a2) (fun _ _ => false) (fun _ _ => false) (fun _ _ => false) (fun _ _ _ => false) (fun _ _ _ _ => false)
def xSubM (k : PySem.Expr → PySem.Expr → Pos → Bool) (t : PySem.Expr) : Prop := ∃ a0 a1 a2, t = .Subscript a0 a1 a2 ∧ k a0 a1 a2 = true
theorem xSub_t {t : PySem.Expr} {k : PySem.Expr → PySem.Expr → Pos → Bool} : xSub t k = true → xSubM k t := @PySem.Expr.casesOn (fun t => xSub t k = true → xSubM k t) t (fun _ _ _ h => ff h) (fun _ _ _ h => ff h) (fun _ _ _ _ h => ff h) (fun _ _ _ h => ff h) (fun _ _ _ _ h => ff h) (fun _ _ _ _ h => ff h) (fun _ _ _ h => ff h) (fun _ _ _ h => ff h) (fun _ _ _ _ h => ff h) (fun _ _ _ _ h => ff h) (fun _ _ _ _ _ h => ff h) (fun _ _ _ _ h => ff h) (fun _ _ h => ff h) (fun _ _ h => ff h) (fun _ _ h => ff h) (fun _ _ _ _ h => ff h) (fun _ _ _ _ h => ff h) (fun _ _ _ _ h => ff h) (fun _ _ h => ff h) (fun _ _ _ h => ff h) (fun _ _ _ h => ff h) (fun a0 a1 a2 h => ⟨a0, a1, a2, rfl, h⟩) (fun _ _ h => ff h) (fun _ _ h => ff h) (fun _ _ h => ff h) (fun _ _ _ h => ff h) (fun _ _ _ _ h => ff h)
noncomputable def xCall (t : PySem.Expr) (k : PySem.Expr → List PySem.Expr → List PySem.Keyword → Pos → Bool) : Bool := @PySem.Expr.casesOn (fun _ => Bool) t (fun _ _ _ => false) (fun _ _ _ => false) (fun _ _ _ _ => false) (fun _ _ _ => false) (fun _ _ _ _ => false) (fun _ _ _ _ => false) (fun _ _ _ => false) (fun _ _ _ => false) (fun _ _ _ _ => false) (fun _ _ _ _ => false) (fun _ _ _ _ _ => false) (fun _ _ _ _ => false) (fun _ _ => false) (fun _ _ => false) (fun _ _ => false) (fun _ _ _ _ => false) (fun a0 a1 a2 a3 => k a0 a1 a2 a3) (fun _ _ _ _ => false) (fun _ _ => false) (fun _ _ _ => false) (fun _ _ _ => false) (fun _ _ _ => false) (fun _ _ => false) (fun _ _ => false) (fun _ _ => false) (fun _ _ _ => false) (fun _ _ _ _ => false)
def xCallM (k : PySem.Expr → List PySem.Expr → List PySem.Keyword → Pos → Bool) (t : PySem.Expr) : Prop := ∃ a0 a1 a2 a3, t = .Call a0 a1 a2 a3 ∧ k a0 a1 a2 a3 = true
theorem xCall_t {t : PySem.Expr} {k : PySem.Expr → List PySem.Expr → List PySem.Keyword → Pos → Bool} : xCall t k = true → xCallM k t := @PySem.Expr.casesOn (fun t => xCall t k = true → xCallM k t) t (fun _ _ _ h => ff h) (fun _ _ _ h => ff h) (fun _ _ _ _ h => ff h) (fun _ _ _ h => ff h) (fun _ _ _ _ h => ff h) (fun _ _ _ _ h => ff h) (fun _ _ _ h => ff h) (fun _ _ _ h => ff h) (fun _ _ _ _ h => ff h) (fun _ _ _ _ h => ff h) (fun _ _ _ _ _ h => ff h) (fun _ _ _ _ h => ff h) (fun _ _ h => ff h) (fun _ _ h => ff h) (fun _ _ h => ff h) (fun _ _ _ _ h => ff h) (fun a0 a1 a2 a3 h => ⟨a0, a1, a2, a3, rfl, h⟩) (fun _ _ _ _ h => ff h) (fun _ _ h => ff h) (fun _ _ _ h => ff h) (fun _ _ _ h => ff h) (fun _ _ _ h => ff h) (fun _ _ h => ff h) (fun _ _ h => ff h) (fun _ _ h => ff h) (fun _ _ _ h => ff h) (fun _ _ _ _ h => ff h)
noncomputable def xList (t : PySem.Expr) (k : List PySem.Expr → Pos → Bool) : Bool := @PySem.Expr.casesOn (fun _ => Bool) t (fun _ _ _ => false) (fun _ _ _ => false) (fun _ _ _ _ => false) (fun _ _ _ => false) (fun _ _ _ _ => false) (fun _ _ _ _ => false) (fun _ _ _ => false) (fun _ _ _ => false) (fun _ _ _ _ => false) (fun _ _ _ _ => false) (fun _ _ _ _ _ => false) (fun _ _ _ _ => false) (fun _ _ => false) (fun _ _ => false) (fun _ _ => false) (fun _ _ _ _ => false) (fun _ _ _ _ => false) (fun _ _ _ _ => false) (fun _ _ => false) (fun _ _ _ => false) (fun _ _ _ => false) (fun _ _ _ => false) (fun _ _ => false) (fun _ _ => false) (fun a0 a1 => k a0 a1) (fun _ _ _ => false) (fun _ _ _ _ => false)
def xListM (k : List PySem.Expr → Pos → Bool) (t : PySem.Expr) : Prop := ∃ a0 a1, t = .List a0 a1 ∧ k a0 a1 = true
theorem xList_t {t : PySem.Expr} {k : List PySem.Expr → Pos → Bool} : xList t k = true → xListM k t := @PySem.Expr.casesOn (fun t => xList t k = true → xListM k t) t (fun _ _ _ h => ff h) (fun _ _ _ h => ff h) (fun _ _ _ _ h => ff h) (fun _ _ _ h => ff h) (fun _ _ _ _ h => ff h) (fun _ _ _ _ h => ff h) (fun _ _ _ h => ff h) (fun _ _ _ h => ff h) (fun _ _ _ _ h => ff h) (fun _ _ _ _ h => ff h) (fun _ _ _ _ _ h => ff h) (fun _ _ _ _ h => ff h) (fun _ _ h => ff h) (fun _ _ h => ff h) (fun _ _ h => ff h) (fun _ _ _ _ h => ff h) (fun _ _ _ _ h => ff h) (fun _ _ _ _ h => ff h) (fun _ _ h => ff h) (fun _ _ _ h => ff h) (fun _ _ _ h => ff h) (fun _ _ _ h => ff h) (fun _ _ h => ff h) (fun _ _ h => ff h) (fun a0 a1 h => ⟨a0, a1, rfl, h⟩) (fun _ _ _ h => ff h) (fun _ _ _ _ h => ff h)
noncomputable def xTup (t : PySem.Expr) (k : List PySem.Expr → Nat → Pos → Bool) : Bool := @PySem.Expr.casesOn (fun _ => Bool) t (fun _ _ _ => false) (fun _ _ _ => false) (fun _ _ _ _ => false) (fun _ _ _ => false) (fun _ _ _ _ => false) (fun _ _ _ _ => false) (fun _ _ _ => false) (fun _ _ _ => false) (fun _ _ _ _ => false) (fun _ _ _ _ => false) (fun _ _ _ _ _ => false) (fun _ _ _ _ => false) (fun _ _ => false) (fun _ _ => false) (fun _ _ => false) (fun _ _ _ _ => false) (fun _ _ _ _ => false) (fun _ _ _ _ => false) (fun _ _ => false) (fun _ _ _ => false) (fun _ _ _ => false) (fun _ _ _ => false) (fun _ _ => false) (fun _ _ => false) (fun _ _ => false) (fun a0 a1 a2 => k a0 a1 a2) (fun _ _ _ _ => false)
def xTupM (k : List PySem.Expr → Nat → Pos → Bool) (t : PySem.Expr) : Prop := ∃ a0 a1 a2, t = .Tuple a0 a1 a2 ∧ k a0 a1 a2 = true
theorem xTup_t {t : PySem.Expr} {k : List PySem.Expr → Nat → Pos → Bool} : xTup t k = true → xTupM k t := @PySem.Expr.casesOn (fun t => xTup t k = true → xTupM k t) t (fun _ _ _ h => ff h) (fun _ _ _ h => ff h) (fun _ _ _ _ h => ff h) (fun _ _ _ h => ff h) (fun _ _ _ _ h => ff h) (fun _ _ _ _ h => ff h) (fun _ _ _ h => ff h) (fun _ _ _ h => ff h) (fun _ _ _ _ h => ff h) (fun _ _ _ _ h => ff h) (fun _ _ _ _ _ h => ff h) (fun _ _ _ _ h => ff h) (fun _ _ h => ff h) (fun _ _ h => ff h) (fun _ _ h => ff h) (fun _ _ _ _ h => ff h) (fun _ _ _ _ h => ff h) (fun _ _ _ _ h => ff h) (fun _ _ h => ff h) (fun _ _ _ h => ff h) (fun _ _ _ h => ff h) (fun _ _ _ h => ff h) (fun _ _ h => ff h) (fun _ _ h => ff h) (fun _ _ h => ff h) (fun a0 a1 a2 h => ⟨a0, a1, a2, rfl, h⟩) (fun _ _ _ _ h => ff h)
noncomputable def xComp (t : PySem.Expr) (k : PySem.Expr → List PySem.Comprehension → PySem.Scope → Pos → Bool) : Bool := @PySem.Expr.casesOn (fun _ => Bool) t (fun _ _ _ => false) (fun _ _ _ => false) (fun _ _ _ _ => false) (fun _ _ _ => false) (fun _ _ _ _ => false) (fun _ _ _ _ => false) (fun _ _ _ => false) (fun _ _ _ => false) (fun a0 a1 a2 a3 => k a0 a1 a2 a3) (fun _ _ _ _ => false) (fun _ _ _ _ _ => false) (fun _ _ _ _ => false) (fun _ _ => false) (fun _ _ => false) (fun _ _ => false) (fun _ _ _ _ => false) (fun _ _ _ _ => false) (fun _ _ _ _ => false) (fun _ _ => false) (fun _ _ _ => false) (fun _ _ _ => false) (fun _ _ _ => false) (fun _ _ => false) (fun _ _ => false) (fun _ _ => false) (fun _ _ _ => false) (fun _ _ _ _ => false)
def xCompM (k : PySem.Expr → List PySem.Comprehension → PySem.Scope → Pos → Bool) (t : PySem.Expr) : Prop := ∃ a0 a1 a2 a3, t = .ListComp a0 a1 a2 a3 ∧ k a0 a1 a2 a3 = true
theorem xComp_t {t : PySem.Expr} {k : PySem.Expr → List PySem.Comprehension → PySem.Scope → Pos → Bool} : xComp t k = true → xCompM k t := @PySem.Expr.casesOn (fun t => xComp t k = true → xCompM k t) t (fun _ _ _ h => ff h) (fun _ _ _ h => ff h) (fun _ _ _ _ h => ff h) (fun _ _ _ h => ff h) (fun _ _ _ _ h => ff h) (fun _ _ _ _ h => ff h) (fun _ _ _ h => ff h) (fun _ _ _ h => ff h) (fun a0 a1 a2 a3 h => ⟨a0, a1, a2, a3, rfl, h⟩) (fun _ _ _ _ h => ff h) (fun _ _ _ _ _ h => ff h) (fun _ _ _ _ h => ff h) (fun _ _ h => ff h) (fun _ _ h => ff h) (fun _ _ h => ff h) (fun _ _ _ _ h => ff h) (fun _ _ _ _ h => ff h) (fun _ _ _ _ h => ff h) (fun _ _ h => ff h) (fun _ _ _ h => ff h) (fun _ _ _ h => ff h) (fun _ _ _ h => ff h) (fun _ _ h => ff h) (fun _ _ h => ff h) (fun _ _ h => ff h) (fun _ _ _ h => ff h) (fun _ _ _ _ h => ff h)
noncomputable def sAssign (t : PySem.Stmt) (k : List PySem.Expr → PySem.Expr → Pos → Bool) : Bool := @PySem.Stmt.casesOn (fun _ => Bool) t (fun _ _ _ _ _ _ _ _ _ _ => false) (fun _ _ _ _ _ _ _ _ _ _ => false) (fun _ _ _ _ _ _ _ _ _ _ _ => false) (fun _ _ => false) (fun _ _ => false) (fun a0 a1 a2 => k a0 a1 a2) (fun _ _ _ _ _ _ _ => false) (fun _ _ _ _ => false) (fun _ _ _ _ _ => false) (fun _ _ _ _ _ => false) (fun _ _ _ _ _ => false) (fun _ _ _ _ => false) (fun _ _ _ _ => false) (fun _ _ _ => false) (fun _ _ _ => false) (fun _ _ _ => false) (fun _ _ _ => false) (fun _ _ _ _ _ => false) (fun _ _ _ _ _ => false) (fun _ _ _ => false) (fun _ _ => false) (fun _ _ _ _ => false) (fun _ _ => false) (fun _ _ => false) (fun _ _ => false) (fun _ => false) (fun _ => false) (fun _ => false)
def sAssignM (k : List PySem.Expr → PySem.Expr → Pos → Bool) (t : PySem.Stmt) : Prop := ∃ a0 a1 a2, t = .Assign a0 a1 a2 ∧ k a0 a1 a2 = true
theorem sAssign_t {t : PySem.Stmt} {k : List PySem.Expr → PySem.Expr → Pos → Bool} : sAssign t k = true → sAssignM k t := @PySem.Stmt.casesOn (fun t => sAssign t k = true → sAssignM k t) t (fun _ _ _ _ _ _ _ _ _ _ h => ff h) (fun _ _ _ _ _ _ _ _ _ _ h => ff h) (fun _ _ _ _ _ _ _ _ _ _ _ h => ff h) (fun _ _ h => ff h) (fun _ _ h => ff h) (fun a0 a1 a2 h => ⟨a0, a1, a2, rfl, h⟩) (fun _ _ _ _ _ _ _ h => ff h) (fun _ _ _ _ h => ff h) (fun _ _ _ _ _ h => ff h) (fun _ _ _ _ _ h => ff h) (fun _ _ _ _ _ h => ff h) (fun _ _ _ _ h => ff h) (fun _ _ _ _ h => ff h) (fun _ _ _ h => ff h) (fun _ _ _ h => ff h) (fun _ _ _ h => ff h) (fun _ _ _ h => ff h) (fun _ _ _ _ _ h => ff h) (fun _ _ _ _ _ h => ff h) (fun _ _ _ h => ff h) (fun _ _ h => ff h) (fun _ _ _ _ h => ff h) (fun _ _ h => ff h) (fun _ _ h => ff h) (fun _ _ h => ff h) (fun _ h => ff h) (fun _ h => ff h) (fun _ h => ff h)
noncomputable def sAug (t : PySem.Stmt) (k : PySem.Expr → Operator → PySem.Expr → Pos → Bool) : Bool := @PySem.Stmt.casesOn (fun _ => Bool) t (fun _ _ _ _ _ _ _ _ _ _ => false) (fun _ _ _ _ _ _ _ _ _ _ => false) (fun _ _ _ _ _ _ _ _ _ _ _ => false) (fun _ _ => false) (fun _ _ => false) (fun _ _ _ => false) (fun _ _ _ _ _ _ _ => false) (fun a0 a1 a2 a3 => k a0 a1 a2 a3) (fun _ _ _ _ _ => false) (fun _ _ _ _ _ => false) (fun _ _ _ _ _ => false) (fun _ _ _ _ => false) (fun _ _ _ _ => false) (fun _ _ _ => false) (fun _ _ _ => false) (fun _ _ _ => false) (fun _ _ _ => false) (fun _ _ _ _ _ => false) (fun _ _ _ _ _ => false) (fun _ _ _ => false) (fun _ _ => false) (fun _ _ _ _ => false) (fun _ _ => false) (fun _ _ => false) (fun _ _ => false) (fun _ => false) (fun _ => false) (fun _ => false)
def sAugM (k : PySem.Expr → Operator → PySem.Expr → Pos → Bool) (t : PySem.Stmt) : Prop := ∃ a0 a1 a2 a3, t = .AugAssign a0 a1 a2 a3 ∧ k a0 a1 a2 a3 = true
theorem sAug_t {t : PySem.Stmt} {k : PySem.Expr → Operator → PySem.Expr → Pos → Bool} : sAug t k = true → sAugM k t := @PySem.Stmt.casesOn (fun t => sAug t k = true → sAugM k t) t (fun _ _ _ _ _ _ _ _ _ _ h => ff h) (fun _ _ _ _ _ _ _ _ _ _ h => ff h) (fun _ _ _ _ _ _ _ _ _ _ _ h => ff h) (fun _ _ h => ff h) (fun _ _ h => ff h) (fun _ _ _ h => ff h) (fun _ _ _ _ _ _ _ h => ff h) (fun a0 a1 a2 a3 h => ⟨a0, a1, a2, a3, rfl, h⟩) (fun _ _ _ _ _ h => ff h) (fun _ _ _ _ _ h => ff h) (fun _ _ _ _ _ h => ff h) (fun _ _ _ _ h => ff h) (fun _ _ _ _ h => ff h) (fun _ _ _ h => ff h) (fun _ _ _ h => ff h) (fun _ _ _ h => ff h) (fun _ _ _ h => ff h) (fun _ _ _ _ _ h => ff h) (fun _ _ _ _ _ h => ff h) (fun _ _ _ h => ff h) (fun _ _ h => ff h) (fun _ _ _ _ h => ff h) (fun _ _ h => ff h) (fun _ _ h => ff h) (fun _ _ h => ff h) (fun _ h => ff h) (fun _ h => ff h) (fun _ h => ff h)
noncomputable def sIf (t : PySem.Stmt) (k : PySem.Expr → List PySem.Stmt → List PySem.Stmt → Pos → Bool) : Bool := @PySem.Stmt.casesOn (fun _ => Bool) t (fun _ _ _ _ _ _ _ _ _ _ => false) (fun _ _ _ _ _ _ _ _ _ _ => false) (fun _ _ _ _ _ _ _ _ _ _ _ => false) (fun _ _ => false) (fun _ _ => false) (fun _ _ _ => false) (fun _ _ _ _ _ _ _ => false) (fun _ _ _ _ => false) (fun _ _ _ _ _ => false) (fun _ _ _ _ _ => false) (fun _ _ _ _ _ => false) (fun _ _ _ _ => false) (fun a0 a1 a2 a3 => k a0 a1 a2 a3) (fun _ _ _ => false) (fun _ _ _ => false) (fun _ _ _ => false) (fun _ _ _ => false) (fun _ _ _ _ _ => false) (fun _ _ _ _ _ => false) (fun _ _ _ => false) (fun _ _ => false) (fun _ _ _ _ => false) (fun _ _ => false) (fun _ _ => false) (fun _ _ => false) (fun _ => false) (fun _ => false) (fun _ => false)
def sIfM (k : PySem.Expr → List PySem.Stmt → List PySem.Stmt → Pos → Bool) (t : PySem.Stmt) : Prop := ∃ a0 a1 a2 a3, t = .If a0 a1 a2 a3 ∧ k a0 a1 a2 a3 = true
theorem sIf_t {t : PySem.Stmt} {k : PySem.Expr → List PySem.Stmt → List PySem.Stmt → Pos → Bool} : sIf t k = true → sIfM k t := @PySem.Stmt.casesOn (fun t => sIf t k = true → sIfM k t) t (fun _ _ _ _ _ _ _ _ _ _ h => ff h) (fun _ _ _ _ _ _ _ _ _ _ h => ff h) (fun _ _ _ _ _ _ _ _ _ _ _ h => ff h) (fun _ _ h => ff h) (fun _ _ h => ff h) (fun _ _ _ h => ff h) (fun _ _ _ _ _ _ _ h => ff h) (fun _ _ _ _ h => ff h) (fun _ _ _ _ _ h => ff h) (fun _ _ _ _ _ h => ff h) (fun _ _ _ _ _ h => ff h) (fun _ _ _ _ h => ff h) (fun a0 a1 a2 a3 h => ⟨a0, a1, a2, a3, rfl, h⟩) (fun _ _ _ h => ff h) (fun _ _ _ h => ff h) (fun _ _ _ h => ff h) (fun _ _ _ h => ff h) (fun _ _ _ _ _ h => ff h) (fun _ _ _ _ _ h => ff h) (fun _ _ _ h => ff h) (fun _ _ h => ff h) (fun _ _ _ _ h => ff h) (fun _ _ h => ff h) (fun _ _ h => ff h) (fun _ _ h => ff h) (fun _ h => ff h) (fun _ h => ff h) (fun _ h => ff h)
noncomputable def sWhile (t : PySem.Stmt) (k : PySem.Expr → List PySem.Stmt → List PySem.Stmt → Pos → Bool) : Bool := @PySem.Stmt.casesOn (fun _ => Bool) t (fun _ _ _ _ _ _ _ _ _ _ => false) (fun _ _ _ _ _ _ _ _ _ _ => false) (fun _ _ _ _ _ _ _ _ _ _ _ => false) (fun _ _ => false) (fun _ _ => false) (fun _ _ _ => false) (fun _ _ _ _ _ _ _ => false) (fun _ _ _ _ => false) (fun _ _ _ _ _ => false) (fun _ _ _ _ _ => false) (fun _ _ _ _ _ => false) (fun a0 a1 a2 a3 => k a0 a1 a2 a3) (fun _ _ _ _ => false) (fun _ _ _ => false) (fun _ _ _ => false) (fun _ _ _ => false) (fun _ _ _ => false) (fun _ _ _ _ _ => false) (fun _ _ _ _ _ => false) (fun _ _ _ => false) (fun _ _ => false) (fun _ _ _ _ => false) (fun _ _ => false) (fun _ _ => false) (fun _ _ => false) (fun _ => false) (fun _ => false) (fun _ => false)
def sWhileM (k : PySem.Expr → List PySem.Stmt → List PySem.Stmt → Pos → Bool) (t : PySem.Stmt) : Prop := ∃ a0 a1 a2 a3, t = .While a0 a1 a2 a3 ∧ k a0 a1 a2 a3 = true
theorem sWhile_t {t : PySem.Stmt} {k : PySem.Expr → List PySem.Stmt → List PySem.Stmt → Pos → Bool} : sWhile t k = true → sWhileM k t := @PySem.Stmt.casesOn (fun t => sWhile t k = true → sWhileM k t) t (fun _ _ _ _ _ _ _ _ _ _ h => ff h) (fun _ _ _ _ _ _ _ _ _ _ h => ff h) (fun _ _ _ _ _ _ _ _ _ _ _ h => ff h) (fun _ _ h => ff h) (fun _ _ h => ff h) (fun _ _ _ h => ff h) (fun _ _ _ _ _ _ _ h => ff h) (fun _ _ _ _ h => ff h) (fun _ _ _ _ _ h => ff h) (fun _ _ _ _ _ h => ff h) (fun _ _ _ _ _ h => ff h) (fun a0 a1 a2 a3 h => ⟨a0, a1, a2, a3, rfl, h⟩) (fun _ _ _ _ h => ff h) (fun _ _ _ h => ff h) (fun _ _ _ h => ff h) (fun _ _ _ h => ff h) (fun _ _ _ h => ff h) (fun _ _ _ _ _ h => ff h) (fun _ _ _ _ _ h => ff h) (fun _ _ _ h => ff h) (fun _ _ h => ff h) (fun _ _ _ _ h => ff h) (fun _ _ h => ff h) (fun _ _ h => ff h) (fun _ _ h => ff h) (fun _ h => ff h) (fun _ h => ff h) (fun _ h => ff h)
noncomputable def sFor (t : PySem.Stmt) (k : PySem.Expr → PySem.Expr → List PySem.Stmt → List PySem.Stmt → Pos → Bool) : Bool := @PySem.Stmt.casesOn (fun _ => Bool) t (fun _ _ _ _ _ _ _ _ _ _ => false) (fun _ _ _ _ _ _ _ _ _ _ => false) (fun _ _ _ _ _ _ _ _ _ _ _ => false) (fun _ _ => false) (fun _ _ => false) (fun _ _ _ => false) (fun _ _ _ _ _ _ _ => false) (fun _ _ _ _ => false) (fun _ _ _ _ _ => false) (fun a0 a1 a2 a3 a4 => k a0 a1 a2 a3 a4) (fun _ _ _ _ _ => false) (fun _ _ _ _ => false) (fun _ _ _ _ => false) (fun _ _ _ => false) (fun _ _ _ => false) (fun _ _ _ => false) (fun _ _ _ => false) (fun _ _ _ _ _ => false) (fun _ _ _ _ _ => false) (fun _ _ _ => false) (fun _ _ => false) (fun _ _ _ _ => false) (fun _ _ => false) (fun _ _ => false) (fun _ _ => false) (fun _ => false) (fun _ => false) (fun _ => false)
def sForM (k : PySem.Expr → PySem.Expr → List PySem.Stmt → List PySem.Stmt → Pos → Bool) (t : PySem.Stmt) : Prop := ∃ a0 a1 a2 a3 a4, t = .For a0 a1 a2 a3 a4 ∧ k a0 a1 a2 a3 a4 = true
theorem sFor_t {t : PySem.Stmt} {k : PySem.Expr → PySem.Expr → List PySem.Stmt → List PySem.Stmt → Pos → Bool} : sFor t k = true → sForM k t := @PySem.Stmt.casesOn (fun t => sFor t k = true → sForM k t) t (fun _ _ _ _ _ _ _ _ _ _ h => ff h) (fun _ _ _ _ _ _ _ _ _ _ h => ff h) (fun _ _ _ _ _ _ _ _ _ _ _ h => ff h) (fun _ _ h => ff h) (fun _ _ h => ff h) (fun _ _ _ h => ff h) (fun _ _ _ _ _ _ _ h => ff h) (fun _ _ _ _ h => ff h) (fun _ _ _ _ _ h => ff h) (fun a0 a1 a2 a3 a4 h => ⟨a0, a1, a2, a3, a4, rfl, h⟩) (fun _ _ _ _ _ h => ff h) (fun _ _ _ _ h => ff h) (fun _ _ _ _ h => ff h) (fun _ _ _ h => ff h) (fun _ _ _ h => ff h) (fun _ _ _ h => ff h) (fun _ _ _ h => ff h) (fun _ _ _ _ _ h => ff h) (fun _ _ _ _ _ h => ff h) (fun _ _ _ h => ff h) (fun _ _ h => ff h) (fun _ _ _ _ h => ff h) (fun _ _ h => ff h) (fun _ _ h => ff h) (fun _ _ h => ff h) (fun _ h => ff h) (fun _ h => ff h) (fun _ h => ff h)
noncomputable def sRet (t : PySem.Stmt) (k : Option PySem.Expr → Pos → Bool) : Bool := @PySem.Stmt.casesOn (fun _ => Bool) t (fun _ _ _ _ _ _ _ _ _ _ => false) (fun _ _ _ _ _ _ _ _ _ _ => false) (fun _ _ _ _ _ _ _ _ _ _ _ => false) (fun a0 a1 => k a0 a1) (fun _ _ => false) (fun _ _ _ => false) (fun _ _ _ _ _ _ _ => false) (fun _ _ _ _ => false) (fun _ _ _ _ _ => false) (fun _ _ _ _ _ => false) (fun _ _ _ _ _ => false) (fun _ _ _ _ => false) (fun _ _ _ _ => false) (fun _ _ _ => false) (fun _ _ _ => false) (fun _ _ _ => false) (fun _ _ _ => false) (fun _ _ _ _ _ => false) (fun _ _ _ _ _ => false) (fun _ _ _ => false) (fun _ _ => false) (fun _ _ _ _ => false) (fun _ _ => false) (fun _ _ => false) (fun _ _ => false) (fun _ => false) (fun _ => false) (fun _ => false)
def sRetM (k : Option PySem.Expr → Pos → Bool) (t : PySem.Stmt) : Prop := ∃ a0 a1, t = .Return a0 a1 ∧ k a0 a1 = true
theorem sRet_t {t : PySem.Stmt} {k : Option PySem.Expr → Pos → Bool} : sRet t k = true → sRetM k t := @PySem.Stmt.casesOn (fun t => sRet t k = true → sRetM k t) t (fun _ _ _ _ _ _ _ _ _ _ h => ff h) (fun _ _ _ _ _ _ _ _ _ _ h => ff h) (fun _ _ _ _ _ _ _ _ _ _ _ h => ff h) (fun a0 a1 h => ⟨a0, a1, rfl, h⟩) (fun _ _ h => ff h) (fun _ _ _ h => ff h) (fun _ _ _ _ _ _ _ h => ff h) (fun _ _ _ _ h => ff h) (fun _ _ _ _ _ h => ff h) (fun _ _ _ _ _ h => ff h) (fun _ _ _ _ _ h => ff h) (fun _ _ _ _ h => ff h) (fun _ _ _ _ h => ff h) (fun _ _ _ h => ff h) (fun _ _ _ h => ff h) (fun _ _ _ h => ff h) (fun _ _ _ h => ff h) (fun _ _ _ _ _ h => ff h) (fun _ _ _ _ _ h => ff h) (fun _ _ _ h => ff h) (fun _ _ h => ff h) (fun _ _ _ _ h => ff h) (fun _ _ h => ff h) (fun _ _ h => ff h) (fun _ _ h => ff h) (fun _ h => ff h) (fun _ h => ff h) (fun _ h => ff h)
noncomputable def sExpr (t : PySem.Stmt) (k : PySem.Expr → Pos → Bool) : Bool := @PySem.Stmt.casesOn (fun _ => Bool) t (fun _ _ _ _ _ _ _ _ _ _ => false) (fun _ _ _ _ _ _ _ _ _ _ => false) (fun _ _ _ _ _ _ _ _ _ _ _ => false) (fun _ _ => false) (fun _ _ => false) (fun _ _ _ => false) (fun _ _ _ _ _ _ _ => false) (fun _ _ _ _ => false) (fun _ _ _ _ _ => false) (fun _ _ _ _ _ => false) (fun _ _ _ _ _ => false) (fun _ _ _ _ => false) (fun _ _ _ _ => false) (fun _ _ _ => false) (fun _ _ _ => false) (fun _ _ _ => false) (fun _ _ _ => false) (fun _ _ _ _ _ => false) (fun _ _ _ _ _ => false) (fun _ _ _ => false) (fun _ _ => false) (fun _ _ _ _ => false) (fun _ _ => false) (fun _ _ => false) (fun a0 a1 => k a0 a1) (fun _ => false) (fun _ => false) (fun _ => false)
def sExprM (k : PySem.Expr → Pos → Bool) (t : PySem.Stmt) : Prop := ∃ a0 a1, t = .Expr a0 a1 ∧ k a0 a1 = true
theorem sExpr_t {t : PySem.Stmt} {k : PySem.Expr → Pos → Bool} : sExpr t k = true → sExprM k t := @PySem.Stmt.casesOn (fun t => sExpr t k = true → sExprM k t) t (fun _ _ _ _ _ _ _ _ _ _ h => ff h) (fun _ _ _ _ _ _ _ _ _ _ h => ff h) (fun _ _ _ _ _ _ _ _ _ _ _ h => ff h) (fun _ _ h => ff h) (fun _ _ h => ff h) (fun _ _ _ h => ff h) (fun _ _ _ _ _ _ _ h => ff h) (fun _ _ _ _ h => ff h) (fun _ _ _ _ _ h => ff h) (fun _ _ _ _ _ h => ff h) (fun _ _ _ _ _ h => ff h) (fun _ _ _ _ h => ff h) (fun _ _ _ _ h => ff h) (fun _ _ _ h => ff h) (fun _ _ _ h => ff h) (fun _ _ _ h => ff h) (fun _ _ _ h => ff h) (fun _ _ _ _ _ h => ff h) (fun _ _ _ _ _ h => ff h) (fun _ _ _ h => ff h) (fun _ _ h => ff h) (fun _ _ _ _ h => ff h) (fun _ _ h => ff h) (fun _ _ h => ff h) (fun a0 a1 h => ⟨a0, a1, rfl, h⟩) (fun _ h => ff h) (fun _ h => ff h) (fun _ h => ff h)
noncomputable def sRaise (t : PySem.Stmt) (k : Option PySem.Expr → Option PySem.Expr → Pos → Bool) : Bool := @PySem.Stmt.casesOn (fun _ => Bool) t (fun _ _ _ _ _ _ _ _ _ _ => false) (fun _ _ _ _ _ _ _ _ _ _ => false) (fun _ _ _ _ _ _ _ _ _ _ _ => false) (fun _ _ => false) (fun _ _ => false) (fun _ _ _ => false) (fun _ _ _ _ _ _ _ => false) (fun _ _ _ _ => false) (fun _ _ _ _ _ => false) (fun _ _ _ _ _ => false) (fun _ _ _ _ _ => false) (fun _ _ _ _ => false) (fun _ _ _ _ => false) (fun _ _ _ => false) (fun _ _ _ => false) (fun _ _ _ => false) (fun a0 a1 a2 => k a0 a1 a2) (fun _ _ _ _ _ => false) (fun _ _ _ _ _ => false) (fun _ _ _ => false) (fun _ _ => false) (fun _ _ _ _ => false) (fun _ _ => false) (fun _ _ => false) (fun _ _ => false) (fun _ => false) (fun _ => false) (fun _ => false)
def sRaiseM (k : Option PySem.Expr → Option PySem.Expr → Pos → Bool) (t : PySem.Stmt) : Prop := ∃ a0 a1 a2, t = .Raise a0 a1 a2 ∧ k a0 a1 a2 = true
theorem sRaise_t {t : PySem.Stmt} {k : Option PySem.Expr → Option PySem.Expr → Pos → Bool} : sRaise t k = true → sRaiseM k t := @PySem.Stmt.casesOn (fun t => sRaise t k = true → sRaiseM k t) t (fun _ _ _ _ _ _ _ _ _ _ h => ff h) (fun _ _ _ _ _ _ _ _ _ _ h => ff h) (fun _ _ _ _ _ _ _ _ _ _ _ h => ff h) (fun _ _ h => ff h) (fun _ _ h => ff h) (fun _ _ _ h => ff h) (fun _ _ _ _ _ _ _ h => ff h) (fun _ _ _ _ h => ff h) (fun _ _ _ _ _ h => ff h) (fun _ _ _ _ _ h => ff h) (fun _ _ _ _ _ h => ff h) (fun _ _ _ _ h => ff h) (fun _ _ _ _ h => ff h) (fun _ _ _ h => ff h) (fun _ _ _ h => ff h) (fun _ _ _ h => ff h) (fun a0 a1 a2 h => ⟨a0, a1, a2, rfl, h⟩) (fun _ _ _ _ _ h => ff h) (fun _ _ _ _ _ h => ff h) (fun _ _ _ h => ff h) (fun _ _ h => ff h) (fun _ _ _ _ h => ff h) (fun _ _ h => ff h) (fun _ _ h => ff h) (fun _ _ h => ff h) (fun _ h => ff h) (fun _ h => ff h) (fun _ h => ff h)
noncomputable def eLoc (t : E) (k : Nat → Bool) : Bool := @E.casesOn (fun _ => Bool) t (fun a0 => k a0) (fun _ => false) (fun _ => false) false (fun _ => false) (fun _ _ _ => false) (fun _ _ => false) (fun _ _ _ => false) (fun _ _ _ _ _ => false) (fun _ _ => false) (fun _ _ _ => false) (fun _ _ => false) (fun _ _ _ => false) (fun _ _ _ _ => false) (fun _ _ _ => false) (fun _ _ => false) (fun _ _ => false) (fun _ _ => false) (fun _ _ => false) (fun _ _ => false) (fun _ => false) (fun _ => false) (fun _ _ _ => false) (fun _ => false) (fun _ => false) (fun _ => false) (fun _ _ _ => false) (fun _ _ _ => false) (fun _ => false)
def eLocM (k : Nat → Bool) (t : E) : Prop := ∃ a0, t = .loc a0 ∧ k a0 = true
theorem eLoc_t {t : E} {k : Nat → Bool} : eLoc t k = true → eLocM k t := @E.casesOn (fun t => eLoc t k = true → eLocM k t) t (fun a0 h => ⟨a0, rfl, h⟩) (fun _ h => ff h) (fun _ h => ff h) (fun h => ff h) (fun _ h => ff h) (fun _ _ _ h => ff h) (fun _ _ h => ff h) (fun _ _ _ h => ff h) (fun _ _ _ _ _ h => ff h) (fun _ _ h => ff h) (fun _ _ _ h => ff h) (fun _ _ h => ff h) (fun _ _ _ h => ff h) (fun _ _ _ _ h => ff h) (fun _ _ _ h => ff h) (fun _ _ h => ff h) (fun _ _ h => ff h) (fun _ _ h => ff h) (fun _ _ h => ff h) (fun _ _ h => ff h) (fun _ h => ff h) (fun _ h => ff h) (fun _ _ _ h => ff h) (fun _ h => ff h) (fun _ h => ff h) (fun _ h => ff h) (fun _ _ _ h => ff h) (fun _ _ _ h => ff h) (fun _ h => ff h)
noncomputable def eBin (t : E) (k : Operator → E → E → Bool) : Bool := @E.casesOn (fun _ => Bool) t (fun _ => false) (fun _ => false) (fun _ => false) false (fun _ => false) (fun a0 a1 a2 => k a0 a1 a2) (fun _ _ => false) (fun _ _ _ => false) (fun _ _ _ _ _ => false) (fun _ _ => false) (fun _ _ _ => false) (fun _ _ => false) (fun _ _ _ => false) (fun _ _ _ _ => false) (fun _ _ _ => false) (fun _ _ => false) (fun _ _ => false) (fun _ _ => false) (fun _ _ => false) (fun _ _ => false) (fun _ => false) (fun _ => false) (fun _ _ _ => false) (fun _ => false) (fun _ => false) (fun _ => false) (fun _ _ _ => false) (fun _ _ _ => false) (fun _ => false)
def eBinM (k : Operator → E → E → Bool) (t : E) : Prop := ∃ a0 a1 a2, t = .bin a0 a1 a2 ∧ k a0 a1 a2 = true
theorem eBin_t {t : E} {k : Operator → E → E → Bool} : eBin t k = true → eBinM k t := @E.casesOn (fun t => eBin t k = true → eBinM k t) t (fun _ h => ff h) (fun _ h => ff h) (fun _ h => ff h) (fun h => ff h) (fun _ h => ff h) (fun a0 a1 a2 h => ⟨a0, a1, a2, rfl, h⟩) (fun _ _ h => ff h) (fun _ _ _ h => ff h) (fun _ _ _ _ _ h => ff h) (fun _ _ h => ff h) (fun _ _ _ h => ff h) (fun _ _ h => ff h) (fun _ _ _ h => ff h) (fun _ _ _ _ h => ff h) (fun _ _ _ h => ff h) (fun _ _ h => ff h) (fun _ _ h => ff h) (fun _ _ h => ff h) (fun _ _ h => ff h) (fun _ _ h => ff h) (fun _ h => ff h) (fun _ h => ff h) (fun _ _ _ h => ff h) (fun _ h => ff h) (fun _ h => ff h) (fun _ h => ff h) (fun _ _ _ h => ff h) (fun _ _ _ h => ff h) (fun _ h => ff h)
noncomputable def eCmp (t : E) (k : CmpOp → E → E → Bool) : Bool := @E.casesOn (fun _ => Bool) t (fun _ => false) (fun _ => false) (fun _ => false) false (fun _ => false) (fun _ _ _ => false) (fun _ _ => false) (fun a0 a1 a2 => k a0 a1 a2) (fun _ _ _ _ _ => false) (fun _ _ => false) (fun _ _ _ => false) (fun _ _ => false) (fun _ _ _ => false) (fun _ _ _ _ => false) (fun _ _ _ => false) (fun _ _ => false) (fun _ _ => false) (fun _ _ => false) (fun _ _ => false) (fun _ _ => false) (fun _ => false) (fun _ => false) (fun _ _ _ => false) (fun _ => false) (fun _ => false) (fun _ => false) (fun _ _ _ => false) (fun _ _ _ => false) (fun _ => false)
def eCmpM (k : CmpOp → E → E → Bool) (t : E) : Prop := ∃ a0 a1 a2, t = .cmp a0 a1 a2 ∧ k a0 a1 a2 = true
theorem eCmp_t {t : E} {k : CmpOp → E → E → Bool} : eCmp t k = true → eCmpM k t := @E.casesOn (fun t => eCmp t k = true → eCmpM k t) t (fun _ h => ff h) (fun _ h => ff h) (fun _ h => ff h) (fun h => ff h) (fun _ h => ff h) (fun _ _ _ h => ff h) (fun _ _ h => ff h) (fun a0 a1 a2 h => ⟨a0, a1, a2, rfl, h⟩) (fun _ _ _ _ _ h => ff h) (fun _ _ h => ff h) (fun _ _ _ h => ff h) (fun _ _ h => ff h) (fun _ _ _ h => ff h) (fun _ _ _ _ h => ff h) (fun _ _ _ h => ff h) (fun _ _ h => ff h) (fun _ _ h => ff h) (fun _ _ h => ff h) (fun _ _ h => ff h) (fun _ _ h => ff h) (fun _ h => ff h) (fun _ h => ff h) (fun _ _ _ h => ff h) (fun _ h => ff h) (fun _ h => ff h) (fun _ h => ff h) (fun _ _ _ h => ff h) (fun _ _ _ h => ff h) (fun _ h => ff h)
noncomputable def eCR (t : E) (k : E → Nat → E → Bool) : Bool := @E.casesOn (fun _ => Bool) t (fun _ => false) (fun _ => false) (fun _ => false) false (fun _ => false) (fun _ _ _ => false) (fun _ _ => false) (fun _ _ _ => false) (fun _ _ _ _ _ => false) (fun _ _ => false) (fun _ _ _ => false) (fun _ _ => false) (fun _ _ _ => false) (fun _ _ _ _ => false) (fun _ _ _ => false) (fun _ _ => false) (fun _ _ => false) (fun _ _ => false) (fun _ _ => false) (fun _ _ => false) (fun _ => false) (fun _ => false) (fun _ _ _ => false) (fun _ => false) (fun _ => false) (fun _ => false) (fun a0 a1 a2 => k a0 a1 a2) (fun _ _ _ => false) (fun _ => false)
def eCRM (k : E → Nat → E → Bool) (t : E) : Prop := ∃ a0 a1 a2, t = .compR a0 a1 a2 ∧ k a0 a1 a2 = true
theorem eCR_t {t : E} {k : E → Nat → E → Bool} : eCR t k = true → eCRM k t := @E.casesOn (fun t => eCR t k = true → eCRM k t) t (fun _ h => ff h) (fun _ h => ff h) (fun _ h => ff h) (fun h => ff h) (fun _ h => ff h) (fun _ _ _ h => ff h) (fun _ _ h => ff h) (fun _ _ _ h => ff h) (fun _ _ _ _ _ h => ff h) (fun _ _ h => ff h) (fun _ _ _ h => ff h) (fun _ _ h => ff h) (fun _ _ _ h => ff h) (fun _ _ _ _ h => ff h) (fun _ _ _ h => ff h) (fun _ _ h => ff h) (fun _ _ h => ff h) (fun _ _ h => ff h) (fun _ _ h => ff h) (fun _ _ h => ff h) (fun _ h => ff h) (fun _ h => ff h) (fun _ _ _ h => ff h) (fun _ h => ff h) (fun _ h => ff h) (fun _ h => ff h) (fun a0 a1 a2 h => ⟨a0, a1, a2, rfl, h⟩) (fun _ _ _ h => ff h) (fun _ h => ff h)
noncomputable def eCL (t : E) (k : E → Nat → E → Bool) : Bool := @E.casesOn (fun _ => Bool) t (fun _ => false) (fun _ => false) (fun _ => false) false (fun _ => false) (fun _ _ _ => false) (fun _ _ => false) (fun _ _ _ => false) (fun _ _ _ _ _ => false) (fun _ _ => false) (fun _ _ _ => false) (fun _ _ => false) (fun _ _ _ => false) (fun _ _ _ _ => false) (fun _ _ _ => false) (fun _ _ => false) (fun _ _ => false) (fun _ _ => false) (fun _ _ => false) (fun _ _ => false) (fun _ => false) (fun _ => false) (fun _ _ _ => false) (fun _ => false) (fun _ => false) (fun _ => false) (fun _ _ _ => false) (fun a0 a1 a2 => k a0 a1 a2) (fun _ => false)
def eCLM (k : E → Nat → E → Bool) (t : E) : Prop := ∃ a0 a1 a2, t = .compL a0 a1 a2 ∧ k a0 a1 a2 = true
theorem eCL_t {t : E} {k : E → Nat → E → Bool} : eCL t k = true → eCLM k t := @E.casesOn (fun t => eCL t k = true → eCLM k t) t (fun _ h => ff h) (fun _ h => ff h) (fun _ h => ff h) (fun h => ff h) (fun _ h => ff h) (fun _ _ _ h => ff h) (fun _ _ h => ff h) (fun _ _ _ h => ff h) (fun _ _ _ _ _ h => ff h) (fun _ _ h => ff h) (fun _ _ _ h => ff h) (fun _ _ h => ff h) (fun _ _ _ h => ff h) (fun _ _ _ _ h => ff h) (fun _ _ _ h => ff h) (fun _ _ h => ff h) (fun _ _ h => ff h) (fun _ _ h => ff h) (fun _ _ h => ff h) (fun _ _ h => ff h) (fun _ h => ff h) (fun _ h => ff h) (fun _ _ _ h => ff h) (fun _ h => ff h) (fun _ h => ff h) (fun _ h => ff h) (fun _ _ _ h => ff h) (fun a0 a1 a2 h => ⟨a0, a1, a2, rfl, h⟩) (fun _ h => ff h)
/-! the shapes that a checked term may have -/
noncomputable def okSh (t : PySem.Expr) : Bool := @PySem.Expr.casesOn (fun _ => Bool) t (fun _ _ _ => true) (fun _ _ _ => false) (fun _ _ _ _ => true) (fun _ _ _ => true) (fun _ _ _ _ => false) (fun _ _ _ _ => true) (fun _ _ _ => false) (fun _ _ _ => false) (fun _ _ _ _ => true) (fun _ _ _ _ => false) (fun _ _ _ _ _ => false) (fun _ _ _ _ => false) (fun _ _ => false) (fun _ _ => false) (fun _ _ => false) (fun _ _ _ _ => true) (fun _ _ _ _ => true) (fun _ _ _ _ => false) (fun _ _ => false) (fun _ _ _ => true) (fun _ _ _ => true) (fun _ _ _ => true) (fun _ _ => false) (fun _ _ => true) (fun _ _ => true) (fun _ _ _ => true) (fun _ _ _ _ => false)
noncomputable def noLC (t : PySem.Expr) : Bool := @PySem.Expr.casesOn (fun _ => Bool) t (fun _ _ _ => true) (fun _ _ _ => true) (fun _ _ _ _ => true) (fun _ _ _ => true) (fun _ _ _ _ => true) (fun _ _ _ _ => true) (fun _ _ _ => true) (fun _ _ _ => true) (fun _ _ _ _ => false) (fun _ _ _ _ => true) (fun _ _ _ _ _ => true) (fun _ _ _ _ => true) (fun _ _ => true) (fun _ _ => true) (fun _ _ => true) (fun _ _ _ _ => true) (fun _ _ _ _ => true) (fun _ _ _ _ => true) (fun _ _ => true) (fun _ _ _ => true) (fun _ _ _ => true) (fun _ _ _ => true) (fun _ _ => true) (fun _ _ => true) (fun _ _ => true) (fun _ _ _ => true) (fun _ _ _ _ => true)
noncomputable def attrBase (t : E) : Bool := @E.casesOn (fun _ => Bool) t (fun _ => true) (fun _ => false) (fun _ => false) false (fun _ => false) (fun _ _ _ => false) (fun _ _ => false) (fun _ _ _ => false) (fun _ _ _ _ _ => false) (fun _ _ => false) (fun _ _ _ => false) (fun _ _ => false) (fun _ _ _ => false) (fun _ _ _ _ => false) (fun _ _ _ => false) (fun _ _ => true) (fun _ _ => false) (fun _ _ => false) (fun _ _ => false) (fun _ _ => false) (fun _ => false) (fun _ => false) (fun _ _ _ => false) (fun _ => false) (fun _ => false) (fun _ => false) (fun _ _ _ => false) (fun _ _ _ => false) (fun _ => false)
noncomputable def methBase (t : E) : Bool := @E.casesOn (fun _ => Bool) t (fun _ => true) (fun _ => false) (fun _ => false) false (fun _ => false) (fun _ _ _ => false) (fun _ _ => false) (fun _ _ _ => false) (fun _ _ _ _ _ => false) (fun _ _ => false) (fun _ _ _ => false) (fun _ _ => false) (fun _ _ _ => false) (fun _ _ _ _ => false) (fun _ _ _ => false) (fun _ _ => true) (fun _ _ => true) (fun _ _ => false) (fun _ _ => false) (fun _ _ => false) (fun _ => false) (fun _ => false) (fun _ _ _ => false) (fun _ => false) (fun _ => false) (fun _ => false) (fun _ _ _ => false) (fun _ _ _ => false) (fun _ => false)
noncomputable def noComp (t : E) : Bool := @E.casesOn (fun _ => Bool) t (fun _ => true) (fun _ => true) (fun _ => true) true (fun _ => true) (fun _ _ _ => true) (fun _ _ => true) (fun _ _ _ => true) (fun _ _ _ _ _ => true) (fun _ _ => true) (fun _ _ _ => true) (fun _ _ => true) (fun _ _ _ => true) (fun _ _ _ _ => true) (fun _ _ _ => true) (fun _ _ => true) (fun _ _ => true) (fun _ _ => true) (fun _ _ => true) (fun _ _ => true) (fun _ => true) (fun _ => true) (fun _ _ _ => true) (fun _ => true) (fun _ => true) (fun _ => true) (fun _ _ _ => false) (fun _ _ _ => false) (fun _ => true)
noncomputable def cInt (t : PySem.Const) (k : Int → Bool) : Bool := @PySem.Const.casesOn (fun _ => Bool) t false (fun _ => false) (fun a0 => k a0) (fun _ => false) (fun _ _ => false) (fun _ => false) (fun _ => false) false
def cIntM (k : Int → Bool) (t : PySem.Const) : Prop := ∃ a0, t = .int a0 ∧ k a0 = true
theorem cInt_t {t : PySem.Const} {k : Int → Bool} : cInt t k = true → cIntM k t := @PySem.Const.casesOn (fun t => cInt t k = true → cIntM k t) t (fun h => ff h) (fun _ h => ff h) (fun a0 h => ⟨a0, rfl, h⟩) (fun _ h => ff h) (fun _ _ h => ff h) (fun _ h => ff h) (fun _ h => ff h) (fun h => ff h)
noncomputable def cBool (t : PySem.Const) (k : Bool → Bool) : Bool := @PySem.Const.casesOn (fun _ => Bool) t false (fun a0 => k a0) (fun _ => false) (fun _ => false) (fun _ _ => false) (fun _ => false) (fun _ => false) false
def cBoolM (k : Bool → Bool) (t : PySem.Const) : Prop := ∃ a0, t = .bool a0 ∧ k a0 = true
theorem cBool_t {t : PySem.Const} {k : Bool → Bool} : cBool t k = true → cBoolM k t := @PySem.Const.casesOn (fun t => cBool t k = true → cBoolM k t) t (fun h => ff h) (fun a0 h => ⟨a0, rfl, h⟩) (fun _ h => ff h) (fun _ h => ff h) (fun _ _ h => ff h) (fun _ h => ff h) (fun _ h => ff h) (fun h => ff h)
noncomputable def cStr (t : PySem.Const) (k : Str → Bool) : Bool := @PySem.Const.casesOn (fun _ => Bool) t false (fun _ => false) (fun _ => false) (fun _ => false) (fun _ _ => false) (fun a0 => k a0) (fun _ => false) false
def cStrM (k : Str → Bool) (t : PySem.Const) : Prop := ∃ a0, t = .str a0 ∧ k a0 = true
theorem cStr_t {t : PySem.Const} {k : Str → Bool} : cStr t k = true → cStrM k t := @PySem.Const.casesOn (fun t => cStr t k = true → cStrM k t) t (fun h => ff h) (fun _ h => ff h) (fun _ h => ff h) (fun _ h => ff h) (fun _ _ h => ff h) (fun a0 h => ⟨a0, rfl, h⟩) (fun _ h => ff h) (fun h => ff h)
noncomputable def cNone (t : PySem.Const) (k : Bool) : Bool := @PySem.Const.casesOn (fun _ => Bool) t k (fun _ => false) (fun _ => false) (fun _ => false) (fun _ _ => false) (fun _ => false) (fun _ => false) false
theorem cNone_t {t : PySem.Const} {k : Bool} (h : cNone t k = true) : t = .none ∧ k = true := by
  cases t <;> first | exact ff h | exact ⟨rfl, h⟩

noncomputable def l0 {α : Type} (l : List α) : Bool := @List.casesOn α (fun _ => Bool) l true (fun _ _ => false)
theorem l0_t {α : Type} {l : List α} (h : l0 l = true) : l = [] := by cases l <;> first | rfl | exact ff h
noncomputable def lc {α : Type} (l : List α) (k : α → List α → Bool) : Bool := @List.casesOn α (fun _ => Bool) l false (fun a r => k a r)
theorem lc_t {α : Type} {l : List α} {k : α → List α → Bool} (h : lc l k = true) : ∃ a r, l = a :: r ∧ k a r = true := by cases l <;> first | exact ff h | exact ⟨_, _, rfl, h⟩
theorem and_t {a b : Bool} (h : (a && b) = true) : a = true ∧ b = true := Bool.and_eq_true_iff.mp h
noncomputable def l1 {α : Type} (l : List α) (k : α → Bool) : Bool := lc l fun a r => l0 r && k a
theorem l1_t {α : Type} {l : List α} {k : α → Bool} (h : l1 l k = true) : ∃ a, l = [a] ∧ k a = true := by
  replace h := lc_t h
  obtain ⟨a, r, rfl, h⟩ := h
  replace h := and_t h
  obtain ⟨h, q⟩ := h
  cases l0_t h
  exact ⟨a, rfl, q⟩
noncomputable def l2 {α : Type} (l : List α) (k : α → α → Bool) : Bool := lc l fun a r => l1 r (k a)
theorem l2_t {α : Type} {l : List α} {k : α → α → Bool} (h : l2 l k = true) : ∃ a b, l = [a, b] ∧ k a b = true := by
  replace h := lc_t h
  obtain ⟨a, r, rfl, h⟩ := h
  replace h := l1_t h
  obtain ⟨b, rfl, h⟩ := h
  exact ⟨a, b, rfl, h⟩
noncomputable def l3 {α : Type} (l : List α) (k : α → α → α → Bool) : Bool := lc l fun a r => l2 r (k a)
theorem l3_t {α : Type} {l : List α} {k : α → α → α → Bool} (h : l3 l k = true) : ∃ a b c, l = [a, b, c] ∧ k a b c = true := by
  replace h := lc_t h
  obtain ⟨a, r, rfl, h⟩ := h
  replace h := l2_t h
  obtain ⟨b, c, rfl, h⟩ := h
  exact ⟨a, b, c, rfl, h⟩
noncomputable def l4 {α : Type} (l : List α) (k : α → α → α → α → Bool) : Bool := lc l fun a r => l3 r (k a)
theorem l4_t {α : Type} {l : List α} {k : α → α → α → α → Bool} (h : l4 l k = true) : ∃ a b c d, l = [a, b, c, d] ∧ k a b c d = true := by
  replace h := lc_t h
  obtain ⟨a, r, rfl, h⟩ := h
  replace h := l3_t h
  obtain ⟨b, c, d, rfl, h⟩ := h
  exact ⟨a, b, c, d, rfl, h⟩
theorem de {α : Type} [DecidableEq α] {a b : α} (h : decide (a = b) = true) : a = b := of_decide_eq_true h

/-! the arms -/
abbrev Tst := PySem.Expr → Bool
noncomputable def locK (vs : List Str) (i : Nat) (t : PySem.Expr) : Bool := xName t fun x _ => vs[i]? == some x
def locKM (vs : List Str) (i : Nat) (t : PySem.Expr) : Prop := ∃ x q, t = .Name x q ∧ vs[i]? = some x
theorem locK_t {vs : List Str} {i : Nat} {t : PySem.Expr} (h : locK vs i t = true) : locKM vs i t :=
  let ⟨x, q, e, h⟩ := xName_t h; ⟨x, q, e, eq_of_beq h⟩
noncomputable def intK (i : Int) (t : PySem.Expr) : Bool := xConst t fun c _ _ => cInt c fun j => decide (j = i)
def intKM (i : Int) (t : PySem.Expr) : Prop := ∃ k q, t = .Constant (.int i) k q
theorem intK_t {i : Int} {t : PySem.Expr} (h : intK i t = true) : intKM i t := by
  replace h := xConst_t h
  obtain ⟨c, k, q, rfl, h⟩ := h
  replace h := cInt_t h
  obtain ⟨j, rfl, h⟩ := h
  cases de h
  exact ⟨k, q, rfl⟩
noncomputable def boolK (b : Bool) (t : PySem.Expr) : Bool := xConst t fun c _ _ => cBool c fun j => decide (j = b)
def boolKM (b : Bool) (t : PySem.Expr) : Prop := ∃ k q, t = .Constant (.bool b) k q
theorem boolK_t {b : Bool} {t : PySem.Expr} (h : boolK b t = true) : boolKM b t := by
  replace h := xConst_t h
  obtain ⟨c, k, q, rfl, h⟩ := h
  replace h := cBool_t h
  obtain ⟨j, rfl, h⟩ := h
  cases de h
  exact ⟨k, q, rfl⟩
noncomputable def noneK (t : PySem.Expr) : Bool := xConst t fun c _ _ => cNone c true
def noneKM (t : PySem.Expr) : Prop := ∃ k q, t = .Constant .none k q
theorem noneK_t {t : PySem.Expr} (h : noneK t = true) : noneKM t := by
  replace h := xConst_t h
  obtain ⟨c, k, q, rfl, h⟩ := h
  replace h := cNone_t h
  obtain ⟨rfl, _⟩ := h
  exact ⟨k, q, rfl⟩
noncomputable def globK (w : Option Str) (gl : Str → Bool) (t : PySem.Expr) : Bool := xName t fun x _ => w == some x && gl x
def globKM (w : Option Str) (gl : Str → Bool) (t : PySem.Expr) : Prop := ∃ x q, t = .Name x q ∧ w = some x ∧ gl x = true
theorem globK_t {w : Option Str} {gl : Str → Bool} {t : PySem.Expr} (h : globK w gl t = true) : globKM w gl t :=
  let ⟨x, q, e, h⟩ := xName_t h; ⟨x, q, e, eq_of_beq (and_t h).1, (and_t h).2⟩
noncomputable def binK (op : Operator) (cl cr : Tst) (t : PySem.Expr) : Bool := xBin t fun l o r _ => decide (o = op) && (cl l && cr r)
def binKM (op : Operator) (cl cr : Tst) (t : PySem.Expr) : Prop := ∃ l r q, t = .BinOp l op r q ∧ cl l = true ∧ cr r = true
theorem binK_t {op : Operator} {cl cr : Tst} {t : PySem.Expr} (h : binK op cl cr t = true) : binKM op cl cr t := by
  replace h := xBin_t h
  obtain ⟨l, o, r, q, rfl, h⟩ := h
  replace h := and_t h
  obtain ⟨h1, h⟩ := h
  cases de h1
  exact ⟨l, r, q, rfl, and_t h⟩
noncomputable def unK (op : UnaryOp) (c : Tst) (t : PySem.Expr) : Bool := xUn t fun o p _ => decide (o = op) && c p
def unKM (op : UnaryOp) (c : Tst) (t : PySem.Expr) : Prop := ∃ p q, t = .UnaryOp op p q ∧ c p = true
theorem unK_t {op : UnaryOp} {c : Tst} {t : PySem.Expr} (h : unK op c t = true) : unKM op c t := by
  replace h := xUn_t h
  obtain ⟨o, p, q, rfl, h⟩ := h
  replace h := and_t h
  obtain ⟨h1, h⟩ := h
  cases de h1
  exact ⟨p, q, rfl, h⟩
noncomputable def cmpK (op : CmpOp) (cl cr : Tst) (t : PySem.Expr) : Bool := xCmp t fun l os rs _ => l1 os fun o => l1 rs fun r => decide (o = op) && (cl l && cr r)
def cmpKM (op : CmpOp) (cl cr : Tst) (t : PySem.Expr) : Prop := ∃ l r q, t = .Compare l [op] [r] q ∧ cl l = true ∧ cr r = true
theorem cmpK_t {op : CmpOp} {cl cr : Tst} {t : PySem.Expr} (h : cmpK op cl cr t = true) : cmpKM op cl cr t := by
  replace h := xCmp_t h
  obtain ⟨l, os, rs, q, rfl, h⟩ := h
  replace h := l1_t h
  obtain ⟨o, rfl, h⟩ := h
  replace h := l1_t h
  obtain ⟨r, rfl, h⟩ := h
  replace h := and_t h
  obtain ⟨h1, h⟩ := h
  cases de h1
  exact ⟨l, r, q, rfl, and_t h⟩
noncomputable def cmp2K (o1 o2 : CmpOp) (ca cb cc : Tst) (t : PySem.Expr) : Bool := xCmp t fun l os rs _ => l2 os fun p1 p2 => l2 rs fun b c => decide (p1 = o1) && (decide (p2 = o2) && (ca l && (cb b && cc c)))
def cmp2KM (o1 o2 : CmpOp) (ca cb cc : Tst) (t : PySem.Expr) : Prop := ∃ a b c q, t = .Compare a [o1, o2] [b, c] q ∧ ca a = true ∧ cb b = true ∧ cc c = true
theorem cmp2K_t {o1 o2 : CmpOp} {ca cb cc : Tst} {t : PySem.Expr} (h : cmp2K o1 o2 ca cb cc t = true) : cmp2KM o1 o2 ca cb cc t := by
  replace h := xCmp_t h
  obtain ⟨l, os, rs, q, rfl, h⟩ := h
  replace h := l2_t h
  obtain ⟨p1, p2, rfl, h⟩ := h
  replace h := l2_t h
  obtain ⟨b, c, rfl, h⟩ := h
  replace h := and_t h
  obtain ⟨h1, h⟩ := h
  replace h := and_t h
  obtain ⟨h2, h⟩ := h
  cases de h1
  cases de h2
  exact ⟨l, b, c, q, rfl, (and_t h).1, and_t (and_t h).2⟩
noncomputable def bo2K (o : PySem.BoolOp) (ca cb : Tst) (t : PySem.Expr) : Bool := xBo t fun p l _ => decide (p = o) && l2 l fun a b => ca a && cb b
def bo2KM (o : PySem.BoolOp) (ca cb : Tst) (t : PySem.Expr) : Prop := ∃ a b q, t = .BoolOp o [a, b] q ∧ ca a = true ∧ cb b = true
theorem bo2K_t {o : PySem.BoolOp} {ca cb : Tst} {t : PySem.Expr} (h : bo2K o ca cb t = true) : bo2KM o ca cb t := by
  replace h := xBo_t h
  obtain ⟨p, l, q, rfl, h⟩ := h
  replace h := and_t h
  obtain ⟨h1, h⟩ := h
  cases de h1
  replace h := l2_t h
  obtain ⟨a, b, rfl, h⟩ := h
  exact ⟨a, b, q, rfl, and_t h⟩
noncomputable def bo3K (o : PySem.BoolOp) (ca cb cc : Tst) (t : PySem.Expr) : Bool := xBo t fun p l _ => decide (p = o) && l3 l fun a b c => ca a && (cb b && cc c)
def bo3KM (o : PySem.BoolOp) (ca cb cc : Tst) (t : PySem.Expr) : Prop := ∃ a b c q, t = .BoolOp o [a, b, c] q ∧ ca a = true ∧ cb b = true ∧ cc c = true
theorem bo3K_t {o : PySem.BoolOp} {ca cb cc : Tst} {t : PySem.Expr} (h : bo3K o ca cb cc t = true) : bo3KM o ca cb cc t := by
  replace h := xBo_t h
  obtain ⟨p, l, q, rfl, h⟩ := h
  replace h := and_t h
  obtain ⟨h1, h⟩ := h
  cases de h1
  replace h := l3_t h
  obtain ⟨a, b, c, rfl, h⟩ := h
  exact ⟨a, b, c, q, rfl, (and_t h).1, and_t (and_t h).2⟩
noncomputable def bo4K (o : PySem.BoolOp) (ca cb cc cd : Tst) (t : PySem.Expr) : Bool := xBo t fun p l _ => decide (p = o) && l4 l fun a b c d => ca a && (cb b && (cc c && cd d))
def bo4KM (o : PySem.BoolOp) (ca cb cc cd : Tst) (t : PySem.Expr) : Prop := ∃ a b c d q, t = .BoolOp o [a, b, c, d] q ∧ ca a = true ∧ cb b = true ∧ cc c = true ∧ cd d = true
theorem bo4K_t {o : PySem.BoolOp} {ca cb cc cd : Tst} {t : PySem.Expr} (h : bo4K o ca cb cc cd t = true) : bo4KM o ca cb cc cd t := by
  replace h := xBo_t h
  obtain ⟨p, l, q, rfl, h⟩ := h
  replace h := and_t h
  obtain ⟨h1, h⟩ := h
  cases de h1
  replace h := l4_t h
  obtain ⟨a, b, c, d, rfl, h⟩ := h
  exact ⟨a, b, c, d, q, rfl, (and_t h).1, (and_t (and_t h).2).1, and_t (and_t (and_t h).2).2⟩
noncomputable def ifeK (cc ct ce : Tst) (t : PySem.Expr) : Bool := xIf t fun c a b _ => cc c && (ct a && ce b)
def ifeKM (cc ct ce : Tst) (t : PySem.Expr) : Prop := ∃ c a b q, t = .IfExp c a b q ∧ cc c = true ∧ ct a = true ∧ ce b = true
theorem ifeK_t {cc ct ce : Tst} {t : PySem.Expr} (h : ifeK cc ct ce t = true) : ifeKM cc ct ce t :=
  let ⟨c, a, b, q, e, h⟩ := xIf_t h; ⟨c, a, b, q, e, (and_t h).1, and_t (and_t h).2⟩
noncomputable def attrK (w : Option Str) (ab : Bool) (c : Tst) (t : PySem.Expr) : Bool := xAt t fun p nm _ => w == some nm && (ab && c p)
def attrKM (w : Option Str) (ab : Bool) (c : Tst) (t : PySem.Expr) : Prop := ∃ p nm q, t = .Attribute p nm q ∧ w = some nm ∧ ab = true ∧ c p = true
theorem attrK_t {w : Option Str} {ab : Bool} {c : Tst} {t : PySem.Expr} (h : attrK w ab c t = true) : attrKM w ab c t :=
  let ⟨p, nm, q, e, h⟩ := xAt_t h; ⟨p, nm, q, e, eq_of_beq (and_t h).1, and_t (and_t h).2⟩
noncomputable def idxK (c d : Tst) (t : PySem.Expr) : Bool := xSub t fun p i _ => c p && d i
def idxKM (c d : Tst) (t : PySem.Expr) : Prop := ∃ p i q, t = .Subscript p i q ∧ c p = true ∧ d i = true
theorem idxK_t {c d : Tst} {t : PySem.Expr} (h : idxK c d t = true) : idxKM c d t :=
  let ⟨p, i, q, e, h⟩ := xSub_t h; ⟨p, i, q, e, and_t h⟩
noncomputable def keyK (w : Option Str) (c : Tst) (t : PySem.Expr) : Bool := xSub t fun p i _ => xConst i fun x _ _ => cStr x fun x => w == some x && c p
def keyKM (w : Option Str) (c : Tst) (t : PySem.Expr) : Prop := ∃ p x k q2 q, t = .Subscript p (.Constant (.str x) k q2) q ∧ w = some x ∧ c p = true
theorem keyK_t {w : Option Str} {c : Tst} {t : PySem.Expr} (h : keyK w c t = true) : keyKM w c t := by
  replace h := xSub_t h
  obtain ⟨p, i, q, rfl, h⟩ := h
  replace h := xConst_t h
  obtain ⟨x, k, q2, rfl, h⟩ := h
  replace h := cStr_t h
  obtain ⟨x, rfl, h⟩ := h
  exact ⟨p, x, k, q2, q, rfl, eq_of_beq (and_t h).1, (and_t h).2⟩
noncomputable def callK (w : Option Str) (gl : Str → Bool) (cs : List PySem.Expr → Bool) (t : PySem.Expr) : Bool := xCall t fun f as kws _ => l0 kws && (cs as && globK w gl f)
def callKM (w : Option Str) (gl : Str → Bool) (cs : List PySem.Expr → Bool) (t : PySem.Expr) : Prop := ∃ x np as q, t = .Call (.Name x np) as [] q ∧ w = some x ∧ gl x = true ∧ cs as = true
theorem callK_t {w : Option Str} {gl : Str → Bool} {cs : List PySem.Expr → Bool} {t : PySem.Expr} (h : callK w gl cs t = true) : callKM w gl cs t := by
  replace h := xCall_t h
  obtain ⟨f, as, kws, q, rfl, h⟩ := h
  replace h := and_t h
  obtain ⟨h1, h⟩ := h
  cases l0_t h1
  replace h := and_t h
  obtain ⟨h1, h⟩ := h
  replace h := globK_t h
  obtain ⟨x, np, rfl, h2, h3⟩ := h
  exact ⟨x, np, as, q, rfl, h2, h3, h1⟩
noncomputable def fn1K (nm : Str) (gl : Str → Bool) (c : Tst) (t : PySem.Expr) : Bool := callK (some nm) gl (fun as => l1 as c) t
def fn1KM (nm : Str) (gl : Str → Bool) (c : Tst) (t : PySem.Expr) : Prop := ∃ np p q, t = .Call (.Name nm np) [p] [] q ∧ gl nm = true ∧ c p = true
theorem fn1K_t {nm : Str} {gl : Str → Bool} {c : Tst} {t : PySem.Expr} (h : fn1K nm gl c t = true) : fn1KM nm gl c t := by
  replace h := callK_t h
  obtain ⟨x, np, as, q, rfl, h1, h2, h3⟩ := h
  replace h3 := l1_t h3
  obtain ⟨p, rfl, h3⟩ := h3
  cases h1
  exact ⟨np, p, q, rfl, h2, h3⟩
noncomputable def fn2K (nm : Str) (gl : Str → Bool) (c d : Tst) (t : PySem.Expr) : Bool := callK (some nm) gl (fun as => l2 as fun a b => c a && d b) t
def fn2KM (nm : Str) (gl : Str → Bool) (c d : Tst) (t : PySem.Expr) : Prop := ∃ np a b q, t = .Call (.Name nm np) [a, b] [] q ∧ gl nm = true ∧ c a = true ∧ d b = true
theorem fn2K_t {nm : Str} {gl : Str → Bool} {c d : Tst} {t : PySem.Expr} (h : fn2K nm gl c d t = true) : fn2KM nm gl c d t := by
  replace h := callK_t h
  obtain ⟨x, np, as, q, rfl, h1, h2, h3⟩ := h
  replace h3 := l2_t h3
  obtain ⟨a, b, rfl, h3⟩ := h3
  cases h1
  exact ⟨np, a, b, q, rfl, h2, and_t h3⟩
noncomputable def fn3K (nm : Str) (gl : Str → Bool) (c d e : Tst) (t : PySem.Expr) : Bool := callK (some nm) gl (fun as => l3 as fun x y z => c x && (d y && e z)) t
def fn3KM (nm : Str) (gl : Str → Bool) (c d e : Tst) (t : PySem.Expr) : Prop := ∃ np x y z q, t = .Call (.Name nm np) [x, y, z] [] q ∧ gl nm = true ∧ c x = true ∧ d y = true ∧ e z = true
theorem fn3K_t {nm : Str} {gl : Str → Bool} {c d e : Tst} {t : PySem.Expr} (h : fn3K nm gl c d e t = true) : fn3KM nm gl c d e t := by
  replace h := callK_t h
  obtain ⟨x, np, as, q, rfl, h1, h2, h3⟩ := h
  replace h3 := l3_t h3
  obtain ⟨a, b, c', rfl, h3⟩ := h3
  cases h1
  exact ⟨np, a, b, c', q, rfl, h2, (and_t h3).1, and_t (and_t h3).2⟩
noncomputable def listK (b : Bool) (cs : List PySem.Expr → Bool) (t : PySem.Expr) : Bool := xList t fun l _ => b && cs l
def listKM (b : Bool) (cs : List PySem.Expr → Bool) (t : PySem.Expr) : Prop := ∃ l q, t = .List l q ∧ b = true ∧ cs l = true
theorem listK_t {b : Bool} {cs : List PySem.Expr → Bool} {t : PySem.Expr} (h : listK b cs t = true) : listKM b cs t :=
  let ⟨l, q, e, h⟩ := xList_t h; ⟨l, q, e, and_t h⟩
noncomputable def tupK (b : Bool) (cs : List PySem.Expr → Bool) (t : PySem.Expr) : Bool := xTup t fun l _ _ => b && cs l
def tupKM (b : Bool) (cs : List PySem.Expr → Bool) (t : PySem.Expr) : Prop := ∃ l k q, t = .Tuple l k q ∧ b = true ∧ cs l = true
theorem tupK_t {b : Bool} {cs : List PySem.Expr → Bool} {t : PySem.Expr} (h : tupK b cs t = true) : tupKM b cs t :=
  let ⟨l, k, q, e, h⟩ := xTup_t h; ⟨l, k, q, e, and_t h⟩
noncomputable def methK (nm : Str) (mb : Bool) (c : Tst) (cs : List PySem.Expr → Bool) (t : PySem.Expr) : Bool := xCall t fun f as kws po => l0 kws && (cs as && (mb && xAt f fun p n ap => n == nm && (ap.endLine == po.line && c p)))
def methKM (nm : Str) (mb : Bool) (c : Tst) (cs : List PySem.Expr → Bool) (t : PySem.Expr) : Prop := ∃ p ap as po, t = .Call (.Attribute p nm ap) as [] po ∧ cs as = true ∧ mb = true ∧ (ap.endLine == po.line) = true ∧ c p = true
theorem methK_t {nm : Str} {mb : Bool} {c : Tst} {cs : List PySem.Expr → Bool} {t : PySem.Expr} (h : methK nm mb c cs t = true) : methKM nm mb c cs t := by
  replace h := xCall_t h
  obtain ⟨f, as, kws, po, rfl, h⟩ := h
  replace h := and_t h
  obtain ⟨h1, h⟩ := h
  cases l0_t h1
  replace h := and_t h
  obtain ⟨h1, h⟩ := h
  replace h := and_t h
  obtain ⟨h2, h⟩ := h
  replace h := xAt_t h
  obtain ⟨p, n, ap, rfl, h⟩ := h
  replace h := and_t h
  obtain ⟨h3, h⟩ := h
  cases eq_of_beq h3
  exact ⟨p, ap, as, po, rfl, h1, h2, and_t h⟩
noncomputable def compK (c : Tst) (t : PySem.Expr) : Bool := xComp t fun x gs sc q => c (.ListComp x gs sc q)
def compKM (c : Tst) (t : PySem.Expr) : Prop := ∃ x gs sc q, t = .ListComp x gs sc q ∧ c (.ListComp x gs sc q) = true
theorem compK_t {c : Tst} {t : PySem.Expr} (h : compK c t = true) : compKM c t := xComp_t h
noncomputable def nnK (c : Tst) (t : PySem.Expr) : Bool := xCmp t fun l os rs _ => l1 os fun o => l1 rs fun r => decide (o = .NotEq) && (xList r fun l _ => l0 l) && c l
def nnKM (c : Tst) (t : PySem.Expr) : Prop := ∃ l q2 q, t = .Compare l [.NotEq] [.List [] q2] q ∧ c l = true
theorem nnK_t {c : Tst} {t : PySem.Expr} (h : nnK c t = true) : nnKM c t := by
  replace h := xCmp_t h
  obtain ⟨l, os, rs, q, rfl, h⟩ := h
  replace h := l1_t h
  obtain ⟨o, rfl, h⟩ := h
  replace h := l1_t h
  obtain ⟨r, rfl, h⟩ := h
  replace h := and_t h
  obtain ⟨h1, h⟩ := h
  replace h1 := and_t h1
  obtain ⟨h2, h3⟩ := h1
  cases de h2
  replace h3 := xList_t h3
  obtain ⟨l', q2, rfl, h3⟩ := h3
  cases l0_t h3
  exact ⟨l, q2, q, rfl, h⟩
noncomputable def shK (nc : Bool) (c : Tst) (t : PySem.Expr) : Bool := okSh t && ((!nc || noLC t) && c t)
theorem shK_c {nc : Bool} {c : Tst} {t : PySem.Expr} (h : shK nc c t = true) : c t = true := (and_t (and_t h).2).2
theorem shK_s {nc : Bool} {c : Tst} {t : PySem.Expr} (h : shK nc c t = true) : okSh t = true ∧ (nc = true → noLC t = true) :=
  ⟨(and_t h).1, fun e => by have q := (and_t (and_t h).2).1; rw [e] at q; exact q⟩
noncomputable def as1K (s : Stmt) (k : PySem.Expr → PySem.Expr → Pos → Bool) : Bool := sAssign s fun ts pe q => l1 ts fun t => k t pe q
def as1KM (s : Stmt) (k : PySem.Expr → PySem.Expr → Pos → Bool) : Prop := ∃ t pe q, s = .Assign [t] pe q ∧ k t pe q = true
theorem as1K_t {s : Stmt} {k : PySem.Expr → PySem.Expr → Pos → Bool} (h : as1K s k = true) : as1KM s k := by
  replace h := sAssign_t h
  obtain ⟨ts, pe, q, rfl, h1⟩ := h
  replace h1 := l1_t h1
  obtain ⟨t, rfl, h2⟩ := h1
  exact ⟨t, pe, q, rfl, h2⟩
noncomputable def nm2K (t : PySem.Expr) (k : Str → Pos → Str → Pos → Bool) : Bool := xTup t fun l _ _ => l2 l fun a b => xName a fun x p1 => xName b fun y p2 => k x p1 y p2
def nm2KM (t : PySem.Expr) (k : Str → Pos → Str → Pos → Bool) : Prop := ∃ x p1 y p2 kk q, t = .Tuple [.Name x p1, .Name y p2] kk q ∧ k x p1 y p2 = true
theorem nm2K_t {t : PySem.Expr} {k : Str → Pos → Str → Pos → Bool} (h : nm2K t k = true) : nm2KM t k := by
  replace h := xTup_t h
  obtain ⟨l, kk, q, rfl, h1⟩ := h
  replace h1 := l2_t h1
  obtain ⟨a, b, rfl, h2⟩ := h1
  replace h2 := xName_t h2
  obtain ⟨x, p1, rfl, h3⟩ := h2
  replace h3 := xName_t h3
  obtain ⟨y, p2, rfl, h4⟩ := h3
  exact ⟨x, p1, y, p2, kk, q, rfl, h4⟩
noncomputable def nm3K (t : PySem.Expr) (k : Str → Pos → Str → Pos → Str → Pos → Bool) : Bool := xTup t fun l _ _ => l3 l fun a b c => xName a fun x p1 => xName b fun y p2 => xName c fun z p3 => k x p1 y p2 z p3
def nm3KM (t : PySem.Expr) (k : Str → Pos → Str → Pos → Str → Pos → Bool) : Prop := ∃ x p1 y p2 z p3 kk q, t = .Tuple [.Name x p1, .Name y p2, .Name z p3] kk q ∧ k x p1 y p2 z p3 = true
theorem nm3K_t {t : PySem.Expr} {k : Str → Pos → Str → Pos → Str → Pos → Bool} (h : nm3K t k = true) : nm3KM t k := by
  replace h := xTup_t h
  obtain ⟨l, kk, q, rfl, h1⟩ := h
  replace h1 := l3_t h1
  obtain ⟨a, b, c, rfl, h2⟩ := h1
  replace h2 := xName_t h2
  obtain ⟨x, p1, rfl, h3⟩ := h2
  replace h3 := xName_t h3
  obtain ⟨y, p2, rfl, h4⟩ := h3
  replace h4 := xName_t h4
  obtain ⟨z, p3, rfl, h5⟩ := h4
  exact ⟨x, p1, y, p2, z, p3, kk, q, rfl, h5⟩
noncomputable def cp1K (t : PySem.Expr) (k : PySem.Expr → PySem.Expr → PySem.Expr → List PySem.Expr → PySem.Scope → Bool) : Bool := xComp t fun elt gs sc _ => l1 gs fun g => decide (g.is_async = 0) && k elt g.target g.iter g.ifs sc
def cp1KM (t : PySem.Expr) (k : PySem.Expr → PySem.Expr → PySem.Expr → List PySem.Expr → PySem.Scope → Bool) : Prop := ∃ elt tg it ifs sc q, t = .ListComp elt [⟨tg, it, ifs, 0⟩] sc q ∧ k elt tg it ifs sc = true
theorem cp1K_t {t : PySem.Expr} {k : PySem.Expr → PySem.Expr → PySem.Expr → List PySem.Expr → PySem.Scope → Bool} (h : cp1K t k = true) : cp1KM t k := by
  replace h := xComp_t h
  obtain ⟨elt, gs, sc, q, rfl, h1⟩ := h
  replace h1 := l1_t h1
  obtain ⟨⟨tg, it, ifs, asy⟩, rfl, h2⟩ := h1
  have e : asy = 0 := de (and_t h2).1
  exact ⟨elt, tg, it, ifs, sc, q, by rw [e], (and_t h2).2⟩
noncomputable def no (_ : PySem.Expr) : Bool := false
noncomputable def notK (op : UnaryOp) (c : Tst) (t : PySem.Expr) : Bool := decide (op = .Not) && unK .Not c t
theorem notK_t {op : UnaryOp} {c : Tst} {t : PySem.Expr} (h : notK op c t = true) : op = .Not ∧ ∃ p q, t = .UnaryOp .Not p q ∧ c p = true := ⟨de (and_t h).1, unK_t (and_t h).2⟩
noncomputable def consK (c : Tst) (d : List PySem.Expr → Bool) (l : List PySem.Expr) : Bool := lc l fun a b => c a && d b
def consKM (c : Tst) (d : List PySem.Expr → Bool) (l : List PySem.Expr) : Prop := ∃ a b, l = a :: b ∧ c a = true ∧ d b = true
theorem consK_t {c : Tst} {d : List PySem.Expr → Bool} {l : List PySem.Expr} (h : consK c d l = true) : consKM c d l :=
  let ⟨a, b, e, h⟩ := lc_t h; ⟨a, b, e, and_t h⟩
end Mine

/-! ## M6 -/
namespace Mine
open PySem PySem.W PyProof.Rows PySem.Calls

/-! the text and its mini form -/
noncomputable abbrev Sn := List (Str × NameKind)
noncomputable def isGlob (sn : Sn) (x : Str) : Bool := sn.lookup x == some .globalImplicit && !(x == ("__debug__" : Str))
noncomputable def isVar (sn : Sn) (vs : List Str) (i : Nat) (x : Str) : Bool := vs[i]? == some x
noncomputable def Es.len : Es → Nat
  | .nil => 0
  | .cons _ r => r.len + 1
mutual
noncomputable def chkE (sn : Sn) (vs : List Str) (cp : List Str → E → PySem.Expr → Bool) : E → PySem.Expr → Bool
  | .loc i => shK true (locK vs i)
  | .int i => shK true (intK i)
  | .bool b => shK true (boolK b)
  | .none => shK true (noneK)
  | .glob g => shK true (globK (globTab[g]?.map (·.1)) (isGlob sn))
  | .bin op l r => shK true (binK op (chkE sn vs cp l) (chkE sn vs cp r))
  | .un op e => shK true (unK op (chkE sn vs cp e))
  | .cmp op l r => shK true (cmpK op (chkE sn vs cp l) (chkE sn vs cp r))
  | .cmp2 _ _ _ _ _ => no
  | .and a b => shK true (bo2K .And (chkE sn vs cp a) (chkE sn vs cp b))
  | .and3 _ _ _ => no
  | .or a b => shK true (bo2K .Or (chkE sn vs cp a) (chkE sn vs cp b))
  | .or3 _ _ _ => no
  | .or4 _ _ _ _ => no
  | .ife c t e => shK true (ifeK (chkT sn vs cp c) (chkE sn vs cp t) (chkE sn vs cp e))
  | .attr e f => shK true (attrK fldTab[f]? (attrBase e) (chkE sn vs cp e))
  | .idx e i => shK true (idxK (chkE sn vs cp e) (chkE sn vs cp i))
  | .key e k => shK true (keyK fldTab[k]? (chkE sn vs cp e))
  | .call f as => shK true (callK funNames[f]? (isGlob sn) (chkEs sn vs cp as))
  | .new c as => shK true (callK clsNames[c]? (isGlob sn) (chkEs sn vs cp as))
  | .len e => shK true (fn1K ("len" : Str) (isGlob sn) (chkE sn vs cp e))
  | .rng1 e => shK true (fn1K ("range" : Str) (isGlob sn) (chkE sn vs cp e))
  | .rng3 a b c => shK true (fn3K ("range" : Str) (isGlob sn) (chkE sn vs cp a) (chkE sn vs cp b) (chkE sn vs cp c))
  | .list es => shK true (listK (decide (es.len ≤ 1000)) (chkEs sn vs cp es))
  | .tup es => shK true (tupK (decide (es.len ≤ 1000)) (chkEs sn vs cp es))
  | .pop e => shK true (methK ("pop" : Str) (methBase e) (chkE sn vs cp e) l0)
  | .compR hi cap c => shK false (compK (cp vs (.compR hi cap c)))
  | .compL hi cap c => shK false (compK (cp vs (.compL hi cap c)))
  | .neNil e => shK true (nnK (chkE sn vs cp e))
noncomputable def chkT (sn : Sn) (vs : List Str) (cp : List Str → E → PySem.Expr → Bool) : E → PySem.Expr → Bool
  | .loc i => locK vs i
  | .int _ => no
  | .bool _ => no
  | .none => no
  | .glob _ => no
  | .bin op l r => binK op (chkE sn vs cp l) (chkE sn vs cp r)
  | .un op e => notK op (chkT sn vs cp e)
  | .cmp op l r => cmpK op (chkE sn vs cp l) (chkE sn vs cp r)
  | .cmp2 o1 o2 a b c => cmp2K o1 o2 (chkE sn vs cp a) (chkE sn vs cp b) (chkE sn vs cp c)
  | .and a b => bo2K .And (chkT sn vs cp a) (chkT sn vs cp b)
  | .and3 a b c => bo3K .And (chkT sn vs cp a) (chkT sn vs cp b) (chkT sn vs cp c)
  | .or a b => bo2K .Or (chkT sn vs cp a) (chkT sn vs cp b)
  | .or3 a b c => bo3K .Or (chkT sn vs cp a) (chkT sn vs cp b) (chkT sn vs cp c)
  | .or4 a b c d => bo4K .Or (chkT sn vs cp a) (chkT sn vs cp b) (chkT sn vs cp c) (chkT sn vs cp d)
  | .ife _ _ _ => no
  | .attr e f => attrK fldTab[f]? (attrBase e) (chkE sn vs cp e)
  | .idx _ _ => no
  | .key _ _ => no
  | .call f as => callK funNames[f]? (isGlob sn) (chkEs sn vs cp as)
  | .new _ _ => no
  | .len _ => no
  | .rng1 _ => no
  | .rng3 _ _ _ => no
  | .list _ => no
  | .tup _ => no
  | .pop _ => no
  | .compR _ _ _ => no
  | .compL _ _ _ => no
  | .neNil e => nnK (chkE sn vs cp e)
noncomputable def chkEs (sn : Sn) (vs : List Str) (cp : List Str → E → PySem.Expr → Bool) : Es → List PySem.Expr → Bool
  | .nil => l0
  | .cons e r => consK (chkE sn vs cp e) (chkEs sn vs cp r)
end
theorem chk_sh {sn : Sn} {vs : List Str} {cp : List Str → E → PySem.Expr → Bool} {e : E} {t : PySem.Expr} (h : chkE sn vs cp e t = true) : okSh t = true ∧ (noComp e = true → noLC t = true) := by
  cases e <;> first | exact ff h | exact shK_s h
theorem mb_sh {sn : Sn} {vs : List Str} {cp : List Str → E → PySem.Expr → Bool} {e : E} {t : PySem.Expr} (hb : methBase e = true) (h : chkE sn vs cp e t = true) : (∃ x q, t = .Name x q) ∨ (∃ p n q, t = .Attribute p n q) ∨ ∃ p i q, t = .Subscript p i q := by
  cases e with
  | loc => obtain ⟨_, _, rfl, _⟩ := locK_t (shK_c h); exact .inl ⟨_, _, rfl⟩
  | attr => obtain ⟨_, _, _, rfl, _⟩ := attrK_t (shK_c h); exact .inr (.inl ⟨_, _, _, rfl⟩)
  | idx => obtain ⟨_, _, _, rfl, _⟩ := idxK_t (shK_c h); exact .inr (.inr ⟨_, _, _, rfl⟩)
  | _ => exact ff hb


noncomputable def VarAt (BA : Nat → Addr) (env : Env) (μ : Mu) (m : Str → Option Value) (news : Nw) (x : Str) (ov : Option MV) : Prop :=
  (env.kindOf x = some .local ∧ ∀ v, ov = some v → ∃ u, m x = some u ∧ VR BA μ v u) ∨
  ((env.kindOf x = some .cell ∨ env.kindOf x = some .free) ∧ ∃ c o cv, env.cells.lookup x = some c ∧ (c, o) ∈ news ∧ o.data = .cell cv ∧ ∀ v, ov = some v → ∃ u, cv = some u ∧ VR BA μ v u)

structure Vars (BA : Nat → Addr) (env : Env) (vs : List Str) (μ : Mu) (loc : Loc) (m : Str → Option Value) (news : Nw) : Prop where
  len : loc.length = vs.length
  at_ : ∀ (i : Nat) (x : Str) (ov : Option MV), vs[i]? = some x → loc[i]? = some ov → VarAt BA env μ m news x ov

noncomputable def CellAddr (env : Env) (a : Addr) : Prop := ∃ x, env.cells.lookup x = some a

structure Frm (G : Gl) (K : Frag) (p : Program) (loose : List Str) (mg mb : Str → Option Value) (A : Around) (env : Env) (vs : List Str) (h₀ : Heap) : Prop where
  X : K.In h₀
  T : TopRead p loose mg mb h₀
  KK : KOk G K
  hh : A.handled = none
  units : A.units + 64 < cLine
  kind : env.scope.kind = .function
  glob : env.globals = mainGlobals
  blt : env.builtins = builtinsNs
  nd : vs.Nodup
  cl : ∀ x y c, env.cells.lookup x = some c → env.cells.lookup y = some c → x = y
  cvs : ∀ x c, env.cells.lookup x = some c → x ∈ vs ∧ env.kindOf x ≠ some .local
  vok : ∀ x ∈ vs, (x == ("__debug__" : Str)) = false ∧ (x == ("__classdict__" : Str)) = false

theorem cell_not_foot {G : Gl} {μ : Mu} {σ : Hp} {news : Nw} (S : Sim G μ σ news) {c : Addr} {o : Obj} {cv : Option Value} (h : (c, o) ∈ news) (hd : o.data = .cell cv) : ¬ Foot μ σ c := by
  rintro ⟨i, p, mo, hp, ho, hg, hc⟩
  have z := S.obj i mo p ho hp
  have key : ∀ o' : Obj, (c, o') ∈ news → (∀ cv, o'.data ≠ .cell cv) → False := fun o' h' hn => hn cv (by rw [← nodup_eq S.nd h h']; exact hd)
  have q : c = p.1 ∨ c = p.2 := hc
  cases mo with
  | list xs => obtain ⟨vs, n, a, b, d⟩ := z; rw [d] at q; exact key _ (by rw [q.elim id id]; exact a) (fun _ e => by cases e)
  | tup xs => obtain ⟨vs, a, b, d⟩ := z; rw [d] at q; exact key _ (by rw [q.elim id id]; exact a) (fun _ e => by cases e)
  | inst cc fs =>
    obtain ⟨es, n, a, b, d⟩ := z
    rcases q with q | q
    · exact key _ (by rw [q]; exact a) (fun _ e => by cases e)
    · exact key _ (by rw [q]; exact b) (fun _ e => by cases e)
  | dict fs =>
    obtain ⟨o', kvs, a, b, d, e⟩ := z
    rw [e] at q
    obtain ⟨es, ep, _, hd', _⟩ := b
    exact key _ (by rw [q.elim id id]; exact a) (fun _ e => by rw [hd'] at e; cases e)
  | range a b s => obtain ⟨t, u, v, a', b'⟩ := z; rw [b'] at q; exact key _ (by rw [q.elim id id]; exact a') (fun _ e => by cases e)
  | gone => exact hg rfl

theorem Vars.ext {G : Gl} {env : Env} {vs : List Str} {μ μ' : Mu} {σ σ' : Hp} {loc : Loc} {m : Str → Option Value} {news news' : Nw} (V : Vars G.BA env vs μ loc m news) (S : Sim G μ σ news) (e : Ext NoX μ σ news μ' σ' news') : Vars G.BA env vs μ' loc m news' := by
  refine ⟨V.len, fun i x ov hx hl => ?_⟩
  rcases V.at_ i x ov hx hl with ⟨a, b⟩ | ⟨a, c, o, cv, h1, h2, h3, h4⟩
  · exact .inl ⟨a, fun v hv => let ⟨u, q, r⟩ := b v hv; ⟨u, q, r.ext e⟩⟩
  · exact .inr ⟨a, c, o, cv, h1, e.keep _ h2 (cell_not_foot S h2 h3) (fun z => z), h3, fun v hv => let ⟨u, q, r⟩ := h4 v hv; ⟨u, q, r.ext e⟩⟩

section
variable (G : Gl) (A : Around) (env : Env) (vs : List Str) (h₀ : Heap) (Γ : Gam)

noncomputable def EOk (pe : PySem.Expr) (e : E) : Prop := ∀ (μ : Mu) (σ : Hp) (loc : Loc) (s : Shared) (m : Str → Option Value) (news : Nw) (v : MV) (σ' : Hp) (Q : Value → Shared → Prop) (Er : Value → Shared → Prop),
  Fr h₀ env.locals s.heap m → News h₀ env.locals s.heap news → Sim G μ σ news → Vars G.BA env vs μ loc m news → evE Γ loc e σ = some (v, σ') → Kx G h₀ env.locals m s NoX μ σ news σ' v Q →
  wpAny G.M A (eval pe env) Q Er s
noncomputable def TOk (pe : PySem.Expr) (e : E) : Prop := ∀ (μ : Mu) (σ : Hp) (loc : Loc) (s : Shared) (m : Str → Option Value) (news : Nw) (v : MV) (b : Bool) (σ' : Hp) (Q : Bool → Shared → Prop) (Er : Value → Shared → Prop),
  Fr h₀ env.locals s.heap m → News h₀ env.locals s.heap news → Sim G μ σ news → Vars G.BA env vs μ loc m news → evE Γ loc e σ = some (v, σ') → tr v = some b →
  (∀ h' tk μ' news', Fr h₀ env.locals h' m → News h₀ env.locals h' news' → Sim G μ' σ' news' → Ext NoX μ σ news μ' σ' news' → Q b ⟨h', s.gens, s.drawn, tk, s.os⟩) →
  wpAny G.M A (PySem.isTrue pe env (eval pe env)) Q Er s
noncomputable def EsOk (pes : List PySem.Expr) (es : Es) : Prop := ∀ (pos : Pos) (μ : Mu) (σ : Hp) (loc : Loc) (s : Shared) (m : Str → Option Value) (news : Nw) (vals : List MV) (σ' : Hp) (Q : List Value → Shared → Prop) (Er : Value → Shared → Prop),
  Fr h₀ env.locals s.heap m → News h₀ env.locals s.heap news → Sim G μ σ news → Vars G.BA env vs μ loc m news → evEs Γ loc es σ = some (vals, σ') →
  (∀ h' tk μ' news' xs, Fr h₀ env.locals h' m → News h₀ env.locals h' news' → Sim G μ' σ' news' → Ext NoX μ σ news μ' σ' news' → VRs G.BA μ' vals xs → Q xs ⟨h', s.gens, s.drawn, tk, s.os⟩) →
  wpAny G.M A (spliced (backTo pos (starEach pes env))) Q Er s

/-- what a call of the text's own functions gives, made from this frame -/
noncomputable def CallsOk : Prop := ∀ (A' : Around), (A' = A ∨ ∃ C vals, A' = A.under (.builtin "type.__call__" ⟨.ref C :: vals, []⟩)) → ∀ (f : Nat) (args : List MV) (σ : Hp) (v : MV) (σ' : Hp), Γ f args σ = some (v, σ') →
  ∀ (μ : Mu) (s : Shared) (m : Str → Option Value) (news : Nw) (xs : List Value) (R : Result → Shared → Prop), Fr h₀ env.locals s.heap m → News h₀ env.locals s.heap news → Sim G μ σ news → VRs G.BA μ args xs →
  (∀ h' tk μ' news' x, Fr h₀ env.locals h' m → News h₀ env.locals h' news' → Sim G μ' σ' news' → Ext NoX μ σ news μ' σ' news' → VR G.BA μ' v x → R (.ok (.ret x)) ⟨h', s.gens, s.drawn, tk, s.os⟩) →
  codeAny G.M A' (.call (.ref (G.FA f)) ⟨xs, []⟩) R s
end

section
variable {G : Gl} {K : Frag} {p : Program} {loose : List Str} {mg mb : Str → Option Value} {A : Around} {env : Env} {vs : List Str} {h₀ : Heap} {Γ : Gam} {pos : Pos}

theorem starE (e : PySem.Expr) (rest : List PySem.Expr) (sn : Sn) (vs : List Str) (cp) (me : E) (h : chkE sn vs cp me e = true) : starEach (e :: rest) env = (false, eval e env) :: starEach rest env := by
  have h := (chk_sh h).1
  cases e <;> first | rfl | exact ff h
theorem any_star (sn : Sn) (vs : List Str) (cp) : ∀ (rest : List PySem.Expr) (es : Es), chkEs sn vs cp es rest = true → ((backTo pos (starEach rest env)).any (·.1)) = false
  | [], _, _ => rfl
  | e :: rest, .cons me r, h => by
    replace h := and_t h
    have q := any_star sn vs cp rest r h.2
    rw [starE e rest sn vs cp me h.1]
    unfold backTo at q ⊢
    rw [List.map_cons, List.any_cons, q]
    rfl
  | _ :: _, .nil, h => ff h

variable (H : Frm G K p loose mg mb A env vs h₀)
include H

theorem ok_loc {x : Str} {i : Nat} (hx : vs[i]? = some x) : EOk G A env vs h₀ Γ (.Name x pos) (.loc i) := by
  intro μ σ loc s m news v σ' Q Er F N S V h k
  simp only [qa1, qa2, qa3, qa4, qa5, qa6, qa7, qa8, qa9, qa10, qa11, qa12, qa13, qa14, qa15, qa16, qa17, qa18, qa19, qa20, qa21, qa22, qa23, qa24, qa25, qa26, qa27, qa28, qa29] at h
  obtain ⟨v', h1, h2⟩ := Option.map_eq_some_iff.mp h
  cases h2
  have hl : loc[i]? = some (some v) := by
    cases q : loc[i]? with
    | none => rw [q] at h1; cases h1
    | some o => rw [q] at h1; simp at h1; rw [h1]
  obtain ⟨d1, d2⟩ := H.vok x (List.mem_of_getElem? hx)
  rcases V.at_ i x _ hx hl with ⟨a, b⟩ | ⟨a, c, o, cv, h1, h2, h3, h4⟩
  · obtain ⟨u, q, r⟩ := b v rfl
    exact wpAny_Name (wpAny_loadName_local H.kind a F.ns q (k s.heap _ μ news u F N S .refl r)) d1
  · obtain ⟨u, q, r⟩ := h4 v rfl
    subst q
    rcases a with a | a
    · exact wpAny_Name (wpAny_loadName_cell H.kind a h1 ⟨o, N.get h2, h3⟩ (k s.heap _ μ news u F N S .refl r)) d1
    · exact wpAny_Name (wpAny_loadName_free H.kind a h1 ⟨o, N.get h2, h3⟩ (k s.heap _ μ news u F N S .refl r) d2) d1

omit H in
theorem glob_of {x : Str} (h : isGlob env.scope.names x = true) : env.kindOf x = some .globalImplicit ∧ (x == ("__debug__" : Str)) = false := by
  unfold isGlob at h
  rw [Bool.and_eq_true] at h
  exact ⟨eq_of_beq h.1, by simpa using h.2⟩
theorem name_g {x : Str} {u : Value} {s : Shared} {m : Str → Option Value} {Q Er : Value → Shared → Prop} (F : Fr h₀ env.locals s.heap m) (hg : isGlob env.scope.names x = true) (e : nsIn K mainGlobals x = some (some u)) (h : Q u s) :
    wpAny G.M A (eval (.Name x pos) env) Q Er s := by
  obtain ⟨a, b⟩ := glob_of hg
  exact Name_function_global H.kind a (loadGlobal_global (by rw [H.glob]; exact H.T.g.keeps F.keep) (mg_of H.X H.T.g e) h) b
theorem name_b {x : Str} {u : Value} {s : Shared} {m : Str → Option Value} {Q Er : Value → Shared → Prop} (F : Fr h₀ env.locals s.heap m) (hg : isGlob env.scope.names x = true) (e : nsIn K mainGlobals x = some none) (hv : bootBuiltins x = some u) (hn : x ≠ "__name__") (h : Q u s) :
    wpAny G.M A (eval (.Name x pos) env) Q Er s := by
  obtain ⟨a, b⟩ := glob_of hg
  exact Name_function_global H.kind a (loadGlobal_builtin (by rw [H.glob]; exact H.T.g.keeps F.keep) (mg_none_of H.X H.T.g e) (by rw [H.blt]; exact H.T.b.keeps F.keep) ((H.T.builtins x hn).trans hv) h) b

omit H in
theorem VR.of_nil {BA : Nat → Addr} {μ : Mu} {v : MV} {u : Value} (h : VR BA [] v u) : VR BA μ v u := by
  have := h.mono μ
  rwa [List.nil_append] at this

theorem ok_glob {x : Str} {g : Nat} (hx : globTab[g]?.map (·.1) = some x) (hg : isGlob env.scope.names x = true) : EOk G A env vs h₀ Γ (.Name x pos) (.glob g) := by
  intro μ σ loc s m news v σ' Q Er F N S V h k
  simp only [qa1, qa2, qa3, qa4, qa5, qa6, qa7, qa8, qa9, qa10, qa11, qa12, qa13, qa14, qa15, qa16, qa17, qa18, qa19, qa20, qa21, qa22, qa23, qa24, qa25, qa26, qa27, qa28, qa29, globV, Option.map_map] at h
  obtain ⟨⟨y, v'⟩, h1, h2⟩ := Option.map_eq_some_iff.mp h
  rw [h1] at hx
  cases hx
  cases h2
  obtain ⟨u, a, b⟩ := H.KK.glob g y v' h1
  exact name_g H F hg a (k s.heap _ μ news u F N S .refl (VR.of_nil b))

omit H in
theorem ok_const {c : Const} {kk : Nat} {e : E} {v₀ : MV} (hc : ∀ (s : Shared) (Q Er : Value → Shared → Prop), (∀ tk x, VR G.BA [] v₀ x → Q x { s with toks := tk }) → wpAny G.M A (eval (.Constant c kk pos) env) Q Er s)
    (he : ∀ loc σ, evE Γ loc e σ = some (v₀, σ)) (hv : ∀ μ x, VR G.BA [] v₀ x → VR G.BA μ v₀ x) : EOk G A env vs h₀ Γ (.Constant c kk pos) e := by
  intro μ σ loc s m news v σ' Q Er F N S V h k
  rw [he] at h
  cases h
  exact hc s Q Er fun tk x hx => k s.heap tk μ news x F N S .refl (hv μ x hx)
omit H in
theorem ok_int (i : Int) (kk : Nat) : EOk G A env vs h₀ Γ (.Constant (.int i) kk pos) (.int i) :=
  ok_const (v₀ := .int i) (fun s Q Er h => wpAny_Constant_int (h _ _ ⟨_, rfl⟩)) (fun _ _ => rfl) (fun _ _ h => h)
omit H in
theorem ok_bool (b : Bool) (kk : Nat) : EOk G A env vs h₀ Γ (.Constant (.bool b) kk pos) (.bool b) :=
  ok_const (v₀ := .bool b) (fun s Q Er h => wpAny_Constant_bool (h s.toks _ rfl)) (fun _ _ => rfl) (fun _ _ h => h)
omit H in
theorem ok_none (kk : Nat) : EOk G A env vs h₀ Γ (.Constant .none kk pos) .none :=
  ok_const (v₀ := .none) (fun s Q Er h => wpAny_Constant_none (h s.toks _ rfl)) (fun _ _ => rfl) (fun _ _ h => h)

omit H in
theorem ok_bin {op : Operator} {pl pr : PySem.Expr} {l r : E} (hl : EOk G A env vs h₀ Γ pl l) (hr : EOk G A env vs h₀ Γ pr r) : EOk G A env vs h₀ Γ (.BinOp pl op pr pos) (.bin op l r) := by
  intro μ σ loc s m news v σ' Q Er F N S V h k
  refine hide fun gX goBack => ?_
  simp only [qa1, qa2, qa3, qa4, qa5, qa6, qa7, qa8, qa9, qa10, qa11, qa12, qa13, qa14, qa15, qa16, qa17, qa18, qa19, qa20, qa21, qa22, qa23, qa24, qa25, qa26, qa27, qa28, qa29, Option.bind_eq_some_iff] at h
  obtain ⟨⟨a, σ1⟩, h1, ⟨b, σ2⟩, h2, h3⟩ := h
  refine goBack ?_
  refine wpAny_BinOp (hl μ σ loc s m news _ _ _ _ F N S V h1 fun h' tk μ1 news1 x F1 N1 S1 E1 x1 => hr μ1 σ1 loc _ m news1 _ _ _ _ F1 N1 S1 (V.ext S E1) h2 fun h'' tk' μ2 news2 y F2 N2 S2 E2 y2 => ?_)
  exact binV_s F2 N2 S2 (x1.ext E2) y2 h3 fun h3 tk3 μ3 news3 z F3 N3 S3 E3 z3 => k _ _ _ _ _ F3 N3 S3 (E1.trans (E2.trans E3)) z3
omit H in
theorem ok_un {op : UnaryOp} {pe : PySem.Expr} {e : E} (he : EOk G A env vs h₀ Γ pe e) : EOk G A env vs h₀ Γ (.UnaryOp op pe pos) (.un op e) := by
  intro μ σ loc s m news v σ' Q Er F N S V h k
  refine hide fun gX goBack => ?_
  simp only [qa1, qa2, qa3, qa4, qa5, qa6, qa7, qa8, qa9, qa10, qa11, qa12, qa13, qa14, qa15, qa16, qa17, qa18, qa19, qa20, qa21, qa22, qa23, qa24, qa25, qa26, qa27, qa28, qa29, Option.bind_eq_some_iff, Option.map_eq_some_iff] at h
  obtain ⟨⟨a, σ1⟩, h1, v', h2, h3⟩ := h
  refine goBack ?_
  cases h3
  exact wpAny_UnaryOp (he μ σ loc s m news _ _ _ _ F N S V h1 fun h' tk μ1 news1 x F1 N1 S1 E1 x1 => unV_s F1 N1 S1 x1 h2 fun h3 tk3 μ3 news3 z F3 N3 S3 E3 z3 => k _ _ _ _ _ F3 N3 S3 (E1.trans E3) z3)

omit H in
theorem marks {op : CmpOp} {i j : Int} {b : Bool} (h : cmpI op i j = some b) (e : PySem.Expr) : behindInMarks op e = false := by
  cases op <;> first | (simp only [cmpI, reduceCtorEq] at h; done) | (cases e <;> simp [behindInMarks])
omit H in
theorem ok_cmp {op : CmpOp} {pl pr : PySem.Expr} {l r : E} (hl : EOk G A env vs h₀ Γ pl l) (hr : EOk G A env vs h₀ Γ pr r) : EOk G A env vs h₀ Γ (.Compare pl [op] [pr] pos) (.cmp op l r) := by
  intro μ σ loc s m news v σ' Q Er F N S V h k
  refine hide fun gX goBack => ?_
  simp only [qa1, qa2, qa3, qa4, qa5, qa6, qa7, qa8, qa9, qa10, qa11, qa12, qa13, qa14, qa15, qa16, qa17, qa18, qa19, qa20, qa21, qa22, qa23, qa24, qa25, qa26, qa27, qa28, qa29, Option.bind_eq_some_iff, Option.map_eq_some_iff] at h
  obtain ⟨⟨a, σ1⟩, h1, ⟨b, σ2⟩, h2, c, h3, h4⟩ := h
  refine goBack ?_
  cases h4
  obtain ⟨i, j, rfl, rfl, h3⟩ := cmpV_inv h3
  refine wpAny_Compare1 (hl μ σ loc s m news _ _ _ _ F N S V h1 fun h' tk μ1 news1 x F1 N1 S1 E1 x1 => hr μ1 σ1 loc _ m news1 _ _ _ _ F1 N1 S1 (V.ext S E1) h2 fun h'' tk' μ2 news2 y F2 N2 S2 E2 y2 => ?_) (marks h3 _)
  obtain ⟨t, rfl⟩ := x1
  obtain ⟨u, rfl⟩ := y2
  exact cmpI_s h3 (k h'' tk' _ _ _ F2 N2 S2 (E1.trans E2) rfl)
omit H in
theorem tok_cmp {op : CmpOp} {pl pr : PySem.Expr} {l r : E} (hl : EOk G A env vs h₀ Γ pl l) (hr : EOk G A env vs h₀ Γ pr r) : TOk G A env vs h₀ Γ (.Compare pl [op] [pr] pos) (.cmp op l r) := by
  intro μ σ loc s m news v b σ' Q Er F N S V h ht k
  refine hide fun gX goBack => ?_
  simp only [qa1, qa2, qa3, qa4, qa5, qa6, qa7, qa8, qa9, qa10, qa11, qa12, qa13, qa14, qa15, qa16, qa17, qa18, qa19, qa20, qa21, qa22, qa23, qa24, qa25, qa26, qa27, qa28, qa29, Option.bind_eq_some_iff, Option.map_eq_some_iff] at h
  obtain ⟨⟨a, σ1⟩, h1, ⟨b', σ2⟩, h2, c, h3, h4⟩ := h
  refine goBack ?_
  cases h4
  cases ht
  obtain ⟨i, j, rfl, rfl, h3⟩ := cmpV_inv h3
  refine wpAny_isTrue_Compare1 (hl μ σ loc s m news _ _ _ _ F N S V h1 fun h' tk μ1 news1 x F1 N1 S1 E1 x1 => hr μ1 σ1 loc _ m news1 _ _ _ _ F1 N1 S1 (V.ext S E1) h2 fun h'' tk' μ2 news2 y F2 N2 S2 E2 y2 => ?_) (marks h3 _)
  obtain ⟨t, rfl⟩ := x1
  obtain ⟨u, rfl⟩ := y2
  exact cmpI_s h3 (wpAny_truthy_bool (k h'' tk' _ _ F2 N2 S2 (E1.trans E2)))

omit H in
theorem ok_and {pa pb : PySem.Expr} {a b : E} (ha : EOk G A env vs h₀ Γ pa a) (hb : EOk G A env vs h₀ Γ pb b) : EOk G A env vs h₀ Γ (.BoolOp .And [pa, pb] pos) (.and a b) := by
  intro μ σ loc s m news v σ' Q Er F N S V h k
  refine hide fun gX goBack => ?_
  simp only [qa1, qa2, qa3, qa4, qa5, qa6, qa7, qa8, qa9, qa10, qa11, qa12, qa13, qa14, qa15, qa16, qa17, qa18, qa19, qa20, qa21, qa22, qa23, qa24, qa25, qa26, qa27, qa28, qa29, Option.bind_eq_some_iff] at h
  obtain ⟨⟨x, σ1⟩, h1, t, h2, h3⟩ := h
  refine goBack ?_
  refine wpAny_And2 (ha μ σ loc s m news _ _ _ _ F N S V h1 fun h' tk μ1 news1 x F1 N1 S1 E1 x1 => tr_s x1 h2 ?_)
  cases t with
  | false => simp only [Bool.false_eq_true, if_false] at h3 ⊢; cases h3; exact k _ _ _ _ _ F1 N1 S1 E1 x1
  | true =>
    simp only [if_true] at h3 ⊢
    exact hb μ1 σ1 loc _ m news1 _ _ _ _ F1 N1 S1 (V.ext S E1) h3 fun h'' tk' μ2 news2 y F2 N2 S2 E2 y2 => k _ _ _ _ _ F2 N2 S2 (E1.trans E2) y2
omit H in
theorem ok_or {pa pb : PySem.Expr} {a b : E} (ha : EOk G A env vs h₀ Γ pa a) (hb : EOk G A env vs h₀ Γ pb b) : EOk G A env vs h₀ Γ (.BoolOp .Or [pa, pb] pos) (.or a b) := by
  intro μ σ loc s m news v σ' Q Er F N S V h k
  refine hide fun gX goBack => ?_
  simp only [qa1, qa2, qa3, qa4, qa5, qa6, qa7, qa8, qa9, qa10, qa11, qa12, qa13, qa14, qa15, qa16, qa17, qa18, qa19, qa20, qa21, qa22, qa23, qa24, qa25, qa26, qa27, qa28, qa29, Option.bind_eq_some_iff] at h
  obtain ⟨⟨x, σ1⟩, h1, t, h2, h3⟩ := h
  refine goBack ?_
  refine wpAny_Or2 (ha μ σ loc s m news _ _ _ _ F N S V h1 fun h' tk μ1 news1 x F1 N1 S1 E1 x1 => tr_s x1 h2 ?_)
  cases t with
  | true => simp only [if_true] at h3 ⊢; cases h3; exact k _ _ _ _ _ F1 N1 S1 E1 x1
  | false =>
    simp only [Bool.false_eq_true, if_false] at h3 ⊢
    exact hb μ1 σ1 loc _ m news1 _ _ _ _ F1 N1 S1 (V.ext S E1) h3 fun h'' tk' μ2 news2 y F2 N2 S2 E2 y2 => k _ _ _ _ _ F2 N2 S2 (E1.trans E2) y2

theorem ok_attr {f : Nat} {nm : Str} {pe : PySem.Expr} {e : E} (hf : fldTab[f]? = some nm) (hb : attrBase e = true) {sn : Sn} {cp} (hc : chkE sn vs cp e pe = true) (he : EOk G A env vs h₀ Γ pe e) : EOk G A env vs h₀ Γ (.Attribute pe nm pos) (.attr e f) := by
  intro μ σ loc s m news v σ' Q Er F N S V h k
  refine hide fun gX goBack => ?_
  simp only [qa1, qa2, qa3, qa4, qa5, qa6, qa7, qa8, qa9, qa10, qa11, qa12, qa13, qa14, qa15, qa16, qa17, qa18, qa19, qa20, qa21, qa22, qa23, qa24, qa25, qa26, qa27, qa28, qa29, Option.bind_eq_some_iff, Option.map_eq_some_iff] at h
  obtain ⟨⟨a, σ1⟩, h1, v', h2, h3⟩ := h
  refine goBack ?_
  cases h3
  have main : wpAny G.M A (eval pe env) (fun o s₁ => wpAny G.M A (getAttr o nm true) Q Er s₁) Er s :=
    he μ σ loc s m news _ _ _ _ F N S V h1 fun h' tk μ1 news1 x F1 N1 S1 E1 x1 => getA_s H.KK H.X F1 N1 S1 hf x1 h2 fun h3 tk3 μ3 news3 z F3 N3 S3 E3 z3 => k _ _ _ _ _ F3 N3 S3 (E1.trans E3) z3
  cases e with
  | loc i =>
    obtain ⟨_, _, rfl, _⟩ := locK_t (shK_c hc)
    exact Attribute_name main
  | attr e' f' =>
    obtain ⟨_, _, _, rfl, _⟩ := attrK_t (shK_c hc)
    exact Attribute_any_ main
  | _ => exact ff hb

omit H in
theorem subs {i : E} {pi : PySem.Expr} {sn : Sn} {cp} (hc : chkE sn vs cp i pi = true) (x y : Value) : subscripted pi false x y = operate [x, y] (getItem x y) := by
  have hc := (chk_sh hc).1
  cases pi <;> first | rfl | exact ff hc
theorem ok_idx {pe pi : PySem.Expr} {e i : E} {sn : Sn} {cp} (hc : chkE sn vs cp i pi = true) (he : EOk G A env vs h₀ Γ pe e) (hi : EOk G A env vs h₀ Γ pi i) : EOk G A env vs h₀ Γ (.Subscript pe pi pos) (.idx e i) := by
  intro μ σ loc s m news v σ' Q Er F N S V h k
  refine hide fun gX goBack => ?_
  simp only [qa1, qa2, qa3, qa4, qa5, qa6, qa7, qa8, qa9, qa10, qa11, qa12, qa13, qa14, qa15, qa16, qa17, qa18, qa19, qa20, qa21, qa22, qa23, qa24, qa25, qa26, qa27, qa28, qa29, Option.bind_eq_some_iff, Option.map_eq_some_iff] at h
  obtain ⟨⟨a, σ1⟩, h1, ⟨b, σ2⟩, h2, v', h3, h4⟩ := h
  refine goBack ?_
  cases h4
  refine Subscript_ (he μ σ loc s m news _ _ _ _ F N S V h1 fun h' tk μ1 news1 x F1 N1 S1 E1 x1 => hi μ1 σ1 loc _ m news1 _ _ _ _ F1 N1 S1 (V.ext S E1) h2 fun h'' tk' μ2 news2 y F2 N2 S2 E2 y2 => ?_)
  exact getI_t H.KK H.X F2 N2 S2 (x1.ext E2) y2 h3 (subs hc _ _) fun h3 tk3 μ3 news3 z F3 N3 S3 E3 z3 => k _ _ _ _ _ F3 N3 S3 (E1.trans (E2.trans E3)) z3
omit H in
theorem ok_key {pe : PySem.Expr} {e : E} {nm : Str} {f kk : Nat} {p2 : Pos} (hf : fldTab[f]? = some nm) (he : EOk G A env vs h₀ Γ pe e) : EOk G A env vs h₀ Γ (.Subscript pe (.Constant (.str nm) kk p2) pos) (.key e f) := by
  intro μ σ loc s m news v σ' Q Er F N S V h k
  refine hide fun gX goBack => ?_
  simp only [qa1, qa2, qa3, qa4, qa5, qa6, qa7, qa8, qa9, qa10, qa11, qa12, qa13, qa14, qa15, qa16, qa17, qa18, qa19, qa20, qa21, qa22, qa23, qa24, qa25, qa26, qa27, qa28, qa29, Option.bind_eq_some_iff, Option.map_eq_some_iff] at h
  obtain ⟨⟨a, σ1⟩, h1, v', h3, h4⟩ := h
  refine goBack ?_
  cases h4
  refine Subscript_ (he μ σ loc s m news _ _ _ _ F N S V h1 fun h' tk μ1 news1 x F1 N1 S1 E1 x1 => wpAny_Constant_str ?_)
  exact getK_t (s := ⟨h', s.gens, s.drawn, tk + 1, s.os⟩) F1 N1 S1 hf x1 h3 rfl fun h3 tk3 μ3 news3 z F3 N3 S3 E3 z3 => k _ _ _ _ _ F3 N3 S3 (E1.trans E3) z3

/-! arguments, displays, calls -/
omit H in
theorem oks_nil : EsOk G A env vs h₀ Γ [] .nil := by
  intro pos μ σ loc s m news vals σ' Q Er F N S V h k
  simp only [qb1, qb2] at h
  cases h
  exact spliced_none (k s.heap s.toks μ news [] F N S .refl trivial)
omit H in
theorem oks_cons {pe : PySem.Expr} {pr : List PySem.Expr} {e : E} {r : Es} {sn : Sn} {cp} (hc : chkE sn vs cp e pe = true) (he : EOk G A env vs h₀ Γ pe e) (hr : EsOk G A env vs h₀ Γ pr r) : EsOk G A env vs h₀ Γ (pe :: pr) (.cons e r) := by
  intro pos μ σ loc s m news vals σ' Q Er F N S V h k
  simp only [qb1, qb2, Option.bind_eq_some_iff] at h
  obtain ⟨⟨a, σ1⟩, h1, ⟨b, σ2⟩, h2, h3⟩ := h
  cases h3
  refine spliced_more (he μ σ loc s m news _ _ _ _ F N S V h1 fun h' tk μ1 news1 x F1 N1 S1 E1 x1 => ?_) (starE _ _ sn vs cp e hc)
  exact hr pos μ1 σ1 loc _ m news1 _ _ _ _ F1 N1 S1 (V.ext S E1) h2 fun h'' tk' μ2 news2 ys F2 N2 S2 E2 y2 => k _ _ _ _ _ F2 N2 S2 (E1.trans E2) ⟨x1.ext E2, y2⟩
omit H in
theorem evEs_len {loc : Loc} : ∀ (es : Es) (σ : Hp) (r : List MV × Hp), evEs Γ loc es σ = some r → r.1.length = es.len
  | .nil, σ, r, h => by simp only [qb1, qb2] at h; cases h; rfl
  | .cons e es, σ, r, h => by
    simp only [qb1, qb2, Option.bind_eq_some_iff] at h
    obtain ⟨⟨a, σ1⟩, h1, ⟨b, σ2⟩, h2, h3⟩ := h
    cases h3
    have := evEs_len es _ _ h2
    simp only [List.length_cons, Es.len] at this ⊢
    omega
omit H in
theorem ok_list {pes : List PySem.Expr} {es : Es} (hl : es.len ≤ 1000) (he : EsOk G A env vs h₀ Γ pes es) : EOk G A env vs h₀ Γ (.List pes pos) (.list es) := by
  intro μ σ loc s m news v σ' Q Er F N S V h k
  refine hide fun gX goBack => ?_
  simp only [qa1, qa2, qa3, qa4, qa5, qa6, qa7, qa8, qa9, qa10, qa11, qa12, qa13, qa14, qa15, qa16, qa17, qa18, qa19, qa20, qa21, qa22, qa23, qa24, qa25, qa26, qa27, qa28, qa29, Option.bind_eq_some_iff] at h
  obtain ⟨⟨a, σ1⟩, h1, h2⟩ := h
  refine goBack ?_
  cases h2
  have len := evEs_len es _ _ h1
  refine List_ (he pos μ σ loc s m news _ _ _ _ F N S V h1 fun h' tk μ1 news1 xs F1 N1 S1 E1 x1 => newList_s F1 N1 S1 x1 (by simp only at len; omega) fun h3 tk3 μ3 news3 z F3 N3 S3 E3 z3 => k _ _ _ _ _ F3 N3 S3 (E1.trans E3) z3)
omit H in
theorem ok_tup {pes : List PySem.Expr} {es : Es} {kk : Nat} (hl : es.len ≤ 1000) (he : EsOk G A env vs h₀ Γ pes es) : EOk G A env vs h₀ Γ (.Tuple pes kk pos) (.tup es) := by
  intro μ σ loc s m news v σ' Q Er F N S V h k
  refine hide fun gX goBack => ?_
  simp only [qa1, qa2, qa3, qa4, qa5, qa6, qa7, qa8, qa9, qa10, qa11, qa12, qa13, qa14, qa15, qa16, qa17, qa18, qa19, qa20, qa21, qa22, qa23, qa24, qa25, qa26, qa27, qa28, qa29, Option.bind_eq_some_iff] at h
  obtain ⟨⟨a, σ1⟩, h1, h2⟩ := h
  refine goBack ?_
  cases h2
  have len := evEs_len es _ _ h1
  refine Tuple_ (he pos μ σ loc s m news _ _ _ _ F N S V h1 fun h' tk μ1 news1 xs F1 N1 S1 E1 x1 => newTup_s F1 N1 S1 x1 (by simp only at len; omega) fun h3 tk3 μ3 news3 z F3 N3 S3 E3 z3 => k _ _ _ _ _ F3 N3 S3 (E1.trans E3) z3)

/-- a call by a name of the text's top: the name, the arguments, the call -/
theorem call_shape {x : Str} {np : Pos} {f : Value} {pas : List PySem.Expr} {as : Es} {sn : Sn} {cp} {μ : Mu} {σ : Hp} {loc : Loc} {s : Shared} {m : Str → Option Value} {news : Nw} {vals : List MV} {σ1 : Hp} {Q Er : Value → Shared → Prop}
    (hg : isGlob env.scope.names x = true) (e : nsIn K mainGlobals x = some (some f)) (hk : keepIn K f = true) (hc : chkEs sn vs cp as pas = true) (hs : EsOk G A env vs h₀ Γ pas as)
    (F : Fr h₀ env.locals s.heap m) (N : News h₀ env.locals s.heap news) (S : Sim G μ σ news) (V : Vars G.BA env vs μ loc m news) (h : evEs Γ loc as σ = some (vals, σ1))
    (k : ∀ h' tk μ' news' xs, Fr h₀ env.locals h' m → News h₀ env.locals h' news' → Sim G μ' σ1 news' → Ext NoX μ σ news μ' σ1 news' → VRs G.BA μ' vals xs → wpAny G.M A (call f xs) Q Er ⟨h', s.gens, s.drawn, tk, s.os⟩) :
    wpAny G.M A (eval (.Call (.Name x np) pas [] pos) env) Q Er s := by
  refine Call_ (name_g H F hg e ?_)
  cases pas with
  | nil =>
    cases as with
    | nil =>
      simp only [qb1, qb2] at h
      cases h
      exact callWith_K0 (H.X.keeps F.keep) hk (k s.heap s.toks μ news [] F N S .refl trivial)
    | cons e r => exact ff hc
  | cons pe pr =>
    cases as with
    | nil => exact ff hc
    | cons e1 r =>
      have hc' := and_t hc
      refine callWith_K H.X hk (hs pos μ σ loc s m news _ _ _ _ F N S V h fun h' tk μ1 news1 xs F1 N1 S1 E1 x1 => ⟨H.X.keeps F1.keep, k _ _ _ _ _ F1 N1 S1 E1 x1⟩) (starE _ _ sn vs cp e1 hc'.1) (any_star sn vs cp pr r hc'.2)

theorem ok_call (CO : CallsOk G A env h₀ Γ) {x : Str} {np : Pos} {pas : List PySem.Expr} {as : Es} {f : Nat} {sn : Sn} {cp} (hx : funNames[f]? = some x) (hg : isGlob env.scope.names x = true) (hc : chkEs sn vs cp as pas = true) (hs : EsOk G A env vs h₀ Γ pas as) :
    EOk G A env vs h₀ Γ (.Call (.Name x np) pas [] pos) (.call f as) := by
  intro μ σ loc s m news v σ' Q Er F N S V h k
  refine hide fun gX goBack => ?_
  simp only [qa1, qa2, qa3, qa4, qa5, qa6, qa7, qa8, qa9, qa10, qa11, qa12, qa13, qa14, qa15, qa16, qa17, qa18, qa19, qa20, qa21, qa22, qa23, qa24, qa25, qa26, qa27, qa28, qa29, Option.bind_eq_some_iff] at h
  obtain ⟨⟨vals, σ1⟩, h1, h2⟩ := h
  refine goBack ?_
  obtain ⟨f1, f2, f3⟩ := H.KK.fn f x hx
  rw [if_pos f1] at h2
  refine call_shape H hg f2 f3 hc hs F N S V h1 fun h' tk μ1 news1 xs F1 N1 S1 E1 x1 => ?_
  refine wpAny_call (CO A (.inl rfl) f vals σ1 v σ' h2 μ1 _ m news1 xs _ F1 N1 S1 x1 fun h3 tk3 μ3 news3 z F3 N3 S3 E3 z3 => ?_)
  exact k _ _ _ _ _ F3 N3 S3 (E1.trans E3) z3

theorem ok_new (CO : CallsOk G A env h₀ Γ) {x : Str} {np : Pos} {pas : List PySem.Expr} {as : Es} {c : Nat} {sn : Sn} {cp} (hx : clsNames[c]? = some x) (hg : isGlob env.scope.names x = true) (hc : chkEs sn vs cp as pas = true) (hs : EsOk G A env vs h₀ Γ pas as) :
    EOk G A env vs h₀ Γ (.Call (.Name x np) pas [] pos) (.new c as) := by
  intro μ σ loc s m news v σ' Q Er F N S V h k
  refine hide fun gX goBack => ?_
  simp only [qa1, qa2, qa3, qa4, qa5, qa6, qa7, qa8, qa9, qa10, qa11, qa12, qa13, qa14, qa15, qa16, qa17, qa18, qa19, qa20, qa21, qa22, qa23, qa24, qa25, qa26, qa27, qa28, qa29, Option.bind_eq_some_iff] at h
  obtain ⟨⟨vals, σ1⟩, h1, ⟨r, σ2⟩, h2, h3⟩ := h
  refine goBack ?_
  split at h3
  · rename_i hr
    simp only at hr h3
    subst hr
    cases h3
    obtain ⟨c1, c2, c3, c4, c5, c6⟩ := H.KK.cls c x hx
    refine call_shape H hg c2 c3 hc hs F N S V h1 fun h' tk μ1 news1 xs F1 N1 S1 E1 x1 => ?_
    refine call_cls (C := G.CA c) (s := ⟨h', s.gens, s.drawn, tk, s.os⟩) F1 H.X N1 c4 c5 c6 fun xa dx h2' F2 N2 lt1 lt2 => ?_
    have nk1 : ∀ a : Addr, (∀ p ∈ news1, p.1 < a) → a ∉ news1.map (·.1) := fun a lt hm => by
      obtain ⟨p, hp, e⟩ := List.mem_map.mp hm
      have := lt p hp
      exact Nat.lt_irrefl a (by rw [← e] at this ⊢; exact this)
    have nx := nk1 xa (fun p hp => Nat.lt_trans (lt1 p hp) lt2)
    have nd := nk1 dx lt1
    have hkk : ∀ q ∈ news1, q ∈ (xa, instObj (G.CA c) dx) :: (dx, dictOf [] 0) :: news1 := fun q hq => .tail _ (.tail _ hq)
    have S2 : Sim G (μ1 ++ [(xa, dx)]) (σ1 ++ [.inst c []]) ((xa, instObj (G.CA c) dx) :: (dx, dictOf [] 0) :: news1) := by
      refine S1.grow ?_ hkk nx nd ⟨[], 0, .head _, .tail _ (.head _), trivial, c1⟩
      rw [List.map_cons, List.nodup_cons, List.map_cons, List.nodup_cons]
      refine ⟨fun hm => ?_, nd, S1.nd⟩
      rcases List.mem_cons.mp hm with q | q
      · have q' : xa = dx := q
        exact Nat.lt_irrefl dx (by rw [q'] at lt2; exact lt2)
      · exact nx q
    have E2 : Ext NoX μ1 σ1 news1 (μ1 ++ [(xa, dx)]) (σ1 ++ [.inst c []]) ((xa, instObj (G.CA c) dx) :: (dx, dictOf [] 0) :: news1) := .grow S1 hkk nx nd
    have hself : VR G.BA (μ1 ++ [(xa, dx)]) (.ref σ1.length) (.ref xa) := ⟨(xa, dx), by rw [← S1.len]; simp, rfl⟩
    refine CO _ (.inr ⟨_, _, rfl⟩) (initOf c) (.ref σ1.length :: vals) (σ1 ++ [.inst c []]) .none _ h2 (μ1 ++ [(xa, dx)]) _ m _ (.ref xa :: xs) _ F2 N2 S2 ⟨hself, x1.ext E2⟩ fun h3 tk3 μ3 news3 z F3 N3 S3 E3 z3 => ?_
    cases z3
    refine ⟨rfl, ?_⟩
    exact k _ _ _ _ _ F3 N3 S3 (E1.trans (E2.trans E3)) (hself.ext E3)
  · cases h3
end
end Mine

/-! ## M7 -/
namespace Mine
open PySem PySem.W PyProof.Rows PySem.Calls

theorem ints_of {BA : Nat → Addr} {μ : Mu} : ∀ {vs : List MV} {xs : List Value}, VRs BA μ vs xs → vs.all isInt = true → ∃ ns, IntsAre xs ns ∧ vs = ns.map MV.int
  | [], [], _, _ => ⟨[], .nil, rfl⟩
  | v :: _, _ :: _, h, e => by
    rw [List.all_cons, Bool.and_eq_true] at e
    obtain ⟨ns, a, b⟩ := ints_of h.2 e.2
    cases v with
    | int i =>
      obtain ⟨t, ht⟩ := h.1
      subst ht
      exact ⟨i :: ns, .cons i t a, by rw [b]; rfl⟩
    | _ => simp [isInt] at e
  | [], _ :: _, h, _ => h.elim
  | _ :: _, [], h, _ => h.elim

section
variable {G : Gl} {K : Frag} {p : Program} {loose : List Str} {mg mb : Str → Option Value} {A : Around} {env : Env} {vs : List Str} {h₀ : Heap} {Γ : Gam} {pos : Pos}

theorem ok_ife {pc pt pe : PySem.Expr} {c t e : E} (hc : TOk G A env vs h₀ Γ pc c) (ht : EOk G A env vs h₀ Γ pt t) (he : EOk G A env vs h₀ Γ pe e) : EOk G A env vs h₀ Γ (.IfExp pc pt pe pos) (.ife c t e) := by
  intro μ σ loc s m news v σ' Q Er F N S V h k
  refine hide fun gX goBack => ?_
  simp only [qa1, qa2, qa3, qa4, qa5, qa6, qa7, qa8, qa9, qa10, qa11, qa12, qa13, qa14, qa15, qa16, qa17, qa18, qa19, qa20, qa21, qa22, qa23, qa24, qa25, qa26, qa27, qa28, qa29, Option.bind_eq_some_iff] at h
  obtain ⟨⟨x, σ1⟩, h1, b, h2, h3⟩ := h
  refine goBack ?_
  refine wpAny_IfExp (hc μ σ loc s m news _ b _ _ _ F N S V h1 h2 fun h' tk μ1 news1 F1 N1 S1 E1 => ?_)
  cases b with
  | true =>
    simp only [if_true] at h3 ⊢
    exact ht μ1 σ1 loc _ m news1 _ _ _ _ F1 N1 S1 (V.ext S E1) h3 fun h'' tk' μ2 news2 y F2 N2 S2 E2 y2 => k _ _ _ _ _ F2 N2 S2 (E1.trans E2) y2
  | false =>
    simp only [Bool.false_eq_true, if_false] at h3 ⊢
    exact he μ1 σ1 loc _ m news1 _ _ _ _ F1 N1 S1 (V.ext S E1) h3 fun h'' tk' μ2 news2 y F2 N2 S2 E2 y2 => k _ _ _ _ _ F2 N2 S2 (E1.trans E2) y2

/-! tests -/
theorem tok_not {pe : PySem.Expr} {e : E} (he : TOk G A env vs h₀ Γ pe e) : TOk G A env vs h₀ Γ (.UnaryOp .Not pe pos) (.un .Not e) := by
  intro μ σ loc s m news v b σ' Q Er F N S V h ht k
  refine hide fun gX goBack => ?_
  simp only [qa1, qa2, qa3, qa4, qa5, qa6, qa7, qa8, qa9, qa10, qa11, qa12, qa13, qa14, qa15, qa16, qa17, qa18, qa19, qa20, qa21, qa22, qa23, qa24, qa25, qa26, qa27, qa28, qa29, Option.bind_eq_some_iff, Option.map_eq_some_iff] at h
  obtain ⟨⟨a, σ1⟩, h1, v', h2, h3⟩ := h
  refine goBack ?_
  cases h3
  simp only [unV] at h2
  obtain ⟨c, h4, h5⟩ := Option.map_eq_some_iff.mp h2
  subst h5
  cases ht
  exact wpAny_isTrue_Not (he μ σ loc s m news _ c _ _ _ F N S V h1 h4 k)

theorem all_last {op : BoolOp} {pe : PySem.Expr} {e : E} (he : TOk G A env vs h₀ Γ pe e) {μ : Mu} {σ : Hp} {loc : Loc} {s : Shared} {m : Str → Option Value} {news : Nw} {v : MV} {b : Bool} {σ' : Hp} {Q : Bool → Shared → Prop} {Er : Value → Shared → Prop}
    (F : Fr h₀ env.locals s.heap m) (N : News h₀ env.locals s.heap news) (S : Sim G μ σ news) (V : Vars G.BA env vs μ loc m news) (h : evE Γ loc e σ = some (v, σ')) (ht : tr v = some b)
    (k : ∀ h' tk μ' news', Fr h₀ env.locals h' m → News h₀ env.locals h' news' → Sim G μ' σ' news' → Ext NoX μ σ news μ' σ' news' → Q b ⟨h', s.gens, s.drawn, tk, s.os⟩) : wpAny G.M A (allTrue op [pe] env) Q Er s := by
  cases op with
  | And =>
    refine wpAny_allTrue_And_cons (he μ σ loc s m news v b σ' _ _ F N S V h ht fun h' tk μ' news' F' N' S' E' => ?_)
    cases b with
    | true => exact wpAny_allTrue_And_nil (k _ _ _ _ F' N' S' E')
    | false => exact k _ _ _ _ F' N' S' E'
  | Or =>
    refine wpAny_allTrue_Or_cons (he μ σ loc s m news v b σ' _ _ F N S V h ht fun h' tk μ' news' F' N' S' E' => ?_)
    cases b with
    | true => exact k _ _ _ _ F' N' S' E'
    | false => exact wpAny_allTrue_Or_nil (k _ _ _ _ F' N' S' E')

/-- what the rest of an and | or gives, from any later state -/
noncomputable def RestOk (G : Gl) (A : Around) (env : Env) (vs : List Str) (h₀ : Heap) (op : BoolOp) (pes : List PySem.Expr) (ev : Loc → Hp → Option (MV × Hp)) : Prop :=
  ∀ (μ : Mu) (σ : Hp) (loc : Loc) (s : Shared) (m : Str → Option Value) (news : Nw) (v : MV) (b : Bool) (σ' : Hp) (Q : Bool → Shared → Prop) (Er : Value → Shared → Prop),
  Fr h₀ env.locals s.heap m → News h₀ env.locals s.heap news → Sim G μ σ news → Vars G.BA env vs μ loc m news → ev loc σ = some (v, σ') → tr v = some b →
  (∀ h' tk μ' news', Fr h₀ env.locals h' m → News h₀ env.locals h' news' → Sim G μ' σ' news' → Ext NoX μ σ news μ' σ' news' → Q b ⟨h', s.gens, s.drawn, tk, s.os⟩) →
  wpAny G.M A (allTrue op pes env) Q Er s
theorem rest_one {op : BoolOp} {pe : PySem.Expr} {e : E} (he : TOk G A env vs h₀ Γ pe e) : RestOk G A env vs h₀ op [pe] (fun loc σ => evE Γ loc e σ) :=
  fun _ _ _ _ _ _ _ _ _ _ _ F N S V h ht k => all_last he F N S V h ht k
theorem rest_and {pe : PySem.Expr} {pes : List PySem.Expr} {e : E} {ev : Loc → Hp → Option (MV × Hp)} (he : TOk G A env vs h₀ Γ pe e) (hr : RestOk G A env vs h₀ .And pes ev) :
    RestOk G A env vs h₀ .And (pe :: pes) (fun loc σ => (evE Γ loc e σ).bind fun p => (tr p.1).bind fun t => if t then ev loc p.2 else some p) := by
  intro μ σ loc s m news v b σ' Q Er F N S V h ht k
  refine hide fun gX goBack => ?_
  simp only [Option.bind_eq_some_iff] at h
  obtain ⟨⟨x, σ1⟩, h1, t, h2, h3⟩ := h
  refine goBack ?_
  refine wpAny_allTrue_And_cons (he μ σ loc s m news x t σ1 _ _ F N S V h1 h2 fun h' tk μ1 news1 F1 N1 S1 E1 => ?_)
  cases t with
  | false =>
    simp only [Bool.false_eq_true, if_false] at h3 ⊢
    cases h3
    rw [h2] at ht
    cases ht
    exact k _ _ _ _ F1 N1 S1 E1
  | true =>
    simp only [if_true] at h3 ⊢
    exact hr μ1 σ1 loc _ m news1 v b σ' _ _ F1 N1 S1 (V.ext S E1) h3 ht fun h'' tk' μ2 news2 F2 N2 S2 E2 => k _ _ _ _ F2 N2 S2 (E1.trans E2)
theorem rest_or {pe : PySem.Expr} {pes : List PySem.Expr} {e : E} {ev : Loc → Hp → Option (MV × Hp)} (he : TOk G A env vs h₀ Γ pe e) (hr : RestOk G A env vs h₀ .Or pes ev) :
    RestOk G A env vs h₀ .Or (pe :: pes) (fun loc σ => (evE Γ loc e σ).bind fun p => (tr p.1).bind fun t => if t then some p else ev loc p.2) := by
  intro μ σ loc s m news v b σ' Q Er F N S V h ht k
  refine hide fun gX goBack => ?_
  simp only [Option.bind_eq_some_iff] at h
  obtain ⟨⟨x, σ1⟩, h1, t, h2, h3⟩ := h
  refine goBack ?_
  refine wpAny_allTrue_Or_cons (he μ σ loc s m news x t σ1 _ _ F N S V h1 h2 fun h' tk μ1 news1 F1 N1 S1 E1 => ?_)
  cases t with
  | true =>
    simp only [if_true] at h3 ⊢
    cases h3
    rw [h2] at ht
    cases ht
    exact k _ _ _ _ F1 N1 S1 E1
  | false =>
    simp only [Bool.false_eq_true, if_false] at h3 ⊢
    exact hr μ1 σ1 loc _ m news1 v b σ' _ _ F1 N1 S1 (V.ext S E1) h3 ht fun h'' tk' μ2 news2 F2 N2 S2 E2 => k _ _ _ _ F2 N2 S2 (E1.trans E2)
theorem tok_bool {op : BoolOp} {pes : List PySem.Expr} {ev : Loc → Hp → Option (MV × Hp)} {e : E} (hr : RestOk G A env vs h₀ op pes ev) (he : ∀ loc σ, evE Γ loc e σ = ev loc σ) : TOk G A env vs h₀ Γ (.BoolOp op pes pos) e := by
  intro μ σ loc s m news v b σ' Q Er F N S V h ht k
  rw [he] at h
  exact wpAny_isTrue_BoolOp (hr μ σ loc s m news v b σ' Q Er F N S V h ht k)

theorem tok_val {pe : PySem.Expr} {e : E} (he : EOk G A env vs h₀ Γ pe e) (hi : ∀ whole, PySem.isTrue pe env whole = (do let v ← whole; standAt pe.pos; holding [v] (truthy v))) : TOk G A env vs h₀ Γ pe e := by
  intro μ σ loc s m news v b σ' Q Er F N S V h ht k
  refine wpAny_isTrue_value (he μ σ loc s m news v σ' _ _ F N S V h fun h' tk μ1 news1 x F1 N1 S1 E1 x1 => tr_s x1 ht (k _ _ _ _ F1 N1 S1 E1)) (hi _)

theorem tok_cmp2 {o1 o2 : CmpOp} {pa pb pc : PySem.Expr} {a b c : E} (ha : EOk G A env vs h₀ Γ pa a) (hb : EOk G A env vs h₀ Γ pb b) (hc : EOk G A env vs h₀ Γ pc c) (hm : behindInMarks o2 pc = false) :
    TOk G A env vs h₀ Γ (.Compare pa [o1, o2] [pb, pc] pos) (.cmp2 o1 o2 a b c) := by
  intro μ σ loc s m news v t σ' Q Er F N S V h ht k
  refine hide fun gX goBack => ?_
  simp only [qa1, qa2, qa3, qa4, qa5, qa6, qa7, qa8, qa9, qa10, qa11, qa12, qa13, qa14, qa15, qa16, qa17, qa18, qa19, qa20, qa21, qa22, qa23, qa24, qa25, qa26, qa27, qa28, qa29, Option.bind_eq_some_iff] at h
  obtain ⟨⟨x, σ1⟩, h1, ⟨y, σ2⟩, h2, t1, h3, h4⟩ := h
  refine goBack ?_
  obtain ⟨i, j, rfl, rfl, h3⟩ := cmpV_inv h3
  refine isTrue_chain (ha μ σ loc s m news _ _ _ _ F N S V h1 fun h' tk μ1 news1 x F1 N1 S1 E1 x1 => ?_) hm
  show wpAny G.M A (do
    let rv ← holding [x] (eval pb env)
    standAt pos
    let c ← holding [x, rv] (compareOp o1 x rv)
    release [x, rv] [c]
    if ← holding [c, rv] (truthy c) then testChain pos rv [o2] [eval pc env] else pure false) Q Er _
  refine wpAny_bind (wpAny_holding (hb μ1 σ1 loc _ m news1 _ _ _ _ F1 N1 S1 (V.ext S E1) h2 fun h'' tk' μ2 news2 y F2 N2 S2 E2 y2 => wpAny_bind (wpAny_standAt ?_)))
  obtain ⟨tx, rfl⟩ := x1
  obtain ⟨ty, rfl⟩ := y2
  refine wpAny_bind (wpAny_holding (cmpI_s h3 (wpAny_bind (wpAny_release (wpAny_bind (wpAny_holding (wpAny_truthy_bool ?_)))))))
  cases t1 with
  | false =>
    simp only [Bool.false_eq_true, if_false] at h4 ⊢
    cases h4
    cases ht
    exact wpAny_pure (k _ _ _ _ F2 N2 S2 (E1.trans E2))
  | true =>
    simp only [if_true, Option.bind_eq_some_iff, Option.map_eq_some_iff] at h4 ⊢
    obtain ⟨⟨z, σ3⟩, h5, t2, h6, h7⟩ := h4
    cases h7
    cases ht
    show wpAny G.M A (do
      let rv ← holding [Value.int j ty] (eval pc env)
      standAt pos
      let c ← operate [Value.int j ty, rv] (compareOp o2 (Value.int j ty) rv)
      holding [c] (truthy c)) Q Er _
    refine wpAny_bind (wpAny_holding (hc μ2 σ2 loc _ m news2 _ _ _ _ F2 N2 S2 ((V.ext S E1).ext S1 E2) h5 fun h3' tk3 μ3 news3 z F3 N3 S3 E3 z3 => wpAny_bind (wpAny_standAt ?_)))
    obtain ⟨j', i', e1, rfl, h6⟩ := cmpV_inv h6
    cases e1
    obtain ⟨tz, rfl⟩ := z3
    exact wpAny_bind (wpAny_operating (cmpI_s h6 (wpAny_holding (wpAny_truthy_bool (k _ _ _ _ F3 N3 S3 (E1.trans (E2.trans E3)))))))

variable (H : Frm G K p loose mg mb A env vs h₀)
include H

theorem cmp_nil {μ : Mu} {σ : Hp} {s : Shared} {m : Str → Option Value} {news : Nw} {id : Nat} {xs : List MV} {x : Value} {np : Pos} {Q : Value → Shared → Prop} {Er : Value → Shared → Prop}
    (F : Fr h₀ env.locals s.heap m) (N : News h₀ env.locals s.heap news) (S : Sim G μ σ news) (hx : VR G.BA μ (.ref id) x) (ho : σ[id]? = some (.list xs)) (hi : xs.all isInt = true)
    (k : Kx G h₀ env.locals m s NoX μ σ news (σ ++ [.list []]) (.bool (xs != [])) Q) : wpAny G.M A (eval (.List [] np) env) (fun y s' => wpAny G.M A (compareOp .NotEq x y) Q Er s') Er s := by
  refine List_ (spliced_none (newList_s (vs := []) (X := NoX) F N S trivial (by simp) fun h3 tk3 μ3 news3 z F3 N3 S3 E3 z3 => ?_))
  obtain ⟨q, hq, rfl⟩ := hx.ext E3
  obtain ⟨q', hq', rfl⟩ := z3
  have ho' : (σ ++ [MObj.list []])[id]? = some (.list xs) := by rw [List.getElem?_append_left (List.getElem?_eq_some_iff.mp ho).1]; exact ho
  obtain ⟨vs1, n1, hm1, hv1, _⟩ := S3.obj _ _ _ ho' hq
  obtain ⟨vs2, n2, hm2, hv2, _⟩ := S3.obj σ.length (.list []) q' (by simp) hq'
  obtain ⟨ns, hn, e⟩ := ints_of hv1 hi
  have e2 : vs2 = [] := by cases vs2 with
    | nil => rfl
    | cons => exact hv2.elim
  subst e2
  refine ne_intsK (PySem.IsL.isList (n := n1) (N3 _ hm1).1) hn (PySem.IsL.isList (n := n2) (N3 _ hm2).1) .nil H.units ?_
  have e3 : (!decide (ns = [])) = (xs != []) := by subst e; cases ns <;> simp
  rw [e3]
  exact k _ _ _ _ _ F3 N3 S3 E3 rfl
theorem neNil_inv {loc : Loc} {e : E} {σ σ' : Hp} {v : MV} (h : evE Γ loc (.neNil e) σ = some (v, σ')) : ∃ id σ1 xs, evE Γ loc e σ = some (.ref id, σ1) ∧ σ1[id]? = some (.list xs) ∧ xs.all isInt = true ∧ v = .bool (xs != []) ∧ σ' = σ1 ++ [.list []] := by
  simp only [qa1, qa2, qa3, qa4, qa5, qa6, qa7, qa8, qa9, qa10, qa11, qa12, qa13, qa14, qa15, qa16, qa17, qa18, qa19, qa20, qa21, qa22, qa23, qa24, qa25, qa26, qa27, qa28, qa29, Option.bind_eq_some_iff] at h
  obtain ⟨⟨x, σ1⟩, h1, h2⟩ := h
  simp only at h2
  split at h2
  · split at h2
    · rename_i xs ho
      split at h2
      · rename_i hi; cases h2; exact ⟨_, σ1, xs, h1, ho, hi, rfl, rfl⟩
      · cases h2
    · cases h2
  · cases h2
theorem ok_neNil {pe : PySem.Expr} {e : E} {np : Pos} (he : EOk G A env vs h₀ Γ pe e) : EOk G A env vs h₀ Γ (.Compare pe [.NotEq] [.List [] np] pos) (.neNil e) := by
  intro μ σ loc s m news v σ' Q Er F N S V h k
  obtain ⟨id, σ1, xs, h1, ho, hi, rfl, rfl⟩ := neNil_inv H h
  refine wpAny_Compare1 (he μ σ loc s m news _ _ _ _ F N S V h1 fun h' tk μ1 news1 x F1 N1 S1 E1 x1 => cmp_nil H F1 N1 S1 x1 ho hi fun h3 tk3 μ3 news3 z F3 N3 S3 E3 z3 => k _ _ _ _ _ F3 N3 S3 (E1.trans E3) z3)
theorem tok_neNil {pe : PySem.Expr} {e : E} {np : Pos} (he : EOk G A env vs h₀ Γ pe e) : TOk G A env vs h₀ Γ (.Compare pe [.NotEq] [.List [] np] pos) (.neNil e) := by
  intro μ σ loc s m news v b σ' Q Er F N S V h ht k
  obtain ⟨id, σ1, xs, h1, ho, hi, rfl, rfl⟩ := neNil_inv H h
  cases ht
  refine wpAny_isTrue_Compare1 (he μ σ loc s m news _ _ _ _ F N S V h1 fun h' tk μ1 news1 x F1 N1 S1 E1 x1 => cmp_nil H F1 N1 S1 x1 ho hi fun h3 tk3 μ3 news3 z F3 N3 S3 E3 z3 => ?_)
  cases z3
  exact wpAny_truthy_bool (k _ _ _ _ F3 N3 S3 (E1.trans E3))

/-! the built-ins of the text -/
theorem ok_len {pe : PySem.Expr} {e : E} {np : Pos} {sn : Sn} {cp} (hg : isGlob env.scope.names ("len" : Str) = true) (hc : chkE sn vs cp e pe = true) (he : EOk G A env vs h₀ Γ pe e) : EOk G A env vs h₀ Γ (.Call (.Name ("len" : Str) np) [pe] [] pos) (.len e) := by
  intro μ σ loc s m news v σ' Q Er F N S V h k
  refine hide fun gX goBack => ?_
  simp only [qa1, qa2, qa3, qa4, qa5, qa6, qa7, qa8, qa9, qa10, qa11, qa12, qa13, qa14, qa15, qa16, qa17, qa18, qa19, qa20, qa21, qa22, qa23, qa24, qa25, qa26, qa27, qa28, qa29, Option.bind_eq_some_iff, Option.map_eq_some_iff] at h
  obtain ⟨⟨a, σ1⟩, h1, n, h2, h3⟩ := h
  refine goBack ?_
  cases h3
  refine Call_ (name_b H F hg H.KK.len (u := .builtin "len") (by boot_by_name) (by decide) ?_)
  refine PyProof.Rows.callWith_builtin1 (spliced_more (he μ σ loc s m news _ _ _ _ F N S V h1 fun h' tk μ1 news1 x F1 N1 S1 E1 x1 => spliced_none ?_) (starE _ _ sn vs cp e hc)) (starE _ _ sn vs cp e hc) rfl
  exact len_s F1 N1 S1 x1 h2 fun h3 tk3 μ3 news3 z F3 N3 S3 E3 z3 => k _ _ _ _ _ F3 N3 S3 (E1.trans E3) z3
theorem ok_rng1 {pe : PySem.Expr} {e : E} {np : Pos} {sn : Sn} {cp} (hg : isGlob env.scope.names ("range" : Str) = true) (hc : chkE sn vs cp e pe = true) (he : EOk G A env vs h₀ Γ pe e) : EOk G A env vs h₀ Γ (.Call (.Name ("range" : Str) np) [pe] [] pos) (.rng1 e) := by
  intro μ σ loc s m news v σ' Q Er F N S V h k
  refine hide fun gX goBack => ?_
  simp only [qa1, qa2, qa3, qa4, qa5, qa6, qa7, qa8, qa9, qa10, qa11, qa12, qa13, qa14, qa15, qa16, qa17, qa18, qa19, qa20, qa21, qa22, qa23, qa24, qa25, qa26, qa27, qa28, qa29, Option.bind_eq_some_iff] at h
  obtain ⟨⟨a, σ1⟩, h1, h2⟩ := h
  refine goBack ?_
  obtain ⟨i, j, kk, e1, rfl, e3, _, _, _, rfl, rfl⟩ := rngV_inv h2
  cases e1; cases e3
  refine Call_ (name_b H F hg H.KK.rng (u := .type "range") (by boot_by_name) (by decide) ?_)
  refine PyProof.Rows.callWith_type1 (spliced_more (he μ σ loc s m news _ _ _ _ F N S V h1 fun h' tk μ1 news1 x F1 N1 S1 E1 x1 => spliced_none ?_) (starE _ _ sn vs cp e hc)) (starE _ _ sn vs cp e hc) rfl
  obtain ⟨t, rfl⟩ := x1
  exact range1_rows F1 N1 fun h2 tk2 t1 u1 v1 hr F2 N2 hk => rng_s (X := NoX) (s := ⟨h', s.gens, s.drawn, tk, s.os⟩) N1 S1 (fun h3 tk3 μ3 news3 z F3 N3 S3 E3 z3 => k _ _ _ _ _ F3 N3 S3 (E1.trans E3) z3) F1 F2 hr hk
theorem ok_rng3 {pa pb pc : PySem.Expr} {a b c : E} {np : Pos} {sn : Sn} {cp} (hg : isGlob env.scope.names ("range" : Str) = true) (ca : chkE sn vs cp a pa = true) (cb : chkE sn vs cp b pb = true) (cc : chkE sn vs cp c pc = true)
    (ha : EOk G A env vs h₀ Γ pa a) (hb : EOk G A env vs h₀ Γ pb b) (hc : EOk G A env vs h₀ Γ pc c) : EOk G A env vs h₀ Γ (.Call (.Name ("range" : Str) np) [pa, pb, pc] [] pos) (.rng3 a b c) := by
  intro μ σ loc s m news v σ' Q Er F N S V h k
  refine hide fun gX goBack => ?_
  simp only [qa1, qa2, qa3, qa4, qa5, qa6, qa7, qa8, qa9, qa10, qa11, qa12, qa13, qa14, qa15, qa16, qa17, qa18, qa19, qa20, qa21, qa22, qa23, qa24, qa25, qa26, qa27, qa28, qa29, Option.bind_eq_some_iff] at h
  obtain ⟨⟨x, σ1⟩, h1, ⟨y, σ2⟩, h2, ⟨z, σ3⟩, h3, h4⟩ := h
  refine goBack ?_
  obtain ⟨i, j, kk, rfl, rfl, rfl, hk1, hi, hj, rfl, rfl⟩ := rngV_inv h4
  refine Call_ (name_b H F hg H.KK.rng (u := .type "range") (by boot_by_name) (by decide) ?_)
  have e2 : ((backTo pos (starEach [pb, pc] env)).any (·.1)) = false := any_star sn vs cp [pb, pc] (.cons b (.cons c .nil)) (Bool.and_eq_true_iff.mpr ⟨cb, Bool.and_eq_true_iff.mpr ⟨cc, rfl⟩⟩)
  refine PyProof.Rows.callWith_type1 (spliced_more (ha μ σ loc s m news _ _ _ _ F N S V h1 fun h' tk μ1 news1 x F1 N1 S1 E1 x1 => spliced_more (hb μ1 σ1 loc _ m news1 _ _ _ _ F1 N1 S1 (V.ext S E1) h2 fun h'' tk' μ2 news2 y F2 N2 S2 E2 y2 =>
    spliced_more (hc μ2 σ2 loc _ m news2 _ _ _ _ F2 N2 S2 ((V.ext S E1).ext S1 E2) h3 fun h3' tk3 μ3 news3 z F3 N3 S3 E3 z3 => spliced_none ?_) (starE _ _ sn vs cp c cc)) (starE _ _ sn vs cp b cb)) (starE _ _ sn vs cp a ca)) (starE _ _ sn vs cp a ca) e2
  obtain ⟨t, rfl⟩ := x1
  obtain ⟨u, rfl⟩ := y2
  obtain ⟨w, rfl⟩ := z3
  exact range3_rows F3 N3 (by omega) (fun h2 tk2 t1 u1 v1 hr F4 N4 hk => rng_s (X := NoX) (s := ⟨h3', s.gens, s.drawn, tk3, s.os⟩) N3 S3 (fun h3 tk3 μ3 news3 z F3 N3 S3 E3 z3 => k _ _ _ _ _ F3 N3 S3 (E1.trans (E2.trans (Ext.trans ‹_› E3))) z3) F3 F4 hr hk) (.inl (PyProof.noPylong_small (by omega)))
omit H in
theorem list_mem {μ : Mu} {σ : Hp} {news : Nw} {id : Nat} {xs : List MV} {x : Value} (S : Sim G μ σ news) (hx : VR G.BA μ (.ref id) x) (ho : σ[id]? = some (.list xs)) : ∃ D vs n, x = .ref D ∧ (D, listOf (List.toArray vs) n) ∈ news := by
  obtain ⟨q, hq, rfl⟩ := hx
  obtain ⟨vs, n, hm, _⟩ := S.obj _ _ _ ho hq
  exact ⟨q.1, vs, n, rfl, hm⟩
omit H in
theorem meth_call {e : E} {pe : PySem.Expr} {nm : Str} {ap : Pos} {pas : List PySem.Expr} {sn : Sn} {cp} {s : Shared} {Q Er : Value → Shared → Prop} (hb : methBase e = true) (hc : chkE sn vs cp e pe = true) (hl : (ap.endLine == pos.line) = true)
    (hf : methodCallForm (pas.length + 0) (backTo pos (starEach pas env)) [] = true)
    (h : wpAny G.M A (eval pe env) (fun ov s₁ => ∀ pl, wpAny G.M A (getMethod ov nm pl) (fun fx s₂ => wpAny G.M A (callWith pos fx.1 fx.2 (backTo pos (starEach pas env)) []) Q Er s₂) Er s₁) Er s) :
    wpAny G.M A (eval (.Call (.Attribute pe nm ap) pas [] pos) env) Q Er s := by
  have hab : attributeBase pe nm env (eval pe env) = eval pe env := by
    rcases mb_sh hb hc with ⟨_, _, rfl⟩ | ⟨_, _, _, rfl⟩ | ⟨_, _, _, rfl⟩ <;> rfl
  rw [arm_eval_Call, hab]
  refine wpAny_bind (wpAny_mono h (fun ov s₁ h₁ => wpAny_bind (wpAny_standAt ?_)) fun _ _ x => x)
  unfold methodCall
  show wpAny G.M A (do
    let (f, first) ← holding [ov] (calleeOf (methodCallForm (pas.length + 0) (backTo pos (starEach pas env)) []) pe env ov nm)
    let callPos ← methodCallPos (methodCallForm (pas.length + 0) (backTo pos (starEach pas env)) []) pe env ap pos
    callWith callPos f first (backTo pos (starEach pas env)) []) Q Er s₁
  rw [hf]
  unfold calleeOf methodCallPos
  simp only [hl, Bool.not_true, Bool.false_or, if_true]
  exact wpAny_bind (wpAny_holding (wpAny_mono (h₁ _) (fun fx s₂ h₂ => wpAny_bind (wpAny_pure h₂)) fun _ _ x => x))
omit H in
theorem ok_pop {pe : PySem.Expr} {e : E} {np : Pos} {sn : Sn} {cp} (hb : methBase e = true) (hc : chkE sn vs cp e pe = true) (hl : (np.endLine == pos.line) = true) (he : EOk G A env vs h₀ Γ pe e) : EOk G A env vs h₀ Γ (.Call (.Attribute pe ("pop" : Str) np) [] [] pos) (.pop e) := by
  intro μ σ loc s m news v σ' Q Er F N S V h k
  refine hide fun gX goBack => ?_
  simp only [qa1, qa2, qa3, qa4, qa5, qa6, qa7, qa8, qa9, qa10, qa11, qa12, qa13, qa14, qa15, qa16, qa17, qa18, qa19, qa20, qa21, qa22, qa23, qa24, qa25, qa26, qa27, qa28, qa29, Option.bind_eq_some_iff] at h
  obtain ⟨⟨a, σ1⟩, h1, h2⟩ := h
  refine goBack ?_
  obtain ⟨id, xs, rfl, ho, _, _, _⟩ := popV_inv h2
  refine meth_call hb hc hl rfl (he μ σ loc s m news _ _ _ _ F N S V h1 fun h' tk μ1 news1 x F1 N1 S1 E1 x1 => fun pl => ?_)
  obtain ⟨D, us, n, rfl, hm⟩ := list_mem S1 x1 ho
  refine kl_method N1 hm PySem.F.slot_list_pop PySem.F.type_list_pop (callWith_method0 ?_)
  exact pop_s F1 N1 S1 x1 h2 fun h3 tk3 μ3 news3 z F3 N3 S3 E3 z3 => k _ _ _ _ _ F3 N3 S3 (E1.trans E3) z3
end
end Mine

/-! ## M8 -/
namespace Mine
open PySem PySem.W PyProof.Rows PySem.Calls

/-- the comprehensions of a frame, if it has some -/
noncomputable def CompsOk (G : Gl) (A : Around) (env : Env) (vs : List Str) (h₀ : Heap) (Γ : Gam) (cp : List Str → E → PySem.Expr → Bool) : Prop :=
  ∀ (e : E) (x : PySem.Expr) (gs : List Comprehension) (sc : Scope) (q : Pos), cp vs e (.ListComp x gs sc q) = true → EOk G A env vs h₀ Γ (.ListComp x gs sc q) e

section
variable {G : Gl} {K : Frag} {p : Program} {loose : List Str} {mg mb : Str → Option Value} {A : Around} {env : Env} {vs : List Str} {h₀ : Heap} {Γ : Gam} {cp : List Str → E → PySem.Expr → Bool}

theorem chk_ok (H : Frm G K p loose mg mb A env vs h₀) (CO : CallsOk G A env h₀ Γ) (HC : CompsOk G A env vs h₀ Γ cp) (e : E) :
    ∀ pe, (chkE env.scope.names vs cp e pe = true → EOk G A env vs h₀ Γ pe e) ∧ (chkT env.scope.names vs cp e pe = true → TOk G A env vs h₀ Γ pe e) := by
  refine E.rec (motive_1 := fun e => ∀ pe, (chkE env.scope.names vs cp e pe = true → EOk G A env vs h₀ Γ pe e) ∧ (chkT env.scope.names vs cp e pe = true → TOk G A env vs h₀ Γ pe e))
    (motive_2 := fun es => ∀ pes, chkEs env.scope.names vs cp es pes = true → EsOk G A env vs h₀ Γ pes es)
    ?loc ?int ?bool ?none ?glob ?bin ?un ?cmp ?cmp2 ?and ?and3 ?or ?or3 ?or4 ?ife ?attr ?idx ?key ?call ?new ?len ?rng1 ?rng3 ?list ?tup ?pop ?compR ?compL ?neNil ?nil ?cons e
  case loc =>
    intro i pe
    exact ⟨fun h => by obtain ⟨x, q, rfl, g⟩ := locK_t (shK_c h); exact ok_loc H g, fun h => by obtain ⟨x, q, rfl, g⟩ := locK_t h; exact tok_val (ok_loc H g) fun _ => rfl⟩
  case int =>
    intro i pe
    exact ⟨fun h => by obtain ⟨k, q, rfl⟩ := intK_t (shK_c h); exact ok_int _ _, ff⟩
  case bool =>
    intro i pe
    exact ⟨fun h => by obtain ⟨k, q, rfl⟩ := boolK_t (shK_c h); exact ok_bool _ _, ff⟩
  case none =>
    intro pe
    exact ⟨fun h => by obtain ⟨k, q, rfl⟩ := noneK_t (shK_c h); exact ok_none _, ff⟩
  case glob =>
    intro g pe
    exact ⟨fun h => by obtain ⟨x, q, rfl, h1, h2⟩ := globK_t (shK_c h); exact ok_glob H h1 h2, ff⟩
  case bin =>
    intro op l r il ir pe
    have key : binK op (chkE env.scope.names vs cp l) (chkE env.scope.names vs cp r) pe = true → EOk G A env vs h₀ Γ pe (.bin op l r) := fun h => by
      obtain ⟨pl, pr, q, rfl, h1, h2⟩ := binK_t h; exact ok_bin ((il _).1 h1) ((ir _).1 h2)
    exact ⟨fun h => key (shK_c h), fun h => tok_val (key h) fun _ => by obtain ⟨pl, pr, q, rfl, h1, h2⟩ := binK_t h; rfl⟩
  case un =>
    intro op e ie pe
    exact ⟨fun h => by obtain ⟨p, q, rfl, h1⟩ := unK_t (shK_c h); exact ok_un ((ie _).1 h1), fun h => by obtain ⟨rfl, p, q, rfl, h1⟩ := notK_t h; exact tok_not ((ie _).2 h1)⟩
  case cmp =>
    intro op l r il ir pe
    exact ⟨fun h => by obtain ⟨pl, pr, q, rfl, h1, h2⟩ := cmpK_t (shK_c h); exact ok_cmp ((il _).1 h1) ((ir _).1 h2), fun h => by obtain ⟨pl, pr, q, rfl, h1, h2⟩ := cmpK_t h; exact tok_cmp ((il _).1 h1) ((ir _).1 h2)⟩
  case cmp2 =>
    intro o1 o2 a b c ia ib ic pe
    refine ⟨ff, fun h => ?_⟩
    obtain ⟨pa, pb, pc, q, rfl, h1, h2, h3⟩ := cmp2K_t h
    exact tok_cmp2 ((ia _).1 h1) ((ib _).1 h2) ((ic _).1 h3) (by have h3 := (chk_sh h3).1; cases pc <;> first | rfl | exact ff h3)
  case and =>
    intro a b ia ib pe
    exact ⟨fun h => by obtain ⟨pa, pb, q, rfl, h1, h2⟩ := bo2K_t (shK_c h); exact ok_and ((ia _).1 h1) ((ib _).1 h2),
      fun h => by obtain ⟨pa, pb, q, rfl, h1, h2⟩ := bo2K_t h; exact tok_bool (rest_and ((ia _).2 h1) (rest_one ((ib _).2 h2))) fun _ _ => rfl⟩
  case and3 =>
    intro a b c ia ib ic pe
    refine ⟨ff, fun h => ?_⟩
    obtain ⟨pa, pb, pc, q, rfl, h1, h2, h3⟩ := bo3K_t h
    exact tok_bool (rest_and ((ia _).2 h1) (rest_and ((ib _).2 h2) (rest_one ((ic _).2 h3)))) fun _ _ => rfl
  case or =>
    intro a b ia ib pe
    exact ⟨fun h => by obtain ⟨pa, pb, q, rfl, h1, h2⟩ := bo2K_t (shK_c h); exact ok_or ((ia _).1 h1) ((ib _).1 h2),
      fun h => by obtain ⟨pa, pb, q, rfl, h1, h2⟩ := bo2K_t h; exact tok_bool (rest_or ((ia _).2 h1) (rest_one ((ib _).2 h2))) fun _ _ => rfl⟩
  case or3 =>
    intro a b c ia ib ic pe
    refine ⟨ff, fun h => ?_⟩
    obtain ⟨pa, pb, pc, q, rfl, h1, h2, h3⟩ := bo3K_t h
    exact tok_bool (rest_or ((ia _).2 h1) (rest_or ((ib _).2 h2) (rest_one ((ic _).2 h3)))) fun _ _ => rfl
  case or4 =>
    intro a b c d ia ib ic id pe
    refine ⟨ff, fun h => ?_⟩
    obtain ⟨pa, pb, pc, pd, q, rfl, h1, h2, h3, h4⟩ := bo4K_t h
    exact tok_bool (rest_or ((ia _).2 h1) (rest_or ((ib _).2 h2) (rest_or ((ic _).2 h3) (rest_one ((id _).2 h4))))) fun _ _ => rfl
  case ife =>
    intro c t e ic it ie pe
    exact ⟨fun h => by obtain ⟨pc, pa, pb, q, rfl, h1, h2, h3⟩ := ifeK_t (shK_c h); exact ok_ife ((ic _).2 h1) ((it _).1 h2) ((ie _).1 h3), ff⟩
  case attr =>
    intro e f ie pe
    have key : attrK fldTab[f]? (attrBase e) (chkE env.scope.names vs cp e) pe = true → EOk G A env vs h₀ Γ pe (.attr e f) := fun h => by
      obtain ⟨p, nm, q, rfl, h1, h2, h3⟩ := attrK_t h; exact ok_attr H h1 h2 h3 ((ie _).1 h3)
    exact ⟨fun h => key (shK_c h), fun h => tok_val (key h) fun _ => by obtain ⟨p, nm, q, rfl, h1, h2, h3⟩ := attrK_t h; rfl⟩
  case idx =>
    intro e i ie ii pe
    exact ⟨fun h => by obtain ⟨p, pi, q, rfl, h1, h2⟩ := idxK_t (shK_c h); exact ok_idx H h2 ((ie _).1 h1) ((ii _).1 h2), ff⟩
  case key =>
    intro e k ie pe
    exact ⟨fun h => by obtain ⟨p, x, k, q2, q, rfl, h1, h2⟩ := keyK_t (shK_c h); exact ok_key h1 ((ie _).1 h2), ff⟩
  case call =>
    intro f as ias pe
    have key : callK funNames[f]? (isGlob env.scope.names) (chkEs env.scope.names vs cp as) pe = true → EOk G A env vs h₀ Γ pe (.call f as) := fun h => by
      obtain ⟨x, np, pas, q, rfl, h1, h2, h3⟩ := callK_t h; exact ok_call H CO h1 h2 h3 (ias _ h3)
    exact ⟨fun h => key (shK_c h), fun h => tok_val (key h) fun _ => by obtain ⟨x, np, pas, q, rfl, h1, h2, h3⟩ := callK_t h; rfl⟩
  case new =>
    intro f as ias pe
    exact ⟨fun h => by obtain ⟨x, np, pas, q, rfl, h1, h2, h3⟩ := callK_t (shK_c h); exact ok_new H CO h1 h2 h3 (ias _ h3), ff⟩
  case len =>
    intro e ie pe
    exact ⟨fun h => by obtain ⟨np, p, q, rfl, h1, h2⟩ := fn1K_t (shK_c h); exact ok_len H h1 h2 ((ie _).1 h2), ff⟩
  case rng1 =>
    intro e ie pe
    exact ⟨fun h => by obtain ⟨np, p, q, rfl, h1, h2⟩ := fn1K_t (shK_c h); exact ok_rng1 H h1 h2 ((ie _).1 h2), ff⟩
  case rng3 =>
    intro a b c ia ib ic pe
    exact ⟨fun h => by obtain ⟨np, x, y, z, q, rfl, h1, h2, h3, h4⟩ := fn3K_t (shK_c h); exact ok_rng3 H h1 h2 h3 h4 ((ia _).1 h2) ((ib _).1 h3) ((ic _).1 h4), ff⟩
  case list =>
    intro es ies pe
    exact ⟨fun h => by obtain ⟨l, q, rfl, h1, h2⟩ := listK_t (shK_c h); exact ok_list (of_decide_eq_true h1) (ies _ h2), ff⟩
  case tup =>
    intro es ies pe
    exact ⟨fun h => by obtain ⟨l, k, q, rfl, h1, h2⟩ := tupK_t (shK_c h); exact ok_tup (of_decide_eq_true h1) (ies _ h2), ff⟩
  case pop =>
    intro e ie pe
    refine ⟨fun h => ?_, ff⟩
    obtain ⟨p, ap, as, po, rfl, h1, h2, h3, h4⟩ := methK_t (shK_c h)
    cases l0_t h1
    exact ok_pop h2 h4 h3 ((ie _).1 h4)
  case compR =>
    intro hi cap c ihi ic pe
    exact ⟨fun h => by obtain ⟨x, gs, sc, q, rfl, g⟩ := compK_t (shK_c h); exact HC _ _ _ _ _ g, ff⟩
  case compL =>
    intro hi cap c ihi ic pe
    exact ⟨fun h => by obtain ⟨x, gs, sc, q, rfl, g⟩ := compK_t (shK_c h); exact HC _ _ _ _ _ g, ff⟩
  case neNil =>
    intro e ie pe
    exact ⟨fun h => by obtain ⟨l, q2, q, rfl, g⟩ := nnK_t (shK_c h); exact ok_neNil H ((ie _).1 g), fun h => by obtain ⟨l, q2, q, rfl, g⟩ := nnK_t h; exact tok_neNil H ((ie _).1 g)⟩
  case nil =>
    intro pes h
    cases l0_t h
    exact oks_nil
  case cons =>
    intro e r ie ir pes h
    obtain ⟨pe, pr, rfl, h1, h2⟩ := consK_t h
    exact oks_cons h1 ((ie _).1 h1) (ir _ h2)
end
end Mine

/-! ## M9 -/
namespace Mine
open PySem PySem.W PyProof.Rows PySem.Calls

noncomputable def FlR (BA : Nat → Addr) (μ : Mu) : Fl → Flow → Prop
  | .next, f => f = .next
  | .ret v, f => ∃ x, f = .ret x ∧ VR BA μ v x

noncomputable def Ks (G : Gl) (env : Env) (vs : List Str) (h₀ : Heap) (s : Shared) (μ : Mu) (σ : Hp) (news : Nw) (fl : Fl) (loc' : Loc) (σ' : Hp) (Q : Flow → Shared → Prop) : Prop :=
  ∀ h' tk m' μ' news' f, Fr h₀ env.locals h' m' → News h₀ env.locals h' news' → Sim G μ' σ' news' → Ext (CellAddr env) μ σ news μ' σ' news' → Vars G.BA env vs μ' loc' m' news' → FlR G.BA μ' fl f → Q f ⟨h', s.gens, s.drawn, tk, s.os⟩

section
variable (G : Gl) (A : Around) (env : Env) (vs : List Str) (h₀ : Heap) (Γ : Gam)
noncomputable def SOk (ps : Stmt) (ev : Loc → Hp → Out) : Prop := ∀ (μ : Mu) (σ : Hp) (loc : Loc) (s : Shared) (m : Str → Option Value) (news : Nw) (fl : Fl) (loc' : Loc) (σ' : Hp) (Q : Flow → Shared → Prop) (Er : Value → Shared → Prop),
  Fr h₀ env.locals s.heap m → News h₀ env.locals s.heap news → Sim G μ σ news → Vars G.BA env vs μ loc m news → ev loc σ = some (fl, loc', σ') → Ks G env vs h₀ s μ σ news fl loc' σ' Q →
  wpAny G.M A (exec ps env) Q Er s
noncomputable def SsOk (ps : List Stmt) (ev : Loc → Hp → Out) : Prop := ∀ (μ : Mu) (σ : Hp) (loc : Loc) (s : Shared) (m : Str → Option Value) (news : Nw) (fl : Fl) (loc' : Loc) (σ' : Hp) (Q : Flow → Shared → Prop) (Er : Value → Shared → Prop),
  Fr h₀ env.locals s.heap m → News h₀ env.locals s.heap news → Sim G μ σ news → Vars G.BA env vs μ loc m news → ev loc σ = some (fl, loc', σ') → Ks G env vs h₀ s μ σ news fl loc' σ' Q →
  wpAny G.M A (execs ps env) Q Er s
end

theorem nodup_get : ∀ {l : List Str} {i j : Nat} {x : Str}, l.Nodup → l[i]? = some x → l[j]? = some x → i = j
  | [], _, _, _, _, h, _ => by simp at h
  | _ :: _, 0, 0, _, _, _, _ => rfl
  | a :: r, 0, j + 1, x, nd, h, h' => by
    simp at h h'
    subst h
    exact absurd (List.mem_of_getElem? h') (List.nodup_cons.mp nd).1
  | a :: r, i + 1, 0, x, nd, h, h' => by
    simp at h h'
    subst h'
    exact absurd (List.mem_of_getElem? h) (List.nodup_cons.mp nd).1
  | a :: r, i + 1, j + 1, x, nd, h, h' => by
    simp at h h'
    rw [nodup_get (List.nodup_cons.mp nd).2 h h']

noncomputable def storable (sn : Sn) (x : Str) : Bool := sn.lookup x == some .local || sn.lookup x == some .cell

section
variable {G : Gl} {K : Frag} {p : Program} {loose : List Str} {mg mb : Str → Option Value} {A : Around} {env : Env} {vs : List Str} {h₀ : Heap} {Γ : Gam} {pos : Pos}
  {μ μ' : Mu} {σ σ' : Hp} {loc : Loc} {s : Shared} {m : Str → Option Value} {news news' : Nw}

/-- another ledger that has all the live objects, where only this frame's cells may differ -/
theorem Sim.other (S : Sim G μ σ news) (nd : (news'.map (·.1)).Nodup) (hk : ∀ q ∈ news, Foot μ σ q.1 → q ∈ news') : Sim G μ σ news' := by
  refine ⟨nd, S.len, fun i o p ho hp => ?_, S.ap⟩
  by_cases hg : o = .gone
  · subst hg; trivial
  have z := (S.obj i o p ho hp).mono (news' := news') [] fun q hq hq' => hk q hq ⟨i, p, o, hp, ho, hg, by rcases hq' with e | e <;> simp [e]⟩
  rwa [List.append_nil] at z

theorem store_s {x : Str} {i : Nat} {v : MV} {u : Value} {Q : Unit → Shared → Prop} {Er : Value → Shared → Prop} (H : Frm G K p loose mg mb A env vs h₀) (hst : storable env.scope.names x = true) (hx : vs[i]? = some x)
    (F : Fr h₀ env.locals s.heap m) (N : News h₀ env.locals s.heap news) (S : Sim G μ σ news) (V : Vars G.BA env vs μ loc m news) (hv : VR G.BA μ v u)
    (k : ∀ h' tk m' news', Fr h₀ env.locals h' m' → News h₀ env.locals h' news' → Sim G μ σ news' → Ext (CellAddr env) μ σ news μ σ news' → Vars G.BA env vs μ (loc.set i (some v)) m' news' → Q () ⟨h', s.gens, s.drawn, tk, s.os⟩) :
    wpAny G.M A (storeName env x u) Q Er s := by
  have hi : i < loc.length := by rw [V.len]; exact (List.getElem?_eq_some_iff.mp hx).1
  have hne : ∀ (j : Nat) (y : Str), vs[j]? = some y → j ≠ i → y ≠ x := fun j y hy ne e => by
    subst e
    exact ne (nodup_get H.nd hy hx)
  have hset : ∀ (j : Nat) (ov : Option MV), (loc.set i (some v))[j]? = some ov → (j = i ∧ ov = some v) ∨ (j ≠ i ∧ loc[j]? = some ov) := fun j ov h => by
    rw [List.getElem?_set] at h
    by_cases e : i = j
    · subst e
      simp [hi] at h
      exact .inl ⟨rfl, h.symm⟩
    · rw [if_neg e] at h
      exact .inr ⟨fun z => e z.symm, h⟩
  have kind := V.at_ i x (loc[i]) hx (List.getElem?_eq_getElem hi)
  have hsn : env.kindOf x = env.scope.names.lookup x := rfl
  rcases kind with ⟨a, _⟩ | ⟨a, c, o, cv, h1, h2, h3, _⟩
  · refine wpAny_storeName_local a F.ns (fun h' hn hs => ?_) (by rw [H.kind]; rfl)
    have F' := F.set hn hs
    have N' := N.set hs
    refine k h' _ _ news F' N' S .refl ⟨by rw [List.length_set]; exact V.len, fun j y ov hy ho => ?_⟩
    rcases hset j ov ho with ⟨rfl, rfl⟩ | ⟨ne, ho⟩
    · have e : x = y := Option.some.inj (hx.symm.trans hy)
      subst e
      exact .inl ⟨a, fun v' e => by cases e; exact ⟨u, by simp, hv⟩⟩
    · rcases V.at_ j y ov hy ho with ⟨b, d⟩ | d
      · exact .inl ⟨b, fun v' e => by obtain ⟨w, q, r⟩ := d v' e; exact ⟨w, by simp only [if_neg (hne j y hy ne)]; exact q, r⟩⟩
      · exact .inr d
  · have a' : env.kindOf x = some .cell := by
      rcases a with a | a
      · exact a
      · unfold storable at hst
        rw [hsn] at a
        rw [a] at hst
        simp at hst
    have z := N _ h2
    refine wpAny_storeName_cell H.kind a' h1 ⟨o, z.1, h3⟩ fun h' hc hs => ?_
    obtain ⟨o', ho', hd'⟩ := hc
    have F' : Fr h₀ env.locals h' m := ⟨F.ns.sameBut hs (Ne.symm z.2.1), fun b ob e => (hs.2 b (fun q => by rw [q, z.2.2] at e; cases e)).trans (F.keep b ob e), F.above⟩
    have N' : News h₀ env.locals h' (repl c o' news) := fun q hq => by
      obtain ⟨r, hr, e⟩ := List.mem_map.mp hq
      by_cases hrc : r.1 = c
      · rw [if_pos hrc] at e
        subst e
        exact ⟨ho', z.2⟩
      · rw [if_neg hrc] at e
        subst e
        exact ⟨(hs.2 r.1 hrc).trans (N r hr).1, (N r hr).2⟩
    have nf := cell_not_foot S h2 h3
    have S' : Sim G μ σ (repl c o' news) := S.other (by rw [repl_keys]; exact S.nd) fun q hq hf => repl_other hq fun e => nf (e ▸ hf)
    have X' : Ext (CellAddr env) μ σ news μ σ (repl c o' news) := ⟨⟨[], by simp⟩, fun q hq _ hx' => repl_other hq fun e => hx' ⟨x, by rw [e]; exact h1⟩, fun a h => .inl h, fun a h => by rw [repl_keys]; exact h⟩
    refine k h' s.toks m _ F' N' S' X' ⟨by rw [List.length_set]; exact V.len, fun j y ov hy ho => ?_⟩
    rcases hset j ov ho with ⟨rfl, rfl⟩ | ⟨ne, ho⟩
    · have e : x = y := Option.some.inj (hx.symm.trans hy)
      subst e
      exact .inr ⟨.inl a', c, o', some u, h1, repl_self h2, hd', fun v' e => by cases e; exact ⟨u, rfl, hv⟩⟩
    · rcases V.at_ j y ov hy ho with d | ⟨b, c', o2, cv2, g1, g2, g3, g4⟩
      · exact .inl d
      · exact .inr ⟨b, c', o2, cv2, g1, repl_other g2 fun e => hne j y hy ne (H.cl y x c (by have e' : c' = c := e; rw [← e']; exact g1) h1), g3, g4⟩
end
end Mine

/-! ## M10 -/
namespace Mine
open PySem PySem.W PyProof.Rows PySem.Calls

section
variable {G : Gl} {K : Frag} {p : Program} {loose : List Str} {mg mb : Str → Option Value} {A : Around} {env : Env} {vs : List Str} {h₀ : Heap} {Γ : Gam} {pos pos' : Pos}
  {μ μ' : Mu} {σ σ' : Hp} {loc : Loc} {s : Shared} {m : Str → Option Value} {news news' : Nw}

theorem ss_nil : SsOk G A env vs h₀ [] (evSs Γ .nil) := by
  intro μ σ loc s m news fl loc' σ' Q Er F N S V h k
  simp only [qd1, qd2] at h
  cases h
  exact wpAny_execs_nil (k s.heap s.toks m μ news _ F N S .refl V rfl)
theorem ss_cons {ps : Stmt} {pr : List Stmt} {st : S} {r : Ss} (hs : SOk G A env vs h₀ ps (evS Γ st)) (hr : SsOk G A env vs h₀ pr (evSs Γ r)) : SsOk G A env vs h₀ (ps :: pr) (evSs Γ (.cons st r)) := by
  intro μ σ loc s m news fl loc' σ' Q Er F N S V h k
  refine hide fun gX goBack => ?_
  simp only [qd1, qd2, Option.bind_eq_some_iff] at h
  obtain ⟨⟨f1, loc1, σ1⟩, h1, h2⟩ := h
  refine goBack ?_
  refine wpAny_execs_cons (hs μ σ loc s m news f1 loc1 σ1 _ _ F N S V h1 fun h' tk m1 μ1 news1 f F1 N1 S1 E1 V1 hf => ?_)
  cases f1 with
  | next =>
    cases hf
    simp only at h2
    exact hr μ1 σ1 loc1 _ m1 news1 _ _ _ _ _ F1 N1 S1 V1 h2 fun h'' tk' m2 μ2 news2 f F2 N2 S2 E2 V2 hf => k _ _ _ _ _ _ F2 N2 S2 (E1.trans E2) V2 hf
  | ret v =>
    obtain ⟨x, rfl, hv⟩ := hf
    cases h2
    exact k _ _ _ _ _ _ F1 N1 S1 E1 V1 ⟨x, rfl, hv⟩

theorem no_swap {pe : PySem.Expr} {e : E} {sn : Sn} {cp} {t : Option PySem.Expr} {l : Nat} (hc : chkE sn vs cp e pe = true) (hn : noComp e = true) : swapsWith pe t l env = pure false := by
  have h1 := (chk_sh hc).1
  have h2 := (chk_sh hc).2 hn
  cases pe <;> first | rfl | exact ff h1 | exact ff h2

theorem s_set {x : Str} {i : Nat} {pe : PySem.Expr} {e : E} (H : Frm G K p loose mg mb A env vs h₀) (hst : storable env.scope.names x = true) (hx : vs[i]? = some x) (hsw : swapsWith pe (some (.Name x pos')) pos.line env = pure false) (he : EOk G A env vs h₀ Γ pe e) :
    SOk G A env vs h₀ (.Assign [.Name x pos'] pe pos) (evS Γ (.set i e)) := by
  intro μ σ loc s m news fl loc' σ' Q Er F N S V h k
  refine hide fun gX goBack => ?_
  simp only [qc1, qc2, qc3, qc4, qc5, qc6, qc7, qc8, qc9, qc10, qc11, qc12, qc13, qc14, qc15, qc16, qc17, qc18, Option.bind_eq_some_iff] at h
  obtain ⟨⟨v, σ1⟩, h1, h2⟩ := h
  refine goBack ?_
  cases h2
  refine wpAny_Assign_Name (he μ σ loc s m news _ _ _ _ F N S V h1 fun h' tk μ1 news1 u F1 N1 S1 E1 hu => store_s H hst hx F1 N1 S1 (V.ext S E1) hu fun h2 tk2 m2 news2 F2 N2 S2 E2 V2 => ?_) hsw
  exact k _ _ _ _ _ _ F2 N2 S2 (E1.wk.trans E2) V2 rfl

theorem s_setA {nm : Str} {f : Nat} {po pe : PySem.Expr} {o e : E} (H : Frm G K p loose mg mb A env vs h₀) (hf : fldTab[f]? = some nm) (hsw : swapsWith pe (some (.Attribute po nm pos')) pos.line env = pure false) (ho : EOk G A env vs h₀ Γ po o) (he : EOk G A env vs h₀ Γ pe e) :
    SOk G A env vs h₀ (.Assign [.Attribute po nm pos'] pe pos) (evS Γ (.setA o f e)) := by
  intro μ σ loc s m news fl loc' σ' Q Er F N S V h k
  refine hide fun gX goBack => ?_
  simp only [qc1, qc2, qc3, qc4, qc5, qc6, qc7, qc8, qc9, qc10, qc11, qc12, qc13, qc14, qc15, qc16, qc17, qc18, Option.bind_eq_some_iff] at h
  obtain ⟨⟨v, σ1⟩, h1, ⟨w, σ2⟩, h2, σ3, h3, h4⟩ := h
  refine goBack ?_
  cases h4
  refine plainObj_wpAny_Assign_Attribute (he μ σ loc s m news _ _ _ _ F N S V h1 fun h' tk μ1 news1 u F1 N1 S1 E1 hu => ho μ1 σ1 loc _ m news1 _ _ _ _ F1 N1 S1 (V.ext S E1) h2 fun h'' tk2 μ2 news2 y F2 N2 S2 E2 hy => ?_) hsw
  exact putA_s (X := NoX) H.KK H.X F2 N2 S2 hf hy (hu.ext E2) h3 fun h3 tk3 μ3 news3 F3 N3 S3 E3 => k _ _ _ _ _ _ F3 N3 S3 (E1.trans (E2.trans E3)).wk (((V.ext S E1).ext S1 E2).ext S2 E3) rfl

theorem s_setI {po pi pe : PySem.Expr} {o i e : E} (hsw : swapsWith pe (some (.Subscript po pi pos')) pos.line env = pure false) (ho : EOk G A env vs h₀ Γ po o) (hi : EOk G A env vs h₀ Γ pi i) (he : EOk G A env vs h₀ Γ pe e) :
    SOk G A env vs h₀ (.Assign [.Subscript po pi pos'] pe pos) (evS Γ (.setI o i e)) := by
  intro μ σ loc s m news fl loc' σ' Q Er F N S V h k
  refine hide fun gX goBack => ?_
  simp only [qc1, qc2, qc3, qc4, qc5, qc6, qc7, qc8, qc9, qc10, qc11, qc12, qc13, qc14, qc15, qc16, qc17, qc18, Option.bind_eq_some_iff] at h
  obtain ⟨⟨v, σ1⟩, h1, ⟨w, σ2⟩, h2, ⟨j, σ3⟩, h3, σ4, h4, h5⟩ := h
  refine goBack ?_
  cases h5
  refine wpAny_Assign_Subscript (he μ σ loc s m news _ _ _ _ F N S V h1 fun h' tk μ1 news1 u F1 N1 S1 E1 hu => ho μ1 σ1 loc _ m news1 _ _ _ _ F1 N1 S1 (V.ext S E1) h2 fun h'' tk2 μ2 news2 y F2 N2 S2 E2 hy =>
    hi μ2 σ2 loc _ m news2 _ _ _ _ F2 N2 S2 ((V.ext S E1).ext S1 E2) h3 fun h3' tk3 μ3 news3 z F3 N3 S3 E3 hz => ?_) hsw
  exact putI_s (X := NoX) F3 N3 S3 (hy.ext E3) hz (hu.ext (E2.trans E3)) h4 fun h4 tk4 μ4 news4 F4 N4 S4 E4 => k _ _ _ _ _ _ F4 N4 S4 (E1.trans (E2.trans (E3.trans E4))).wk ((((V.ext S E1).ext S1 E2).ext S2 E3).ext S3 E4) rfl

theorem binA_inv {op : Operator} {v w r : MV} (h : binA op v w σ = some (r, σ')) : (∃ a, v = .int a) ∧ binV op v w σ = some (r, σ') := by
  unfold binA at h
  split at h
  · exact ⟨⟨_, rfl⟩, h⟩
  · cases h

theorem s_augN {x : Str} {i : Nat} {op : Operator} {pe : PySem.Expr} {e : E} (H : Frm G K p loose mg mb A env vs h₀) (hst : storable env.scope.names x = true) (hx : vs[i]? = some x) (he : EOk G A env vs h₀ Γ pe e) :
    SOk G A env vs h₀ (.AugAssign (.Name x pos') op pe pos) (evS Γ (.augN i op e)) := by
  intro μ σ loc s m news fl loc' σ' Q Er F N S V h k
  refine hide fun gX goBack => ?_
  simp only [qc1, qc2, qc3, qc4, qc5, qc6, qc7, qc8, qc9, qc10, qc11, qc12, qc13, qc14, qc15, qc16, qc17, qc18, Option.bind_eq_some_iff] at h
  obtain ⟨v, h0, ⟨w, σ1⟩, h1, ⟨r, σ2⟩, h2, h3⟩ := h
  refine goBack ?_
  cases h3
  obtain ⟨hi, h2⟩ := binA_inv h2
  have hl : loc[i]? = some (some v) := by
    cases q : loc[i]? with
    | none => rw [q] at h0; cases h0
    | some o => rw [q] at h0; simp at h0; rw [h0]
  have rest : ∀ (u : Value), VR G.BA μ v u → wpAny G.M A (eval pe env) (fun y s₂ => wpAny G.M A (inplaceOp op u y) (fun r s₃ => wpAny G.M A (storeName env x r) (fun _ => Q .next) Er s₃) Er s₂) Er s := fun u hu =>
    he μ σ loc s m news _ _ _ _ F N S V h1 fun h' tk μ1 news1 y F1 N1 S1 E1 hy => binV_i (X := NoX) F1 N1 S1 (hu.ext E1) hy h2 hi fun h2' tk2 μ2 news2 z F2 N2 S2 E2 hz =>
      store_s H hst hx F2 N2 S2 ((V.ext S E1).ext S1 E2) hz fun h3 tk3 m3 news3 F3 N3 S3 E3 V3 => k _ _ _ _ _ _ F3 N3 S3 ((E1.trans E2).wk.trans E3) V3 rfl
  refine wpAny_AugAssign_Name ?_
  obtain ⟨d1, d2⟩ := H.vok x (List.mem_of_getElem? hx)
  rcases V.at_ i x _ hx hl with ⟨a, b⟩ | ⟨a, c, o, cv, g1, g2, g3, g4⟩
  · obtain ⟨u, q, r⟩ := b v rfl
    exact wpAny_loadName_local H.kind a F.ns q (rest u r)
  · obtain ⟨u, q, r⟩ := g4 v rfl
    subst q
    rcases a with a | a
    · exact wpAny_loadName_cell H.kind a g1 ⟨o, N.get g2, g3⟩ (rest u r)
    · exact wpAny_loadName_free H.kind a g1 ⟨o, N.get g2, g3⟩ (rest u r) d2

theorem s_augA {nm : Str} {f : Nat} {op : Operator} {po pe : PySem.Expr} {o e : E} (H : Frm G K p loose mg mb A env vs h₀) (hf : fldTab[f]? = some nm) (ho : EOk G A env vs h₀ Γ po o) (he : EOk G A env vs h₀ Γ pe e) :
    SOk G A env vs h₀ (.AugAssign (.Attribute po nm pos') op pe pos) (evS Γ (.augA o f op e)) := by
  intro μ σ loc s m news fl loc' σ' Q Er F N S V h k
  refine hide fun gX goBack => ?_
  simp only [qc1, qc2, qc3, qc4, qc5, qc6, qc7, qc8, qc9, qc10, qc11, qc12, qc13, qc14, qc15, qc16, qc17, qc18, Option.bind_eq_some_iff] at h
  obtain ⟨⟨w, σ1⟩, h1, v, h2, ⟨j, σ2⟩, h3, ⟨r, σ3⟩, h4, σ4, h5, h6⟩ := h
  refine goBack ?_
  cases h6
  obtain ⟨hi, h4⟩ := binA_inv h4
  refine wpAny_AugAssign_AttributeAny (ho μ σ loc s m news _ _ _ _ F N S V h1 fun h' tk μ1 news1 y F1 N1 S1 E1 hy => getA_s (X := NoX) H.KK H.X F1 N1 S1 hf hy h2 fun ha tka μa newsa u Fa Na Sa Ea hu =>
    he μa σ1 loc _ m newsa _ _ _ _ Fa Na Sa ((V.ext S E1).ext S1 Ea) h3 fun h2' tk2 μ2 news2 z F2 N2 S2 E2 hz => binV_i (X := NoX) F2 N2 S2 (hu.ext E2) hz h4 hi fun h3' tk3 μ3 news3 q F3 N3 S3 E3 hq =>
      putA_s (X := NoX) H.KK H.X F3 N3 S3 hf (hy.ext (Ea.trans (E2.trans E3))) hq h5 fun h4 tk4 μ4 news4 F4 N4 S4 E4 =>
        k _ _ _ _ _ _ F4 N4 S4 (E1.trans (Ea.trans (E2.trans (E3.trans E4)))).wk (V.ext S (E1.trans (Ea.trans (E2.trans (E3.trans E4))))) rfl)

theorem s_augI {op : Operator} {po pi pe : PySem.Expr} {o i e : E} {sn : Sn} {cp} (H : Frm G K p loose mg mb A env vs h₀) (hc : chkE sn vs cp i pi = true) (ho : EOk G A env vs h₀ Γ po o) (hi' : EOk G A env vs h₀ Γ pi i) (he : EOk G A env vs h₀ Γ pe e) :
    SOk G A env vs h₀ (.AugAssign (.Subscript po pi pos') op pe pos) (evS Γ (.augI o i op e)) := by
  intro μ σ loc s m news fl loc' σ' Q Er F N S V h k
  refine hide fun gX goBack => ?_
  simp only [qc1, qc2, qc3, qc4, qc5, qc6, qc7, qc8, qc9, qc10, qc11, qc12, qc13, qc14, qc15, qc16, qc17, qc18, Option.bind_eq_some_iff] at h
  obtain ⟨⟨w, σ1⟩, h1, ⟨ix, σ2⟩, h2, v, h3, ⟨j, σ3⟩, h4, ⟨r, σ4⟩, h5, σ5, h6, h7⟩ := h
  refine goBack ?_
  cases h7
  obtain ⟨hi, h5⟩ := binA_inv h5
  refine wpAny_AugAssign_SubscriptAny (ho μ σ loc s m news _ _ _ _ F N S V h1 fun h' tk μ1 news1 y F1 N1 S1 E1 hy => hi' μ1 σ1 loc _ m news1 _ _ _ _ F1 N1 S1 (V.ext S E1) h2 fun hb tkb μb newsb iy Fb Nb Sb Eb hiy =>
    getI_s (X := NoX) H.KK H.X Fb Nb Sb (hy.ext Eb) hiy h3 fun ha tka μa newsa u Fa Na Sa Ea hu =>
    he μa σ2 loc _ m newsa _ _ _ _ Fa Na Sa (V.ext S (E1.trans (Eb.trans Ea))) h4 fun h2' tk2 μ2 news2 z F2 N2 S2 E2 hz => binV_i (X := NoX) F2 N2 S2 (hu.ext E2) hz h5 hi fun h3' tk3 μ3 news3 q F3 N3 S3 E3 hq =>
      putI_s (X := NoX) F3 N3 S3 (hy.ext (Eb.trans (Ea.trans (E2.trans E3)))) (hiy.ext (Ea.trans (E2.trans E3))) hq h6 fun h4 tk4 μ4 news4 F4 N4 S4 E4 =>
        k _ _ _ _ _ _ F4 N4 S4 (E1.trans (Eb.trans (Ea.trans (E2.trans (E3.trans E4))))).wk (V.ext S (E1.trans (Eb.trans (Ea.trans (E2.trans (E3.trans E4)))))) rfl) ?_
  intro ov iv new
  have hc := (chk_sh hc).1
  cases pi <;> first | rfl | exact ff hc

theorem s_augK {nm : Str} {f kk : Nat} {p2 : Pos} {op : Operator} {po pe : PySem.Expr} {o e : E} (hf : fldTab[f]? = some nm) (ho : EOk G A env vs h₀ Γ po o) (he : EOk G A env vs h₀ Γ pe e) :
    SOk G A env vs h₀ (.AugAssign (.Subscript po (.Constant (.str nm) kk p2) pos') op pe pos) (evS Γ (.augK o f op e)) := by
  intro μ σ loc s m news fl loc' σ' Q Er F N S V h k
  refine hide fun gX goBack => ?_
  simp only [qc1, qc2, qc3, qc4, qc5, qc6, qc7, qc8, qc9, qc10, qc11, qc12, qc13, qc14, qc15, qc16, qc17, qc18, Option.bind_eq_some_iff] at h
  obtain ⟨⟨w, σ1⟩, h1, v, h3, ⟨j, σ3⟩, h4, ⟨r, σ4⟩, h5, σ5, h6, h7⟩ := h
  refine goBack ?_
  cases h7
  obtain ⟨hi, h5⟩ := binA_inv h5
  refine wpAny_AugAssign_SubscriptAny (ho μ σ loc s m news _ _ _ _ F N S V h1 fun h' tk μ1 news1 y F1 N1 S1 E1 hy => wpAny_Constant_str ?_) ?_
  · refine getK_s (X := NoX) (s := ⟨h', s.gens, s.drawn, tk + 1, s.os⟩) F1 N1 S1 hf hy h3 fun ha tka μa newsa u Fa Na Sa Ea hu =>
      he μa σ1 loc _ m newsa _ _ _ _ Fa Na Sa (V.ext S (E1.trans Ea)) h4 fun h2' tk2 μ2 news2 z F2 N2 S2 E2 hz => binV_i (X := NoX) F2 N2 S2 (hu.ext E2) hz h5 hi fun h3' tk3 μ3 news3 q F3 N3 S3 E3 hq =>
        putK_s (X := NoX) F3 N3 S3 hf (hy.ext (Ea.trans (E2.trans E3))) hq h6 fun h4 tk4 μ4 news4 F4 N4 S4 E4 =>
          k _ _ _ _ _ _ F4 N4 S4 (E1.trans (Ea.trans (E2.trans (E3.trans E4)))).wk (V.ext S (E1.trans (Ea.trans (E2.trans (E3.trans E4))))) rfl
  · intro ov iv new
    rfl

theorem s_ifs {pc : PySem.Expr} {pt pe : List Stmt} {c : E} {t e : Ss} (hc : TOk G A env vs h₀ Γ pc c) (ht : SsOk G A env vs h₀ pt (evSs Γ t)) (he : SsOk G A env vs h₀ pe (evSs Γ e)) : SOk G A env vs h₀ (.If pc pt pe pos) (evS Γ (.ifs c t e)) := by
  intro μ σ loc s m news fl loc' σ' Q Er F N S V h k
  refine hide fun gX goBack => ?_
  simp only [qc1, qc2, qc3, qc4, qc5, qc6, qc7, qc8, qc9, qc10, qc11, qc12, qc13, qc14, qc15, qc16, qc17, qc18, Option.bind_eq_some_iff] at h
  obtain ⟨⟨v, σ1⟩, h1, b, h2, h3⟩ := h
  refine goBack ?_
  refine wpAny_If (hc μ σ loc s m news v b σ1 _ _ F N S V h1 h2 fun h' tk μ1 news1 F1 N1 S1 E1 => ?_)
  cases b with
  | true =>
    simp only [if_true] at h3 ⊢
    exact ht μ1 σ1 loc _ m news1 _ _ _ _ _ F1 N1 S1 (V.ext S E1) h3 fun h'' tk' m2 μ2 news2 f F2 N2 S2 E2 V2 hf => k _ _ _ _ _ _ F2 N2 S2 (E1.wk.trans E2) V2 hf
  | false =>
    simp only [Bool.false_eq_true, if_false] at h3 ⊢
    exact he μ1 σ1 loc _ m news1 _ _ _ _ _ F1 N1 S1 (V.ext S E1) h3 fun h'' tk' m2 μ2 news2 f F2 N2 S2 E2 V2 hf => k _ _ _ _ _ _ F2 N2 S2 (E1.wk.trans E2) V2 hf

theorem s_ret {pe : PySem.Expr} {e : E} (he : EOk G A env vs h₀ Γ pe e) : SOk G A env vs h₀ (.Return (some pe) pos) (evS Γ (.ret e)) := by
  intro μ σ loc s m news fl loc' σ' Q Er F N S V h k
  refine hide fun gX goBack => ?_
  simp only [qc1, qc2, qc3, qc4, qc5, qc6, qc7, qc8, qc9, qc10, qc11, qc12, qc13, qc14, qc15, qc16, qc17, qc18, Option.bind_eq_some_iff] at h
  obtain ⟨⟨v, σ1⟩, h1, h2⟩ := h
  refine goBack ?_
  cases h2
  exact wpAny_Return_some (he μ σ loc s m news _ _ _ _ F N S V h1 fun h' tk μ1 news1 u F1 N1 S1 E1 hu => k _ _ _ _ _ _ F1 N1 S1 E1.wk (V.ext S E1) ⟨u, rfl, hu⟩)

theorem s_expr {pe : PySem.Expr} {e : E} (hi : interactive env = false) (hsw : swapsWith pe none pos.line env = pure false) (he : EOk G A env vs h₀ Γ pe e) : SOk G A env vs h₀ (.Expr pe pos) (evS Γ (.expr e)) := by
  intro μ σ loc s m news fl loc' σ' Q Er F N S V h k
  refine hide fun gX goBack => ?_
  simp only [qc1, qc2, qc3, qc4, qc5, qc6, qc7, qc8, qc9, qc10, qc11, qc12, qc13, qc14, qc15, qc16, qc17, qc18, Option.bind_eq_some_iff] at h
  obtain ⟨⟨v, σ1⟩, h1, h2⟩ := h
  refine goBack ?_
  split at h2
  · rename_i hv
    simp only at hv
    subst hv
    cases h2
    refine wpAny_Expr (he μ σ loc s m news _ _ _ _ F N S V h1 fun h' tk μ1 news1 u F1 N1 S1 E1 hu => ?_) hi hsw
    cases hu
    exact k _ _ _ _ _ _ F1 N1 S1 E1.wk (V.ext S E1) rfl
  · cases h2

theorem isL_inv {v : MV} (h : isL σ v = true) : ∃ id xs, v = .ref id ∧ σ[id]? = some (.list xs) := by
  unfold isL at h
  split at h
  · split at h
    · rename_i xs e; exact ⟨_, xs, rfl, e⟩
    · cases h
  · cases h
theorem s_app {po pe : PySem.Expr} {o e : E} {ap q : Pos} {sn : Sn} {cp} (hb : methBase o = true) (hco : chkE sn vs cp o po = true) (hce : chkE sn vs cp e pe = true) (hl : (ap.endLine == q.line) = true) (hi : interactive env = false)
    (ho : EOk G A env vs h₀ Γ po o) (he : EOk G A env vs h₀ Γ pe e) : SOk G A env vs h₀ (.Expr (.Call (.Attribute po ("append" : Str) ap) [pe] [] q) pos) (evS Γ (.app o e)) := by
  intro μ σ loc s m news fl loc' σ' Q Er F N S V h k
  refine hide fun gX goBack => ?_
  simp only [qc1, qc2, qc3, qc4, qc5, qc6, qc7, qc8, qc9, qc10, qc11, qc12, qc13, qc14, qc15, qc16, qc17, qc18, Option.bind_eq_some_iff] at h
  obtain ⟨⟨v, σ1⟩, h1, h0⟩ := h
  refine goBack ?_
  split at h0
  · cases h0
  rename_i hL
  simp only [Option.bind_eq_some_iff] at h0
  obtain ⟨⟨w, σ2⟩, h2, σ3, h3, h4⟩ := h0
  cases h4
  obtain ⟨id, xs, rfl, ho1⟩ := isL_inv (by simpa using hL)
  have hst : starEach [pe] env = [(false, eval pe env)] := starE pe [] sn vs cp e hce
  refine wpAny_Expr (meth_call hb hco hl (by rw [hst]; rfl) (ho μ σ loc s m news _ _ _ _ F N S V h1 fun h' tk μ1 news1 x F1 N1 S1 E1 x1 => fun pl => ?_)) hi rfl
  obtain ⟨D, us, n, rfl, hm⟩ := list_mem S1 x1 ho1
  refine listMethod_K N1 hm PySem.F.slot_list_append PySem.F.type_list_append (callWith_method1 (spliced_more (he μ1 σ1 loc _ m news1 _ _ _ _ F1 N1 S1 (V.ext S E1) h2 fun h'' tk2 μ2 news2 y F2 N2 S2 E2 hy => spliced_none ?_) (starE _ _ sn vs cp e hce)) (starE _ _ sn vs cp e hce) rfl)
  exact app_s (X := NoX) F2 N2 S2 (x1.ext E2) hy h3 fun h3 tk3 μ3 news3 z F3 N3 S3 E3 hz => by
    cases hz
    exact k _ _ _ _ _ _ F3 N3 S3 (E1.trans (E2.trans E3)).wk (V.ext S (E1.trans (E2.trans E3))) rfl
end
end Mine

/-! ## M11 -/
namespace Mine
open PySem PySem.W PyProof.Rows PySem.Calls

section
variable {G : Gl} {K : Frag} {p : Program} {loose : List Str} {mg mb : Str → Option Value} {A : Around} {env : Env} {vs : List Str} {h₀ : Heap} {Γ : Gam} {pos pos' : Pos}
  {μ μ' : Mu} {σ σ' : Hp} {loc : Loc} {s : Shared} {m : Str → Option Value} {news news' : Nw}

def WhInv (G : Gl) (env : Env) (vs : List Str) (h₀ : Heap) (Γ : Gam) (c : E) (b : Ss) (μ : Mu) (σ : Hp) (news : Nw) (s : Shared) (fl : Fl) (loc' : Loc) (σ' : Hp) (n : Nat) (s' : Shared) : Prop :=
  ∃ μ1 σ1 loc1 m1 news1 h1 tk1, s' = ⟨h1, s.gens, s.drawn, tk1, s.os⟩ ∧ Fr h₀ env.locals h1 m1 ∧ News h₀ env.locals h1 news1 ∧ Sim G μ1 σ1 news1 ∧ Vars G.BA env vs μ1 loc1 m1 news1 ∧
    Ext (CellAddr env) μ σ news μ1 σ1 news1 ∧ whileN (fun loc σ => evE Γ loc c σ) (evSs Γ b) n loc1 σ1 = some (fl, loc', σ')
theorem s_while {pc : PySem.Expr} {pb : List Stmt} {c : E} {b : Ss} (hc : TOk G A env vs h₀ Γ pc c) (hb : SsOk G A env vs h₀ pb (evSs Γ b)) : SOk G A env vs h₀ (.While pc pb [] pos) (evS Γ (.while c b)) := by
  intro μ σ loc s m news fl loc' σ' Q Er F N S V h k
  simp only [qc1, qc2, qc3, qc4, qc5, qc6, qc7, qc8, qc9, qc10, qc11, qc12, qc13, qc14, qc15, qc16, qc17, qc18] at h
  refine wpAny_While ?_
  refine codeAny_whileLoop (prog := G.prog) (w := G.w) (WhInv G env vs h₀ Γ c b μ σ news s fl loc' σ') ?_ fuel ⟨μ, σ, loc, m, news, s.heap, s.toks, rfl, F, N, S, V, .refl, h⟩
  rintro n s' ⟨μ1, σ1, loc1, m1, news1, h1, tk1, rfl, F1, N1, S1, V1, E1, hw⟩
  cases n with
  | zero => cases hw
  | succ n =>
    simp only [whileN, Option.bind_eq_some_iff] at hw
    obtain ⟨⟨v, σ2⟩, g1, t, g2, g3⟩ := hw
    refine hc μ1 σ1 loc1 _ m1 news1 v t σ2 _ _ F1 N1 S1 V1 g1 g2 fun h2 tk2 μ2 news2 F2 N2 S2 E2 => ?_
    have V2 := V1.ext S1 E2
    cases t with
    | false =>
      simp only [Bool.false_eq_true, if_false] at g3 ⊢
      cases g3
      exact wpAny_execs_nil (k _ _ _ _ _ _ F2 N2 S2 (E1.trans E2.wk) V2 rfl)
    | true =>
      simp only [if_true, Option.bind_eq_some_iff] at g3 ⊢
      obtain ⟨⟨f3, loc3, σ3⟩, g4, g5⟩ := g3
      refine hb μ2 σ2 loc1 _ m1 news2 f3 loc3 σ3 _ _ F2 N2 S2 V2 g4 fun h3 tk3 m3 μ3 news3 f F3 N3 S3 E3 V3 hf => ?_
      cases f3 with
      | next =>
        cases hf
        exact ⟨n, Nat.lt_succ_self n, μ3, σ3, loc3, m3, news3, h3, tk3, rfl, F3, N3, S3, V3, E1.trans (E2.wk.trans E3), g5⟩
      | ret v' =>
        obtain ⟨x, rfl, hx⟩ := hf
        cases g5
        exact k _ _ _ _ _ _ F3 N3 S3 (E1.trans (E2.wk.trans E3)) V3 ⟨x, rfl, hx⟩

/-! for -/
theorem Ext.filter {X : Addr → Prop} {I : Addr} (e : Ext X μ σ news μ' σ' news') (hI : I ∉ news.map (·.1)) : Ext X μ σ news μ' σ' (news'.filter fun q => !decide (q.1 = I)) := by
  refine ⟨e.pre, fun q hq hf hx => List.mem_filter.mpr ⟨e.keep q hq hf hx, ?_⟩, e.foot, fun a ha => ?_⟩
  · have : q.1 ≠ I := fun z => hI (z ▸ List.mem_map.mpr ⟨q, hq, rfl⟩)
    simp [this]
  · obtain ⟨q, hq, rfl⟩ := List.mem_map.mp (e.keys a ha)
    have : q.1 ≠ I := fun z => hI (z ▸ ha)
    exact List.mem_map.mpr ⟨q, List.mem_filter.mpr ⟨hq, by simp [this]⟩, rfl⟩
theorem Sim.filter {I : Addr} (S : Sim G μ σ news) (hI : ¬ Foot μ σ I) : Sim G μ σ (news.filter fun q => !decide (q.1 = I)) := by
  refine S.other ?_ fun q hq hf => List.mem_filter.mpr ⟨hq, ?_⟩
  · exact List.Nodup.sublist (List.Sublist.map _ List.filter_sublist) S.nd
  · have : q.1 ≠ I := fun z => hI (z ▸ hf)
    simp [this]
theorem Sim.cons {I : Addr} {o : Obj} (S : Sim G μ σ news) (hI : I ∉ news.map (·.1)) : Sim G μ σ ((I, o) :: news) :=
  S.other (by rw [List.map_cons, List.nodup_cons]; exact ⟨hI, S.nd⟩) fun _ hq _ => .tail _ hq
theorem Ext.cons {X : Addr → Prop} {I : Addr} {o : Obj} : Ext X μ σ news μ σ ((I, o) :: news) :=
  ⟨⟨[], by simp⟩, fun _ hq _ _ => .tail _ hq, fun _ h => .inl h, fun a ha => by rw [List.map_cons]; exact .tail _ ha⟩
theorem Vars.sub {BA : Nat → Addr} (V : Vars BA env vs μ loc m news) (hk : ∀ q ∈ news, CellAddr env q.1 → q ∈ news') : Vars BA env vs μ loc m news' := by
  refine ⟨V.len, fun i x ov hx ho => ?_⟩
  rcases V.at_ i x ov hx ho with d | ⟨b, c, o, cv, g1, g2, g3, g4⟩
  · exact .inl d
  · exact .inr ⟨b, c, o, cv, g1, hk _ g2 ⟨x, g1⟩, g3, g4⟩
theorem Vars.setL {BA : Nat → Addr} {x : Str} {i : Nat} {v : MV} {u : Value} (V : Vars BA env vs μ loc m news) (nd : vs.Nodup) (hx : vs[i]? = some x) (hl : env.kindOf x = some .local) (hv : VR BA μ v u) :
    Vars BA env vs μ (loc.set i (some v)) (fun y => if y = x then some u else m y) news := by
  refine ⟨by rw [List.length_set]; exact V.len, fun j y ov hy ho => ?_⟩
  rw [List.getElem?_set] at ho
  by_cases e : i = j
  · subst e
    have e2 : x = y := Option.some.inj (hx.symm.trans hy)
    subst e2
    split at ho
    · rename_i hi
      simp at hi
      split at ho
      · cases ho
        exact .inl ⟨hl, fun v' e => by cases e; exact ⟨u, by simp, hv⟩⟩
      · cases ho
    · rename_i hi; exact absurd rfl hi
  · rw [if_neg e] at ho
    have hne : y ≠ x := fun z => e (nodup_get nd hx (z ▸ hy))
    rcases V.at_ j y ov hy ho with ⟨b, d⟩ | d
    · exact .inl ⟨b, fun v' e => by obtain ⟨w, q, r⟩ := d v' e; exact ⟨w, by simp only [if_neg hne]; exact q, r⟩⟩
    · exact .inr d

/-- a loop over things that are drawn one by one -/
theorem for_loop {x : Str} {i : Nat} {pb : List Stmt} {b : Ss} {vals : List MV} {I : Addr} {fp : List Addr} {n : Nat} {P : Nat → Value → Prop} {St : Nat → Heap → Prop} {fl : Fl} {loc' : Loc} {Q : Flow → Shared → Prop} {Er : Value → Shared → Prop} {s₂ : Shared}
    (H : Frm G K p loose mg mb A env vs h₀) (hx : vs[i]? = some x) (hl : env.kindOf x = some .local) (hb : SsOk G A env vs h₀ pb (evSs Γ b))
    (F : Fr h₀ env.locals s₂.heap m) (N : News h₀ env.locals s₂.heap news) (S : Sim G μ σ news) (V : Vars G.BA env vs μ loc m news) (W : Walks G.prog G.w A I fp [I] n P St) (hn : n = vals.length)
    (hLI : I ≠ env.locals) (hIc : ¬ CellAddr env I) (hI0 : h₀.get? I = none) (hIn : ∀ q ∈ news, q.1 ≠ I) (hIfp : I ∈ fp) (hfp : ∀ d ∈ fp, d = I ∨ (∃ lo, (d, lo) ∈ news ∧ ¬ Foot μ σ d ∧ ¬ CellAddr env d))
    (hst : St 0 s₂.heap) (hso : ∀ j h, St j h → ∃ o, h.get? I = some o)
    (hP : ∀ j v, j < n → P j v → ∃ mv, vals[j]? = some mv ∧ VR G.BA μ mv v)
    (h : forN i (evSs Γ b) vals loc σ = some (fl, loc', σ')) (k : Ks G env vs h₀ s₂ μ σ news fl loc' σ' Q) :
    LoopAtV G.prog G.w A h₀ env x pb Q Er (.ref I) s₂ := by
  have hIk : I ∉ news.map (·.1) := fun hm => by obtain ⟨q, hq, e⟩ := List.mem_map.mp hm; exact hIn q hq e
  let J : Nat → (Str → Option Value) → Nw → Prop := fun j m₁ news₁ => ∃ μ₁ σ₁ loc₁, Sim G μ₁ σ₁ news₁ ∧ Vars G.BA env vs μ₁ loc₁ m₁ news₁ ∧ Ext (CellAddr env) μ σ news μ₁ σ₁ news₁ ∧ forN i (evSs Γ b) (vals.drop j) loc₁ σ₁ = some (fl, loc', σ') ∧ I ∉ news₁.map (·.1)
  refine ⟨I, fp, [I], n, P, St, m, news, J, rfl, W, fun hm => ?_, fun d hd => by rw [List.mem_singleton.mp hd]; exact hI0, fun q hq hm => hIn q hq (List.mem_singleton.mp hm), hst, F, N, ⟨μ, σ, loc, S, V, .refl, by rw [List.drop_zero]; exact h, hIk⟩, ?_, ?_⟩
  · rcases hfp _ hm with e | ⟨lo, hlo, _⟩
    · exact hLI e.symm
    · exact (N _ hlo).2.1 rfl
  · rintro j v m₁ news₁ s₁ own ⟨hh, tk, rfl⟩ hj hPv ⟨μ₁, σ₁, loc₁, S₁, V₁, E₁, hf, hIk₁⟩ hoff hown hget hall hst₁ F₁ N₁
    obtain ⟨mv, hmv, hvr⟩ := hP j v hj hPv
    have hdrop : vals.drop j = mv :: vals.drop (j + 1) := by
      have hlt : j < vals.length := by omega
      rw [List.drop_eq_getElem_cons hlt]
      congr 1
      exact Option.some.inj ((List.getElem?_eq_getElem hlt).symm.trans hmv)
    rw [hdrop] at hf
    simp only [forN, Option.bind_eq_some_iff] at hf
    obtain ⟨⟨f2, loc2, σ2⟩, g1, g2⟩ := hf
    obtain ⟨oI, hoI⟩ := hso (j + 1) hh hst₁
    have hmI := hall I hIfp hI0 oI hoI
    have N₂ : News h₀ env.locals hh ((I, oI) :: news₁) := fun q hq => by
      rcases List.mem_cons.mp hq with rfl | hq
      · exact N₁ _ (List.mem_append_left _ hmI)
      · exact N₁ _ (List.mem_append_right _ hq)
    have nf₁ : ¬ Foot μ₁ σ₁ I := fun hf => hIk₁ (S₁.foot_key hf)
    have S₂ : Sim G μ₁ σ₁ ((I, oI) :: news₁) := S₁.cons hIk₁
    have V₂ : Vars G.BA env vs μ₁ loc₁ m₁ ((I, oI) :: news₁) := V₁.sub fun q hq _ => .tail _ hq
    have V₃ := V₂.setL H.nd hx hl (hvr.ext E₁)
    refine hb μ₁ σ₁ (loc₁.set i (some mv)) _ _ ((I, oI) :: news₁) f2 loc2 σ2 _ _ F₁ N₂ S₂ V₃ g1 fun h4 tk4 m4 μ4 news4 f F4 N4 S4 E4 V4 hff => ?_
    have E4' : Ext (CellAddr env) μ₁ σ₁ news₁ μ4 σ2 news4 := Ext.cons.trans E4
    have hIm4 : (I, oI) ∈ news4 := E4.keep _ (.head _) nf₁ hIc
    have nf4 : ¬ Foot μ4 σ2 I := fun hf => by
      rcases E4.foot I hf with z | z
      · exact nf₁ z
      · exact z (by rw [List.map_cons]; exact .head _)
    cases f2 with
    | next =>
      cases hff
      refine ⟨rfl, h4, tk4, m4, news4.filter fun q => !decide (q.1 = I), rfl, F4, fun q hq => ?_, fun q hq hm => ?_, μ4, σ2, loc2, S4.filter nf4, ?_, E₁.trans (E4'.filter hIk₁), g2, ?_⟩
      · rcases List.mem_append.mp hq with hq | hq
        · have key : q ∈ news4 := by
            rcases hfp _ (hown q hq) with e | ⟨lo, hlo, nf, nc⟩
            · have : q.2 = oI := Option.some.inj ((hget q hq).symm.trans (by rw [e]; exact hoI))
              have hq' : q = (I, oI) := Prod.ext e this
              rw [hq']; exact hIm4
            · have hm1 := E₁.keep _ hlo nf nc
              have : q.2 = lo := Option.some.inj ((hget q hq).symm.trans (N₂ _ (.tail _ hm1)).1)
              have hq' : q = (q.1, lo) := Prod.ext rfl this
              rw [hq']
              refine E4.keep _ (.tail _ hm1) (fun hf => ?_) nc
              rcases E₁.foot _ hf with z | z
              · exact nf z
              · exact z (List.mem_map.mpr ⟨_, hlo, rfl⟩)
          exact N4 _ key
        · exact N4 _ (List.mem_filter.mp hq).1
      · have := (List.mem_filter.mp hq).2
        rw [List.mem_singleton.mp hm] at this
        simp at this
      · refine V4.sub fun q hq hc => List.mem_filter.mpr ⟨hq, ?_⟩
        have : q.1 ≠ I := fun z => hIc (z ▸ hc)
        simp [this]
      · intro hm
        obtain ⟨q, hq, e⟩ := List.mem_map.mp hm
        have := (List.mem_filter.mp hq).2
        simp [e] at this
    | ret v' =>
      obtain ⟨u, rfl, hu⟩ := hff
      cases g2
      exact k _ _ _ _ _ _ F4 N4 S4 (E₁.trans E4') V4 ⟨u, rfl, hu⟩
  · rintro h' tk m' news' F' N' off ⟨μ₁, σ₁, loc₁, S₁, V₁, E₁, hf, hIk₁⟩
    rw [hn, List.drop_length] at hf
    simp only [forN] at hf
    cases hf
    exact k _ _ _ _ _ _ F' N' S₁ E₁ V₁ rfl
end
end Mine

/-! ## M12 -/
namespace Mine
open PySem PySem.W PyProof.Rows PySem.Calls

theorem rangeUp_len (a : Int) : ∀ n, (rangeUp a n).length = n
  | 0 => rfl
  | n + 1 => by rw [rangeUp, List.length_cons, rangeUp_len]
theorem rangeDn_len (a : Int) : ∀ n, (rangeDn a n).length = n
  | 0 => rfl
  | n + 1 => by rw [rangeDn, List.length_cons, rangeDn_len]
theorem rangeUp_get : ∀ (n : Nat) (a : Int) (j : Nat), j < n → (rangeUp a n)[j]? = some (.int (a + j))
  | 0, _, _, h => absurd h (Nat.not_lt_zero _)
  | n + 1, a, 0, _ => by simp [rangeUp]
  | n + 1, a, j + 1, h => by
    rw [rangeUp, List.getElem?_cons_succ, rangeUp_get n (a + 1) j (Nat.lt_of_succ_lt_succ h)]
    congr 2; omega
theorem rangeDn_get : ∀ (n : Nat) (a : Int) (j : Nat), j < n → (rangeDn a n)[j]? = some (.int (a - j))
  | 0, _, _, h => absurd h (Nat.not_lt_zero _)
  | n + 1, a, 0, _ => by simp [rangeDn]
  | n + 1, a, j + 1, h => by
    rw [rangeDn, List.getElem?_cons_succ, rangeDn_get n (a - 1) j (Nat.lt_of_succ_lt_succ h)]
    congr 2; omega

section
variable {G : Gl} {K : Frag} {p : Program} {loose : List Str} {mg mb : Str → Option Value} {A : Around} {env : Env} {vs : List Str} {h₀ : Heap} {Γ : Gam} {pos pos' : Pos}
  {μ μ' : Mu} {σ σ' : Hp} {loc : Loc} {s : Shared} {m : Str → Option Value} {news news' : Nw}

theorem cell_in (H : Frm G K p loose mg mb A env vs h₀) (V : Vars G.BA env vs μ loc m news) {a : Addr} (h : CellAddr env a) : ∃ o cv, (a, o) ∈ news ∧ o.data = .cell cv := by
  obtain ⟨x, hx⟩ := h
  obtain ⟨hm, hk⟩ := H.cvs x a hx
  obtain ⟨i, hi, hi'⟩ := List.getElem_of_mem hm
  have h1 : vs[i]? = some x := by rw [List.getElem?_eq_getElem hi, hi']
  have h2 : i < loc.length := by rw [V.len]; exact hi
  rcases V.at_ i x _ h1 (List.getElem?_eq_getElem h2) with ⟨q, _⟩ | ⟨_, c, o, cv, g1, g2, g3, _⟩
  · exact absurd q hk
  · rw [hx] at g1
    cases g1
    exact ⟨o, cv, g2, g3⟩
theorem next_off (H : Frm G K p loose mg mb A env vs h₀) (F : Fr h₀ env.locals s.heap m) (N : News h₀ env.locals s.heap news) (V : Vars G.BA env vs μ loc m news) :
    s.heap.objs.size ≠ env.locals ∧ ¬ CellAddr env s.heap.objs.size ∧ h₀.get? s.heap.objs.size = none ∧ ∀ q ∈ news, q.1 ≠ s.heap.objs.size := by
  refine ⟨fun e => ?_, fun hc => ?_, next_is_new F, fun q hq e => ?_⟩
  · have := F.ns.lt
    rw [← e] at this
    exact Nat.lt_irrefl _ this
  · obtain ⟨o, cv, hm, _⟩ := cell_in H V hc
    exact Nat.lt_irrefl _ (Heap.lt_size (N _ hm).1)
  · have := Heap.lt_size (N q hq).1
    rw [e] at this
    exact Nat.lt_irrefl _ this

/-- a loop over a range object that stands -/
theorem for_range {x : Str} {i : Nat} {pb : List Stmt} {b : Ss} {r : Addr} {a e c : Int} {t u w : Tok} {fl : Fl} {loc' : Loc} {Q : Flow → Shared → Prop} {Er : Value → Shared → Prop}
    (H : Frm G K p loose mg mb A env vs h₀) (hx : vs[i]? = some x) (hl : env.kindOf x = some .local) (hb : SsOk G A env vs h₀ pb (evSs Γ b)) (hr : IsRange s.heap r a e c t u w) (hc : c = 1 ∨ c = -1) (ha : a.natAbs ≤ 1000) (he : e.natAbs ≤ 1000)
    (F : Fr h₀ env.locals s.heap m) (N : News h₀ env.locals s.heap news) (S : Sim G μ σ news) (V : Vars G.BA env vs μ loc m news)
    (h : forN i (evSs Γ b) (rangeL a e c) loc σ = some (fl, loc', σ')) (k : Ks G env vs h₀ s μ σ news fl loc' σ' Q) :
    wpAny G.M A (pyIter (.ref r)) (fun it s₂ => LoopAtV G.prog G.w A h₀ env x pb Q Er it s₂) Er s := by
  obtain ⟨o1, o2, o3, o4⟩ := next_off H F N V
  have hsmall : Builtin.Range.small a e c = true := by
    rcases hc with rfl | rfl
    · exact small_one (by omega) (by omega) (by omega) (by omega)
    · exact small_down (by omega) (by omega) (by omega) (by omega)
  refine wpAny_pyIter_range hr hsmall ?_
  have hn : ∃ n : Nat, Builtin.Range.rangeSize a e c = (n : Int) ∧ n = (rangeL a e c).length ∧ ∀ j, j < n → (rangeL a e c)[j]? = some (.int (a + (j : Int) * c)) := by
    rcases hc with rfl | rfl
    · refine ⟨(e - a).toNat, rangeSize_nat a e, ?_, fun j hj => ?_⟩
      · unfold rangeL; rw [if_pos rfl, rangeUp_len]
      · unfold rangeL; rw [if_pos rfl, rangeUp_get _ _ _ hj, Int.mul_one]
    · refine ⟨(a - e).toNat, rangeSize_downNat a e, ?_, fun j hj => ?_⟩
      · unfold rangeL; rw [if_neg (by decide), rangeDn_len]
      · unfold rangeL; rw [if_neg (by decide), rangeDn_get _ _ _ hj]; congr 2; omega
  obtain ⟨n, hn1, hn2, hn3⟩ := hn
  have W : Walks G.prog G.w A s.heap.objs.size [s.heap.objs.size] [s.heap.objs.size] n (fun j v => ∃ tk, v = .int (a + j * c) tk) (fun j h => IsRangeIter h s.heap.objs.size (a + (j : Nat) * c) ((n : Int) - (j : Nat)) c) := Walks.range H.hh _ a c n
  refine for_loop H hx hl hb (s₂ := { s with heap := s.heap.push _ }) (F.push _) (fun q hq => ⟨Heap.get?_push_of_some _ (N q hq).1, (N q hq).2⟩) S V W hn2 o1 o2 o3 o4 (.head _) (fun d hd => .inl (List.mem_singleton.mp hd)) ?_ (fun j h hs => ⟨_, hs⟩)
    (fun j v hj hv => ?_) h k
  · show IsRangeIter _ _ _ _ _
    rw [hn1]
    simpa using Heap.get?_push_size _ rfl
  · obtain ⟨tk, rfl⟩ := hv
    exact ⟨_, hn3 j hj, ⟨tk, rfl⟩⟩

theorem never_mono {t : Sem Flow} {Q : Flow → Shared → Prop} {Er : Value → Shared → Prop} (h : wpAny G.M A t Q (fun _ _ => False) s) : wpAny G.M A t Q Er s := wpAny_mono h (fun _ _ x => x) (fun _ _ x => x.elim)

theorem range_at {pe : PySem.Expr} {e : E} {np q : Pos} {sn : Sn} {cp} {n : Int} {Q Er : Value → Shared → Prop} (H : Frm G K p loose mg mb A env vs h₀) (hg : isGlob env.scope.names ("range" : Str) = true) (hc : chkE sn vs cp e pe = true) (he : EOk G A env vs h₀ Γ pe e)
    (F : Fr h₀ env.locals s.heap m) (N : News h₀ env.locals s.heap news) (S : Sim G μ σ news) (V : Vars G.BA env vs μ loc m news) (h : evE Γ loc e σ = some (.int n, σ'))
    (k : ∀ h' tk μ' news' r t u w, Fr h₀ env.locals h' m → News h₀ env.locals h' news' → Sim G μ' σ' news' → Ext NoX μ σ news μ' σ' news' → IsRange h' r 0 n 1 t u w → Q (.ref r) ⟨h', s.gens, s.drawn, tk, s.os⟩) :
    wpAny G.M A (eval (.Call (.Name ("range" : Str) np) [pe] [] q) env) Q Er s := by
  refine Call_ (name_b H F hg H.KK.rng (u := .type "range") (by boot_by_name) (by decide) ?_)
  refine PyProof.Rows.callWith_type1 (spliced_more (he μ σ loc s m news _ _ _ _ F N S V h fun h' tk μ1 news1 x F1 N1 S1 E1 x1 => spliced_none ?_) (starE _ _ sn vs cp e hc)) (starE _ _ sn vs cp e hc) rfl
  obtain ⟨t, rfl⟩ := x1
  exact range1_rows F1 N1 fun h2 tk2 t1 u1 v1 hr F2 N2 hk => k _ _ _ _ _ _ _ _ F2 N2 S1 E1 hr
theorem range_at2 {pa pe : PySem.Expr} {ea e : E} {np q : Pos} {sn : Sn} {cp} {a n : Int} {σ₂ : Hp} {Q Er : Value → Shared → Prop} (H : Frm G K p loose mg mb A env vs h₀) (hg : isGlob env.scope.names ("range" : Str) = true) (hca : chkE sn vs cp ea pa = true) (hc : chkE sn vs cp e pe = true)
    (hea : EOk G A env vs h₀ Γ pa ea) (he : EOk G A env vs h₀ Γ pe e)
    (F : Fr h₀ env.locals s.heap m) (N : News h₀ env.locals s.heap news) (S : Sim G μ σ news) (V : Vars G.BA env vs μ loc m news) (ha : evE Γ loc ea σ = some (.int a, σ₂)) (h : evE Γ loc e σ₂ = some (.int n, σ'))
    (k : ∀ h' tk μ' news' r t u w, Fr h₀ env.locals h' m → News h₀ env.locals h' news' → Sim G μ' σ' news' → Ext NoX μ σ news μ' σ' news' → IsRange h' r a n 1 t u w → Q (.ref r) ⟨h', s.gens, s.drawn, tk, s.os⟩) :
    wpAny G.M A (eval (.Call (.Name ("range" : Str) np) [pa, pe] [] q) env) Q Er s := by
  refine Call_ (name_b H F hg H.KK.rng (u := .type "range") (by boot_by_name) (by decide) ?_)
  have e2 : ((backTo q (starEach [pe] env)).any (·.1)) = false := any_star sn vs cp [pe] (.cons e .nil) (Bool.and_eq_true_iff.mpr ⟨hc, rfl⟩)
  refine PyProof.Rows.callWith_type1 (spliced_more (hea μ σ loc s m news _ _ _ _ F N S V ha fun h' tk μ1 news1 x F1 N1 S1 E1 x1 => spliced_more (he μ1 σ₂ loc _ m news1 _ _ _ _ F1 N1 S1 (V.ext S E1) h fun h'' tk' μ2 news2 y F2 N2 S2 E2 y2 => spliced_none ?_) (starE _ _ sn vs cp e hc)) (starE _ _ sn vs cp ea hca)) (starE _ _ sn vs cp ea hca) e2
  obtain ⟨t, rfl⟩ := x1
  obtain ⟨u, rfl⟩ := y2
  exact range2_rows F2 N2 fun h2 tk2 t1 u1 v1 hr F3 N3 hk => k _ _ _ _ _ _ _ _ F3 N3 S2 (E1.trans E2) hr

theorem for_scope (H : Frm G K p loose mg mb A env vs h₀) : (env.scope.kind == .class || env.scope.kind == .module && env.locals != env.globals) = false := by rw [H.kind]; rfl

theorem s_forR1 {x : Str} {px np q : Pos} {i : Nat} {phi : PySem.Expr} {hi : E} {pb : List Stmt} {b : Ss} {sn : Sn} {cp} (H : Frm G K p loose mg mb A env vs h₀) (hx : vs[i]? = some x) (hl : env.kindOf x = some .local) (hg : isGlob env.scope.names ("range" : Str) = true)
    (hc : chkE sn vs cp hi phi = true) (he : EOk G A env vs h₀ Γ phi hi) (hb : SsOk G A env vs h₀ pb (evSs Γ b)) :
    SOk G A env vs h₀ (.For (.Name x px) (.Call (.Name ("range" : Str) np) [phi] [] q) pb [] pos) (evS Γ (.forR1 i hi b)) := by
  intro μ σ loc s m news fl loc' σ' Q Er F N S V h k
  refine hide fun gX goBack => ?_
  simp only [qc1, qc2, qc3, qc4, qc5, qc6, qc7, qc8, qc9, qc10, qc11, qc12, qc13, qc14, qc15, qc16, qc17, qc18, Option.bind_eq_some_iff] at h
  obtain ⟨⟨v, σ1⟩, h1, h2⟩ := h
  refine goBack ?_
  simp only at h2
  split at h2
  · rename_i n
    split at h2
    · rename_i hn
      refine never_mono (For_invVF F hl (for_scope H) (range_at H hg hc he F N S V h1 fun h' tk μ1 news1 r t u w F1 N1 S1 E1 hr => ?_) (fun _ => rfl) PassesOwn.never)
      refine for_range (s := ⟨h', s.gens, s.drawn, tk, s.os⟩) H hx hl hb hr (.inl rfl) (by decide) (by omega) F1 N1 S1 (V.ext S E1) (by unfold rangeL; rw [if_pos rfl, Int.sub_zero]; exact h2) fun h2' tk2 m2 μ2 news2 f F2 N2 S2 E2 V2 hf => ?_
      exact k _ _ _ _ _ _ F2 N2 S2 (E1.wk.trans E2) V2 hf
    · cases h2
  · cases h2
theorem s_forR2 {x : Str} {px np q : Pos} {i : Nat} {plo phi : PySem.Expr} {lo hi : E} {pb : List Stmt} {b : Ss} {sn : Sn} {cp} (H : Frm G K p loose mg mb A env vs h₀) (hx : vs[i]? = some x) (hl : env.kindOf x = some .local) (hg : isGlob env.scope.names ("range" : Str) = true)
    (hcl : chkE sn vs cp lo plo = true) (hc : chkE sn vs cp hi phi = true) (hel : EOk G A env vs h₀ Γ plo lo) (he : EOk G A env vs h₀ Γ phi hi) (hb : SsOk G A env vs h₀ pb (evSs Γ b)) :
    SOk G A env vs h₀ (.For (.Name x px) (.Call (.Name ("range" : Str) np) [plo, phi] [] q) pb [] pos) (evS Γ (.forR2 i lo hi b)) := by
  intro μ σ loc s m news fl loc' σ' Q Er F N S V h k
  refine hide fun gX goBack => ?_
  simp only [qc1, qc2, qc3, qc4, qc5, qc6, qc7, qc8, qc9, qc10, qc11, qc12, qc13, qc14, qc15, qc16, qc17, qc18, Option.bind_eq_some_iff] at h
  obtain ⟨⟨v, σ1⟩, h1, ⟨v2, σ2⟩, h1', h2⟩ := h
  refine goBack ?_
  simp only at h2
  split at h2
  · rename_i a n
    split at h2
    · rename_i hn
      refine never_mono (For_invVF F hl (for_scope H) (range_at2 H hg hcl hc hel he F N S V h1 h1' fun h' tk μ1 news1 r t u w F1 N1 S1 E1 hr => ?_) (fun _ => rfl) PassesOwn.never)
      refine for_range (s := ⟨h', s.gens, s.drawn, tk, s.os⟩) H hx hl hb hr (.inl rfl) (by omega) (by omega) F1 N1 S1 (V.ext S E1) (by unfold rangeL; rw [if_pos rfl]; exact h2) fun h2' tk2 m2 μ2 news2 f F2 N2 S2 E2 V2 hf => ?_
      exact k _ _ _ _ _ _ F2 N2 S2 (E1.wk.trans E2) V2 hf
    · cases h2
  · cases h2
end
end Mine

/-! ## M13 -/
namespace Mine
open PySem PySem.W PyProof.Rows PySem.Calls

noncomputable def sw2 (sn : Sn) (x y : Str) (p1 p2 : Pos) (vals : List PySem.Expr) : Bool :=
  vals.length == 2 && !(vals.any fun | .Starred .. => true | _ => false) && sn.lookup x == some .local && sn.lookup y == some .local && p2.line == p1.line && !(x == y) && !(y == x) && !(vals.all (foldedForSure 8)) && !(vals.all (constantsAlone 8))
noncomputable def sw3 (sn : Sn) (x y z : Str) (p1 p2 p3 : Pos) (vals : List PySem.Expr) : Bool :=
  vals.length == 3 && !(vals.any fun | .Starred .. => true | _ => false) && sn.lookup x == some .local && sn.lookup y == some .local && sn.lookup z == some .local && p2.line == p1.line && p3.line == p1.line &&
  !(x == y) && !(y == x) && !(x == z) && !(z == x) && !(y == z) && !(z == y) && !(vals.all (foldedForSure 8)) && !(vals.all (constantsAlone 8))

section
variable {G : Gl} {K : Frag} {p : Program} {loose : List Str} {mg mb : Str → Option Value} {A : Around} {env : Env} {vs : List Str} {h₀ : Heap} {Γ : Gam} {pos pos' : Pos}
  {μ μ' : Mu} {σ σ' : Hp} {loc : Loc} {s : Shared} {m : Str → Option Value} {news news' : Nw}

theorem sw2_ok {x y : Str} {p1 p2 tp q : Pos} {k k2 : Nat} {vals : List PySem.Expr} (hk : env.scope.kind = .function) (h : sw2 env.scope.names x y p1 p2 vals = true) :
    swappedStores [.Tuple [.Name x p1, .Name y p2] k tp] (.Tuple vals k2 q) env = pure (some [x, y]) := by
  unfold sw2 at h
  simp only [Bool.and_eq_true, beq_iff_eq, Bool.not_eq_true'] at h
  obtain ⟨⟨⟨⟨⟨⟨⟨⟨h1, h2⟩, h3⟩, h4⟩, h5⟩, h6⟩, h7⟩, h8⟩, h9⟩ := h
  have bk : env.blockKind = .function := by unfold Env.blockKind; rw [hk]; rfl
  have k1 : env.kindOf x = some .local := h3
  have k2' : env.kindOf y = some .local := h4
  have hd : ([x, y] : List Str).eraseDups = [x, y] := by
    simp [List.eraseDups_cons, h7, h6]
  unfold swappedStores
  simp only [List.length_cons, List.length_nil, h1, bk, h2, List.head?_cons, Option.map_some, Option.getD_some, List.filterMap_cons, List.filterMap_nil, k1, k2', h8, h9]
  have e1 : (Expr.Name x p1).pos.line = p1.line := rfl
  simp [e1, h5, hd, hk]
  intro e he hs
  exact absurd hs (List.any_eq_false.mp h2 e he)

theorem s_unpack_call {x y : Str} {p1 p2 tp : Pos} {k : Nat} {i j : Nat} {pe : PySem.Expr} {e : E} (H : Frm G K p loose mg mb A env vs h₀) (hs1 : storable env.scope.names x = true) (hs2 : storable env.scope.names y = true) (hx : vs[i]? = some x) (hy : vs[j]? = some y)
    (hsw : swapsWithSole [.Tuple [.Name x p1, .Name y p2] k tp] pe pos.line env = pure false) (hsn : swappedStores [.Tuple [.Name x p1, .Name y p2] k tp] pe env = pure none) (he : EOk G A env vs h₀ Γ pe e) :
    SOk G A env vs h₀ (.Assign [.Tuple [.Name x p1, .Name y p2] k tp] pe pos) (evS Γ (.unpack2 i j e)) := by
  intro μ σ loc s m news fl loc' σ' Q Er F N S V h kk
  refine hide fun gX goBack => ?_
  simp only [qc1, qc2, qc3, qc4, qc5, qc6, qc7, qc8, qc9, qc10, qc11, qc12, qc13, qc14, qc15, qc16, qc17, qc18, Option.bind_eq_some_iff] at h
  obtain ⟨⟨v, σ1⟩, h1, h2⟩ := h
  refine goBack ?_
  simp only at h2
  split at h2
  · rename_i a b ht
    cases h2
    refine Assign_Tuple (he μ σ loc s m news _ _ _ _ F N S V h1 fun h' tk μ1 news1 u F1 N1 S1 E1 hu => ?_) hsw hsn
    unfold tupGet at ht
    split at ht
    · split at ht
      · rename_i xs ho
        cases ht
        obtain ⟨q, hq, rfl⟩ := hu
        obtain ⟨us, hm, hv, _⟩ := S1.obj _ _ _ ho hq
        obtain ⟨a', b', rfl⟩ : ∃ a' b', us = [a', b'] := len_two hv.len
        refine unpackN_ (items := [a', b'].toArray) F1 N1 ⟨_, (N1 _ hm).1, rfl, 0, rfl⟩ H.hh rfl rfl fun h2 F2 N2 => ?_
        have V1 := V.ext S E1
        refine assignInOrder_cons (PyProof.Rows.assign_Name (store_s (s := ⟨h2, s.gens, s.drawn, tk, s.os⟩) H hs1 hx F2 N2 S1 V1 hv.1 fun h3 tk3 m3 news3 F3 N3 S3 E3 V3 => ?_))
        refine assignInOrder_cons (PyProof.Rows.assign_Name (store_s H hs2 hy F3 N3 S3 V3 hv.2.1 fun h4 tk4 m4 news4 F4 N4 S4 E4 V4 => ?_))
        exact assignInOrder_nil (kk _ _ _ _ _ _ F4 N4 S4 (E1.wk.trans (E3.trans E4)) V4 rfl)
      · cases ht
    · cases ht
  · cases h2

theorem tup_inv {v : MV} {ys : List MV} {u : Value} {hh : Heap} (N : News h₀ env.locals hh news) (S : Sim G μ σ news) (hu : VR G.BA μ v u) (ht : tupGet σ v = some ys) : ∃ t us, u = .ref t ∧ IsTup hh t (List.toArray us) ∧ VRs G.BA μ ys us := by
  unfold tupGet at ht
  split at ht
  · split at ht
    · rename_i xs ho
      cases ht
      obtain ⟨q, hq, rfl⟩ := hu
      obtain ⟨us, hm, hv, _⟩ := S.obj _ _ _ ho hq
      exact ⟨q.1, us, rfl, ⟨_, (N _ hm).1, rfl, 0, rfl⟩, hv⟩
    · cases ht
  · cases ht

theorem s_unpack2 {x y : Str} {p1 p2 tp q : Pos} {k k2 : Nat} {i j : Nat} {vals : List PySem.Expr} {e : E} (H : Frm G K p loose mg mb A env vs h₀) (hs1 : storable env.scope.names x = true) (hs2 : storable env.scope.names y = true) (hx : vs[i]? = some x) (hy : vs[j]? = some y) (hij : i ≠ j)
    (hsw : sw2 env.scope.names x y p1 p2 vals = true) (he : EOk G A env vs h₀ Γ (.Tuple vals k2 q) e) :
    SOk G A env vs h₀ (.Assign [.Tuple [.Name x p1, .Name y p2] k tp] (.Tuple vals k2 q) pos) (evS Γ (.unpack2 i j e)) := by
  intro μ σ loc s m news fl loc' σ' Q Er F N S V h kk
  refine hide fun gX goBack => ?_
  simp only [qc1, qc2, qc3, qc4, qc5, qc6, qc7, qc8, qc9, qc10, qc11, qc12, qc13, qc14, qc15, qc16, qc17, qc18, Option.bind_eq_some_iff] at h
  obtain ⟨⟨v, σ1⟩, h1, h2⟩ := h
  refine goBack ?_
  simp only at h2
  split at h2
  · rename_i a b ht
    cases h2
    refine Assign_Tuple_swapped (he μ σ loc s m news _ _ _ _ F N S V h1 fun h' tk μ1 news1 u F1 N1 S1 E1 hu => ?_) rfl (sw2_ok H.kind hsw)
    obtain ⟨t, us, rfl, hT, hv⟩ := tup_inv N1 S1 hu ht
    obtain ⟨a', b', rfl⟩ : ∃ a' b', us = [a', b'] := len_two hv.len
    refine unpackItemsN_ (items := [a', b'].toArray) F1 N1 hT H.hh rfl fun h2 F2 N2 => ?_
    have V1 := V.ext S E1
    refine assignInOrder_cons (bindName_ (store_s (s := ⟨h2, s.gens, s.drawn, tk, s.os⟩) H hs2 hy F2 N2 S1 V1 hv.2.1 fun h3 tk3 m3 news3 F3 N3 S3 E3 V3 => ?_))
    refine assignInOrder_cons (bindName_ (store_s H hs1 hx F3 N3 S3 V3 hv.1 fun h4 tk4 m4 news4 F4 N4 S4 E4 V4 => ?_))
    rw [List.set_comm _ _ (Ne.symm hij)] at V4
    exact assignInOrder_nil (kk _ _ _ _ _ _ F4 N4 S4 (E1.wk.trans (E3.trans E4)) V4 rfl)
  · cases h2
theorem sw3_ok {x y z : Str} {p1 p2 p3 tp q : Pos} {k k2 : Nat} {vals : List PySem.Expr} (hk : env.scope.kind = .function) (h : sw3 env.scope.names x y z p1 p2 p3 vals = true) :
    swappedStores [.Tuple [.Name x p1, .Name y p2, .Name z p3] k tp] (.Tuple vals k2 q) env = pure (some [x, y, z]) := by
  unfold sw3 at h
  simp only [Bool.and_eq_true, beq_iff_eq, Bool.not_eq_true'] at h
  obtain ⟨⟨⟨⟨⟨⟨⟨⟨⟨⟨⟨⟨⟨⟨h1, h2⟩, h3⟩, h4⟩, h5⟩, h6⟩, h7⟩, a1⟩, a2⟩, a3⟩, a4⟩, a5⟩, a6⟩, h8⟩, h9⟩ := h
  have bk : env.blockKind = .function := by unfold Env.blockKind; rw [hk]; rfl
  have k1 : env.kindOf x = some .local := h3
  have k2' : env.kindOf y = some .local := h4
  have k3' : env.kindOf z = some .local := h5
  have hd : ([x, y, z] : List Str).eraseDups = [x, y, z] := by
    simp [List.eraseDups_cons, a1, a2, a3, a4, a5, a6]
  unfold swappedStores
  simp only [List.length_cons, List.length_nil, h1, bk, h2, List.head?_cons, Option.map_some, Option.getD_some, List.filterMap_cons, List.filterMap_nil, k1, k2', k3', h8, h9]
  have e1 : (Expr.Name x p1).pos.line = p1.line := rfl
  simp [e1, h6, h7, hd, hk]
  intro e he hs
  exact absurd hs (List.any_eq_false.mp h2 e he)
theorem s_unpack3 {x y z : Str} {p1 p2 p3 tp q : Pos} {k k2 : Nat} {i j l : Nat} {vals : List PySem.Expr} {e : E} (H : Frm G K p loose mg mb A env vs h₀) (hs1 : storable env.scope.names x = true) (hs2 : storable env.scope.names y = true) (hs3 : storable env.scope.names z = true)
    (hx : vs[i]? = some x) (hy : vs[j]? = some y) (hz : vs[l]? = some z) (hij : i ≠ j) (hil : i ≠ l) (hjl : j ≠ l)
    (hsw : sw3 env.scope.names x y z p1 p2 p3 vals = true) (he : EOk G A env vs h₀ Γ (.Tuple vals k2 q) e) :
    SOk G A env vs h₀ (.Assign [.Tuple [.Name x p1, .Name y p2, .Name z p3] k tp] (.Tuple vals k2 q) pos) (evS Γ (.unpack3 i j l e)) := by
  intro μ σ loc s m news fl loc' σ' Q Er F N S V h kk
  refine hide fun gX goBack => ?_
  simp only [qc1, qc2, qc3, qc4, qc5, qc6, qc7, qc8, qc9, qc10, qc11, qc12, qc13, qc14, qc15, qc16, qc17, qc18, Option.bind_eq_some_iff] at h
  obtain ⟨⟨v, σ1⟩, h1, h2⟩ := h
  refine goBack ?_
  simp only at h2
  split at h2
  · rename_i a b c ht
    cases h2
    refine Assign_Tuple_swapped (he μ σ loc s m news _ _ _ _ F N S V h1 fun h' tk μ1 news1 u F1 N1 S1 E1 hu => ?_) rfl (sw3_ok H.kind hsw)
    obtain ⟨t, us, rfl, hT, hv⟩ := tup_inv N1 S1 hu ht
    obtain ⟨a', b', c', rfl⟩ : ∃ a' b' c', us = [a', b', c'] := len_three hv.len
    refine unpackItemsN_ (items := [a', b', c'].toArray) F1 N1 hT H.hh rfl fun h2 F2 N2 => ?_
    have V1 := V.ext S E1
    refine assignInOrder_cons (bindName_ (store_s (s := ⟨h2, s.gens, s.drawn, tk, s.os⟩) H hs3 hz F2 N2 S1 V1 hv.2.2.1 fun h3 tk3 m3 news3 F3 N3 S3 E3 V3 => ?_))
    refine assignInOrder_cons (bindName_ (store_s H hs2 hy F3 N3 S3 V3 hv.2.1 fun h4 tk4 m4 news4 F4 N4 S4 E4 V4 => ?_))
    refine assignInOrder_cons (bindName_ (store_s H hs1 hx F4 N4 S4 V4 hv.1 fun h5 tk5 m5 news5 F5 N5 S5 E5 V5 => ?_))
    have e5 : ((loc.set l (some c)).set j (some b)).set i (some a) = ((loc.set i (some a)).set j (some b)).set l (some c) := by
      rw [List.set_comm _ _ (Ne.symm hij), List.set_comm _ _ (Ne.symm hil), List.set_comm _ _ (Ne.symm hjl)]
    rw [e5] at V5
    exact assignInOrder_nil (kk _ _ _ _ _ _ F5 N5 S5 (E1.wk.trans (E3.trans (E4.trans E5))) V5 rfl)
  · cases h2

/-- the list that a loop draws from is out of reach meanwhile -/
theorem Sim.bury (S : Sim G μ σ news) {id : Nat} {o : MObj} (ho : σ[id]? = some o) : Sim G μ (σ.set id .gone) news := by
  have back : ∀ {k : Nat} {ok : MObj}, (σ.set id .gone)[k]? = some ok → ok ≠ .gone → σ[k]? = some ok := fun {k ok} a g => by
    by_cases hk : id = k
    · subst hk; rw [set_self ho] at a; cases a; exact absurd rfl g
    · rwa [set_ne hk] at a
  refine ⟨S.nd, by rw [List.length_set]; exact S.len, fun i o' p ho' hp => ?_, fun i j o1 o2 p q h3 h4 g3 g4 h5 h6 ne => S.ap i j o1 o2 p q (back h3 g3) (back h4 g4) g3 g4 h5 h6 ne⟩
  by_cases hg : o' = .gone
  · subst hg; trivial
  · exact S.obj i o' p (back ho' hg) hp
theorem foot_bury {id : Nat} {o : MObj} (ho : σ[id]? = some o) {a : Addr} (h : Foot μ (σ.set id .gone) a) : Foot μ σ a ∧ ∃ i p o', i ≠ id ∧ μ[i]? = some p ∧ σ[i]? = some o' ∧ o' ≠ MObj.gone ∧ (a = p.1 ∨ a = p.2) := by
  obtain ⟨i, q, o', hq, ho', hg, h⟩ := h
  by_cases hi : id = i
  · subst hi; rw [set_self ho] at ho'; cases ho'; exact absurd rfl hg
  · rw [set_ne hi] at ho'
    exact ⟨⟨i, q, o', hq, ho', hg, h⟩, i, q, o', fun z => hi z.symm, hq, ho', hg, h⟩
theorem Ext.bury {X : Addr → Prop} {id : Nat} {o : MObj} (ho : σ[id]? = some o) : Ext X μ σ news μ (σ.set id .gone) news :=
  ⟨⟨[], by simp⟩, fun _ h _ _ => h, fun _ h => .inl (foot_bury ho h).1, fun _ h => h⟩

theorem s_forV {x : Str} {px : Pos} {i : Nat} {pe : PySem.Expr} {e : E} {pb : List Stmt} {b : Ss} {sn : Sn} {cp} (H : Frm G K p loose mg mb A env vs h₀) (hx : vs[i]? = some x) (hl : env.kindOf x = some .local)
    (hc : chkE sn vs cp e pe = true) (he : EOk G A env vs h₀ Γ pe e) (hb : SsOk G A env vs h₀ pb (evSs Γ b)) : SOk G A env vs h₀ (.For (.Name x px) pe pb [] pos) (evS Γ (.forV i e b)) := by
  intro μ σ loc s m news fl loc' σ' Q Er F N S V h k
  refine hide fun gX goBack => ?_
  simp only [qc1, qc2, qc3, qc4, qc5, qc6, qc7, qc8, qc9, qc10, qc11, qc12, qc13, qc14, qc15, qc16, qc17, qc18, Option.bind_eq_some_iff] at h
  obtain ⟨⟨v, σ1⟩, h1, h2⟩ := h
  refine goBack ?_
  have hfold : ∀ y, foldedSetIterable pe env y = pure y := fun y => by have hc := (chk_sh hc).1; cases pe <;> first | rfl | exact ff hc
  refine never_mono (For_invVF F hl (for_scope H) (he μ σ loc s m news _ _ _ _ F N S V h1 fun h' tk μ1 news1 u F1 N1 S1 E1 hu => ?_) hfold PassesOwn.never)
  have V1 := V.ext S E1
  simp only at h2
  split at h2
  · rename_i id
    split at h2
    · rename_i a c st ho
      split at h2
      · rename_i hn
        obtain ⟨q, hq, rfl⟩ := hu
        obtain ⟨t, u, w, hm, _⟩ := S1.obj _ _ _ ho hq
        exact for_range (s := ⟨h', s.gens, s.drawn, tk, s.os⟩) H hx hl hb (N1 _ hm).1 hn.1 hn.2.1 hn.2.2 F1 N1 S1 V1 h2 fun h3 tk3 m3 μ3 news3 f F3 N3 S3 E3 V3 hf => k _ _ _ _ _ _ F3 N3 S3 (E1.wk.trans E3) V3 hf
      · cases h2
    · rename_i xs ho
      split at h2
      · rename_i hn
        obtain ⟨q, hq, rfl⟩ := hu
        obtain ⟨us, n, hm, hv, hqq⟩ := S1.obj _ _ _ ho hq
        obtain ⟨o1, o2, o3, o4⟩ := next_off (s := ⟨h', s.gens, s.drawn, tk, s.os⟩) H F1 N1 V1
        have hlst := PySem.IsL.isList (n := n) (N1 _ hm).1
        have hlt : q.1 < h'.objs.size := Heap.lt_size (N1 _ hm).1
        refine wpAny_pyIter_list hlst ?_
        have W := Walks.list (prog := G.prog) (w := G.w) H.hh h'.objs.size q.1 (Nat.ne_of_lt hlt) us.toArray
        refine for_loop H hx hl hb (s₂ := ⟨h'.push _, s.gens, s.drawn, tk, s.os⟩) (F1.push _) (fun r hr => ⟨Heap.get?_push_of_some _ (N1 r hr).1, (N1 r hr).2⟩) (S1.bury ho) V1 W (by simp [hv.len]) o1 o2 o3 o4 (.head _) (fun d hd => ?_)
          ⟨⟨_, Heap.get?_push_size _ rfl, rfl, rfl⟩, hlst.at fun o e => Heap.get?_push_of_some _ e⟩ (fun j h hs => by obtain ⟨⟨o, ho, _⟩, _⟩ := hs; exact ⟨o, ho⟩) (fun j w hj hw => ?_) h2 fun h3 tk3 m3 μ3 news3 f F3 N3 S3 E3 V3 hf => ?_
        · rcases List.mem_cons.mp hd with rfl | hd
          · exact .inl rfl
          · right
            rw [List.mem_singleton.mp hd]
            refine ⟨_, hm, fun hf => ?_, fun hc => ?_⟩
            · obtain ⟨_, i', p', o', ne, hp', ho', hg', hpp⟩ := foot_bury ho hf
              have z := S1.ap i' id o' _ p' q ho' ho hg' (fun z => by cases z) hp' hq ne
              rcases hpp with e | e
              · exact z.1 e.symm
              · exact z.2.2.1 e.symm
            · obtain ⟨o, cv, hm', hd'⟩ := cell_in H V1 hc
              have := nodup_eq S1.nd hm hm'
              subst this
              cases hd'
        · have hw' : us[j]? = some w := by simpa using hw
          have hj' : j < xs.length := by rw [← hv.len]; exact (List.getElem?_eq_some_iff.mp hw').1
          obtain ⟨u', hu', hvr⟩ := hv.get (List.getElem?_eq_getElem hj')
          rw [hw'] at hu'
          cases hu'
          exact ⟨_, List.getElem?_eq_getElem hj', hvr⟩
        · exact k _ _ _ _ _ _ F3 N3 S3 (E1.wk.trans ((Ext.bury ho).trans E3)) V3 hf
      · cases h2
    · cases h2
  · cases h2
end
end Mine

/-! ## M14 -/
namespace Mine
open PySem PySem.W PyProof.Rows PySem.Calls

abbrev CpS := List Str → Nat → E → Stmt → Bool
abbrev SsT := List Stmt → Bool

noncomputable def setSK (vs : List Str) (sn : Sn) (i : Nat) (nc : Bool) (c : Tst) (cs : Stmt → Bool) (s : Stmt) : Bool :=
  as1K s fun t pe q2 => xName t fun x q => decide (vs[i]? = some x ∧ storable sn x = true) && ((nc && c pe) || (!nc && cs (.Assign [.Name x q] pe q2)))
def setSKM (vs : List Str) (sn : Sn) (i : Nat) (nc : Bool) (c : Tst) (cs : Stmt → Bool) (s : Stmt) : Prop :=
  ∃ x q pe q2, s = .Assign [.Name x q] pe q2 ∧ vs[i]? = some x ∧ storable sn x = true ∧ ((nc = true ∧ c pe = true) ∨ cs (.Assign [.Name x q] pe q2) = true)
theorem setSK_t {vs : List Str} {sn : Sn} {i : Nat} {nc : Bool} {c : Tst} {cs : Stmt → Bool} {s : Stmt} (h : setSK vs sn i nc c cs s = true) : setSKM vs sn i nc c cs s := by
  obtain ⟨t, pe, q2, rfl, h1⟩ := as1K_t h
  obtain ⟨x, q, rfl, h2⟩ := xName_t h1
  have g := of_decide_eq_true (and_t h2).1
  exact ⟨x, q, pe, q2, rfl, g.1, g.2, (Bool.or_eq_true_iff.mp (and_t h2).2).imp and_t fun z => (and_t z).2⟩
noncomputable def up2P (sn : Sn) (i j : Nat) (x y : Str) (p1 p2 : Pos) (pe : PySem.Expr) : Bool := xCall pe (fun _ _ _ _ => true) || xTup pe fun vals _ _ => i != j && sw2 sn x y p1 p2 vals
noncomputable def up2K (vs : List Str) (sn : Sn) (i j : Nat) (c : Tst) (s : Stmt) : Bool :=
  as1K s fun t pe _ => nm2K t fun x p1 y p2 => decide (vs[i]? = some x ∧ vs[j]? = some y ∧ storable sn x = true ∧ storable sn y = true) && (c pe && up2P sn i j x y p1 p2 pe)
def up2KM (vs : List Str) (sn : Sn) (i j : Nat) (c : Tst) (s : Stmt) : Prop :=
  ∃ x p1 y p2 k tp pe q, s = .Assign [.Tuple [.Name x p1, .Name y p2] k tp] pe q ∧ (vs[i]? = some x ∧ vs[j]? = some y ∧ storable sn x = true ∧ storable sn y = true) ∧ c pe = true ∧ up2P sn i j x y p1 p2 pe = true
theorem up2K_t {vs : List Str} {sn : Sn} {i j : Nat} {c : Tst} {s : Stmt} (h : up2K vs sn i j c s = true) : up2KM vs sn i j c s := by
  obtain ⟨t, pe, q2, rfl, h1⟩ := as1K_t h
  obtain ⟨x, p1, y, p2, k, tp, rfl, h2⟩ := nm2K_t h1
  exact ⟨x, p1, y, p2, k, tp, pe, q2, rfl, of_decide_eq_true (and_t h2).1, and_t (and_t h2).2⟩
def up2PM (sn : Sn) (i j : Nat) (x y : Str) (p1 p2 : Pos) (pe : PySem.Expr) : Prop := (∃ f as kws q, pe = .Call f as kws q) ∨ ∃ vals k q, pe = .Tuple vals k q ∧ i ≠ j ∧ sw2 sn x y p1 p2 vals = true
theorem up2P_t {sn : Sn} {i j : Nat} {x y : Str} {p1 p2 : Pos} {pe : PySem.Expr} (h : up2P sn i j x y p1 p2 pe = true) : up2PM sn i j x y p1 p2 pe := by
  rcases Bool.or_eq_true_iff.mp h with z | z
  · obtain ⟨f, as, kws, q, e, _⟩ := xCall_t z; exact .inl ⟨f, as, kws, q, e⟩
  · obtain ⟨vals, k, q, e, z⟩ := xTup_t z; exact .inr ⟨vals, k, q, e, bne_iff_ne.mp (and_t z).1, (and_t z).2⟩
noncomputable def up3K (vs : List Str) (sn : Sn) (i j l : Nat) (c : Tst) (s : Stmt) : Bool :=
  as1K s fun t pe _ => nm3K t fun x p1 y p2 z p3 => decide ((vs[i]? = some x ∧ vs[j]? = some y ∧ vs[l]? = some z) ∧ (storable sn x = true ∧ storable sn y = true ∧ storable sn z = true) ∧ i ≠ j ∧ i ≠ l ∧ j ≠ l) && (c pe && xTup pe fun vals _ _ => sw3 sn x y z p1 p2 p3 vals)
def up3KM (vs : List Str) (sn : Sn) (i j l : Nat) (c : Tst) (s : Stmt) : Prop :=
  ∃ x p1 y p2 z p3 k tp vals k2 q2 q, s = .Assign [.Tuple [.Name x p1, .Name y p2, .Name z p3] k tp] (.Tuple vals k2 q2) q ∧ ((vs[i]? = some x ∧ vs[j]? = some y ∧ vs[l]? = some z) ∧ (storable sn x = true ∧ storable sn y = true ∧ storable sn z = true) ∧ i ≠ j ∧ i ≠ l ∧ j ≠ l) ∧
      c (.Tuple vals k2 q2) = true ∧ sw3 sn x y z p1 p2 p3 vals = true
theorem up3K_t {vs : List Str} {sn : Sn} {i j l : Nat} {c : Tst} {s : Stmt} (h : up3K vs sn i j l c s = true) : up3KM vs sn i j l c s := by
  obtain ⟨t, pe, q2, rfl, h1⟩ := as1K_t h
  obtain ⟨x, p1, y, p2, z, p3, k, tp, rfl, h2⟩ := nm3K_t h1
  have g := and_t (and_t h2).2
  obtain ⟨vals, k2, q3, rfl, w⟩ := xTup_t g.2
  exact ⟨x, p1, y, p2, z, p3, k, tp, vals, k2, q3, q2, rfl, of_decide_eq_true (and_t h2).1, g.1, w⟩
noncomputable def asgK (ct c : Tst) (nc : Bool) (s : Stmt) : Bool := as1K s fun t pe _ => nc && (ct t && c pe)
def asgKM (ct c : Tst) (nc : Bool) (s : Stmt) : Prop := ∃ t pe q, s = .Assign [t] pe q ∧ nc = true ∧ ct t = true ∧ c pe = true
theorem asgK_t {ct c : Tst} {nc : Bool} {s : Stmt} (h : asgK ct c nc s = true) : asgKM ct c nc s := by
  obtain ⟨t, pe, q2, rfl, h2⟩ := as1K_t h
  exact ⟨t, pe, q2, rfl, (and_t h2).1, and_t (and_t h2).2⟩
def augKM (ct c : Tst) (op : Operator) (s : Stmt) : Prop := ∃ t pe q, s = .AugAssign t op pe q ∧ ct t = true ∧ c pe = true
noncomputable def augK (ct c : Tst) (op : Operator) (s : Stmt) : Bool := sAug s fun t o pe _ => decide (o = op) && (ct t && c pe)
theorem augK_t {ct c : Tst} {op : Operator} {s : Stmt} (h : augK ct c op s = true) : augKM ct c op s := by
  obtain ⟨t, o, pe, q, rfl, h1⟩ := sAug_t h
  have h2 := and_t h1
  cases de h2.1
  exact ⟨t, pe, q, rfl, and_t h2.2⟩
noncomputable def ifsK (c : Tst) (t e : SsT) (s : Stmt) : Bool := sIf s fun pc pt pe _ => c pc && (t pt && e pe)
def ifsKM (c : Tst) (t e : SsT) (s : Stmt) : Prop := ∃ pc pt pe q, s = .If pc pt pe q ∧ c pc = true ∧ t pt = true ∧ e pe = true
theorem ifsK_t {c : Tst} {t e : SsT} {s : Stmt} (h : ifsK c t e s = true) : ifsKM c t e s :=
  let ⟨pc, pt, pe, q, z, h⟩ := sIf_t h; ⟨pc, pt, pe, q, z, (and_t h).1, and_t (and_t h).2⟩
noncomputable def whiK (c : Tst) (b : SsT) (s : Stmt) : Bool := sWhile s fun pc pb pe _ => l0 pe && (c pc && b pb)
def whiKM (c : Tst) (b : SsT) (s : Stmt) : Prop := ∃ pc pb q, s = .While pc pb [] q ∧ c pc = true ∧ b pb = true
theorem whiK_t {c : Tst} {b : SsT} {s : Stmt} (h : whiK c b s = true) : whiKM c b s := by
  obtain ⟨pc, pb, pe, q, rfl, h1⟩ := sWhile_t h
  have h2 := and_t h1
  cases l0_t h2.1
  exact ⟨pc, pb, q, rfl, and_t h2.2⟩
noncomputable def forK (vs : List Str) (sn : Sn) (i : Nat) (c : Tst) (b : SsT) (s : Stmt) : Bool := sFor s fun t pe pb po _ => l0 po && (xName t fun x _ => vs[i]? == some x && (sn.lookup x == some .local && (c pe && b pb)))
def forKM (vs : List Str) (sn : Sn) (i : Nat) (c : Tst) (b : SsT) (s : Stmt) : Prop := ∃ x q2 pe pb q, s = .For (.Name x q2) pe pb [] q ∧ vs[i]? = some x ∧ sn.lookup x = some .local ∧ c pe = true ∧ b pb = true
theorem forK_t {vs : List Str} {sn : Sn} {i : Nat} {c : Tst} {b : SsT} {s : Stmt} (h : forK vs sn i c b s = true) : forKM vs sn i c b s := by
  obtain ⟨t, pe, pb, po, q, rfl, h1⟩ := sFor_t h
  have h2 := and_t h1
  cases l0_t h2.1
  obtain ⟨x, q2, rfl, h3⟩ := xName_t h2.2
  exact ⟨x, q2, pe, pb, q, rfl, eq_of_beq (and_t h3).1, eq_of_beq (and_t (and_t h3).2).1, and_t (and_t (and_t h3).2).2⟩
noncomputable def retK (c : Tst) (s : Stmt) : Bool := sRet s fun o _ => @Option.casesOn _ (fun _ => Bool) o false c
def retKM (c : Tst) (s : Stmt) : Prop := ∃ pe q, s = .Return (some pe) q ∧ c pe = true
theorem retK_t {c : Tst} {s : Stmt} (h : retK c s = true) : retKM c s := by
  obtain ⟨o, q, rfl, h1⟩ := sRet_t h
  cases o with
  | none => exact ff h1
  | some pe => exact ⟨pe, q, rfl, h1⟩
noncomputable def expK (c : Tst) (s : Stmt) : Bool := sExpr s fun pe _ => c pe
def expKM (c : Tst) (s : Stmt) : Prop := ∃ pe q, s = .Expr pe q ∧ c pe = true
theorem expK_t {c : Tst} {s : Stmt} (h : expK c s = true) : expKM c s := sExpr_t h

mutual
noncomputable def chkS (sn : Sn) (vs : List Str) (cp : List Str → E → PySem.Expr → Bool) (cs : CpS) : S → Stmt → Bool
  | .set i e => setSK vs sn i (noComp e) (chkE sn vs cp e) (cs vs i e)
  | .unpack2 i j e => up2K vs sn i j (chkE sn vs cp e)
  | .unpack3 i j l e => up3K vs sn i j l (chkE sn vs cp e)
  | .setA o f e => asgK (attrK fldTab[f]? true (chkE sn vs cp o)) (chkE sn vs cp e) (noComp e)
  | .setI o i e => asgK (idxK (chkE sn vs cp o) (chkE sn vs cp i)) (chkE sn vs cp e) (noComp e)
  | .augN i op e => augK (fun t => xName t fun x _ => vs[i]? == some x && storable sn x) (chkE sn vs cp e) op
  | .augA o f op e => augK (attrK fldTab[f]? true (chkE sn vs cp o)) (chkE sn vs cp e) op
  | .augI o i op e => augK (idxK (chkE sn vs cp o) (chkE sn vs cp i)) (chkE sn vs cp e) op
  | .augK o k op e => augK (keyK fldTab[k]? (chkE sn vs cp o)) (chkE sn vs cp e) op
  | .ifs c t e => ifsK (chkT sn vs cp c) (chkSs sn vs cp cs t) (chkSs sn vs cp cs e)
  | .while c b => whiK (chkT sn vs cp c) (chkSs sn vs cp cs b)
  | .forR1 x hi b => forK vs sn x (fn1K ("range" : Str) (isGlob sn) (chkE sn vs cp hi)) (chkSs sn vs cp cs b)
  | .forR2 x lo hi b => forK vs sn x (fn2K ("range" : Str) (isGlob sn) (chkE sn vs cp lo) (chkE sn vs cp hi)) (chkSs sn vs cp cs b)
  | .forV x e b => forK vs sn x (chkE sn vs cp e) (chkSs sn vs cp cs b)
  | .ret e => retK (chkE sn vs cp e)
  | .app o e => expK (methK ("append" : Str) (methBase o) (chkE sn vs cp o) (fun l => l1 l (chkE sn vs cp e)))
  | .expr e => expK (fun t => noComp e && chkE sn vs cp e t)
  | .raise => fun s => sRaise s fun _ _ _ => true
noncomputable def chkSs (sn : Sn) (vs : List Str) (cp : List Str → E → PySem.Expr → Bool) (cs : CpS) : Ss → List Stmt → Bool
  | .nil => l0
  | .cons s r => fun l => lc l fun a b => chkS sn vs cp cs s a && chkSs sn vs cp cs r b
end

noncomputable def CompsSOk (G : Gl) (A : Around) (env : Env) (vs : List Str) (h₀ : Heap) (Γ : Gam) (cs : CpS) : Prop :=
  ∀ (i : Nat) (e : E) (x : Str) (q q2 : Pos) (pe : PySem.Expr), cs vs i e (.Assign [.Name x q] pe q2) = true → vs[i]? = some x → storable env.scope.names x = true → SOk G A env vs h₀ (.Assign [.Name x q] pe q2) (evS Γ (.set i e))

section
variable {G : Gl} {K : Frag} {p : Program} {loose : List Str} {mg mb : Str → Option Value} {A : Around} {env : Env} {vs : List Str} {h₀ : Heap} {Γ : Gam} {cp : List Str → E → PySem.Expr → Bool} {cs : CpS}

theorem noComp_sw {pe : PySem.Expr} {e : E} {sn : Sn} {t : Option PySem.Expr} {l : Nat} (hn : noComp e = true) (hc : chkE sn vs cp e pe = true) : swapsWith pe t l env = pure false :=
  no_swap hc hn

set_option maxHeartbeats 1000000 in
theorem chkS_ok (H : Frm G K p loose mg mb A env vs h₀) (CO : CallsOk G A env h₀ Γ) (HC : CompsOk G A env vs h₀ Γ cp) (HS : CompsSOk G A env vs h₀ Γ cs) (st : Ss) :
    ∀ ps, chkSs env.scope.names vs cp cs st ps = true → SsOk G A env vs h₀ ps (evSs Γ st) := by
  have ce := fun e pe => (chk_ok H CO HC e pe).1
  have ct := fun e pe => (chk_ok H CO HC e pe).2
  have hi : interactive env = false := by unfold interactive; rw [H.kind]; rfl
  refine Ss.rec (motive_1 := fun st => ∀ ps, chkS env.scope.names vs cp cs st ps = true → SOk G A env vs h₀ ps (evS Γ st))
    (motive_2 := fun st => ∀ ps, chkSs env.scope.names vs cp cs st ps = true → SsOk G A env vs h₀ ps (evSs Γ st))
    ?set ?unpack2 ?unpack3 ?setA ?setI ?augN ?augA ?augI ?augK ?ifs ?whi ?forR1 ?forR2 ?forV ?ret ?app ?expr ?raise ?nil ?cons st
  case set =>
    intro i e ps h
    obtain ⟨x, q, pe, q2, rfl, h1, h2, h3⟩ := setSK_t h
    rcases h3 with h3 | h3
    · exact s_set H h2 h1 (noComp_sw h3.1 h3.2) (ce _ _ h3.2)
    · exact HS _ _ _ _ _ _ h3 h1 h2
  case unpack2 =>
    intro i j e ps h
    obtain ⟨x, p1, y, p2, k, tp, pe, q, rfl, ⟨h1, h2, h3, h4⟩, h6, h5⟩ := up2K_t h
    rcases up2P_t h5 with ⟨f, as, kws, q, rfl⟩ | ⟨vals, k, q, rfl, h5, h7⟩
    · exact s_unpack_call H h3 h4 h1 h2 rfl rfl (ce _ _ h6)
    · exact s_unpack2 H h3 h4 h1 h2 h5 h7 (ce _ _ h6)
  case unpack3 =>
    intro i j l e ps h
    obtain ⟨x, p1, y, p2, z, p3, k, tp, vals, k2, q2, q, rfl, ⟨⟨h1, h2, h3⟩, ⟨h4, h5, h6⟩, h7, h8, h9⟩, h11, h10⟩ := up3K_t h
    exact s_unpack3 H h4 h5 h6 h1 h2 h3 h7 h8 h9 h10 (ce _ _ h11)
  case setA =>
    intro o f e ps h
    obtain ⟨t, pe, q, rfl, h1, h2, h4⟩ := asgK_t h
    obtain ⟨p, nm, q2, rfl, h2, _, h3⟩ := attrK_t h2
    exact s_setA H h2 (noComp_sw h1 h4) (ce _ _ h3) (ce _ _ h4)
  case setI =>
    intro o i e ps h
    obtain ⟨t, pe, q, rfl, h1, h2, h4⟩ := asgK_t h
    obtain ⟨p, pi, q2, rfl, h2, h3⟩ := idxK_t h2
    exact s_setI (noComp_sw h1 h4) (ce _ _ h2) (ce _ _ h3) (ce _ _ h4)
  case augN =>
    intro i op e ps h
    obtain ⟨t, pe, q, rfl, h1, h4⟩ := augK_t h
    obtain ⟨x, q2, rfl, h2⟩ := xName_t h1
    exact s_augN H (and_t h2).2 (eq_of_beq (and_t h2).1) (ce _ _ h4)
  case augA =>
    intro o f op e ps h
    obtain ⟨t, pe, q, rfl, h1, h4⟩ := augK_t h
    obtain ⟨p, nm, q2, rfl, h2, _, h3⟩ := attrK_t h1
    exact s_augA H h2 (ce _ _ h3) (ce _ _ h4)
  case augI =>
    intro o i op e ps h
    obtain ⟨t, pe, q, rfl, h1, h4⟩ := augK_t h
    obtain ⟨p, pi, q2, rfl, h2, h3⟩ := idxK_t h1
    exact s_augI H h3 (ce _ _ h2) (ce _ _ h3) (ce _ _ h4)
  case augK =>
    intro o k op e ps h
    obtain ⟨t, pe, q, rfl, h1, h4⟩ := augK_t h
    obtain ⟨p, x, kk, q3, q2, rfl, h2, h3⟩ := keyK_t h1
    exact s_augK h2 (ce _ _ h3) (ce _ _ h4)
  case ifs =>
    intro c t e it ie ps h
    obtain ⟨pc, pt, pe, q, rfl, h1, h2, h3⟩ := ifsK_t h
    exact s_ifs (ct _ _ h1) (it _ h2) (ie _ h3)
  case whi =>
    intro c b ib ps h
    obtain ⟨pc, pb, q, rfl, h1, h2⟩ := whiK_t h
    exact s_while (ct _ _ h1) (ib _ h2)
  case forR1 =>
    intro x hi' b ib ps h
    obtain ⟨nm, q2, pe, pb, q, rfl, h1, h2, h3, h6⟩ := forK_t h
    obtain ⟨np, p, q3, rfl, h4, h5⟩ := fn1K_t h3
    exact s_forR1 H h1 h2 h4 h5 (ce _ _ h5) (ib _ h6)
  case forR2 =>
    intro x lo hi' b ib ps h
    obtain ⟨nm, q2, pe, pb, q, rfl, h1, h2, h3, h6⟩ := forK_t h
    obtain ⟨np, p, p', q3, rfl, h4, h5, h7⟩ := fn2K_t h3
    exact s_forR2 H h1 h2 h4 h5 h7 (ce _ _ h5) (ce _ _ h7) (ib _ h6)
  case forV =>
    intro x e b ib ps h
    obtain ⟨nm, q2, pe, pb, q, rfl, h1, h2, h3, h6⟩ := forK_t h
    exact s_forV H h1 h2 h3 (ce _ _ h3) (ib _ h6)
  case ret =>
    intro e ps h
    obtain ⟨pe, q, rfl, h1⟩ := retK_t h
    exact s_ret (ce _ _ h1)
  case app =>
    intro o e ps h
    obtain ⟨t, q, rfl, h1⟩ := expK_t h
    obtain ⟨p, ap, as, po, rfl, h2, h3, h4, h5⟩ := methK_t h1
    obtain ⟨pe, rfl, h6⟩ := l1_t h2
    exact s_app h3 h5 h6 h4 hi (ce _ _ h5) (ce _ _ h6)
  case expr =>
    intro e ps h
    obtain ⟨t, q, rfl, h1⟩ := expK_t h
    exact s_expr hi (noComp_sw (and_t h1).1 (and_t h1).2) (ce _ _ (and_t h1).2)
  case raise =>
    intro ps h μ σ loc s m news fl loc' σ' Q Er F N S V hh k
    cases hh
  case nil =>
    intro ps h
    cases l0_t h
    exact ss_nil
  case cons =>
    intro s r is ir ps h
    obtain ⟨a, b, rfl, h1⟩ := lc_t h
    exact ss_cons (is _ (and_t h1).1) (ir _ (and_t h1).2)
end
end Mine

/-! ## M15 -/
namespace Mine
open PySem PySem.W PyProof.Rows PySem.Calls

noncomputable def noCp : List Str → E → PySem.Expr → Bool := fun _ _ _ => false
noncomputable def noCs : CpS := fun _ _ _ _ => false

theorem under_frames (A : Around) (C : Addr) (vals : List Value) : (A.under (.builtin "type.__call__" ⟨.ref C :: vals, []⟩)).frames = A.frames := rfl

noncomputable def scOk (_ : Scope) (vs : List Str) : Bool :=
  vs.all (fun x => !(x == ("__debug__" : Str)) && !(x == ("__classdict__" : Str))) && decide vs.Nodup

/-- a def of the text, as the heap has it -/
structure FnAt (G : Gl) (K : Frag) (cpF : Sn → List Str → E → PySem.Expr → Bool) (csF : Sn → CpS) (f : Nat) (fd : Fn) (name qual : Str) (params : Arguments) (body : List Stmt) (scope : Scope) (dV kV doc pm cdv ct oc : Value) (an od : Option Addr) (osl : Array (Option Value)) : Prop where
  lk : K.lookup (G.FA f) = some ⟨oc, od, .func (fnOf name qual params body scope dV kV doc pm an cdv ct), osl⟩
  code : codeIn K cdv qual = true
  bind : ∀ xs : List Value, xs.length = fd.arity → bindArgs (fnOf name qual params body scope dV kV doc pm an cdv ct) ⟨xs, []⟩ = pure ((fd.vars.take fd.arity).zip xs)
  co : scope.isCoroutine = false
  gen : scope.isGenerator = false
  kind : scope.kind = .function
  ar : fd.arity ≤ fd.vars.length
  sc : scOk scope fd.vars = true
  chk : chkSs scope.names fd.vars (cpF scope.names) (csF scope.names) fd.body body = true
/-- its names are all local -/
noncomputable def Plain (scope : Scope) (fd : Fn) : Prop := (fd.vars.all fun x => scope.names.lookup x == some .local) = true ∧ (scope.names.all fun x => x.2 != .cell) = true
/-- one of its names is a cell -/
noncomputable def OneCell (scope : Scope) (fd : Fn) (cx : Str) : Prop := (∀ n, cellsFrom n scope.names [] = [(cx, n)]) ∧ cx ∈ fd.vars ∧ scope.names.lookup cx = some .cell ∧ (fd.vars.all fun x => x == cx || scope.names.lookup x == some .local) = true

noncomputable def FnOk (G : Gl) (K : Frag) (cpF : Sn → List Str → E → PySem.Expr → Bool) (csF : Sn → CpS) (f : Nat) (fd : Fn) : Prop :=
  ∃ name qual params body scope dV kV doc pm cdv ct oc an od osl, FnAt G K cpF csF f fd name qual params body scope dV kV doc pm cdv ct oc an od osl ∧ (Plain scope fd ∨ ∃ cx, OneCell scope fd cx)

theorem lookup_rev {x : Str} {u : Value} : ∀ {ns : List Str} {xs : List Value} {i : Nat}, ns.Nodup → ns[i]? = some x → xs[i]? = some u → (ns.zip xs).reverse.lookup x = some u
  | [], _, _, _, h, _ => by simp at h
  | _ :: _, [], _, _, _, h => by simp at h
  | a :: ns, y :: xs, i, nd, h1, h2 => by
    rw [List.zip_cons_cons, List.reverse_cons, List.lookup_append]
    cases i with
    | zero =>
      simp at h1 h2
      subst h1 h2
      have hn : (ns.zip xs).reverse.lookup a = none := by
        rw [List.lookup_eq_none_iff]
        intro p hp
        have := (List.of_mem_zip (List.mem_reverse.mp hp)).1
        simp only [bne_iff_ne]
        intro e
        have e' : p.1 = a := by simpa using e.symm
        exact (List.nodup_cons.mp nd).1 (e' ▸ this)
      rw [hn]
      simp
    | succ i =>
      simp at h1 h2
      rw [lookup_rev (List.nodup_cons.mp nd).2 h1 h2]
      rfl

section
variable {kf : Str → Option NameKind}
theorem bindL_other {x : Str} : ∀ (ns : List Str) (xs : List Value) (m : Str → Option Value), x ∉ ns → bindL kf (ns.zip xs) m x = m x
  | [], _, _, _ => rfl
  | _ :: _, [], _, _ => rfl
  | a :: ns, y :: xs, m, h => by
    rw [List.zip_cons_cons]
    unfold bindL
    rw [bindL_other ns xs _ (fun z => h (.tail _ z))]
    split
    · show (if x = a then _ else _) = _
      rw [if_neg]; intro e; exact h (e ▸ .head _)
    · rfl
theorem bindL_get {x : Str} {u : Value} (hk : kf x = some .local) : ∀ (ns : List Str) (xs : List Value) (m : Str → Option Value) (i : Nat), ns.Nodup → ns[i]? = some x → xs[i]? = some u → bindL kf (ns.zip xs) m x = some u
  | [], _, _, _, _, h, _ => by simp at h
  | _ :: _, [], _, _, _, _, h => by simp at h
  | a :: ns, y :: xs, m, 0, nd, h1, h2 => by
    simp at h1 h2
    subst h1 h2
    rw [List.zip_cons_cons]
    unfold bindL
    rw [bindL_other ns xs _ (List.nodup_cons.mp nd).1, if_pos hk]
    simp
  | a :: ns, y :: xs, m, i + 1, nd, h1, h2 => by
    simp at h1 h2
    rw [List.zip_cons_cons]
    unfold bindL
    exact bindL_get hk ns xs _ i (List.nodup_cons.mp nd).2 h1 h2
theorem bindC_other {x : Str} : ∀ (ns : List Str) (xs : List Value) (m : Str → Option Value), x ∉ ns → bindC kf (ns.zip xs) m x = m x
  | [], _, _, _ => rfl
  | _ :: _, [], _, _ => rfl
  | a :: ns, y :: xs, m, h => by
    rw [List.zip_cons_cons]
    unfold bindC
    rw [bindC_other ns xs _ (fun z => h (.tail _ z))]
    split
    · rfl
    · show (if x = a then _ else _) = _
      rw [if_neg]; intro e; exact h (e ▸ .head _)
theorem bindC_get {x : Str} {u : Value} (hk : kf x ≠ some .local) : ∀ (ns : List Str) (xs : List Value) (m : Str → Option Value) (i : Nat), ns.Nodup → ns[i]? = some x → xs[i]? = some u → bindC kf (ns.zip xs) m x = some u
  | [], _, _, _, _, h, _ => by simp at h
  | _ :: _, [], _, _, _, _, h => by simp at h
  | a :: ns, y :: xs, m, 0, nd, h1, h2 => by
    simp at h1 h2
    subst h1 h2
    rw [List.zip_cons_cons]
    unfold bindC
    rw [bindC_other ns xs _ (List.nodup_cons.mp nd).1, if_neg hk]
    simp
  | a :: ns, y :: xs, m, i + 1, nd, h1, h2 => by
    simp at h1 h2
    rw [List.zip_cons_cons]
    unfold bindC
    exact bindC_get hk ns xs _ i (List.nodup_cons.mp nd).2 h1 h2
end

/-- the arguments, as the frame's first values -/
theorem args_at {BA : Nat → Addr} {μ : Mu} {fd : Fn} {args : List MV} {xs : List Value} {i : Nat} {x : Str} {ov : Option MV} {v : MV} (ha : args.length = fd.arity) (hv : VRs BA μ args xs) (hx : fd.vars[i]? = some x)
    (ho : (args.map some ++ List.replicate (fd.vars.length - fd.arity) none)[i]? = some ov) (hov : ov = some v) : ∃ u, (fd.vars.take fd.arity)[i]? = some x ∧ xs[i]? = some u ∧ VR BA μ v u := by
  subst hov
  have hi : i < args.length := by
    apply Nat.lt_of_not_le
    intro hle
    rw [List.getElem?_append_right (by simpa using hle)] at ho
    simp [List.getElem?_replicate] at ho
  rw [List.getElem?_append_left (by simpa using hi), List.getElem?_map] at ho
  obtain ⟨w, hw, e⟩ := Option.map_eq_some_iff.mp ho
  cases e
  obtain ⟨u, hu, hr⟩ := hv.get hw
  exact ⟨u, by rw [List.getElem?_take, if_pos (by omega)]; exact hx, hu, hr⟩

section
variable {G : Gl} {K : Frag} {p : Program} {loose : List Str} {mean : ExcName → Option Value} {mg mb : Str → Option Value} {cpF : Sn → List Str → E → PySem.Expr → Bool} {csF : Sn → CpS}

/-- the comprehensions, in whatever frame -/
noncomputable def CompsAll (G : Gl) (K : Frag) (p : Program) (loose : List Str) (mg mb : Str → Option Value) (cpF : Sn → List Str → E → PySem.Expr → Bool) (csF : Sn → CpS) : Prop :=
  ∀ (A : Around) (env : Env) (vs : List Str) (h₀ : Heap) (Γ : Gam), Frm G K p loose mg mb A env vs h₀ → CallsOk G A env h₀ Γ → CompsOk G A env vs h₀ Γ (cpF env.scope.names) ∧ CompsSOk G A env vs h₀ Γ (csF env.scope.names)

theorem callF_ok (KK : KOk G K) (CA : CompsAll G K p loose mg mb cpF csF) {P : Nat → Option Fn} (FO : ∀ f fd, P f = some fd → FnOk G K cpF csF f fd) : ∀ (n : Nat) (f : Nat) (args : List MV) (σ : Hp) (v : MV) (σ' : Hp), callF P n f args σ = some (v, σ') →
    ∀ (A A₀ : Around) (env : Env) (outer : List Env) (base h₀ : Heap), K.In h₀ → Top p loose mean mg mb h₀ → Below A₀ base outer h₀ → A.frames = some (env :: outer) → env.frame = some env.locals → env.scope.kind = .function → A.handled = none →
    A.depth + 2 * n < 900 → A.units + 10 * n < 9000 →
    ∀ (μ : Mu) (s : Shared) (m : Str → Option Value) (news : Nw) (xs : List Value) (R : Result → Shared → Prop), Fr h₀ env.locals s.heap m → News h₀ env.locals s.heap news → Sim G μ σ news → VRs G.BA μ args xs →
    (∀ h' tk μ' news' x, Fr h₀ env.locals h' m → News h₀ env.locals h' news' → Sim G μ' σ' news' → Ext NoX μ σ news μ' σ' news' → VR G.BA μ' v x → R (.ok (.ret x)) ⟨h', s.gens, s.drawn, tk, s.os⟩) →
    codeAny G.M A (.call (.ref (G.FA f)) ⟨xs, []⟩) R s := by
  intro n
  induction n with
  | zero => intro f args σ v σ' h; cases h
  | succ n ih =>
    intro f args σ v σ' h A A₀ env outer base h₀ X T B hA hf hk hh hd hu μ s m news xs R F N S hv k
    refine hide fun gX goBack => ?_
    simp only [callF, Option.bind_eq_some_iff] at h
    obtain ⟨fd, hfd, h⟩ := h
    unfold runFn at h
    split at h
    · rename_i ha
      obtain ⟨⟨fl, locF, σF⟩, h1, h2⟩ := Option.bind_eq_some_iff.mp h
      have fin : σF = σ' ∧ ∀ (μ' : Mu) (fw : Flow), FlR G.BA μ' fl fw → ∃ x, ((fw = .next ∧ x = Value.none) ∨ fw = .ret x) ∧ VR G.BA μ' v x := by
        cases fl with
        | next => cases h2; exact ⟨rfl, fun μ' fw hw => by cases hw; exact ⟨_, .inl ⟨rfl, rfl⟩, rfl⟩⟩
        | ret v' => cases h2; exact ⟨rfl, fun μ' fw hw => by obtain ⟨x, rfl, hx⟩ := hw; exact ⟨x, .inr rfl, hx⟩⟩
      obtain ⟨rfl, fin⟩ := fin
      obtain ⟨name, qual, params, body, scope, dV, kV, doc, pm, cdv, ct, oc, an, od, osl, W, cells⟩ := FO f fd hfd
      have hsc := W.sc
      unfold scOk at hsc
      rw [Bool.and_eq_true, List.all_eq_true, decide_eq_true_eq] at hsc
      obtain ⟨hdbg, hnd⟩ := hsc
      have hvok : ∀ x ∈ fd.vars, (x == ("__debug__" : Str)) = false ∧ (x == ("__classdict__" : Str)) = false := fun x hx => by
        have := hdbg x hx
        simpa using this
      have hxl : xs.length = fd.arity := by rw [hv.len, ha]
      have hroom : A.depth < recursionLimit := by
        show A.depth < 1000
        omega
      -- the calls that are made from the new frame
      have calls : ∀ (envN : Env) (g : Heap), K.In g → Top p loose mean mg mb g → Below A base (env :: outer) g → envN.frame = some envN.locals → envN.scope.kind = .function → CallsOk G (A.deeper envN) envN g (callF P n) := by
        intro envN g Xg Tg Bg hfN hkN A' hA' f' args' σ1 v1 σ2 hc μ1 s1 m1 news1 xs1 R1 F1 N1 S1 hv1 k1
        have hfr : (A.deeper envN).frames = some (envN :: env :: outer) := by
          show A.frames.map (envN :: ·) = _
          rw [hA]; rfl
        rcases hA' with rfl | ⟨C, vals, rfl⟩
        · exact ih f' args' σ1 v1 σ2 hc (A.deeper envN) A envN (env :: outer) base g Xg Tg Bg hfr hfN hkN hh (by show A.depth + 1 + 2 * n < 900; omega) (by show A.units + 3 + 10 * n < 9000; omega) μ1 s1 m1 news1 xs1 R1 F1 N1 S1 hv1 k1
        · exact ih f' args' σ1 v1 σ2 hc ((A.deeper envN).under (.builtin "type.__call__" ⟨.ref C :: vals, []⟩)) A envN (env :: outer) base g Xg Tg Bg (by rw [under_frames]; exact hfr) hfN hkN hh (by rw [depth_under_make]; show A.depth + 1 + 1 + 2 * n < 900; omega) (by rw [units_under_make]; show A.units + 3 + 1 + 10 * n < 9000; omega) μ1 s1 m1 news1 xs1 R1 F1 N1 S1 hv1 k1
      rcases cells with ⟨hp1, hp2⟩ | ⟨cx, hcells, hcx, hck, hloc⟩
      · -- no cell
        rw [List.all_eq_true] at hp1 hp2
        have hlocal : ∀ x ∈ fd.vars, scope.names.lookup x = some .local := fun x hx => by simpa using hp1 x hx
        refine goBack ?_
        refine code_def B F X N T hA hf hk W.lk W.code hroom (BindsTo.of_eq (W.bind xs hxl)) ?_ ?_ W.co W.gen W.kind ?_
        · intro y hy
          exact hlocal y.1 (List.mem_of_mem_take (List.of_mem_zip hy).1)
        · intro g L' h₁ FG F' N' B' Xg Tg
          have H : Frm G K p loose mg mb (A.deeper (envOf qual scope L' (G.FA f) cdv)) (envOf qual scope L' (G.FA f) cdv) fd.vars g := {
            X := Xg, T := ⟨Tg.g, Tg.b, Tg.nolimit, Tg.builtins, Tg.free⟩, KK := KK, hh := hh, units := by show A.units + 3 + 64 < 9900; omega, kind := W.kind, glob := rfl, blt := rfl, nd := hnd
            cl := fun x y c hx => by cases hx
            cvs := fun x c hx => by cases hx
            vok := hvok }
          have CO := calls (envOf qual scope L' (G.FA f) cdv) g Xg Tg B' rfl W.kind
          obtain ⟨HC, HS⟩ := CA _ _ _ _ _ H CO
          have V : Vars G.BA (envOf qual scope L' (G.FA f) cdv) fd.vars μ (args.map some ++ List.replicate (fd.vars.length - fd.arity) none) (fun y => ((fd.vars.take fd.arity).zip xs).reverse.lookup y) news := by
            refine ⟨by simp; have := W.ar; omega, fun i x ov hx ho => .inl ⟨hlocal x (List.mem_of_getElem? hx), fun w hw => ?_⟩⟩
            obtain ⟨u, g1, g2, g3⟩ := args_at ha hv hx ho hw
            exact ⟨u, lookup_rev (List.Nodup.sublist (List.take_sublist _ _) hnd) g1 g2, g3⟩
          refine chkS_ok H CO HC HS fd.body body W.chk μ σ _ ⟨h₁, s.gens, s.drawn, _, s.os⟩ _ news fl locF σF _ _ F' N' S V h1 fun h' tk m' μ' news' fw F2 N2 S2 E2 V2 hw => ?_
          obtain ⟨x, e, hx⟩ := fin μ' fw hw
          have E3 : Ext NoX μ σ news μ' σF news' := ⟨E2.pre, fun q hq hf _ => E2.keep q hq hf (fun hc => by obtain ⟨y, hy⟩ := hc; cases hy), E2.foot, E2.keys⟩
          rcases e with ⟨rfl, rfl⟩ | rfl
          · exact ⟨L', m', news', F2, N2, fun F3 N3 => k h' tk μ' news' _ F3 N3 S2 E3 hx⟩
          · exact ⟨L', m', news', F2, N2, fun F3 N3 => k h' tk μ' news' _ F3 N3 S2 E3 hx⟩
        · intro x hx
          simpa using hp2 x hx
      · -- one cell
        rw [List.all_eq_true] at hloc
        have hlocal : ∀ x ∈ fd.vars, x ≠ cx → scope.names.lookup x = some .local := fun x hx ne => by
          have := hloc x hx
          simpa [ne] using this
        refine goBack ?_
        refine code_defC B F X N T hA hf hk W.lk W.code hroom (BindsTo.of_eq (W.bind xs hxl)) ?_ ?_ ?_ W.co W.gen W.kind
        · rw [List.all_eq_true]
          intro y hy
          by_cases e : y.1 = cx
          · simp [e, hck]
          · simp [hlocal y.1 (List.mem_of_mem_take (List.of_mem_zip hy).1) e]
        · rw [hcells]; simp
        · intro g L' h₁ tk₁ cells FG F' N' Y B' Xg Tg lt
          have hkf : ∀ y, (envOfC qual scope L' (G.FA f) cdv).kindOf y = scope.names.lookup y := fun _ => rfl
          have hce : (envOfC qual scope L' (G.FA f) cdv).cells = [(cx, L' + 1)] := hcells (L' + 1)
          rw [hcells (L' + 1)] at Y
          obtain ⟨o, rfl, hod⟩ := Y.one
          have nk : L' + 1 ∉ news.map (·.1) := fun hm => by
            obtain ⟨q, hq, e⟩ := List.mem_map.mp hm
            have := lt q hq
            rw [e] at this
            exact absurd this (Nat.not_lt.mpr (Nat.le_succ _))
          have H : Frm G K p loose mg mb (A.deeper (envOfC qual scope L' (G.FA f) cdv)) (envOfC qual scope L' (G.FA f) cdv) fd.vars g := {
            X := Xg, T := ⟨Tg.g, Tg.b, Tg.nolimit, Tg.builtins, Tg.free⟩, KK := KK, hh := hh, units := by show A.units + 3 + 64 < 9900; omega, kind := W.kind, glob := rfl, blt := rfl, nd := hnd
            cl := fun x y c hx hy => by
              rw [hce] at hx hy
              rw [List.lookup_cons] at hx hy
              split at hx <;> split at hy <;> simp_all
            cvs := fun x c hx => by
              rw [hce, List.lookup_cons] at hx
              split at hx
              · rename_i e
                have e' : x = cx := by simpa using e
                subst e'
                exact ⟨hcx, by rw [hkf, hck]; simp⟩
              · simp at hx
            vok := hvok }
          have CO := calls (envOfC qual scope L' (G.FA f) cdv) g Xg Tg B' rfl W.kind
          obtain ⟨HC, HS⟩ := CA _ _ _ _ _ H CO
          have S' : Sim G μ σ ((L' + 1, o) :: news) := S.cons nk
          have V : Vars G.BA (envOfC qual scope L' (G.FA f) cdv) fd.vars μ (args.map some ++ List.replicate (fd.vars.length - fd.arity) none) (bindL (envOfC qual scope L' (G.FA f) cdv).kindOf ((fd.vars.take fd.arity).zip xs) fun _ => none) ((L' + 1, o) :: news) := by
            refine ⟨by simp; have := W.ar; omega, fun i x ov hx ho => ?_⟩
            by_cases e : x = cx
            · subst e
              refine .inr ⟨.inl (by rw [hkf]; exact hck), L' + 1, o, _, by rw [hce]; simp, .head _, hod, fun w hw => ?_⟩
              obtain ⟨u, g1, g2, g3⟩ := args_at ha hv hx ho hw
              exact ⟨u, bindC_get (by rw [hkf, hck]; simp) _ _ _ i (List.Nodup.sublist (List.take_sublist _ _) hnd) g1 g2, g3⟩
            · refine .inl ⟨by rw [hkf]; exact hlocal x (List.mem_of_getElem? hx) e, fun w hw => ?_⟩
              obtain ⟨u, g1, g2, g3⟩ := args_at ha hv hx ho hw
              exact ⟨u, bindL_get (by rw [hkf]; exact hlocal x (List.mem_of_getElem? hx) e) _ _ _ i (List.Nodup.sublist (List.take_sublist _ _) hnd) g1 g2, g3⟩
          refine chkS_ok H CO HC HS fd.body body W.chk μ σ _ ⟨h₁, s.gens, s.drawn, tk₁, s.os⟩ _ _ fl locF σF _ _ F' N' S' V h1 fun h' tk m' μ' news' fw F2 N2 S2 E2 V2 hw => ?_
          obtain ⟨x, e, hx⟩ := fin μ' fw hw
          have E3 : Ext NoX μ σ news μ' σF news' := by
            refine ⟨E2.pre, fun q hq hf _ => E2.keep q (.tail _ hq) hf (fun hc => ?_), fun a ha => (E2.foot a ha).imp id fun z hz => z (List.Mem.tail (L' + 1) hz), fun a ha => E2.keys a (List.Mem.tail (L' + 1) ha)⟩
            obtain ⟨y, hy⟩ := hc
            rw [hce, List.lookup_cons] at hy
            split at hy
            · have e4 := Option.some.inj hy
              exact nk (List.mem_map.mpr ⟨q, hq, by first | exact e4.symm | exact e4⟩)
            · simp at hy
          rcases e with ⟨rfl, rfl⟩ | rfl
          · exact ⟨L', m', news', F2, N2, fun F3 N3 => k h' tk μ' news' _ F3 N3 S2 E3 hx⟩
          · exact ⟨L', m', news', F2, N2, fun F3 N3 => k h' tk μ' news' _ F3 N3 S2 E3 hx⟩
    · cases h
end
end Mine

/-! ## M16 -/
namespace Mine
open PySem PySem.W PyProof.Rows PySem.Calls

/-! the names of a comprehension's block: its own and one captured -/
noncomputable def chkI (x y : Str) : E → PySem.Expr → Bool
  | .loc i => fun t => xName t fun z _ => (Nat.beq i 0 && z == x) || (Nat.beq i 1 && z == y)
  | .int i => intK i
  | .bin op l r => binK op (chkI x y l) (chkI x y r)
  | .attr e f => attrK fldTab[f]? (attrBase e) (chkI x y e)
  | .idx e i => idxK (chkI x y e) (chkI x y i)
  | _ => no
theorem chkI_sh {x y : Str} {e : E} {t : PySem.Expr} (h : chkI x y e t = true) : okSh t = true := by
  cases e with
  | loc => obtain ⟨_, _, rfl, _⟩ := xName_t h; rfl
  | int => obtain ⟨_, _, rfl⟩ := intK_t h; rfl
  | bin => obtain ⟨_, _, _, rfl, _⟩ := binK_t h; rfl
  | attr => obtain ⟨_, _, _, rfl, _⟩ := attrK_t h; rfl
  | idx => obtain ⟨_, _, _, rfl, _⟩ := idxK_t h; rfl
  | _ => exact ff h

structure InnerAt (G : Gl) (C c : Addr) (oC oc : Obj) (m₂ : Str → Option Value) (x : Str) (v0 : MV) (cap : Option MV) (μ : Mu) (σ : Hp) (news : Nw) : Prop where
  hC : (C, oC) ∈ news
  hx : ∃ u, m₂ x = some u ∧ VR G.BA μ v0 u
  hc : (c, oc) ∈ news
  hd : ∃ cv, oc.data = .cell cv ∧ ∀ w, cap = some w → ∃ u, cv = some u ∧ VR G.BA μ w u
  nf : ¬ Foot μ σ C

section
variable {G : Gl} {K : Frag} {p : Program} {loose : List Str} {mg mb : Str → Option Value} {A : Around} {env : Env} {vs : List Str} {h₀ : Heap}
  {C c : Addr} {oC oc : Obj} {m₂ : Str → Option Value} {x y : Str} {v0 : MV} {cap : Option MV} {μ μ' : Mu} {σ σ' : Hp} {news news' : Nw}

theorem InnerAt.ext (I : InnerAt G C c oC oc m₂ x v0 cap μ σ news) (S : Sim G μ σ news) (e : Ext NoX μ σ news μ' σ' news') : InnerAt G C c oC oc m₂ x v0 cap μ' σ' news' := by
  obtain ⟨cv, hd, hw⟩ := I.hd
  obtain ⟨u, hu, hr⟩ := I.hx
  refine ⟨e.keep _ I.hC I.nf (fun z => z), ⟨u, hu, hr.ext e⟩, e.keep _ I.hc (cell_not_foot S I.hc hd) (fun z => z), ⟨cv, hd, fun w hcw => let ⟨u, a, b⟩ := hw w hcw; ⟨u, a, b.ext e⟩⟩, fun hf => ?_⟩
  rcases e.foot _ hf with q | q
  · exact I.nf q
  · exact q (List.mem_map.mpr ⟨_, I.hC, rfl⟩)

noncomputable def IOk (G : Gl) (A : Around) (env : Env) (h₀ : Heap) (scope : Scope) (C c : Addr) (oC oc : Obj) (m₂ : Str → Option Value) (x y : Str) (v0 : MV) (cap : Option MV) (pe : PySem.Expr) (e : E) : Prop :=
  ∀ (μ : Mu) (σ : Hp) (s : Shared) (m : Str → Option Value) (news : Nw) (v : MV) (σ' : Hp) (Q : Value → Shared → Prop) (Er : Value → Shared → Prop),
  Fr h₀ env.locals s.heap m → News h₀ env.locals s.heap news → Sim G μ σ news → InnerAt G C c oC oc m₂ x v0 cap μ σ news → evE noCalls [some v0, cap] e σ = some (v, σ') → Kx G h₀ env.locals m s NoX μ σ news σ' v Q →
  wpAny G.M A (eval pe (compEnvC scope [(y, c)] C env)) Q Er s

theorem subsI {pe : PySem.Expr} {i : E} (hc : chkI x y i pe = true) (a b : Value) : subscripted pe false a b = operate [a, b] (getItem a b) := by
  have hc := chkI_sh hc
  cases pe <;> first | rfl | exact ff hc

theorem chkI_ok {scope : Scope} (H : Frm G K p loose mg mb A env vs h₀) (hsc : scope.names = [((".0" : Str), .local), (x, .local), (y, .free)]) (hk : scope.kind = .function) (hyc : env.kindOf y = some .cell)
    (ne : (x == y) = false) (nx0 : (x == (".0" : Str)) = false) (ny0 : (y == (".0" : Str)) = false) (dx : (x == ("__debug__" : Str)) = false) (dy : (y == ("__debug__" : Str)) = false) (hC : LCg.NsObj oC m₂) (e : E) :
    ∀ pe, chkI x y e pe = true → IOk G A env h₀ scope C c oC oc m₂ x y v0 cap pe e := by
  have names : (compEnvC scope [(y, c)] C env).scope.names = [((".0" : Str), .local), (x, .local), (y, .cell)] := by
    show (relabel scope env).names = _
    unfold relabel
    rw [hsc]
    have hf : (env.scope.kind == ScopeKind.function) = true := by rw [H.kind]; rfl
    have hyc' : (env.kindOf y == some NameKind.cell) = true := by rw [hyc]; rfl
    simp only [List.map_cons, List.map_nil, hf, hyc', Bool.and_true]
    rfl
  have hkind : (compEnvC scope [(y, c)] C env).scope.kind = .function := hk
  have kx : (compEnvC scope [(y, c)] C env).kindOf x = some .local := by
    show (compEnvC scope [(y, c)] C env).scope.names.lookup x = _
    rw [names]
    simp [List.lookup_cons, nx0]
  have ky : (compEnvC scope [(y, c)] C env).kindOf y = some .cell := by
    show (compEnvC scope [(y, c)] C env).scope.names.lookup y = _
    rw [names]
    have ne' : (y == x) = false := by
      rw [Bool.eq_false_iff] at ne ⊢
      intro z; exact ne (by have := eq_of_beq z; subst this; simp)
    simp [List.lookup_cons, ny0, ne']
  refine E.rec (motive_1 := fun e => ∀ pe, chkI x y e pe = true → IOk G A env h₀ scope C c oC oc m₂ x y v0 cap pe e) (motive_2 := fun _ => True)
    ?loc ?int ?bool ?none ?glob ?bin ?un ?cmp ?cmp2 ?and ?and3 ?or ?or3 ?or4 ?ife ?attr ?idx ?key ?call ?new ?len ?rng1 ?rng3 ?list ?tup ?pop ?compR ?compL ?neNil ?nil ?cons e
  case loc =>
    intro i pe h
    obtain ⟨z, q, rfl, h1⟩ := xName_t h
    have h : (i = 0 ∧ z = x) ∨ (i = 1 ∧ z = y) := (Bool.or_eq_true_iff.mp h1).imp (fun g => ⟨Nat.eq_of_beq_eq_true (and_t g).1, eq_of_beq (and_t g).2⟩) fun g => ⟨Nat.eq_of_beq_eq_true (and_t g).1, eq_of_beq (and_t g).2⟩
    intro μ σ s m news v σ' Q Er F N S I hv k
    rcases h with ⟨rfl, rfl⟩ | ⟨rfl, rfl⟩
    · simp [qa1, qa2, qa3, qa4, qa5, qa6, qa7, qa8, qa9, qa10, qa11, qa12, qa13, qa14, qa15, qa16, qa17, qa18, qa19, qa20, qa21, qa22, qa23, qa24, qa25, qa26, qa27, qa28, qa29] at hv
      obtain ⟨rfl, rfl⟩ := hv
      obtain ⟨u, hu, hr⟩ := I.hx
      exact LCgL.ld_own N I.hC hC hu (k s.heap _ μ news u F N S .refl hr) hkind kx dx
    · cases cap with
      | none => simp [qa1, qa2, qa3, qa4, qa5, qa6, qa7, qa8, qa9, qa10, qa11, qa12, qa13, qa14, qa15, qa16, qa17, qa18, qa19, qa20, qa21, qa22, qa23, qa24, qa25, qa26, qa27, qa28, qa29] at hv
      | some w =>
        simp [qa1, qa2, qa3, qa4, qa5, qa6, qa7, qa8, qa9, qa10, qa11, qa12, qa13, qa14, qa15, qa16, qa17, qa18, qa19, qa20, qa21, qa22, qa23, qa24, qa25, qa26, qa27, qa28, qa29] at hv
        obtain ⟨rfl, rfl⟩ := hv
        obtain ⟨cv, hd, hw⟩ := I.hd
        obtain ⟨u, rfl, hr⟩ := hw _ rfl
        exact lcf_cell N (by simp) I.hc hd (k s.heap _ μ news u F N S .refl hr) hkind ky dy
  case int =>
    intro i pe h
    obtain ⟨k, q, rfl⟩ := intK_t h
    intro μ σ s m news v σ' Q Er F N S I hv k
    simp [qa1, qa2, qa3, qa4, qa5, qa6, qa7, qa8, qa9, qa10, qa11, qa12, qa13, qa14, qa15, qa16, qa17, qa18, qa19, qa20, qa21, qa22, qa23, qa24, qa25, qa26, qa27, qa28, qa29] at hv
    obtain ⟨rfl, rfl⟩ := hv
    exact wpAny_Constant_int (k s.heap _ μ news _ F N S .refl ⟨_, rfl⟩)
  case bin =>
    intro op l r il ir pe h
    obtain ⟨pl, pr, q, rfl, hl, hr⟩ := binK_t h
    clear h
    intro μ σ s m news v σ' Q Er F N S I h k
    simp only [qa1, qa2, qa3, qa4, qa5, qa6, qa7, qa8, qa9, qa10, qa11, qa12, qa13, qa14, qa15, qa16, qa17, qa18, qa19, qa20, qa21, qa22, qa23, qa24, qa25, qa26, qa27, qa28, qa29, Option.bind_eq_some_iff] at h
    obtain ⟨⟨a, σ1⟩, h1, ⟨b, σ2⟩, h2, h3⟩ := h
    refine wpAny_BinOp (il _ hl μ σ s m news _ _ _ _ F N S I h1 fun h' tk μ1 news1 x F1 N1 S1 E1 x1 => ir _ hr μ1 σ1 _ m news1 _ _ _ _ F1 N1 S1 (I.ext S E1) h2 fun h'' tk' μ2 news2 y F2 N2 S2 E2 y2 => ?_)
    exact binV_s F2 N2 S2 (x1.ext E2) y2 h3 fun h3 tk3 μ3 news3 z F3 N3 S3 E3 z3 => k _ _ _ _ _ F3 N3 S3 (E1.trans (E2.trans E3)) z3
  case attr =>
    intro e f ie pe h
    obtain ⟨pb, nm, q, rfl, hf, hb, hc⟩ := attrK_t h
    clear h
    intro μ σ s m news v σ' Q Er F N S I h k
    simp only [qa1, qa2, qa3, qa4, qa5, qa6, qa7, qa8, qa9, qa10, qa11, qa12, qa13, qa14, qa15, qa16, qa17, qa18, qa19, qa20, qa21, qa22, qa23, qa24, qa25, qa26, qa27, qa28, qa29, Option.bind_eq_some_iff, Option.map_eq_some_iff] at h
    obtain ⟨⟨a, σ1⟩, h1, v', h2, h3⟩ := h
    cases h3
    have main : wpAny G.M A (eval pb (compEnvC scope [(y, c)] C env)) (fun o s₁ => wpAny G.M A (getAttr o nm true) Q Er s₁) Er s :=
      ie _ hc μ σ s m news _ _ _ _ F N S I h1 fun h' tk μ1 news1 x F1 N1 S1 E1 x1 => getA_s H.KK H.X F1 N1 S1 hf x1 h2 fun h3 tk3 μ3 news3 z F3 N3 S3 E3 z3 => k _ _ _ _ _ F3 N3 S3 (E1.trans E3) z3
    cases e with
    | loc i =>
      obtain ⟨_, _, rfl, _⟩ := xName_t hc
      exact Attribute_name main
    | attr e' f' =>
      obtain ⟨_, _, _, rfl, _⟩ := attrK_t hc
      exact Attribute_any_ main
    | _ => exact ff hb
  case idx =>
    intro e i ie ii pe h
    obtain ⟨pb, pi, q, rfl, he, hi⟩ := idxK_t h
    clear h
    intro μ σ s m news v σ' Q Er F N S I h k
    simp only [qa1, qa2, qa3, qa4, qa5, qa6, qa7, qa8, qa9, qa10, qa11, qa12, qa13, qa14, qa15, qa16, qa17, qa18, qa19, qa20, qa21, qa22, qa23, qa24, qa25, qa26, qa27, qa28, qa29, Option.bind_eq_some_iff, Option.map_eq_some_iff] at h
    obtain ⟨⟨a, σ1⟩, h1, ⟨b, σ2⟩, h2, v', h3, h4⟩ := h
    cases h4
    refine Subscript_ (ie _ he μ σ s m news _ _ _ _ F N S I h1 fun h' tk μ1 news1 x F1 N1 S1 E1 x1 => ii _ hi μ1 σ1 _ m news1 _ _ _ _ F1 N1 S1 (I.ext S E1) h2 fun h'' tk' μ2 news2 y F2 N2 S2 E2 y2 => ?_)
    exact getI_t H.KK H.X F2 N2 S2 (x1.ext E2) y2 h3 (subsI hi _ _) fun h3 tk3 μ3 news3 z F3 N3 S3 E3 z3 => k _ _ _ _ _ F3 N3 S3 (E1.trans (E2.trans E3)) z3
  all_goals first | trivial | (intros; trivial) | (intros; rename_i h; exact ff h)

/-- a test of a comprehension -/
theorem test_ok {scope : Scope} {op : CmpOp} {l r : E} {pl pr : PySem.Expr} {q : Pos} (hl : IOk G A env h₀ scope C c oC oc m₂ x y v0 cap pl l) (hr : IOk G A env h₀ scope C c oC oc m₂ x y v0 cap pr r)
    {s : Shared} {m : Str → Option Value} {v : MV} {b : Bool} {Q : Bool → Shared → Prop} {Er : Value → Shared → Prop}
    (F : Fr h₀ env.locals s.heap m) (N : News h₀ env.locals s.heap news) (S : Sim G μ σ news) (I : InnerAt G C c oC oc m₂ x v0 cap μ σ news) (h : evE noCalls [some v0, cap] (.cmp op l r) σ = some (v, σ')) (ht : tr v = some b)
    (k : ∀ h' tk μ' news', Fr h₀ env.locals h' m → News h₀ env.locals h' news' → Sim G μ' σ' news' → Ext NoX μ σ news μ' σ' news' → InnerAt G C c oC oc m₂ x v0 cap μ' σ' news' → Q b ⟨h', s.gens, s.drawn, tk, s.os⟩) :
    wpAny G.M A (PySem.isTrue (.Compare pl [op] [pr] q) (compEnvC scope [(y, c)] C env) (eval (.Compare pl [op] [pr] q) (compEnvC scope [(y, c)] C env))) Q Er s := by
  simp only [qa1, qa2, qa3, qa4, qa5, qa6, qa7, qa8, qa9, qa10, qa11, qa12, qa13, qa14, qa15, qa16, qa17, qa18, qa19, qa20, qa21, qa22, qa23, qa24, qa25, qa26, qa27, qa28, qa29, Option.bind_eq_some_iff, Option.map_eq_some_iff] at h
  obtain ⟨⟨a, σ1⟩, h1, ⟨b', σ2⟩, h2, cc, h3, h4⟩ := h
  cases h4
  cases ht
  obtain ⟨i, j, rfl, rfl, h3⟩ := cmpV_inv h3
  refine wpAny_isTrue_Compare1 (hl μ σ s m news _ _ _ _ F N S I h1 fun h' tk μ1 news1 x F1 N1 S1 E1 x1 => hr μ1 σ1 _ m news1 _ _ _ _ F1 N1 S1 (I.ext S E1) h2 fun h'' tk' μ2 news2 y F2 N2 S2 E2 y2 => ?_) (marks h3 _)
  obtain ⟨t, rfl⟩ := x1
  obtain ⟨u, rfl⟩ := y2
  exact cmpI_s h3 (wpAny_truthy_bool (k h'' tk' _ _ F2 N2 S2 (E1.trans E2) ((I.ext S E1).ext S1 E2)))

theorem closure_one {scope : Scope} (hsc : scope.names = [((".0" : Str), .local), (x, .local), (y, .free)]) (hc : env.cells.lookup y = some c) : closureFor scope env = pure [(y, c)] := by
  have e : cellOf env y = pure c := by unfold cellOf; rw [hc]
  unfold closureFor
  rw [hsc]
  simp [e]
end
end Mine

/-! ## M17 -/
namespace Mine
open PySem PySem.W PyProof.Rows PySem.Calls

section
variable {G : Gl} {K : Frag} {p : Program} {loose : List Str} {mg mb : Str → Option Value} {A : Around} {env : Env} {vs : List Str} {h₀ : Heap}
  {c : Addr} {oc : Obj} {x y : Str} {cap : Option MV} {μ : Mu} {σ : Hp} {news : Nw}

theorem mu_same {μ' : Mu} {news' : Nw} {X : Addr → Prop} (S : Sim G μ σ news) (S' : Sim G μ' σ news') (e : Ext X μ σ news μ' σ news') : μ' = μ := by
  obtain ⟨t, rfl⟩ := e.pre
  have a := S'.len
  have b := S.len
  rw [List.length_append] at a
  have : t.length = 0 := by omega
  rw [List.length_eq_zero_iff.mp this, List.append_nil]

/-- the ledger without three of its objects -/
theorem drop3 {I C D : Addr} {oI oC oD : Obj} {news' : Nw} (S : Sim G μ σ ((I, oI) :: (C, oC) :: (D, oD) :: news)) (S' : Sim G μ σ news') (E : Ext NoX μ σ ((I, oI) :: (C, oC) :: (D, oD) :: news) μ σ news')
    (S₀ : Sim G μ σ news) (off : LCg.Off3 I C D news) :
    ∃ n2 : Nw, (∀ p ∈ (I, oI) :: (C, oC) :: (D, oD) :: n2, p ∈ news') ∧ LCg.Off3 I C D n2 ∧ Sim G μ σ n2 ∧ Ext NoX μ σ news μ σ n2 := by
  have off3 := off.mem
  have hk : ∀ a, a ∈ news.map (·.1) → a ≠ I ∧ a ≠ C ∧ a ≠ D := fun a ha => by obtain ⟨q, hq, e⟩ := List.mem_map.mp ha; subst e; exact off3 q hq
  refine ⟨news'.filter fun q => decide (q.1 ≠ I ∧ q.1 ≠ C ∧ q.1 ≠ D), fun q hq => ?_, .of fun q hq => ?_, ?_, ⟨⟨[], by simp⟩, fun q hq hf hx => ?_, fun a h => .inl h, fun a ha => ?_⟩⟩
  · rcases List.mem_cons.mp hq with rfl | hq
    · exact E.keep _ (.head _) (fun hf => (hk _ (S₀.foot_key hf)).1 rfl) (fun z => z)
    rcases List.mem_cons.mp hq with rfl | hq
    · exact E.keep _ (.tail _ (.head _)) (fun hf => (hk _ (S₀.foot_key hf)).2.1 rfl) (fun z => z)
    rcases List.mem_cons.mp hq with rfl | hq
    · exact E.keep _ (.tail _ (.tail _ (.head _))) (fun hf => (hk _ (S₀.foot_key hf)).2.2 rfl) (fun z => z)
    · exact (List.mem_filter.mp hq).1
  · simpa using (List.mem_filter.mp hq).2
  · refine S'.other (List.Nodup.sublist (List.Sublist.map _ List.filter_sublist) S'.nd) fun q hq hf => List.mem_filter.mpr ⟨hq, ?_⟩
    have := hk _ (S₀.foot_key hf)
    simpa using this
  · refine List.mem_filter.mpr ⟨E.keep q (.tail _ (.tail _ (.tail _ hq))) hf hx, ?_⟩
    simpa using off3 q hq
  · obtain ⟨q, hq, e⟩ := List.mem_map.mp (E.keys a (.tail _ (.tail _ (.tail _ ha))))
    subst e
    exact List.mem_map.mpr ⟨q, List.mem_filter.mpr ⟨hq, by simpa using hk _ ha⟩, rfl⟩

theorem restT {scope : Scope} {op : CmpOp} {l r : E} {pl pr : PySem.Expr} {q q2 : Pos} {s : Shared} {m : Str → Option Value} {Fin : List Value → List (Addr × Obj) → Prop}
    (H : Frm G K p loose mg mb A env vs h₀) (hsc : scope.names = [((".0" : Str), .local), (x, .local), (y, .free)]) (hk : scope.kind = .function) (hyc : env.kindOf y = some .cell)
    (ne : (x == y) = false) (nx0 : (x == (".0" : Str)) = false) (ny0 : (y == (".0" : Str)) = false) (dx : (x == ("__debug__" : Str)) = false) (dy : (y == ("__debug__" : Str)) = false)
    (cl : chkI x y l pl = true) (cr : chkI x y r pr = true) (hd : ∃ cv, oc.data = .cell cv ∧ ∀ w, cap = some w → ∃ u, cv = some u ∧ VR G.BA μ w u) :
    ∀ (k i : Nat) (ys : List Value) (mys : List MV) (news : Nw) (res : List MV), Sim G μ σ news → (c, oc) ∈ news → VRs G.BA μ mys ys →
    filtN (fun v => (evE noCalls [some v, cap] (.cmp op l r) σ).bind fun q => if q.2 = σ then tr q.1 else none) (rangeUp (i : Int) k) = some res →
    (∀ ys' news', Sim G μ σ news' → Ext NoX μ σ news μ σ news' → VRs G.BA μ (mys ++ res) ys' → Fin ys' news') →
    LCt.CompRestT G.prog G.w A h₀ env.locals m env (.Compare pl [op] [pr] q) (.Name x q2) x scope [(y, c)] s (fun _ => True) (fun i v => ∃ t, v = .int ((0 : Int) + (i : Int)) t) Fin k i ys news
  | 0, i, ys, mys, news, res, S, hc, hv, hf, fin => by
    simp [rangeUp, filtN] at hf
    subst hf
    exact LCt.CompRestT.zero (fin ys news S .refl (by rw [List.append_nil]; exact hv))
  | k + 1, i, ys, mys, news, res, S, hc, hv, hf, fin => by
    refine LCt.CompRestT.succ ?_
    rintro v I oI C oC D m₂ h tk E' ⟨t, rfl⟩ hC hx F N off ⟨n1, n2, n3⟩
    simp only [rangeUp, filtN, Option.bind_eq_some_iff, Option.map_eq_some_iff] at hf
    obtain ⟨b, ⟨⟨w, σw⟩, hw, hb⟩, res', hr, rfl⟩ := hf
    split at hb
    case isFalse => cases hb
    rename_i e
    dsimp only at e
    have e := e.symm
    subst e
    have off3 := off.mem
    have nD : D ∉ news.map (·.1) := fun hm => by obtain ⟨q, hq, e⟩ := List.mem_map.mp hm; exact (off3 q hq).2.2 e
    have nC : C ∉ news.map (·.1) := fun hm => by obtain ⟨q, hq, e⟩ := List.mem_map.mp hm; exact (off3 q hq).2.1 e
    have nI : I ∉ news.map (·.1) := fun hm => by obtain ⟨q, hq, e⟩ := List.mem_map.mp hm; exact (off3 q hq).1 e
    have S3 : Sim G μ σ ((I, oI) :: (C, oC) :: (D, LCg.lst ys) :: news) := by
      refine ((S.cons (o := LCg.lst ys) nD).cons (I := C) (o := oC) ?_).cons (I := I) (o := oI) ?_
      · rw [List.map_cons, List.mem_cons]; exact fun e => e.elim n3 nC
      · rw [List.map_cons, List.map_cons, List.mem_cons, List.mem_cons]; exact fun e => e.elim n1 fun e => e.elim n2 nI
    have Iat : InnerAt G C c oC oc m₂ x (.int (i : Int)) cap μ σ ((I, oI) :: (C, oC) :: (D, LCg.lst ys) :: news) :=
      ⟨.tail _ (.head _), ⟨_, hx, t, by rw [Int.zero_add]⟩, .tail _ (.tail _ (.tail _ hc)), hd, fun hf => nC (S.foot_key hf)⟩
    have ci := fun e pe h => chkI_ok (v0 := .int (i : Int)) (cap := cap) (C := C) (c := c) (oC := oC) (oc := oc) (m₂ := m₂) H hsc hk hyc ne nx0 ny0 dx dy hC e pe h
    refine test_ok (s := { s with heap := h, toks := tk }) (ci l pl cl) (ci r pr cr) F N S3 Iat hw hb fun h' tk' μ' news' F' N' S' E I' => ?_
    have hμ := (mu_same S3 S' E).symm
    subst hμ
    obtain ⟨nn, sub, off2, Sn, En⟩ := drop3 S3 S' E S off
    have hcn : (c, oc) ∈ nn := by
      obtain ⟨cv, hdd, _⟩ := hd
      exact En.keep _ hc (cell_not_foot S hc hdd) (fun z => z)
    cases b with
    | true =>
      rw [if_pos rfl]
      have names : (compEnvC scope [(y, c)] C env).kindOf x = some .local := lookup_relabel_local (by rw [hsc]; simp [List.lookup_cons, nx0])
      refine LCgL.ld_own (s := ⟨h', s.gens, s.drawn, tk', s.os⟩) N' I'.hC hC hx ?_ hk names dx
      refine LCg.CompEnd.intro F' N' nn sub off2 trivial ?_
      refine restT H hsc hk hyc ne nx0 ny0 dx dy cl cr hd k (i + 1) _ (mys ++ [.int (i : Int)]) nn res' Sn hcn (hv.snoc (v := .int (i : Int)) ⟨t, by rw [Int.zero_add]⟩) (by simpa using hr) fun ys' news2 S2 E2 hv2 => fin ys' news2 S2 (En.trans E2) (by simpa using hv2)
    | false =>
      rw [if_neg (by simp)]
      refine LCg.CompEnd.intro F' N' nn sub off2 trivial ?_
      refine restT H hsc hk hyc ne nx0 ny0 dx dy cl cr hd k (i + 1) _ mys nn res' Sn hcn hv (by simpa using hr) fun ys' news2 S2 E2 hv2 => fin ys' news2 S2 (En.trans E2) (by simpa using hv2)
end
end Mine

/-! ## M18 -/
namespace Mine
open PySem PySem.W PyProof.Rows PySem.Calls

/-- the scope of a comprehension's block: its own name and one captured -/
noncomputable def scComp (sn : Sn) (scope : Scope) (x y : Str) : Bool :=
  decide (scope.names = [((".0" : Str), .local), (x, .local), (y, .free)]) && decide (scope.kind = .function) && sn.lookup y == some .cell && !(x == y) && !(x == (".0" : Str)) && !(y == (".0" : Str)) && !(x == ("__debug__" : Str)) && !(y == ("__debug__" : Str))

noncomputable def noCp2 : List Str → E → PySem.Expr → Bool := fun _ _ _ => false

noncomputable def optK {α : Type} (o : Option α) (k : α → Bool) : Bool := @Option.casesOn α (fun _ => Bool) o false k
theorem optK_t {α : Type} {o : Option α} {k : α → Bool} (h : optK o k = true) : ∃ a, o = some a ∧ k a = true := by
  cases o with
  | none => exact ff h
  | some a => exact ⟨a, rfl, h⟩
/-- range comprehensions -/
noncomputable def rngK (sn : Sn) (vs : List Str) (cap : Nat) (ch : Tst) (op : CmpOp) (cl cr : Str → Str → Tst) (pe : PySem.Expr) : Bool :=
  cp1K pe fun elt tg it ifs sc => xName elt fun x' _ => xName tg fun x _ => optK vs[cap]? fun y => decide (x' = x) && (fn1K ("range" : Str) (isGlob sn) ch it && (l1 ifs (cmpK op (cl x y) (cr x y)) && scComp sn sc x y))
def rngM (sn : Sn) (vs : List Str) (cap : Nat) (ch : Tst) (op : CmpOp) (cl cr : Str → Str → Tst) (pe : PySem.Expr) : Prop :=
  ∃ x y q1 q2 np phi q3 pl pr q4 scope q5, pe = .ListComp (.Name x q1) [⟨.Name x q2, .Call (.Name ("range" : Str) np) [phi] [] q3, [.Compare pl [op] [pr] q4], 0⟩] scope q5 ∧ vs[cap]? = some y ∧ isGlob sn ("range" : Str) = true ∧ ch phi = true ∧ cl x y pl = true ∧ cr x y pr = true ∧ scComp sn scope x y = true
theorem rngK_t {sn : Sn} {vs : List Str} {cap : Nat} {ch : Tst} {op : CmpOp} {cl cr : Str → Str → Tst} {pe : PySem.Expr} (h : rngK sn vs cap ch op cl cr pe = true) : rngM sn vs cap ch op cl cr pe := by
  obtain ⟨elt, tg, it, ifs, sc, q5, rfl, h1⟩ := cp1K_t h
  obtain ⟨x', q1, rfl, h2⟩ := xName_t h1
  obtain ⟨x, q2, rfl, h3⟩ := xName_t h2
  obtain ⟨y, e2, h4⟩ := optK_t h3
  cases de (and_t h4).1
  have g1 := and_t (and_t h4).2
  have g2 := and_t g1.2
  obtain ⟨np, phi, q3, rfl, g5, g6⟩ := fn1K_t g1.1
  obtain ⟨tst, rfl, g3⟩ := l1_t g2.1
  obtain ⟨pl, pr, q4, rfl, g7, g8⟩ := cmpK_t g3
  exact ⟨_, y, q1, q2, np, phi, q3, pl, pr, q4, sc, q5, rfl, e2, g5, g6, g7, g8, g2.2⟩
noncomputable def chkR (sn : Sn) (vs : List Str) (e : E) (pe : PySem.Expr) : Bool :=
  eCR e fun hi cap c => eCmp c fun op l r => rngK sn vs cap (chkE sn vs noCp2 hi) op (fun x y => chkI x y l) (fun x y => chkI x y r) pe
theorem chkR_t {sn : Sn} {vs : List Str} {e : E} {pe : PySem.Expr} (h : chkR sn vs e pe = true) : ∃ hi cap op l r, e = .compR hi cap (.cmp op l r) ∧ rngM sn vs cap (chkE sn vs noCp2 hi) op (fun x y => chkI x y l) (fun x y => chkI x y r) pe := by
  obtain ⟨hi, cap, c, rfl, h1⟩ := eCR_t h
  obtain ⟨op, l, r, rfl, h2⟩ := eCmp_t h1
  exact ⟨hi, cap, op, l, r, rfl, rngK_t h2⟩
/-- list comprehensions -/
noncomputable def lstK (sn : Sn) (vs : List Str) (i cap : Nat) (pe : PySem.Expr) : Bool :=
  cp1K pe fun elt tg it ifs sc => xBin elt fun l o r _ => xName l fun y' _ => xName r fun x' _ => xName tg fun x _ => xName it fun src _ => optK vs[cap]? fun y =>
    l0 ifs && (decide (o = .Mult ∧ x' = x ∧ y' = y ∧ vs[i]? = some src) && scComp sn sc x y)
def lstM (sn : Sn) (vs : List Str) (i cap : Nat) (pe : PySem.Expr) : Prop :=
  ∃ x y src q1 q2 q3 q4 q5 scope q6, pe = .ListComp (.BinOp (.Name y q1) .Mult (.Name x q2) q3) [⟨.Name x q4, .Name src q5, [], 0⟩] scope q6 ∧ vs[cap]? = some y ∧ vs[i]? = some src ∧ scComp sn scope x y = true
theorem lstK_t {sn : Sn} {vs : List Str} {i cap : Nat} {pe : PySem.Expr} (h : lstK sn vs i cap pe = true) : lstM sn vs i cap pe := by
  obtain ⟨elt, tg, it, ifs, sc, q6, rfl, h1⟩ := cp1K_t h
  obtain ⟨l, o, r, q3, rfl, h2⟩ := xBin_t h1
  obtain ⟨y', q1, rfl, h3⟩ := xName_t h2
  obtain ⟨x', q2, rfl, h4⟩ := xName_t h3
  obtain ⟨x, q4, rfl, h5⟩ := xName_t h4
  obtain ⟨src, q5, rfl, h6⟩ := xName_t h5
  obtain ⟨y, e3, h7⟩ := optK_t h6
  have g := and_t (and_t h7).2
  obtain ⟨e6, e7, e8, e9⟩ := of_decide_eq_true g.1
  have e4 := l0_t (and_t h7).1
  have e5 := g.2
  clear h h1 h2 h3 h4 h5 h6 h7 g
  subst e4 e6 e7 e8
  exact ⟨_, _, src, q1, q2, q3, q4, q5, sc, q6, rfl, e3, e9, e5⟩
noncomputable def chkL (sn : Sn) (vs : List Str) (e : E) (pe : PySem.Expr) : Bool :=
  eCL e fun s cap c => eLoc s fun i => eBin c fun op l r => eLoc l fun j => eLoc r fun k => decide (op = .Mult ∧ j = 1 ∧ k = 0) && lstK sn vs i cap pe
theorem chkL_t {sn : Sn} {vs : List Str} {e : E} {pe : PySem.Expr} (h : chkL sn vs e pe = true) : ∃ i cap, e = .compL (.loc i) cap (.bin .Mult (.loc 1) (.loc 0)) ∧ lstM sn vs i cap pe := by
  obtain ⟨s, cap, c, rfl, h1⟩ := eCL_t h
  obtain ⟨i, rfl, h2⟩ := eLoc_t h1
  obtain ⟨op, l, r, rfl, h3⟩ := eBin_t h2
  obtain ⟨j, rfl, h4⟩ := eLoc_t h3
  obtain ⟨k, rfl, h5⟩ := eLoc_t h4
  obtain ⟨rfl, rfl, rfl⟩ := of_decide_eq_true (and_t h5).1
  exact ⟨i, cap, rfl, lstK_t (and_t h5).2⟩
noncomputable def cpAll (sn : Sn) (vs : List Str) (e : E) (pe : PySem.Expr) : Bool := chkR sn vs e pe || chkL sn vs e pe
noncomputable def swOk (sn : Sn) (y : Str) (q : Pos) (pe : PySem.Expr) : Bool := xComp pe fun _ _ scope pos =>
  sn.lookup y == some .local && (q.line == pos.line && !(scope.names.any fun (n, k) => n == y && (k == .local || k == .cell)))
noncomputable def csAll (sn : Sn) : CpS := fun vs _ e ps => sAssign ps fun ts pe _ => l1 ts fun t => xName t fun x q => chkR sn vs e pe && swOk sn x q pe

section
variable {G : Gl} {K : Frag} {p : Program} {loose : List Str} {mg mb : Str → Option Value} {A : Around} {env : Env} {vs : List Str} {h₀ : Heap} {Γ : Gam}
  {x y : Str} {μ : Mu} {σ : Hp} {news : Nw} {loc : Loc}

structure ScOk (env : Env) (scope : Scope) (x y : Str) : Prop where
  sc : scope.names = [((".0" : Str), .local), (x, .local), (y, .free)]
  k : scope.kind = .function
  yc : env.kindOf y = some .cell
  ne : (x == y) = false
  nx0 : (x == (".0" : Str)) = false
  ny0 : (y == (".0" : Str)) = false
  dx : (x == ("__debug__" : Str)) = false
  dy : (y == ("__debug__" : Str)) = false
theorem scComp_ok {scope : Scope} (h : scComp env.scope.names scope x y = true) : ScOk env scope x y := by
  unfold scComp at h
  simp only [Bool.and_eq_true, decide_eq_true_eq, Bool.not_eq_true', beq_iff_eq] at h
  obtain ⟨⟨⟨⟨⟨⟨⟨a, b⟩, c⟩, d⟩, e⟩, f⟩, g⟩, i⟩ := h
  exact ⟨a, b, c, d, e, f, g, i⟩
theorem ScOk.nocell {scope : Scope} (S : ScOk env scope x y) : ∀ z ∈ scope.names, z.2 ≠ .cell := by
  rw [S.sc]
  intro z hz
  simp at hz
  rcases hz with rfl | rfl | rfl <;> simp
theorem ScOk.own {scope : Scope} (S : ScOk env scope x y) : scope.names.lookup x = some .local := by rw [S.sc]; simp [List.lookup_cons, S.nx0]
theorem ScOk.names {scope : Scope} (S : ScOk env scope x y) : ∀ z ∈ scope.names, z.2 = .local → scope.names.lookup z.1 = some .local := by
  rw [S.sc]
  intro z hz hl
  simp at hz
  rcases hz with rfl | rfl | rfl
  · simp
  · simp [List.lookup_cons, S.nx0]
  · cases hl

theorem cell_of {cap : Nat} (V : Vars G.BA env vs μ loc m news) (hy : vs[cap]? = some y) (hk : env.kindOf y = some .cell) :
    ∃ c oc, env.cells.lookup y = some c ∧ (c, oc) ∈ news ∧ ∃ cv, oc.data = .cell cv ∧ ∀ w, loc[cap]?.join = some w → ∃ u, cv = some u ∧ VR G.BA μ w u := by
  have hlt : cap < loc.length := by rw [V.len]; exact (List.getElem?_eq_some_iff.mp hy).1
  obtain ⟨ov, ho⟩ : ∃ ov, loc[cap]? = some ov := ⟨_, List.getElem?_eq_getElem hlt⟩
  rcases V.at_ cap y ov hy ho with ⟨a, _⟩ | ⟨_, c, o, cv, h1, h2, h3, h4⟩
  · rw [hk] at a; cases a
  · exact ⟨c, o, h1, h2, cv, h3, fun w hw => h4 w (by rw [ho] at hw; simpa using hw)⟩

theorem made {res : List MV} {ys : List Value} {D : Addr} (S : Sim G μ σ news) (off : LCg.Off1 D news) (hv : VRs G.BA μ res ys) :
    Sim G (μ ++ [(D, D)]) (σ ++ [.list res]) ((D, LCg.lst ys) :: news) ∧ Ext NoX μ σ news (μ ++ [(D, D)]) (σ ++ [.list res]) ((D, LCg.lst ys) :: news) ∧ VR G.BA (μ ++ [(D, D)]) (.ref σ.length) (.ref D) := by
  have nk : D ∉ news.map (·.1) := by
    intro hm
    obtain ⟨q, hq, e⟩ := List.mem_map.mp hm
    have : ∀ {l : List (Addr × Obj)}, LCg.Off1 D l → ∀ q ∈ l, q.1 ≠ D := by
      intro l
      induction l with
      | nil => intro _ q hq; cases hq
      | cons a r ih =>
        intro o q hq
        rcases List.mem_cons.mp hq with rfl | hq
        · exact o.1
        · exact ih o.2 q hq
    exact this off q hq e
  have hk : ∀ q ∈ news, q ∈ (D, LCg.lst ys) :: news := fun q hq => .tail _ hq
  exact ⟨S.grow (by rw [List.map_cons, List.nodup_cons]; exact ⟨nk, S.nd⟩) hk nk nk ⟨ys, ys.length, .head _, hv.mono _, rfl⟩, .grow S hk nk nk, ⟨(D, D), by rw [← S.len]; simp, rfl⟩⟩

theorem src_R {scope : Scope} {op : CmpOp} {l r hi : E} {pl pr phi : PySem.Expr} {q q2 q3 np : Pos} {cap : Nat} {s : Shared} {m : Str → Option Value} {Fin : Shared → List Value → List (Addr × Obj) → Prop} {Er : Value → Shared → Prop} {σ1 : Hp} {n : Int} {res : List MV} {c : Addr}
    (H : Frm G K p loose mg mb A env vs h₀) (W : ScOk env scope x y) (hg : isGlob env.scope.names ("range" : Str) = true) (hy : vs[cap]? = some y) (hyc : env.cells.lookup y = some c) {sn : Sn} {cp} (hc : chkE sn vs cp hi phi = true) (he : EOk G A env vs h₀ Γ phi hi)
    (cl : chkI x y l pl = true) (cr : chkI x y r pr = true)
    (F : Fr h₀ env.locals s.heap m) (N : News h₀ env.locals s.heap news) (S : Sim G μ σ news) (V : Vars G.BA env vs μ loc m news) (h1 : evE Γ loc hi σ = some (.int n, σ1)) (hn : 0 ≤ n ∧ n ≤ 1000)
    (hf : filtN (fun v => (evE noCalls [some v, loc[cap]?.join] (.cmp op l r) σ1).bind fun q => if q.2 = σ1 then tr q.1 else none) (rangeUp 0 n.toNat) = some res)
    (fin : ∀ (s₂ : Shared) μ1 ys news', (s₂.gens = s.gens ∧ s₂.drawn = s.drawn ∧ s₂.os = s.os) → Sim G μ1 σ1 news' → Ext NoX μ σ news μ1 σ1 news' → VRs G.BA μ1 res ys → Fin s₂ ys news') :
    wpAny G.M A (eval (.Call (.Name ("range" : Str) np) [phi] [] q3) env) (LCt.CompSrcT G.prog G.w A h₀ env.locals m env (.Compare pl [op] [pr] q) (.Name x q2) x scope [(y, c)] Fin) Er s := by
  refine Call_ (name_b H F hg H.KK.rng (u := .type "range") (by boot_by_name) (by decide) ?_)
  refine PyProof.Rows.callWith_type1 (spliced_more (he μ σ loc s m news _ _ _ _ F N S V h1 fun h' tk μ1 news1 x1 F1 N1 S1 E1 hx1 => spliced_none ?_) (starE _ _ sn vs cp hi hc)) (starE _ _ sn vs cp hi hc) rfl
  obtain ⟨t, rfl⟩ := hx1
  refine range1_rows F1 N1 fun h2 tk2 t1 u1 v1 hr F2 N2 hk => ?_
  refine LCt.CompSrcT.range H.hh F2 N2 hr (small_one (by omega) (by omega) (by omega) (by omega)) (rangeSize_nat 0 n) (by rw [sizeLine_eq]; omega) fun g => ?_
  obtain ⟨c', oc, k1, k2, k3⟩ := cell_of (V.ext S E1) hy W.yc
  have e : c = c' := Option.some.inj (hyc.symm.trans k1)
  subst e
  rw [Int.sub_zero]
  exact restT H W.sc W.k W.yc W.ne W.nx0 W.ny0 W.dx W.dy cl cr k3 n.toNat 0 [] [] news1 res S1 k2 trivial (by simpa using hf) fun ys' news2 S2 E2 hv2 => fin _ μ1 ys' news2 ⟨rfl, rfl, rfl⟩ S2 (E1.trans E2) (by simpa using hv2)

theorem compR_inv {hi cond : E} {cap : Nat} {v : MV} {σ' : Hp} (h : evE Γ loc (.compR hi cap cond) σ = some (v, σ')) :
    ∃ n σ1 res, evE Γ loc hi σ = some (.int n, σ1) ∧ (0 ≤ n ∧ n ≤ 1000) ∧ filtN (fun v => (evE noCalls [some v, loc[cap]?.join] cond σ1).bind fun q => if q.2 = σ1 then tr q.1 else none) (rangeUp 0 n.toNat) = some res ∧ v = .ref σ1.length ∧ σ' = σ1 ++ [.list res] := by
  simp only [qa1, qa2, qa3, qa4, qa5, qa6, qa7, qa8, qa9, qa10, qa11, qa12, qa13, qa14, qa15, qa16, qa17, qa18, qa19, qa20, qa21, qa22, qa23, qa24, qa25, qa26, qa27, qa28, qa29, Option.bind_eq_some_iff] at h
  obtain ⟨⟨w, σ1⟩, h1, h2⟩ := h
  dsimp only at h2
  split at h2
  · rename_i n
    split at h2
    · rename_i hn
      obtain ⟨res, h3, h4⟩ := Option.map_eq_some_iff.mp h2
      cases h4
      exact ⟨n, σ1, res, h1, hn, h3, rfl, rfl⟩
    · cases h2
  · cases h2

theorem ok_compR (H : Frm G K p loose mg mb A env vs h₀) (CO : CallsOk G A env h₀ Γ) {e : E} {pe : PySem.Expr} (hc : chkR env.scope.names vs e pe = true) : EOk G A env vs h₀ Γ pe e := by
  obtain ⟨hi, cap, op, l, r, rfl, hd⟩ := chkR_t hc
  obtain ⟨x, y, q1, q2, np, phi, q3, pl, pr, q4', scope, q5, rfl, hy, hg, hch, cl, cr, W⟩ := hd
  have W := scComp_ok W
  have he := (chk_ok H CO (cp := noCp2) (fun _ _ _ _ _ z => ff z) _ _).1 hch
  intro μ σ loc s m news v σ' Q Er F N S V h k
  obtain ⟨n, σ1, res, h1, hn, hf, rfl, rfl⟩ := compR_inv h
  obtain ⟨c, oc, k1, k2, k3⟩ := cell_of V hy W.yc
  refine LCt.ListComp_T F (closure_one W.sc k1) W.nocell W.k W.names W.own ?_
  refine src_R H W hg hy k1 hch he cl cr F N S V h1 hn hf fun s₂ μ1 ys news' hs S1 E1 hv => ?_
  intro D h' tk F' N' off
  obtain ⟨a, b, d⟩ := made S1 off hv
  obtain ⟨e1, e2, e3⟩ := hs
  have := k h' tk _ _ _ F' N' a (E1.trans b) d
  rw [← e1, ← e2, ← e3] at this
  exact this

theorem sw_true {pe : PySem.Expr} {z : Str} {q : Pos} {l : Nat} (H : Frm G K p loose mg mb A env vs h₀) (h : swOk env.scope.names z q pe = true) : swapsWith pe (some (.Name z q)) l env = pure true := by
  obtain ⟨_, _, scope, pos, rfl, g⟩ := xComp_t h
  have h1 := eq_of_beq (and_t g).1
  have h2 := eq_of_beq (and_t (and_t g).2).1
  have h3 := (and_t (and_t g).2).2
  have hb : env.blockKind = .function := by unfold Env.blockKind; rw [H.kind]; rfl
  unfold swapsWith
  have hk : env.kindOf z = some .local := h1
  simp only [hb, hk]
  show pure _ = pure true
  congr 1
  rw [Bool.and_eq_true, Bool.and_eq_true, Bool.and_eq_true]
  exact ⟨⟨⟨rfl, rfl⟩, beq_iff_eq.mpr h2⟩, h3⟩

theorem s_compR (H : Frm G K p loose mg mb A env vs h₀) (CO : CallsOk G A env h₀ Γ) {i : Nat} {e : E} {z : Str} {qz q4 : Pos} {pe : PySem.Expr} (hc : chkR env.scope.names vs e pe = true) (hsw : swOk env.scope.names z qz pe = true) (hz : vs[i]? = some z) :
    SOk G A env vs h₀ (.Assign [.Name z qz] pe q4) (evS Γ (.set i e)) := by
  have hsw' := fun l => sw_true (l := l) H hsw
  have hzl : env.kindOf z = some .local := by
    obtain ⟨_, _, scope, pos, rfl, g⟩ := xComp_t hsw
    exact eq_of_beq (and_t g).1
  obtain ⟨hi, cap, op, l, r, rfl, hd⟩ := chkR_t hc
  obtain ⟨x, y, q1, q2, np, phi, q3, pl, pr, q4', scope, q5, rfl, hy, hg, hch, cl, cr, W⟩ := hd
  have W := scComp_ok W
  have he := (chk_ok H CO (cp := noCp2) (fun _ _ _ _ _ z => ff z) _ _).1 hch
  intro μ σ loc s m news fl loc' σ' Q Er F N S V h k
  simp only [qc1, qc2, qc3, qc4, qc5, qc6, qc7, qc8, qc9, qc10, qc11, qc12, qc13, qc14, qc15, qc16, qc17, qc18, Option.bind_eq_some_iff] at h
  obtain ⟨⟨v, σ2⟩, h1, h2⟩ := h
  cases h2
  obtain ⟨n, σ1, res, g1, hn, hf, rfl, rfl⟩ := compR_inv h1
  obtain ⟨c, oc, k1, k2, k3⟩ := cell_of V hy W.yc
  refine LCt.Assign_ListComp_T F rfl (hsw' _) (closure_one W.sc k1) W.nocell W.k W.names W.own hzl (by rw [H.kind]; rfl) ?_
  refine src_R H W hg hy k1 hch he cl cr F N S V g1 hn hf fun s₂ μ1 ys news' hs S1 E1 hv => ?_
  intro D h' tk F' N' off
  obtain ⟨a, b, d⟩ := made S1 off hv
  obtain ⟨e1, e2, e3⟩ := hs
  have := k h' tk _ _ _ .next F' N' a (E1.trans b).wk (((V.ext S E1).ext S1 b).setL H.nd hz hzl d) rfl
  rw [← e1, ← e2, ← e3] at this
  exact this
end
end Mine

/-! ## M19 -/
namespace Mine
open PySem PySem.W PyProof.Rows PySem.Calls

section
variable {G : Gl} {K : Frag} {p : Program} {loose : List Str} {mg mb : Str → Option Value} {A : Around} {env : Env} {vs : List Str} {h₀ : Heap} {Γ : Gam}
  {x y : Str} {μ : Mu} {σ : Hp} {news : Nw} {loc : Loc}

theorem compL_inv {src elt : E} {cap : Nat} {v : MV} {σ' : Hp} (h : evE Γ loc (.compL src cap elt) σ = some (v, σ')) :
    ∃ id σ1 xs res, evE Γ loc src σ = some (.ref id, σ1) ∧ σ1[id]? = some (.list xs) ∧ xs.length ≤ 1000 ∧ mapN (fun v => (evE noCalls [some v, loc[cap]?.join] elt σ1).bind fun q => if q.2 = σ1 then some q.1 else none) xs = some res ∧ v = .ref σ1.length ∧ σ' = σ1 ++ [.list res] := by
  simp only [qa1, qa2, qa3, qa4, qa5, qa6, qa7, qa8, qa9, qa10, qa11, qa12, qa13, qa14, qa15, qa16, qa17, qa18, qa19, qa20, qa21, qa22, qa23, qa24, qa25, qa26, qa27, qa28, qa29, Option.bind_eq_some_iff] at h
  obtain ⟨⟨w, σ1⟩, h1, h2⟩ := h
  dsimp only at h2
  split at h2
  · rename_i id
    split at h2
    · rename_i xs hx
      split at h2
      · rename_i hn
        obtain ⟨res, h3, h4⟩ := Option.map_eq_some_iff.mp h2
        cases h4
        exact ⟨id, σ1, xs, res, h1, hx, hn, h3, rfl, rfl⟩
      · cases h2
    · cases h2
  · cases h2

theorem mult_inv {v r : MV} {cap : Option MV} {σ1 : Hp} (h : ((evE noCalls [some v, cap] (.bin .Mult (.loc 1) (.loc 0)) σ1).bind fun q => if q.2 = σ1 then some q.1 else none) = some r) :
    ∃ a b c, cap = some (.int a) ∧ v = .int b ∧ binI .Mult a b = some c ∧ r = .int c := by
  simp only [qa1, qa2, qa3, qa4, qa5, qa6, qa7, qa8, qa9, qa10, qa11, qa12, qa13, qa14, qa15, qa16, qa17, qa18, qa19, qa20, qa21, qa22, qa23, qa24, qa25, qa26, qa27, qa28, qa29, Option.bind_eq_some_iff] at h
  obtain ⟨⟨w, σ2⟩, ⟨⟨a, σa⟩, h1, ⟨b, σb⟩, h2, h3⟩, h4⟩ := h
  split at h4
  case isFalse => cases h4
  rename_i e
  cases h4
  simp at h1 h2
  obtain ⟨_, h1, rfl, rfl⟩ := h1
  obtain ⟨rfl, rfl⟩ := h2
  rcases binV_inv h3 with ⟨a', b', c', rfl, rfl, hc, rfl, _⟩ | ⟨_, _, _, _, _, _, _, _, _, _, _, e2⟩
  · exact ⟨a', b', c', h1, rfl, hc, rfl⟩
  · rw [e2] at e
    have := congrArg List.length e
    rw [List.length_append] at this
    simp at this

theorem restU {scope : Scope} {q q1 q2 : Pos} {s : Shared} {m : Str → Option Value} {Fin : List Value → List (Addr × Obj) → Prop} {c : Addr} {oc : Obj} {cap : Option MV} {its : Array Value} {ax : Addr} {xs : List MV}
    (W : ScOk env scope x y) (hk : env.scope.kind = .function) (S : Sim G μ σ news) (hc : (c, oc) ∈ news) (hd : ∃ cv, oc.data = .cell cv ∧ ∀ w, cap = some w → ∃ u, cv = some u ∧ VR G.BA μ w u)
    (hx : VRs G.BA μ xs its.toList) (hsrc : LCg.SrcAt h₀ ax its news) :
    ∀ (k i : Nat) (ys : List Value) (mys res : List MV), k = xs.length - i → VRs G.BA μ mys ys →
    mapN (fun v => (evE noCalls [some v, cap] (.bin .Mult (.loc 1) (.loc 0)) σ).bind fun q => if q.2 = σ then some q.1 else none) (xs.drop i) = some res →
    (∀ ys', VRs G.BA μ (mys ++ res) ys' → Fin ys' news) →
    LCg.CompRest G.prog G.w A h₀ env.locals m env (.BinOp (.Name y q1) .Mult (.Name x q2) q) x scope [(y, c)] s (LCg.SrcAt h₀ ax its) (fun i v => its[i]? = some v) Fin k i ys news
  | 0, i, ys, mys, res, hki, hv, hf, fin => by
    rw [List.drop_of_length_le (by omega)] at hf
    simp [mapN] at hf
    subst hf
    exact LCg.CompRest.zero (fin ys (by rw [List.append_nil]; exact hv))
  | k + 1, i, ys, mys, res, hki, hv, hf, fin => by
    refine LCg.CompRest.succ ?_
    rintro v I oI C oC D m₂ h tk E' hiv hC hx' F N off ⟨n1, n2, n3⟩
    have hlt : i < xs.length := by omega
    rw [List.drop_eq_getElem_cons hlt] at hf
    simp only [mapN, Option.bind_eq_some_iff, Option.map_eq_some_iff] at hf
    obtain ⟨r, hr, res', hres, rfl⟩ := hf
    obtain ⟨a, b, cc, rfl, hb, hm, rfl⟩ := mult_inv (by simpa only [Option.bind_eq_some_iff] using hr)
    obtain ⟨u, hu, hur⟩ := hx.get (List.getElem?_eq_getElem hlt)
    rw [hb] at hur
    obtain ⟨tb, rfl⟩ := hur
    have hv' : v = .int b tb := by
      have : its[i]? = some (Value.int b tb) := by rw [← hu]; simp
      exact Option.some.inj (hiv.symm.trans this)
    subst hv'
    have names : (compEnvC scope [(y, c)] C env).kindOf x = some .local := lookup_relabel_local W.own
    have ky : (compEnvC scope [(y, c)] C env).kindOf y = some .cell := by
      show (relabel scope env).names.lookup y = _
      unfold relabel
      rw [W.sc]
      have hf : (env.scope.kind == ScopeKind.function) = true := by rw [hk]; rfl
      have hyc' : (env.kindOf y == some NameKind.cell) = true := by rw [W.yc]; rfl
      have ne' : (y == x) = false := by
        have ne := W.ne
        rw [Bool.eq_false_iff] at ne ⊢
        intro z; exact ne (by have := eq_of_beq z; subst this; simp)
      simp only [List.map_cons, List.map_nil, hf, hyc', Bool.and_true]
      show List.lookup y [((".0" : Str), NameKind.local), (x, .local), (y, .cell)] = _
      simp [List.lookup_cons, W.ny0, ne']
    obtain ⟨cv, hcd, hcw⟩ := hd
    obtain ⟨ua, rfl, ta, rfl⟩ := hcw _ rfl
    refine wpAny_BinOp (lcf_cell (s := { s with heap := h, toks := tk }) N (by simp) (.tail _ (.tail _ (.tail _ hc))) hcd ?_ W.k ky W.dy)
    refine LCgL.ld_own (s := { s with heap := h, toks := tk }) N (.tail _ (.head _)) hC hx' ?_ W.k names W.dx
    refine binI_s hm fun tk1 tk2 => ?_
    refine LCg.CompEnd.intro (s₁ := { s with heap := h, toks := tk }) F N news (fun _ hp => hp) off hsrc ?_
    exact restU W hk S hc ⟨_, hcd, hcw⟩ hx hsrc k (i + 1) _ (mys ++ [.int cc]) res' (by omega) (hv.snoc (v := .int cc) ⟨_, rfl⟩) hres fun ys' hv2 => fin ys' (by simpa using hv2)

theorem ok_compL (H : Frm G K p loose mg mb A env vs h₀) {e : E} {pe : PySem.Expr} (hc : chkL env.scope.names vs e pe = true) : EOk G A env vs h₀ Γ pe e := by
  obtain ⟨i, cap, rfl, hd⟩ := chkL_t hc
  obtain ⟨x, y, src, q1, q2, q3, q4, q5, scope, q6, rfl, hy, hsrc, W⟩ := hd
  have W := scComp_ok W
  intro μ σ loc s m news v σ' Q Er F N S V h k
  obtain ⟨id, σ1, xs, res, h1, ho, hn, hf, rfl, rfl⟩ := compL_inv h
  obtain ⟨c, oc, k1, k2, k3⟩ := cell_of V hy W.yc
  refine LCg.ListComp_U F (closure_one W.sc k1) W.nocell W.k W.names W.own ?_
  refine ok_loc (Γ := Γ) H hsrc μ σ loc s m news _ _ _ _ F N S V h1 fun h' tk μ1 news1 u F1 N1 S1 E1 hu => ?_
  obtain ⟨pp, hp, rfl⟩ := hu
  obtain ⟨vals, n, hm, hvals, _⟩ := S1.obj _ _ _ ho hp
  refine LCg.CompSrc.ledger (its := vals.toArray) (k := n) H.hh F1 N1 hm (by rw [List.size_toArray, hvals.len, sizeLine_eq]; omega) fun g => ?_
  obtain ⟨c', oc', g1, g2, g3⟩ := cell_of (V.ext S E1) hy W.yc
  have e : c = c' := Option.some.inj (k1.symm.trans g1)
  subst e
  have hsz : vals.toArray.size = xs.length := by rw [List.size_toArray, hvals.len]
  rw [hsz]
  refine restU W H.kind S1 g2 g3 hvals (.inr ⟨_, hm, rfl, _, rfl⟩) xs.length 0 [] [] res (by omega) trivial (by simpa using hf) fun ys' hv => ?_
  intro D h2 tk2 F' N' off
  obtain ⟨a, b, d⟩ := made S1 off (by simpa using hv)
  exact k h2 tk2 _ _ _ F' N' a (E1.trans b) d

theorem comps_all : CompsAll G K p loose mg mb cpAll csAll := by
  intro A env vs h₀ Γ H CO
  refine ⟨fun e x gs sc q hc => ?_, fun i e x q q2 pe hc hx hst => ?_⟩
  · unfold cpAll at hc
    rw [Bool.or_eq_true] at hc
    exact hc.elim (ok_compR H CO) (ok_compL H)
  · replace hc := and_t hc
    exact s_compR H CO hc.1 hc.2 hx
end
end Mine

/-! ## M20 -/
namespace Mine
open PySem PySem.W PyProof.Rows PySem.Calls
theorem fm_congr {α β : Type} {f g : α → Option β} : ∀ {l : List α}, (∀ a ∈ l, f a = g a) → l.filterMap f = l.filterMap g
  | [], _ => rfl
  | a :: r, h => by rw [List.filterMap_cons, List.filterMap_cons, h a (.head _), fm_congr fun b hb => h b (.tail _ hb)]
theorem look_zip : ∀ (ns : List Str) (xs : List Value), ns.Nodup → xs.length = ns.length → ns.filterMap (fun n => ((ns.zip xs).lookup n).map fun x => (n, x)) = ns.zip xs
  | [], _, _, _ => by simp
  | _ :: _, [], _, h => by simp at h
  | a :: ns, x :: xs, nd, h => by
    have ih := look_zip ns xs (List.nodup_cons.mp nd).2 (by simpa using h)
    have hc : ns.filterMap (fun n => (((a :: ns).zip (x :: xs)).lookup n).map fun x => (n, x)) = ns.filterMap (fun n => ((ns.zip xs).lookup n).map fun x => (n, x)) := by
      refine fm_congr fun n hn => ?_
      have ne : (n == a) = false := by
        rw [Bool.eq_false_iff]
        intro e
        exact (List.nodup_cons.mp nd).1 (eq_of_beq e ▸ hn)
      rw [List.zip_cons_cons, List.lookup_cons, ne]
    rw [List.filterMap_cons]
    simp only [List.zip_cons_cons, List.lookup_cons_self, Option.map_some] at hc ⊢
    rw [hc, ih]
theorem look_some : ∀ (ns : List Str) (xs : List Value) (n : Str), n ∈ ns → xs.length = ns.length → ((ns.zip xs).lookup n).isNone = false
  | a :: ns, x :: xs, n, h, hl => by
    rw [List.zip_cons_cons, List.lookup_cons]
    split
    · rfl
    · rename_i hne
      rcases List.mem_cons.mp h with e | e
      · subst e; simp at hne
      · exact look_some ns xs n e (by simpa using hl)
  | _ :: _, [], _, _, hl => by simp at hl
theorem bind_plain (fd : FuncData) (xs : List Value) (h0 : fd.params.posonlyargs = []) (h1 : fd.params.kwonlyargs = []) (h2 : fd.params.vararg = none) (h3 : fd.params.kwarg = none) (hd : fd.defaults = .none)
    (nd : (fd.params.args.map (·.arg)).Nodup) (hl : xs.length = fd.params.args.length) : bindArgs fd ⟨xs, []⟩ = pure ((fd.params.args.map (·.arg)).zip xs) := by
  have e1 := look_zip _ xs nd (by simpa using hl)
  rw [List.filterMap_map] at e1
  have hf : (List.filter (fun n => (List.lookup n ((List.map (fun x => x.arg) fd.params.args).zip xs)).isNone) (List.map (fun x => x.arg) fd.params.args)) = [] := by
    rw [List.filter_eq_nil_iff]
    intro n hn
    rw [look_some _ _ n hn (by simpa using hl)]
    simp
  have hl' : ¬ xs.length > (List.map (fun x => x.arg) fd.params.args).length := by rw [hl, List.length_map]; exact Nat.lt_irrefl _
  obtain ⟨nm, qn, ⟨po, ar, va, ko, kd, ka, df⟩, bd, sc, gl, cl, dfl, kdf, doc, pm, an, cd, ct, bl⟩ := fd
  dsimp only at h0 h1 h2 h3 hd hl e1 hf hl' ⊢
  subst h0 h1 h2 h3 hd
  have ht : List.take (List.map (fun x => x.arg) ar).length (List.map (fun x => x.arg) ar) = List.map (fun x => x.arg) ar := List.take_length
  have dn : List.drop (((none : Option (Array Value)).getD #[]).toList.length - (List.map (fun x => x.arg) ar).length) ((none : Option (Array Value)).getD #[]).toList = [] := List.drop_nil
  have c2 : ¬ (!(List.filter (fun n => (List.lookup n ((List.map (fun x => x.arg) ar).zip xs)).isNone) (List.take ((List.map (fun x => x.arg) ar).length - (List.drop (((none : Option (Array Value)).getD #[]).toList.length - (List.map (fun x => x.arg) ar).length) ((none : Option (Array Value)).getD #[]).toList).length) (List.map (fun x => x.arg) ar))).isEmpty) = true := by
    rw [dn, List.length_nil, Nat.sub_zero, ht, hf]; simp
  have zn : List.zip (List.drop ((List.map (fun x => x.arg) ar).length - (List.drop (((none : Option (Array Value)).getD #[]).toList.length - (List.map (fun x => x.arg) ar).length) ((none : Option (Array Value)).getD #[]).toList).length) (List.map (fun x => x.arg) ar)) (List.drop (((none : Option (Array Value)).getD #[]).toList.length - (List.map (fun x => x.arg) ar).length) ((none : Option (Array Value)).getD #[]).toList) = [] := by
    rw [dn, List.zip_nil_right]
  show (if (decide (xs.length > (List.map (fun x => x.arg) ar).length) && true) = true then _ else _) = _
  refine (if_neg (by simpa using hl')).trans ((if_neg c2).trans ?_)
  show (forIn (List.zip (List.drop ((List.map (fun x => x.arg) ar).length - (List.drop (((none : Option (Array Value)).getD #[]).toList.length - (List.map (fun x => x.arg) ar).length) ((none : Option (Array Value)).getD #[]).toList).length) (List.map (fun x => x.arg) ar)) (List.drop (((none : Option (Array Value)).getD #[]).toList.length - (List.map (fun x => x.arg) ar).length) ((none : Option (Array Value)).getD #[]).toList)) _ _ >>= _) = _
  rw [zn]
  show (pure (List.filterMap (fun n => (List.lookup n ((List.map (fun x => x.arg) ar).zip xs)).map fun x => (n, x)) (List.map (fun x => x.arg) ar ++ [])) : Sem (List (Str × Value))) = _
  rw [List.append_nil, List.filterMap_map, e1]

/-- what the heap's written part must hold for a def of the text -/
noncomputable def fnB (K : Frag) (a : Addr) (fd : Fn) : Bool := match K.lookup a with
  | some ⟨_, _, .func f, _⟩ => (match f.body with
      | .stmts body => codeIn K f.code f.qualname && f.params.posonlyargs.isEmpty && f.params.kwonlyargs.isEmpty && f.params.vararg.isNone && f.params.kwarg.isNone && (match f.defaults with | .none => true | _ => false) &&
          decide (f.params.args.map (·.arg) = fd.vars.take fd.arity) && decide (fd.arity ≤ fd.vars.length) && !f.scope.isCoroutine && !f.scope.isGenerator && decide (f.scope.kind = .function) && scOk f.scope fd.vars &&
          Nat.beq f.globals mainGlobals && f.closure.isEmpty && Nat.beq f.builtins builtinsNs &&
          chkSs f.scope.names fd.vars (cpAll f.scope.names) (csAll f.scope.names) fd.body body &&
          (((fd.vars.all fun x => f.scope.names.lookup x == some .local) && (f.scope.names.all fun x => x.2 != .cell)) ||
            (fd.vars.any fun cx => decide (f.scope.names.filter (fun y => y.2 == .cell) = [(cx, .cell)]) && f.scope.names.lookup cx == some .cell && (fd.vars.all fun x => x == cx || f.scope.names.lookup x == some .local)))
      | _ => false)
  | _ => false
theorem cells_none : ∀ (n : Nat) (names : List (Str × NameKind)) (acc : List (Str × Addr)), names.filter (fun y => y.2 == .cell) = [] → cellsFrom n names acc = acc
  | _, [], _, _ => rfl
  | n, (a, k) :: r, acc, h => by
    rw [List.filter_cons] at h
    unfold cellsFrom
    split at h
    · cases h
    · rename_i hk
      rw [if_neg hk]
      exact cells_none n r acc h
theorem cells_one {cx : Str} : ∀ (n : Nat) (names : List (Str × NameKind)), names.filter (fun y => y.2 == .cell) = [(cx, .cell)] → cellsFrom n names [] = [(cx, n)]
  | _, [], h => by simp at h
  | n, (a, k) :: r, h => by
    rw [List.filter_cons] at h
    unfold cellsFrom
    split at h
    · rename_i hk
      rw [if_pos hk]
      injection h with h1 h2
      rw [cells_none _ _ _ h2]
      cases h1
      rfl
    · rename_i hk
      rw [if_neg hk]
      exact cells_one n r h

theorem fn_of_b {G : Gl} {K : Frag} {f : Nat} {fd : Fn} (h : fnB K (G.FA f) fd = true) : FnOk G K cpAll csAll f fd := by
  unfold fnB at h
  split at h
  case h_2 => cases h
  rename_i oc od fn osl lk
  split at h
  case h_2 => cases h
  rename_i body hbody
  simp only [Bool.and_eq_true, Bool.not_eq_true', decide_eq_true_eq, List.isEmpty_iff, Option.isNone_iff_eq_none, beq_iff_eq] at h
  obtain ⟨⟨⟨⟨⟨⟨⟨⟨⟨⟨⟨⟨⟨⟨⟨⟨h1, h2⟩, h3⟩, h4⟩, h5⟩, h6⟩, h7⟩, h8⟩, h9⟩, h10⟩, h11⟩, h12⟩, h13⟩, h14⟩, h15⟩, h16⟩, h17⟩ := h
  obtain ⟨nm, qn, ps, bd, sc, gl, cl, df, kdf, doc, pm, an, cd, ct, bl⟩ := fn
  dsimp only at *
  have e13 : gl = mainGlobals := Nat.eq_of_beq_eq_true h13
  have e15 : bl = builtinsNs := Nat.eq_of_beq_eq_true h15
  subst hbody e13 e15 h14
  have hdf : df = .none := by
    split at h6
    · rfl
    · cases h6
  refine ⟨nm, qn, ps, body, sc, df, kdf, doc, pm, cd, ct, oc, an, od, osl, ⟨lk, h1, fun xs hl => ?_, h9, h10, h11, h8, h12, h16⟩, ?_⟩
  · have nd : fd.vars.Nodup := by
      unfold scOk at h12
      rw [Bool.and_eq_true, decide_eq_true_eq] at h12
      exact h12.2
    rw [← h7]
    refine bind_plain (fnOf nm qn ps body sc df kdf doc pm an cd ct) xs h2 h3 h4 h5 hdf ?_ ?_
    · show (ps.args.map (·.arg)).Nodup
      rw [h7]
      exact List.Nodup.sublist (List.take_sublist _ _) nd
    · have := congrArg List.length h7
      rw [List.length_map, List.length_take] at this
      show xs.length = ps.args.length
      omega
  · rw [Bool.or_eq_true] at h17
    rcases h17 with h17 | h17
    · rw [Bool.and_eq_true] at h17
      exact .inl h17
    · rw [List.any_eq_true] at h17
      obtain ⟨cx, hm, hc⟩ := h17
      simp only [Bool.and_eq_true, decide_eq_true_eq, beq_iff_eq] at hc
      exact .inr ⟨cx, fun n => cells_one n _ hc.1.1, hm, hc.1.2, hc.2⟩

/-! the top fragment's facts -/
noncomputable def okV (BA : Nat → Addr) (v : MV) (u : Value) : Bool := match v, u with
  | .int i, .int j _ => decide (i = j)
  | .bref k, .ref a => Nat.beq a (BA k)
  | _, _ => false
theorem okV_ok {BA : Nat → Addr} {v : MV} {u : Value} (h : okV BA v u = true) : VR BA [] v u := by
  unfold okV at h
  split at h
  · rename_i i j t; rw [decide_eq_true_eq] at h; subst h; exact ⟨t, rfl⟩
  · rename_i k a; rw [Nat.eq_of_beq_eq_true h]; rfl
  · cases h
noncomputable def okGlob (K : Frag) (BA : Nat → Addr) : Bool := globTab.all fun p => match nsIn K mainGlobals p.1 with
  | some (some u) => okV BA p.2 u
  | _ => false
noncomputable def okInts : List Int → List Value → Bool
  | [], [] => true
  | i :: r, .int j _ :: r' => decide (i = j) && okInts r r'
  | _, _ => false
theorem okInts_ok {BA : Nat → Addr} : ∀ {xs : List Int} {vs : List Value}, okInts xs vs = true → VRs BA [] (xs.map MV.int) vs
  | [], [], _ => trivial
  | i :: r, v :: r', h => by
    cases v <;> simp only [okInts, Bool.false_eq_true, Bool.and_eq_true, decide_eq_true_eq] at h
    obtain ⟨rfl, h2⟩ := h
    exact ⟨⟨_, rfl⟩, okInts_ok h2⟩
  | [], _ :: _, h => by simp [okInts] at h
  | _ :: _, [], h => by simp [okInts] at h
noncomputable def okB (K : Frag) (a : Addr) (xs : List Int) : Bool := match K.lookup a with
  | some ⟨.type c, _, .seq vs _, _⟩ => c == "tuple" && okInts xs vs.toList
  | _ => false
noncomputable def okBref (K : Frag) (BA : Nat → Addr) : Bool := (List.range 2).all fun k => match stepsTab[k]? with
  | some xs => okB K (BA k) xs
  | none => false
noncomputable def isRef (v : Option (Option Value)) (a : Addr) : Bool := match v with
  | some (some (.ref b)) => Nat.beq b a
  | _ => false
theorem isRef_ok {v : Option (Option Value)} {a : Addr} (h : isRef v a = true) : v = some (some (.ref a)) := by
  unfold isRef at h
  split at h
  · rw [Nat.eq_of_beq_eq_true h]
  · cases h
noncomputable def isNil (v : Option (Option Value)) : Bool := match v with
  | some none => true
  | _ => false
theorem isNil_ok {v : Option (Option Value)} (h : isNil v = true) : v = some none := by
  unfold isNil at h
  split at h
  · rfl
  · cases h
noncomputable def okFn (K : Frag) (FA : Nat → Addr) : Bool := (List.range 49).all fun f => match funNames[f]? with
  | some x => isRef (nsIn K mainGlobals x) (FA f) && keepIn K (.ref (FA f))
  | none => false
noncomputable def isBlt (v : Option (Option Value)) (a : String) : Bool := match v with
  | some (some (.builtin b)) => b == a
  | _ => false
theorem isBlt_ok {v : Option (Option Value)} {a : String} (h : isBlt v a = true) : v = some (some (.builtin a)) := by
  unfold isBlt at h
  split at h
  · rw [eq_of_beq h]
  · cases h
noncomputable def okCls (K : Frag) (CA FA : Nat → Addr) (c : Nat) (x : Str) : Bool := isRef (nsIn K mainGlobals x) (CA c) && keepIn K (.ref (CA c)) && makesIn K (CA c) && isRef (findIn K (.ref (CA c)) "__init__") (FA (initOf c)) && isFn K (.ref (FA (initOf c)))
noncomputable def okFld (K : Frag) (CA : Nat → Addr) (c : Nat) : Bool := hasDictIn K (CA c) && plainGet K (CA c) "" && (fldTab.all fun x => isNil (findIn K (.ref (CA c)) x) && isNil (takerIn K (CA c) x))
noncomputable def okSet (K : Frag) (CA : Nat → Addr) (c : Nat) : Bool := isBlt (findIn K (.ref (CA c)) "__setattr__") "object.__setattr__" && plainOver K (CA c)

theorem kok_of {G : Gl} {K : Frag} (h1 : okGlob K G.BA = true) (h2 : okBref K G.BA = true) (h3 : okFn K G.FA = true) (h4 : okCls K G.CA G.FA 0 "Geometry" = true) (h5 : okCls K G.CA G.FA 1 "Zobrist" = true) (h6 : okCls K G.CA G.FA 2 "Position" = true)
    (f0 : okFld K G.CA 0 = true) (f1 : okFld K G.CA 1 = true) (f2 : okFld K G.CA 2 = true) (s0 : okSet K G.CA 0 = true) (s1 : okSet K G.CA 1 = true) (s2 : okSet K G.CA 2 = true) (r : isNil (nsIn K mainGlobals "range") = true) (l : isNil (nsIn K mainGlobals "len") = true) : KOk G K where
  glob := fun g x v hg => by
    have := List.all_eq_true.mp h1 (x, v) (List.mem_of_getElem? hg)
    dsimp only at this
    split at this
    · rename_i u hu; exact ⟨u, hu, okV_ok this⟩
    · cases this
  bref := fun k xs hk => by
    have hlt := (List.getElem?_eq_some_iff.mp hk).1
    have := List.all_eq_true.mp h2 k (List.mem_range.mpr hlt)
    rw [hk] at this
    dsimp only at this
    unfold okB at this
    split at this
    · rename_i c d vs n sl hl
      rw [Bool.and_eq_true] at this
      refine ⟨_, vs, n, hl, ?_, rfl, okInts_ok this.2⟩
      dsimp only
      rw [eq_of_beq this.1]
    · cases this
  fn := fun f x hf => by
    have hlt := (List.getElem?_eq_some_iff.mp hf).1
    have hlt : f < 49 := hlt
    have := List.all_eq_true.mp h3 f (List.mem_range.mpr hlt)
    rw [hf] at this
    dsimp only at this
    rw [Bool.and_eq_true] at this
    exact ⟨by omega, isRef_ok this.1, this.2⟩
  cls := fun c x hc => by
    have key : ∀ c x, okCls K G.CA G.FA c x = true → nsIn K mainGlobals x = some (some (.ref (G.CA c))) ∧ keepIn K (.ref (G.CA c)) = true ∧ makesIn K (G.CA c) = true ∧
        findIn K (.ref (G.CA c)) "__init__" = some (some (.ref (G.FA (initOf c)))) ∧ isFn K (.ref (G.FA (initOf c))) = true := by
      intro c x h
      unfold okCls at h
      simp only [Bool.and_eq_true] at h
      obtain ⟨⟨⟨⟨a, b⟩, c⟩, d⟩, e⟩ := h
      exact ⟨isRef_ok a, b, c, isRef_ok d, e⟩
    match c, hc with
    | 0, hc => cases hc; exact ⟨by omega, key _ _ h4⟩
    | 1, hc => cases hc; exact ⟨by omega, key _ _ h5⟩
    | 2, hc => cases hc; exact ⟨by omega, key _ _ h6⟩
  fld := fun c f x hc hf => by
    have key : ∀ c, okFld K G.CA c = true → plainGet K (G.CA c) x = true ∧ hasDictIn K (G.CA c) = true ∧ findIn K (.ref (G.CA c)) x = some none ∧ takerIn K (G.CA c) x = some none := by
      intro c h
      unfold okFld at h
      simp only [Bool.and_eq_true] at h
      have z := List.all_eq_true.mp h.2 x (List.mem_of_getElem? hf)
      rw [Bool.and_eq_true] at z
      exact ⟨h.1.2, h.1.1, isNil_ok z.1, isNil_ok z.2⟩
    match c, hc with
    | 0, _ => exact key 0 f0
    | 1, _ => exact key 1 f1
    | 2, _ => exact key 2 f2
  cset := fun c hc => by
    have key : ∀ c, okSet K G.CA c = true → findIn K (.ref (G.CA c)) "__setattr__" = some (some (.builtin "object.__setattr__")) ∧ plainOver K (G.CA c) = true := by
      intro c h
      unfold okSet at h
      rw [Bool.and_eq_true] at h
      exact ⟨isBlt_ok h.1, h.2⟩
    match c, hc with
    | 0, _ => exact key 0 s0
    | 1, _ => exact key 1 s1
    | 2, _ => exact key 2 s2
  rng := isNil_ok r
  len := isNil_ok l
end Mine

/-! ## M21 -/
namespace Mine
open PySem PySem.W PyProof.Rows PySem.Calls

noncomputable def lawNames (sn : Sn) : Bool := (FLaw.vars.all fun x => x == ("pos" : Str) || sn.lookup x == some .local) && sn.lookup ("pos" : Str) == some .cell

theorem law_rest {G : Gl} {K : Frag} {p : Program} {loose : List Str} {mean : ExcName → Option Value} {mg mb : Str → Option Value} (KK : KOk G K) (FO : ∀ f fd, prog f = some fd → FnOk G K cpAll csAll f fd)
    {h₀ base : Heap} {env : Env} {rest : List Stmt} {s : Shared} {m : Str → Option Value} {d D c : Addr} {o cellO : Obj} {ws : List Value} {ns : List Int} {n : Nat} {t3 : Tok} {Q : Flow → Shared → Prop} {Er : Value → Shared → Prop}
    (X : K.In h₀) (T : Top p loose mean mg mb h₀) (B : Below callerA base [] h₀) (hk : env.scope.kind = .function) (hf : env.frame = some env.locals) (hg : env.globals = mainGlobals) (hb : env.builtins = builtinsNs)
    (hcells : env.cells = [(("pos" : Str), c)]) (hnames : lawNames env.scope.names = true)
    (hchk : chkSs env.scope.names FLaw.vars (cpAll env.scope.names) (csAll env.scope.names) FLaw.body rest = true)
    (F : Fr h₀ env.locals s.heap m) (hm : m ("sack" : Str) = some (.ref d)) (N : News h₀ env.locals s.heap [(D, listOf ws.toArray n), (d, o), (c, cellO)]) (hcell : ∃ cv, cellO.data = .cell cv)
    (ne1 : @Ne Nat D d) (ne2 : @Ne Nat D c) (ne3 : @Ne Nat d c) (hI : IntsAre ws ns) (hd : o.IsDictOf (PySem.strKind G.prog G.w) [(("row" : Str), .ref D), (("at" : Str), .int 0 t3)])
    (law : ∃ loc σ, evSs (callF prog 9) FLaw.body (none :: some (.ref 1) :: List.replicate 9 none) [.list (ns.map MV.int), .dict [(26, .ref 0), (27, .int 0)]] = some (.ret (.bool true), loc, σ))
    (k : ∀ h' tk m', Fr h₀ env.locals h' m' → Q (.ret (.bool true)) ⟨h', s.gens, s.drawn, tk, s.os⟩) :
    wpAny G.M (callerA.deeper env) (execs rest env) Q Er s := by
  unfold lawNames at hnames
  rw [Bool.and_eq_true, List.all_eq_true] at hnames
  obtain ⟨hn1, hn2⟩ := hnames
  have hkf : ∀ y, env.kindOf y = env.scope.names.lookup y := fun _ => rfl
  have hloc : ∀ x ∈ FLaw.vars, x ≠ ("pos" : Str) → env.kindOf x = some .local := fun x hx ne => by
    have := hn1 x hx
    rw [Bool.or_eq_true] at this
    rcases this with q | q
    · exact absurd (eq_of_beq q) ne
    · exact eq_of_beq q
  have hnd : FLaw.vars.Nodup := by decide +kernel
  have H : Frm G K p loose mg mb (callerA.deeper env) env FLaw.vars h₀ := {
    X := X, T := ⟨T.g, T.b, T.nolimit, T.builtins, T.free⟩, KK := KK, hh := rfl, units := by show 4 + 3 + 64 < cLine; decide, kind := hk, glob := hg, blt := hb, nd := hnd
    cl := fun x y c hx hy => by
      rw [hcells] at hx hy
      rw [List.lookup_cons] at hx hy
      split at hx <;> split at hy <;> simp_all
    cvs := fun x c hx => by
      rw [hcells, List.lookup_cons] at hx
      split at hx
      · rename_i e
        have e' : x = ("pos" : Str) := by simpa using e
        subst e'
        refine ⟨by decide +kernel, ?_⟩
        rw [hkf, eq_of_beq hn2]
        simp
      · simp at hx
    vok := by
      have key : ∀ x ∈ FLaw.vars, (!(x == ("__debug__" : Str)) && !(x == ("__classdict__" : Str))) = true := List.all_eq_true.mp (by decide +kernel)
      intro x hx
      have := key x hx
      rw [Bool.and_eq_true, Bool.not_eq_true', Bool.not_eq_true'] at this
      exact this }
  have CO : CallsOk G (callerA.deeper env) env h₀ (callF prog 9) := by
    intro A' hA' f args σ v σ' hc μ1 s1 m1 news1 xs R F1 N1 S1 hv k1
    rcases hA' with rfl | ⟨C, vals, rfl⟩
    · exact callF_ok KK comps_all FO 9 f args σ v σ' hc (callerA.deeper env) callerA env [] base h₀ X T B rfl hf hk rfl (by show 1 + claimMargin + 1 + 2 * 9 < 900; decide) (by show 4 + 3 + 10 * 9 < 9000; decide) μ1 s1 m1 news1 xs R F1 N1 S1 hv k1
    · exact callF_ok KK comps_all FO 9 f args σ v σ' hc ((callerA.deeper env).under (.builtin "type.__call__" ⟨.ref C :: vals, []⟩)) callerA env [] base h₀ X T B rfl hf hk rfl (by rw [depth_under_make]; show 1 + claimMargin + 1 + 1 + 2 * 9 < 900; decide) (by rw [units_under_make]; show 4 + 3 + 1 + 10 * 9 < 9000; decide) μ1 s1 m1 news1 xs R F1 N1 S1 hv k1
  obtain ⟨HC, HS⟩ := comps_all (p := p) (loose := loose) (mg := mg) (mb := mb) (K := K) _ _ _ _ _ H CO
  obtain ⟨loc', σ', hrun⟩ := law
  have ivr : ∀ {ws : List Value} {ns : List Int} {μ : Mu}, IntsAre ws ns → VRs G.BA μ (ns.map MV.int) ws := by
    intro ws ns μ h
    induction h with
    | nil => trivial
    | cons _ _ _ ih => exact ⟨⟨_, rfl⟩, ih⟩
  have S : Sim G [(D, D), (d, d)] [.list (ns.map MV.int), .dict [(26, .ref 0), (27, .int 0)]] [(D, listOf ws.toArray n), (d, o), (c, cellO)] := by
    refine ⟨?_, rfl, fun i mo q h1 h2 => ?_, fun i j mo mo' q r h1 h2 _ _ h3 h4 hij => ?_⟩
    · simp only [List.map_cons, List.map_nil, List.nodup_cons, List.mem_cons, List.not_mem_nil, or_false, not_or, not_false_eq_true, List.nodup_nil, and_true]
      exact ⟨⟨ne1, ne2⟩, ne3⟩
    · match i with
      | 0 => cases h1; cases h2; exact ⟨ws, n, .head _, ivr hI, rfl⟩
      | 1 =>
        cases h1; cases h2
        refine ⟨o, _, .tail _ (.head _), hd, ⟨⟨by show fldTab[26]? = some (Str.ofString "row"); decide +kernel, ⟨(D, D), rfl, rfl⟩⟩, ⟨⟨by show fldTab[27]? = some (Str.ofString "at"); decide +kernel, ⟨t3, rfl⟩⟩, trivial⟩⟩, rfl⟩
      | i + 2 => cases h1
    · match i, j with
      | 0, 0 => exact absurd rfl hij
      | 1, 1 => exact absurd rfl hij
      | 0, 1 => cases h3; cases h4; exact ⟨ne1, ne1, ne1, ne1⟩
      | 1, 0 => cases h3; cases h4; exact ⟨Ne.symm ne1, Ne.symm ne1, Ne.symm ne1, Ne.symm ne1⟩
      | i + 2, _ => cases h1
      | _, j + 2 => cases h2
  have V : Vars G.BA env FLaw.vars [(D, D), (d, d)] (none :: some (.ref 1) :: List.replicate 9 none) m [(D, listOf ws.toArray n), (d, o), (c, cellO)] := by
    refine ⟨by decide +kernel, fun i x ov hx ho => ?_⟩
    by_cases e : x = ("pos" : Str)
    · subst e
      obtain ⟨cv, hcv⟩ := hcell
      refine .inr ⟨.inl (eq_of_beq hn2), c, cellO, cv, by rw [hcells]; simp, .tail _ (.tail _ (.head _)), hcv, fun v hv => ?_⟩
      subst hv
      match i, hx, ho with
      | 0, _, ho => cases ho
      | 1, hx, _ => exact absurd hx (by decide +kernel)
      | i + 2, _, ho =>
        simp only [List.getElem?_cons_succ, List.getElem?_replicate] at ho
        split at ho <;> cases ho
    · refine .inl ⟨hloc x (List.mem_of_getElem? hx) e, fun v hv => ?_⟩
      subst hv
      match i, hx, ho with
      | 0, _, ho => cases ho
      | 1, hx, ho =>
        have : x = ("sack" : Str) := Option.some.inj (hx.symm.trans (by decide +kernel))
        subst this
        cases ho
        exact ⟨_, hm, ⟨(d, d), rfl, rfl⟩⟩
      | i + 2, _, ho =>
        simp only [List.getElem?_cons_succ, List.getElem?_replicate] at ho
        split at ho <;> cases ho
  refine chkS_ok H CO HC HS FLaw.body rest hchk _ _ _ s m _ _ _ _ _ _ F N S V hrun fun h' tk m' μ' news' fw F2 N2 S2 E2 V2 hw => ?_
  obtain ⟨x, rfl, hx⟩ := hw
  cases hx
  exact k h' tk m' F2
end Mine

/-! ## P1 -/
namespace Mine.Law
open PySem PyProof.Rows

/-! bits -/
theorem nat_xor_and (m : Nat) : ∀ n : Nat, (m ^^^ n) + 2 * (m &&& n) = m + n := by
  induction m using Nat.strongRecOn with
  | ind m ih =>
    intro n
    by_cases h0 : m = 0
    · subst h0; simp
    · have ih' := ih (m / 2) (by omega) (n / 2)
      rw [← Nat.xor_div_two, ← Nat.and_div_two] at ih'
      have o1 := @Nat.xor_mod_two_eq_one m n
      have a1 := @Nat.and_mod_two_eq_one m n
      clear ih h0
      generalize m ^^^ n = x at *
      generalize m &&& n = a at *
      have e : x % 2 + 2 * (a % 2) = m % 2 + n % 2 := by
        rcases Nat.mod_two_eq_zero_or_one m with hm | hm <;> rcases Nat.mod_two_eq_zero_or_one n with hn | hn <;> rcases Nat.mod_two_eq_zero_or_one x with hx | hx <;> rcases Nat.mod_two_eq_zero_or_one a with ha | ha <;> simp [hm, hn, hx, ha] at o1 a1 ⊢
      rw [← Nat.div_add_mod x 2, ← Nat.div_add_mod a 2, ← Nat.div_add_mod m 2, ← Nat.div_add_mod n 2]
      clear o1 a1
      omega

noncomputable abbrev band := Builtin.bitAnd
noncomputable abbrev bor := Builtin.bitOr
noncomputable abbrev bxor := Builtin.bitXor
noncomputable def Bn (n : Nat) (x : Int) : Prop := 0 ≤ x ∧ x < 2 ^ n
noncomputable def tb (x : Int) (i : Nat) : Bool := x.toNat.testBit i

theorem and_pp {x y : Int} (hx : 0 ≤ x) (hy : 0 ≤ y) : band x y = ((x.toNat &&& y.toNat : Nat) : Int) := bitAnd_pp hx hy
theorem or_pp {x y : Int} (hx : 0 ≤ x) (hy : 0 ≤ y) : bor x y = ((x.toNat ||| y.toNat : Nat) : Int) := by
  show Builtin.bitOr x y = _
  rw [bitOr_and, bitAnd_pp hx hy]
  have := nat_or_add_and x.toNat y.toNat
  omega
theorem xor_pp {x y : Int} (hx : 0 ≤ x) (hy : 0 ≤ y) : bxor x y = ((x.toNat ^^^ y.toNat : Nat) : Int) := by
  show Builtin.bitXor x y = _
  unfold Builtin.bitXor
  rw [bitOr_and, bitAnd_pp hx hy]
  have := nat_xor_and x.toNat y.toNat
  omega
theorem and_any {x : Int} (y : Int) (hx : 0 ≤ x) : ∃ k : Nat, band x y = ((x.toNat &&& k : Nat) : Int) := by
  by_cases hy : 0 ≤ y
  · exact ⟨_, and_pp hx hy⟩
  · refine ⟨x.toNat ^^^ (Builtin.bitNot y).toNat, ?_⟩
    show Builtin.bitAnd x y = _
    rw [bitAnd_pn hx hy]
    have h1 := nat_xor_and x.toNat (x.toNat &&& (Builtin.bitNot y).toNat)
    have e : x.toNat &&& (x.toNat &&& (Builtin.bitNot y).toNat) = x.toNat &&& (Builtin.bitNot y).toNat := by rw [← Nat.and_assoc, Nat.and_self]
    have e2 : x.toNat &&& (x.toNat ^^^ (Builtin.bitNot y).toNat) = x.toNat ^^^ (x.toNat &&& (Builtin.bitNot y).toNat) := by
      apply Nat.eq_of_testBit_eq
      intro i
      simp only [Nat.testBit_and, Nat.testBit_xor]
      cases x.toNat.testBit i <;> simp
    rw [e2]
    rw [e] at h1
    have h2 : x.toNat &&& (Builtin.bitNot y).toNat ≤ x.toNat := Nat.and_le_left
    omega

theorem Bn.z {n : Nat} : Bn n 0 := ⟨Int.le_refl _, by exact_mod_cast Nat.two_pow_pos n⟩
theorem Bn.nat {n : Nat} {x : Int} (h : Bn n x) : x.toNat < 2 ^ n := by
  have := h.1
  have h2 := h.2
  have : ((x.toNat : Nat) : Int) < ((2 ^ n : Nat) : Int) := by rw [Int.toNat_of_nonneg h.1]; push_cast; exact h2
  exact_mod_cast this
theorem Bn.of {n k : Nat} (h : k < 2 ^ n) : Bn n (k : Int) := ⟨Int.natCast_nonneg _, by exact_mod_cast h⟩
theorem Bn.and {n : Nat} {x : Int} (h : Bn n x) (y : Int) : Bn n (band x y) := by
  obtain ⟨k, e⟩ := and_any y h.1
  rw [e]
  exact .of (Nat.lt_of_le_of_lt Nat.and_le_left h.nat)
theorem and_comm' (x y : Int) : band x y = band y x := bitAnd_comm x y
theorem Bn.and' {n : Nat} {y : Int} (h : Bn n y) (x : Int) : Bn n (band x y) := by rw [and_comm']; exact h.and x
theorem Bn.or {n : Nat} {x y : Int} (h : Bn n x) (h' : Bn n y) : Bn n (bor x y) := by rw [or_pp h.1 h'.1]; exact .of (Nat.or_lt_two_pow h.nat h'.nat)
theorem Bn.xor {n : Nat} {x y : Int} (h : Bn n x) (h' : Bn n y) : Bn n (bxor x y) := by rw [xor_pp h.1 h'.1]; exact .of (Nat.xor_lt_two_pow h.nat h'.nat)
theorem Bn.bit {n : Nat} {x : Int} (h : Bn n x) {i : Nat} (hi : tb x i = true) : i < n := by
  unfold tb at hi
  apply Nat.lt_of_not_le
  intro hle
  rw [Nat.testBit_lt_two_pow (Nat.lt_of_lt_of_le h.nat (Nat.pow_le_pow_right (by omega) hle))] at hi
  cases hi
theorem Bn.mono {n k : Nat} {x : Int} (h : Bn n x) (hk : n ≤ k) : Bn k x := ⟨h.1, Int.lt_of_lt_of_le h.2 (by exact_mod_cast Nat.pow_le_pow_right (by omega) hk)⟩
theorem tb_and_l {x y : Int} {i : Nat} (hx : 0 ≤ x) (h : tb (band x y) i = true) : tb x i = true := by
  obtain ⟨k, e⟩ := and_any y hx
  unfold tb at h ⊢
  rw [e, Int.toNat_natCast, Nat.testBit_and, Bool.and_eq_true] at h
  exact h.1
theorem tb_and_r {x y : Int} {i : Nat} (hy : 0 ≤ y) (h : tb (band x y) i = true) : tb y i = true := by rw [and_comm'] at h; exact tb_and_l hy h
theorem shl_nat {k : Nat} : (1 : Int) * 2 ^ k = ((2 ^ k : Nat) : Int) := by push_cast; omega
theorem Bn.one {n i : Nat} (h : i < n) : Bn n ((1 : Int) * 2 ^ i) := by rw [shl_nat]; exact .of (Nat.pow_lt_pow_right (by omega) h)
theorem shr_nat {x : Int} (hx : 0 ≤ x) (k : Nat) : x.fdiv (2 ^ k) = ((x.toNat >>> k : Nat) : Int) := by
  have e : x = ((x.toNat : Nat) : Int) := (Int.toNat_of_nonneg hx).symm
  rw [Nat.shiftRight_eq_div_pow]
  rw [e, Int.fdiv_eq_ediv_of_nonneg _ (by exact_mod_cast Nat.zero_le _), Int.toNat_natCast]
  push_cast
  rfl

/-! objects that stay -/
noncomputable def Le (σ σ' : Hp) : Prop := ∀ (i : Nat) (o : MObj), σ[i]? = some o → σ'[i]? = some o
noncomputable def notDict : MObj → Bool
  | .dict _ => false
  | _ => true
noncomputable def Keep (σ σ' : Hp) : Prop := ∀ (i : Nat) (o : MObj), σ[i]? = some o → notDict o = true → σ'[i]? = some o
theorem Le.refl {σ : Hp} : Le σ σ := fun _ _ h => h
theorem Le.trans {σ σ' σ'' : Hp} (h : Le σ σ') (h' : Le σ' σ'') : Le σ σ'' := fun i o e => h' i o (h i o e)
theorem Le.keep {σ σ' : Hp} (h : Le σ σ') : Keep σ σ' := fun i o e _ => h i o e
theorem Keep.refl {σ : Hp} : Keep σ σ := fun _ _ h _ => h
theorem Keep.trans {σ σ' σ'' : Hp} (h : Keep σ σ') (h' : Keep σ' σ'') : Keep σ σ'' := fun i o e n => h' i o (h i o e n) n
theorem Le.app {σ : Hp} {t : List MObj} : Le σ (σ ++ t) := fun i o e => by rw [List.getElem?_append_left (List.getElem?_eq_some_iff.mp e).1]; exact e
theorem Le.set {σ σ' : Hp} {i : Nat} {o : MObj} (h : Le σ σ') (hi : σ.length ≤ i) : Le σ (σ'.set i o) := fun j o' e => by
  have := (List.getElem?_eq_some_iff.mp e).1
  rw [List.getElem?_set_ne (by omega)]
  exact h j o' e
theorem getA_keep {σ σ' : Hp} {v r : MV} {f : Nat} (h : Keep σ σ') (e : getA σ v f = some r) : getA σ' v f = some r := by
  unfold getA at e ⊢
  split at e
  · split at e
    · rename_i id c fs ho
      simp only [h _ _ ho rfl]
      exact e
    · cases e
  · cases e
theorem getI_keep {σ σ' : Hp} {v w r : MV} (h : Keep σ σ') (e : getI σ v w = some r) : getI σ' v w = some r := by
  unfold getI at e ⊢
  split at e
  · split at e
    · rename_i id i xs ho; simp only [h _ _ ho rfl]; exact e
    · rename_i id i xs ho; simp only [h _ _ ho rfl]; exact e
    · cases e
  · exact e
  · cases e
end Mine.Law

/-! ## P2 -/
namespace Mine.Law
open PySem PyProof.Rows

noncomputable def shr (a b : Int) : Int := a.fdiv (2 ^ b.toNat)
noncomputable def shl (a b : Int) : Int := a * 2 ^ b.toNat
theorem b_and (a b : Int) : binI .BitAnd a b = some (band a b) := rfl
theorem b_or (a b : Int) : binI .BitOr a b = some (bor a b) := rfl
theorem b_xor (a b : Int) : binI .BitXor a b = some (bxor a b) := rfl
theorem b_add (a b : Int) : binI .Add a b = some (a + b) := rfl
theorem b_sub (a b : Int) : binI .Sub a b = some (a - b) := rfl
theorem b_shr (a : Int) {b : Int} (h : 0 ≤ b) : binI .RShift a b = some (shr a b) := by simp [binI, h, shr]
theorem b_shl {a b : Int} (h : 0 ≤ b) (h1 : b ≤ 1000) (h2 : a.natAbs < 18446744073709551616) : binI .LShift a b = some (shl a b) := by simp [binI, h, h1, h2, shl]
theorem b_mul {a b : Int} (h : a.natAbs < 4294967296) (h1 : b.natAbs < 4294967296) : binI .Mult a b = some (a * b) := by simp [binI, h, h1]
theorem b_mod (a : Int) {b : Int} (h : b ≠ 0) : binI .Mod a b = some (a.fmod b) := by simp [binI, h]
theorem bv_int (op : Operator) (a b : Int) (σ : Hp) : binV op (.int a) (.int b) σ = (binI op a b).map fun c => (.int c, σ) := rfl
theorem ba_int (op : Operator) (a b : Int) (σ : Hp) : binA op (.int a) (.int b) σ = (binI op a b).map fun c => (.int c, σ) := rfl
theorem call_eq (n f : Nat) (args : List MV) (σ : Hp) : callF prog (n + 1) f args σ = (prog f).bind fun fd => runFn (callF prog n) fd args σ := rfl

/-! the small int functions -/
theorem r0 (n : Nat) (σ : Hp) (a b : Int) (h : a.natAbs < 100) : callF prog (n + 1) 0 [.int a, .int b] σ = some (.int (a * 8 + b), σ) := by
  simp [call_eq, pg0, runFn, F0, qd1, qd2, qc1, qc2, qc3, qc4, qc5, qc6, qc7, qc8, qc9, qc10, qc11, qc12, qc13, qc14, qc15, qc16, qc17, qc18, ↓la0, ↓la1, ↓la2, ↓la3, ↓la4, ↓la5, ↓la6, ↓la7, ↓la8, ↓la9, ↓la10, ↓la11, ↓la12, ↓la13, qa1, qa2, qa3, qa4, qa5, qa6, qa7, qa8, qa9, qa10, qa11, qa12, qa13, qa14, qa15, qa16, qa17, qa18, qa19, qa20, qa21, qa22, qa23, qa24, qa25, qa26, qa27, qa28, qa29, bv_int, b_mul (a := a) (b := 8) (by omega) (by decide), b_add]
theorem r1 (n : Nat) (σ : Hp) (a : Int) : callF prog (n + 1) 1 [.int a] σ = some (.int (shr a 3), σ) := by
  simp [call_eq, pg1, runFn, F1, qd1, qd2, qc1, qc2, qc3, qc4, qc5, qc6, qc7, qc8, qc9, qc10, qc11, qc12, qc13, qc14, qc15, qc16, qc17, qc18, ↓la0, ↓la1, ↓la2, ↓la3, ↓la4, ↓la5, ↓la6, ↓la7, ↓la8, ↓la9, ↓la10, ↓la11, ↓la12, ↓la13, qa1, qa2, qa3, qa4, qa5, qa6, qa7, qa8, qa9, qa10, qa11, qa12, qa13, qa14, qa15, qa16, qa17, qa18, qa19, qa20, qa21, qa22, qa23, qa24, qa25, qa26, qa27, qa28, qa29, bv_int, b_shr]
theorem r2 (n : Nat) (σ : Hp) (a : Int) : callF prog (n + 1) 2 [.int a] σ = some (.int (band a 7), σ) := by
  simp [call_eq, pg2, runFn, F2, qd1, qd2, qc1, qc2, qc3, qc4, qc5, qc6, qc7, qc8, qc9, qc10, qc11, qc12, qc13, qc14, qc15, qc16, qc17, qc18, ↓la0, ↓la1, ↓la2, ↓la3, ↓la4, ↓la5, ↓la6, ↓la7, ↓la8, ↓la9, ↓la10, ↓la11, ↓la12, ↓la13, qa1, qa2, qa3, qa4, qa5, qa6, qa7, qa8, qa9, qa10, qa11, qa12, qa13, qa14, qa15, qa16, qa17, qa18, qa19, qa20, qa21, qa22, qa23, qa24, qa25, qa26, qa27, qa28, qa29, bv_int, b_and]
theorem r4 (n : Nat) (σ : Hp) (a : Int) : callF prog (n + 1) 4 [.int a] σ = some (.int (band (shr a 6) 63), σ) := by
  simp [call_eq, pg4, runFn, F4, qd1, qd2, qc1, qc2, qc3, qc4, qc5, qc6, qc7, qc8, qc9, qc10, qc11, qc12, qc13, qc14, qc15, qc16, qc17, qc18, ↓la0, ↓la1, ↓la2, ↓la3, ↓la4, ↓la5, ↓la6, ↓la7, ↓la8, ↓la9, ↓la10, ↓la11, ↓la12, ↓la13, qa1, qa2, qa3, qa4, qa5, qa6, qa7, qa8, qa9, qa10, qa11, qa12, qa13, qa14, qa15, qa16, qa17, qa18, qa19, qa20, qa21, qa22, qa23, qa24, qa25, qa26, qa27, qa28, qa29, bv_int, b_and, b_shr]
theorem r5 (n : Nat) (σ : Hp) (a : Int) : callF prog (n + 1) 5 [.int a] σ = some (.int (band a 63), σ) := by
  simp [call_eq, pg5, runFn, F5, qd1, qd2, qc1, qc2, qc3, qc4, qc5, qc6, qc7, qc8, qc9, qc10, qc11, qc12, qc13, qc14, qc15, qc16, qc17, qc18, ↓la0, ↓la1, ↓la2, ↓la3, ↓la4, ↓la5, ↓la6, ↓la7, ↓la8, ↓la9, ↓la10, ↓la11, ↓la12, ↓la13, qa1, qa2, qa3, qa4, qa5, qa6, qa7, qa8, qa9, qa10, qa11, qa12, qa13, qa14, qa15, qa16, qa17, qa18, qa19, qa20, qa21, qa22, qa23, qa24, qa25, qa26, qa27, qa28, qa29, bv_int, b_and]
theorem r6 (n : Nat) (σ : Hp) (a : Int) : callF prog (n + 1) 6 [.int a] σ = some (.int (band (shr a 14) 3), σ) := by
  simp [call_eq, pg6, runFn, F6, qd1, qd2, qc1, qc2, qc3, qc4, qc5, qc6, qc7, qc8, qc9, qc10, qc11, qc12, qc13, qc14, qc15, qc16, qc17, qc18, ↓la0, ↓la1, ↓la2, ↓la3, ↓la4, ↓la5, ↓la6, ↓la7, ↓la8, ↓la9, ↓la10, ↓la11, ↓la12, ↓la13, qa1, qa2, qa3, qa4, qa5, qa6, qa7, qa8, qa9, qa10, qa11, qa12, qa13, qa14, qa15, qa16, qa17, qa18, qa19, qa20, qa21, qa22, qa23, qa24, qa25, qa26, qa27, qa28, qa29, bv_int, b_and, b_shr]
theorem r7 (n : Nat) (σ : Hp) (a : Int) : callF prog (n + 1) 7 [.int a] σ = some (.bool (band a (a - 1) != 0), σ) := by
  simp [call_eq, pg7, runFn, F7, qd1, qd2, qc1, qc2, qc3, qc4, qc5, qc6, qc7, qc8, qc9, qc10, qc11, qc12, qc13, qc14, qc15, qc16, qc17, qc18, ↓la0, ↓la1, ↓la2, ↓la3, ↓la4, ↓la5, ↓la6, ↓la7, ↓la8, ↓la9, ↓la10, ↓la11, ↓la12, ↓la13, qa1, qa2, qa3, qa4, qa5, qa6, qa7, qa8, qa9, qa10, qa11, qa12, qa13, qa14, qa15, qa16, qa17, qa18, qa19, qa20, qa21, qa22, qa23, qa24, qa25, qa26, qa27, qa28, qa29, bv_int, b_and, b_sub, cmpV, cmpI]
noncomputable def grow (d : Int) : Bool := d == 0 || d == 1 || d == 4 || d == 7
theorem r11 (n : Nat) (σ : Hp) : ∀ d : Int, 0 ≤ d → d < 8 → callF prog (n + 1) 11 [.int d] σ = some (.bool (grow d), σ)
  | .ofNat 0, _, _ => rfl
  | .ofNat 1, _, _ => rfl
  | .ofNat 2, _, _ => rfl
  | .ofNat 3, _, _ => rfl
  | .ofNat 4, _, _ => rfl
  | .ofNat 5, _, _ => rfl
  | .ofNat 6, _, _ => rfl
  | .ofNat 7, _, _ => rfl
  | .ofNat (k + 8), _, h => by simp only [Int.ofNat_eq_natCast] at h; omega
  | .negSucc k, h, _ => by simp at h

/-! highest and lowest -/
theorem while_t {t : Loc → Hp → Option (MV × Hp)} {b : Loc → Hp → Out} {n : Nat} {loc loc' : Loc} {σ σ1 σ' : Hp} {v : MV} (h1 : t loc σ = some (v, σ1)) (h2 : tr v = some true) (h3 : b loc σ1 = some (.next, loc', σ')) : whileN t b (n + 1) loc σ = whileN t b n loc' σ' := by
  simp [whileN, h1, h2, h3]
theorem while_f {t : Loc → Hp → Option (MV × Hp)} {b : Loc → Hp → Out} {n : Nat} {loc : Loc} {σ σ1 : Hp} {v : MV} (h1 : t loc σ = some (v, σ1)) (h2 : tr v = some false) : whileN t b (n + 1) loc σ = some (.next, loc, σ1) := by
  simp [whileN, h1, h2]
theorem while_r {t : Loc → Hp → Option (MV × Hp)} {b : Loc → Hp → Out} {n : Nat} {loc loc' : Loc} {σ σ1 σ' : Hp} {v w : MV} (h1 : t loc σ = some (v, σ1)) (h2 : tr v = some true) (h3 : b loc σ1 = some (.ret w, loc', σ')) : whileN t b (n + 1) loc σ = some (.ret w, loc', σ') := by
  simp [whileN, h1, h2, h3]
noncomputable def wd (j : Nat) : Int := ((2 ^ j : Nat) : Int)
noncomputable def dn : Nat → Int → Int → Int
  | 0, _, sq => sq
  | j + 1, x, sq => if shr x (wd j) = 0 then dn j x sq else dn j (shr x (wd j)) (sq + wd j)
noncomputable def up : Nat → Nat → Int → Nat
  | 0, j, _ => j
  | k + 1, j, x => if shr x (wd j) = 0 then j else up k (j + 1) x
noncomputable def high (x : Int) : Int := if x = 0 then -1 else dn (up 5 0 x) x 0

theorem wd_nn (j : Nat) : 0 ≤ wd j := Int.natCast_nonneg _
theorem wd_tn (j : Nat) : (wd j).toNat = 2 ^ j := Int.toNat_natCast _
theorem shr_eq {x : Int} (hx : 0 ≤ x) (b : Int) : shr x b = ((x.toNat >>> b.toNat : Nat) : Int) := shr_nat hx _
theorem shr_nn {x : Int} (hx : 0 ≤ x) (b : Int) : 0 ≤ shr x b := by rw [shr_eq hx]; exact Int.natCast_nonneg _
theorem tb_shr {x : Int} (hx : 0 ≤ x) (b : Int) (i : Nat) : tb (shr x b) i = tb x (b.toNat + i) := by
  unfold tb
  rw [shr_eq hx, Int.toNat_natCast, Nat.testBit_shiftRight]
theorem shr_zero {x : Int} (hx : 0 ≤ x) {b : Int} (h : shr x b = 0) : Bn b.toNat x := by
  rw [shr_eq hx, Nat.shiftRight_eq_div_pow] at h
  refine ⟨hx, ?_⟩
  have h : x.toNat / 2 ^ b.toNat = 0 := by exact_mod_cast h
  have := (Nat.div_eq_zero_iff_lt (Nat.two_pow_pos _)).mp h
  have e : x = ((x.toNat : Nat) : Int) := (Int.toNat_of_nonneg hx).symm
  rw [e]; exact_mod_cast this
theorem shr_small {x : Int} {b : Int} (h : Bn b.toNat x) : shr x b = 0 := by
  rw [shr_eq h.1, Nat.shiftRight_eq_div_pow, Nat.div_eq_of_lt h.nat]; rfl
theorem shr_bn {x : Int} {b : Int} {k : Nat} (h : Bn (b.toNat + k) x) : Bn k (shr x b) := by
  rw [shr_eq h.1, Nat.shiftRight_eq_div_pow]
  refine .of (Nat.div_lt_of_lt_mul ?_)
  rw [← Nat.pow_add]; exact h.nat

theorem dn_bit : ∀ (j : Nat) (x sq : Int), 0 < x → Bn (2 ^ j) x → ∃ i : Nat, dn j x sq = sq + i ∧ tb x i = true
  | 0, x, sq, h0, h => by
    have : x = 1 := by have := h.2; simp at this; omega
    subst this
    exact ⟨0, by simp [dn], by decide⟩
  | j + 1, x, sq, h0, h => by
    unfold dn
    split
    · rename_i hz
      have := shr_zero h.1 hz
      rw [wd_tn] at this
      exact dn_bit j x sq h0 this
    · rename_i hz
      have hp : 0 < shr x (wd j) := by have := shr_nn h.1 (wd j); omega
      obtain ⟨i, e, ht⟩ := dn_bit j (shr x (wd j)) (sq + wd j) hp (shr_bn (by rw [wd_tn, ← Nat.two_mul, ← Nat.pow_succ']; exact h))
      rw [tb_shr h.1, wd_tn] at ht
      exact ⟨2 ^ j + i, by rw [e]; unfold wd; push_cast; omega, ht⟩
theorem up_stop : ∀ (k j : Nat) (x : Int), shr x (wd (j + k)) = 0 → shr x (wd (up k j x)) = 0
  | 0, j, x, h => h
  | k + 1, j, x, h => by
    unfold up
    split
    · assumption
    · exact up_stop k (j + 1) x (by rw [Nat.add_right_comm]; exact h)
theorem up_le : ∀ (k j : Nat) (x : Int), up k j x ≤ j + k
  | 0, j, x => Nat.le_refl _
  | k + 1, j, x => by
    unfold up
    split
    · omega
    · have := up_le k (j + 1) x; omega
theorem high_bit {x : Int} (h : Bn 32 x) : high x = -1 ∨ ∃ i : Nat, high x = i ∧ tb x i = true := by
  unfold high
  split
  · exact .inl rfl
  · rename_i h0
    right
    have hs : shr x (wd (up 5 0 x)) = 0 := up_stop 5 0 x (shr_small (by rw [wd_tn]; exact h))
    have := shr_zero h.1 hs
    rw [wd_tn] at this
    obtain ⟨i, e, ht⟩ := dn_bit (up 5 0 x) x 0 (by have := h.1; omega) this
    exact ⟨i, by rw [e]; omega, ht⟩

theorem loop1 {Γ : Gam} (σ : Hp) : ∀ (k j fuel : Nat) (x : Int), 0 ≤ x → j + k ≤ 5 → k < fuel → shr x (wd (j + k)) = 0 →
    whileN (fun loc σ => evE Γ loc (.bin .RShift (.loc 0) (.loc 1)) σ) (evSs Γ (.cons (.augN 1 .Mult (.int 2)) .nil)) fuel [some (.int x), some (.int (wd j)), none] σ = some (.next, [some (.int x), some (.int (wd (up k j x))), none], σ)
  | k, j, fuel + 1, x, hx, hj, hf, h => by
    have e2 : wd j * 2 = wd (j + 1) := by unfold wd; rw [Nat.pow_succ]; push_cast; rfl
    have hw : (wd j).natAbs < 4294967296 := by
      have : 2 ^ j ≤ 2 ^ 5 := Nat.pow_le_pow_right (by omega) (by omega)
      unfold wd; rw [Int.natAbs_natCast]; omega
    by_cases hz : shr x (wd j) = 0
    · have hu : up k j x = j := by cases k <;> simp [up, hz]
      rw [while_f (v := .int 0) (σ1 := σ) (by simp [↓la0, ↓la1, ↓la2, ↓la3, ↓la4, ↓la5, ↓la6, ↓la7, ↓la8, ↓la9, ↓la10, ↓la11, ↓la12, ↓la13, qa1, qa2, qa3, qa4, qa5, qa6, qa7, qa8, qa9, qa10, qa11, qa12, qa13, qa14, qa15, qa16, qa17, qa18, qa19, qa20, qa21, qa22, qa23, qa24, qa25, qa26, qa27, qa28, qa29, bv_int, b_shr x (wd_nn j), hz]) rfl, hu]
    · cases k with
      | zero => exact absurd h hz
      | succ k =>
        have ih := loop1 (Γ := Γ) σ k (j + 1) fuel x hx (by omega) (by omega) (by rw [Nat.add_right_comm]; exact h)
        have hu : up (k + 1) j x = up k (j + 1) x := by simp [up, hz]
        rw [while_t (v := .int (shr x (wd j))) (σ1 := σ) (loc' := [some (.int x), some (.int (wd (j + 1))), none]) (σ' := σ) (by simp [↓la0, ↓la1, ↓la2, ↓la3, ↓la4, ↓la5, ↓la6, ↓la7, ↓la8, ↓la9, ↓la10, ↓la11, ↓la12, ↓la13, qa1, qa2, qa3, qa4, qa5, qa6, qa7, qa8, qa9, qa10, qa11, qa12, qa13, qa14, qa15, qa16, qa17, qa18, qa19, qa20, qa21, qa22, qa23, qa24, qa25, qa26, qa27, qa28, qa29, bv_int, b_shr x (wd_nn j)]) (by simp [tr, hz])
          (by simp [↓la0, ↓la1, ↓la2, ↓la3, ↓la4, ↓la5, ↓la6, ↓la7, ↓la8, ↓la9, ↓la10, ↓la11, ↓la12, ↓la13, qa1, qa2, qa3, qa4, qa5, qa6, qa7, qa8, qa9, qa10, qa11, qa12, qa13, qa14, qa15, qa16, qa17, qa18, qa19, qa20, qa21, qa22, qa23, qa24, qa25, qa26, qa27, qa28, qa29, qd1, qd2, qc1, qc2, qc3, qc4, qc5, qc6, qc7, qc8, qc9, qc10, qc11, qc12, qc13, qc14, qc15, qc16, qc17, qc18, ba_int, bv_int, b_mul hw (by decide : (2 : Int).natAbs < 4294967296), e2]), ih, hu]
theorem loop2 {Γ : Gam} (σ : Hp) : ∀ (j fuel : Nat) (x sq : Int), 0 ≤ x → j ≤ 5 → j < fuel → ∃ x',
    whileN (fun loc σ => evE Γ loc (.cmp .Gt (.loc 1) (.int 1)) σ) (evSs Γ (.cons (.augN 1 .FloorDiv (.int 2)) (.cons (.ifs (.bin .RShift (.loc 0) (.loc 1)) (.cons (.augN 0 .RShift (.loc 1)) (.cons (.augN 2 .Add (.loc 1)) .nil)) .nil) .nil))) fuel
      [some (.int x), some (.int (wd j)), some (.int sq)] σ = some (.next, [some (.int x'), some (.int 1), some (.int (dn j x sq))], σ)
  | 0, fuel + 1, x, sq, hx, hj, hf => by
    exact ⟨x, while_f (v := .bool false) (by simp [↓la0, ↓la1, ↓la2, ↓la3, ↓la4, ↓la5, ↓la6, ↓la7, ↓la8, ↓la9, ↓la10, ↓la11, ↓la12, ↓la13, qa1, qa2, qa3, qa4, qa5, qa6, qa7, qa8, qa9, qa10, qa11, qa12, qa13, qa14, qa15, qa16, qa17, qa18, qa19, qa20, qa21, qa22, qa23, qa24, qa25, qa26, qa27, qa28, qa29, cmpV, cmpI, wd]) rfl⟩
  | j + 1, fuel + 1, x, sq, hx, hj, hf => by
    have hw : (wd (j + 1)).natAbs < 1073741824 := by
      have : 2 ^ (j + 1) ≤ 2 ^ 5 := Nat.pow_le_pow_right (by omega) (by omega)
      unfold wd; rw [Int.natAbs_natCast]; omega
    have hd : (wd (j + 1)).fdiv 2 = wd j := by
      unfold wd
      rw [Int.fdiv_eq_ediv_of_nonneg _ (by decide), Nat.pow_succ]
      push_cast
      omega
    have h1 : (1 : Int) < wd (j + 1) := by
      have : 0 < 2 ^ j := Nat.two_pow_pos j
      unfold wd; rw [Nat.pow_succ]; omega
    have hfd : binI .FloorDiv (wd (j + 1)) 2 = some (wd j) := by simp [binI, hw, hd]
    by_cases hz : shr x (wd j) = 0
    · obtain ⟨x', ih⟩ := loop2 (Γ := Γ) σ j fuel x sq hx (by omega) (by omega)
      refine ⟨x', ?_⟩
      rw [while_t (v := .bool true) (σ1 := σ) (σ' := σ) (loc' := [some (.int x), some (.int (wd j)), some (.int sq)]) (by simp [↓la0, ↓la1, ↓la2, ↓la3, ↓la4, ↓la5, ↓la6, ↓la7, ↓la8, ↓la9, ↓la10, ↓la11, ↓la12, ↓la13, qa1, qa2, qa3, qa4, qa5, qa6, qa7, qa8, qa9, qa10, qa11, qa12, qa13, qa14, qa15, qa16, qa17, qa18, qa19, qa20, qa21, qa22, qa23, qa24, qa25, qa26, qa27, qa28, qa29, cmpV, cmpI, h1]) rfl (by simp [↓la0, ↓la1, ↓la2, ↓la3, ↓la4, ↓la5, ↓la6, ↓la7, ↓la8, ↓la9, ↓la10, ↓la11, ↓la12, ↓la13, qa1, qa2, qa3, qa4, qa5, qa6, qa7, qa8, qa9, qa10, qa11, qa12, qa13, qa14, qa15, qa16, qa17, qa18, qa19, qa20, qa21, qa22, qa23, qa24, qa25, qa26, qa27, qa28, qa29, qd1, qd2, qc1, qc2, qc3, qc4, qc5, qc6, qc7, qc8, qc9, qc10, qc11, qc12, qc13, qc14, qc15, qc16, qc17, qc18, bv_int, ba_int, tr, hfd, b_shr x (wd_nn j), hz]), ih]
      simp [dn, hz]
    · obtain ⟨x', ih⟩ := loop2 (Γ := Γ) σ j fuel (shr x (wd j)) (sq + wd j) (shr_nn hx _) (by omega) (by omega)
      refine ⟨x', ?_⟩
      have hb : (shr x (wd j) != 0) = true := by simp [hz]
      rw [while_t (v := .bool true) (σ1 := σ) (σ' := σ) (loc' := [some (.int (shr x (wd j))), some (.int (wd j)), some (.int (sq + wd j))]) (by simp [↓la0, ↓la1, ↓la2, ↓la3, ↓la4, ↓la5, ↓la6, ↓la7, ↓la8, ↓la9, ↓la10, ↓la11, ↓la12, ↓la13, qa1, qa2, qa3, qa4, qa5, qa6, qa7, qa8, qa9, qa10, qa11, qa12, qa13, qa14, qa15, qa16, qa17, qa18, qa19, qa20, qa21, qa22, qa23, qa24, qa25, qa26, qa27, qa28, qa29, cmpV, cmpI, h1]) rfl (by simp [↓la0, ↓la1, ↓la2, ↓la3, ↓la4, ↓la5, ↓la6, ↓la7, ↓la8, ↓la9, ↓la10, ↓la11, ↓la12, ↓la13, qa1, qa2, qa3, qa4, qa5, qa6, qa7, qa8, qa9, qa10, qa11, qa12, qa13, qa14, qa15, qa16, qa17, qa18, qa19, qa20, qa21, qa22, qa23, qa24, qa25, qa26, qa27, qa28, qa29, qd1, qd2, qc1, qc2, qc3, qc4, qc5, qc6, qc7, qc8, qc9, qc10, qc11, qc12, qc13, qc14, qc15, qc16, qc17, qc18, bv_int, ba_int, tr, hfd, b_shr x (wd_nn j), hz, b_add]), ih]
      simp [dn, hz]
theorem r8 (n : Nat) (σ : Hp) {x : Int} (h : Bn 32 x) : callF prog (n + 1) 8 [.int x] σ = some (.int (high x), σ) := by
  by_cases h0 : x = 0
  · subst h0
    simp [call_eq, pg8, runFn, F8, qd1, qd2, qc1, qc2, qc3, qc4, qc5, qc6, qc7, qc8, qc9, qc10, qc11, qc12, qc13, qc14, qc15, qc16, qc17, qc18, ↓la0, ↓la1, ↓la2, ↓la3, ↓la4, ↓la5, ↓la6, ↓la7, ↓la8, ↓la9, ↓la10, ↓la11, ↓la12, ↓la13, qa1, qa2, qa3, qa4, qa5, qa6, qa7, qa8, qa9, qa10, qa11, qa12, qa13, qa14, qa15, qa16, qa17, qa18, qa19, qa20, qa21, qa22, qa23, qa24, qa25, qa26, qa27, qa28, qa29, cmpV, cmpI, tr, unV, high]
  · have hs : shr x (wd (0 + 5)) = 0 := shr_small (by rw [wd_tn]; exact h)
    have l1 := loop1 (Γ := callF prog n) σ 5 0 64 x h.1 (by omega) (by omega) hs
    obtain ⟨x', l2⟩ := loop2 (Γ := callF prog n) σ (up 5 0 x) 64 x 0 h.1 (by have := up_le 5 0 x; omega) (by have := up_le 5 0 x; omega)
    have e1 : wd 0 = 1 := rfl
    rw [e1] at l1
    simp [call_eq, pg8, runFn, F8, qd1, qd2, qc1, qc2, qc3, qc4, qc5, qc6, qc7, qc8, qc9, qc10, qc11, qc12, qc13, qc14, qc15, qc16, qc17, qc18, ↓la0, ↓la1, ↓la2, ↓la3, ↓la4, ↓la5, ↓la6, ↓la7, ↓la8, ↓la9, ↓la10, ↓la11, ↓la12, ↓la13, qa1, qa2, qa3, qa4, qa5, qa6, qa7, qa8, qa9, qa10, qa11, qa12, qa13, qa14, qa15, qa16, qa17, qa18, qa19, qa20, qa21, qa22, qa23, qa24, qa25, qa26, qa27, qa28, qa29, cmpV, cmpI, tr, h0, fuel, high] at l1 l2 ⊢
    simp [l1, l2]
noncomputable def low (x : Int) : Int := high (band x (-x))
theorem r9 (n : Nat) (σ : Hp) {x : Int} (h : Bn 32 x) : callF prog (n + 2) 9 [.int x] σ = some (.int (low x), σ) := by
  rw [call_eq]
  simp [pg9, runFn, F9, qd1, qd2, qc1, qc2, qc3, qc4, qc5, qc6, qc7, qc8, qc9, qc10, qc11, qc12, qc13, qc14, qc15, qc16, qc17, qc18, ↓la0, ↓la1, ↓la2, ↓la3, ↓la4, ↓la5, ↓la6, ↓la7, ↓la8, ↓la9, ↓la10, ↓la11, ↓la12, ↓la13, qa1, qa2, qa3, qa4, qa5, qa6, qa7, qa8, qa9, qa10, qa11, qa12, qa13, qa14, qa15, qa16, qa17, qa18, qa19, qa20, qa21, qa22, qa23, qa24, qa25, qa26, qa27, qa28, qa29, qb1, qb2, unV, bv_int, b_and, r8 n σ (h.and (-x)), low]
theorem low_bit {x : Int} (h : Bn 32 x) : low x = -1 ∨ ∃ i : Nat, low x = i ∧ tb x i = true := by
  rcases high_bit (h.and (-x)) with e | ⟨i, e, ht⟩
  · exact .inl e
  · exact .inr ⟨i, e, tb_and_l h.1 ht⟩
end Mine.Law

/-! ## P3 -/
namespace Mine.Law
open PySem PyProof.Rows

/-- what a position holds -/
structure B where
  n : Nat
  files : Int
  g : Nat
  rI : Nat
  kgI : Nat
  knI : Nat
  pwI : Nat
  rd : Int → Nat
  pw : Int → Nat
  ray : Int → Int → Int
  king : Int → Int
  knight : Int → Int
  pawn : Int → Int → Int
  bI : Nat
  kI : Nat
  sI : Nat
  bd : Int → Int
  kd : Int → Int
  sd : Int → Int
  side : Int

structure Geo (σ : Hp) (b : B) : Prop where
  files : getA σ (.ref b.g) 0 = some (.int b.files)
  size : getA σ (.ref b.g) 2 = some (.int b.n)
  full : getA σ (.ref b.g) 3 = some (.int ((2 : Int) ^ b.n - 1))
  rays : getA σ (.ref b.g) 8 = some (.ref b.rI)
  rd : ∀ d : Int, 0 ≤ d → d < 8 → getI σ (.ref b.rI) (.int d) = some (.ref (b.rd d))
  ray : ∀ d s : Int, 0 ≤ d → d < 8 → -1 ≤ s → s < b.n → getI σ (.ref (b.rd d)) (.int s) = some (.int (b.ray d s))
  kings : getA σ (.ref b.g) 9 = some (.ref b.kgI)
  king : ∀ s : Int, 0 ≤ s → s < b.n → getI σ (.ref b.kgI) (.int s) = some (.int (b.king s))
  knights : getA σ (.ref b.g) 10 = some (.ref b.knI)
  knight : ∀ s : Int, 0 ≤ s → s < b.n → getI σ (.ref b.knI) (.int s) = some (.int (b.knight s))
  pawns : getA σ (.ref b.g) 11 = some (.ref b.pwI)
  pw : ∀ c : Int, 0 ≤ c → c < 2 → getI σ (.ref b.pwI) (.int c) = some (.ref (b.pw c))
  pawn : ∀ c s : Int, 0 ≤ c → c < 2 → 0 ≤ s → s < b.n → getI σ (.ref (b.pw c)) (.int s) = some (.int (b.pawn c s))

structure Sane (b : B) : Prop where
  n20 : b.n ≤ 20
  n12 : 12 ≤ b.n
  ray : ∀ d s : Int, 0 ≤ d → d < 8 → -1 ≤ s → s < b.n → Bn b.n (b.ray d s)
  own : ∀ (d : Int) (s : Nat), 0 ≤ d → d < 8 → s < b.n → tb (b.ray d s) s = false
  king : ∀ s : Int, 0 ≤ s → s < b.n → Bn b.n (b.king s)
  knight : ∀ s : Int, 0 ≤ s → s < b.n → Bn b.n (b.knight s)
  pawn : ∀ c s : Int, 0 ≤ c → c < 2 → 0 ≤ s → s < b.n → Bn b.n (b.pawn c s)
  files : 3 ≤ b.files ∧ b.files ≤ 4

structure Pos (σ : Hp) (P : Nat) (b : B) : Prop where
  geo : getA σ (.ref P) 14 = some (.ref b.g)
  board : getA σ (.ref P) 16 = some (.ref b.bI)
  bd : ∀ s : Int, 0 ≤ s → s < b.n → getI σ (.ref b.bI) (.int s) = some (.int (b.bd s))
  kinds : getA σ (.ref P) 17 = some (.ref b.kI)
  kd : ∀ k : Int, 0 ≤ k → k < 7 → getI σ (.ref b.kI) (.int k) = some (.int (b.kd k))
  sides : getA σ (.ref P) 18 = some (.ref b.sI)
  sd : ∀ c : Int, 0 ≤ c → c < 2 → getI σ (.ref b.sI) (.int c) = some (.int (b.sd c))
  side : getA σ (.ref P) 19 = some (.int b.side)

structure Men (b : B) : Prop where
  kd : ∀ k : Int, 0 ≤ k → k < 7 → Bn b.n (b.kd k)
  sd : ∀ c : Int, 0 ≤ c → c < 2 → Bn b.n (b.sd c)
  bd : ∀ s : Int, 0 ≤ s → s < b.n → 0 ≤ band (b.bd s) 7 ∧ band (b.bd s) 7 < 7
  side : b.side = 0 ∨ b.side = 1

theorem Geo.keep {σ σ' : Hp} {b : B} (h : Geo σ b) (k : Keep σ σ') : Geo σ' b :=
  ⟨getA_keep k h.files, getA_keep k h.size, getA_keep k h.full, getA_keep k h.rays, fun d a c => getI_keep k (h.rd d a c), fun d s a c e f => getI_keep k (h.ray d s a c e f), getA_keep k h.kings, fun s a c => getI_keep k (h.king s a c),
    getA_keep k h.knights, fun s a c => getI_keep k (h.knight s a c), getA_keep k h.pawns, fun c a d => getI_keep k (h.pw c a d), fun c s a d e f => getI_keep k (h.pawn c s a d e f)⟩
theorem Pos.keep {σ σ' : Hp} {P : Nat} {b : B} (h : Pos σ P b) (k : Keep σ σ') : Pos σ' P b :=
  ⟨getA_keep k h.geo, getA_keep k h.board, fun s a c => getI_keep k (h.bd s a c), getA_keep k h.kinds, fun s a c => getI_keep k (h.kd s a c), getA_keep k h.sides, fun s a c => getI_keep k (h.sd s a c), getA_keep k h.side⟩

/-! rays -/
noncomputable def sm (x k : Int) : Int := bor x (shr x k)
noncomputable def beh (x : Int) : Int := sm (sm (sm (sm (sm (sm (shr x 1) 1) 2) 4) 8) 16) 32
noncomputable def rayS (ray stop d : Int) : Int := if stop = 0 then ray else if grow d = true then band ray (bxor stop (stop - 1)) else band ray (Builtin.bitNot (beh stop))
noncomputable def rayA (b : B) (d s occ : Int) : Int := rayS (b.ray d s) (band (b.ray d s) occ) d
section
variable {σ : Hp} {b : B} {n : Nat}
theorem ss_n3 {Γ : Gam} {s : S} {r : Ss} {loc loc' : Loc} {σ σ' : Hp} (h : evS Γ s loc σ = some (.next, loc', σ')) : evSs Γ (.cons s r) loc σ = evSs Γ r loc' σ' := by rw [qd2, h]; rfl
theorem ifs_f3 {Γ : Gam} {c : E} {t : Ss} {loc : Loc} {σ : Hp} {v : MV} (h : evE Γ loc c σ = some (v, σ)) (hv : tr v = some false) : evS Γ (.ifs c t .nil) loc σ = some (.next, loc, σ) := by rw [qc10, h]; simp [hv, qd1]
theorem ifs_r3 {Γ : Gam} {c e : E} {r : Ss} {loc : Loc} {σ : Hp} {v w : MV} (h : evE Γ loc c σ = some (v, σ)) (hv : tr v = some true) (he : evE Γ loc e σ = some (w, σ)) : evSs Γ (.cons (.ifs c (.cons (.ret e) .nil) .nil) r) loc σ = some (.ret w, loc, σ) := by
  rw [qd2, qc10, h]
  simp [hv, qd2, qc15, he]
theorem for_3 {x : Nat} {f : Loc → Hp → Out} {v : MV} {vs : List MV} {loc loc' : Loc} {σ σ' : Hp} (h : f (loc.set x (some v)) σ = some (.next, loc', σ')) : forN x f (v :: vs) loc σ = forN x f vs loc' σ' := by simp [forN, h]
theorem sm_step {Γ : Gam} {a b c d e f : Option MV} {x k : Int} {σ : Hp} (hk : 0 ≤ k) : evS Γ (.augN 6 .BitOr (.bin .RShift (.loc 6) (.int k))) [a, b, c, d, e, f, some (.int x)] σ = some (.next, [a, b, c, d, e, f, some (.int (sm x k))], σ) := by
  simp [qc6, qa6, ↓la0, ↓la1, ↓la2, ↓la3, ↓la4, ↓la5, ↓la6, ↓la7, ↓la8, ↓la9, ↓la10, ↓la11, ↓la12, ↓la13, qa1, qa2, ba_int, bv_int, b_or, b_shr _ hk, sm]
theorem r19 (G : Geo σ b) {d s occ : Int} (h0 : 0 ≤ d) (h1 : d < 8) (h2 : -1 ≤ s) (h3 : s < b.n) : callF prog (n + 2) 19 [.ref b.g, .int d, .int s, .int occ] σ = some (.int (rayA b d s occ), σ) := by
  rw [call_eq]
  show Option.bind (evSs (callF prog (n + 1)) F19.body [some (.ref b.g), some (.int d), some (.int s), some (.int occ), none, none, none] σ) _ = _
  unfold F19
  rw [ss_n3 (loc' := [some (.ref b.g), some (.int d), some (.int s), some (.int occ), some (.int (b.ray d s)), none, none]) (σ' := σ) (by simp [qc1, qa17, qa16, ↓la0, ↓la1, ↓la2, ↓la3, ↓la4, ↓la5, ↓la6, ↓la7, ↓la8, ↓la9, ↓la10, ↓la11, ↓la12, ↓la13, qa1, G.rays, G.rd d h0 h1, G.ray d s h0 h1 h2 h3]),
    ss_n3 (loc' := [some (.ref b.g), some (.int d), some (.int s), some (.int occ), some (.int (b.ray d s)), some (.int (band (b.ray d s) occ)), none]) (σ' := σ) (by simp [qc1, qa6, ↓la0, ↓la1, ↓la2, ↓la3, ↓la4, ↓la5, ↓la6, ↓la7, ↓la8, ↓la9, ↓la10, ↓la11, ↓la12, ↓la13, qa1, bv_int, b_and])]
  by_cases hz : band (b.ray d s) occ = 0
  · rw [ifs_r3 (v := .bool true) (w := .int (b.ray d s)) (by simp [qa8, ↓la0, ↓la1, ↓la2, ↓la3, ↓la4, ↓la5, ↓la6, ↓la7, ↓la8, ↓la9, ↓la10, ↓la11, ↓la12, ↓la13, qa1, qa2, cmpV, cmpI, hz]) rfl (by simp [↓la0, ↓la1, ↓la2, ↓la3, ↓la4, ↓la5, ↓la6, ↓la7, ↓la8, ↓la9, ↓la10, ↓la11, ↓la12, ↓la13, qa1])]
    simp [rayA, rayS, hz]
  rw [ss_n3 (ifs_f3 (v := .bool false) (by simp [qa8, ↓la0, ↓la1, ↓la2, ↓la3, ↓la4, ↓la5, ↓la6, ↓la7, ↓la8, ↓la9, ↓la10, ↓la11, ↓la12, ↓la13, qa1, qa2, cmpV, cmpI, hz]) rfl)]
  by_cases hg : grow d = true
  · rw [ifs_r3 (v := .bool true) (w := .int (band (b.ray d s) (bxor (band (b.ray d s) occ) (band (b.ray d s) occ - 1)))) (by simp [qa19, qb1, qb2, ↓la0, ↓la1, ↓la2, ↓la3, ↓la4, ↓la5, ↓la6, ↓la7, ↓la8, ↓la9, ↓la10, ↓la11, ↓la12, ↓la13, qa1, r11 n σ d h0 h1, hg]) rfl (by simp [qa6, ↓la0, ↓la1, ↓la2, ↓la3, ↓la4, ↓la5, ↓la6, ↓la7, ↓la8, ↓la9, ↓la10, ↓la11, ↓la12, ↓la13, qa1, qa2, bv_int, b_and, b_xor, b_sub])]
    simp [rayA, rayS, hz, hg]
  rw [ss_n3 (ifs_f3 (v := .bool false) (by simp [qa19, qb1, qb2, ↓la0, ↓la1, ↓la2, ↓la3, ↓la4, ↓la5, ↓la6, ↓la7, ↓la8, ↓la9, ↓la10, ↓la11, ↓la12, ↓la13, qa1, r11 n σ d h0 h1, hg]) rfl)]
  rw [ss_n3 (loc' := [some (.ref b.g), some (.int d), some (.int s), some (.int occ), some (.int (b.ray d s)), some (.int (band (b.ray d s) occ)), some (.int (shr (band (b.ray d s) occ) 1))]) (σ' := σ) (by simp [qc1, qa6, ↓la0, ↓la1, ↓la2, ↓la3, ↓la4, ↓la5, ↓la6, ↓la7, ↓la8, ↓la9, ↓la10, ↓la11, ↓la12, ↓la13, qa1, qa2, bv_int, b_shr]),
    ss_n3 (sm_step (by decide)), ss_n3 (sm_step (by decide)), ss_n3 (sm_step (by decide)), ss_n3 (sm_step (by decide)), ss_n3 (sm_step (by decide)), ss_n3 (sm_step (by decide))]
  simp [qd2, qc15, qa6, qa7, ↓la0, ↓la1, ↓la2, ↓la3, ↓la4, ↓la5, ↓la6, ↓la7, ↓la8, ↓la9, ↓la10, ↓la11, ↓la12, ↓la13, qa1, qa2, bv_int, b_and, unV, rayA, rayS, beh, hz, hg]
theorem Sane.rayA (S : Sane b) {d s occ : Int} (h0 : 0 ≤ d) (h1 : d < 8) (h2 : -1 ≤ s) (h3 : s < b.n) : Bn b.n (rayA b d s occ) := by
  have h := S.ray d s h0 h1 h2 h3
  unfold Mine.Law.rayA rayS
  split
  · exact h
  · split
    · exact h.and _
    · exact h.and _
noncomputable def rookA (b : B) (s occ : Int) : Int := bor (bor (bor (bor 0 (rayA b 0 s occ)) (rayA b 1 s occ)) (rayA b 2 s occ)) (rayA b 3 s occ)
noncomputable def bishA (b : B) (s occ : Int) : Int := bor (bor (bor (bor 0 (rayA b 4 s occ)) (rayA b 5 s occ)) (rayA b 6 s occ)) (rayA b 7 s occ)
theorem rk_turn (G : Geo σ b) {d s occ m : Int} {o : Option MV} (h0 : 0 ≤ d) (h1 : d < 8) (h2 : -1 ≤ s) (h3 : s < b.n) :
    evSs (callF prog (n + 2)) (.cons (.augN 3 .BitOr (.call 19 (.cons (.loc 0) (.cons (.loc 4) (.cons (.loc 1) (.cons (.loc 2) .nil)))))) .nil) ([some (.ref b.g), some (.int s), some (.int occ), some (.int m), o].set 4 (some (.int d))) σ =
      some (.next, [some (.ref b.g), some (.int s), some (.int occ), some (.int (bor m (rayA b d s occ))), some (.int d)], σ) := by
  simp [qd1, qd2, qc6, qa19, ↓la0, ↓la1, ↓la2, ↓la3, ↓la4, ↓la5, ↓la6, ↓la7, ↓la8, ↓la9, ↓la10, ↓la11, ↓la12, ↓la13, qa1, qb1, qb2, ba_int, b_or, r19 (n := n) G (occ := occ) h0 h1 h2 h3]
theorem r20 (G : Geo σ b) {s occ : Int} (h2 : -1 ≤ s) (h3 : s < b.n) : callF prog (n + 3) 20 [.ref b.g, .int s, .int occ] σ = some (.int (rookA b s occ), σ) := by
  rw [call_eq]
  show Option.bind (evSs (callF prog (n + 2)) F20.body [some (.ref b.g), some (.int s), some (.int occ), none, none] σ) _ = _
  unfold F20
  rw [ss_n3 (loc' := [some (.ref b.g), some (.int s), some (.int occ), some (.int 0), none]) (σ' := σ) (by rw [qc1, qa2]; rfl),
    ss_n3 (loc' := [some (.ref b.g), some (.int s), some (.int occ), some (.int (rookA b s occ)), some (.int 3)]) (σ' := σ) (by
      rw [qc12, qa2]
      show forN 4 _ [.int 0, .int 1, .int 2, .int 3] _ σ = _
      rw [for_3 (rk_turn G (by decide) (by decide) h2 h3), for_3 (rk_turn G (by decide) (by decide) h2 h3), for_3 (rk_turn G (by decide) (by decide) h2 h3), for_3 (rk_turn G (by decide) (by decide) h2 h3)]
      rfl), qd2, qc15, qa1]
  rfl
theorem r21 (G : Geo σ b) {s occ : Int} (h2 : -1 ≤ s) (h3 : s < b.n) : callF prog (n + 3) 21 [.ref b.g, .int s, .int occ] σ = some (.int (bishA b s occ), σ) := by
  rw [call_eq]
  show Option.bind (evSs (callF prog (n + 2)) F21.body [some (.ref b.g), some (.int s), some (.int occ), none, none] σ) _ = _
  unfold F21
  rw [ss_n3 (loc' := [some (.ref b.g), some (.int s), some (.int occ), some (.int 0), none]) (σ' := σ) (by rw [qc1, qa2]; rfl),
    ss_n3 (loc' := [some (.ref b.g), some (.int s), some (.int occ), some (.int (bishA b s occ)), some (.int 7)]) (σ' := σ) (by
      rw [qc13, qa2]
      show forN 4 _ [.int 4, .int 5, .int 6, .int 7] _ σ = _
      rw [for_3 (rk_turn G (by decide) (by decide) h2 h3), for_3 (rk_turn G (by decide) (by decide) h2 h3), for_3 (rk_turn G (by decide) (by decide) h2 h3), for_3 (rk_turn G (by decide) (by decide) h2 h3)]
      rfl), qd2, qc15, qa1]
  rfl
theorem Sane.rook (S : Sane b) {s occ : Int} (h2 : -1 ≤ s) (h3 : s < b.n) : Bn b.n (rookA b s occ) :=
  (((Bn.z.or (S.rayA (by decide) (by decide) h2 h3)).or (S.rayA (by decide) (by decide) h2 h3)).or (S.rayA (by decide) (by decide) h2 h3)).or (S.rayA (by decide) (by decide) h2 h3)
theorem Sane.bish (S : Sane b) {s occ : Int} (h2 : -1 ≤ s) (h3 : s < b.n) : Bn b.n (bishA b s occ) :=
  (((Bn.z.or (S.rayA (by decide) (by decide) h2 h3)).or (S.rayA (by decide) (by decide) h2 h3)).or (S.rayA (by decide) (by decide) h2 h3)).or (S.rayA (by decide) (by decide) h2 h3)
theorem r22 (G : Geo σ b) {s occ : Int} (h2 : -1 ≤ s) (h3 : s < b.n) : callF prog (n + 4) 22 [.ref b.g, .int s, .int occ] σ = some (.int (bor (rookA b s occ) (bishA b s occ)), σ) := by
  rw [call_eq]
  simp [pg22, runFn, F22, qd1, qd2, qc1, qc2, qc3, qc4, qc5, qc6, qc7, qc8, qc9, qc10, qc11, qc12, qc13, qc14, qc15, qc16, qc17, qc18, ↓la0, ↓la1, ↓la2, ↓la3, ↓la4, ↓la5, ↓la6, ↓la7, ↓la8, ↓la9, ↓la10, ↓la11, ↓la12, ↓la13, qa1, qa2, qa3, qa4, qa5, qa6, qa7, qa8, qa9, qa10, qa11, qa12, qa13, qa14, qa15, qa16, qa17, qa18, qa19, qa20, qa21, qa22, qa23, qa24, qa25, qa26, qa27, qa28, qa29, qb1, qb2, bv_int, b_or, r20 (n := n) G (occ := occ) h2 h3, r21 (n := n) G (occ := occ) h2 h3]
end
end Mine.Law

/-! ## P4 -/
namespace Mine.Law
open PySem PyProof.Rows
section
variable {σ : Hp} {b : B} {n P : Nat}

theorem gl0 : globV 0 = some (.int 0) := rfl
theorem gl1 : globV 1 = some (.int 1) := rfl
theorem gl2 : globV 2 = some (.int 1) := rfl
theorem gl3 : globV 3 = some (.int 2) := rfl
theorem gl4 : globV 4 = some (.int 3) := rfl
theorem gl5 : globV 5 = some (.int 4) := rfl
theorem gl6 : globV 6 = some (.int 5) := rfl
theorem gl7 : globV 7 = some (.int 6) := rfl
theorem gl9 : globV 9 = some (.int 0) := rfl
theorem gl10 : globV 10 = some (.int 1) := rfl
theorem gl11 : globV 11 = some (.int 2) := rfl
theorem gl12 : globV 12 = some (.int 3) := rfl

theorem ss_n4 {Γ : Gam} {s : S} {r : Ss} {loc loc' : Loc} {σ σ' : Hp} (h : evS Γ s loc σ = some (.next, loc', σ')) : evSs Γ (.cons s r) loc σ = evSs Γ r loc' σ' := by rw [qd2, h]; rfl
theorem ifs_f {Γ : Gam} {c : E} {t : Ss} {loc : Loc} {σ : Hp} {v : MV} (h : evE Γ loc c σ = some (v, σ)) (hv : tr v = some false) : evS Γ (.ifs c t .nil) loc σ = some (.next, loc, σ) := by rw [qc10, h]; simp [hv, qd1]
theorem ifs_t {Γ : Gam} {c : E} {t e : Ss} {loc : Loc} {σ : Hp} {v : MV} (h : evE Γ loc c σ = some (v, σ)) (hv : tr v = some true) : evS Γ (.ifs c t e) loc σ = evSs Γ t loc σ := by rw [qc10, h]; simp [hv]
theorem cmp_kg {Γ : Gam} {loc : Loc} {σ : Hp} {i g : Nat} {k m : Int} (hl : loc[i]?.join = some (.int k)) (hg : globV g = some (.int m)) : evE Γ loc (.cmp .Eq (.loc i) (.glob g)) σ = some (.bool (k == m), σ) := by simp [qa8, ↓la0, ↓la1, ↓la2, ↓la3, ↓la4, ↓la5, ↓la6, ↓la7, ↓la8, ↓la9, ↓la10, ↓la11, ↓la12, ↓la13, qa1, qa5, hl, hg, cmpV, cmpI]
theorem kg_t {Γ : Gam} {loc : Loc} {σ : Hp} {i g : Nat} {k m : Int} {e : E} {r : Ss} {v : MV} (hl : loc[i]?.join = some (.int k)) (hg : globV g = some (.int m)) (h : k = m) (he : evE Γ loc e σ = some (v, σ)) :
    evSs Γ (.cons (.ifs (.cmp .Eq (.loc i) (.glob g)) (.cons (.ret e) .nil) .nil) r) loc σ = some (.ret v, loc, σ) := by
  rw [qd2, ifs_t (v := .bool true) (by rw [cmp_kg hl hg, beq_iff_eq.mpr h]) rfl, qd2, qc15, he]
  rfl
theorem kg_f {Γ : Gam} {loc : Loc} {σ : Hp} {i g : Nat} {k m : Int} {t r : Ss} (hl : loc[i]?.join = some (.int k)) (hg : globV g = some (.int m)) (h : ¬ k = m) : evSs Γ (.cons (.ifs (.cmp .Eq (.loc i) (.glob g)) t .nil) r) loc σ = evSs Γ r loc σ :=
  ss_n4 (ifs_f (v := .bool false) (by rw [cmp_kg hl hg, beq_eq_false_iff_ne.mpr h]) rfl)
noncomputable def slidA (b : B) (k s occ : Int) : Int := if k = 3 then bishA b s occ else if k = 4 then rookA b s occ else if k = 5 then bor (rookA b s occ) (bishA b s occ) else 0
theorem r23 (G : Geo σ b) {k s occ : Int} (h2 : -1 ≤ s) (h3 : s < b.n) : callF prog (n + 5) 23 [.ref b.g, .int k, .int s, .int occ] σ = some (.int (slidA b k s occ), σ) := by
  rw [call_eq]
  show Option.bind (evSs (callF prog (n + 4)) F23.body [some (.ref b.g), some (.int k), some (.int s), some (.int occ)] σ) _ = _
  unfold F23
  by_cases k3 : k = 3
  · rw [kg_t rfl gl4 k3 (by simp [qa19, ↓la0, ↓la1, ↓la2, ↓la3, ↓la4, ↓la5, ↓la6, ↓la7, ↓la8, ↓la9, ↓la10, ↓la11, ↓la12, ↓la13, qa1, qb1, qb2, r21 (n := n + 1) G (occ := occ) h2 h3]; rfl)]
    simp [slidA, k3]
  rw [kg_f rfl gl4 k3]
  by_cases k4 : k = 4
  · rw [kg_t rfl gl5 k4 (by simp [qa19, ↓la0, ↓la1, ↓la2, ↓la3, ↓la4, ↓la5, ↓la6, ↓la7, ↓la8, ↓la9, ↓la10, ↓la11, ↓la12, ↓la13, qa1, qb1, qb2, r20 (n := n + 1) G (occ := occ) h2 h3]; rfl)]
    simp [slidA, k4]
  rw [kg_f rfl gl5 k4]
  by_cases k5 : k = 5
  · rw [kg_t rfl gl6 k5 (by simp [qa19, ↓la0, ↓la1, ↓la2, ↓la3, ↓la4, ↓la5, ↓la6, ↓la7, ↓la8, ↓la9, ↓la10, ↓la11, ↓la12, ↓la13, qa1, qb1, qb2, r22 (n := n) G (occ := occ) h2 h3]; rfl)]
    simp [slidA, k5]
  rw [kg_f rfl gl6 k5]
  simp [qd2, qc15, qa2, slidA, k3, k4, k5]
theorem Sane.slid (S : Sane b) {k s occ : Int} (h2 : -1 ≤ s) (h3 : s < b.n) : Bn b.n (slidA b k s occ) := by
  unfold slidA
  split
  · exact S.bish h2 h3
  split
  · exact S.rook h2 h3
  split
  · exact (S.rook h2 h3).or (S.bish h2 h3)
  · exact Bn.z
noncomputable def pieceA (b : B) (c k s occ : Int) : Int := if k = 1 then b.pawn c s else if k = 2 then b.knight s else if k = 6 then b.king s else slidA b k s occ
theorem r24 (G : Geo σ b) {c k s occ : Int} (h0 : 0 ≤ c) (h1 : c < 2) (h2 : 0 ≤ s) (h3 : s < b.n) : callF prog (n + 6) 24 [.ref b.g, .int c, .int k, .int s, .int occ] σ = some (.int (pieceA b c k s occ), σ) := by
  rw [call_eq]
  show Option.bind (evSs (callF prog (n + 5)) F24.body [some (.ref b.g), some (.int c), some (.int k), some (.int s), some (.int occ)] σ) _ = _
  unfold F24
  by_cases k3 : k = 1
  · rw [kg_t rfl gl2 k3 (by simp [qa17, qa16, ↓la0, ↓la1, ↓la2, ↓la3, ↓la4, ↓la5, ↓la6, ↓la7, ↓la8, ↓la9, ↓la10, ↓la11, ↓la12, ↓la13, qa1, G.pawns, G.pw c h0 h1, G.pawn c s h0 h1 h2 h3]; rfl)]
    simp [pieceA, k3]
  rw [kg_f rfl gl2 k3]
  by_cases k4 : k = 2
  · rw [kg_t rfl gl3 k4 (by simp [qa17, qa16, ↓la0, ↓la1, ↓la2, ↓la3, ↓la4, ↓la5, ↓la6, ↓la7, ↓la8, ↓la9, ↓la10, ↓la11, ↓la12, ↓la13, qa1, G.knights, G.knight s h2 h3]; rfl)]
    simp [pieceA, k4]
  rw [kg_f rfl gl3 k4]
  by_cases k5 : k = 6
  · rw [kg_t rfl gl7 k5 (by simp [qa17, qa16, ↓la0, ↓la1, ↓la2, ↓la3, ↓la4, ↓la5, ↓la6, ↓la7, ↓la8, ↓la9, ↓la10, ↓la11, ↓la12, ↓la13, qa1, G.kings, G.king s h2 h3]; rfl)]
    simp [pieceA, k5]
  rw [kg_f rfl gl7 k5]
  simp [qd2, qc15, qa19, ↓la0, ↓la1, ↓la2, ↓la3, ↓la4, ↓la5, ↓la6, ↓la7, ↓la8, ↓la9, ↓la10, ↓la11, ↓la12, ↓la13, qa1, qb1, qb2, r23 (n := n) G (occ := occ) (k := k) (s := s) (by omega) h3, pieceA, k3, k4, k5]
theorem Sane.piece (S : Sane b) {c k s occ : Int} (h0 : 0 ≤ c) (h1 : c < 2) (h2 : 0 ≤ s) (h3 : s < b.n) : Bn b.n (pieceA b c k s occ) := by
  unfold pieceA
  split
  · exact S.pawn c s h0 h1 h2 h3
  split
  · exact S.knight s h2 h3
  split
  · exact S.king s h2 h3
  · exact S.slid (by omega) h3

/-! direction and between -/
noncomputable def dirT (b : B) (x y d : Int) : Bool := band (shr (b.ray d x) y) 1 != 0
noncomputable def ds8 : List Int := [0, 1, 2, 3, 4, 5, 6, 7]
noncomputable def dirF (b : B) (x y : Int) : Int := (ds8.find? (dirT b x y)).getD (-1)
theorem dirF_cases (b : B) (x y : Int) : -1 ≤ dirF b x y ∧ dirF b x y < 8 := by
  unfold dirF
  cases h : ds8.find? (dirT b x y) with
  | none => simp
  | some d =>
    have := List.mem_of_find?_eq_some h
    simp only [ds8, List.mem_cons, List.not_mem_nil, or_false] at this
    simp only [Option.getD_some]
    omega
theorem for_cons_n {x : Nat} {f : Loc → Hp → Out} {v : MV} {vs : List MV} {loc loc' : Loc} {σ σ' : Hp} (h : f (loc.set x (some v)) σ = some (.next, loc', σ')) : forN x f (v :: vs) loc σ = forN x f vs loc' σ' := by simp [forN, h]
theorem for_cons_r {x : Nat} {f : Loc → Hp → Out} {v w : MV} {vs : List MV} {loc loc' : Loc} {σ σ' : Hp} (h : f (loc.set x (some v)) σ = some (.ret w, loc', σ')) : forN x f (v :: vs) loc σ = some (.ret w, loc', σ') := by simp [forN, h]

theorem dir_turn {Γ : Gam} (G : Geo σ b) {x y : Int} {ov : Option MV} (h2 : -1 ≤ x) (h3 : x < b.n) (hy : 0 ≤ y) {d : Int} (h0 : 0 ≤ d) (h1 : d < 8) :
    evSs Γ (.cons (.ifs (.bin .BitAnd (.bin .RShift (.idx (.idx (.attr (.loc 0) 8) (.loc 3)) (.loc 1)) (.loc 2)) (.int 1)) (.cons (.ret (.loc 3)) .nil) .nil) .nil) ([some (.ref b.g), some (.int x), some (.int y), ov].set 3 (some (.int d))) σ =
      if dirT b x y d = true then some (.ret (.int d), [some (.ref b.g), some (.int x), some (.int y), some (.int d)], σ) else some (.next, [some (.ref b.g), some (.int x), some (.int y), some (.int d)], σ) := by
  by_cases ht : dirT b x y d = true
  · have ht' := ht
    unfold dirT at ht'
    simp [qd1, qd2, qc1, qc2, qc3, qc4, qc5, qc6, qc7, qc8, qc9, qc10, qc11, qc12, qc13, qc14, qc15, qc16, qc17, qc18, ↓la0, ↓la1, ↓la2, ↓la3, ↓la4, ↓la5, ↓la6, ↓la7, ↓la8, ↓la9, ↓la10, ↓la11, ↓la12, ↓la13, qa1, qa2, qa3, qa4, qa5, qa6, qa7, qa8, qa9, qa10, qa11, qa12, qa13, qa14, qa15, qa16, qa17, qa18, qa19, qa20, qa21, qa22, qa23, qa24, qa25, qa26, qa27, qa28, qa29, G.rays, G.rd d h0 h1, G.ray d x h0 h1 h2 h3, bv_int, b_shr _ hy, b_and, tr, ht, ht']
  · have ht' := ht
    unfold dirT at ht'
    simp only [Bool.not_eq_true] at ht'
    simp [qd1, qd2, qc1, qc2, qc3, qc4, qc5, qc6, qc7, qc8, qc9, qc10, qc11, qc12, qc13, qc14, qc15, qc16, qc17, qc18, ↓la0, ↓la1, ↓la2, ↓la3, ↓la4, ↓la5, ↓la6, ↓la7, ↓la8, ↓la9, ↓la10, ↓la11, ↓la12, ↓la13, qa1, qa2, qa3, qa4, qa5, qa6, qa7, qa8, qa9, qa10, qa11, qa12, qa13, qa14, qa15, qa16, qa17, qa18, qa19, qa20, qa21, qa22, qa23, qa24, qa25, qa26, qa27, qa28, qa29, G.rays, G.rd d h0 h1, G.ray d x h0 h1 h2 h3, bv_int, b_shr _ hy, b_and, tr, ht, ht']
theorem for_find {i : Nat} {f : Loc → Hp → Out} {p : Int → Bool} {val : Int → MV} {loc : Option MV → Loc} : ∀ (ds : List Int) (ov : Option MV),
    (∀ d ∈ ds, ∀ ov, f ((loc ov).set i (some (.int d))) σ = if p d = true then some (.ret (val d), loc (some (.int d)), σ) else some (.next, loc (some (.int d)), σ)) →
    ∃ ov', forN i f (ds.map MV.int) (loc ov) σ = some ((match ds.find? p with | some d => .ret (val d) | none => .next), loc ov', σ)
  | [], ov, _ => ⟨ov, rfl⟩
  | d :: ds, ov, h => by
    by_cases hp : p d = true
    · refine ⟨some (.int d), ?_⟩
      rw [List.map_cons, for_cons_r (by rw [h d (.head _) ov, if_pos hp]), List.find?_cons, hp]
    · obtain ⟨ov', ih⟩ := for_find ds (some (.int d)) fun e he ov => h e (.tail _ he) ov
      refine ⟨ov', ?_⟩
      rw [List.map_cons, for_cons_n (by rw [h d (.head _) ov, if_neg hp]), ih, List.find?_cons]
      simp [hp]
theorem r25 (G : Geo σ b) {x y : Int} (h2 : -1 ≤ x) (h3 : x < b.n) (hy : 0 ≤ y) : callF prog (n + 1) 25 [.ref b.g, .int x, .int y] σ = some (.int (dirF b x y), σ) := by
  obtain ⟨ov', main⟩ := for_find (σ := σ) (i := 3) (f := evSs (callF prog n) (.cons (.ifs (.bin .BitAnd (.bin .RShift (.idx (.idx (.attr (.loc 0) 8) (.loc 3)) (.loc 1)) (.loc 2)) (.int 1)) (.cons (.ret (.loc 3)) .nil) .nil) .nil))
    (p := dirT b x y) (val := MV.int) (loc := fun ov => [some (.ref b.g), some (.int x), some (.int y), ov]) ds8 none (fun d hd ov => by
      simp only [ds8, List.mem_cons, List.not_mem_nil, or_false] at hd
      exact dir_turn G h2 h3 hy (by omega) (by omega))
  have hr : rangeUp 0 (Int.toNat 8) = ds8.map MV.int := rfl
  rw [call_eq]
  show runFn (callF prog n) F25 _ σ = _
  unfold runFn
  show Option.bind (evSs (callF prog n) F25.body [some (.ref b.g), some (.int x), some (.int y), none] σ) _ = _
  have hb : evSs (callF prog n) F25.body [some (.ref b.g), some (.int x), some (.int y), none] σ = some (.ret (.int (dirF b x y)), [some (.ref b.g), some (.int x), some (.int y), ov'], σ) := by
    unfold F25
    simp only [qd1, qd2]
    rw [show evS (callF prog n) (.forR1 3 (.int 8) _) [some (.ref b.g), some (.int x), some (.int y), none] σ = _ from main]
    unfold dirF
    cases ds8.find? (dirT b x y) with
    | none => simp [qd1, qd2, qc1, qc2, qc3, qc4, qc5, qc6, qc7, qc8, qc9, qc10, qc11, qc12, qc13, qc14, qc15, qc16, qc17, qc18, ↓la0, ↓la1, ↓la2, ↓la3, ↓la4, ↓la5, ↓la6, ↓la7, ↓la8, ↓la9, ↓la10, ↓la11, ↓la12, ↓la13, qa1, qa2, qa3, qa4, qa5, qa6, qa7, qa8, qa9, qa10, qa11, qa12, qa13, qa14, qa15, qa16, qa17, qa18, qa19, qa20, qa21, qa22, qa23, qa24, qa25, qa26, qa27, qa28, qa29, unV]
    | some d => simp
  rw [hb]
  rfl
noncomputable def betF (b : B) (x y : Int) : Int := if dirF b x y < 0 then 0 else band (b.ray (dirF b x y) x) (b.ray (bxor (dirF b x y) 2) y)
theorem xor2 : ∀ d : Int, 0 ≤ d → d < 8 → 0 ≤ bxor d 2 ∧ bxor d 2 < 8
  | .ofNat 0, _, _ => by decide
  | .ofNat 1, _, _ => by decide
  | .ofNat 2, _, _ => by decide
  | .ofNat 3, _, _ => by decide
  | .ofNat 4, _, _ => by decide
  | .ofNat 5, _, _ => by decide
  | .ofNat 6, _, _ => by decide
  | .ofNat 7, _, _ => by decide
  | .ofNat (k + 8), _, h => by simp only [Int.ofNat_eq_natCast] at h; omega
  | .negSucc k, h, _ => by simp at h
theorem r26 (G : Geo σ b) {x y : Int} (h2 : -1 ≤ x) (h3 : x < b.n) (hy : 0 ≤ y) (hy' : y < b.n) : callF prog (n + 2) 26 [.ref b.g, .int x, .int y] σ = some (.int (betF b x y), σ) := by
  rw [call_eq]
  have hd := dirF_cases b x y
  show Option.bind (evSs (callF prog (n + 1)) F26.body [some (.ref b.g), some (.int x), some (.int y), none] σ) _ = _
  unfold F26
  rw [ss_n4 (loc' := [some (.ref b.g), some (.int x), some (.int y), some (.int (dirF b x y))]) (σ' := σ) (by simp [qc1, qa19, qb1, qb2, ↓la0, ↓la1, ↓la2, r25 (n := n) G h2 h3 hy])]
  by_cases hz : dirF b x y < 0
  · rw [qd2, ifs_t (v := .bool true) (by simp [qa8, ↓la3, qa2, cmpV, cmpI, hz]) rfl]
    simp [qd2, qc15, qa2, betF, hz]
  · have hx := xor2 (dirF b x y) (by omega) hd.2
    rw [ss_n4 (ifs_f (v := .bool false) (by simp [qa8, ↓la3, qa2, cmpV, cmpI, hz]) rfl)]
    simp [qd2, qc15, qa6, qa17, qa16, qa2, ↓la0, ↓la1, ↓la2, ↓la3, betF, hz, G.rays, G.rd _ (Int.not_lt.mp hz) hd.2, G.ray _ x (Int.not_lt.mp hz) hd.2 h2 h3, bv_int, b_xor, b_and, G.rd _ hx.1 hx.2, G.ray _ y hx.1 hx.2 (by omega) hy']
theorem Sane.bet (S : Sane b) {x y : Int} (h2 : -1 ≤ x) (h3 : x < b.n) : Bn b.n (betF b x y) := by
  unfold betF
  have hd := dirF_cases b x y
  split
  · exact Bn.z
  · exact (S.ray _ _ (by omega) hd.2 h2 h3).and _

/-! the masks of a position -/
theorem r28 (H : Pos σ P b) : callF prog (n + 1) 28 [.ref P] σ = some (.int (bor (b.sd 0) (b.sd 1)), σ) := by
  simp [call_eq, pg28, runFn, F28, qd1, qd2, qc1, qc2, qc3, qc4, qc5, qc6, qc7, qc8, qc9, qc10, qc11, qc12, qc13, qc14, qc15, qc16, qc17, qc18, ↓la0, ↓la1, ↓la2, ↓la3, ↓la4, ↓la5, ↓la6, ↓la7, ↓la8, ↓la9, ↓la10, ↓la11, ↓la12, ↓la13, qa1, qa2, qa3, qa4, qa5, qa6, qa7, qa8, qa9, qa10, qa11, qa12, qa13, qa14, qa15, qa16, qa17, qa18, qa19, qa20, qa21, qa22, qa23, qa24, qa25, qa26, qa27, qa28, qa29, gl0, gl1, H.sides, H.sd 0 (by decide) (by decide), H.sd 1 (by decide) (by decide), bv_int, b_or]
noncomputable def kingF (b : B) (c : Int) : Int := low (band (b.sd c) (b.kd 6))
theorem r29 (H : Pos σ P b) (S : Sane b) (M : Men b) {c : Int} (h0 : 0 ≤ c) (h1 : c < 2) : callF prog (n + 3) 29 [.ref P, .int c] σ = some (.int (kingF b c), σ) := by
  have hb : Bn 32 (band (b.sd c) (b.kd 6)) := ((M.sd c h0 h1).and _).mono (by have := S.n20; omega)
  rw [call_eq]
  simp [pg29, runFn, F29, qd1, qd2, qc1, qc2, qc3, qc4, qc5, qc6, qc7, qc8, qc9, qc10, qc11, qc12, qc13, qc14, qc15, qc16, qc17, qc18, ↓la0, ↓la1, ↓la2, ↓la3, ↓la4, ↓la5, ↓la6, ↓la7, ↓la8, ↓la9, ↓la10, ↓la11, ↓la12, ↓la13, qa1, qa2, qa3, qa4, qa5, qa6, qa7, qa8, qa9, qa10, qa11, qa12, qa13, qa14, qa15, qa16, qa17, qa18, qa19, qa20, qa21, qa22, qa23, qa24, qa25, qa26, qa27, qa28, qa29, qb1, qb2, gl7, H.sides, H.kinds, H.sd c h0 h1, H.kd 6 (by decide) (by decide), bv_int, b_and, r9 n σ hb, kingF]
theorem king_range (S : Sane b) (M : Men b) {c : Int} (h0 : 0 ≤ c) (h1 : c < 2) : -1 ≤ kingF b c ∧ kingF b c < b.n := by
  have hB : Bn b.n (band (b.sd c) (b.kd 6)) := (M.sd c h0 h1).and _
  have hb : Bn 32 (band (b.sd c) (b.kd 6)) := hB.mono (by have := S.n20; omega)
  have h12 := S.n12
  rcases low_bit hb with e | ⟨i, e, ht⟩
  · unfold kingF; omega
  · have := hB.bit ht
    unfold kingF; omega
noncomputable def strF (b : B) : Int := bor (b.kd 4) (b.kd 5)
noncomputable def slaF (b : B) : Int := bor (b.kd 3) (b.kd 5)
theorem r30 (H : Pos σ P b) : callF prog (n + 1) 30 [.ref P] σ = some (.int (strF b), σ) := by
  simp [call_eq, pg30, runFn, F30, qd1, qd2, qc1, qc2, qc3, qc4, qc5, qc6, qc7, qc8, qc9, qc10, qc11, qc12, qc13, qc14, qc15, qc16, qc17, qc18, ↓la0, ↓la1, ↓la2, ↓la3, ↓la4, ↓la5, ↓la6, ↓la7, ↓la8, ↓la9, ↓la10, ↓la11, ↓la12, ↓la13, qa1, qa2, qa3, qa4, qa5, qa6, qa7, qa8, qa9, qa10, qa11, qa12, qa13, qa14, qa15, qa16, qa17, qa18, qa19, qa20, qa21, qa22, qa23, qa24, qa25, qa26, qa27, qa28, qa29, gl5, gl6, H.kinds, H.kd 4 (by decide) (by decide), H.kd 5 (by decide) (by decide), bv_int, b_or, strF]
theorem r31 (H : Pos σ P b) : callF prog (n + 1) 31 [.ref P] σ = some (.int (slaF b), σ) := by
  simp [call_eq, pg31, runFn, F31, qd1, qd2, qc1, qc2, qc3, qc4, qc5, qc6, qc7, qc8, qc9, qc10, qc11, qc12, qc13, qc14, qc15, qc16, qc17, qc18, ↓la0, ↓la1, ↓la2, ↓la3, ↓la4, ↓la5, ↓la6, ↓la7, ↓la8, ↓la9, ↓la10, ↓la11, ↓la12, ↓la13, qa1, qa2, qa3, qa4, qa5, qa6, qa7, qa8, qa9, qa10, qa11, qa12, qa13, qa14, qa15, qa16, qa17, qa18, qa19, qa20, qa21, qa22, qa23, qa24, qa25, qa26, qa27, qa28, qa29, gl4, gl6, H.kinds, H.kd 3 (by decide) (by decide), H.kd 5 (by decide) (by decide), bv_int, b_or, slaF]
noncomputable def pawF (b : B) (s c : Int) : Int := band (band (b.pawn (1 - c) s) (b.kd 1)) (b.sd c)
theorem r32 (G : Geo σ b) (H : Pos σ P b) {s c : Int} (h0 : 0 ≤ c) (h1 : c < 2) (h2 : 0 ≤ s) (h3 : s < b.n) : callF prog (n + 1) 32 [.ref P, .int s, .int c] σ = some (.int (pawF b s c), σ) := by
  simp [call_eq, pg32, runFn, F32, qd1, qd2, qc1, qc2, qc3, qc4, qc5, qc6, qc7, qc8, qc9, qc10, qc11, qc12, qc13, qc14, qc15, qc16, qc17, qc18, ↓la0, ↓la1, ↓la2, ↓la3, ↓la4, ↓la5, ↓la6, ↓la7, ↓la8, ↓la9, ↓la10, ↓la11, ↓la12, ↓la13, qa1, qa2, qa3, qa4, qa5, qa6, qa7, qa8, qa9, qa10, qa11, qa12, qa13, qa14, qa15, qa16, qa17, qa18, qa19, qa20, qa21, qa22, qa23, qa24, qa25, qa26, qa27, qa28, qa29, gl2, H.geo, H.kinds, H.sides, H.sd c h0 h1, H.kd 1 (by decide) (by decide), bv_int, b_and, b_sub, G.pawns, G.pw (1 - c) (by omega) (by omega), G.pawn (1 - c) s (by omega) (by omega) h2 h3, pawF]
noncomputable def stepF (b : B) (s c : Int) : Int := bor (pawF b s c) (band (bor (band (b.knight s) (b.kd 2)) (band (b.king s) (b.kd 6))) (b.sd c))
theorem r33 (G : Geo σ b) (H : Pos σ P b) {s c : Int} (h0 : 0 ≤ c) (h1 : c < 2) (h2 : 0 ≤ s) (h3 : s < b.n) : callF prog (n + 2) 33 [.ref P, .int s, .int c] σ = some (.int (stepF b s c), σ) := by
  rw [call_eq]
  show Option.bind (evSs (callF prog (n + 1)) F33.body [some (.ref P), some (.int s), some (.int c), none, none] σ) _ = _
  unfold F33
  rw [ss_n4 (loc' := [some (.ref P), some (.int s), some (.int c), some (.ref b.g), none]) (σ' := σ) (by simp [qc1, qa16, ↓la0, H.geo]),
    ss_n4 (loc' := [some (.ref P), some (.int s), some (.int c), some (.ref b.g), some (.int (band (b.knight s) (b.kd 2)))]) (σ' := σ) (by simp [qc1, qa6, qa17, qa16, ↓la3, ↓la1, ↓la0, qa5, gl3, H.kinds, H.kd 2 (by decide) (by decide), G.knights, G.knight s h2 h3, bv_int, b_and]),
    ss_n4 (loc' := [some (.ref P), some (.int s), some (.int c), some (.ref b.g), some (.int (bor (band (b.knight s) (b.kd 2)) (band (b.king s) (b.kd 6))))]) (σ' := σ) (by simp [qc6, qa6, qa17, qa16, ↓la3, ↓la1, ↓la0, qa5, gl7, H.kinds, H.kd 6 (by decide) (by decide), G.kings, G.king s h2 h3, bv_int, ba_int, b_and, b_or])]
  simp [qd2, qc15, qa6, qa19, qb1, qb2, qa17, qa16, ↓la4, ↓la2, ↓la1, ↓la0, r32 (n := n) G H h0 h1 h2 h3, H.sides, H.sd c h0 h1, bv_int, b_and, b_or, stepF]
noncomputable def lineF (b : B) (s occ : Int) : Int :=
  let h1 := if strF b = 0 then 0 else bor 0 (band (rookA b s occ) (strF b))
  if slaF b = 0 then h1 else bor h1 (band (bishA b s occ) (slaF b))
theorem r34 (G : Geo σ b) (H : Pos σ P b) {s occ : Int} (h2 : 0 ≤ s) (h3 : s < b.n) : callF prog (n + 4) 34 [.ref P, .int s, .int occ] σ = some (.int (lineF b s occ), σ) := by
  rw [call_eq]
  have hr := r20 (n := n) G (occ := occ) (s := s) (by omega) h3
  have hb := r21 (n := n) G (occ := occ) (s := s) (by omega) h3
  have q30 := r30 (n := n + 2) H
  have q31 := r31 (n := n + 2) H
  show Option.bind (evSs (callF prog (n + 3)) F34.body [some (.ref P), some (.int s), some (.int occ), none, none, none] σ) _ = _
  obtain ⟨f1, e1⟩ : ∃ f : Int, f = if strF b = 0 then 0 else bor 0 (band (rookA b s occ) (strF b)) := ⟨_, rfl⟩
  have e2 : lineF b s occ = if slaF b = 0 then f1 else bor f1 (band (bishA b s occ) (slaF b)) := by rw [e1]; rfl
  unfold F34
  rw [ss_n4 (loc' := [some (.ref P), some (.int s), some (.int occ), some (.int 0), none, none]) (σ' := σ) (by rw [qc1, qa2]; rfl),
    ss_n4 (loc' := [some (.ref P), some (.int s), some (.int occ), some (.int 0), some (.int (strF b)), none]) (σ' := σ) (by simp [qc1, qa19, qb1, qb2, ↓la0, ↓la1, ↓la2, ↓la3, ↓la4, ↓la5, ↓la6, ↓la7, ↓la8, ↓la9, ↓la10, ↓la11, ↓la12, ↓la13, qa1, q30]),
    ss_n4 (loc' := [some (.ref P), some (.int s), some (.int occ), some (.int f1), some (.int (strF b)), none]) (σ' := σ) (by
      rw [e1]
      by_cases z : strF b = 0
      · rw [if_pos z]; exact ifs_f (v := .int (strF b)) (by simp [↓la0, ↓la1, ↓la2, ↓la3, ↓la4, ↓la5, ↓la6, ↓la7, ↓la8, ↓la9, ↓la10, ↓la11, ↓la12, ↓la13, qa1]) (by simp [tr, z])
      · rw [if_neg z, ifs_t (v := .int (strF b)) (by simp [↓la0, ↓la1, ↓la2, ↓la3, ↓la4, ↓la5, ↓la6, ↓la7, ↓la8, ↓la9, ↓la10, ↓la11, ↓la12, ↓la13, qa1]) (by simp [tr, z])]
        simp [qd1, qd2, qc6, qa6, qa19, qa16, ↓la0, ↓la1, ↓la2, ↓la3, ↓la4, ↓la5, ↓la6, ↓la7, ↓la8, ↓la9, ↓la10, ↓la11, ↓la12, ↓la13, qa1, qb1, qb2, H.geo, hr, bv_int, ba_int, b_and, b_or]),
    ss_n4 (loc' := [some (.ref P), some (.int s), some (.int occ), some (.int f1), some (.int (strF b)), some (.int (slaF b))]) (σ' := σ) (by simp [qc1, qa19, qb1, qb2, ↓la0, ↓la1, ↓la2, ↓la3, ↓la4, ↓la5, ↓la6, ↓la7, ↓la8, ↓la9, ↓la10, ↓la11, ↓la12, ↓la13, qa1, q31]),
    ss_n4 (loc' := [some (.ref P), some (.int s), some (.int occ), some (.int (lineF b s occ)), some (.int (strF b)), some (.int (slaF b))]) (σ' := σ) (by
      rw [e2]
      by_cases z : slaF b = 0
      · rw [if_pos z]; exact ifs_f (v := .int (slaF b)) (by simp [↓la0, ↓la1, ↓la2, ↓la3, ↓la4, ↓la5, ↓la6, ↓la7, ↓la8, ↓la9, ↓la10, ↓la11, ↓la12, ↓la13, qa1]) (by simp [tr, z])
      · rw [if_neg z, ifs_t (v := .int (slaF b)) (by simp [↓la0, ↓la1, ↓la2, ↓la3, ↓la4, ↓la5, ↓la6, ↓la7, ↓la8, ↓la9, ↓la10, ↓la11, ↓la12, ↓la13, qa1]) (by simp [tr, z])]
        simp [qd1, qd2, qc6, qa6, qa19, qa16, ↓la0, ↓la1, ↓la2, ↓la3, ↓la4, ↓la5, ↓la6, ↓la7, ↓la8, ↓la9, ↓la10, ↓la11, ↓la12, ↓la13, qa1, qb1, qb2, H.geo, hb, bv_int, ba_int, b_and, b_or])]
  rw [qd2, qc15, qa1]
  rfl
noncomputable def attF (b : B) (s occ : Int) : Int := bor (bor (stepF b s 0) (stepF b s 1)) (lineF b s occ)
theorem r35 (G : Geo σ b) (H : Pos σ P b) {s occ : Int} (h2 : 0 ≤ s) (h3 : s < b.n) : callF prog (n + 5) 35 [.ref P, .int s, .int occ] σ = some (.int (attF b s occ), σ) := by
  rw [call_eq]
  simp [pg35, runFn, F35, qd1, qd2, qc1, qc2, qc3, qc4, qc5, qc6, qc7, qc8, qc9, qc10, qc11, qc12, qc13, qc14, qc15, qc16, qc17, qc18, ↓la0, ↓la1, ↓la2, ↓la3, ↓la4, ↓la5, ↓la6, ↓la7, ↓la8, ↓la9, ↓la10, ↓la11, ↓la12, ↓la13, qa1, qa2, qa3, qa4, qa5, qa6, qa7, qa8, qa9, qa10, qa11, qa12, qa13, qa14, qa15, qa16, qa17, qa18, qa19, qa20, qa21, qa22, qa23, qa24, qa25, qa26, qa27, qa28, qa29, qb1, qb2, gl0, gl1, r33 (n := n + 2) G H (c := 0) (by decide) (by decide) h2 h3, r33 (n := n + 2) G H (c := 1) (by decide) (by decide) h2 h3, r34 (n := n) G H (occ := occ) h2 h3, bv_int, b_or, attF]
theorem pawF_bn (S : Sane b) {s c : Int} (h0 : 0 ≤ c) (h1 : c < 2) (h2 : 0 ≤ s) (h3 : s < b.n) : Bn b.n (pawF b s c) := ((S.pawn (1 - c) s (by omega) (by omega) h2 h3).and _).and _
theorem stepF_bn (S : Sane b) {s c : Int} (h0 : 0 ≤ c) (h1 : c < 2) (h2 : 0 ≤ s) (h3 : s < b.n) : Bn b.n (stepF b s c) :=
  (pawF_bn S h0 h1 h2 h3).or ((((S.knight s h2 h3).and _).or ((S.king s h2 h3).and _)).and _)
theorem lineF_bn (S : Sane b) {s occ : Int} (h2 : 0 ≤ s) (h3 : s < b.n) : Bn b.n (lineF b s occ) := by
  have k1 : Bn b.n (if strF b = 0 then 0 else bor 0 (band (rookA b s occ) (strF b))) := by
    split
    · exact Bn.z
    · exact Bn.z.or ((S.rook (by omega) h3).and _)
  unfold lineF
  dsimp only
  split
  · exact k1
  · exact k1.or ((S.bish (by omega) h3).and _)
theorem attF_bn (S : Sane b) {s occ : Int} (h2 : 0 ≤ s) (h3 : s < b.n) : Bn b.n (attF b s occ) :=
  ((stepF_bn S (by decide) (by decide) h2 h3).or (stepF_bn S (by decide) (by decide) h2 h3)).or (lineF_bn S h2 h3)
noncomputable def snipF (b : B) (c : Int) : Int := band (bor (band (rookA b (kingF b c) 0) (strF b)) (band (bishA b (kingF b c) 0) (slaF b))) (b.sd (1 - c))
theorem r36 (G : Geo σ b) (H : Pos σ P b) (S : Sane b) (M : Men b) {c : Int} (h0 : 0 ≤ c) (h1 : c < 2) : callF prog (n + 4) 36 [.ref P, .int c] σ = some (.int (snipF b c), σ) := by
  rw [call_eq]
  have hk := king_range S M h0 h1
  show Option.bind (evSs (callF prog (n + 3)) F36.body [some (.ref P), some (.int c), none, none] σ) _ = _
  unfold F36
  rw [ss_n4 (loc' := [some (.ref P), some (.int c), some (.int (kingF b c)), none]) (σ' := σ) (by simp [qc1, qa19, qb1, qb2, ↓la0, ↓la1, r29 (n := n) H S M h0 h1]),
    ss_n4 (loc' := [some (.ref P), some (.int c), some (.int (kingF b c)), some (.int (band (rookA b (kingF b c) 0) (strF b)))]) (σ' := σ) (by simp [qc1, qa6, qa19, qb1, qb2, qa16, qa2, ↓la0, ↓la2, H.geo, r20 (n := n) G (occ := 0) hk.1 hk.2, r30 (n := n + 2) H, bv_int, b_and]),
    ss_n4 (loc' := [some (.ref P), some (.int c), some (.int (kingF b c)), some (.int (bor (band (rookA b (kingF b c) 0) (strF b)) (band (bishA b (kingF b c) 0) (slaF b))))]) (σ' := σ) (by simp [qc6, qa6, qa19, qb1, qb2, qa16, qa2, ↓la0, ↓la2, H.geo, r21 (n := n) G (occ := 0) hk.1 hk.2, r31 (n := n + 2) H, bv_int, ba_int, b_and, b_or])]
  simp [qd2, qc15, qa6, qa17, qa16, qa2, ↓la0, ↓la1, ↓la3, H.sides, H.sd (1 - c) (by omega) (by omega), bv_int, b_and, b_sub, snipF]
theorem snip_bn (S : Sane b) (M : Men b) {c : Int} (h0 : 0 ≤ c) (h1 : c < 2) : Bn b.n (snipF b c) := (M.sd (1 - c) (by omega) (by omega)).and' _
end
end Mine.Law

/-! ## P5 -/
namespace Mine.Law
open PySem PyProof.Rows

theorem ss_n {Γ : Gam} {s : S} {r : Ss} {loc loc' : Loc} {σ σ' : Hp} (h : evS Γ s loc σ = some (.next, loc', σ')) : evSs Γ (.cons s r) loc σ = evSs Γ r loc' σ' := by rw [qd2, h]; rfl
theorem ss_r {Γ : Gam} {s : S} {r : Ss} {loc loc' : Loc} {σ σ' : Hp} {v : MV} (h : evS Γ s loc σ = some (.ret v, loc', σ')) : evSs Γ (.cons s r) loc σ = some (.ret v, loc', σ') := by rw [qd2, h]; rfl
theorem ss_nil {Γ : Gam} {loc : Loc} {σ : Hp} : evSs Γ .nil loc σ = some (.next, loc, σ) := by rw [qd1]

/-! squares of a mask -/
noncomputable def inn : Nat → Int → Nat → Int × Nat
  | 0, x, sq => (x, sq)
  | k + 1, x, sq => if band x 15 = 0 then inn k (shr x 4) (sq + 4) else (x, sq)
noncomputable def sqs : Nat → Int → Nat → List Int
  | 0, _, _ => []
  | k + 1, x, sq => if x = 0 then [] else (if band (inn (k + 1) x sq).1 1 = 0 then [] else [((inn (k + 1) x sq).2 : Int)]) ++ sqs k (shr (inn (k + 1) x sq).1 1) ((inn (k + 1) x sq).2 + 1)

theorem shr_four {x : Int} (h0 : 0 < x) (h : band x 15 = 0) : 0 < shr x 4 := by
  have h : x % 16 = 0 := by rw [← bitAnd_m4]; exact h
  unfold shr
  rw [Int.fdiv_eq_ediv_of_nonneg _ (by decide)]
  show 0 < x / 16
  omega
theorem bn_shr {k : Nat} {x : Int} (h : Bn (k + 1) x) (b : Int) (hb : 1 ≤ b) : Bn k (shr x b) := by
  have : Bn (b.toNat + k) x := h.mono (by omega)
  exact shr_bn this
theorem inn_ok (x0 : Int) : ∀ (k : Nat) (x : Int) (sq : Nat), 0 < x → Bn k x → (∀ i, tb x i = true → tb x0 (sq + i) = true) →
    0 < (inn k x sq).1 ∧ Bn k (inn k x sq).1 ∧ ∀ i, tb (inn k x sq).1 i = true → tb x0 ((inn k x sq).2 + i) = true
  | 0, x, sq, h0, h, ht => ⟨h0, h, ht⟩
  | k + 1, x, sq, h0, h, ht => by
    unfold inn
    split
    · rename_i hz
      obtain ⟨a, b, c⟩ := inn_ok x0 k (shr x 4) (sq + 4) (shr_four h0 hz) (bn_shr h 4 (by decide)) (fun i hi => by
        rw [tb_shr h.1] at hi
        have := ht _ hi
        rwa [show sq + 4 + i = sq + ((4 : Int).toNat + i) by simp; omega])
      exact ⟨a, b.mono (by omega), c⟩
    · exact ⟨h0, h, ht⟩
theorem inner_loop {Γ : Gam} (σ : Hp) (o : MV) : ∀ (k fuel : Nat) (x : Int) (sq : Nat), 0 < x → Bn k x → k < fuel →
    whileN (fun loc σ => evE Γ loc (.un .Not (.bin .BitAnd (.loc 0) (.int 15))) σ) (evSs Γ (.cons (.augN 0 .RShift (.int 4)) (.cons (.augN 2 .Add (.int 4)) .nil))) fuel [some (.int x), some o, some (.int (sq : Int))] σ =
      some (.next, [some (.int (inn k x sq).1), some o, some (.int ((inn k x sq).2 : Int))], σ)
  | 0, fuel, x, sq, h0, h, hf => by have := h.2; simp at this; omega
  | k + 1, fuel + 1, x, sq, h0, h, hf => by
    unfold inn
    by_cases hz : band x 15 = 0
    · rw [while_t (v := .bool true) (σ1 := σ) (σ' := σ) (loc' := [some (.int (shr x 4)), some o, some (.int ((sq + 4 : Nat) : Int))]) (by simp [↓la0, ↓la1, ↓la2, ↓la3, ↓la4, ↓la5, ↓la6, ↓la7, ↓la8, ↓la9, ↓la10, ↓la11, ↓la12, ↓la13, qa1, qa2, qa3, qa4, qa5, qa6, qa7, qa8, qa9, qa10, qa11, qa12, qa13, qa14, qa15, qa16, qa17, qa18, qa19, qa20, qa21, qa22, qa23, qa24, qa25, qa26, qa27, qa28, qa29, bv_int, b_and, hz, unV, tr]) rfl (by simp [↓la0, ↓la1, ↓la2, ↓la3, ↓la4, ↓la5, ↓la6, ↓la7, ↓la8, ↓la9, ↓la10, ↓la11, ↓la12, ↓la13, qa1, qa2, qa3, qa4, qa5, qa6, qa7, qa8, qa9, qa10, qa11, qa12, qa13, qa14, qa15, qa16, qa17, qa18, qa19, qa20, qa21, qa22, qa23, qa24, qa25, qa26, qa27, qa28, qa29, qd1, qd2, qc1, qc2, qc3, qc4, qc5, qc6, qc7, qc8, qc9, qc10, qc11, qc12, qc13, qc14, qc15, qc16, qc17, qc18, ba_int, bv_int, b_shr, b_add]),
        inner_loop σ o k fuel (shr x 4) (sq + 4) (shr_four h0 hz) (bn_shr h 4 (by decide)) (by omega), if_pos hz]
    · rw [while_f (v := .bool false) (σ1 := σ) (by simp [↓la0, ↓la1, ↓la2, ↓la3, ↓la4, ↓la5, ↓la6, ↓la7, ↓la8, ↓la9, ↓la10, ↓la11, ↓la12, ↓la13, qa1, qa2, qa3, qa4, qa5, qa6, qa7, qa8, qa9, qa10, qa11, qa12, qa13, qa14, qa15, qa16, qa17, qa18, qa19, qa20, qa21, qa22, qa23, qa24, qa25, qa26, qa27, qa28, qa29, bv_int, b_and, hz, unV, tr]) rfl, if_neg hz]
theorem outer_loop {Γ : Gam} (o : Nat) : ∀ (k fuel : Nat) (x : Int) (sq : Nat) (xs : List MV) (σ : Hp), Bn k x → k < fuel → k < 64 → σ[o]? = some (.list xs) → xs.length + k ≤ 1000 →
    ∃ x' sq', whileN (fun loc σ => evE Γ loc (.loc 0) σ) (evSs Γ (.cons (.while (.un .Not (.bin .BitAnd (.loc 0) (.int 15))) (.cons (.augN 0 .RShift (.int 4)) (.cons (.augN 2 .Add (.int 4)) .nil)))
      (.cons (.ifs (.bin .BitAnd (.loc 0) (.int 1)) (.cons (.app (.loc 1) (.loc 2)) .nil) .nil) (.cons (.augN 0 .RShift (.int 1)) (.cons (.augN 2 .Add (.int 1)) .nil))))) fuel [some (.int x), some (.ref o), some (.int (sq : Int))] σ =
      some (.next, [some (.int x'), some (.ref o), some (.int sq')], σ.set o (.list (xs ++ (sqs k x sq).map MV.int)))
  | k, fuel + 1, x, sq, xs, σ, h, hf, hk, ho, hl => by
    by_cases h0 : x = 0
    · refine ⟨x, sq, ?_⟩
      rw [while_f (v := .int x) (σ1 := σ) (by simp [↓la0, ↓la1, ↓la2, ↓la3, ↓la4, ↓la5, ↓la6, ↓la7, ↓la8, ↓la9, ↓la10, ↓la11, ↓la12, ↓la13, qa1, qa2, qa3, qa4, qa5, qa6, qa7, qa8, qa9, qa10, qa11, qa12, qa13, qa14, qa15, qa16, qa17, qa18, qa19, qa20, qa21, qa22, qa23, qa24, qa25, qa26, qa27, qa28, qa29]) (by simp [tr, h0])]
      have e : sqs k x sq = [] := by cases k <;> simp [sqs, h0]
      rw [e, List.map_nil, List.append_nil]
      have hs : σ.set o (.list xs) = σ := by
        apply List.ext_getElem?
        intro i
        rw [List.getElem?_set]
        by_cases e : o = i
        · subst e
          obtain ⟨h1, h2⟩ := List.getElem?_eq_some_iff.mp ho
          simp [h1, h2]
        · simp [e]
      rw [hs]
    · cases k with
      | zero => exfalso; have h1 := h.1; have := h.2; simp at this; omega
      | succ k =>
        have hp : 0 < x := by have := h.1; omega
        obtain ⟨p1, p2, p3⟩ := inn_ok x (k + 1) x 0 hp h (fun i hi => by simpa using hi)
        have il := inner_loop (Γ := Γ) σ (.ref o) (k + 1) 64 x sq hp h hk
        have hlen := (List.getElem?_eq_some_iff.mp ho).1
        generalize hi : inn (k + 1) x sq = r at il
        obtain ⟨x1, s1⟩ := r
        have q := inn_ok x (k + 1) x 0
        have hB : Bn (k + 1) x1 := by
          have : (inn (k + 1) x sq).1 = x1 := by rw [hi]
          have e : ∀ (k : Nat) (x : Int) (a b : Nat), (inn k x a).1 = (inn k x b).1 := by
            intro k
            induction k with
            | zero => intros; rfl
            | succ k ih =>
              intro x a b
              unfold inn
              split
              · exact ih _ _ _
              · rfl
          rw [← this, e (k + 1) x sq 0]; exact p2
        dsimp only at il
        by_cases hz : band x1 1 = 0
        · obtain ⟨x', sq', ih⟩ := outer_loop (Γ := Γ) o k fuel (shr x1 1) (s1 + 1) xs σ (bn_shr hB 1 (by decide)) (by omega) (by omega) ho (by omega)
          refine ⟨x', sq', ?_⟩
          rw [while_t (v := .int x) (σ1 := σ) (σ' := σ) (loc' := [some (.int (shr x1 1)), some (.ref o), some (.int ((s1 + 1 : Nat) : Int))]) (by simp [↓la0, ↓la1, ↓la2, ↓la3, ↓la4, ↓la5, ↓la6, ↓la7, ↓la8, ↓la9, ↓la10, ↓la11, ↓la12, ↓la13, qa1, qa2, qa3, qa4, qa5, qa6, qa7, qa8, qa9, qa10, qa11, qa12, qa13, qa14, qa15, qa16, qa17, qa18, qa19, qa20, qa21, qa22, qa23, qa24, qa25, qa26, qa27, qa28, qa29]) (by simp [tr, h0])
            (by rw [ss_n (show evS Γ (.while _ _) _ _ = _ from il)]; simp [qd1, qd2, qc1, qc2, qc3, qc4, qc5, qc6, qc7, qc8, qc9, qc10, qc11, qc12, qc13, qc14, qc15, qc16, qc17, qc18, ↓la0, ↓la1, ↓la2, ↓la3, ↓la4, ↓la5, ↓la6, ↓la7, ↓la8, ↓la9, ↓la10, ↓la11, ↓la12, ↓la13, qa1, qa2, qa3, qa4, qa5, qa6, qa7, qa8, qa9, qa10, qa11, qa12, qa13, qa14, qa15, qa16, qa17, qa18, qa19, qa20, qa21, qa22, qa23, qa24, qa25, qa26, qa27, qa28, qa29, bv_int, ba_int, b_and, hz, tr, b_shr, b_add]), ih]
          simp [sqs, h0, hi, hz]
        · obtain ⟨x', sq', ih⟩ := outer_loop (Γ := Γ) o k fuel (shr x1 1) (s1 + 1) (xs ++ [.int s1]) (σ.set o (.list (xs ++ [.int s1]))) (bn_shr hB 1 (by decide)) (by omega) (by omega) (by simp [hlen]) (by simp; omega)
          refine ⟨x', sq', ?_⟩
          rw [while_t (v := .int x) (σ1 := σ) (σ' := σ.set o (.list (xs ++ [.int s1]))) (loc' := [some (.int (shr x1 1)), some (.ref o), some (.int ((s1 + 1 : Nat) : Int))]) (by simp [↓la0, ↓la1, ↓la2, ↓la3, ↓la4, ↓la5, ↓la6, ↓la7, ↓la8, ↓la9, ↓la10, ↓la11, ↓la12, ↓la13, qa1, qa2, qa3, qa4, qa5, qa6, qa7, qa8, qa9, qa10, qa11, qa12, qa13, qa14, qa15, qa16, qa17, qa18, qa19, qa20, qa21, qa22, qa23, qa24, qa25, qa26, qa27, qa28, qa29]) (by simp [tr, h0])
            (by rw [ss_n (show evS Γ (.while _ _) _ _ = _ from il)]; simp [qd1, qd2, qc1, qc2, qc3, qc4, qc5, qc6, qc7, qc8, qc9, qc10, qc11, qc12, qc13, qc14, qc15, qc16, qc17, qc18, ↓la0, ↓la1, ↓la2, ↓la3, ↓la4, ↓la5, ↓la6, ↓la7, ↓la8, ↓la9, ↓la10, ↓la11, ↓la12, ↓la13, qa1, qa2, qa3, qa4, qa5, qa6, qa7, qa8, qa9, qa10, qa11, qa12, qa13, qa14, qa15, qa16, qa17, qa18, qa19, qa20, qa21, qa22, qa23, qa24, qa25, qa26, qa27, qa28, qa29, bv_int, ba_int, b_and, hz, tr, b_shr, b_add, isL, appV, ho, show xs.length ≤ 1000 by omega]), ih]
          simp [sqs, h0, hi, hz]
theorem sqs_lt (x0 : Int) {n : Nat} (hx : Bn n x0) : ∀ (k : Nat) (x : Int) (sq : Nat), Bn k x → (∀ i, tb x i = true → tb x0 (sq + i) = true) → ∀ s ∈ sqs k x sq, 0 ≤ s ∧ s < n
  | 0, _, _, _, _, s, hs => by cases hs
  | k + 1, x, sq, h, ht, s, hs => by
    unfold sqs at hs
    split at hs
    · cases hs
    · rename_i h0
      obtain ⟨p1, p2, p3⟩ := inn_ok x0 (k + 1) x sq (by have := h.1; omega) h ht
      rw [List.mem_append] at hs
      rcases hs with hs | hs
      · split at hs
        · cases hs
        · rename_i hz
          rw [List.mem_singleton] at hs
          subst hs
          refine ⟨Int.natCast_nonneg _, ?_⟩
          have h1 : tb (inn (k + 1) x sq).1 0 = true := by
            have hz : (inn (k + 1) x sq).1 % 2 ≠ 0 := by rw [← bitAnd_m1]; exact hz
            unfold tb
            rw [Nat.testBit_zero]
            simp only [decide_eq_true_eq]
            have := p2.1
            omega
          have := hx.bit (p3 0 h1)
          omega
      · exact sqs_lt x0 hx k _ _ (bn_shr p2 1 (by decide)) (fun i hi => by
          rw [tb_shr p2.1] at hi
          have := p3 _ hi
          rwa [show (inn (k + 1) x sq).2 + 1 + i = (inn (k + 1) x sq).2 + ((1 : Int).toNat + i) by simp; omega]) s hs
theorem r10 (n : Nat) (σ : Hp) {m : Nat} {x : Int} (h : Bn m x) (hm : m ≤ 20) : callF prog (n + 1) 10 [.int x] σ = some (.ref σ.length, σ ++ [.list ((sqs m x 0).map MV.int)]) := by
  obtain ⟨x', sq', l⟩ := outer_loop (Γ := callF prog n) σ.length m 64 x 0 [] (σ ++ [.list []]) h (by omega) (by omega) (by simp) (by simp; omega)
  rw [call_eq]
  show Option.bind (evSs (callF prog n) F10.body [some (.int x), none, none] σ) _ = _
  have hb : evSs (callF prog n) F10.body [some (.int x), none, none] σ = some (.ret (.ref σ.length), [some (.int x'), some (.ref σ.length), some (.int sq')], σ ++ [.list ((sqs m x 0).map MV.int)]) := by
    unfold F10
    rw [qd2]
    simp only [qc1, qc2, qc3, qc4, qc5, qc6, qc7, qc8, qc9, qc10, qc11, qc12, qc13, qc14, qc15, qc16, qc17, qc18, ↓la0, ↓la1, ↓la2, ↓la3, ↓la4, ↓la5, ↓la6, ↓la7, ↓la8, ↓la9, ↓la10, ↓la11, ↓la12, ↓la13, qa1, qa2, qa3, qa4, qa5, qa6, qa7, qa8, qa9, qa10, qa11, qa12, qa13, qa14, qa15, qa16, qa17, qa18, qa19, qa20, qa21, qa22, qa23, qa24, qa25, qa26, qa27, qa28, qa29, qb1, qb2, Option.bind_some]
    rw [qd2]
    simp only [qc1, qc2, qc3, qc4, qc5, qc6, qc7, qc8, qc9, qc10, qc11, qc12, qc13, qc14, qc15, qc16, qc17, qc18, ↓la0, ↓la1, ↓la2, ↓la3, ↓la4, ↓la5, ↓la6, ↓la7, ↓la8, ↓la9, ↓la10, ↓la11, ↓la12, ↓la13, qa1, qa2, qa3, qa4, qa5, qa6, qa7, qa8, qa9, qa10, qa11, qa12, qa13, qa14, qa15, qa16, qa17, qa18, qa19, qa20, qa21, qa22, qa23, qa24, qa25, qa26, qa27, qa28, qa29, Option.bind_some, List.set_cons_succ, List.set_cons_zero]
    rw [qd2]
    rw [show evS (callF prog n) (.while (.loc 0) _) [some (.int x), some (.ref σ.length), some (.int 0)] (σ ++ [.list []]) = _ from l]
    simp [qd1, qd2, qc1, qc2, qc3, qc4, qc5, qc6, qc7, qc8, qc9, qc10, qc11, qc12, qc13, qc14, qc15, qc16, qc17, qc18, ↓la0, ↓la1, ↓la2, ↓la3, ↓la4, ↓la5, ↓la6, ↓la7, ↓la8, ↓la9, ↓la10, ↓la11, ↓la12, ↓la13, qa1, qa2, qa3, qa4, qa5, qa6, qa7, qa8, qa9, qa10, qa11, qa12, qa13, qa14, qa15, qa16, qa17, qa18, qa19, qa20, qa21, qa22, qa23, qa24, qa25, qa26, qa27, qa28, qa29]
  rw [hb]
  rfl
end Mine.Law

/-! ## P6 -/
namespace Mine.Law
open PySem PyProof.Rows
section
variable {σ : Hp} {b : B} {n P : Nat}

/-! pins -/
noncomputable def blkS (b : B) (c king standing : Int) (q : Int × Int) (s : Int) : Int × Int :=
  if band (betF b king s) standing ≠ 0 ∧ band (band (betF b king s) standing) (band (betF b king s) standing - 1) = 0 then
    (bor q.1 (band (betF b king s) standing), if band (band (betF b king s) standing) (b.sd c) ≠ 0 then bor q.2 (shl 1 s) else q.2)
  else q
noncomputable def stdF (b : B) (c : Int) : Int := bxor (bor (b.sd 0) (b.sd 1)) (snipF b c)
noncomputable def blkF (b : B) (c : Int) : Int × Int := (sqs b.n (snipF b c) 0).foldl (blkS b c (kingF b c) (stdF b c)) (0, 0)

theorem blk_turn (G : Geo σ b) (H : Pos σ P b) {c king st sn h p s : Int} {o1 o2 : Option MV} (h0 : 0 ≤ c) (h1 : c < 2) (k0 : -1 ≤ king) (k1 : king < b.n) (s0 : 0 ≤ s) (s1 : s < b.n) (hn : b.n ≤ 20) :
    ∃ o1' o2', evSs (callF prog (n + 2)) (.cons (.set 8 (.bin .BitAnd (.call 26 (.cons (.attr (.loc 0) 14) (.cons (.loc 2) (.cons (.loc 7) .nil)))) (.loc 4)))
      (.cons (.ifs (.and (.loc 8) (.un .Not (.call 7 (.cons (.loc 8) .nil)))) (.cons (.augN 5 .BitOr (.loc 8))
      (.cons (.ifs (.bin .BitAnd (.loc 8) (.idx (.attr (.loc 0) 18) (.loc 1))) (.cons (.augN 6 .BitOr (.bin .LShift (.int 1) (.loc 7))) .nil) .nil) .nil)) .nil) .nil))
      ([some (.ref P), some (.int c), some (.int king), some (.int sn), some (.int st), some (.int h), some (.int p), o1, o2].set 7 (some (.int s))) σ =
      some (.next, [some (.ref P), some (.int c), some (.int king), some (.int sn), some (.int st), some (.int (blkS b c king st (h, p) s).1), some (.int (blkS b c king st (h, p) s).2), o1', o2'], σ) := by
  have hc := r26 (n := n) G (x := king) (y := s) k0 k1 s0 s1
  obtain ⟨q, eq⟩ : ∃ x, x = band (betF b king s) st := ⟨_, rfl⟩
  have hm := r7 (n + 1) σ q
  have e : blkS b c king st (h, p) s = if q ≠ 0 ∧ band q (q - 1) = 0 then (bor h q, if band q (b.sd c) ≠ 0 then bor p (shl 1 s) else p) else (h, p) := by rw [eq]; rfl
  refine ⟨some (.int s), some (.int q), ?_⟩
  rw [ss_n4 (loc' := [some (.ref P), some (.int c), some (.int king), some (.int sn), some (.int st), some (.int h), some (.int p), some (.int s), some (.int q)]) (σ' := σ) (by simp [qc1, qa6, qa19, qb1, qb2, qa16, ↓la0, ↓la2, ↓la4, ↓la7, H.geo, hc, bv_int, b_and, eq]), e]
  by_cases z1 : q = 0
  · rw [if_neg (fun z => z.1 z1), ss_n4 (ifs_f (v := .int q) (by rw [qa10, la8]; simp [tr, z1]) (by simp [tr, z1])), qd1]
  have ht : evE (callF prog (n + 2)) [some (.ref P), some (.int c), some (.int king), some (.int sn), some (.int st), some (.int h), some (.int p), some (.int s), some (.int q)] (.and (.loc 8) (.un .Not (.call 7 (.cons (.loc 8) .nil)))) σ = some (.bool (!(band q (q - 1) != 0)), σ) := by
    rw [qa10, la8]; simp [tr, z1, qa7, qa19, qb1, qb2, ↓la8, hm, unV]
  by_cases z2 : band q (q - 1) = 0
  · rw [if_pos ⟨z1, z2⟩, qd2, ifs_t ht (by simp [tr, z2]),
      ss_n4 (loc' := [some (.ref P), some (.int c), some (.int king), some (.int sn), some (.int st), some (.int (bor h q)), some (.int p), some (.int s), some (.int q)]) (σ' := σ) (by simp [qc6, ↓la8, ba_int, b_or])]
    by_cases z3 : band q (b.sd c) = 0
    · rw [ss_n4 (ifs_f (v := .int (band q (b.sd c))) (by simp [qa6, qa17, qa16, ↓la8, ↓la0, ↓la1, H.sides, H.sd c h0 h1, bv_int, b_and]) (by simp [tr, z3]))]
      simp [qd1, z3]
    · rw [qd2, ifs_t (v := .int (band q (b.sd c))) (by simp [qa6, qa17, qa16, ↓la8, ↓la0, ↓la1, H.sides, H.sd c h0 h1, bv_int, b_and]) (by simp [tr, z3]),
        ss_n4 (loc' := [some (.ref P), some (.int c), some (.int king), some (.int sn), some (.int st), some (.int (bor h q)), some (.int (bor p (shl 1 s))), some (.int s), some (.int q)]) (σ' := σ) (by simp [qc6, qa6, qa2, ↓la7, ba_int, bv_int, b_or, b_shl (a := 1) (b := s) s0 (by omega) (by decide)])]
      simp [qd1, z3]
  · rw [if_neg (fun z => z2 z.2), ss_n4 (ifs_f ht (by simp [tr, z2])), qd1]
theorem blk_loop (G : Geo σ b) (H : Pos σ P b) {c king st sn : Int} (h0 : 0 ≤ c) (h1 : c < 2) (k0 : -1 ≤ king) (k1 : king < b.n) (hn : b.n ≤ 20) : ∀ (ss : List Int) (q : Int × Int) (o1 o2 : Option MV), (∀ s ∈ ss, 0 ≤ s ∧ s < b.n) →
    ∃ o1' o2', forN 7 (evSs (callF prog (n + 2)) (.cons (.set 8 (.bin .BitAnd (.call 26 (.cons (.attr (.loc 0) 14) (.cons (.loc 2) (.cons (.loc 7) .nil)))) (.loc 4)))
      (.cons (.ifs (.and (.loc 8) (.un .Not (.call 7 (.cons (.loc 8) .nil)))) (.cons (.augN 5 .BitOr (.loc 8))
      (.cons (.ifs (.bin .BitAnd (.loc 8) (.idx (.attr (.loc 0) 18) (.loc 1))) (.cons (.augN 6 .BitOr (.bin .LShift (.int 1) (.loc 7))) .nil) .nil) .nil)) .nil) .nil)))
      (ss.map MV.int) [some (.ref P), some (.int c), some (.int king), some (.int sn), some (.int st), some (.int q.1), some (.int q.2), o1, o2] σ =
      some (.next, [some (.ref P), some (.int c), some (.int king), some (.int sn), some (.int st), some (.int (ss.foldl (blkS b c king st) q).1), some (.int (ss.foldl (blkS b c king st) q).2), o1', o2'], σ)
  | [], q, o1, o2, _ => ⟨o1, o2, rfl⟩
  | s :: ss, (h, p), o1, o2, hs => by
    obtain ⟨s0, s1⟩ := hs s (.head _)
    obtain ⟨a1, a2, t⟩ := blk_turn (n := n) G H (sn := sn) (st := st) (h := h) (p := p) (o1 := o1) (o2 := o2) h0 h1 k0 k1 s0 s1 hn
    obtain ⟨b1, b2, ih⟩ := blk_loop G H (sn := sn) (st := st) h0 h1 k0 k1 hn ss (blkS b c king st (h, p) s) a1 a2 fun e he => hs e (.tail _ he)
    refine ⟨b1, b2, ?_⟩
    rw [List.map_cons, for_cons_n t, ih, List.foldl_cons]
theorem r37 (G : Geo σ b) (H : Pos σ P b) (S : Sane b) (M : Men b) {c : Int} (h0 : 0 ≤ c) (h1 : c < 2) : ∃ id σ', callF prog (n + 5) 37 [.ref P, .int c] σ = some (.ref id, σ') ∧ Le σ σ' ∧ σ'[id]? = some (.tup [.int (blkF b c).1, .int (blkF b c).2]) := by
  have hk := king_range S M h0 h1
  have hsn := snip_bn S M h0 h1
  have hlt := sqs_lt (snipF b c) hsn b.n (snipF b c) 0 hsn (fun i hi => by simpa using hi)
  obtain ⟨σ1, e1⟩ : ∃ s : Hp, s = (σ ++ [MObj.list ((sqs b.n (snipF b c) 0).map MV.int)]).set σ.length MObj.gone := ⟨_, rfl⟩
  have l1 : Le σ σ1 := e1 ▸ Le.app.set (Nat.le_refl _)
  have G1 := G.keep l1.keep
  have H1 := H.keep l1.keep
  obtain ⟨o1, o2, lp⟩ := blk_loop (n := n + 2) G1 H1 (sn := snipF b c) (st := stdF b c) h0 h1 hk.1 hk.2 S.n20 (sqs b.n (snipF b c) 0) (0, 0) none none hlt
  refine ⟨σ1.length, σ1 ++ [.tup [.int (blkF b c).1, .int (blkF b c).2]], ?_, l1.trans Le.app, by simp⟩
  have hb : evSs (callF prog (n + 4)) F37.body [some (.ref P), some (.int c), none, none, none, none, none, none, none] σ =
      some (.ret (.ref σ1.length), [some (.ref P), some (.int c), some (.int (kingF b c)), some (.int (snipF b c)), some (.int (stdF b c)), some (.int (blkF b c).1), some (.int (blkF b c).2), o1, o2], σ1 ++ [.tup [.int (blkF b c).1, .int (blkF b c).2]]) := by
    unfold F37
    rw [ss_n (loc' := [some (.ref P), some (.int c), some (.int (kingF b c)), none, none, none, none, none, none]) (σ' := σ) (by simp [qc1, qc2, qc3, qc4, qc5, qc6, qc7, qc8, qc9, qc10, qc11, qc12, qc13, qc14, qc15, qc16, qc17, qc18, ↓la0, ↓la1, ↓la2, ↓la3, ↓la4, ↓la5, ↓la6, ↓la7, ↓la8, ↓la9, ↓la10, ↓la11, ↓la12, ↓la13, qa1, qa2, qa3, qa4, qa5, qa6, qa7, qa8, qa9, qa10, qa11, qa12, qa13, qa14, qa15, qa16, qa17, qa18, qa19, qa20, qa21, qa22, qa23, qa24, qa25, qa26, qa27, qa28, qa29, qb1, qb2, r29 (n := n + 1) H S M h0 h1])]
    rw [ss_n (loc' := [some (.ref P), some (.int c), some (.int (kingF b c)), some (.int (snipF b c)), none, none, none, none, none]) (σ' := σ) (by simp [qc1, qc2, qc3, qc4, qc5, qc6, qc7, qc8, qc9, qc10, qc11, qc12, qc13, qc14, qc15, qc16, qc17, qc18, ↓la0, ↓la1, ↓la2, ↓la3, ↓la4, ↓la5, ↓la6, ↓la7, ↓la8, ↓la9, ↓la10, ↓la11, ↓la12, ↓la13, qa1, qa2, qa3, qa4, qa5, qa6, qa7, qa8, qa9, qa10, qa11, qa12, qa13, qa14, qa15, qa16, qa17, qa18, qa19, qa20, qa21, qa22, qa23, qa24, qa25, qa26, qa27, qa28, qa29, qb1, qb2, r36 (n := n) G H S M h0 h1])]
    rw [ss_n (loc' := [some (.ref P), some (.int c), some (.int (kingF b c)), some (.int (snipF b c)), some (.int (stdF b c)), none, none, none, none]) (σ' := σ) (by simp [qc1, qc2, qc3, qc4, qc5, qc6, qc7, qc8, qc9, qc10, qc11, qc12, qc13, qc14, qc15, qc16, qc17, qc18, ↓la0, ↓la1, ↓la2, ↓la3, ↓la4, ↓la5, ↓la6, ↓la7, ↓la8, ↓la9, ↓la10, ↓la11, ↓la12, ↓la13, qa1, qa2, qa3, qa4, qa5, qa6, qa7, qa8, qa9, qa10, qa11, qa12, qa13, qa14, qa15, qa16, qa17, qa18, qa19, qa20, qa21, qa22, qa23, qa24, qa25, qa26, qa27, qa28, qa29, gl0, gl1, H.sides, H.sd 0 (by decide) (by decide), H.sd 1 (by decide) (by decide), bv_int, b_or, b_xor, stdF])]
    rw [ss_n (loc' := [some (.ref P), some (.int c), some (.int (kingF b c)), some (.int (snipF b c)), some (.int (stdF b c)), some (.int 0), none, none, none]) (σ' := σ) (by simp [qc1, qc2, qc3, qc4, qc5, qc6, qc7, qc8, qc9, qc10, qc11, qc12, qc13, qc14, qc15, qc16, qc17, qc18, ↓la0, ↓la1, ↓la2, ↓la3, ↓la4, ↓la5, ↓la6, ↓la7, ↓la8, ↓la9, ↓la10, ↓la11, ↓la12, ↓la13, qa1, qa2, qa3, qa4, qa5, qa6, qa7, qa8, qa9, qa10, qa11, qa12, qa13, qa14, qa15, qa16, qa17, qa18, qa19, qa20, qa21, qa22, qa23, qa24, qa25, qa26, qa27, qa28, qa29])]
    rw [ss_n (loc' := [some (.ref P), some (.int c), some (.int (kingF b c)), some (.int (snipF b c)), some (.int (stdF b c)), some (.int 0), some (.int 0), none, none]) (σ' := σ) (by simp [qc1, qc2, qc3, qc4, qc5, qc6, qc7, qc8, qc9, qc10, qc11, qc12, qc13, qc14, qc15, qc16, qc17, qc18, ↓la0, ↓la1, ↓la2, ↓la3, ↓la4, ↓la5, ↓la6, ↓la7, ↓la8, ↓la9, ↓la10, ↓la11, ↓la12, ↓la13, qa1, qa2, qa3, qa4, qa5, qa6, qa7, qa8, qa9, qa10, qa11, qa12, qa13, qa14, qa15, qa16, qa17, qa18, qa19, qa20, qa21, qa22, qa23, qa24, qa25, qa26, qa27, qa28, qa29])]
    have hl : ((sqs b.n (snipF b c) 0).map MV.int).length ≤ 1000 := by
      have : ∀ (k : Nat) (x : Int) (sq : Nat), (sqs k x sq).length ≤ k := by
        intro k
        induction k with
        | zero => intros; simp [sqs]
        | succ k ih =>
          intro x sq
          unfold sqs
          split
          · simp
          · rw [List.length_append]
            have := ih (shr (inn (k + 1) x sq).1 1) ((inn (k + 1) x sq).2 + 1)
            split <;> simp <;> omega
      rw [List.length_map]
      have := this b.n (snipF b c) 0
      have := S.n20
      omega
    rw [ss_n (loc' := [some (.ref P), some (.int c), some (.int (kingF b c)), some (.int (snipF b c)), some (.int (stdF b c)), some (.int (blkF b c).1), some (.int (blkF b c).2), o1, o2]) (σ' := σ1) (by
      first | rw [qc1] | rw [qc14] | rw [qc12]
      simp only [↓la0, ↓la1, ↓la2, ↓la3, ↓la4, ↓la5, ↓la6, ↓la7, ↓la8, ↓la9, ↓la10, ↓la11, ↓la12, ↓la13, qa1, qa2, qa3, qa4, qa5, qa6, qa7, qa8, qa9, qa10, qa11, qa12, qa13, qa14, qa15, qa16, qa17, qa18, qa19, qa20, qa21, qa22, qa23, qa24, qa25, qa26, qa27, qa28, qa29, qb1, qb2, List.getElem?_cons_succ, List.getElem?_cons_zero, Option.join_some, Option.map_some, Option.bind_some, show (10 : Nat) < 100 by decide, if_true, r10 (n + 3) σ hsn S.n20]
      simp only [List.getElem?_concat_length, hl, if_true]
      rw [e1] at lp ⊢
      exact lp)]
    simp [qd1, qd2, qc1, qc2, qc3, qc4, qc5, qc6, qc7, qc8, qc9, qc10, qc11, qc12, qc13, qc14, qc15, qc16, qc17, qc18, ↓la0, ↓la1, ↓la2, ↓la3, ↓la4, ↓la5, ↓la6, ↓la7, ↓la8, ↓la9, ↓la10, ↓la11, ↓la12, ↓la13, qa1, qa2, qa3, qa4, qa5, qa6, qa7, qa8, qa9, qa10, qa11, qa12, qa13, qa14, qa15, qa16, qa17, qa18, qa19, qa20, qa21, qa22, qa23, qa24, qa25, qa26, qa27, qa28, qa29, qb1, qb2]
  rw [call_eq]
  show Option.bind (evSs (callF prog (n + 4)) F37.body [some (.ref P), some (.int c), none, none, none, none, none, none, none] σ) _ = _
  rw [hb]
  rfl

/-! the cheapest attacker -/
theorem for_find2 {i : Nat} {f : Loc → Hp → Out} {p : Int → Bool} {val : Int → MV} {I : Loc → Prop} : ∀ (ds : List Int) (loc : Loc), I loc →
    (∀ d ∈ ds, ∀ loc, I loc → ∃ loc', I loc' ∧ f (loc.set i (some (.int d))) σ = if p d = true then some (.ret (val d), loc', σ) else some (.next, loc', σ)) →
    ∃ loc', I loc' ∧ forN i f (ds.map MV.int) loc σ = some ((match ds.find? p with | some d => .ret (val d) | none => .next), loc', σ)
  | [], loc, hI, _ => ⟨loc, hI, rfl⟩
  | d :: ds, loc, hI, h => by
    obtain ⟨loc1, hI1, h1⟩ := h d (.head _) loc hI
    by_cases hp : p d = true
    · refine ⟨loc1, hI1, ?_⟩
      rw [List.map_cons, for_cons_r (by rw [h1, if_pos hp]), List.find?_cons, hp]
    · obtain ⟨loc2, hI2, ih⟩ := for_find2 ds loc1 hI1 fun e he => h e (.tail _ he)
      refine ⟨loc2, hI2, ?_⟩
      rw [List.map_cons, for_cons_n (by rw [h1, if_neg hp]), ih, List.find?_cons]
      simp [hp]
noncomputable def ks6 : List Int := [1, 2, 3, 4, 5, 6]
noncomputable def leaF (b : B) (att c : Int) : Int := if band att (b.sd c) = 0 then -1 else
  match ks6.find? (fun k => band (band att (b.sd c)) (b.kd k) != 0) with
  | some k => low (band (band att (b.sd c)) (b.kd k))
  | none => -1
theorem leaF_bit (S : Sane b) (M : Men b) {att c : Int} (h0 : 0 ≤ c) (h1 : c < 2) (ha : 0 ≤ att) : leaF b att c = -1 ∨ ∃ i : Nat, leaF b att c = i ∧ i < b.n ∧ tb att i = true ∧ tb (b.sd c) i = true := by
  unfold leaF
  split
  · exact .inl rfl
  · split
    · rename_i k hk
      have hs := M.sd c h0 h1
      have ho : Bn b.n (band att (b.sd c)) := hs.and' _
      have hb : Bn b.n (band (band att (b.sd c)) (b.kd k)) := ho.and _
      rcases low_bit (hb.mono (by have := S.n20; omega)) with e | ⟨i, e, ht⟩
      · exact .inl e
      · have t1 := tb_and_l ho.1 ht
        exact .inr ⟨i, e, hb.bit ht, tb_and_l ha t1, tb_and_r hs.1 t1⟩
    · exact .inl rfl
theorem r38 (H : Pos σ P b) (S : Sane b) (M : Men b) {att c : Int} (h0 : 0 ≤ c) (h1 : c < 2) : callF prog (n + 3) 38 [.ref P, .int att, .int c] σ = some (.int (leaF b att c), σ) := by
  rw [call_eq]
  show Option.bind (evSs (callF prog (n + 2)) F38.body [some (.ref P), some (.int att), some (.int c), none, none, none] σ) _ = _
  have hown : Bn b.n (band att (b.sd c)) := (M.sd c h0 h1).and' _
  by_cases hz : band att (b.sd c) = 0
  · simp [F38, qd1, qd2, qc1, qc2, qc3, qc4, qc5, qc6, qc7, qc8, qc9, qc10, qc11, qc12, qc13, qc14, qc15, qc16, qc17, qc18, ↓la0, ↓la1, ↓la2, ↓la3, ↓la4, ↓la5, ↓la6, ↓la7, ↓la8, ↓la9, ↓la10, ↓la11, ↓la12, ↓la13, qa1, qa2, qa3, qa4, qa5, qa6, qa7, qa8, qa9, qa10, qa11, qa12, qa13, qa14, qa15, qa16, qa17, qa18, qa19, qa20, qa21, qa22, qa23, qa24, qa25, qa26, qa27, qa28, qa29, H.sides, H.sd c h0 h1, bv_int, b_and, cmpV, cmpI, tr, hz, unV, leaF]
  · obtain ⟨loc', ⟨a1, a2, hI⟩, main⟩ := for_find2 (σ := σ) (i := 4) (f := evSs (callF prog (n + 2)) (.cons (.set 5 (.bin .BitAnd (.loc 3) (.idx (.attr (.loc 0) 17) (.loc 4)))) (.cons (.ifs (.loc 5) (.cons (.ret (.call 9 (.cons (.loc 5) .nil))) .nil) .nil) .nil)))
      (p := fun k => band (band att (b.sd c)) (b.kd k) != 0) (val := fun k => .int (low (band (band att (b.sd c)) (b.kd k)))) (I := fun loc => ∃ a1 a2, loc = [some (.ref P), some (.int att), some (.int c), some (.int (band att (b.sd c))), a1, a2])
      ks6 [some (.ref P), some (.int att), some (.int c), some (.int (band att (b.sd c))), none, none] ⟨none, none, rfl⟩ (by
        rintro k hk loc ⟨a1, a2, rfl⟩
        have hk' : 0 ≤ k ∧ k < 7 := by
          simp only [ks6, List.mem_cons, List.not_mem_nil, or_false] at hk
          omega
        refine ⟨[some (.ref P), some (.int att), some (.int c), some (.int (band att (b.sd c))), some (.int k), some (.int (band (band att (b.sd c)) (b.kd k)))], ⟨_, _, rfl⟩, ?_⟩
        have h9 := r9 n σ (x := band (band att (b.sd c)) (b.kd k)) ((hown.and _).mono (by have := S.n20; omega))
        by_cases z : band (band att (b.sd c)) (b.kd k) = 0
        · simp [qd1, qd2, qc1, qc2, qc3, qc4, qc5, qc6, qc7, qc8, qc9, qc10, qc11, qc12, qc13, qc14, qc15, qc16, qc17, qc18, ↓la0, ↓la1, ↓la2, ↓la3, ↓la4, ↓la5, ↓la6, ↓la7, ↓la8, ↓la9, ↓la10, ↓la11, ↓la12, ↓la13, qa1, qa2, qa3, qa4, qa5, qa6, qa7, qa8, qa9, qa10, qa11, qa12, qa13, qa14, qa15, qa16, qa17, qa18, qa19, qa20, qa21, qa22, qa23, qa24, qa25, qa26, qa27, qa28, qa29, H.kinds, H.kd k hk'.1 hk'.2, bv_int, b_and, tr, z]
        · simp [qd1, qd2, qc1, qc2, qc3, qc4, qc5, qc6, qc7, qc8, qc9, qc10, qc11, qc12, qc13, qc14, qc15, qc16, qc17, qc18, ↓la0, ↓la1, ↓la2, ↓la3, ↓la4, ↓la5, ↓la6, ↓la7, ↓la8, ↓la9, ↓la10, ↓la11, ↓la12, ↓la13, qa1, qa2, qa3, qa4, qa5, qa6, qa7, qa8, qa9, qa10, qa11, qa12, qa13, qa14, qa15, qa16, qa17, qa18, qa19, qa20, qa21, qa22, qa23, qa24, qa25, qa26, qa27, qa28, qa29, qb1, qb2, H.kinds, H.kd k hk'.1 hk'.2, bv_int, b_and, tr, z, h9])
    subst hI
    have hr : evS (callF prog (n + 2)) (.forR2 4 (.glob 2) (.bin .Add (.glob 7) (.int 1)) (.cons (.set 5 (.bin .BitAnd (.loc 3) (.idx (.attr (.loc 0) 17) (.loc 4)))) (.cons (.ifs (.loc 5) (.cons (.ret (.call 9 (.cons (.loc 5) .nil))) .nil) .nil) .nil)))
        [some (.ref P), some (.int att), some (.int c), some (.int (band att (b.sd c))), none, none] σ = _ := main
    unfold F38
    rw [ss_n (loc' := [some (.ref P), some (.int att), some (.int c), some (.int (band att (b.sd c))), none, none]) (σ' := σ) (by simp [qc1, qc2, qc3, qc4, qc5, qc6, qc7, qc8, qc9, qc10, qc11, qc12, qc13, qc14, qc15, qc16, qc17, qc18, ↓la0, ↓la1, ↓la2, ↓la3, ↓la4, ↓la5, ↓la6, ↓la7, ↓la8, ↓la9, ↓la10, ↓la11, ↓la12, ↓la13, qa1, qa2, qa3, qa4, qa5, qa6, qa7, qa8, qa9, qa10, qa11, qa12, qa13, qa14, qa15, qa16, qa17, qa18, qa19, qa20, qa21, qa22, qa23, qa24, qa25, qa26, qa27, qa28, qa29, H.sides, H.sd c h0 h1, bv_int, b_and])]
    rw [ss_n (loc' := [some (.ref P), some (.int att), some (.int c), some (.int (band att (b.sd c))), none, none]) (σ' := σ) (by simp [qd1, qd2, qc1, qc2, qc3, qc4, qc5, qc6, qc7, qc8, qc9, qc10, qc11, qc12, qc13, qc14, qc15, qc16, qc17, qc18, ↓la0, ↓la1, ↓la2, ↓la3, ↓la4, ↓la5, ↓la6, ↓la7, ↓la8, ↓la9, ↓la10, ↓la11, ↓la12, ↓la13, qa1, qa2, qa3, qa4, qa5, qa6, qa7, qa8, qa9, qa10, qa11, qa12, qa13, qa14, qa15, qa16, qa17, qa18, qa19, qa20, qa21, qa22, qa23, qa24, qa25, qa26, qa27, qa28, qa29, cmpV, cmpI, tr, hz])]
    cases hfd : ks6.find? (fun k => band (band att (b.sd c)) (b.kd k) != 0) with
    | none =>
      rw [hfd] at hr
      rw [ss_n hr]
      simp [qd1, qd2, qc1, qc2, qc3, qc4, qc5, qc6, qc7, qc8, qc9, qc10, qc11, qc12, qc13, qc14, qc15, qc16, qc17, qc18, ↓la0, ↓la1, ↓la2, ↓la3, ↓la4, ↓la5, ↓la6, ↓la7, ↓la8, ↓la9, ↓la10, ↓la11, ↓la12, ↓la13, qa1, qa2, qa3, qa4, qa5, qa6, qa7, qa8, qa9, qa10, qa11, qa12, qa13, qa14, qa15, qa16, qa17, qa18, qa19, qa20, qa21, qa22, qa23, qa24, qa25, qa26, qa27, qa28, qa29, unV, leaF, hz, hfd]
    | some k =>
      rw [hfd] at hr
      rw [ss_r hr]
      simp [leaF, hz, hfd]
end
end Mine.Law

/-! ## P7 -/
namespace Mine.Law
open PySem PyProof.Rows
section
variable {σ : Hp} {b : B} {n P : Nat}

noncomputable def PinsAt (σ : Hp) (t : Nat) (b : B) : Prop := ∀ c : Int, 0 ≤ c → c < 2 → ∃ i, getI σ (.ref t) (.int c) = some (.ref i) ∧ getI σ (.ref i) (.int 0) = some (.int (blkF b c).1) ∧ getI σ (.ref i) (.int 1) = some (.int (blkF b c).2)
theorem PinsAt.keep {σ' : Hp} {t : Nat} (h : PinsAt σ t b) (k : Keep σ σ') : PinsAt σ' t b := fun c a d => let ⟨i, x, y, z⟩ := h c a d; ⟨i, getI_keep k x, getI_keep k y, getI_keep k z⟩
noncomputable def Vals (σ : Hp) (t : Nat) (v : Int → Int) : Prop := ∀ k : Int, 0 ≤ k → k < 7 → getI σ (.ref t) (.int k) = some (.int (v k))
theorem Vals.keep {σ' : Hp} {t : Nat} {v : Int → Int} (h : Vals σ t v) (k : Keep σ σ') : Vals σ' t v := fun c a d => getI_keep k (h c a d)

noncomputable def frF (b : B) (att occ c : Int) : Int := if band (blkF b c).2 occ = 0 then att else band att (bxor ((2 : Int) ^ b.n - 1) (blkF b c).1)
noncomputable def nxtF (b : B) (att occ c : Int) : Int := if 0 ≤ leaF b (frF b att occ c) c ∧ band (b.bd (leaF b (frF b att occ c) c)) 7 = 6 ∧ band att (b.sd (1 - c)) ≠ 0 then -1 else leaF b (frF b att occ c) c
theorem nxtF_bit (S : Sane b) (M : Men b) {att occ c : Int} (h0 : 0 ≤ c) (h1 : c < 2) (ha : 0 ≤ att) : nxtF b att occ c = -1 ∨ ∃ i : Nat, nxtF b att occ c = i ∧ i < b.n ∧ tb att i = true := by
  unfold nxtF
  split
  · exact .inl rfl
  · have hf : 0 ≤ frF b att occ c ∧ ∀ i, tb (frF b att occ c) i = true → tb att i = true := by
      unfold frF
      split
      · exact ⟨ha, fun i h => h⟩
      · obtain ⟨k, e⟩ := and_any (bxor ((2 : Int) ^ b.n - 1) (blkF b c).1) ha
        exact ⟨by rw [e]; exact Int.natCast_nonneg _, fun i h => tb_and_l ha h⟩
    rcases leaF_bit S M (att := frF b att occ c) h0 h1 hf.1 with e | ⟨i, e, hi, ht, _⟩
    · exact .inl e
    · exact .inr ⟨i, e, hi, hf.2 i ht⟩
theorem r39 (G : Geo σ b) (H : Pos σ P b) (S : Sane b) (M : Men b) {t : Nat} (T : PinsAt σ t b) {att occ c : Int} (h0 : 0 ≤ c) (h1 : c < 2) (ha : 0 ≤ att) : callF prog (n + 4) 39 [.ref P, .int att, .int occ, .int c, .ref t] σ = some (.int (nxtF b att occ c), σ) := by
  rw [call_eq]
  show Option.bind (evSs (callF prog (n + 3)) F39.body [some (.ref P), some (.int att), some (.int occ), some (.int c), some (.ref t), none, none] σ) _ = _
  obtain ⟨i, t1, t2, t3⟩ := T c h0 h1
  have h38 := r38 (n := n) H S M (att := frF b att occ c) h0 h1
  have hb := leaF_bit S M (att := frF b att occ c) h0 h1 (by
    unfold frF
    split
    · exact ha
    · obtain ⟨k, e⟩ := and_any (bxor ((2 : Int) ^ b.n - 1) (blkF b c).1) ha
      rw [e]; exact Int.natCast_nonneg _)
  unfold F39
  rw [ss_n (loc' := [some (.ref P), some (.int att), some (.int occ), some (.int c), some (.ref t), some (.int att), none]) (σ' := σ) (by simp [qc1, qc2, qc3, qc4, qc5, qc6, qc7, qc8, qc9, qc10, qc11, qc12, qc13, qc14, qc15, qc16, qc17, qc18, ↓la0, ↓la1, ↓la2, ↓la3, ↓la4, ↓la5, ↓la6, ↓la7, ↓la8, ↓la9, ↓la10, ↓la11, ↓la12, ↓la13, qa1, qa2, qa3, qa4, qa5, qa6, qa7, qa8, qa9, qa10, qa11, qa12, qa13, qa14, qa15, qa16, qa17, qa18, qa19, qa20, qa21, qa22, qa23, qa24, qa25, qa26, qa27, qa28, qa29])]
  rw [ss_n (loc' := [some (.ref P), some (.int att), some (.int occ), some (.int c), some (.ref t), some (.int (frF b att occ c)), none]) (σ' := σ) (by
    by_cases z : band (blkF b c).2 occ = 0
    · simp [qd1, qd2, qc1, qc2, qc3, qc4, qc5, qc6, qc7, qc8, qc9, qc10, qc11, qc12, qc13, qc14, qc15, qc16, qc17, qc18, ↓la0, ↓la1, ↓la2, ↓la3, ↓la4, ↓la5, ↓la6, ↓la7, ↓la8, ↓la9, ↓la10, ↓la11, ↓la12, ↓la13, qa1, qa2, qa3, qa4, qa5, qa6, qa7, qa8, qa9, qa10, qa11, qa12, qa13, qa14, qa15, qa16, qa17, qa18, qa19, qa20, qa21, qa22, qa23, qa24, qa25, qa26, qa27, qa28, qa29, t1, t3, bv_int, b_and, tr, z, frF]
    · simp [qd1, qd2, qc1, qc2, qc3, qc4, qc5, qc6, qc7, qc8, qc9, qc10, qc11, qc12, qc13, qc14, qc15, qc16, qc17, qc18, ↓la0, ↓la1, ↓la2, ↓la3, ↓la4, ↓la5, ↓la6, ↓la7, ↓la8, ↓la9, ↓la10, ↓la11, ↓la12, ↓la13, qa1, qa2, qa3, qa4, qa5, qa6, qa7, qa8, qa9, qa10, qa11, qa12, qa13, qa14, qa15, qa16, qa17, qa18, qa19, qa20, qa21, qa22, qa23, qa24, qa25, qa26, qa27, qa28, qa29, t1, t2, t3, bv_int, ba_int, b_and, b_xor, tr, z, frF, H.geo, G.full])]
  rw [ss_n (loc' := [some (.ref P), some (.int att), some (.int occ), some (.int c), some (.ref t), some (.int (frF b att occ c)), some (.int (leaF b (frF b att occ c) c))]) (σ' := σ) (by simp [qc1, qc2, qc3, qc4, qc5, qc6, qc7, qc8, qc9, qc10, qc11, qc12, qc13, qc14, qc15, qc16, qc17, qc18, ↓la0, ↓la1, ↓la2, ↓la3, ↓la4, ↓la5, ↓la6, ↓la7, ↓la8, ↓la9, ↓la10, ↓la11, ↓la12, ↓la13, qa1, qa2, qa3, qa4, qa5, qa6, qa7, qa8, qa9, qa10, qa11, qa12, qa13, qa14, qa15, qa16, qa17, qa18, qa19, qa20, qa21, qa22, qa23, qa24, qa25, qa26, qa27, qa28, qa29, qb1, qb2, h38])]
  by_cases z1 : 0 ≤ leaF b (frF b att occ c) c
  · have hl : leaF b (frF b att occ c) c < b.n := by
      rcases hb with e | ⟨i, e, hi, _⟩
      · omega
      · omega
    have hbd := H.bd _ z1 hl
    by_cases z2 : band (b.bd (leaF b (frF b att occ c) c)) 7 = 6
    · by_cases z3 : band att (b.sd (1 - c)) = 0
      · simp [qd1, qd2, qc1, qc2, qc3, qc4, qc5, qc6, qc7, qc8, qc9, qc10, qc11, qc12, qc13, qc14, qc15, qc16, qc17, qc18, ↓la0, ↓la1, ↓la2, ↓la3, ↓la4, ↓la5, ↓la6, ↓la7, ↓la8, ↓la9, ↓la10, ↓la11, ↓la12, ↓la13, qa1, qa2, qa3, qa4, qa5, qa6, qa7, qa8, qa9, qa10, qa11, qa12, qa13, qa14, qa15, qa16, qa17, qa18, qa19, qa20, qa21, qa22, qa23, qa24, qa25, qa26, qa27, qa28, qa29, qb1, qb2, cmpV, cmpI, tr, z1, z2, z3, H.board, hbd, r2, gl7, H.sides, H.sd (1 - c) (by omega) (by omega), bv_int, b_and, b_sub, nxtF]
      · simp [qd1, qd2, qc1, qc2, qc3, qc4, qc5, qc6, qc7, qc8, qc9, qc10, qc11, qc12, qc13, qc14, qc15, qc16, qc17, qc18, ↓la0, ↓la1, ↓la2, ↓la3, ↓la4, ↓la5, ↓la6, ↓la7, ↓la8, ↓la9, ↓la10, ↓la11, ↓la12, ↓la13, qa1, qa2, qa3, qa4, qa5, qa6, qa7, qa8, qa9, qa10, qa11, qa12, qa13, qa14, qa15, qa16, qa17, qa18, qa19, qa20, qa21, qa22, qa23, qa24, qa25, qa26, qa27, qa28, qa29, qb1, qb2, cmpV, cmpI, tr, z1, z2, z3, H.board, hbd, r2, gl7, H.sides, H.sd (1 - c) (by omega) (by omega), bv_int, b_and, b_sub, nxtF, unV]
    · simp [qd1, qd2, qc1, qc2, qc3, qc4, qc5, qc6, qc7, qc8, qc9, qc10, qc11, qc12, qc13, qc14, qc15, qc16, qc17, qc18, ↓la0, ↓la1, ↓la2, ↓la3, ↓la4, ↓la5, ↓la6, ↓la7, ↓la8, ↓la9, ↓la10, ↓la11, ↓la12, ↓la13, qa1, qa2, qa3, qa4, qa5, qa6, qa7, qa8, qa9, qa10, qa11, qa12, qa13, qa14, qa15, qa16, qa17, qa18, qa19, qa20, qa21, qa22, qa23, qa24, qa25, qa26, qa27, qa28, qa29, qb1, qb2, cmpV, cmpI, tr, z1, z2, H.board, hbd, r2, gl7, nxtF]
  · simp [qd1, qd2, qc1, qc2, qc3, qc4, qc5, qc6, qc7, qc8, qc9, qc10, qc11, qc12, qc13, qc14, qc15, qc16, qc17, qc18, ↓la0, ↓la1, ↓la2, ↓la3, ↓la4, ↓la5, ↓la6, ↓la7, ↓la8, ↓la9, ↓la10, ↓la11, ↓la12, ↓la13, qa1, qa2, qa3, qa4, qa5, qa6, qa7, qa8, qa9, qa10, qa11, qa12, qa13, qa14, qa15, qa16, qa17, qa18, qa19, qa20, qa21, qa22, qa23, qa24, qa25, qa26, qa27, qa28, qa29, qb1, qb2, cmpV, cmpI, tr, z1, nxtF]

noncomputable def openF (b : B) (s occ k : Int) : Int :=
  let f1 := if k = 1 ∨ k = 3 ∨ k = 5 then bor 0 (band (bishA b s occ) (bor (b.kd 3) (b.kd 5))) else 0
  if k = 4 ∨ k = 5 then bor f1 (band (rookA b s occ) (bor (b.kd 4) (b.kd 5))) else f1
theorem r40 (G : Geo σ b) (H : Pos σ P b) {s occ k : Int} (h2 : 0 ≤ s) (h3 : s < b.n) : callF prog (n + 4) 40 [.ref P, .int s, .int occ, .int k] σ = some (.int (openF b s occ k), σ) := by
  rw [call_eq]
  have hr := r20 (n := n) G (occ := occ) (s := s) (by omega) h3
  have hb := r21 (n := n) G (occ := occ) (s := s) (by omega) h3
  have g3 := H.kd 3 (by decide) (by decide)
  have g4 := H.kd 4 (by decide) (by decide)
  have g5 := H.kd 5 (by decide) (by decide)
  show Option.bind (evSs (callF prog (n + 3)) F40.body [some (.ref P), some (.int s), some (.int occ), some (.int k), none] σ) _ = _
  obtain ⟨f1, e1⟩ : ∃ f : Int, f = if k = 1 ∨ k = 3 ∨ k = 5 then bor 0 (band (bishA b s occ) (bor (b.kd 3) (b.kd 5))) else 0 := ⟨_, rfl⟩
  have e2 : openF b s occ k = if k = 4 ∨ k = 5 then bor f1 (band (rookA b s occ) (bor (b.kd 4) (b.kd 5))) else f1 := by rw [e1]; rfl
  have s2 : evS (callF prog (n + 3)) (.ifs (.or3 (.cmp .Eq (.loc 3) (.glob 2)) (.cmp .Eq (.loc 3) (.glob 4)) (.cmp .Eq (.loc 3) (.glob 6))) (.cons (.augN 4 .BitOr (.bin .BitAnd (.call 21 (.cons (.attr (.loc 0) 14) (.cons (.loc 1) (.cons (.loc 2) .nil)))) (.bin .BitOr (.idx (.attr (.loc 0) 17) (.glob 4)) (.idx (.attr (.loc 0) 17) (.glob 6)))))
      .nil) .nil) [some (.ref P), some (.int s), some (.int occ), some (.int k), some (.int 0)] σ = some (.next, [some (.ref P), some (.int s), some (.int occ), some (.int k), some (.int f1)], σ) := by
    have ht : evE (callF prog (n + 3)) [some (.ref P), some (.int s), some (.int occ), some (.int k), some (.int 0)] (.or3 (.cmp .Eq (.loc 3) (.glob 2)) (.cmp .Eq (.loc 3) (.glob 4)) (.cmp .Eq (.loc 3) (.glob 6))) σ = some (.bool (decide (k = 1 ∨ k = 3 ∨ k = 5)), σ) := by
      rw [qa13]
      by_cases k1 : k = 1
      · simp [qa8, ↓la0, ↓la1, ↓la2, ↓la3, ↓la4, ↓la5, ↓la6, ↓la7, ↓la8, ↓la9, ↓la10, ↓la11, ↓la12, ↓la13, qa1, qa5, gl2, cmpV, cmpI, tr, k1]
      by_cases k3 : k = 3
      · simp [qa8, ↓la0, ↓la1, ↓la2, ↓la3, ↓la4, ↓la5, ↓la6, ↓la7, ↓la8, ↓la9, ↓la10, ↓la11, ↓la12, ↓la13, qa1, qa5, gl2, gl4, cmpV, cmpI, tr, k3]
      by_cases k5 : k = 5
      · simp [qa8, ↓la0, ↓la1, ↓la2, ↓la3, ↓la4, ↓la5, ↓la6, ↓la7, ↓la8, ↓la9, ↓la10, ↓la11, ↓la12, ↓la13, qa1, qa5, gl2, gl4, gl6, cmpV, cmpI, tr, k5]
      · simp [qa8, ↓la0, ↓la1, ↓la2, ↓la3, ↓la4, ↓la5, ↓la6, ↓la7, ↓la8, ↓la9, ↓la10, ↓la11, ↓la12, ↓la13, qa1, qa5, gl2, gl4, gl6, cmpV, cmpI, tr, k1, k3, k5]
    rw [qc10, ht, e1]
    by_cases c : k = 1 ∨ k = 3 ∨ k = 5
    · rw [if_pos c]
      simp [tr, c, qd1, qd2, qc6, qa6, qa19, qa16, qa17, ↓la0, ↓la1, ↓la2, ↓la3, ↓la4, ↓la5, ↓la6, ↓la7, ↓la8, ↓la9, ↓la10, ↓la11, ↓la12, ↓la13, qa1, qa5, qb1, qb2, gl4, gl6, H.geo, H.kinds, g3, g5, hb, bv_int, ba_int, b_and, b_or]
    · rw [if_neg c]
      simp [tr, c, qd1]
  have s3 : evS (callF prog (n + 3)) (.ifs (.or (.cmp .Eq (.loc 3) (.glob 5)) (.cmp .Eq (.loc 3) (.glob 6))) (.cons (.augN 4 .BitOr (.bin .BitAnd (.call 20 (.cons (.attr (.loc 0) 14) (.cons (.loc 1) (.cons (.loc 2) .nil)))) (.bin .BitOr (.idx (.attr (.loc 0) 17) (.glob 5)) (.idx (.attr (.loc 0) 17) (.glob 6)))))
      .nil) .nil) [some (.ref P), some (.int s), some (.int occ), some (.int k), some (.int f1)] σ = some (.next, [some (.ref P), some (.int s), some (.int occ), some (.int k), some (.int (openF b s occ k))], σ) := by
    have ht : evE (callF prog (n + 3)) [some (.ref P), some (.int s), some (.int occ), some (.int k), some (.int f1)] (.or (.cmp .Eq (.loc 3) (.glob 5)) (.cmp .Eq (.loc 3) (.glob 6))) σ = some (.bool (decide (k = 4 ∨ k = 5)), σ) := by
      rw [qa12]
      by_cases k4 : k = 4
      · simp [qa8, ↓la0, ↓la1, ↓la2, ↓la3, ↓la4, ↓la5, ↓la6, ↓la7, ↓la8, ↓la9, ↓la10, ↓la11, ↓la12, ↓la13, qa1, qa5, gl5, cmpV, cmpI, tr, k4]
      by_cases k5 : k = 5
      · simp [qa8, ↓la0, ↓la1, ↓la2, ↓la3, ↓la4, ↓la5, ↓la6, ↓la7, ↓la8, ↓la9, ↓la10, ↓la11, ↓la12, ↓la13, qa1, qa5, gl5, gl6, cmpV, cmpI, tr, k5]
      · simp [qa8, ↓la0, ↓la1, ↓la2, ↓la3, ↓la4, ↓la5, ↓la6, ↓la7, ↓la8, ↓la9, ↓la10, ↓la11, ↓la12, ↓la13, qa1, qa5, gl5, gl6, cmpV, cmpI, tr, k4, k5]
    rw [qc10, ht, e2]
    by_cases c : k = 4 ∨ k = 5
    · rw [if_pos c]
      simp [tr, c, qd1, qd2, qc6, qa6, qa19, qa16, qa17, ↓la0, ↓la1, ↓la2, ↓la3, ↓la4, ↓la5, ↓la6, ↓la7, ↓la8, ↓la9, ↓la10, ↓la11, ↓la12, ↓la13, qa1, qa5, qb1, qb2, gl5, gl6, H.geo, H.kinds, g4, g5, hr, bv_int, ba_int, b_and, b_or]
    · rw [if_neg c]
      simp [tr, c, qd1]
  unfold F40
  rw [ss_n (loc' := [some (.ref P), some (.int s), some (.int occ), some (.int k), some (.int 0)]) (σ' := σ) (by rw [qc1, qa2]; rfl), ss_n s2, ss_n s3, qd2, qc15, qa1]
  rfl
theorem openF_bn (S : Sane b) {s occ k : Int} (h2 : 0 ≤ s) (h3 : s < b.n) : Bn b.n (openF b s occ k) := by
  have k1 : Bn b.n (if k = 1 ∨ k = 3 ∨ k = 5 then bor 0 (band (bishA b s occ) (bor (b.kd 3) (b.kd 5))) else 0) := by
    split
    · exact Bn.z.or ((S.bish (by omega) h3).and _)
    · exact Bn.z
  unfold openF
  dsimp only
  split
  · exact k1.or ((S.rook (by omega) h3).and _)
  · exact k1

/-! the move's three parts -/
structure Mv (b : B) (mv o g : Int) : Prop where
  to : band mv 63 = g
  fr : band (shr mv 6) 63 = o
  sp : band (shr mv 14) 3 = 0
  o0 : 0 ≤ o
  o1 : o < b.n
  g0 : 0 ≤ g
  g1 : g < b.n
noncomputable def packF (o g : Int) : Int := bor (bor (bor g (shl o 6)) (shl 0 12)) (shl 0 14)
theorem r3 {o g : Int} (h0 : 0 ≤ o) (h1 : o < 20) : callF prog (n + 1) 3 [.int o, .int g, .int 0, .int 0] σ = some (.int (packF o g), σ) := by
  simp [call_eq, pg3, runFn, F3, qd1, qd2, qc1, qc2, qc3, qc4, qc5, qc6, qc7, qc8, qc9, qc10, qc11, qc12, qc13, qc14, qc15, qc16, qc17, qc18, ↓la0, ↓la1, ↓la2, ↓la3, ↓la4, ↓la5, ↓la6, ↓la7, ↓la8, ↓la9, ↓la10, ↓la11, ↓la12, ↓la13, qa1, qa2, qa3, qa4, qa5, qa6, qa7, qa8, qa9, qa10, qa11, qa12, qa13, qa14, qa15, qa16, qa17, qa18, qa19, qa20, qa21, qa22, qa23, qa24, qa25, qa26, qa27, qa28, qa29, gl10, cmpV, cmpI, tr, bv_int, b_or, b_shl (a := o) (b := 6) (by decide) (by decide) (by omega), b_shl (a := 0) (b := 12) (by decide) (by decide) (by decide), b_shl (a := 0) (b := 14) (by decide) (by decide) (by decide), packF]
theorem pack_mv (S : Sane b) {o g : Int} (h0 : 0 ≤ o) (h1 : o < b.n) (h2 : 0 ≤ g) (h3 : g < b.n) : Mv b (packF o g) o g := by
  have key : ∀ o g : Fin 20, band (packF (o.1 : Int) (g.1 : Int)) 63 = (g.1 : Int) ∧ band (shr (packF (o.1 : Int) (g.1 : Int)) 6) 63 = (o.1 : Int) ∧ band (shr (packF (o.1 : Int) (g.1 : Int)) 14) 3 = 0 := by decide +kernel
  have hn := S.n20
  have k := key ⟨o.toNat, by omega⟩ ⟨g.toNat, by omega⟩
  simp only [Int.toNat_of_nonneg h0, Int.toNat_of_nonneg h2] at k
  exact ⟨k.1, k.2.1, k.2.2, h0, h1, h2, h3⟩
noncomputable def occ0 (b : B) (o g : Int) : Int := band (bor (b.sd 0) (b.sd 1)) (bxor ((2 : Int) ^ b.n - 1) (bor (shl 1 o) (shl 1 g)))
theorem r41 (G : Geo σ b) (H : Pos σ P b) (S : Sane b) (M : Men b) {mv o g : Int} (V : Mv b mv o g) {t : Nat} {v : Int → Int} (T : Vals σ t v) :
    callF prog (n + 2) 41 [.ref P, .int mv, .ref t] σ = some (.ref σ.length, σ ++ [.tup [.int (v (band (b.bd g) 7)), .int (occ0 b o g)]]) := by
  rw [call_eq]
  have hg := M.bd g V.g0 V.g1
  have hn := S.n20
  have := V.o1
  have := V.g1
  show Option.bind (evSs (callF prog (n + 1)) F41.body [some (.ref P), some (.int mv), some (.ref t), none, none, none, none] σ) _ = _
  unfold F41
  rw [ss_n (loc' := [some (.ref P), some (.int mv), some (.ref t), some (.int g), none, none, none]) (σ' := σ) (by simp [qc1, qa19, qb1, qb2, ↓la1, r5, V.to]),
    ss_n (loc' := [some (.ref P), some (.int mv), some (.ref t), some (.int g), some (.int (bor (shl 1 o) (shl 1 g))), none, none]) (σ' := σ) (by
      simp [qc1, qa6, qa19, qb1, qb2, ↓la1, ↓la3, qa2, r4, V.fr, bv_int, b_or, b_shl (a := 1) (b := o) V.o0 (by omega) (by decide), b_shl (a := 1) (b := g) V.g0 (by omega) (by decide)]),
    ss_n (loc' := [some (.ref P), some (.int mv), some (.ref t), some (.int g), some (.int (bor (shl 1 o) (shl 1 g))), some (.int (v (band (b.bd g) 7))), none]) (σ' := σ) (by simp [qc1, qa17, qa19, qb1, qb2, qa16, ↓la0, ↓la2, ↓la3, r2, H.board, H.bd g V.g0 V.g1, T _ hg.1 hg.2]),
    ss_n (ifs_f (v := .bool false) (by simp [qa8, qa19, qb1, qb2, ↓la1, qa5, r6, V.sp, gl11, cmpV, cmpI]) rfl)]
  simp [qd2, qc15, qa25, qb1, qb2, ↓la5, qa6, qa17, qa16, ↓la0, ↓la4, qa2, H.sides, H.sd 0 (by decide) (by decide), H.sd 1 (by decide) (by decide), H.geo, G.full, bv_int, b_or, b_and, b_xor, occ0]
end
end Mine.Law

/-! ## P8 -/
namespace Mine.Law
open PySem PyProof.Rows

/-! counting bits -/
noncomputable def cnt (n : Nat) (x : Int) : Nat := (List.range n).countP (tb x)
theorem countP_one {p q : Nat → Bool} {s : Nat} (hp : p s = true) (hq : q s = false) (he : ∀ i, i ≠ s → q i = p i) : ∀ n, (List.range n).countP q + (if s < n then 1 else 0) = (List.range n).countP p
  | 0 => by simp
  | n + 1 => by
    have ih := countP_one hp hq he n
    rw [List.range_succ, List.countP_append, List.countP_append]
    by_cases e : s = n
    · subst e
      simp only [List.countP_cons, List.countP_nil, hp, hq] at ih ⊢
      simp at ih ⊢
      omega
    · have h2 : q n = p n := he n (Ne.symm e)
      simp only [List.countP_cons, List.countP_nil, h2]
      by_cases hl : s < n
      · rw [if_pos hl] at ih
        have hl2 : s < n + 1 := by omega
        rw [if_pos hl2]
        omega
      · rw [if_neg hl] at ih
        have hl2 : ¬ s < n + 1 := by omega
        rw [if_neg hl2]
        omega
theorem shl_one (i : Nat) : shl 1 (i : Int) = ((2 ^ i : Nat) : Int) := by unfold shl; rw [Int.toNat_natCast, shl_nat]
theorem tb_flip {x : Int} (hx : 0 ≤ x) (i j : Nat) : tb (bxor x (shl 1 (i : Int))) j = (tb x j ^^ decide (i = j)) := by
  rw [shl_one, xor_pp hx (Int.natCast_nonneg _)]
  unfold tb
  rw [Int.toNat_natCast, Int.toNat_natCast, Nat.testBit_xor, Nat.testBit_two_pow]
theorem cnt_flip {n : Nat} {x : Int} (h : Bn n x) {i : Nat} (hi : i < n) (ht : tb x i = true) : cnt n (bxor x (shl 1 (i : Int))) + 1 = cnt n x := by
  have := countP_one (p := tb x) (q := tb (bxor x (shl 1 (i : Int)))) (s := i) ht (by rw [tb_flip h.1]; simp [ht]) (fun j hj => by rw [tb_flip h.1]; simp [Ne.symm hj]) n
  rw [if_pos hi] at this
  exact this
theorem cnt_pos {n : Nat} {x : Int} {i : Nat} (hi : i < n) (ht : tb x i = true) : 0 < cnt n x := List.countP_pos_iff.mpr ⟨i, List.mem_range.mpr hi, ht⟩
theorem cnt_le (n : Nat) (x : Int) : cnt n x ≤ n := by
  have := List.countP_le_length (p := tb x) (l := List.range n)
  rwa [List.length_range] at this

/-! the exchange, without its numbers -/
noncomputable def occN (occ s : Int) : Int := bxor occ (shl 1 s)
noncomputable def attN (b : B) (g att occ s : Int) : Int := band (bor att (openF b g (occN occ s) (band (b.bd s) 7))) (occN occ s)
noncomputable def chain (b : B) (g : Int) : Nat → Int → Int → Int → List Int
  | 0, _, _, _ => []
  | k + 1, att, occ, c => if nxtF b att occ c < 0 then [] else band (b.bd (nxtF b att occ c)) 7 :: chain b g k (attN b g att occ (nxtF b att occ c)) (occN occ (nxtF b att occ c)) (1 - c)

structure St (b : B) (att occ c : Int) : Prop where
  ho : Bn b.n occ
  ha : Bn b.n att
  sub : ∀ i, tb att i = true → tb occ i = true
  c0 : 0 ≤ c
  c1 : c < 2
theorem St.next {b : B} (S : Sane b) (M : Men b) {g att occ c : Int} (h : St b att occ c) (hg : 0 ≤ g) (hg1 : g < b.n) (hz : ¬ nxtF b att occ c < 0) :
    0 ≤ nxtF b att occ c ∧ nxtF b att occ c < b.n ∧ St b (attN b g att occ (nxtF b att occ c)) (occN occ (nxtF b att occ c)) (1 - c) ∧ cnt b.n (occN occ (nxtF b att occ c)) + 1 = cnt b.n occ := by
  rcases nxtF_bit S M (att := att) (occ := occ) h.c0 h.c1 h.ha.1 with e | ⟨i, e, hi, ht⟩
  · omega
  · rw [e]
    have ho : Bn b.n (occN occ (i : Int)) := h.ho.xor (by rw [shl_one]; exact .of (Nat.pow_lt_pow_right (by omega) hi))
    have ha : Bn b.n (attN b g att occ (i : Int)) := (h.ha.or (openF_bn S hg hg1)).and _
    exact ⟨Int.natCast_nonneg _, by omega, ⟨ho, ha, fun j hj => tb_and_r ho.1 hj, by have := h.c1; omega, by have := h.c0; omega⟩, cnt_flip h.ho hi (h.sub i ht)⟩
theorem St.empty {b : B} (S : Sane b) (M : Men b) {att occ c : Int} (h : St b att occ c) (hz : cnt b.n occ = 0) : nxtF b att occ c < 0 := by
  rcases nxtF_bit S M (att := att) (occ := occ) h.c0 h.c1 h.ha.1 with e | ⟨i, e, hi, ht⟩
  · omega
  · have := cnt_pos hi (h.sub i ht); omega

noncomputable def swp (v : Int → Int) : Int → Int → List Int → List Int
  | _, _, [] => []
  | prev, last, k :: ks => (v prev - last) :: swp v k (v prev - last) ks
noncomputable def m2 (a z : Int) : Int := if -z < a then -z else a
noncomputable def red : List Int → Int
  | [] => 0
  | [x] => x
  | x :: y :: r => m2 x (red (y :: r))
noncomputable def sv (v : Int → Int) (prev last : Int) (ks : List Int) : Int := red (last :: swp v prev last ks)

section
variable {σ : Hp} {b : B} {n P : Nat}

theorem pins_made (G : Geo σ b) (H : Pos σ P b) (S : Sane b) (M : Men b) (r : Loc) : ∃ id σ', evE (callF prog (n + 5)) (some (.ref P) :: r) (.tup (.cons (.call 37 (.cons (.loc 0) (.cons (.int 0) .nil))) (.cons (.call 37 (.cons (.loc 0) (.cons (.int 1) .nil))) .nil))) σ = some (.ref id, σ') ∧ Le σ σ' ∧ PinsAt σ' id b := by
  obtain ⟨i0, σ1, h1, l1, t1⟩ := r37 (n := n) G H S M (c := 0) (by decide) (by decide)
  have G1 := G.keep l1.keep
  have H1 := H.keep l1.keep
  obtain ⟨i1, σ2, h2, l2, t2⟩ := r37 (n := n) G1 H1 S M (c := 1) (by decide) (by decide)
  refine ⟨σ2.length, σ2 ++ [.tup [.ref i0, .ref i1]], by simp [↓la0, ↓la1, ↓la2, ↓la3, ↓la4, ↓la5, ↓la6, ↓la7, ↓la8, ↓la9, ↓la10, ↓la11, ↓la12, ↓la13, qa1, qa2, qa3, qa4, qa5, qa6, qa7, qa8, qa9, qa10, qa11, qa12, qa13, qa14, qa15, qa16, qa17, qa18, qa19, qa20, qa21, qa22, qa23, qa24, qa25, qa26, qa27, qa28, qa29, qb1, qb2, h1, h2], l1.trans (l2.trans Le.app), ?_⟩
  have e1 : (σ2 ++ [MObj.tup [.ref i0, .ref i1]])[i0]? = some (.tup [.int (blkF b 0).1, .int (blkF b 0).2]) := Le.app _ _ (l2 _ _ t1)
  have e2 : (σ2 ++ [MObj.tup [.ref i0, .ref i1]])[i1]? = some (.tup [.int (blkF b 1).1, .int (blkF b 1).2]) := Le.app _ _ t2
  intro c h0 h1
  have hc : c = 0 ∨ c = 1 := by omega
  rcases hc with rfl | rfl
  · exact ⟨i0, by simp [getI, place], by simp [getI, place, e1], by simp [getI, place, e1]⟩
  · exact ⟨i1, by simp [getI, place], by simp [getI, place, e2], by simp [getI, place, e2]⟩

theorem last_get {w : Nat} {xs : List Int} {last : Int} (h : σ[w]? = some (.list ((xs ++ [last]).map MV.int))) (hl : (xs ++ [last]).length ≤ 1000) : getI σ (.ref w) (.int (-1)) = some (.int last) := by
  have hl' : xs.length + 1 ≤ 1000 := by simpa using hl
  have hp : place (xs.length + 1) (-1) = some xs.length := by
    unfold place
    rw [if_neg (by decide), if_pos (by omega)]
    congr 1
    omega
  unfold getI
  simp only [h, List.length_map, List.length_append, List.length_cons, List.length_nil, hl', if_true, hp, Option.bind_some]
  simp

noncomputable def swC : E := .cmp .GtE (.loc 11) (.int 0)
noncomputable def swB : Ss := (.cons (.app (.loc 10) (.bin .Sub (.idx (.loc 2) (.loc 8)) (.idx (.loc 10) (.un .USub (.int 1)))))
    (.cons (.set 8 (.call 2 (.cons (.idx (.attr (.loc 0) 16) (.loc 11)) .nil)))
    (.cons (.augN 5 .BitXor (.bin .LShift (.int 1) (.loc 11)))
    (.cons (.set 7 (.bin .BitAnd (.bin .BitOr (.loc 7) (.call 40 (.cons (.loc 0) (.cons (.loc 3) (.cons (.loc 5) (.cons (.loc 8) .nil)))))) (.loc 5)))
    (.cons (.set 9 (.bin .Sub (.int 1) (.loc 9)))
    (.cons (.set 11 (.call 39 (.cons (.loc 0) (.cons (.loc 7) (.cons (.loc 5) (.cons (.loc 9) (.cons (.loc 6) .nil)))))))
    .nil))))))
theorem sw_loop (σ0 : Hp) (G : Geo σ0 b) (H : Pos σ0 P b) (S : Sane b) (M : Men b) {t pt w : Nat} {v : Int → Int} (T : Vals σ0 t v) (PT : PinsAt σ0 pt b) {mv g tk : Int} (hg : 0 ≤ g) (hg1 : g < b.n) (hw : σ0.length ≤ w) (ol : Option MV) :
    ∀ (k fu : Nat) (att occ c kind last : Int) (xs : List Int) (σ : Hp), St b att occ c → cnt b.n occ ≤ k → k < fu → 0 ≤ kind → kind < 7 → Le σ0 σ → σ[w]? = some (.list ((xs ++ [last]).map MV.int)) → xs.length + k < 900 →
    ∃ a1 a2 a3 a4 a5, whileN (fun loc σ => evE (callF prog (n + 5)) loc swC σ) (evSs (callF prog (n + 5)) swB) fu
      [some (.ref P), some (.int mv), some (.ref t), some (.int g), some (.int tk), some (.int occ), some (.ref pt), some (.int att), some (.int kind), some (.int c), some (.ref w), some (.int (nxtF b att occ c)), ol] σ =
      some (.next, [some (.ref P), some (.int mv), some (.ref t), some (.int g), some (.int tk), a1, some (.ref pt), a2, a3, a4, some (.ref w), a5, ol], σ.set w (.list ((xs ++ last :: swp v kind last (chain b g k att occ c)).map MV.int))) := by
  intro k fu
  induction fu generalizing k with
  | zero => intro _ _ _ _ _ _ _ _ _ hf; exact absurd hf (Nat.not_lt_zero _)
  | succ fu IH =>
    intro att occ c kind last xs σ hs hc hf k0 k1 hle hxs hlen
    by_cases hz : nxtF b att occ c < 0
    · refine ⟨some (.int occ), some (.int att), some (.int kind), some (.int c), some (.int (nxtF b att occ c)), ?_⟩
      rw [while_f (v := .bool false) (σ1 := σ) (by simp [swC, ↓la0, ↓la1, ↓la2, ↓la3, ↓la4, ↓la5, ↓la6, ↓la7, ↓la8, ↓la9, ↓la10, ↓la11, ↓la12, ↓la13, qa1, qa2, qa3, qa4, qa5, qa6, qa7, qa8, qa9, qa10, qa11, qa12, qa13, qa14, qa15, qa16, qa17, qa18, qa19, qa20, qa21, qa22, qa23, qa24, qa25, qa26, qa27, qa28, qa29, cmpV, cmpI, hz]) rfl]
      have e : chain b g k att occ c = [] := by cases k <;> simp [chain, hz]
      rw [e]
      have hs : σ.set w (.list ((xs ++ [last]).map MV.int)) = σ := by
        apply List.ext_getElem?
        intro i
        rw [List.getElem?_set]
        by_cases e : w = i
        · subst e
          obtain ⟨h1, h2⟩ := List.getElem?_eq_some_iff.mp hxs
          simp [h1, h2]
        · simp [e]
      rw [show swp v kind last [] = [] from rfl, hs]
    · refine hide fun X back => ?_
      obtain ⟨q0, q1, hs', hcnt⟩ := hs.next S M hg hg1 hz
      cases k with
      | zero => exact absurd (hs.empty S M (by omega)) hz
      | succ k =>
        obtain ⟨σ', e'⟩ : ∃ s : Hp, s = σ.set w (.list ((xs ++ [last] ++ [v kind - last]).map MV.int)) := ⟨_, rfl⟩
        have hle' : Le σ0 σ' := e' ▸ hle.set hw
        have Hk := H.keep hle.keep
        have Hk' := H.keep hle'.keep
        have Gk' := G.keep hle'.keep
        have hw' := (List.getElem?_eq_some_iff.mp hxs).1
        have hb := M.bd _ q0 q1
        have hlast := last_get hxs (by simp; omega)
        obtain ⟨a1, a2, a3, a4, a5, ih⟩ := IH k (attN b g att occ (nxtF b att occ c)) (occN occ (nxtF b att occ c)) (1 - c) (band (b.bd (nxtF b att occ c)) 7) (v kind - last) (xs ++ [last]) σ' hs' (by omega) (by omega) hb.1 hb.2 hle' (by rw [e']; simp [hw']) (by simp; omega)
        refine back ?_
        refine ⟨a1, a2, a3, a4, a5, ?_⟩
        have n20 := S.n20
        rw [while_t (v := .bool true) (σ1 := σ) (σ' := σ') (loc' := [some (.ref P), some (.int mv), some (.ref t), some (.int g), some (.int tk), some (.int (occN occ (nxtF b att occ c))), some (.ref pt), some (.int (attN b g att occ (nxtF b att occ c))), some (.int (band (b.bd (nxtF b att occ c)) 7)), some (.int (1 - c)), some (.ref w), some (.int (nxtF b (attN b g att occ (nxtF b att occ c)) (occN occ (nxtF b att occ c)) (1 - c))), ol])
          (by simp [swC, ↓la0, ↓la1, ↓la2, ↓la3, ↓la4, ↓la5, ↓la6, ↓la7, ↓la8, ↓la9, ↓la10, ↓la11, ↓la12, ↓la13, qa1, qa2, qa3, qa4, qa5, qa6, qa7, qa8, qa9, qa10, qa11, qa12, qa13, qa14, qa15, qa16, qa17, qa18, qa19, qa20, qa21, qa22, qa23, qa24, qa25, qa26, qa27, qa28, qa29, cmpV, cmpI, q0]) rfl ?_, ih]
        · simp [chain, hz, swp, e']
        · unfold swB
          rw [ss_n (loc' := [some (.ref P), some (.int mv), some (.ref t), some (.int g), some (.int tk), some (.int occ), some (.ref pt), some (.int att), some (.int kind), some (.int c), some (.ref w), some (.int (nxtF b att occ c)), ol]) (σ' := σ') (by
            have hl : xs.length + 1 ≤ 1000 := by omega
            simp [qc1, qc2, qc3, qc4, qc5, qc6, qc7, qc8, qc9, qc10, qc11, qc12, qc13, qc14, qc15, qc16, qc17, qc18, ↓la0, ↓la1, ↓la2, ↓la3, ↓la4, ↓la5, ↓la6, ↓la7, ↓la8, ↓la9, ↓la10, ↓la11, ↓la12, ↓la13, qa1, qa2, qa3, qa4, qa5, qa6, qa7, qa8, qa9, qa10, qa11, qa12, qa13, qa14, qa15, qa16, qa17, qa18, qa19, qa20, qa21, qa22, qa23, qa24, qa25, qa26, qa27, qa28, qa29, isL, appV, hxs, hlast, (T.keep hle.keep) kind k0 k1, unV, bv_int, b_sub, hl, e'])]
          rw [ss_n (loc' := [some (.ref P), some (.int mv), some (.ref t), some (.int g), some (.int tk), some (.int occ), some (.ref pt), some (.int att), some (.int (band (b.bd (nxtF b att occ c)) 7)), some (.int c), some (.ref w), some (.int (nxtF b att occ c)), ol]) (σ' := σ') (by
            simp [qc1, qc2, qc3, qc4, qc5, qc6, qc7, qc8, qc9, qc10, qc11, qc12, qc13, qc14, qc15, qc16, qc17, qc18, ↓la0, ↓la1, ↓la2, ↓la3, ↓la4, ↓la5, ↓la6, ↓la7, ↓la8, ↓la9, ↓la10, ↓la11, ↓la12, ↓la13, qa1, qa2, qa3, qa4, qa5, qa6, qa7, qa8, qa9, qa10, qa11, qa12, qa13, qa14, qa15, qa16, qa17, qa18, qa19, qa20, qa21, qa22, qa23, qa24, qa25, qa26, qa27, qa28, qa29, qb1, qb2, Hk'.board, Hk'.bd _ q0 q1, r2])]
          rw [ss_n (loc' := [some (.ref P), some (.int mv), some (.ref t), some (.int g), some (.int tk), some (.int (occN occ (nxtF b att occ c))), some (.ref pt), some (.int att), some (.int (band (b.bd (nxtF b att occ c)) 7)), some (.int c), some (.ref w), some (.int (nxtF b att occ c)), ol]) (σ' := σ') (by
            simp [qc1, qc2, qc3, qc4, qc5, qc6, qc7, qc8, qc9, qc10, qc11, qc12, qc13, qc14, qc15, qc16, qc17, qc18, ↓la0, ↓la1, ↓la2, ↓la3, ↓la4, ↓la5, ↓la6, ↓la7, ↓la8, ↓la9, ↓la10, ↓la11, ↓la12, ↓la13, qa1, qa2, qa3, qa4, qa5, qa6, qa7, qa8, qa9, qa10, qa11, qa12, qa13, qa14, qa15, qa16, qa17, qa18, qa19, qa20, qa21, qa22, qa23, qa24, qa25, qa26, qa27, qa28, qa29, bv_int, ba_int, b_xor, b_shl (a := 1) (b := nxtF b att occ c) q0 (by omega) (by decide), occN])]
          rw [ss_n (loc' := [some (.ref P), some (.int mv), some (.ref t), some (.int g), some (.int tk), some (.int (occN occ (nxtF b att occ c))), some (.ref pt), some (.int (attN b g att occ (nxtF b att occ c))), some (.int (band (b.bd (nxtF b att occ c)) 7)), some (.int c), some (.ref w), some (.int (nxtF b att occ c)), ol]) (σ' := σ') (by
            simp [qc1, qc2, qc3, qc4, qc5, qc6, qc7, qc8, qc9, qc10, qc11, qc12, qc13, qc14, qc15, qc16, qc17, qc18, ↓la0, ↓la1, ↓la2, ↓la3, ↓la4, ↓la5, ↓la6, ↓la7, ↓la8, ↓la9, ↓la10, ↓la11, ↓la12, ↓la13, qa1, qa2, qa3, qa4, qa5, qa6, qa7, qa8, qa9, qa10, qa11, qa12, qa13, qa14, qa15, qa16, qa17, qa18, qa19, qa20, qa21, qa22, qa23, qa24, qa25, qa26, qa27, qa28, qa29, qb1, qb2, bv_int, b_or, b_and, r40 (n := n + 1) Gk' Hk' (occ := occN occ (nxtF b att occ c)) (k := band (b.bd (nxtF b att occ c)) 7) hg hg1, attN])]
          rw [ss_n (loc' := [some (.ref P), some (.int mv), some (.ref t), some (.int g), some (.int tk), some (.int (occN occ (nxtF b att occ c))), some (.ref pt), some (.int (attN b g att occ (nxtF b att occ c))), some (.int (band (b.bd (nxtF b att occ c)) 7)), some (.int (1 - c)), some (.ref w), some (.int (nxtF b att occ c)), ol]) (σ' := σ') (by
            simp [qc1, qc2, qc3, qc4, qc5, qc6, qc7, qc8, qc9, qc10, qc11, qc12, qc13, qc14, qc15, qc16, qc17, qc18, ↓la0, ↓la1, ↓la2, ↓la3, ↓la4, ↓la5, ↓la6, ↓la7, ↓la8, ↓la9, ↓la10, ↓la11, ↓la12, ↓la13, qa1, qa2, qa3, qa4, qa5, qa6, qa7, qa8, qa9, qa10, qa11, qa12, qa13, qa14, qa15, qa16, qa17, qa18, qa19, qa20, qa21, qa22, qa23, qa24, qa25, qa26, qa27, qa28, qa29, bv_int, b_sub])]
          rw [ss_n (loc' := [some (.ref P), some (.int mv), some (.ref t), some (.int g), some (.int tk), some (.int (occN occ (nxtF b att occ c))), some (.ref pt), some (.int (attN b g att occ (nxtF b att occ c))), some (.int (band (b.bd (nxtF b att occ c)) 7)), some (.int (1 - c)), some (.ref w), some (.int (nxtF b (attN b g att occ (nxtF b att occ c)) (occN occ (nxtF b att occ c)) (1 - c))), ol]) (σ' := σ') (by
            simp [qc1, qc2, qc3, qc4, qc5, qc6, qc7, qc8, qc9, qc10, qc11, qc12, qc13, qc14, qc15, qc16, qc17, qc18, ↓la0, ↓la1, ↓la2, ↓la3, ↓la4, ↓la5, ↓la6, ↓la7, ↓la8, ↓la9, ↓la10, ↓la11, ↓la12, ↓la13, qa1, qa2, qa3, qa4, qa5, qa6, qa7, qa8, qa9, qa10, qa11, qa12, qa13, qa14, qa15, qa16, qa17, qa18, qa19, qa20, qa21, qa22, qa23, qa24, qa25, qa26, qa27, qa28, qa29, qb1, qb2, r39 (n := n + 1) Gk' Hk' S M (PT.keep hle'.keep) (att := attN b g att occ (nxtF b att occ c)) (occ := occN occ (nxtF b att occ c)) hs'.c0 hs'.c1 hs'.ha.1])]
          exact ss_nil
end
end Mine.Law

/-! ## P9 -/
namespace Mine.Law
open PySem PyProof.Rows

theorem red_snoc (a z : Int) : ∀ (xs : List Int), red (xs ++ [a, z]) = red (xs ++ [m2 a z])
  | [] => by simp [red]
  | [x] => by simp [red]
  | x :: y :: r => by
    have := red_snoc a z (y :: r)
    simp only [List.cons_append] at this ⊢
    simp only [red]
    rw [this]

section
variable {σ : Hp} {b : B} {n P : Nat}

noncomputable def rdC : E := .cmp .Gt (.len (.loc 10)) (.int 1)
noncomputable def rdB : Ss := (.cons (.set 12 (.pop (.loc 10)))
    (.cons (.ifs (.cmp .Lt (.un .USub (.loc 12)) (.idx (.loc 10) (.un .USub (.int 1)))) (.cons (.setI (.loc 10) (.un .USub (.int 1)) (.un .USub (.loc 12)))
    .nil) .nil)
    .nil))
theorem rd_loop {Γ : Gam} (w : Nat) (a0 a1 a2 a3 a4 a5 a6 a7 a8 a9 a11 : Option MV) : ∀ (k fu : Nat) (xs : List Int) (σ : Hp) (o : Option MV), xs.length = k + 1 → k < fu → k < 900 → σ[w]? = some (.list (xs.map MV.int)) →
    ∃ o', whileN (fun loc σ => evE Γ loc rdC σ) (evSs Γ rdB) fu [a0, a1, a2, a3, a4, a5, a6, a7, a8, a9, some (.ref w), a11, o] σ = some (.next, [a0, a1, a2, a3, a4, a5, a6, a7, a8, a9, some (.ref w), a11, o'], σ.set w (.list [.int (red xs)]))
  | 0, fu + 1, xs, σ, o, hl, hf, hk, hw => by
    match xs, hl with
    | [x], _ =>
      refine ⟨o, ?_⟩
      rw [while_f (v := .bool false) (σ1 := σ) (by simp [rdC, ↓la0, ↓la1, ↓la2, ↓la3, ↓la4, ↓la5, ↓la6, ↓la7, ↓la8, ↓la9, ↓la10, ↓la11, ↓la12, ↓la13, qa1, qa2, qa3, qa4, qa5, qa6, qa7, qa8, qa9, qa10, qa11, qa12, qa13, qa14, qa15, qa16, qa17, qa18, qa19, qa20, qa21, qa22, qa23, qa24, qa25, qa26, qa27, qa28, qa29, lenV, hw, cmpV, cmpI]) rfl]
      have hs : σ.set w (.list [.int (red [x])]) = σ := by
        apply List.ext_getElem?
        intro i
        rw [List.getElem?_set]
        by_cases e : w = i
        · subst e
          obtain ⟨h1, h2⟩ := List.getElem?_eq_some_iff.mp hw
          simp [h1, h2, red]
        · simp [e]
      rw [hs]
  | k + 1, fu + 1, xs, σ, o, hl, hf, hk, hw => by
    obtain ⟨ys, a, z, rfl⟩ : ∃ ys a z, xs = ys ++ [a, z] := by
      have h1 : xs ≠ [] := by intro e; rw [e] at hl; simp at hl
      have e1 := (List.dropLast_concat_getLast h1).symm
      have h2 : xs.dropLast ≠ [] := by intro e; have := congrArg List.length e; rw [List.length_dropLast] at this; simp at this; omega
      have e2 := (List.dropLast_concat_getLast h2).symm
      exact ⟨xs.dropLast.dropLast, xs.dropLast.getLast h2, xs.getLast h1, e1.trans ((congrArg (· ++ [xs.getLast h1]) e2).trans (List.append_assoc _ _ _))⟩
    have hlen : ys.length = k := by simp at hl; omega
    have hwl := (List.getElem?_eq_some_iff.mp hw).1
    obtain ⟨σ1, e1⟩ : ∃ s : Hp, s = σ.set w (.list ((ys ++ [a]).map MV.int)) := ⟨_, rfl⟩
    have h1 : σ1[w]? = some (.list ((ys ++ [a]).map MV.int)) := by rw [e1]; simp [hwl]
    obtain ⟨σ2, e2⟩ : ∃ s : Hp, s = σ.set w (.list ((ys ++ [m2 a z]).map MV.int)) := ⟨_, rfl⟩
    have h2 : σ2[w]? = some (.list ((ys ++ [m2 a z]).map MV.int)) := by rw [e2]; simp [hwl]
    obtain ⟨o', ih⟩ := rd_loop (Γ := Γ) w a0 a1 a2 a3 a4 a5 a6 a7 a8 a9 a11 k fu (ys ++ [m2 a z]) σ2 (some (.int z)) (by simp; omega) (by omega) (by omega) h2
    refine ⟨o', ?_⟩
    have hlast := last_get h1 (by simp; omega)
    have e12 : ys.length + 2 ≤ 1000 := by omega
    rw [while_t (v := .bool true) (σ1 := σ) (σ' := σ2) (loc' := [a0, a1, a2, a3, a4, a5, a6, a7, a8, a9, some (.ref w), a11, some (.int z)]) (by simp [rdC, ↓la0, ↓la1, ↓la2, ↓la3, ↓la4, ↓la5, ↓la6, ↓la7, ↓la8, ↓la9, ↓la10, ↓la11, ↓la12, ↓la13, qa1, qa2, qa3, qa4, qa5, qa6, qa7, qa8, qa9, qa10, qa11, qa12, qa13, qa14, qa15, qa16, qa17, qa18, qa19, qa20, qa21, qa22, qa23, qa24, qa25, qa26, qa27, qa28, qa29, lenV, hw, cmpV, cmpI, e12]; omega) rfl ?_, ih]
    · rw [e2, red_snoc]; simp
    · unfold rdB
      rw [ss_n (loc' := [a0, a1, a2, a3, a4, a5, a6, a7, a8, a9, some (.ref w), a11, some (.int z)]) (σ' := σ1) (by
        have hd : (ys ++ [a, z]).map MV.int = ((ys ++ [a]).map MV.int) ++ [.int z] := by simp
        rw [hd] at hw
        have hll : ((ys ++ [a]).map MV.int ++ [MV.int z]).length ≤ 1000 := by simp; omega
        simp only [qc1, qc2, qc3, qc4, qc5, qc6, qc7, qc8, qc9, qc10, qc11, qc12, qc13, qc14, qc15, qc16, qc17, qc18, ↓la0, ↓la1, ↓la2, ↓la3, ↓la4, ↓la5, ↓la6, ↓la7, ↓la8, ↓la9, ↓la10, ↓la11, ↓la12, ↓la13, qa1, qa2, qa3, qa4, qa5, qa6, qa7, qa8, qa9, qa10, qa11, qa12, qa13, qa14, qa15, qa16, qa17, qa18, qa19, qa20, qa21, qa22, qa23, qa24, qa25, qa26, qa27, qa28, qa29, List.getElem?_cons_succ, List.getElem?_cons_zero, Option.join_some, Option.map_some, Option.bind_some, popV, hw, hll, if_true, List.getLast?_concat, List.dropLast_concat, e1]
        rfl)]
      by_cases hm : -z < a
      · rw [ss_n (loc' := [a0, a1, a2, a3, a4, a5, a6, a7, a8, a9, some (.ref w), a11, some (.int z)]) (σ' := σ2) (by
          have hp : place ((ys ++ [a]).map MV.int).length (-1) = some ys.length := by
            unfold place
            rw [if_neg (by decide)]
            simp only [List.length_map, List.length_append, List.length_cons, List.length_nil]
            rw [if_pos (by omega)]
            congr 1
            omega
          have hll : ((ys ++ [a]).map MV.int).length ≤ 1000 := by simp; omega
          have hset : ((ys ++ [a]).map MV.int).set ys.length (.int (-z)) = (ys ++ [m2 a z]).map MV.int := by
            rw [List.map_append, List.set_append_right _ _ (by simp)]
            simp [m2, hm]
          have hput : putI σ1 (.ref w) (.int (-1)) (.int (-z)) = some σ2 := by
            unfold putI
            simp only [h1, hll, if_true, hp, Option.map_some, hset]
            rw [e1, e2, List.set_set]
          simp [qd1, qd2, qc1, qc2, qc3, qc4, qc5, qc6, qc7, qc8, qc9, qc10, qc11, qc12, qc13, qc14, qc15, qc16, qc17, qc18, ↓la0, ↓la1, ↓la2, ↓la3, ↓la4, ↓la5, ↓la6, ↓la7, ↓la8, ↓la9, ↓la10, ↓la11, ↓la12, ↓la13, qa1, qa2, qa3, qa4, qa5, qa6, qa7, qa8, qa9, qa10, qa11, qa12, qa13, qa14, qa15, qa16, qa17, qa18, qa19, qa20, qa21, qa22, qa23, qa24, qa25, qa26, qa27, qa28, qa29, unV, hlast, cmpV, cmpI, tr, hm, hput])]
        exact ss_nil
      · have e3 : σ1 = σ2 := by rw [e1, e2]; simp [m2, hm]
        rw [ss_n (loc' := [a0, a1, a2, a3, a4, a5, a6, a7, a8, a9, some (.ref w), a11, some (.int z)]) (σ' := σ2) (by
          rw [← e3]
          simp [qd1, qd2, qc1, qc2, qc3, qc4, qc5, qc6, qc7, qc8, qc9, qc10, qc11, qc12, qc13, qc14, qc15, qc16, qc17, qc18, ↓la0, ↓la1, ↓la2, ↓la3, ↓la4, ↓la5, ↓la6, ↓la7, ↓la8, ↓la9, ↓la10, ↓la11, ↓la12, ↓la13, qa1, qa2, qa3, qa4, qa5, qa6, qa7, qa8, qa9, qa10, qa11, qa12, qa13, qa14, qa15, qa16, qa17, qa18, qa19, qa20, qa21, qa22, qa23, qa24, qa25, qa26, qa27, qa28, qa29, unV, hlast, cmpV, cmpI, tr, hm])]
        exact ss_nil
noncomputable def att0 (b : B) (o g : Int) : Int := band (attF b g (occ0 b o g)) (occ0 b o g)
theorem st0 (S : Sane b) (M : Men b) {mv o g : Int} (V : Mv b mv o g) : St b (att0 b o g) (occ0 b o g) (1 - b.side) := by
  have ho : Bn b.n (occ0 b o g) := ((M.sd 0 (by decide) (by decide)).or (M.sd 1 (by decide) (by decide))).and _
  have := M.side
  exact ⟨ho, ho.and' _, fun i h => tb_and_r ho.1 h, by omega, by omega⟩
noncomputable def seeV (b : B) (v : Int → Int) (o g : Int) : Int := sv v (band (b.bd o) 7) (v (band (b.bd g) 7)) (chain b g 20 (att0 b o g) (occ0 b o g) (1 - b.side))
theorem chain_len (b : B) (g : Int) : ∀ (k : Nat) (att occ c : Int), (chain b g k att occ c).length ≤ k
  | 0, _, _, _ => Nat.le_refl _
  | k + 1, att, occ, c => by
    unfold chain
    split
    · simp
    · have := chain_len b g k (attN b g att occ (nxtF b att occ c)) (occN occ (nxtF b att occ c)) (1 - c)
      simp; omega
theorem swp_len (v : Int → Int) : ∀ (ks : List Int) (p l : Int), (swp v p l ks).length = ks.length
  | [], _, _ => rfl
  | k :: ks, p, l => by simp [swp, swp_len v ks]
theorem r42 (G : Geo σ b) (H : Pos σ P b) (S : Sane b) (M : Men b) {mv o g : Int} (V : Mv b mv o g) {t : Nat} {v : Int → Int} (T : Vals σ t v) :
    ∃ σ', callF prog (n + 6) 42 [.ref P, .int mv, .ref t] σ = some (.int (seeV b v o g), σ') ∧ Le σ σ' := by
  refine hide fun X back => ?_
  have V0 := V.o0
  have h41 := r41 (n := n + 3) G H S M V T
  obtain ⟨tk, etk⟩ : ∃ x, x = v (band (b.bd g) 7) := ⟨_, rfl⟩
  rw [← etk] at h41
  obtain ⟨σ1, e1⟩ : ∃ s : Hp, s = σ ++ [MObj.tup [.int tk, .int (occ0 b o g)]] := ⟨_, rfl⟩
  rw [← e1] at h41
  have l1 : Le σ σ1 := e1 ▸ Le.app
  have t1 : σ1[σ.length]? = some (.tup [.int tk, .int (occ0 b o g)]) := by rw [e1]; simp
  have G1 := G.keep l1.keep
  have H1 := H.keep l1.keep
  obtain ⟨pt, σ2, hp, l2, PT⟩ := pins_made (n := n) G1 H1 S M [some (.int mv), some (.ref t), some (.int g), some (.int tk), some (.int (occ0 b o g)), none, none, none, none, none, none, none]
  have G2 := G1.keep l2.keep
  have H2 := H1.keep l2.keep
  have h35 := r35 (n := n) G2 H2 (occ := occ0 b o g) V.g0 V.g1
  have hbo := M.bd o V.o0 V.o1
  obtain ⟨σ3, e3⟩ : ∃ s : Hp, s = σ2 ++ [MObj.list [.int tk]] := ⟨_, rfl⟩
  have l3 : Le σ2 σ3 := e3 ▸ Le.app
  have G3 := G2.keep l3.keep
  have H3 := H2.keep l3.keep
  have st := st0 S M V
  have h39 := r39 (n := n + 1) G3 H3 S M (PT.keep l3.keep) (att := att0 b o g) (occ := occ0 b o g) st.c0 st.c1 st.ha.1
  have T2 := T.keep (l1.trans l2).keep
  obtain ⟨a1, a2, a3, a4, a5, lp⟩ := sw_loop (n := n) σ2 G2 H2 S M T2 PT (mv := mv) (g := g) (tk := tk) V.g0 V.g1 (Nat.le_refl _) none 20 64 (att0 b o g) (occ0 b o g) (1 - b.side) (band (b.bd o) 7) tk [] σ3 st (Nat.le_trans (cnt_le _ _) S.n20) (by omega) hbo.1 hbo.2 l3 (by rw [e3]; simp) (by decide)
  obtain ⟨ks, eks⟩ : ∃ ks, ks = chain b g 20 (att0 b o g) (occ0 b o g) (1 - b.side) := ⟨_, rfl⟩
  rw [← eks, List.nil_append] at lp
  have hkl : ks.length ≤ 20 := eks ▸ chain_len b g 20 _ _ _
  obtain ⟨σ4, e4⟩ : ∃ s : Hp, s = σ3.set σ2.length (.list ((tk :: swp v (band (b.bd o) 7) tk ks).map MV.int)) := ⟨_, rfl⟩
  rw [← e4] at lp
  have h4 : σ4[σ2.length]? = some (.list ((tk :: swp v (band (b.bd o) 7) tk ks).map MV.int)) := by rw [e4, e3]; simp
  obtain ⟨o', rp⟩ := rd_loop (Γ := callF prog (n + 5)) σ2.length (some (.ref P)) (some (.int mv)) (some (.ref t)) (some (.int g)) (some (.int tk)) a1 (some (.ref pt)) a2 a3 a4 a5 ks.length 64 (tk :: swp v (band (b.bd o) 7) tk ks) σ4 none (by simp [swp_len]) (by omega) (by omega) h4
  obtain ⟨σ5, e5⟩ : ∃ s : Hp, s = σ4.set σ2.length (.list [.int (red (tk :: swp v (band (b.bd o) 7) tk ks))]) := ⟨_, rfl⟩
  rw [← e5] at rp
  have h5 : σ5[σ2.length]? = some (.list [.int (red (tk :: swp v (band (b.bd o) 7) tk ks))]) := by rw [e5, e4, e3]; simp
  have hsv : seeV b v o g = red (tk :: swp v (band (b.bd o) 7) tk ks) := by unfold seeV sv; rw [← etk, ← eks]
  have l5 : Le σ2 σ5 := by
    rw [e5, e4]
    exact (l3.set (Nat.le_refl _)).set (Nat.le_refl _)
  refine back ?_
  refine ⟨σ5, ?_, (l1.trans l2).trans l5⟩
  rw [call_eq]
  show Option.bind (evSs (callF prog (n + 5)) F42.body [some (.ref P), some (.int mv), some (.ref t), none, none, none, none, none, none, none, none, none, none] σ) _ = _
  have hb : evSs (callF prog (n + 5)) F42.body [some (.ref P), some (.int mv), some (.ref t), none, none, none, none, none, none, none, none, none, none] σ =
      some (.ret (.int (seeV b v o g)), [some (.ref P), some (.int mv), some (.ref t), some (.int g), some (.int tk), a1, some (.ref pt), a2, a3, a4, some (.ref σ2.length), a5, o'], σ5) := by
    unfold F42
    rw [ss_n (loc' := [some (.ref P), some (.int mv), some (.ref t), none, none, none, none, none, none, none, none, none, none]) (σ' := σ) (by simp [qd1, qd2, qc1, qc2, qc3, qc4, qc5, qc6, qc7, qc8, qc9, qc10, qc11, qc12, qc13, qc14, qc15, qc16, qc17, qc18, ↓la0, ↓la1, ↓la2, ↓la3, ↓la4, ↓la5, ↓la6, ↓la7, ↓la8, ↓la9, ↓la10, ↓la11, ↓la12, ↓la13, qa1, qa2, qa3, qa4, qa5, qa6, qa7, qa8, qa9, qa10, qa11, qa12, qa13, qa14, qa15, qa16, qa17, qa18, qa19, qa20, qa21, qa22, qa23, qa24, qa25, qa26, qa27, qa28, qa29, qb1, qb2, r6, V.sp, gl12, cmpV, cmpI, tr])]
    rw [ss_n (loc' := [some (.ref P), some (.int mv), some (.ref t), some (.int g), none, none, none, none, none, none, none, none, none]) (σ' := σ) (by simp [qc1, qc2, qc3, qc4, qc5, qc6, qc7, qc8, qc9, qc10, qc11, qc12, qc13, qc14, qc15, qc16, qc17, qc18, ↓la0, ↓la1, ↓la2, ↓la3, ↓la4, ↓la5, ↓la6, ↓la7, ↓la8, ↓la9, ↓la10, ↓la11, ↓la12, ↓la13, qa1, qa2, qa3, qa4, qa5, qa6, qa7, qa8, qa9, qa10, qa11, qa12, qa13, qa14, qa15, qa16, qa17, qa18, qa19, qa20, qa21, qa22, qa23, qa24, qa25, qa26, qa27, qa28, qa29, qb1, qb2, r5, V.to])]
    rw [ss_n (loc' := [some (.ref P), some (.int mv), some (.ref t), some (.int g), some (.int tk), some (.int (occ0 b o g)), none, none, none, none, none, none, none]) (σ' := σ1) (by simp [qc1, qc2, qc3, qc4, qc5, qc6, qc7, qc8, qc9, qc10, qc11, qc12, qc13, qc14, qc15, qc16, qc17, qc18, ↓la0, ↓la1, ↓la2, ↓la3, ↓la4, ↓la5, ↓la6, ↓la7, ↓la8, ↓la9, ↓la10, ↓la11, ↓la12, ↓la13, qa1, qa2, qa3, qa4, qa5, qa6, qa7, qa8, qa9, qa10, qa11, qa12, qa13, qa14, qa15, qa16, qa17, qa18, qa19, qa20, qa21, qa22, qa23, qa24, qa25, qa26, qa27, qa28, qa29, qb1, qb2, h41, tupGet, t1])]
    rw [ss_n (loc' := [some (.ref P), some (.int mv), some (.ref t), some (.int g), some (.int tk), some (.int (occ0 b o g)), some (.ref pt), none, none, none, none, none, none]) (σ' := σ2) (by rw [qc1, hp]; simp)]
    rw [ss_n (loc' := [some (.ref P), some (.int mv), some (.ref t), some (.int g), some (.int tk), some (.int (occ0 b o g)), some (.ref pt), some (.int (att0 b o g)), none, none, none, none, none]) (σ' := σ2) (by simp [qc1, qc2, qc3, qc4, qc5, qc6, qc7, qc8, qc9, qc10, qc11, qc12, qc13, qc14, qc15, qc16, qc17, qc18, ↓la0, ↓la1, ↓la2, ↓la3, ↓la4, ↓la5, ↓la6, ↓la7, ↓la8, ↓la9, ↓la10, ↓la11, ↓la12, ↓la13, qa1, qa2, qa3, qa4, qa5, qa6, qa7, qa8, qa9, qa10, qa11, qa12, qa13, qa14, qa15, qa16, qa17, qa18, qa19, qa20, qa21, qa22, qa23, qa24, qa25, qa26, qa27, qa28, qa29, qb1, qb2, h35, bv_int, b_and, att0])]
    rw [ss_n (loc' := [some (.ref P), some (.int mv), some (.ref t), some (.int g), some (.int tk), some (.int (occ0 b o g)), some (.ref pt), some (.int (att0 b o g)), some (.int (band (b.bd o) 7)), none, none, none, none]) (σ' := σ2) (by simp [qc1, qc2, qc3, qc4, qc5, qc6, qc7, qc8, qc9, qc10, qc11, qc12, qc13, qc14, qc15, qc16, qc17, qc18, ↓la0, ↓la1, ↓la2, ↓la3, ↓la4, ↓la5, ↓la6, ↓la7, ↓la8, ↓la9, ↓la10, ↓la11, ↓la12, ↓la13, qa1, qa2, qa3, qa4, qa5, qa6, qa7, qa8, qa9, qa10, qa11, qa12, qa13, qa14, qa15, qa16, qa17, qa18, qa19, qa20, qa21, qa22, qa23, qa24, qa25, qa26, qa27, qa28, qa29, qb1, qb2, r4, r2, V.fr, H2.board, H2.bd o V.o0 V.o1])]
    rw [ss_n (loc' := [some (.ref P), some (.int mv), some (.ref t), some (.int g), some (.int tk), some (.int (occ0 b o g)), some (.ref pt), some (.int (att0 b o g)), some (.int (band (b.bd o) 7)), some (.int (1 - b.side)), none, none, none]) (σ' := σ2) (by simp [qc1, qc2, qc3, qc4, qc5, qc6, qc7, qc8, qc9, qc10, qc11, qc12, qc13, qc14, qc15, qc16, qc17, qc18, ↓la0, ↓la1, ↓la2, ↓la3, ↓la4, ↓la5, ↓la6, ↓la7, ↓la8, ↓la9, ↓la10, ↓la11, ↓la12, ↓la13, qa1, qa2, qa3, qa4, qa5, qa6, qa7, qa8, qa9, qa10, qa11, qa12, qa13, qa14, qa15, qa16, qa17, qa18, qa19, qa20, qa21, qa22, qa23, qa24, qa25, qa26, qa27, qa28, qa29, bv_int, b_sub, H2.side])]
    rw [ss_n (loc' := [some (.ref P), some (.int mv), some (.ref t), some (.int g), some (.int tk), some (.int (occ0 b o g)), some (.ref pt), some (.int (att0 b o g)), some (.int (band (b.bd o) 7)), some (.int (1 - b.side)), some (.ref σ2.length), none, none]) (σ' := σ3) (by simp [qc1, qc2, qc3, qc4, qc5, qc6, qc7, qc8, qc9, qc10, qc11, qc12, qc13, qc14, qc15, qc16, qc17, qc18, ↓la0, ↓la1, ↓la2, ↓la3, ↓la4, ↓la5, ↓la6, ↓la7, ↓la8, ↓la9, ↓la10, ↓la11, ↓la12, ↓la13, qa1, qa2, qa3, qa4, qa5, qa6, qa7, qa8, qa9, qa10, qa11, qa12, qa13, qa14, qa15, qa16, qa17, qa18, qa19, qa20, qa21, qa22, qa23, qa24, qa25, qa26, qa27, qa28, qa29, qb1, qb2, e3])]
    rw [ss_n (loc' := [some (.ref P), some (.int mv), some (.ref t), some (.int g), some (.int tk), some (.int (occ0 b o g)), some (.ref pt), some (.int (att0 b o g)), some (.int (band (b.bd o) 7)), some (.int (1 - b.side)), some (.ref σ2.length), some (.int (nxtF b (att0 b o g) (occ0 b o g) (1 - b.side))), none]) (σ' := σ3) (by simp [qc1, qc2, qc3, qc4, qc5, qc6, qc7, qc8, qc9, qc10, qc11, qc12, qc13, qc14, qc15, qc16, qc17, qc18, ↓la0, ↓la1, ↓la2, ↓la3, ↓la4, ↓la5, ↓la6, ↓la7, ↓la8, ↓la9, ↓la10, ↓la11, ↓la12, ↓la13, qa1, qa2, qa3, qa4, qa5, qa6, qa7, qa8, qa9, qa10, qa11, qa12, qa13, qa14, qa15, qa16, qa17, qa18, qa19, qa20, qa21, qa22, qa23, qa24, qa25, qa26, qa27, qa28, qa29, qb1, qb2, h39])]
    have lp' : evS (callF prog (n + 5)) (.while swC swB) _ _ = _ := lp
    have rp' : evS (callF prog (n + 5)) (.while rdC rdB) _ _ = _ := rp
    unfold swC swB at lp'
    unfold rdC rdB at rp'
    rw [ss_n lp', ss_n rp']
    rw [hsv]
    simp [qd1, qd2, qc1, qc2, qc3, qc4, qc5, qc6, qc7, qc8, qc9, qc10, qc11, qc12, qc13, qc14, qc15, qc16, qc17, qc18, ↓la0, ↓la1, ↓la2, ↓la3, ↓la4, ↓la5, ↓la6, ↓la7, ↓la8, ↓la9, ↓la10, ↓la11, ↓la12, ↓la13, qa1, qa2, qa3, qa4, qa5, qa6, qa7, qa8, qa9, qa10, qa11, qa12, qa13, qa14, qa15, qa16, qa17, qa18, qa19, qa20, qa21, qa22, qa23, qa24, qa25, qa26, qa27, qa28, qa29, getI, place, h5]
  rw [hb]
  rfl
end
end Mine.Law

/-! ## P10 -/
namespace Mine.Law
open PySem PyProof.Rows

noncomputable def geL (v : Int → Int) : Bool → Int → List Int → Bool
  | good, _, [] => good
  | good, swap, k :: ks => if v k - swap < 0 ∨ (good = false ∧ v k - swap = 0) then !good else geL v (!good) (v k - swap) ks
noncomputable def geF (b : B) (v : Int → Int) (o g th : Int) : Bool :=
  if v (band (b.bd g) 7) - th < 0 then false
  else if v (band (b.bd o) 7) - (v (band (b.bd g) 7) - th) ≤ 0 then true
  else geL v true (v (band (b.bd o) 7) - (v (band (b.bd g) 7) - th)) (chain b g 20 (att0 b o g) (occ0 b o g) (1 - b.side))

section
variable {σ : Hp} {b : B} {n P : Nat}
noncomputable def geC : E := .cmp .GtE (.loc 12) (.int 0)
noncomputable def geB : Ss := (.cons (.set 11 (.un .Not (.loc 11)))
    (.cons (.set 13 (.call 2 (.cons (.idx (.attr (.loc 0) 16) (.loc 12)) .nil)))
    (.cons (.set 7 (.bin .Sub (.idx (.loc 3) (.loc 13)) (.loc 7)))
    (.cons (.ifs (.or (.cmp .Lt (.loc 7) (.int 0)) (.and (.loc 11) (.cmp .Eq (.loc 7) (.int 0)))) (.cons (.ret (.loc 11))
    .nil) .nil)
    (.cons (.augN 6 .BitXor (.bin .LShift (.int 1) (.loc 12)))
    (.cons (.set 9 (.bin .BitAnd (.bin .BitOr (.loc 9) (.call 40 (.cons (.loc 0) (.cons (.loc 4) (.cons (.loc 6) (.cons (.loc 13) .nil)))))) (.loc 6)))
    (.cons (.set 10 (.bin .Sub (.int 1) (.loc 10)))
    (.cons (.set 12 (.call 39 (.cons (.loc 0) (.cons (.loc 9) (.cons (.loc 6) (.cons (.loc 10) (.cons (.loc 8) .nil)))))))
    .nil))))))))
theorem ge_loop (G : Geo σ b) (H : Pos σ P b) (S : Sane b) (M : Men b) {t pt : Nat} {v : Int → Int} (T : Vals σ t v) (PT : PinsAt σ pt b) {mv g tk th : Int} (hg : 0 ≤ g) (hg1 : g < b.n) :
    ∀ (k fu : Nat) (att occ c swap : Int) (good : Bool) (ok : Option MV), St b att occ c → cnt b.n occ ≤ k → k < fu →
    ∃ fl loc', whileN (fun loc σ => evE (callF prog (n + 5)) loc geC σ) (evSs (callF prog (n + 5)) geB) fu
      [some (.ref P), some (.int mv), some (.int th), some (.ref t), some (.int g), some (.int tk), some (.int occ), some (.int swap), some (.ref pt), some (.int att), some (.int c), some (.bool good), some (.int (nxtF b att occ c)), ok] σ = some (fl, loc', σ) ∧
      (fl = .ret (.bool (geL v good swap (chain b g k att occ c))) ∨ (fl = .next ∧ loc'[11]? = some (some (.bool (geL v good swap (chain b g k att occ c)))))) := by
  intro k fu
  induction fu generalizing k with
  | zero => intro _ _ _ _ _ _ _ _ hf; exact absurd hf (Nat.not_lt_zero _)
  | succ fu IH =>
    intro att occ c swap good ok hs hc hf
    by_cases hz : nxtF b att occ c < 0
    · have e : chain b g k att occ c = [] := by cases k <;> simp [chain, hz]
      refine ⟨_, _, while_f (v := .bool false) (σ1 := σ) (by simp [geC, ↓la0, ↓la1, ↓la2, ↓la3, ↓la4, ↓la5, ↓la6, ↓la7, ↓la8, ↓la9, ↓la10, ↓la11, ↓la12, ↓la13, qa1, qa2, qa3, qa4, qa5, qa6, qa7, qa8, qa9, qa10, qa11, qa12, qa13, qa14, qa15, qa16, qa17, qa18, qa19, qa20, qa21, qa22, qa23, qa24, qa25, qa26, qa27, qa28, qa29, cmpV, cmpI, hz]) rfl, .inr ⟨rfl, ?_⟩⟩
      rw [e]
      rfl
    · refine hide fun X back => ?_
      obtain ⟨q0, q1, hs', hcnt⟩ := hs.next S M hg hg1 hz
      cases k with
      | zero => exact absurd (hs.empty S M (by omega)) hz
      | succ k =>
        have hb := M.bd _ q0 q1
        have n20 := S.n20
        obtain ⟨kd, ekd⟩ : ∃ x, x = band (b.bd (nxtF b att occ c)) 7 := ⟨_, rfl⟩
        have hkd : 0 ≤ kd ∧ kd < 7 := ekd ▸ hb
        have hch : chain b g (k + 1) att occ c = kd :: chain b g k (attN b g att occ (nxtF b att occ c)) (occN occ (nxtF b att occ c)) (1 - c) := by
          rw [ekd]; simp [chain, hz]
        have pre : ∀ (r : Ss), evSs (callF prog (n + 5)) (.cons (.set 11 (.un .Not (.loc 11))) (.cons (.set 13 (.call 2 (.cons (.idx (.attr (.loc 0) 16) (.loc 12)) .nil))) (.cons (.set 7 (.bin .Sub (.idx (.loc 3) (.loc 13)) (.loc 7))) r)))
            [some (.ref P), some (.int mv), some (.int th), some (.ref t), some (.int g), some (.int tk), some (.int occ), some (.int swap), some (.ref pt), some (.int att), some (.int c), some (.bool good), some (.int (nxtF b att occ c)), ok] σ =
            evSs (callF prog (n + 5)) r [some (.ref P), some (.int mv), some (.int th), some (.ref t), some (.int g), some (.int tk), some (.int occ), some (.int (v kd - swap)), some (.ref pt), some (.int att), some (.int c), some (.bool (!good)), some (.int (nxtF b att occ c)), some (.int kd)] σ := by
          intro r
          rw [ss_n (loc' := [some (.ref P), some (.int mv), some (.int th), some (.ref t), some (.int g), some (.int tk), some (.int occ), some (.int swap), some (.ref pt), some (.int att), some (.int c), some (.bool (!good)), some (.int (nxtF b att occ c)), ok]) (σ' := σ) (by simp [qc1, qc2, qc3, qc4, qc5, qc6, qc7, qc8, qc9, qc10, qc11, qc12, qc13, qc14, qc15, qc16, qc17, qc18, ↓la0, ↓la1, ↓la2, ↓la3, ↓la4, ↓la5, ↓la6, ↓la7, ↓la8, ↓la9, ↓la10, ↓la11, ↓la12, ↓la13, qa1, qa2, qa3, qa4, qa5, qa6, qa7, qa8, qa9, qa10, qa11, qa12, qa13, qa14, qa15, qa16, qa17, qa18, qa19, qa20, qa21, qa22, qa23, qa24, qa25, qa26, qa27, qa28, qa29, unV, tr])]
          rw [ss_n (loc' := [some (.ref P), some (.int mv), some (.int th), some (.ref t), some (.int g), some (.int tk), some (.int occ), some (.int swap), some (.ref pt), some (.int att), some (.int c), some (.bool (!good)), some (.int (nxtF b att occ c)), some (.int kd)]) (σ' := σ) (by simp [qc1, qc2, qc3, qc4, qc5, qc6, qc7, qc8, qc9, qc10, qc11, qc12, qc13, qc14, qc15, qc16, qc17, qc18, ↓la0, ↓la1, ↓la2, ↓la3, ↓la4, ↓la5, ↓la6, ↓la7, ↓la8, ↓la9, ↓la10, ↓la11, ↓la12, ↓la13, qa1, qa2, qa3, qa4, qa5, qa6, qa7, qa8, qa9, qa10, qa11, qa12, qa13, qa14, qa15, qa16, qa17, qa18, qa19, qa20, qa21, qa22, qa23, qa24, qa25, qa26, qa27, qa28, qa29, qb1, qb2, H.board, H.bd _ q0 q1, r2, ekd])]
          rw [ss_n (loc' := [some (.ref P), some (.int mv), some (.int th), some (.ref t), some (.int g), some (.int tk), some (.int occ), some (.int (v kd - swap)), some (.ref pt), some (.int att), some (.int c), some (.bool (!good)), some (.int (nxtF b att occ c)), some (.int kd)]) (σ' := σ) (by simp [qc1, qc2, qc3, qc4, qc5, qc6, qc7, qc8, qc9, qc10, qc11, qc12, qc13, qc14, qc15, qc16, qc17, qc18, ↓la0, ↓la1, ↓la2, ↓la3, ↓la4, ↓la5, ↓la6, ↓la7, ↓la8, ↓la9, ↓la10, ↓la11, ↓la12, ↓la13, qa1, qa2, qa3, qa4, qa5, qa6, qa7, qa8, qa9, qa10, qa11, qa12, qa13, qa14, qa15, qa16, qa17, qa18, qa19, qa20, qa21, qa22, qa23, qa24, qa25, qa26, qa27, qa28, qa29, T kd hkd.1 hkd.2, bv_int, b_sub])]
        by_cases hr : v kd - swap < 0 ∨ (good = false ∧ v kd - swap = 0)
        · refine back ?_
          refine ⟨.ret (.bool (!good)), _, while_r (v := .bool true) (σ1 := σ) (by simp [geC, ↓la0, ↓la1, ↓la2, ↓la3, ↓la4, ↓la5, ↓la6, ↓la7, ↓la8, ↓la9, ↓la10, ↓la11, ↓la12, ↓la13, qa1, qa2, qa3, qa4, qa5, qa6, qa7, qa8, qa9, qa10, qa11, qa12, qa13, qa14, qa15, qa16, qa17, qa18, qa19, qa20, qa21, qa22, qa23, qa24, qa25, qa26, qa27, qa28, qa29, cmpV, cmpI, q0]) rfl (w := .bool (!good)) (loc' := [some (.ref P), some (.int mv), some (.int th), some (.ref t), some (.int g), some (.int tk), some (.int occ), some (.int (v kd - swap)), some (.ref pt), some (.int att), some (.int c), some (.bool (!good)), some (.int (nxtF b att occ c)), some (.int kd)]) ?_, .inl ?_⟩
          · unfold geB
            rw [pre]
            apply ss_r
            rcases hr with hr | ⟨rfl, hr⟩
            · simp [qd1, qd2, qc1, qc2, qc3, qc4, qc5, qc6, qc7, qc8, qc9, qc10, qc11, qc12, qc13, qc14, qc15, qc16, qc17, qc18, ↓la0, ↓la1, ↓la2, ↓la3, ↓la4, ↓la5, ↓la6, ↓la7, ↓la8, ↓la9, ↓la10, ↓la11, ↓la12, ↓la13, qa1, qa2, qa3, qa4, qa5, qa6, qa7, qa8, qa9, qa10, qa11, qa12, qa13, qa14, qa15, qa16, qa17, qa18, qa19, qa20, qa21, qa22, qa23, qa24, qa25, qa26, qa27, qa28, qa29, cmpV, cmpI, tr, hr]
            · simp [qd1, qd2, qc1, qc2, qc3, qc4, qc5, qc6, qc7, qc8, qc9, qc10, qc11, qc12, qc13, qc14, qc15, qc16, qc17, qc18, ↓la0, ↓la1, ↓la2, ↓la3, ↓la4, ↓la5, ↓la6, ↓la7, ↓la8, ↓la9, ↓la10, ↓la11, ↓la12, ↓la13, qa1, qa2, qa3, qa4, qa5, qa6, qa7, qa8, qa9, qa10, qa11, qa12, qa13, qa14, qa15, qa16, qa17, qa18, qa19, qa20, qa21, qa22, qa23, qa24, qa25, qa26, qa27, qa28, qa29, cmpV, cmpI, tr, hr]
          · rw [hch]
            simp [geL, hr]
        · obtain ⟨fl, loc', ih, hres⟩ := IH k (attN b g att occ (nxtF b att occ c)) (occN occ (nxtF b att occ c)) (1 - c) (v kd - swap) (!good) (some (.int kd)) hs' (by omega) (by omega)
          refine back ?_
          refine ⟨fl, loc', ?_, ?_⟩
          · rw [while_t (v := .bool true) (σ1 := σ) (σ' := σ) (loc' := [some (.ref P), some (.int mv), some (.int th), some (.ref t), some (.int g), some (.int tk), some (.int (occN occ (nxtF b att occ c))), some (.int (v kd - swap)), some (.ref pt), some (.int (attN b g att occ (nxtF b att occ c))), some (.int (1 - c)), some (.bool (!good)), some (.int (nxtF b (attN b g att occ (nxtF b att occ c)) (occN occ (nxtF b att occ c)) (1 - c))), some (.int kd)])
              (by simp [geC, ↓la0, ↓la1, ↓la2, ↓la3, ↓la4, ↓la5, ↓la6, ↓la7, ↓la8, ↓la9, ↓la10, ↓la11, ↓la12, ↓la13, qa1, qa2, qa3, qa4, qa5, qa6, qa7, qa8, qa9, qa10, qa11, qa12, qa13, qa14, qa15, qa16, qa17, qa18, qa19, qa20, qa21, qa22, qa23, qa24, qa25, qa26, qa27, qa28, qa29, cmpV, cmpI, q0]) rfl ?_, ih]
            unfold geB
            rw [pre]
            rw [ss_n (loc' := [some (.ref P), some (.int mv), some (.int th), some (.ref t), some (.int g), some (.int tk), some (.int occ), some (.int (v kd - swap)), some (.ref pt), some (.int att), some (.int c), some (.bool (!good)), some (.int (nxtF b att occ c)), some (.int kd)]) (σ' := σ) (by
              have h1 : ¬ v kd - swap < 0 := fun h => hr (.inl h)
              cases good with
              | true => simp [qd1, qd2, qc1, qc2, qc3, qc4, qc5, qc6, qc7, qc8, qc9, qc10, qc11, qc12, qc13, qc14, qc15, qc16, qc17, qc18, ↓la0, ↓la1, ↓la2, ↓la3, ↓la4, ↓la5, ↓la6, ↓la7, ↓la8, ↓la9, ↓la10, ↓la11, ↓la12, ↓la13, qa1, qa2, qa3, qa4, qa5, qa6, qa7, qa8, qa9, qa10, qa11, qa12, qa13, qa14, qa15, qa16, qa17, qa18, qa19, qa20, qa21, qa22, qa23, qa24, qa25, qa26, qa27, qa28, qa29, cmpV, cmpI, tr, h1]
              | false =>
                have h2 : ¬ v kd - swap = 0 := fun h => hr (.inr ⟨rfl, h⟩)
                simp [qd1, qd2, qc1, qc2, qc3, qc4, qc5, qc6, qc7, qc8, qc9, qc10, qc11, qc12, qc13, qc14, qc15, qc16, qc17, qc18, ↓la0, ↓la1, ↓la2, ↓la3, ↓la4, ↓la5, ↓la6, ↓la7, ↓la8, ↓la9, ↓la10, ↓la11, ↓la12, ↓la13, qa1, qa2, qa3, qa4, qa5, qa6, qa7, qa8, qa9, qa10, qa11, qa12, qa13, qa14, qa15, qa16, qa17, qa18, qa19, qa20, qa21, qa22, qa23, qa24, qa25, qa26, qa27, qa28, qa29, cmpV, cmpI, tr, h1, h2])]
            rw [ss_n (loc' := [some (.ref P), some (.int mv), some (.int th), some (.ref t), some (.int g), some (.int tk), some (.int (occN occ (nxtF b att occ c))), some (.int (v kd - swap)), some (.ref pt), some (.int att), some (.int c), some (.bool (!good)), some (.int (nxtF b att occ c)), some (.int kd)]) (σ' := σ) (by
              simp [qc1, qc2, qc3, qc4, qc5, qc6, qc7, qc8, qc9, qc10, qc11, qc12, qc13, qc14, qc15, qc16, qc17, qc18, ↓la0, ↓la1, ↓la2, ↓la3, ↓la4, ↓la5, ↓la6, ↓la7, ↓la8, ↓la9, ↓la10, ↓la11, ↓la12, ↓la13, qa1, qa2, qa3, qa4, qa5, qa6, qa7, qa8, qa9, qa10, qa11, qa12, qa13, qa14, qa15, qa16, qa17, qa18, qa19, qa20, qa21, qa22, qa23, qa24, qa25, qa26, qa27, qa28, qa29, bv_int, ba_int, b_xor, b_shl (a := 1) (b := nxtF b att occ c) q0 (by omega) (by decide), occN])]
            rw [ss_n (loc' := [some (.ref P), some (.int mv), some (.int th), some (.ref t), some (.int g), some (.int tk), some (.int (occN occ (nxtF b att occ c))), some (.int (v kd - swap)), some (.ref pt), some (.int (attN b g att occ (nxtF b att occ c))), some (.int c), some (.bool (!good)), some (.int (nxtF b att occ c)), some (.int kd)]) (σ' := σ) (by
              simp [qc1, qc2, qc3, qc4, qc5, qc6, qc7, qc8, qc9, qc10, qc11, qc12, qc13, qc14, qc15, qc16, qc17, qc18, ↓la0, ↓la1, ↓la2, ↓la3, ↓la4, ↓la5, ↓la6, ↓la7, ↓la8, ↓la9, ↓la10, ↓la11, ↓la12, ↓la13, qa1, qa2, qa3, qa4, qa5, qa6, qa7, qa8, qa9, qa10, qa11, qa12, qa13, qa14, qa15, qa16, qa17, qa18, qa19, qa20, qa21, qa22, qa23, qa24, qa25, qa26, qa27, qa28, qa29, qb1, qb2, bv_int, b_or, b_and, r40 (n := n + 1) G H (occ := occN occ (nxtF b att occ c)) (k := kd) hg hg1, attN, ← ekd])]
            rw [ss_n (loc' := [some (.ref P), some (.int mv), some (.int th), some (.ref t), some (.int g), some (.int tk), some (.int (occN occ (nxtF b att occ c))), some (.int (v kd - swap)), some (.ref pt), some (.int (attN b g att occ (nxtF b att occ c))), some (.int (1 - c)), some (.bool (!good)), some (.int (nxtF b att occ c)), some (.int kd)]) (σ' := σ) (by
              simp [qc1, qc2, qc3, qc4, qc5, qc6, qc7, qc8, qc9, qc10, qc11, qc12, qc13, qc14, qc15, qc16, qc17, qc18, ↓la0, ↓la1, ↓la2, ↓la3, ↓la4, ↓la5, ↓la6, ↓la7, ↓la8, ↓la9, ↓la10, ↓la11, ↓la12, ↓la13, qa1, qa2, qa3, qa4, qa5, qa6, qa7, qa8, qa9, qa10, qa11, qa12, qa13, qa14, qa15, qa16, qa17, qa18, qa19, qa20, qa21, qa22, qa23, qa24, qa25, qa26, qa27, qa28, qa29, bv_int, b_sub])]
            rw [ss_n (loc' := [some (.ref P), some (.int mv), some (.int th), some (.ref t), some (.int g), some (.int tk), some (.int (occN occ (nxtF b att occ c))), some (.int (v kd - swap)), some (.ref pt), some (.int (attN b g att occ (nxtF b att occ c))), some (.int (1 - c)), some (.bool (!good)), some (.int (nxtF b (attN b g att occ (nxtF b att occ c)) (occN occ (nxtF b att occ c)) (1 - c))), some (.int kd)]) (σ' := σ) (by
              simp [qc1, qc2, qc3, qc4, qc5, qc6, qc7, qc8, qc9, qc10, qc11, qc12, qc13, qc14, qc15, qc16, qc17, qc18, ↓la0, ↓la1, ↓la2, ↓la3, ↓la4, ↓la5, ↓la6, ↓la7, ↓la8, ↓la9, ↓la10, ↓la11, ↓la12, ↓la13, qa1, qa2, qa3, qa4, qa5, qa6, qa7, qa8, qa9, qa10, qa11, qa12, qa13, qa14, qa15, qa16, qa17, qa18, qa19, qa20, qa21, qa22, qa23, qa24, qa25, qa26, qa27, qa28, qa29, qb1, qb2, r39 (n := n + 1) G H S M PT (att := attN b g att occ (nxtF b att occ c)) (occ := occN occ (nxtF b att occ c)) hs'.c0 hs'.c1 hs'.ha.1])]
            exact ss_nil
          · rw [hch]
            simpa [geL, hr] using hres
theorem r43 (G : Geo σ b) (H : Pos σ P b) (S : Sane b) (M : Men b) {mv o g th : Int} (V : Mv b mv o g) {t : Nat} {v : Int → Int} (T : Vals σ t v) :
    ∃ σ', callF prog (n + 6) 43 [.ref P, .int mv, .int th, .ref t] σ = some (.bool (geF b v o g th), σ') ∧ Le σ σ' := by
  have h41 := r41 (n := n + 3) G H S M V T
  obtain ⟨tk, etk⟩ : ∃ x, x = v (band (b.bd g) 7) := ⟨_, rfl⟩
  obtain ⟨k0, ek0⟩ : ∃ x, x = v (band (b.bd o) 7) := ⟨_, rfl⟩
  rw [← etk] at h41
  obtain ⟨σ1, e1⟩ : ∃ s : Hp, s = σ ++ [MObj.tup [.int tk, .int (occ0 b o g)]] := ⟨_, rfl⟩
  rw [← e1] at h41
  have l1 : Le σ σ1 := e1 ▸ Le.app
  have t1 : σ1[σ.length]? = some (.tup [.int tk, .int (occ0 b o g)]) := by rw [e1]; simp
  have G1 := G.keep l1.keep
  have H1 := H.keep l1.keep
  have T1 := T.keep l1.keep
  have hbo := M.bd o V.o0 V.o1
  have top : ∀ r, evSs (callF prog (n + 5)) F43.body [some (.ref P), some (.int mv), some (.int th), some (.ref t), none, none, none, none, none, none, none, none, none, none] σ = r → callF prog (n + 6) 43 [.ref P, .int mv, .int th, .ref t] σ = r.bind fun r => match r.1 with | .next => some (.none, r.2.2) | .ret v => some (v, r.2.2) := by
    intro r hr
    rw [← hr]
    rfl
  have pre : ∀ (r : Ss) , evSs (callF prog (n + 5)) (.cons (.ifs (.cmp .Eq (.call 6 (.cons (.loc 1) .nil)) (.glob 12)) (.cons (.ret (.cmp .GtE (.int 0) (.loc 2))) .nil) .nil) (.cons (.set 4 (.call 5 (.cons (.loc 1) .nil)))
      (.cons (.unpack2 5 6 (.call 41 (.cons (.loc 0) (.cons (.loc 1) (.cons (.loc 3) .nil))))) (.cons (.set 7 (.bin .Sub (.loc 5) (.loc 2))) r)))) [some (.ref P), some (.int mv), some (.int th), some (.ref t), none, none, none, none, none, none, none, none, none, none] σ =
      evSs (callF prog (n + 5)) r [some (.ref P), some (.int mv), some (.int th), some (.ref t), some (.int g), some (.int tk), some (.int (occ0 b o g)), some (.int (tk - th)), none, none, none, none, none, none] σ1 := by
    intro r
    rw [ss_n (loc' := [some (.ref P), some (.int mv), some (.int th), some (.ref t), none, none, none, none, none, none, none, none, none, none]) (σ' := σ) (by simp [qd1, qd2, qc1, qc2, qc3, qc4, qc5, qc6, qc7, qc8, qc9, qc10, qc11, qc12, qc13, qc14, qc15, qc16, qc17, qc18, ↓la0, ↓la1, ↓la2, ↓la3, ↓la4, ↓la5, ↓la6, ↓la7, ↓la8, ↓la9, ↓la10, ↓la11, ↓la12, ↓la13, qa1, qa2, qa3, qa4, qa5, qa6, qa7, qa8, qa9, qa10, qa11, qa12, qa13, qa14, qa15, qa16, qa17, qa18, qa19, qa20, qa21, qa22, qa23, qa24, qa25, qa26, qa27, qa28, qa29, qb1, qb2, r6, V.sp, gl12, cmpV, cmpI, tr])]
    rw [ss_n (loc' := [some (.ref P), some (.int mv), some (.int th), some (.ref t), some (.int g), none, none, none, none, none, none, none, none, none]) (σ' := σ) (by simp [qc1, qc2, qc3, qc4, qc5, qc6, qc7, qc8, qc9, qc10, qc11, qc12, qc13, qc14, qc15, qc16, qc17, qc18, ↓la0, ↓la1, ↓la2, ↓la3, ↓la4, ↓la5, ↓la6, ↓la7, ↓la8, ↓la9, ↓la10, ↓la11, ↓la12, ↓la13, qa1, qa2, qa3, qa4, qa5, qa6, qa7, qa8, qa9, qa10, qa11, qa12, qa13, qa14, qa15, qa16, qa17, qa18, qa19, qa20, qa21, qa22, qa23, qa24, qa25, qa26, qa27, qa28, qa29, qb1, qb2, r5, V.to])]
    rw [ss_n (loc' := [some (.ref P), some (.int mv), some (.int th), some (.ref t), some (.int g), some (.int tk), some (.int (occ0 b o g)), none, none, none, none, none, none, none]) (σ' := σ1) (by simp [qc1, qc2, qc3, qc4, qc5, qc6, qc7, qc8, qc9, qc10, qc11, qc12, qc13, qc14, qc15, qc16, qc17, qc18, ↓la0, ↓la1, ↓la2, ↓la3, ↓la4, ↓la5, ↓la6, ↓la7, ↓la8, ↓la9, ↓la10, ↓la11, ↓la12, ↓la13, qa1, qa2, qa3, qa4, qa5, qa6, qa7, qa8, qa9, qa10, qa11, qa12, qa13, qa14, qa15, qa16, qa17, qa18, qa19, qa20, qa21, qa22, qa23, qa24, qa25, qa26, qa27, qa28, qa29, qb1, qb2, h41, tupGet, t1])]
    rw [ss_n (loc' := [some (.ref P), some (.int mv), some (.int th), some (.ref t), some (.int g), some (.int tk), some (.int (occ0 b o g)), some (.int (tk - th)), none, none, none, none, none, none]) (σ' := σ1) (by simp [qc1, qc2, qc3, qc4, qc5, qc6, qc7, qc8, qc9, qc10, qc11, qc12, qc13, qc14, qc15, qc16, qc17, qc18, ↓la0, ↓la1, ↓la2, ↓la3, ↓la4, ↓la5, ↓la6, ↓la7, ↓la8, ↓la9, ↓la10, ↓la11, ↓la12, ↓la13, qa1, qa2, qa3, qa4, qa5, qa6, qa7, qa8, qa9, qa10, qa11, qa12, qa13, qa14, qa15, qa16, qa17, qa18, qa19, qa20, qa21, qa22, qa23, qa24, qa25, qa26, qa27, qa28, qa29, bv_int, b_sub])]
  by_cases z1 : tk - th < 0
  · refine ⟨σ1, ?_, l1⟩
    rw [top (some (.ret (.bool false), [some (.ref P), some (.int mv), some (.int th), some (.ref t), some (.int g), some (.int tk), some (.int (occ0 b o g)), some (.int (tk - th)), none, none, none, none, none, none], σ1)) (by
      unfold F43
      rw [pre]
      exact ss_r (by simp [qd1, qd2, qc1, qc2, qc3, qc4, qc5, qc6, qc7, qc8, qc9, qc10, qc11, qc12, qc13, qc14, qc15, qc16, qc17, qc18, ↓la0, ↓la1, ↓la2, ↓la3, ↓la4, ↓la5, ↓la6, ↓la7, ↓la8, ↓la9, ↓la10, ↓la11, ↓la12, ↓la13, qa1, qa2, qa3, qa4, qa5, qa6, qa7, qa8, qa9, qa10, qa11, qa12, qa13, qa14, qa15, qa16, qa17, qa18, qa19, qa20, qa21, qa22, qa23, qa24, qa25, qa26, qa27, qa28, qa29, cmpV, cmpI, tr, z1]))]
    simp [geF, ← etk, z1]
  have sw : evS (callF prog (n + 5)) (.set 7 (.bin .Sub (.idx (.loc 3) (.call 2 (.cons (.idx (.attr (.loc 0) 16) (.call 4 (.cons (.loc 1) .nil))) .nil))) (.loc 7))) [some (.ref P), some (.int mv), some (.int th), some (.ref t), some (.int g), some (.int tk), some (.int (occ0 b o g)), some (.int (tk - th)), none, none, none, none, none, none] σ1 =
      some (.next, [some (.ref P), some (.int mv), some (.int th), some (.ref t), some (.int g), some (.int tk), some (.int (occ0 b o g)), some (.int (k0 - (tk - th))), none, none, none, none, none, none], σ1) := by
    simp [qc1, qc2, qc3, qc4, qc5, qc6, qc7, qc8, qc9, qc10, qc11, qc12, qc13, qc14, qc15, qc16, qc17, qc18, ↓la0, ↓la1, ↓la2, ↓la3, ↓la4, ↓la5, ↓la6, ↓la7, ↓la8, ↓la9, ↓la10, ↓la11, ↓la12, ↓la13, qa1, qa2, qa3, qa4, qa5, qa6, qa7, qa8, qa9, qa10, qa11, qa12, qa13, qa14, qa15, qa16, qa17, qa18, qa19, qa20, qa21, qa22, qa23, qa24, qa25, qa26, qa27, qa28, qa29, qb1, qb2, r4, r2, V.fr, H1.board, H1.bd o V.o0 V.o1, T1 _ hbo.1 hbo.2, bv_int, b_sub, ek0]
  have c1 : evS (callF prog (n + 5)) (.ifs (.cmp .Lt (.loc 7) (.int 0)) (.cons (.ret (.bool false)) .nil) .nil) [some (.ref P), some (.int mv), some (.int th), some (.ref t), some (.int g), some (.int tk), some (.int (occ0 b o g)), some (.int (tk - th)), none, none, none, none, none, none] σ1 =
      some (.next, [some (.ref P), some (.int mv), some (.int th), some (.ref t), some (.int g), some (.int tk), some (.int (occ0 b o g)), some (.int (tk - th)), none, none, none, none, none, none], σ1) := by
    simp [qd1, qd2, qc1, qc2, qc3, qc4, qc5, qc6, qc7, qc8, qc9, qc10, qc11, qc12, qc13, qc14, qc15, qc16, qc17, qc18, ↓la0, ↓la1, ↓la2, ↓la3, ↓la4, ↓la5, ↓la6, ↓la7, ↓la8, ↓la9, ↓la10, ↓la11, ↓la12, ↓la13, qa1, qa2, qa3, qa4, qa5, qa6, qa7, qa8, qa9, qa10, qa11, qa12, qa13, qa14, qa15, qa16, qa17, qa18, qa19, qa20, qa21, qa22, qa23, qa24, qa25, qa26, qa27, qa28, qa29, cmpV, cmpI, tr, z1]
  by_cases z2 : k0 - (tk - th) ≤ 0
  · refine ⟨σ1, ?_, l1⟩
    rw [top (some (.ret (.bool true), [some (.ref P), some (.int mv), some (.int th), some (.ref t), some (.int g), some (.int tk), some (.int (occ0 b o g)), some (.int (k0 - (tk - th))), none, none, none, none, none, none], σ1)) (by
      unfold F43
      rw [pre, ss_n c1, ss_n sw]
      exact ss_r (by simp [qd1, qd2, qc1, qc2, qc3, qc4, qc5, qc6, qc7, qc8, qc9, qc10, qc11, qc12, qc13, qc14, qc15, qc16, qc17, qc18, ↓la0, ↓la1, ↓la2, ↓la3, ↓la4, ↓la5, ↓la6, ↓la7, ↓la8, ↓la9, ↓la10, ↓la11, ↓la12, ↓la13, qa1, qa2, qa3, qa4, qa5, qa6, qa7, qa8, qa9, qa10, qa11, qa12, qa13, qa14, qa15, qa16, qa17, qa18, qa19, qa20, qa21, qa22, qa23, qa24, qa25, qa26, qa27, qa28, qa29, cmpV, cmpI, tr, z2]))]
    simp [geF, ← etk, ← ek0, z1, z2]
  · obtain ⟨pt, σ2, hp, l2, PT⟩ := pins_made (n := n) G1 H1 S M [some (.int mv), some (.int th), some (.ref t), some (.int g), some (.int tk), some (.int (occ0 b o g)), some (.int (k0 - (tk - th))), none, none, none, none, none, none]
    have G2 := G1.keep l2.keep
    have H2 := H1.keep l2.keep
    have T2 := T1.keep l2.keep
    have h35 := r35 (n := n) G2 H2 (occ := occ0 b o g) V.g0 V.g1
    have st := st0 S M V
    have h39 := r39 (n := n + 1) G2 H2 S M PT (att := att0 b o g) (occ := occ0 b o g) st.c0 st.c1 st.ha.1
    obtain ⟨fl, loc', lp, hres⟩ := ge_loop (n := n) G2 H2 S M T2 PT (mv := mv) (g := g) (tk := tk) (th := th) V.g0 V.g1 20 64 (att0 b o g) (occ0 b o g) (1 - b.side) (k0 - (tk - th)) true none st (Nat.le_trans (cnt_le _ _) S.n20) (by omega)
    have hgf : geF b v o g th = geL v true (k0 - (tk - th)) (chain b g 20 (att0 b o g) (occ0 b o g) (1 - b.side)) := by simp [geF, ← etk, ← ek0, z1, z2]
    rw [← hgf] at hres
    refine ⟨σ2, ?_, l1.trans l2⟩
    have hb : ∃ loc2, evSs (callF prog (n + 5)) F43.body [some (.ref P), some (.int mv), some (.int th), some (.ref t), none, none, none, none, none, none, none, none, none, none] σ = some (.ret (.bool (geF b v o g th)), loc2, σ2) := by
      unfold F43
      rw [pre, ss_n c1, ss_n sw]
      rw [ss_n (loc' := [some (.ref P), some (.int mv), some (.int th), some (.ref t), some (.int g), some (.int tk), some (.int (occ0 b o g)), some (.int (k0 - (tk - th))), none, none, none, none, none, none]) (σ' := σ1) (by simp [qd1, qd2, qc1, qc2, qc3, qc4, qc5, qc6, qc7, qc8, qc9, qc10, qc11, qc12, qc13, qc14, qc15, qc16, qc17, qc18, ↓la0, ↓la1, ↓la2, ↓la3, ↓la4, ↓la5, ↓la6, ↓la7, ↓la8, ↓la9, ↓la10, ↓la11, ↓la12, ↓la13, qa1, qa2, qa3, qa4, qa5, qa6, qa7, qa8, qa9, qa10, qa11, qa12, qa13, qa14, qa15, qa16, qa17, qa18, qa19, qa20, qa21, qa22, qa23, qa24, qa25, qa26, qa27, qa28, qa29, cmpV, cmpI, tr, z2])]
      rw [ss_n (loc' := [some (.ref P), some (.int mv), some (.int th), some (.ref t), some (.int g), some (.int tk), some (.int (occ0 b o g)), some (.int (k0 - (tk - th))), some (.ref pt), none, none, none, none, none]) (σ' := σ2) (by rw [qc1, hp]; simp)]
      rw [ss_n (loc' := [some (.ref P), some (.int mv), some (.int th), some (.ref t), some (.int g), some (.int tk), some (.int (occ0 b o g)), some (.int (k0 - (tk - th))), some (.ref pt), some (.int (att0 b o g)), none, none, none, none]) (σ' := σ2) (by simp [qc1, qc2, qc3, qc4, qc5, qc6, qc7, qc8, qc9, qc10, qc11, qc12, qc13, qc14, qc15, qc16, qc17, qc18, ↓la0, ↓la1, ↓la2, ↓la3, ↓la4, ↓la5, ↓la6, ↓la7, ↓la8, ↓la9, ↓la10, ↓la11, ↓la12, ↓la13, qa1, qa2, qa3, qa4, qa5, qa6, qa7, qa8, qa9, qa10, qa11, qa12, qa13, qa14, qa15, qa16, qa17, qa18, qa19, qa20, qa21, qa22, qa23, qa24, qa25, qa26, qa27, qa28, qa29, qb1, qb2, h35, bv_int, b_and, att0])]
      rw [ss_n (loc' := [some (.ref P), some (.int mv), some (.int th), some (.ref t), some (.int g), some (.int tk), some (.int (occ0 b o g)), some (.int (k0 - (tk - th))), some (.ref pt), some (.int (att0 b o g)), some (.int (1 - b.side)), none, none, none]) (σ' := σ2) (by simp [qc1, qc2, qc3, qc4, qc5, qc6, qc7, qc8, qc9, qc10, qc11, qc12, qc13, qc14, qc15, qc16, qc17, qc18, ↓la0, ↓la1, ↓la2, ↓la3, ↓la4, ↓la5, ↓la6, ↓la7, ↓la8, ↓la9, ↓la10, ↓la11, ↓la12, ↓la13, qa1, qa2, qa3, qa4, qa5, qa6, qa7, qa8, qa9, qa10, qa11, qa12, qa13, qa14, qa15, qa16, qa17, qa18, qa19, qa20, qa21, qa22, qa23, qa24, qa25, qa26, qa27, qa28, qa29, bv_int, b_sub, H2.side])]
      rw [ss_n (loc' := [some (.ref P), some (.int mv), some (.int th), some (.ref t), some (.int g), some (.int tk), some (.int (occ0 b o g)), some (.int (k0 - (tk - th))), some (.ref pt), some (.int (att0 b o g)), some (.int (1 - b.side)), some (.bool true), none, none]) (σ' := σ2) (by simp [qc1, qc2, qc3, qc4, qc5, qc6, qc7, qc8, qc9, qc10, qc11, qc12, qc13, qc14, qc15, qc16, qc17, qc18, ↓la0, ↓la1, ↓la2, ↓la3, ↓la4, ↓la5, ↓la6, ↓la7, ↓la8, ↓la9, ↓la10, ↓la11, ↓la12, ↓la13, qa1, qa2, qa3, qa4, qa5, qa6, qa7, qa8, qa9, qa10, qa11, qa12, qa13, qa14, qa15, qa16, qa17, qa18, qa19, qa20, qa21, qa22, qa23, qa24, qa25, qa26, qa27, qa28, qa29])]
      rw [ss_n (loc' := [some (.ref P), some (.int mv), some (.int th), some (.ref t), some (.int g), some (.int tk), some (.int (occ0 b o g)), some (.int (k0 - (tk - th))), some (.ref pt), some (.int (att0 b o g)), some (.int (1 - b.side)), some (.bool true), some (.int (nxtF b (att0 b o g) (occ0 b o g) (1 - b.side))), none]) (σ' := σ2) (by simp [qc1, qc2, qc3, qc4, qc5, qc6, qc7, qc8, qc9, qc10, qc11, qc12, qc13, qc14, qc15, qc16, qc17, qc18, ↓la0, ↓la1, ↓la2, ↓la3, ↓la4, ↓la5, ↓la6, ↓la7, ↓la8, ↓la9, ↓la10, ↓la11, ↓la12, ↓la13, qa1, qa2, qa3, qa4, qa5, qa6, qa7, qa8, qa9, qa10, qa11, qa12, qa13, qa14, qa15, qa16, qa17, qa18, qa19, qa20, qa21, qa22, qa23, qa24, qa25, qa26, qa27, qa28, qa29, qb1, qb2, h39])]
      have lp' : evS (callF prog (n + 5)) (.while geC geB) _ _ = _ := lp
      unfold geC geB at lp'
      rcases hres with rfl | ⟨rfl, hg⟩
      · exact ⟨_, ss_r lp'⟩
      · rw [ss_n lp']
        exact ⟨loc', by simp [qd1, qd2, qc1, qc2, qc3, qc4, qc5, qc6, qc7, qc8, qc9, qc10, qc11, qc12, qc13, qc14, qc15, qc16, qc17, qc18, ↓la0, ↓la1, ↓la2, ↓la3, ↓la4, ↓la5, ↓la6, ↓la7, ↓la8, ↓la9, ↓la10, ↓la11, ↓la12, ↓la13, qa1, qa2, qa3, qa4, qa5, qa6, qa7, qa8, qa9, qa10, qa11, qa12, qa13, qa14, qa15, qa16, qa17, qa18, qa19, qa20, qa21, qa22, qa23, qa24, qa25, qa26, qa27, qa28, qa29, hg]⟩
    obtain ⟨loc2, hb⟩ := hb
    rw [top _ hb]
    rfl
end
end Mine.Law

/-! ## P11 -/
namespace Mine.Law
open PySem PyProof.Rows

/-! what the exchange is worth -/
theorem sv_nil (v : Int → Int) (p l : Int) : sv v p l [] = l := rfl
theorem sv_cons (v : Int → Int) (p l k : Int) (ks : List Int) : sv v p l (k :: ks) = m2 l (sv v k (v p - l) ks) := rfl
theorem m2_le (a z : Int) : m2 a z ≤ a := by unfold m2; split <;> omega
theorem m2_ge (a z th : Int) : th ≤ m2 a z ↔ th ≤ a ∧ th ≤ -z := by unfold m2; split <;> omega
theorem sv_le (v : Int → Int) (p l : Int) : ∀ ks, sv v p l ks ≤ l
  | [] => Int.le_refl _
  | k :: ks => by rw [sv_cons]; exact m2_le _ _
theorem sv_ge (v : Int → Int) (p l : Int) (hp : 0 ≤ v p) : ∀ ks, l - v p ≤ sv v p l ks
  | [] => by rw [sv_nil]; omega
  | k :: ks => by
    rw [sv_cons, m2_ge]
    have := sv_le v k (v p - l) ks
    omega
theorem sv_top (v : Int → Int) (p l th : Int) (h1 : th ≤ l) (h2 : v p - (l - th) ≤ 0) : ∀ ks, th ≤ sv v p l ks
  | [] => by rw [sv_nil]; omega
  | k :: ks => by
    rw [sv_cons, m2_ge]
    have := sv_le v k (v p - l) ks
    omega
theorem ge_both (v : Int → Int) : ∀ (ks : List Int) (p l th : Int), th ≤ l → 0 < v p - (l - th) →
    geL v true (v p - (l - th)) ks = decide (th ≤ sv v p l ks) ∧ geL v false (v p - (l - th) - 1) ks = !decide (th ≤ sv v p l ks)
  | [], p, l, th, h1, h2 => by simp [geL, sv_nil, h1]
  | k :: ks, p, l, th, h1, h2 => by
    have ih := ge_both v ks k (v p - l) (1 - th)
    have htop := sv_top v k (v p - l) (1 - th) (by omega)
    have e : (th ≤ sv v p l (k :: ks)) ↔ ¬ (1 - th ≤ sv v k (v p - l) ks) := by
      rw [sv_cons, m2_ge]
      omega
    have es : v k - ((v p - l) - (1 - th)) = v k - (v p - (l - th)) + 1 := by omega
    rw [es] at ih htop
    constructor
    · by_cases hs : v k - (v p - (l - th)) < 0
      · have t := htop (by omega) ks
        simp [geL, hs, e, t]
      · have := (ih (by omega) (by omega)).2
        have e3 : v k - (v p - (l - th)) + 1 - 1 = v k - (v p - (l - th)) := by omega
        rw [e3] at this
        simp only [geL, hs, false_or, Bool.true_eq_false, false_and, if_false, Bool.not_true]
        rw [this, decide_eq_decide.mpr e, decide_not]
    · have es2 : v k - (v p - (l - th) - 1) = v k - (v p - (l - th)) + 1 := by omega
      by_cases hs : v k - (v p - (l - th)) + 1 ≤ 0
      · have t := htop hs ks
        have hc : v k - (v p - (l - th)) + 1 < 0 ∨ v k - (v p - (l - th)) + 1 = 0 := by omega
        simp only [geL, es2, true_and, hc, if_true, Bool.not_false]
        simp [e, t]
      · have := (ih (by omega) (by omega)).1
        have hc : ¬ (v k - (v p - (l - th)) + 1 < 0 ∨ v k - (v p - (l - th)) + 1 = 0) := by omega
        simp only [geL, es2, true_and, hc, if_false, Bool.not_false]
        rw [this, decide_eq_decide.mpr e, decide_not, Bool.not_not]
theorem geF_eq (b : B) (v : Int → Int) (o g th : Int) : geF b v o g th = decide (th ≤ seeV b v o g) := by
  unfold geF seeV
  have hle := sv_le v (band (b.bd o) 7) (v (band (b.bd g) 7)) (chain b g 20 (att0 b o g) (occ0 b o g) (1 - b.side))
  split
  · rename_i h
    simp
    omega
  · rename_i h
    split
    · rename_i h2
      have := sv_top v (band (b.bd o) 7) (v (band (b.bd g) 7)) th (by omega) h2 (chain b g 20 (att0 b o g) (occ0 b o g) (1 - b.side))
      simp [this]
    · rename_i h2
      exact (ge_both v _ _ _ th (by omega) (by omega)).1
theorem sv_mul (v : Int → Int) (c : Int) (hc : 0 < c) : ∀ (ks : List Int) (p l : Int), sv (fun k => c * v k) p (c * l) ks = c * sv v p l ks
  | [], p, l => rfl
  | k :: ks, p, l => by
    rw [sv_cons, sv_cons]
    have e : c * v p - c * l = c * (v p - l) := by rw [Int.mul_sub]
    have ih := sv_mul v c hc ks k (v p - l)
    simp only [e, ih]
    unfold m2
    have : -(c * sv v k (v p - l) ks) < c * l ↔ -sv v k (v p - l) ks < l := by
      rw [← Int.mul_neg]
      exact Int.mul_lt_mul_left hc
    by_cases h : -sv v k (v p - l) ks < l
    · rw [if_pos (this.mpr h), if_pos h, Int.mul_neg]
    · rw [if_neg (fun z => h (this.mp z)), if_neg h]
theorem seeV_mul (b : B) (v : Int → Int) (c : Int) (hc : 0 < c) (o g : Int) : seeV b (fun k => c * v k) o g = c * seeV b v o g := sv_mul v c hc _ _ _

/-! no foe, no loss -/
theorem tb_and {x y : Int} (hx : 0 ≤ x) (hy : 0 ≤ y) (i : Nat) : tb (band x y) i = (tb x i && tb y i) := by unfold tb; rw [and_pp hx hy, Int.toNat_natCast, Nat.testBit_and]
theorem tb_or {x y : Int} (hx : 0 ≤ x) (hy : 0 ≤ y) (i : Nat) : tb (bor x y) i = (tb x i || tb y i) := by unfold tb; rw [or_pp hx hy, Int.toNat_natCast, Nat.testBit_or]
theorem tb_xor {x y : Int} (hx : 0 ≤ x) (hy : 0 ≤ y) (i : Nat) : tb (bxor x y) i = (tb x i ^^ tb y i) := by unfold tb; rw [xor_pp hx hy, Int.toNat_natCast, Nat.testBit_xor]
theorem tb_ext {x y : Int} (hx : 0 ≤ x) (hy : 0 ≤ y) (h : ∀ i, tb x i = tb y i) : x = y := by
  have := Nat.eq_of_testBit_eq (x := x.toNat) (y := y.toNat) h
  omega
theorem tb_full (n i : Nat) : tb ((2 : Int) ^ n - 1) i = decide (i < n) := by
  unfold tb
  have : ((2 : Int) ^ n - 1).toNat = 2 ^ n - 1 := by
    have h : (2 : Int) ^ n = ((2 ^ n : Nat) : Int) := by push_cast; rfl
    rw [h]; omega
  rw [this, Nat.testBit_two_pow_sub_one]
theorem full_nn (n : Nat) : 0 ≤ (2 : Int) ^ n - 1 := by
  have h : (2 : Int) ^ n = ((2 ^ n : Nat) : Int) := by push_cast; rfl
  have := Nat.two_pow_pos n
  omega
theorem tb_shl1 (i j : Nat) : tb (shl 1 (i : Int)) j = decide (i = j) := by rw [shl_one]; unfold tb; rw [Int.toNat_natCast, Nat.testBit_two_pow]
theorem shl1_nn (i : Nat) : 0 ≤ shl 1 (i : Int) := by rw [shl_one]; exact Int.natCast_nonneg _
theorem ne_tb {x : Int} (hx : 0 ≤ x) (h : x ≠ 0) : ∃ i, tb x i = true := by
  apply Classical.byContradiction
  intro hn
  apply h
  refine tb_ext hx (Int.le_refl _) fun i => ?_
  have : tb 0 i = false := by unfold tb; simp
  rw [this]
  cases e : tb x i with
  | false => rfl
  | true => exact absurd ⟨i, e⟩ hn

theorem att_same {b : B} (S : Sane b) (M : Men b) {o g : Nat} (ho : o < b.n) (hg : g < b.n) (hm : tb (bor (b.sd 0) (b.sd 1)) o = true) :
    attF b g (occ0 b o g) = attF b g (bxor (bor (b.sd 0) (b.sd 1)) (shl 1 (o : Int))) := by
  have hocc : Bn b.n (bor (b.sd 0) (b.sd 1)) := (M.sd 0 (by decide) (by decide)).or (M.sd 1 (by decide) (by decide))
  have ray : ∀ d : Int, 0 ≤ d → d < 8 → rayA b d g (occ0 b o g) = rayA b d g (bxor (bor (b.sd 0) (b.sd 1)) (shl 1 (o : Int))) := by
    intro d h0 h1
    unfold rayA
    have hr := S.ray d g h0 h1 (by omega) (by omega)
    have h2 : 0 ≤ bor (shl 1 (o : Int)) (shl 1 (g : Int)) := by rw [or_pp (shl1_nn _) (shl1_nn _)]; exact Int.natCast_nonneg _
    have h3 : 0 ≤ bxor ((2 : Int) ^ b.n - 1) (bor (shl 1 (o : Int)) (shl 1 (g : Int))) := by rw [xor_pp (full_nn _) h2]; exact Int.natCast_nonneg _
    have h4 : 0 ≤ bxor (bor (b.sd 0) (b.sd 1)) (shl 1 (o : Int)) := by rw [xor_pp hocc.1 (shl1_nn _)]; exact Int.natCast_nonneg _
    have h5 : 0 ≤ occ0 b o g := by unfold occ0; rw [and_pp hocc.1 h3]; exact Int.natCast_nonneg _
    have e : band (b.ray d g) (occ0 b o g) = band (b.ray d g) (bxor (bor (b.sd 0) (b.sd 1)) (shl 1 (o : Int))) := by
      refine tb_ext (hr.and _).1 (hr.and _).1 fun i => ?_
      rw [tb_and hr.1 h5, tb_and hr.1 h4]
      by_cases hi : i = g
      · subst hi; rw [S.own d i h0 h1 hg]; rfl
      · unfold occ0
        rw [tb_and hocc.1 h3, tb_xor (full_nn _) h2, tb_or (shl1_nn _) (shl1_nn _), tb_xor hocc.1 (shl1_nn _), tb_full, tb_shl1, tb_shl1]
        by_cases hio : o = i
        · subst hio; simp [hm, ho]
        · have hgi : g ≠ i := fun e => hi e.symm
          cases ht : tb (bor (b.sd 0) (b.sd 1)) i with
          | false => simp [hio]
          | true => simp [hio, hgi, hocc.bit ht]
    rw [e]
  unfold attF lineF rookA bishA
  rw [ray 0 (by decide) (by decide), ray 1 (by decide) (by decide), ray 2 (by decide) (by decide), ray 3 (by decide) (by decide), ray 4 (by decide) (by decide), ray 5 (by decide) (by decide), ray 6 (by decide) (by decide), ray 7 (by decide) (by decide)]
noncomputable def foeF (b : B) (o g : Int) : Int := band (attF b g (bxor (bor (b.sd 0) (b.sd 1)) (shl 1 o))) (b.sd (1 - b.side))
theorem no_foe {b : B} (S : Sane b) (M : Men b) {mv : Int} {o g : Nat} (V : Mv b mv o g) (ho : o < b.n) (hg : g < b.n) (hm : tb (bor (b.sd 0) (b.sd 1)) o = true) (hz : foeF b o g = 0) (v : Int → Int) :
    seeV b v o g = v (band (b.bd g) 7) := by
  have st := st0 S M V
  have ha := attF_bn S (occ := occ0 b o g) (s := (g : Int)) V.g0 V.g1
  have hs := M.sd (1 - b.side) st.c0 st.c1
  have hfr : ∀ i, tb (frF b (att0 b o g) (occ0 b o g) (1 - b.side)) i = true → tb (att0 b o g) i = true := by
    unfold frF
    split
    · exact fun i h => h
    · exact fun i h => tb_and_l st.ha.1 h
  have hf0 : 0 ≤ frF b (att0 b o g) (occ0 b o g) (1 - b.side) := by
    unfold frF
    split
    · exact st.ha.1
    · exact (st.ha.and _).1
  have own : band (frF b (att0 b o g) (occ0 b o g) (1 - b.side)) (b.sd (1 - b.side)) = 0 := by
    apply Classical.byContradiction
    intro h
    obtain ⟨i, hi⟩ := ne_tb (hs.and' _).1 h
    rw [tb_and hf0 hs.1, Bool.and_eq_true] at hi
    have h1 := tb_and_l ha.1 (hfr i hi.1)
    have h2 : tb (foeF b o g) i = true := by
      unfold foeF
      rw [← att_same S M ho hg hm, tb_and ha.1 hs.1, h1, hi.2]
      rfl
    rw [hz] at h2
    unfold tb at h2
    simp at h2
  have hl : leaF b (frF b (att0 b o g) (occ0 b o g) (1 - b.side)) (1 - b.side) = -1 := by unfold leaF; rw [if_pos own]
  have hn : nxtF b (att0 b o g) (occ0 b o g) (1 - b.side) < 0 := by unfold nxtF; rw [hl]; simp
  unfold seeV
  have hc : chain b g 20 (att0 b o g) (occ0 b o g) (1 - b.side) = [] := by simp [chain, hn]
  rw [hc]
  rfl
end Mine.Law

/-! ## P12 -/
namespace Mine.Law
open PySem PyProof.Rows

structure Prices (σ : Hp) (t : Nat) (ps : List Int) : Prop where
  at_ : σ[t]? = some (.list (ps.map MV.int))
  len : ps.length = 7
  rng : ∀ p ∈ ps, 0 ≤ p ∧ p ≤ 40
noncomputable def pv (ps : List Int) (k : Int) : Int := (ps[k.toNat]?).getD 0
theorem pv_rng {ps : List Int} (h : ∀ p ∈ ps, 0 ≤ p ∧ p ≤ 40) (k : Int) : 0 ≤ pv ps k ∧ pv ps k ≤ 40 := by
  unfold pv
  cases e : ps[k.toNat]? with
  | none => simp
  | some p => exact h p (List.mem_of_getElem? e)
theorem vals_of {σ : Hp} {t : Nat} {xs : List Int} (h : σ[t]? = some (.list (xs.map MV.int))) (hl : xs.length = 7) : Vals σ t (pv xs) := by
  intro k h0 h1
  have hk : k.toNat < xs.length := by omega
  have hp : place (xs.map MV.int).length k = some k.toNat := by
    unfold place
    rw [if_pos h0, List.length_map, if_pos (by omega)]
  unfold getI
  simp only [h]
  rw [if_pos (by rw [List.length_map]; omega), hp, Option.bind_some, List.getElem?_map, List.getElem?_eq_getElem hk]
  simp [pv, hk]
theorem mapN_mul {f : MV → Option MV} {c : Int} : ∀ (xs : List Int), (∀ x ∈ xs, f (.int x) = some (.int (c * x))) → mapN f (xs.map MV.int) = some ((xs.map (c * ·)).map MV.int)
  | [], _ => rfl
  | x :: xs, h => by
    simp [mapN, h x (.head _), mapN_mul xs fun y hy => h y (.tail _ hy)]
theorem pv_mul (c : Int) (ps : List Int) : pv (ps.map (c * ·)) = fun k => c * pv ps k := by
  funext k
  unfold pv
  rw [List.getElem?_map]
  cases ps[k.toNat]? <;> simp

theorem es3 {Γ : Gam} {loc : Loc} {a b c : E} {x y z : MV} {σ σ1 σ2 σ3 : Hp} (h1 : evE Γ loc a σ = some (x, σ1)) (h2 : evE Γ loc b σ1 = some (y, σ2)) (h3 : evE Γ loc c σ2 = some (z, σ3)) : evEs Γ loc (.cons a (.cons b (.cons c .nil))) σ = some ([x, y, z], σ3) := by
  simp [qb1, qb2, h1, h2, h3]
theorem call_e {Γ : Gam} {loc : Loc} {f : Nat} {as : Es} {xs : List MV} {σ σ1 : Hp} {r : Option (MV × Hp)} (hf : f < 100) (h1 : evEs Γ loc as σ = some (xs, σ1)) (h2 : Γ f xs σ1 = r) : evE Γ loc (.call f as) σ = r := by
  simp [↓la0, ↓la1, ↓la2, ↓la3, ↓la4, ↓la5, ↓la6, ↓la7, ↓la8, ↓la9, ↓la10, ↓la11, ↓la12, ↓la13, qa1, qa2, qa3, qa4, qa5, qa6, qa7, qa8, qa9, qa10, qa11, qa12, qa13, qa14, qa15, qa16, qa17, qa18, qa19, qa20, qa21, qa22, qa23, qa24, qa25, qa26, qa27, qa28, qa29, h1, hf, h2]
section
variable {σ : Hp} {b : B} {n P : Nat}
theorem r48 (G : Geo σ b) (H : Pos σ P b) (S : Sane b) (M : Men b) {o g : Nat} (ho : o < b.n) (hg : g < b.n) (hm : tb (bor (b.sd 0) (b.sd 1)) o = true) {t : Nat} {ps : List Int} (T : Prices σ t ps) {st : Int} (s0 : 0 < st) (s1 : st ≤ 100) :
    ∃ σ', callF prog (n + 7) 48 [.ref P, .int (o : Int), .int (g : Int), .ref t, .int st] σ = some (.bool true, σ') ∧ Le σ σ' := by
  refine hide fun X back => ?_
  have n20 := S.n20
  have V := pack_mv S (o := (o : Int)) (g := (g : Int)) (by omega) (by omega) (by omega) (by omega)
  obtain ⟨mv, emv⟩ : ∃ x, x = packF (o : Int) (g : Int) := ⟨_, rfl⟩
  rw [← emv] at V
  have hbo := M.bd (o : Int) V.o0 V.o1
  have hbg := M.bd (g : Int) V.g0 V.g1
  have ht := pv_rng T.rng (band (b.bd (g : Int)) 7)
  have hk := pv_rng T.rng (band (b.bd (o : Int)) 7)
  obtain ⟨tk, etk⟩ : ∃ x, x = pv ps (band (b.bd (g : Int)) 7) := ⟨_, rfl⟩
  obtain ⟨kk, ekk⟩ : ∃ x, x = pv ps (band (b.bd (o : Int)) 7) := ⟨_, rfl⟩
  rw [← etk] at ht
  rw [← ekk] at hk
  obtain ⟨won, ewon⟩ : ∃ x, x = seeV b (pv ps) (o : Int) (g : Int) := ⟨_, rfl⟩
  have w1 : won ≤ tk := by rw [ewon, etk]; exact sv_le _ _ _ _
  have w0 : tk - kk ≤ won := by
    rw [ewon, etk, ekk]
    exact sv_ge _ _ _ (pv_rng T.rng _).1 _
  have V0 := vals_of T.at_ T.len
  -- the tuple of the two prices
  obtain ⟨σ1, e1⟩ : ∃ s : Hp, s = σ ++ [MObj.tup [.int tk, .int kk]] := ⟨_, rfl⟩
  have l1 : Le σ σ1 := e1 ▸ Le.app
  have t1 : σ1[σ.length]? = some (.tup [.int tk, .int kk]) := by rw [e1]; simp
  obtain ⟨σ2, h42, l2⟩ := r42 (n := n) (G.keep l1.keep) (H.keep l1.keep) S M V (V0.keep l1.keep)
  rw [← ewon] at h42
  have l12 := l1.trans l2
  have G2 := G.keep l12.keep
  have H2 := H.keep l12.keep
  have V2 := V0.keep l12.keep
  have h35 := r35 (n := n + 1) G2 H2 (s := (g : Int)) (occ := bxor (bor (b.sd 0) (b.sd 1)) (shl 1 (o : Int))) V.g0 V.g1
  obtain ⟨σ3, h43, l3⟩ := r43 (n := n) G2 H2 S M (th := won) V V2
  have l13 := l12.trans l3
  obtain ⟨σ4, h43', l4⟩ := r43 (n := n) (G.keep l13.keep) (H.keep l13.keep) S M (th := won + 1) V (V0.keep l13.keep)
  have l14 := l13.trans l4
  rw [geF_eq, ← ewon, decide_eq_true (Int.le_refl _)] at h43
  rw [geF_eq, ← ewon, decide_eq_false (by omega : ¬ won + 1 ≤ won)] at h43'
  have T4 : σ4[t]? = some (.list (ps.map MV.int)) := l14 _ _ T.at_
  obtain ⟨σ5, e5⟩ : ∃ s : Hp, s = σ4 ++ [MObj.list ((ps.map (st * ·)).map MV.int)] := ⟨_, rfl⟩
  have l5 : Le σ4 σ5 := e5 ▸ Le.app
  have l15 := l14.trans l5
  have T5 : σ5[σ4.length]? = some (.list ((ps.map (st * ·)).map MV.int)) := by rw [e5]; simp
  have V5 := vals_of T5 (by rw [List.length_map, T.len])
  rw [pv_mul] at V5
  obtain ⟨σ6, h42', l6⟩ := r42 (n := n) (G.keep l15.keep) (H.keep l15.keep) S M V V5
  rw [seeV_mul b (pv ps) st s0, ← ewon] at h42'
  refine back ?_
  refine ⟨σ6, ?_, l15.trans l6⟩
  obtain ⟨foe, efoe⟩ : ∃ x, x = foeF b (o : Int) (g : Int) := ⟨_, rfl⟩
  have hfoe : foe = 0 → won = tk := fun hz => by rw [ewon, etk]; exact no_foe S M V ho hg hm (efoe ▸ hz) _
  have hside := M.side
  have hb : evSs (callF prog (n + 6)) F48.body [some (.ref P), some (.int (o : Int)), some (.int (g : Int)), some (.ref t), some (.int st), none, none, none, none, none] σ =
      some (.ret (.bool true), [some (.ref P), some (.int (o : Int)), some (.int (g : Int)), some (.ref t), some (.int st), some (.int mv), some (.int tk), some (.int kk), some (.int won), some (.int foe)], σ6) := by
    unfold F48
    rw [ss_n (loc' := [some (.ref P), some (.int (o : Int)), some (.int (g : Int)), some (.ref t), some (.int st), some (.int mv), none, none, none, none]) (σ' := σ) (by simp [qc1, qc2, qc3, qc4, qc5, qc6, qc7, qc8, qc9, qc10, qc11, qc12, qc13, qc14, qc15, qc16, qc17, qc18, ↓la0, ↓la1, ↓la2, ↓la3, ↓la4, ↓la5, ↓la6, ↓la7, ↓la8, ↓la9, ↓la10, ↓la11, ↓la12, ↓la13, qa1, qa2, qa3, qa4, qa5, qa6, qa7, qa8, qa9, qa10, qa11, qa12, qa13, qa14, qa15, qa16, qa17, qa18, qa19, qa20, qa21, qa22, qa23, qa24, qa25, qa26, qa27, qa28, qa29, qb1, qb2, gl9, r3 (n := n + 5) (σ := σ) (o := (o : Int)) (g := (g : Int)) (by omega) (by omega), emv])]
    rw [ss_n (loc' := [some (.ref P), some (.int (o : Int)), some (.int (g : Int)), some (.ref t), some (.int st), some (.int mv), some (.int tk), some (.int kk), none, none]) (σ' := σ1) (by
      simp [qc1, qc2, qc3, qc4, qc5, qc6, qc7, qc8, qc9, qc10, qc11, qc12, qc13, qc14, qc15, qc16, qc17, qc18, ↓la0, ↓la1, ↓la2, ↓la3, ↓la4, ↓la5, ↓la6, ↓la7, ↓la8, ↓la9, ↓la10, ↓la11, ↓la12, ↓la13, qa1, qa2, qa3, qa4, qa5, qa6, qa7, qa8, qa9, qa10, qa11, qa12, qa13, qa14, qa15, qa16, qa17, qa18, qa19, qa20, qa21, qa22, qa23, qa24, qa25, qa26, qa27, qa28, qa29, qb1, qb2, H.board, H.bd (o : Int) V.o0 V.o1, H.bd (g : Int) V.g0 V.g1, r2, V0 _ hbo.1 hbo.2, V0 _ hbg.1 hbg.2, tupGet, ← etk, ← ekk, e1])]
    rw [ss_n (loc' := [some (.ref P), some (.int (o : Int)), some (.int (g : Int)), some (.ref t), some (.int st), some (.int mv), some (.int tk), some (.int kk), some (.int won), none]) (σ' := σ2) (by simp [qc1, qc2, qc3, qc4, qc5, qc6, qc7, qc8, qc9, qc10, qc11, qc12, qc13, qc14, qc15, qc16, qc17, qc18, ↓la0, ↓la1, ↓la2, ↓la3, ↓la4, ↓la5, ↓la6, ↓la7, ↓la8, ↓la9, ↓la10, ↓la11, ↓la12, ↓la13, qa1, qa2, qa3, qa4, qa5, qa6, qa7, qa8, qa9, qa10, qa11, qa12, qa13, qa14, qa15, qa16, qa17, qa18, qa19, qa20, qa21, qa22, qa23, qa24, qa25, qa26, qa27, qa28, qa29, qb1, qb2, h42])]
    rw [ss_n (loc' := [some (.ref P), some (.int (o : Int)), some (.int (g : Int)), some (.ref t), some (.int st), some (.int mv), some (.int tk), some (.int kk), some (.int won), none]) (σ' := σ2) (by simp [qd1, qd2, qc1, qc2, qc3, qc4, qc5, qc6, qc7, qc8, qc9, qc10, qc11, qc12, qc13, qc14, qc15, qc16, qc17, qc18, ↓la0, ↓la1, ↓la2, ↓la3, ↓la4, ↓la5, ↓la6, ↓la7, ↓la8, ↓la9, ↓la10, ↓la11, ↓la12, ↓la13, qa1, qa2, qa3, qa4, qa5, qa6, qa7, qa8, qa9, qa10, qa11, qa12, qa13, qa14, qa15, qa16, qa17, qa18, qa19, qa20, qa21, qa22, qa23, qa24, qa25, qa26, qa27, qa28, qa29, bv_int, b_sub, cmpV, cmpI, tr, unV, w0, w1])]
    rw [ss_n (loc' := [some (.ref P), some (.int (o : Int)), some (.int (g : Int)), some (.ref t), some (.int st), some (.int mv), some (.int tk), some (.int kk), some (.int won), some (.int foe)]) (σ' := σ2) (by
      simp [qc1, qc2, qc3, qc4, qc5, qc6, qc7, qc8, qc9, qc10, qc11, qc12, qc13, qc14, qc15, qc16, qc17, qc18, ↓la0, ↓la1, ↓la2, ↓la3, ↓la4, ↓la5, ↓la6, ↓la7, ↓la8, ↓la9, ↓la10, ↓la11, ↓la12, ↓la13, qa1, qa2, qa3, qa4, qa5, qa6, qa7, qa8, qa9, qa10, qa11, qa12, qa13, qa14, qa15, qa16, qa17, qa18, qa19, qa20, qa21, qa22, qa23, qa24, qa25, qa26, qa27, qa28, qa29, qb1, qb2, r28 (n := n + 5) H2, bv_int, b_shl (a := 1) (b := (o : Int)) V.o0 (by omega) (by decide), b_xor, b_and, b_sub, h35, H2.sides, H2.side, H2.sd (1 - b.side) (by omega) (by omega), efoe, foeF])]
    rw [ss_n (loc' := [some (.ref P), some (.int (o : Int)), some (.int (g : Int)), some (.ref t), some (.int st), some (.int mv), some (.int tk), some (.int kk), some (.int won), some (.int foe)]) (σ' := σ2) (by
      by_cases hz : foe = 0
      · have := hfoe hz
        simp [qd1, qd2, qc1, qc2, qc3, qc4, qc5, qc6, qc7, qc8, qc9, qc10, qc11, qc12, qc13, qc14, qc15, qc16, qc17, qc18, ↓la0, ↓la1, ↓la2, ↓la3, ↓la4, ↓la5, ↓la6, ↓la7, ↓la8, ↓la9, ↓la10, ↓la11, ↓la12, ↓la13, qa1, qa2, qa3, qa4, qa5, qa6, qa7, qa8, qa9, qa10, qa11, qa12, qa13, qa14, qa15, qa16, qa17, qa18, qa19, qa20, qa21, qa22, qa23, qa24, qa25, qa26, qa27, qa28, qa29, cmpV, cmpI, tr, hz, this]
      · simp [qd1, qd2, qc1, qc2, qc3, qc4, qc5, qc6, qc7, qc8, qc9, qc10, qc11, qc12, qc13, qc14, qc15, qc16, qc17, qc18, ↓la0, ↓la1, ↓la2, ↓la3, ↓la4, ↓la5, ↓la6, ↓la7, ↓la8, ↓la9, ↓la10, ↓la11, ↓la12, ↓la13, qa1, qa2, qa3, qa4, qa5, qa6, qa7, qa8, qa9, qa10, qa11, qa12, qa13, qa14, qa15, qa16, qa17, qa18, qa19, qa20, qa21, qa22, qa23, qa24, qa25, qa26, qa27, qa28, qa29, cmpV, cmpI, tr, hz])]
    rw [ss_n (loc' := [some (.ref P), some (.int (o : Int)), some (.int (g : Int)), some (.ref t), some (.int st), some (.int mv), some (.int tk), some (.int kk), some (.int won), some (.int foe)]) (σ' := σ4) (by
      simp [qd1, qd2, qc1, qc2, qc3, qc4, qc5, qc6, qc7, qc8, qc9, qc10, qc11, qc12, qc13, qc14, qc15, qc16, qc17, qc18, ↓la0, ↓la1, ↓la2, ↓la3, ↓la4, ↓la5, ↓la6, ↓la7, ↓la8, ↓la9, ↓la10, ↓la11, ↓la12, ↓la13, qa1, qa2, qa3, qa4, qa5, qa6, qa7, qa8, qa9, qa10, qa11, qa12, qa13, qa14, qa15, qa16, qa17, qa18, qa19, qa20, qa21, qa22, qa23, qa24, qa25, qa26, qa27, qa28, qa29, qb1, qb2, h43, h43', bv_int, b_add, unV, tr])]
    apply ss_r
    have hmap : mapN (fun v => (evE noCalls [some v, some (.int st)] (.bin .Mult (.loc 1) (.loc 0)) σ4).bind fun q => if q.2 = σ4 then some q.1 else none) (ps.map MV.int) = some ((ps.map (st * ·)).map MV.int) := by
      refine mapN_mul ps fun x hx => ?_
      have hr := T.rng x hx
      simp [↓la0, ↓la1, ↓la2, ↓la3, ↓la4, ↓la5, ↓la6, ↓la7, ↓la8, ↓la9, ↓la10, ↓la11, ↓la12, ↓la13, qa1, qa2, qa3, qa4, qa5, qa6, qa7, qa8, qa9, qa10, qa11, qa12, qa13, qa14, qa15, qa16, qa17, qa18, qa19, qa20, qa21, qa22, qa23, qa24, qa25, qa26, qa27, qa28, qa29, bv_int, b_mul (a := st) (b := x) (by omega) (by omega)]
    have hcomp : evE (callF prog (n + 6)) [some (.ref P), some (.int (o : Int)), some (.int (g : Int)), some (.ref t), some (.int st), some (.int mv), some (.int tk), some (.int kk), some (.int won), some (.int foe)] (.compL (.loc 3) 4 (.bin .Mult (.loc 1) (.loc 0))) σ4 = some (.ref σ4.length, σ5) := by
      rw [qa28]
      simp only [↓la0, ↓la1, ↓la2, ↓la3, ↓la4, ↓la5, ↓la6, ↓la7, ↓la8, ↓la9, ↓la10, ↓la11, ↓la12, ↓la13, qa1, qa2, qa3, qa4, qa5, qa6, qa7, qa8, qa9, qa10, qa11, qa12, qa13, qa14, qa15, qa16, qa17, qa18, qa19, qa20, qa21, qa22, qa23, qa24, qa25, qa26, qa27, qa28, qa29, List.getElem?_cons_succ, List.getElem?_cons_zero, Option.join_some, Option.map_some, Option.bind_some, T4]
      rw [if_pos (by rw [List.length_map, T.len]; omega)]
      simp only [↓la0, ↓la1, ↓la2, ↓la3, ↓la4, ↓la5, ↓la6, ↓la7, ↓la8, ↓la9, ↓la10, ↓la11, ↓la12, ↓la13, qa1, qa2, qa3, qa4, qa5, qa6, qa7, qa8, qa9, qa10, qa11, qa12, qa13, qa14, qa15, qa16, qa17, qa18, qa19, qa20, qa21, qa22, qa23, qa24, qa25, qa26, qa27, qa28, qa29, List.getElem?_cons_succ, List.getElem?_cons_zero, Option.join_some, Option.map_some, Option.bind_some] at hmap
      rw [hmap, e5]
      rfl
    rw [qc15, qa8, call_e (by decide) (es3 (x := .ref P) (y := .int mv) (σ1 := σ4) (σ2 := σ4) (by simp [↓la0, ↓la1, ↓la2, ↓la3, ↓la4, ↓la5, ↓la6, ↓la7, ↓la8, ↓la9, ↓la10, ↓la11, ↓la12, ↓la13, qa1, qa2, qa3, qa4, qa5, qa6, qa7, qa8, qa9, qa10, qa11, qa12, qa13, qa14, qa15, qa16, qa17, qa18, qa19, qa20, qa21, qa22, qa23, qa24, qa25, qa26, qa27, qa28, qa29]) (by simp [↓la0, ↓la1, ↓la2, ↓la3, ↓la4, ↓la5, ↓la6, ↓la7, ↓la8, ↓la9, ↓la10, ↓la11, ↓la12, ↓la13, qa1, qa2, qa3, qa4, qa5, qa6, qa7, qa8, qa9, qa10, qa11, qa12, qa13, qa14, qa15, qa16, qa17, qa18, qa19, qa20, qa21, qa22, qa23, qa24, qa25, qa26, qa27, qa28, qa29]) hcomp) h42']
    simp [↓la0, ↓la1, ↓la2, ↓la3, ↓la4, ↓la5, ↓la6, ↓la7, ↓la8, ↓la9, ↓la10, ↓la11, ↓la12, ↓la13, qa1, qa2, qa3, qa4, qa5, qa6, qa7, qa8, qa9, qa10, qa11, qa12, qa13, qa14, qa15, qa16, qa17, qa18, qa19, qa20, qa21, qa22, qa23, qa24, qa25, qa26, qa27, qa28, qa29, bv_int, b_mul (a := st) (b := won) (by omega) (by omega), cmpV, cmpI]
  rw [call_eq]
  show Option.bind (evSs (callF prog (n + 6)) F48.body [some (.ref P), some (.int (o : Int)), some (.int (g : Int)), some (.ref t), some (.int st), none, none, none, none, none] σ) _ = _
  rw [hb]
  rfl
end
end Mine.Law

/-! ## P13 -/
namespace Mine.Law
open PySem PyProof.Rows

/-! the four boards -/
noncomputable def newS : S := .set 4 (.new 2 (.cons (.call 18 (.cons (.loc 1) (.cons (.loc 2) (.cons (.bool false) (.cons (.bool false) .nil))))) (.cons (.new 1 (.cons (.bin .Mult (.list (.cons (.bin .Mult (.list (.cons (.int 0) .nil)) (.loc 3)) .nil)) (.int 15)) (.cons (.bin .Mult (.list (.cons (.int 0) .nil)) (.loc 1)) (.cons (.bin .Mult (.list (.cons (.int 0) .nil)) (.int 16)) (.cons (.int 0) .nil))))) .nil)))
noncomputable def posFs (side key : Int) : List (Nat × MV) := [(14, .ref 3), (15, .ref 54), (16, .ref 57), (17, .ref 59), (18, .ref 60), (19, .int side), (20, .int 0), (21, .int (-1)), (22, .int 0), (3, .int 1), (23, .int key), (24, .ref 61)]
noncomputable def tailH (n : Nat) : Hp := [.inst 2 (posFs 0 0), .list [.int 0], .list (List.replicate n (.int 0)), .list [.int 0], .list (List.replicate 7 (.int 0)), .list [.int 0, .int 0], .list []]
noncomputable def lit34 : Hp := [.inst 0 [(0, .int 3), (1, .int 4), (2, .int 12), (3, .int 4095), (4, .bool false), (5, .bool false), (6, .ref 4), (7, .ref 5), (8, .ref 6), (9, .ref 15), (10, .ref 8), (11, .ref 11), (12, .ref 12), (13, .ref 45)],
  .list [.int 585, .int 1170, .int 2340],
  .list [.int 7, .int 56, .int 448, .int 3584],
  .list [.ref 17, .ref 21, .ref 25, .ref 28, .ref 31, .ref 35, .ref 38, .ref 41],
  .list [],
  .list [.int 160, .int 320, .int 136, .int 1284, .int 2560, .int 1089, .int 2082, .int 5, .int 522, .int 272, .int 40, .int 80],
  .list [.int 16, .int 40, .int 16, .int 128, .int 320, .int 128, .int 1024, .int 2560, .int 1024, .int 0, .int 0, .int 0],
  .list [.int 0, .int 0, .int 0, .int 2, .int 5, .int 2, .int 16, .int 40, .int 16, .int 128, .int 320, .int 128],
  .list [.ref 9, .ref 10],
  .list [.none, .none, .none, .none],
  .list [],
  .list [.int 0],
  .list [.int 26, .int 61, .int 50, .int 211, .int 495, .int 406, .int 1688, .int 3960, .int 3248, .int 1216, .int 3008, .int 1408],
  .list [.int 0],
  .list [.int 584, .int 1168, .int 2336, .int 576, .int 1152, .int 2304, .int 512, .int 1024, .int 2048, .int 0, .int 0, .int 0],
  .range 0 12 1,
  .range 11 (-1) (-1),
  .list [.int 0],
  .list [.int 6, .int 4, .int 0, .int 48, .int 32, .int 0, .int 384, .int 256, .int 0, .int 3072, .int 2048, .int 0],
  .range 0 12 1,
  .range 11 (-1) (-1),
  .list [.int 0],
  .list [.int 0, .int 0, .int 0, .int 1, .int 2, .int 4, .int 9, .int 18, .int 36, .int 73, .int 146, .int 292],
  .range 0 12 1,
  .list [.int 0],
  .list [.int 0, .int 1, .int 3, .int 0, .int 8, .int 24, .int 0, .int 64, .int 192, .int 0, .int 512, .int 1536],
  .range 0 12 1,
  .list [.int 0],
  .list [.int 272, .int 32, .int 0, .int 2176, .int 256, .int 0, .int 1024, .int 2048, .int 0, .int 0, .int 0, .int 0],
  .range 0 12 1,
  .range 11 (-1) (-1),
  .list [.int 0],
  .list [.int 0, .int 0, .int 0, .int 2, .int 4, .int 0, .int 20, .int 32, .int 0, .int 160, .int 256, .int 0],
  .range 0 12 1,
  .list [.int 0],
  .list [.int 0, .int 0, .int 0, .int 0, .int 1, .int 2, .int 0, .int 8, .int 17, .int 0, .int 64, .int 136],
  .range 0 12 1,
  .list [.int 0],
  .list [.int 0, .int 8, .int 80, .int 0, .int 64, .int 640, .int 0, .int 512, .int 1024, .int 0, .int 0, .int 0],
  .range 0 12 1,
  .range 11 (-1) (-1),
  .list [.int 0],
  .list [.int 0, .int 0, .int 0, .int 0, .int 0, .int 0, .int 0, .int 0, .int 0, .int 0, .int 0, .int 0],
  .list [.int 0],
  .list [.int 0, .int 0, .int 0, .int 0, .int 0, .int 0, .int 0, .int 0, .int 0, .int 0, .int 0, .int 0],
  .list [.ref 47],
  .list [.ref 47, .ref 47, .ref 47, .ref 47, .ref 47, .ref 47, .ref 47, .ref 47, .ref 47, .ref 47, .ref 47, .ref 47, .ref 47, .ref 47, .ref 47],
  .list [.int 0],
  .list [.int 0, .int 0, .int 0],
  .list [.int 0],
  .list [.int 0, .int 0, .int 0, .int 0, .int 0, .int 0, .int 0, .int 0, .int 0, .int 0, .int 0, .int 0, .int 0, .int 0, .int 0, .int 0],
  .inst 1 [(25, .ref 49), (21, .ref 51), (20, .ref 53), (19, .int 0)]]
noncomputable def lit35 : Hp := [.inst 0 [(0, .int 3), (1, .int 5), (2, .int 15), (3, .int 32767), (4, .bool false), (5, .bool false), (6, .ref 4), (7, .ref 5), (8, .ref 6), (9, .ref 15), (10, .ref 8), (11, .ref 11), (12, .ref 12), (13, .ref 45)],
  .list [.int 4681, .int 9362, .int 18724],
  .list [.int 7, .int 56, .int 448, .int 3584, .int 28672],
  .list [.ref 17, .ref 21, .ref 25, .ref 28, .ref 31, .ref 35, .ref 38, .ref 41],
  .list [],
  .list [.int 160, .int 320, .int 136, .int 1284, .int 2560, .int 1089, .int 10274, .int 20485, .int 8714, .int 16656, .int 40, .int 4176, .int 2176, .int 320, .int 640],
  .list [.int 16, .int 40, .int 16, .int 128, .int 320, .int 128, .int 1024, .int 2560, .int 1024, .int 8192, .int 20480, .int 8192, .int 0, .int 0, .int 0],
  .list [.int 0, .int 0, .int 0, .int 2, .int 5, .int 2, .int 16, .int 40, .int 16, .int 128, .int 320, .int 128, .int 1024, .int 2560, .int 1024],
  .list [.ref 9, .ref 10],
  .list [.none, .none, .none, .none],
  .list [],
  .list [.int 0],
  .list [.int 26, .int 61, .int 50, .int 211, .int 495, .int 406, .int 1688, .int 3960, .int 3248, .int 13504, .int 31680, .int 25984, .int 9728, .int 24064, .int 11264],
  .list [.int 0],
  .list [.int 4680, .int 9360, .int 18720, .int 4672, .int 9344, .int 18688, .int 4608, .int 9216, .int 18432, .int 4096, .int 8192, .int 16384, .int 0, .int 0, .int 0],
  .range 0 15 1,
  .range 14 (-1) (-1),
  .list [.int 0],
  .list [.int 6, .int 4, .int 0, .int 48, .int 32, .int 0, .int 384, .int 256, .int 0, .int 3072, .int 2048, .int 0, .int 24576, .int 16384, .int 0],
  .range 0 15 1,
  .range 14 (-1) (-1),
  .list [.int 0],
  .list [.int 0, .int 0, .int 0, .int 1, .int 2, .int 4, .int 9, .int 18, .int 36, .int 73, .int 146, .int 292, .int 585, .int 1170, .int 2340],
  .range 0 15 1,
  .list [.int 0],
  .list [.int 0, .int 1, .int 3, .int 0, .int 8, .int 24, .int 0, .int 64, .int 192, .int 0, .int 512, .int 1536, .int 0, .int 4096, .int 12288],
  .range 0 15 1,
  .list [.int 0],
  .list [.int 272, .int 32, .int 0, .int 2176, .int 256, .int 0, .int 17408, .int 2048, .int 0, .int 8192, .int 16384, .int 0, .int 0, .int 0, .int 0],
  .range 0 15 1,
  .range 14 (-1) (-1),
  .list [.int 0],
  .list [.int 0, .int 0, .int 0, .int 2, .int 4, .int 0, .int 20, .int 32, .int 0, .int 160, .int 256, .int 0, .int 1280, .int 2048, .int 0],
  .range 0 15 1,
  .list [.int 0],
  .list [.int 0, .int 0, .int 0, .int 0, .int 1, .int 2, .int 0, .int 8, .int 17, .int 0, .int 64, .int 136, .int 0, .int 512, .int 1088],
  .range 0 15 1,
  .list [.int 0],
  .list [.int 0, .int 8, .int 80, .int 0, .int 64, .int 640, .int 0, .int 512, .int 5120, .int 0, .int 4096, .int 8192, .int 0, .int 0, .int 0],
  .range 0 15 1,
  .range 14 (-1) (-1),
  .list [.int 0],
  .list [.int 0, .int 0, .int 0, .int 0, .int 0, .int 0, .int 0, .int 0, .int 0, .int 0, .int 0, .int 0, .int 0, .int 0, .int 0],
  .list [.int 0],
  .list [.int 0, .int 0, .int 0, .int 0, .int 0, .int 0, .int 0, .int 0, .int 0, .int 0, .int 0, .int 0, .int 0, .int 0, .int 0],
  .list [.ref 47],
  .list [.ref 47, .ref 47, .ref 47, .ref 47, .ref 47, .ref 47, .ref 47, .ref 47, .ref 47, .ref 47, .ref 47, .ref 47, .ref 47, .ref 47, .ref 47],
  .list [.int 0],
  .list [.int 0, .int 0, .int 0],
  .list [.int 0],
  .list [.int 0, .int 0, .int 0, .int 0, .int 0, .int 0, .int 0, .int 0, .int 0, .int 0, .int 0, .int 0, .int 0, .int 0, .int 0, .int 0],
  .inst 1 [(25, .ref 49), (21, .ref 51), (20, .ref 53), (19, .int 0)]]
noncomputable def lit44 : Hp := [.inst 0 [(0, .int 4), (1, .int 4), (2, .int 16), (3, .int 65535), (4, .bool false), (5, .bool false), (6, .ref 4), (7, .ref 5), (8, .ref 6), (9, .ref 15), (10, .ref 8), (11, .ref 11), (12, .ref 12), (13, .ref 45)],
  .list [.int 4369, .int 8738, .int 17476, .int 34952],
  .list [.int 15, .int 240, .int 3840, .int 61440],
  .list [.ref 17, .ref 21, .ref 25, .ref 28, .ref 31, .ref 35, .ref 38, .ref 41],
  .list [],
  .list [.int 576, .int 1408, .int 2576, .int 1056, .int 9220, .int 22536, .int 41217, .int 16898, .int 16450, .int 32901, .int 4122, .int 8228, .int 1056, .int 2128, .int 416, .int 576],
  .list [.int 32, .int 80, .int 160, .int 64, .int 512, .int 1280, .int 2560, .int 1024, .int 8192, .int 20480, .int 40960, .int 16384, .int 0, .int 0, .int 0, .int 0],
  .list [.int 0, .int 0, .int 0, .int 0, .int 2, .int 5, .int 10, .int 4, .int 32, .int 80, .int 160, .int 64, .int 512, .int 1280, .int 2560, .int 1024],
  .list [.ref 9, .ref 10],
  .list [.none, .none, .none, .none],
  .list [],
  .list [.int 0],
  .list [.int 50, .int 117, .int 234, .int 196, .int 803, .int 1879, .int 3758, .int 3148, .int 12848, .int 30064, .int 60128, .int 50368, .int 8960, .int 22272, .int 44544, .int 19456],
  .list [.int 0],
  .list [.int 4368, .int 8736, .int 17472, .int 34944, .int 4352, .int 8704, .int 17408, .int 34816, .int 4096, .int 8192, .int 16384, .int 32768, .int 0, .int 0, .int 0, .int 0],
  .range 0 16 1,
  .range 15 (-1) (-1),
  .list [.int 0],
  .list [.int 14, .int 12, .int 8, .int 0, .int 224, .int 192, .int 128, .int 0, .int 3584, .int 3072, .int 2048, .int 0, .int 57344, .int 49152, .int 32768, .int 0],
  .range 0 16 1,
  .range 15 (-1) (-1),
  .list [.int 0],
  .list [.int 0, .int 0, .int 0, .int 0, .int 1, .int 2, .int 4, .int 8, .int 17, .int 34, .int 68, .int 136, .int 273, .int 546, .int 1092, .int 2184],
  .range 0 16 1,
  .list [.int 0],
  .list [.int 0, .int 1, .int 3, .int 7, .int 0, .int 16, .int 48, .int 112, .int 0, .int 256, .int 768, .int 1792, .int 0, .int 4096, .int 12288, .int 28672],
  .range 0 16 1,
  .list [.int 0],
  .list [.int 33824, .int 2112, .int 128, .int 0, .int 16896, .int 33792, .int 2048, .int 0, .int 8192, .int 16384, .int 32768, .int 0, .int 0, .int 0, .int 0, .int 0],
  .range 0 16 1,
  .range 15 (-1) (-1),
  .list [.int 0],
  .list [.int 0, .int 0, .int 0, .int 0, .int 2, .int 4, .int 8, .int 0, .int 36, .int 72, .int 128, .int 0, .int 584, .int 1152, .int 2048, .int 0],
  .range 0 16 1,
  .list [.int 0],
  .list [.int 0, .int 0, .int 0, .int 0, .int 0, .int 1, .int 2, .int 4, .int 0, .int 16, .int 33, .int 66, .int 0, .int 256, .int 528, .int 1057],
  .range 0 16 1,
  .list [.int 0],
  .list [.int 0, .int 16, .int 288, .int 4672, .int 0, .int 256, .int 4608, .int 9216, .int 0, .int 4096, .int 8192, .int 16384, .int 0, .int 0, .int 0, .int 0],
  .range 0 16 1,
  .range 15 (-1) (-1),
  .list [.int 0],
  .list [.int 0, .int 0, .int 0, .int 0, .int 0, .int 0, .int 0, .int 0, .int 0, .int 0, .int 0, .int 0, .int 0, .int 0, .int 0, .int 0],
  .list [.int 0],
  .list [.int 0, .int 0, .int 0, .int 0, .int 0, .int 0, .int 0, .int 0, .int 0, .int 0, .int 0, .int 0, .int 0, .int 0, .int 0, .int 0],
  .list [.ref 47],
  .list [.ref 47, .ref 47, .ref 47, .ref 47, .ref 47, .ref 47, .ref 47, .ref 47, .ref 47, .ref 47, .ref 47, .ref 47, .ref 47, .ref 47, .ref 47],
  .list [.int 0],
  .list [.int 0, .int 0, .int 0, .int 0],
  .list [.int 0],
  .list [.int 0, .int 0, .int 0, .int 0, .int 0, .int 0, .int 0, .int 0, .int 0, .int 0, .int 0, .int 0, .int 0, .int 0, .int 0, .int 0],
  .inst 1 [(25, .ref 49), (21, .ref 51), (20, .ref 53), (19, .int 0)]]
noncomputable def lit45 : Hp := [.inst 0 [(0, .int 4), (1, .int 5), (2, .int 20), (3, .int 1048575), (4, .bool false), (5, .bool false), (6, .ref 4), (7, .ref 5), (8, .ref 6), (9, .ref 15), (10, .ref 8), (11, .ref 11), (12, .ref 12), (13, .ref 45)],
  .list [.int 69905, .int 139810, .int 279620, .int 559240],
  .list [.int 15, .int 240, .int 3840, .int 61440, .int 983040],
  .list [.ref 17, .ref 21, .ref 25, .ref 28, .ref 31, .ref 35, .ref 38, .ref 41],
  .list [],
  .list [.int 576, .int 1408, .int 2576, .int 1056, .int 9220, .int 22536, .int 41217, .int 16898, .int 147522, .int 360581, .int 659482, .int 270372, .int 263200, .int 526416, .int 65952, .int 131648, .int 16896, .int 34048, .int 6656, .int 9216],
  .list [.int 32, .int 80, .int 160, .int 64, .int 512, .int 1280, .int 2560, .int 1024, .int 8192, .int 20480, .int 40960, .int 16384, .int 131072, .int 327680, .int 655360, .int 262144, .int 0, .int 0, .int 0, .int 0],
  .list [.int 0, .int 0, .int 0, .int 0, .int 2, .int 5, .int 10, .int 4, .int 32, .int 80, .int 160, .int 64, .int 512, .int 1280, .int 2560, .int 1024, .int 8192, .int 20480, .int 40960, .int 16384],
  .list [.ref 9, .ref 10],
  .list [.none, .none, .none, .none],
  .list [],
  .list [.int 0],
  .list [.int 50, .int 117, .int 234, .int 196, .int 803, .int 1879, .int 3758, .int 3148, .int 12848, .int 30064, .int 60128, .int 50368, .int 205568, .int 481024, .int 962048, .int 805888, .int 143360, .int 356352, .int 712704, .int 311296],
  .list [.int 0],
  .list [.int 69904, .int 139808, .int 279616, .int 559232, .int 69888, .int 139776, .int 279552, .int 559104, .int 69632, .int 139264, .int 278528, .int 557056, .int 65536, .int 131072, .int 262144, .int 524288, .int 0, .int 0, .int 0, .int 0],
  .range 0 20 1,
  .range 19 (-1) (-1),
  .list [.int 0],
  .list [.int 14, .int 12, .int 8, .int 0, .int 224, .int 192, .int 128, .int 0, .int 3584, .int 3072, .int 2048, .int 0, .int 57344, .int 49152, .int 32768, .int 0, .int 917504, .int 786432, .int 524288, .int 0],
  .range 0 20 1,
  .range 19 (-1) (-1),
  .list [.int 0],
  .list [.int 0, .int 0, .int 0, .int 0, .int 1, .int 2, .int 4, .int 8, .int 17, .int 34, .int 68, .int 136, .int 273, .int 546, .int 1092, .int 2184, .int 4369, .int 8738, .int 17476, .int 34952],
  .range 0 20 1,
  .list [.int 0],
  .list [.int 0, .int 1, .int 3, .int 7, .int 0, .int 16, .int 48, .int 112, .int 0, .int 256, .int 768, .int 1792, .int 0, .int 4096, .int 12288, .int 28672, .int 0, .int 65536, .int 196608, .int 458752],
  .range 0 20 1,
  .list [.int 0],
  .list [.int 33824, .int 2112, .int 128, .int 0, .int 541184, .int 33792, .int 2048, .int 0, .int 270336, .int 540672, .int 32768, .int 0, .int 131072, .int 262144, .int 524288, .int 0, .int 0, .int 0, .int 0, .int 0],
  .range 0 20 1,
  .range 19 (-1) (-1),
  .list [.int 0],
  .list [.int 0, .int 0, .int 0, .int 0, .int 2, .int 4, .int 8, .int 0, .int 36, .int 72, .int 128, .int 0, .int 584, .int 1152, .int 2048, .int 0, .int 9344, .int 18432, .int 32768, .int 0],
  .range 0 20 1,
  .list [.int 0],
  .list [.int 0, .int 0, .int 0, .int 0, .int 0, .int 1, .int 2, .int 4, .int 0, .int 16, .int 33, .int 66, .int 0, .int 256, .int 528, .int 1057, .int 0, .int 4096, .int 8448, .int 16912],
  .range 0 20 1,
  .list [.int 0],
  .list [.int 0, .int 16, .int 288, .int 4672, .int 0, .int 256, .int 4608, .int 74752, .int 0, .int 4096, .int 73728, .int 147456, .int 0, .int 65536, .int 131072, .int 262144, .int 0, .int 0, .int 0, .int 0],
  .range 0 20 1,
  .range 19 (-1) (-1),
  .list [.int 0],
  .list [.int 0, .int 0, .int 0, .int 0, .int 0, .int 0, .int 0, .int 0, .int 0, .int 0, .int 0, .int 0, .int 0, .int 0, .int 0, .int 0, .int 0, .int 0, .int 0, .int 0],
  .list [.int 0],
  .list [.int 0, .int 0, .int 0, .int 0, .int 0, .int 0, .int 0, .int 0, .int 0, .int 0, .int 0, .int 0, .int 0, .int 0, .int 0, .int 0, .int 0, .int 0, .int 0, .int 0],
  .list [.ref 47],
  .list [.ref 47, .ref 47, .ref 47, .ref 47, .ref 47, .ref 47, .ref 47, .ref 47, .ref 47, .ref 47, .ref 47, .ref 47, .ref 47, .ref 47, .ref 47],
  .list [.int 0],
  .list [.int 0, .int 0, .int 0, .int 0],
  .list [.int 0],
  .list [.int 0, .int 0, .int 0, .int 0, .int 0, .int 0, .int 0, .int 0, .int 0, .int 0, .int 0, .int 0, .int 0, .int 0, .int 0, .int 0],
  .inst 1 [(25, .ref 49), (21, .ref 51), (20, .ref 53), (19, .int 0)]]
theorem run34 (x0 x1 x2 : MObj) : evS (callF prog 8) newS [some (.ref 1), some (.int 3), some (.int 4), some (.int 12), none, none] [x0, x1, x2] =
    some (.next, [some (.ref 1), some (.int 3), some (.int 4), some (.int 12), some (.ref 55), none], x0 :: x1 :: x2 :: (lit34 ++ tailH 12)) := by kernel_rfl!
theorem run35 (x0 x1 x2 : MObj) : evS (callF prog 8) newS [some (.ref 1), some (.int 3), some (.int 5), some (.int 15), none, none] [x0, x1, x2] =
    some (.next, [some (.ref 1), some (.int 3), some (.int 5), some (.int 15), some (.ref 55), none], x0 :: x1 :: x2 :: (lit35 ++ tailH 15)) := by kernel_rfl!
theorem run44 (x0 x1 x2 : MObj) : evS (callF prog 8) newS [some (.ref 1), some (.int 4), some (.int 4), some (.int 16), none, none] [x0, x1, x2] =
    some (.next, [some (.ref 1), some (.int 4), some (.int 4), some (.int 16), some (.ref 55), none], x0 :: x1 :: x2 :: (lit44 ++ tailH 16)) := by kernel_rfl!
theorem run45 (x0 x1 x2 : MObj) : evS (callF prog 8) newS [some (.ref 1), some (.int 4), some (.int 5), some (.int 20), none, none] [x0, x1, x2] =
    some (.next, [some (.ref 1), some (.int 4), some (.int 5), some (.int 20), some (.ref 55), none], x0 :: x1 :: x2 :: (lit45 ++ tailH 20)) := by kernel_rfl!
end Mine.Law

/-! ## P14 -/
namespace Mine.Law
open PySem PyProof.Rows

noncomputable def hd3 : Hp := [.dict [], .dict [], .dict []]
noncomputable def rdI (h : Hp) (id : Nat) (i : Int) : Int := match getI h (.ref id) (.int i) with
  | some (.int x) => x
  | _ => 0
noncomputable def rdR (h : Hp) (id : Nat) (i : Int) : Nat := match getI h (.ref id) (.int i) with
  | some (.ref x) => x
  | _ => 0
/-- what the constant part of the heap says -/
noncomputable def geoB (lit : Hp) (n : Nat) (f : Int) (bd kd sd : Int → Int) (side : Int) : B :=
  { n := n, files := f, g := 3, rI := 6, kgI := 15, knI := 8, pwI := 11, rd := rdR (hd3 ++ lit) 6, pw := rdR (hd3 ++ lit) 11
    ray := fun d s => rdI (hd3 ++ lit) (rdR (hd3 ++ lit) 6 d) s, king := rdI (hd3 ++ lit) 15, knight := rdI (hd3 ++ lit) 8, pawn := fun c s => rdI (hd3 ++ lit) (rdR (hd3 ++ lit) 11 c) s
    bI := 57, kI := 59, sI := 60, bd := bd, kd := kd, sd := sd, side := side }
noncomputable def okI (h : Hp) (n : Nat) (id : Nat) (i : Int) : Bool := match getI h (.ref id) (.int i) with
  | some (.int x) => decide (0 ≤ x) && decide (x < 2 ^ n)
  | _ => false
noncomputable def okR (h : Hp) (id : Nat) (i : Int) : Bool := match getI h (.ref id) (.int i) with
  | some (.ref _) => true
  | _ => false
noncomputable def isA (h : Hp) (f : Nat) (v : MV) : Bool := decide (getA h (.ref 3) f = some v)
noncomputable def chkGeo (h : Hp) (n : Nat) (f : Int) : Bool :=
  isA h 0 (.int f) && isA h 2 (.int n) && isA h 3 (.int ((2 : Int) ^ n - 1)) && isA h 8 (.ref 6) && isA h 9 (.ref 15) && isA h 10 (.ref 8) && isA h 11 (.ref 11) &&
  ((List.range 8).all fun d => okR h 6 d && ((List.range (n + 1)).all fun s => okI h n (rdR h 6 d) ((s : Int) - 1)) && ((List.range n).all fun s => !tb (rdI h (rdR h 6 d) s) s)) &&
  ((List.range n).all fun s => okI h n 15 s && okI h n 8 s) && ((List.range 2).all fun c => okR h 11 c && ((List.range n).all fun s => okI h n (rdR h 11 c) s))
/-- the zobrist's table of noughts -/
noncomputable def chkZob (h : Hp) (n : Nat) : Bool := decide (getA h (.ref 54) 25 = some (.ref 49)) && ((List.range 15).all fun p => okR h 49 p && ((List.range n).all fun s => okI h n (rdR h 49 p) s))
theorem chk34 : chkGeo (hd3 ++ lit34) 12 3 = true := by decide +kernel
theorem chk35 : chkGeo (hd3 ++ lit35) 15 3 = true := by decide +kernel
theorem chk44 : chkGeo (hd3 ++ lit44) 16 4 = true := by decide +kernel
theorem chk45 : chkGeo (hd3 ++ lit45) 20 4 = true := by decide +kernel
theorem zob34 : chkZob (hd3 ++ lit34) 12 = true := by decide +kernel
theorem zob35 : chkZob (hd3 ++ lit35) 15 = true := by decide +kernel
theorem zob44 : chkZob (hd3 ++ lit44) 16 = true := by decide +kernel
theorem zob45 : chkZob (hd3 ++ lit45) 20 = true := by decide +kernel

theorem okI_ok {h : Hp} {n id : Nat} {i : Int} (e : okI h n id i = true) : getI h (.ref id) (.int i) = some (.int (rdI h id i)) ∧ Bn n (rdI h id i) := by
  unfold okI at e
  split at e
  · rename_i x hx
    rw [Bool.and_eq_true, decide_eq_true_eq, decide_eq_true_eq] at e
    unfold rdI
    rw [hx]
    exact ⟨rfl, e⟩
  · cases e
theorem okR_ok {h : Hp} {id : Nat} {i : Int} (e : okR h id i = true) : getI h (.ref id) (.int i) = some (.ref (rdR h id i)) := by
  unfold okR at e
  split at e
  · rename_i x hx
    unfold rdR
    rw [hx]
  · cases e
theorem isA_ok {h : Hp} {f : Nat} {v : MV} (e : isA h f v = true) : getA h (.ref 3) f = some v := of_decide_eq_true e
theorem all_r {n : Nat} {p : Nat → Bool} (h : (List.range n).all p = true) {i : Int} (h0 : 0 ≤ i) (h1 : i < n) : p i.toNat = true := List.all_eq_true.mp h _ (List.mem_range.mpr (by omega))

structure GoodG (lit : Hp) (n : Nat) (f : Int) : Prop where
  len : lit.length = 52
  geo : ∀ bd kd sd side, Geo (hd3 ++ lit) (geoB lit n f bd kd sd side)
  sane : ∀ bd kd sd side, Sane (geoB lit n f bd kd sd side)
  zob : getA (hd3 ++ lit) (.ref 54) 25 = some (.ref 49)
  zp : ∀ p : Int, 0 ≤ p → p < 15 → ∃ q, getI (hd3 ++ lit) (.ref 49) (.int p) = some (.ref q) ∧ ∀ s : Int, 0 ≤ s → s < n → ∃ x, getI (hd3 ++ lit) (.ref q) (.int s) = some (.int x)

theorem goodG {lit : Hp} {n : Nat} {f : Int} (hl : lit.length = 52) (hc : chkGeo (hd3 ++ lit) n f = true) (hz : chkZob (hd3 ++ lit) n = true) (n20 : n ≤ 20) (n12 : 12 ≤ n) (hf : 3 ≤ f ∧ f ≤ 4) : GoodG lit n f := by
  unfold chkGeo at hc
  simp only [Bool.and_eq_true] at hc
  obtain ⟨⟨⟨⟨⟨⟨⟨⟨⟨a0, a2⟩, a3⟩, a8⟩, a9⟩, a10⟩, a11⟩, rays⟩, steps⟩, pawns⟩ := hc
  unfold chkZob at hz
  rw [Bool.and_eq_true, decide_eq_true_eq] at hz
  have hray : ∀ d : Int, 0 ≤ d → d < 8 → okR (hd3 ++ lit) 6 d = true ∧ (∀ s : Int, -1 ≤ s → s < n → okI (hd3 ++ lit) n (rdR (hd3 ++ lit) 6 d) s = true) ∧ ∀ s : Nat, s < n → tb (rdI (hd3 ++ lit) (rdR (hd3 ++ lit) 6 d) s) s = false := by
    intro d h0 h1
    have := all_r rays h0 (by omega)
    simp only [Int.toNat_of_nonneg h0, Bool.and_eq_true] at this
    refine ⟨this.1.1, fun s h2 h3 => ?_, fun s hs => ?_⟩
    · have k := all_r this.1.2 (i := s + 1) (by omega) (by omega)
      rw [Int.toNat_of_nonneg (by omega)] at k
      rwa [Int.add_sub_cancel] at k
    · have k := all_r this.2 (i := (s : Int)) (by omega) (by omega)
      simpa using k
  have hstep : ∀ s : Int, 0 ≤ s → s < n → okI (hd3 ++ lit) n 15 s = true ∧ okI (hd3 ++ lit) n 8 s = true := by
    intro s h0 h1
    have := all_r steps h0 h1
    simp only [Int.toNat_of_nonneg h0, Bool.and_eq_true] at this
    exact this
  have hpawn : ∀ c : Int, 0 ≤ c → c < 2 → okR (hd3 ++ lit) 11 c = true ∧ ∀ s : Int, 0 ≤ s → s < n → okI (hd3 ++ lit) n (rdR (hd3 ++ lit) 11 c) s = true := by
    intro c h0 h1
    have := all_r pawns h0 (by omega)
    simp only [Int.toNat_of_nonneg h0, Bool.and_eq_true] at this
    refine ⟨this.1, fun s h2 h3 => ?_⟩
    have k := all_r this.2 h2 h3
    rwa [Int.toNat_of_nonneg h2] at k
  refine ⟨hl, fun bd kd sd side => ?_, fun bd kd sd side => ?_, hz.1, fun p h0 h1 => ?_⟩
  · exact ⟨isA_ok a0, isA_ok a2, isA_ok a3, isA_ok a8, fun d h0 h1 => okR_ok (hray d h0 h1).1, fun d s h0 h1 h2 h3 => (okI_ok ((hray d h0 h1).2.1 s h2 h3)).1, isA_ok a9, fun s h0 h1 => (okI_ok (hstep s h0 h1).1).1,
      isA_ok a10, fun s h0 h1 => (okI_ok (hstep s h0 h1).2).1, isA_ok a11, fun c h0 h1 => okR_ok (hpawn c h0 h1).1, fun c s h0 h1 h2 h3 => (okI_ok ((hpawn c h0 h1).2 s h2 h3)).1⟩
  · exact ⟨n20, n12, fun d s h0 h1 h2 h3 => (okI_ok ((hray d h0 h1).2.1 s h2 h3)).2, fun d s h0 h1 hs => (hray d h0 h1).2.2 s hs, fun s h0 h1 => (okI_ok (hstep s h0 h1).1).2, fun s h0 h1 => (okI_ok (hstep s h0 h1).2).2,
      fun c s h0 h1 h2 h3 => (okI_ok ((hpawn c h0 h1).2 s h2 h3)).2, hf⟩
  · have := all_r hz.2 h0 (by omega)
    simp only [Int.toNat_of_nonneg h0, Bool.and_eq_true] at this
    refine ⟨_, okR_ok this.1, fun s h2 h3 => ⟨_, (okI_ok (n := n) (id := rdR (hd3 ++ lit) 49 p) (i := s) ?_).1⟩⟩
    have k := all_r this.2 h2 h3
    rwa [Int.toNat_of_nonneg h2] at k
theorem good34 : GoodG lit34 12 3 := goodG (by decide +kernel) chk34 zob34 (by decide) (by decide) (by decide)
theorem good35 : GoodG lit35 15 3 := goodG (by decide +kernel) chk35 zob35 (by decide) (by decide) (by decide)
theorem good44 : GoodG lit44 16 4 := goodG (by decide +kernel) chk44 zob44 (by decide) (by decide) (by decide)
theorem good45 : GoodG lit45 20 4 := goodG (by decide +kernel) chk45 zob45 (by decide) (by decide) (by decide)

/-- the heap, with a board on it -/
structure Bo (σ : Hp) (lit : Hp) (n : Nat) (bl kl sl : List Int) (side key : Int) : Prop where
  cst : Keep (hd3 ++ lit) σ
  pos : σ[55]? = some (.inst 2 (posFs side key))
  hb : σ[57]? = some (.list (bl.map MV.int))
  hk : σ[59]? = some (.list (kl.map MV.int))
  hs : σ[60]? = some (.list (sl.map MV.int))
  bn : bl.length = n
  kn : kl.length = 7
  sn : sl.length = 2
theorem Bo.keep {σ σ' lit : Hp} {n : Nat} {bl kl sl : List Int} {side key : Int} (h : Bo σ lit n bl kl sl side key) (k : Keep σ σ') : Bo σ' lit n bl kl sl side key :=
  ⟨h.cst.trans k, k _ _ h.pos rfl, k _ _ h.hb rfl, k _ _ h.hk rfl, k _ _ h.hs rfl, h.bn, h.kn, h.sn⟩
noncomputable abbrev bOf (lit : Hp) (n : Nat) (f : Int) (bl kl sl : List Int) (side : Int) : B := geoB lit n f (pv bl) (pv kl) (pv sl) side
theorem pv_get {σ : Hp} {t : Nat} {xs : List Int} (h : σ[t]? = some (.list (xs.map MV.int))) (hl : xs.length ≤ 1000) {k : Int} (h0 : 0 ≤ k) (h1 : k < xs.length) : getI σ (.ref t) (.int k) = some (.int (pv xs k)) := by
  have hk : k.toNat < xs.length := by omega
  have hp : place (xs.map MV.int).length k = some k.toNat := by
    unfold place
    rw [if_pos h0, List.length_map, if_pos (by omega)]
  unfold getI
  simp only [h]
  rw [if_pos (by rw [List.length_map]; omega), hp, Option.bind_some, List.getElem?_map, List.getElem?_eq_getElem hk]
  simp [pv, hk]
theorem Bo.geo {σ lit : Hp} {n : Nat} {f : Int} {bl kl sl : List Int} {side key : Int} (h : Bo σ lit n bl kl sl side key) (g : GoodG lit n f) : Geo σ (bOf lit n f bl kl sl side) := (g.geo _ _ _ _).keep h.cst
theorem Bo.posn {σ lit : Hp} {n : Nat} {f : Int} {bl kl sl : List Int} {side key : Int} (h : Bo σ lit n bl kl sl side key) (hn : n ≤ 20) : Pos σ 55 (bOf lit n f bl kl sl side) := by
  have hA : ∀ (k : Nat) (v : MV), fldGet (posFs side key) k = some v → getA σ (.ref 55) k = some v := fun k v e => by unfold getA; simp only [h.pos]; exact e
  have := h.bn
  have := h.kn
  have := h.sn
  exact ⟨hA 14 _ rfl, hA 16 _ rfl, fun s h0 h1 => pv_get h.hb (by omega) h0 (by have : s < (n : Int) := h1; omega), hA 17 _ rfl, fun k h0 h1 => pv_get h.hk (by omega) h0 (by omega), hA 18 _ rfl, fun c h0 h1 => pv_get h.hs (by omega) h0 (by omega), hA 19 _ rfl⟩
end Mine.Law

/-! ## P15 -/
namespace Mine.Law
open PySem PyProof.Rows

structure Sack (σ : Hp) (row : List Int) (a : Int) : Prop where
  r : σ[0]? = some (.list (row.map MV.int))
  d : σ[1]? = some (.dict [(26, .ref 0), (27, .int a)])
section
variable {σ lit : Hp} {m n : Nat} {row bl kl sl : List Int} {side key f : Int}
theorem set_keep {o o' : MObj} {j : Nat} (h : σ[j]? = some o) (hd : notDict o = false) : Keep σ (σ.set j o') := by
  intro i x hx hn
  by_cases e : j = i
  · subst e
    rw [h] at hx
    cases hx
    rw [hd] at hn
    cases hn
  · rw [List.getElem?_set_ne e]; exact hx
theorem r44 {a many : Int} (h : Sack σ row a) (hr : row.length ≤ 40) (a0 : 0 ≤ a) (a1 : a < 1000) (hm : 0 < many) :
    ∃ v σ', callF prog (m + 1) 44 [.ref 1, .int many] σ = some (.int v, σ') ∧ 0 ≤ v ∧ v < many ∧ Sack σ' row (a + 1) ∧ Keep σ σ' ∧ σ'.length = σ.length := by
  obtain ⟨σ', e'⟩ : ∃ s : Hp, s = σ.set 1 (.dict [(26, .ref 0), (27, .int (a + 1))]) := ⟨_, rfl⟩
  have hl1 := (List.getElem?_eq_some_iff.mp h.d).1
  have hK : Keep σ σ' := e' ▸ set_keep h.d rfl
  have hS : Sack σ' row (a + 1) := ⟨hK _ _ h.r rfl, by rw [e']; simp [hl1]⟩
  have hlen : σ'.length = σ.length := by rw [e']; simp
  have hmod : ∀ x : Int, 0 ≤ x.fmod many ∧ x.fmod many < many := fun x => ⟨Int.fmod_nonneg_of_pos x hm, Int.fmod_lt_of_pos x hm⟩
  have hgk : getK σ (.ref 1) 27 = some (.int a) := by simp [getK, h.d, fldGet]
  have hpk : putK σ (.ref 1) 27 (.int (a + 1)) = some σ' := by simp [putK, h.d, fldGet, fldPut, e']
  have hgk' : getK σ' (.ref 1) 27 = some (.int (a + 1)) := by simp [getK, hS.d, fldGet]
  have hgr' : getK σ' (.ref 1) 26 = some (.ref 0) := by simp [getK, hS.d, fldGet]
  have hlv : lenV σ' (.ref 0) = some (row.length : Int) := by simp [lenV, hS.r, show row.length ≤ 1000 by omega]
  have hm0 : many ≠ 0 := by omega
  by_cases hle : a + 1 ≤ (row.length : Int)
  · have hg := pv_get (k := a) hS.r (by omega) a0 (by omega)
    refine ⟨(pv row a).fmod many, σ', ?_, (hmod _).1, (hmod _).2, hS, hK, hlen⟩
    rw [call_eq]
    simp [pg44, runFn, F44, qd1, qd2, qc1, qc2, qc3, qc4, qc5, qc6, qc7, qc8, qc9, qc10, qc11, qc12, qc13, qc14, qc15, qc16, qc17, qc18, ↓la0, ↓la1, ↓la2, ↓la3, ↓la4, ↓la5, ↓la6, ↓la7, ↓la8, ↓la9, ↓la10, ↓la11, ↓la12, ↓la13, qa1, qa2, qa3, qa4, qa5, qa6, qa7, qa8, qa9, qa10, qa11, qa12, qa13, qa14, qa15, qa16, qa17, qa18, qa19, qa20, qa21, qa22, qa23, qa24, qa25, qa26, qa27, qa28, qa29, hgk, ba_int, bv_int, b_add, hpk, hgk', hgr', hlv, cmpV, cmpI, tr, hle, b_sub, hg, b_mod _ hm0]
  · refine ⟨(17 * (a + 1) + ((a + 1) * (a + 1)).fdiv 3 + 4).fmod many, σ', ?_, (hmod _).1, (hmod _).2, hS, hK, hlen⟩
    have hsq : (a + 1) * (a + 1) ≤ 1000 * 1000 := Int.mul_le_mul (by omega) (by omega) (by omega) (by omega)
    have hsq0 : 0 ≤ (a + 1) * (a + 1) := Int.mul_nonneg (by omega) (by omega)
    have h1 := b_mul (a := 17) (b := a + 1) (by decide) (by omega)
    have h2 := b_mul (a := a + 1) (b := a + 1) (by omega) (by omega)
    have h30 : ∀ q : Int, 0 ≤ q → q ≤ 1000 * 1000 → binI .FloorDiv q 3 = some (q.fdiv 3) := by
      intro q q0 q1
      have : q.natAbs < 1073741824 := by omega
      simp [binI, this]
    have h3 := h30 _ hsq0 hsq
    rw [call_eq]
    simp [pg44, runFn, F44, qd1, qd2, qc1, qc2, qc3, qc4, qc5, qc6, qc7, qc8, qc9, qc10, qc11, qc12, qc13, qc14, qc15, qc16, qc17, qc18, ↓la0, ↓la1, ↓la2, ↓la3, ↓la4, ↓la5, ↓la6, ↓la7, ↓la8, ↓la9, ↓la10, ↓la11, ↓la12, ↓la13, qa1, qa2, qa3, qa4, qa5, qa6, qa7, qa8, qa9, qa10, qa11, qa12, qa13, qa14, qa15, qa16, qa17, qa18, qa19, qa20, qa21, qa22, qa23, qa24, qa25, qa26, qa27, qa28, qa29, hgk, ba_int, bv_int, b_add, hpk, hgk', hgr', hlv, cmpV, cmpI, tr, hle, h1, h2, h3, b_mod _ hm0]

theorem put_get {t : Nat} {xs : List Int} (h : σ[t]? = some (.list (xs.map MV.int))) (hl : xs.length ≤ 1000) {k x : Int} (h0 : 0 ≤ k) (h1 : k < xs.length) : putI σ (.ref t) (.int k) (.int x) = some (σ.set t (.list ((xs.set k.toNat x).map MV.int))) := by
  have hp : place (xs.map MV.int).length k = some k.toNat := by
    unfold place
    rw [if_pos h0, List.length_map, if_pos (by omega)]
  unfold putI
  simp only [h]
  rw [if_pos (by rw [List.length_map]; omega), hp, Option.map_some, List.map_set]
theorem piece_parts : ∀ c k : Int, c = 0 ∨ c = 1 → 1 ≤ k → k ≤ 6 → band (c * 8 + k) 7 = k ∧ shr (c * 8 + k) 3 = c ∧ 0 ≤ c * 8 + k ∧ c * 8 + k < 15 := by
  have key : ∀ c : Fin 2, ∀ k : Fin 7, 1 ≤ k.1 → band ((c.1 : Int) * 8 + (k.1 : Int)) 7 = (k.1 : Int) ∧ shr ((c.1 : Int) * 8 + (k.1 : Int)) 3 = (c.1 : Int) := by decide +kernel
  intro c k hc h1 h6
  have h := key ⟨c.toNat, by omega⟩ ⟨k.toNat, by omega⟩ (by show 1 ≤ k.toNat; omega)
  have ec : ((c.toNat : Nat) : Int) = c := Int.toNat_of_nonneg (by omega)
  have ek : ((k.toNat : Nat) : Int) = k := Int.toNat_of_nonneg (by omega)
  simp only [ec, ek] at h
  exact ⟨h.1, h.2, by omega, by omega⟩
theorem keep_set {K : Hp} {j : Nat} {o : MObj} (h : Keep K σ) (hj : K.length ≤ j) : Keep K (σ.set j o) := by
  intro i x hx hn
  have := (List.getElem?_eq_some_iff.mp hx).1
  rw [List.getElem?_set_ne (by omega)]
  exact h i x hx hn

theorem r27 (h : Bo σ lit n bl kl sl side key) (g : GoodG lit n f) (hn : n ≤ 20) {s c k : Int} (s0 : 0 ≤ s) (s1 : s < n) (hc : c = 0 ∨ c = 1) (k1 : 1 ≤ k) (k6 : k ≤ 6) :
    ∃ key' σ', callF prog (m + 2) 27 [.ref 55, .int (c * 8 + k), .int s] σ = some (.none, σ') ∧
      Bo σ' lit n (bl.set s.toNat (c * 8 + k)) (kl.set k.toNat (bor (pv kl k) (shl 1 s))) (sl.set c.toNat (bor (pv sl c) (shl 1 s))) side key' ∧ (∀ i, i ≠ 55 → i ≠ 57 → i ≠ 59 → i ≠ 60 → σ'[i]? = σ[i]?) ∧ σ'.length = σ.length := by
  obtain ⟨p1, p2, p3, p4⟩ := piece_parts c k hc k1 k6
  obtain ⟨pc, epc⟩ : ∃ x, x = c * 8 + k := ⟨_, rfl⟩
  rw [← epc] at p1 p2 p3 p4 ⊢
  refine hide fun X back => ?_
  have lb := h.bn
  have lk := h.kn
  have ls := h.sn
  have hH : (hd3 ++ lit).length = 55 := by rw [List.length_append, g.len]; rfl
  have b57 := (List.getElem?_eq_some_iff.mp h.hb).1
  have b59 := (List.getElem?_eq_some_iff.mp h.hk).1
  have b60 := (List.getElem?_eq_some_iff.mp h.hs).1
  have b55 := (List.getElem?_eq_some_iff.mp h.pos).1
  obtain ⟨σ1, e1⟩ : ∃ z : Hp, z = σ.set 57 (.list ((bl.set s.toNat pc).map MV.int)) := ⟨_, rfl⟩
  obtain ⟨σ2, e2⟩ : ∃ z : Hp, z = σ1.set 59 (.list ((kl.set k.toNat (bor (pv kl k) (shl 1 s))).map MV.int)) := ⟨_, rfl⟩
  obtain ⟨σ3, e3⟩ : ∃ z : Hp, z = σ2.set 60 (.list ((sl.set c.toNat (bor (pv sl c) (shl 1 s))).map MV.int)) := ⟨_, rfl⟩
  have a1 : ∀ (q : Nat) (v : MV), fldGet (posFs side key) q = some v → getA σ (.ref 55) q = some v := fun q v e => by unfold getA; simp only [h.pos]; exact e
  have P1 : σ1[55]? = some (.inst 2 (posFs side key)) := by rw [e1, List.getElem?_set_ne (by decide)]; exact h.pos
  have P2 : σ2[55]? = some (.inst 2 (posFs side key)) := by rw [e2, List.getElem?_set_ne (by decide)]; exact P1
  have P3 : σ3[55]? = some (.inst 2 (posFs side key)) := by rw [e3, List.getElem?_set_ne (by decide)]; exact P2
  have A1 : ∀ (q : Nat) (v : MV), fldGet (posFs side key) q = some v → getA σ1 (.ref 55) q = some v := fun q v e => by unfold getA; simp only [P1]; exact e
  have A2 : ∀ (q : Nat) (v : MV), fldGet (posFs side key) q = some v → getA σ2 (.ref 55) q = some v := fun q v e => by unfold getA; simp only [P2]; exact e
  have A3 : ∀ (q : Nat) (v : MV), fldGet (posFs side key) q = some v → getA σ3 (.ref 55) q = some v := fun q v e => by unfold getA; simp only [P3]; exact e
  have K1 : σ1[59]? = some (.list (kl.map MV.int)) := by rw [e1, List.getElem?_set_ne (by decide)]; exact h.hk
  have S2 : σ2[60]? = some (.list (sl.map MV.int)) := by rw [e2, e1, List.getElem?_set_ne (by decide), List.getElem?_set_ne (by decide)]; exact h.hs
  have c3 : Keep (hd3 ++ lit) σ3 := by
    rw [e3, e2, e1]
    exact keep_set (keep_set (keep_set h.cst (by omega)) (by omega)) (by omega)
  obtain ⟨zq, hq, hz⟩ := g.zp pc p3 p4
  obtain ⟨zx, hx⟩ := hz s s0 s1
  obtain ⟨σ4, e4⟩ : ∃ z : Hp, z = σ3.set 55 (.inst 2 (posFs side (bxor key zx))) := ⟨_, rfl⟩
  have hput : putA σ3 (.ref 55) 23 (.int (bxor key zx)) = some σ4 := by
    unfold putA
    simp only [P3]
    rw [e4, if_pos (by show 12 < 500; decide)]
    rfl
  refine back ?_
  refine ⟨bxor key zx, σ4, ?_, ⟨?_, ?_, ?_, ?_, ?_, ?_, ?_, ?_⟩, ?_, ?_⟩
  · rw [call_eq]
    show Option.bind (evSs (callF prog (m + 1)) F27.body [some (.ref 55), some (.int pc), some (.int s), none] σ) _ = _
    have hb : evSs (callF prog (m + 1)) F27.body [some (.ref 55), some (.int pc), some (.int s), none] σ = some (.next, [some (.ref 55), some (.int pc), some (.int s), some (.int (shl 1 s))], σ4) := by
      unfold F27
      rw [ss_n (loc' := [some (.ref 55), some (.int pc), some (.int s), some (.int (shl 1 s))]) (σ' := σ) (by simp [qc1, qc2, qc3, qc4, qc5, qc6, qc7, qc8, qc9, qc10, qc11, qc12, qc13, qc14, qc15, qc16, qc17, qc18, ↓la0, ↓la1, ↓la2, ↓la3, ↓la4, ↓la5, ↓la6, ↓la7, ↓la8, ↓la9, ↓la10, ↓la11, ↓la12, ↓la13, qa1, qa2, qa3, qa4, qa5, qa6, qa7, qa8, qa9, qa10, qa11, qa12, qa13, qa14, qa15, qa16, qa17, qa18, qa19, qa20, qa21, qa22, qa23, qa24, qa25, qa26, qa27, qa28, qa29, bv_int, b_shl (a := 1) (b := s) s0 (by omega) (by decide)])]
      rw [ss_n (loc' := [some (.ref 55), some (.int pc), some (.int s), some (.int (shl 1 s))]) (σ' := σ1) (by
        simp only [qc1, qc2, qc3, qc4, qc5, qc6, qc7, qc8, qc9, qc10, qc11, qc12, qc13, qc14, qc15, qc16, qc17, qc18, ↓la0, ↓la1, ↓la2, ↓la3, ↓la4, ↓la5, ↓la6, ↓la7, ↓la8, ↓la9, ↓la10, ↓la11, ↓la12, ↓la13, qa1, qa2, qa3, qa4, qa5, qa6, qa7, qa8, qa9, qa10, qa11, qa12, qa13, qa14, qa15, qa16, qa17, qa18, qa19, qa20, qa21, qa22, qa23, qa24, qa25, qa26, qa27, qa28, qa29, List.getElem?_cons_succ, List.getElem?_cons_zero, Option.join_some, Option.map_some, Option.bind_some, a1 16 _ rfl, put_get h.hb (k := s) (x := pc) (by omega) s0 (by omega), e1])]
      rw [ss_n (loc' := [some (.ref 55), some (.int pc), some (.int s), some (.int (shl 1 s))]) (σ' := σ2) (by
        simp only [qc1, qc2, qc3, qc4, qc5, qc6, qc7, qc8, qc9, qc10, qc11, qc12, qc13, qc14, qc15, qc16, qc17, qc18, ↓la0, ↓la1, ↓la2, ↓la3, ↓la4, ↓la5, ↓la6, ↓la7, ↓la8, ↓la9, ↓la10, ↓la11, ↓la12, ↓la13, qa1, qa2, qa3, qa4, qa5, qa6, qa7, qa8, qa9, qa10, qa11, qa12, qa13, qa14, qa15, qa16, qa17, qa18, qa19, qa20, qa21, qa22, qa23, qa24, qa25, qa26, qa27, qa28, qa29, qb1, qb2, List.getElem?_cons_succ, List.getElem?_cons_zero, Option.join_some, Option.map_some, Option.bind_some, A1 17 _ rfl, show (2 : Nat) < 100 by decide, if_true, r2, p1, pv_get K1 (k := k) (by omega) (by omega) (by omega), ba_int, bv_int, b_or, put_get K1 (k := k) (x := bor (pv kl k) (shl 1 s)) (by omega) (by omega) (by omega), e2])]
      rw [ss_n (loc' := [some (.ref 55), some (.int pc), some (.int s), some (.int (shl 1 s))]) (σ' := σ3) (by
        simp only [qc1, qc2, qc3, qc4, qc5, qc6, qc7, qc8, qc9, qc10, qc11, qc12, qc13, qc14, qc15, qc16, qc17, qc18, ↓la0, ↓la1, ↓la2, ↓la3, ↓la4, ↓la5, ↓la6, ↓la7, ↓la8, ↓la9, ↓la10, ↓la11, ↓la12, ↓la13, qa1, qa2, qa3, qa4, qa5, qa6, qa7, qa8, qa9, qa10, qa11, qa12, qa13, qa14, qa15, qa16, qa17, qa18, qa19, qa20, qa21, qa22, qa23, qa24, qa25, qa26, qa27, qa28, qa29, qb1, qb2, List.getElem?_cons_succ, List.getElem?_cons_zero, Option.join_some, Option.map_some, Option.bind_some, A2 18 _ rfl, show (1 : Nat) < 100 by decide, if_true, r1, p2, pv_get S2 (k := c) (by omega) (by omega) (by omega), ba_int, bv_int, b_or, put_get S2 (k := c) (x := bor (pv sl c) (shl 1 s)) (by omega) (by omega) (by omega), e3])]
      rw [ss_n (loc' := [some (.ref 55), some (.int pc), some (.int s), some (.int (shl 1 s))]) (σ' := σ4) (by
        simp only [qc1, qc2, qc3, qc4, qc5, qc6, qc7, qc8, qc9, qc10, qc11, qc12, qc13, qc14, qc15, qc16, qc17, qc18, ↓la0, ↓la1, ↓la2, ↓la3, ↓la4, ↓la5, ↓la6, ↓la7, ↓la8, ↓la9, ↓la10, ↓la11, ↓la12, ↓la13, qa1, qa2, qa3, qa4, qa5, qa6, qa7, qa8, qa9, qa10, qa11, qa12, qa13, qa14, qa15, qa16, qa17, qa18, qa19, qa20, qa21, qa22, qa23, qa24, qa25, qa26, qa27, qa28, qa29, List.getElem?_cons_succ, List.getElem?_cons_zero, Option.join_some, Option.map_some, Option.bind_some, A3 23 (.int key) rfl, A3 15 (.ref 54) rfl, getA_keep c3 g.zob, getI_keep c3 hq, getI_keep c3 hx, ba_int, bv_int, b_xor, hput])]
      exact ss_nil
    rw [hb]
    rfl
  · rw [e4]; exact keep_set c3 (by omega)
  · rw [e4, e3, e2, e1]; simp [b55]
  · rw [e4, e3, e2, e1, List.getElem?_set_ne (by decide), List.getElem?_set_ne (by decide), List.getElem?_set_ne (by decide)]; simp [b57]
  · rw [e4, e3, e2, List.getElem?_set_ne (by decide), List.getElem?_set_ne (by decide), e1]; simp [b59]
  · rw [e4, e3, List.getElem?_set_ne (by decide), e2, e1]; simp [b60]
  · simp [lb]
  · simp [lk]
  · simp [ls]
  · intro i h1 h2 h3 h4
    rw [e4, e3, e2, e1, List.getElem?_set_ne (Ne.symm h1), List.getElem?_set_ne (Ne.symm h4), List.getElem?_set_ne (Ne.symm h3), List.getElem?_set_ne (Ne.symm h2)]
  · rw [e4, e3, e2, e1]; simp
end
end Mine.Law

/-! ## P16 -/
namespace Mine.Law
open PySem PyProof.Rows

theorem pv_set {xs : List Int} {i : Nat} {x k : Int} (hi : i < xs.length) : pv (xs.set i x) k = if k.toNat = i then x else pv xs k := by
  unfold pv
  rw [List.getElem?_set]
  by_cases e : i = k.toNat
  · subst e; simp [hi]
  · rw [if_neg e, if_neg (Ne.symm e)]
theorem shl_s {s : Int} (h : 0 ≤ s) : shl 1 s = shl 1 ((s.toNat : Nat) : Int) := by rw [Int.toNat_of_nonneg h]
theorem tb_put {x s : Int} (hx : 0 ≤ x) (h : 0 ≤ s) (i : Nat) : tb (bor x (shl 1 s)) i = (tb x i || decide (s.toNat = i)) := by
  rw [shl_s h, tb_or hx (shl1_nn _), tb_shl1]
theorem bn_put {n : Nat} {x s : Int} (hx : Bn n x) (h : 0 ≤ s) (h1 : s < n) : Bn n (bor x (shl 1 s)) := by
  rw [shl_s h, shl_one]
  exact hx.or (.of (Nat.pow_lt_pow_right (by omega) (by omega)))
theorem bit_one {x s : Int} (hx : 0 ≤ x) : band (shr x s) 1 = if tb x s.toNat = true then 1 else 0 := by
  have h : band (shr x s) 1 = shr x s % 2 := bitAnd_m1 _
  have h2 : tb x s.toNat = tb (shr x s) 0 := by rw [tb_shr hx]; rfl
  rw [h, h2]
  have h3 := shr_nn hx s
  unfold tb
  rw [Nat.testBit_zero]
  simp only [decide_eq_true_eq]
  split <;> omega

/-- the masks agree with the board -/
structure MB (n : Nat) (bl kl sl : List Int) : Prop where
  kd : ∀ k : Int, Bn n (pv kl k)
  sd : ∀ c : Int, Bn n (pv sl c)
  bd : ∀ s : Int, 0 ≤ band (pv bl s) 7 ∧ band (pv bl s) 7 < 7
structure MI (n : Nat) (bl kl sl : List Int) (side : Int) : Prop where
  mb : MB n bl kl sl
  side : side = 0 ∨ side = 1
  w0 : ∃ s, s < n ∧ tb (pv sl 0) s = true ∧ tb (pv sl 1) s = false
  w1 : ∃ s, s < n ∧ tb (pv sl 1) s = true ∧ tb (pv sl 0) s = false
theorem MB.put {n : Nat} {bl kl sl : List Int} (h : MB n bl kl sl) (lb : bl.length = n) (lk : kl.length = 7) (ls : sl.length = 2) {s c k : Int} (s0 : 0 ≤ s) (s1 : s < n) (hc : c = 0 ∨ c = 1) (k1 : 1 ≤ k) (k6 : k ≤ 6) :
    MB n (bl.set s.toNat (c * 8 + k)) (kl.set k.toNat (bor (pv kl k) (shl 1 s))) (sl.set c.toNat (bor (pv sl c) (shl 1 s))) := by
  refine ⟨fun q => ?_, fun q => ?_, fun q => ?_⟩
  · rw [pv_set (by omega)]
    split
    · exact bn_put (h.kd k) s0 s1
    · exact h.kd q
  · rw [pv_set (by omega)]
    split
    · exact bn_put (h.sd c) s0 s1
    · exact h.sd q
  · rw [pv_set (by omega)]
    split
    · rw [(piece_parts c k hc k1 k6).1]; omega
    · exact h.bd q
theorem MI.put {n : Nat} {bl kl sl : List Int} {side : Int} (h : MI n bl kl sl side) (lb : bl.length = n) (lk : kl.length = 7) (ls : sl.length = 2) {s c k : Int} (s0 : 0 ≤ s) (s1 : s < n) (hc : c = 0 ∨ c = 1) (k1 : 1 ≤ k) (k6 : k ≤ 6)
    (hf : tb (bor (pv sl 0) (pv sl 1)) s.toNat = false) : MI n (bl.set s.toNat (c * 8 + k)) (kl.set k.toNat (bor (pv kl k) (shl 1 s))) (sl.set c.toNat (bor (pv sl c) (shl 1 s))) side := by
  rw [tb_or (h.mb.sd 0).1 (h.mb.sd 1).1, Bool.or_eq_false_iff] at hf
  obtain ⟨f0, f1⟩ := hf
  obtain ⟨a, a0, a1, a2⟩ := h.w0
  obtain ⟨d, d0, d1, d2⟩ := h.w1
  have na : s.toNat ≠ a := fun e => by rw [e, a1] at f0; cases f0
  have nd : s.toNat ≠ d := fun e => by rw [e, d1] at f1; cases f1
  have up : ∀ (q : Int) (i : Nat), s.toNat ≠ i → tb (pv (sl.set c.toNat (bor (pv sl c) (shl 1 s))) q) i = tb (pv sl q) i := by
    intro q i hi
    rw [pv_set (by omega)]
    split
    · rename_i e
      rw [tb_put (h.mb.sd c).1 s0]
      have : pv sl c = pv sl q := by unfold pv; rw [e]
      simp [hi, this]
    · rfl
  exact ⟨h.mb.put lb lk ls s0 s1 hc k1 k6, h.side, ⟨a, a0, by rw [up 0 a na]; exact a1, by rw [up 1 a na]; exact a2⟩, ⟨d, d0, by rw [up 1 d nd]; exact d1, by rw [up 0 d nd]; exact d2⟩⟩
theorem MI.men {n : Nat} {bl kl sl : List Int} {side f : Int} {lit : Hp} (h : MI n bl kl sl side) : Men (bOf lit n f bl kl sl side) :=
  ⟨fun k _ _ => h.mb.kd k, fun c _ _ => h.mb.sd c, fun s _ _ => h.mb.bd s, h.side⟩

section
variable {m : Nat} {row : List Int}
theorem Sack.keep2 {σ σ' : Hp} {a : Int} (h : Sack σ row a) (h0 : σ'[0]? = σ[0]?) (h1 : σ'[1]? = σ[1]?) : Sack σ' row a := ⟨h0.trans h.r, h1.trans h.d⟩
theorem Sack.le {σ σ' : Hp} {a : Int} (h : Sack σ row a) (l : Le σ σ') : Sack σ' row a := ⟨l _ _ h.r, l _ _ h.d⟩

theorem pick (v1 v2 : Int) (h1 : 0 ≤ v1) (h1' : v1 < 2) (h2 : 0 ≤ v2) (h2' : v2 < 2) (x0 x1 x2 : MObj) : ∃ (lit : Hp) (n : Nat), GoodG lit n (3 + v1) ∧ n ≤ 20 ∧ 12 ≤ n ∧ (3 + v1) * (4 + v2) = n ∧
    evS (callF prog 8) newS [some (.ref 1), some (.int (3 + v1)), some (.int (4 + v2)), some (.int n), none, none] [x0, x1, x2] =
    some (.next, [some (.ref 1), some (.int (3 + v1)), some (.int (4 + v2)), some (.int n), some (.ref 55), none], x0 :: x1 :: x2 :: (lit ++ tailH n)) := by
  have e1 : v1 = 0 ∨ v1 = 1 := by omega
  have e2 : v2 = 0 ∨ v2 = 1 := by omega
  rcases e1 with rfl | rfl <;> rcases e2 with rfl | rfl
  · exact ⟨lit34, 12, good34, by decide, by decide, by decide, run34 x0 x1 x2⟩
  · exact ⟨lit35, 15, good35, by decide, by decide, by decide, run35 x0 x1 x2⟩
  · exact ⟨lit44, 16, good44, by decide, by decide, by decide, run44 x0 x1 x2⟩
  · exact ⟨lit45, 20, good45, by decide, by decide, by decide, run45 x0 x1 x2⟩

theorem pv_rep (n : Nat) (k : Int) : pv (List.replicate n 0) k = 0 := by
  unfold pv
  rw [List.getElem?_replicate]
  split <;> rfl
theorem bo_start {lit : Hp} {n : Nat} (hl : lit.length = 52) (x0 x1 x2 : MObj) : Bo (x0 :: x1 :: x2 :: (lit ++ tailH n)) lit n (List.replicate n 0) (List.replicate 7 0) [0, 0] 0 0 := by
  have at_ : ∀ (j : Nat) (o : MObj), (tailH n)[j]? = some o → (x0 :: x1 :: x2 :: (lit ++ tailH n))[55 + j]? = some o := by
    intro j o h
    rw [show 55 + j = (52 + j) + 1 + 1 + 1 by omega]
    simp only [List.getElem?_cons_succ]
    rw [List.getElem?_append_right (by omega), hl, Nat.add_sub_cancel_left]
    exact h
  refine ⟨fun i o h hn => ?_, at_ 0 _ rfl, ?_, at_ 4 _ rfl, at_ 5 _ rfl, by simp, rfl, rfl⟩
  · match i with
    | 0 => cases h; cases hn
    | 1 => cases h; cases hn
    | 2 => cases h; cases hn
    | i + 3 =>
      have h' : lit[i]? = some o := h
      have hlt := (List.getElem?_eq_some_iff.mp h').1
      simp only [List.getElem?_cons_succ]
      rw [List.getElem?_append_left hlt]
      exact h'
  · have := at_ 2 (.list (List.replicate n (.int 0))) rfl
    rw [List.map_replicate]
    exact this

theorem r45 (hr : row.length ≤ 40) : ∃ σ' lit n f bl kl sl side key, callF prog 9 45 [.ref 1] [.list (row.map MV.int), .dict [(26, .ref 0), (27, .int 0)]] = some (.ref 55, σ') ∧ GoodG lit n f ∧ n ≤ 20 ∧ 12 ≤ n ∧ Bo σ' lit n bl kl sl side key ∧ Sack σ' row 5 ∧ MI n bl kl sl side ∧ σ'.length = 62 := by
  have S0 : Sack [.list (row.map MV.int), .dict [(26, .ref 0), (27, .int 0)]] row 0 := ⟨rfl, rfl⟩
  refine hide fun X back => ?_
  obtain ⟨v1, σ1, h1, a1, b1, S1, K1, L1⟩ := r44 (m := 7) S0 hr (by decide) (by decide) (many := 2) (by decide)
  obtain ⟨v2, σ2, h2, a2, b2, S2, K2, L2⟩ := r44 (m := 7) S1 hr (by decide) (by decide) (many := 2) (by decide)
  obtain ⟨x0, x1, rfl⟩ : ∃ x0 x1, σ2 = [x0, x1] := len_two (by rw [L2, L1]; rfl)
  obtain ⟨lit, n, g, n20, n12, hn, hnew⟩ := pick v1 v2 a1 b1 a2 b2 x0 x1 (.tup [.int (3 + v1), .int (4 + v2)])
  obtain ⟨σ3, e3⟩ : ∃ z : Hp, z = x0 :: x1 :: MObj.tup [.int (3 + v1), .int (4 + v2)] :: (lit ++ tailH n) := ⟨_, rfl⟩
  rw [← e3] at hnew
  have B3 := bo_start (n := n) g.len x0 x1 (MObj.tup [.int (3 + v1), .int (4 + v2)])
  rw [← e3] at B3
  have S3 : Sack σ3 row 2 := by rw [e3]; exact ⟨S2.r, S2.d⟩
  have L3 : σ3.length = 62 := by rw [e3]; simp [g.len, tailH]
  obtain ⟨kg, σ4, h4, a4, b4, S4, K4, L4⟩ := r44 (m := 7) S3 hr (by decide) (by decide) (many := (n : Int)) (by omega)
  have B4 := B3.keep K4
  obtain ⟨key5, σ5, h5, B5, I5, L5⟩ := r27 (m := 6) B4 g n20 (s := kg) (c := 0) (k := 6) a4 b4 (.inl rfl) (by decide) (by decide)
  have S5 : Sack σ5 row 3 := S4.keep2 (I5 0 (by decide) (by decide) (by decide) (by decide)) (I5 1 (by decide) (by decide) (by decide) (by decide))
  obtain ⟨v6, σ6, h6, a6, b6, S6, K6, L6⟩ := r44 (m := 7) S5 hr (by decide) (by decide) (many := (n : Int) - 1) (by omega)
  have B6 := B5.keep K6
  obtain ⟨kb, ekb⟩ : ∃ x, x = (kg + 1 + v6).fmod (n : Int) := ⟨_, rfl⟩
  have kb0 : 0 ≤ kb := by rw [ekb]; exact Int.fmod_nonneg_of_pos _ (by omega)
  have kb1 : kb < n := by rw [ekb]; exact Int.fmod_lt_of_pos _ (by omega)
  have kne : kg.toNat ≠ kb.toNat := by
    have e : kb = (kg + 1 + v6) % (n : Int) := by rw [ekb, Int.fmod_eq_emod_of_nonneg _ (by omega)]
    by_cases hlt : kg + 1 + v6 < n
    · rw [Int.emod_eq_of_lt (by omega) hlt] at e
      omega
    · have : (kg + 1 + v6) % (n : Int) = kg + 1 + v6 - n := by
        rw [← Int.sub_emod_right, Int.emod_eq_of_lt (by omega) (by omega)]
      omega
  obtain ⟨key7, σ7, h7, B7, I7, L7⟩ := r27 (m := 6) B6 g n20 (s := kb) (c := 1) (k := 6) kb0 kb1 (.inr rfl) (by decide) (by decide)
  have S7 : Sack σ7 row 4 := S6.keep2 (I7 0 (by decide) (by decide) (by decide) (by decide)) (I7 1 (by decide) (by decide) (by decide) (by decide))
  obtain ⟨v8, σ8, h8, a8, b8, S8, K8, L8⟩ := r44 (m := 7) S7 hr (by decide) (by decide) (many := 2) (by decide)
  have B8 := B7.keep K8
  obtain ⟨σ9, e9⟩ : ∃ z : Hp, z = σ8.set 55 (.inst 2 (posFs v8 key7)) := ⟨_, rfl⟩
  have l55 := (List.getElem?_eq_some_iff.mp B8.pos).1
  have hput : putA σ8 (.ref 55) 19 (.int v8) = some σ9 := by
    unfold putA
    simp only [B8.pos]
    rw [e9, if_pos (by show 12 < 500; decide)]
    rfl
  have hH : (hd3 ++ lit).length = 55 := by rw [List.length_append, g.len]; rfl
  have B9 := B8
  have mb0 : MB n (List.replicate n 0) (List.replicate 7 0) [0, 0] := by
    refine ⟨fun k => by rw [pv_rep]; exact Bn.z, fun c => ?_, fun s => by rw [pv_rep]; decide⟩
    have : pv [0, 0] c = 0 := pv_rep 2 c
    rw [this]; exact Bn.z
  have mb1 := mb0.put (by simp) rfl rfl a4 b4 (.inl rfl) (by decide) (by decide) (c := 0) (k := 6)
  have q1 := (mb1.sd 1).1
  simp only [show (0 : Int).toNat = 0 from rfl] at q1
  have mb2 := mb1.put (by simp) (by simp) (by simp) kb0 kb1 (.inr rfl) (by decide) (by decide) (c := 1) (k := 6)
  refine back ?_
  refine ⟨σ9, lit, n, 3 + v1, _, _, _, v8, key7, ?_, g, n20, n12, ⟨?_, ?_, ?_, ?_, ?_, B8.bn, B8.kn, B8.sn⟩, ⟨?_, ?_⟩, ⟨mb2, by omega, ?_, ?_⟩, ?_⟩
  · rw [call_eq]
    show Option.bind (evSs (callF prog 8) F45.body [some (.ref 1), none, none, none, none, none] _) _ = _
    have hb : evSs (callF prog 8) F45.body [some (.ref 1), none, none, none, none, none] [.list (row.map MV.int), .dict [(26, .ref 0), (27, .int 0)]] =
        some (.ret (.ref 55), [some (.ref 1), some (.int (3 + v1)), some (.int (4 + v2)), some (.int n), some (.ref 55), some (.int kg)], σ9) := by
      unfold F45
      rw [ss_n (loc' := [some (.ref 1), some (.int (3 + v1)), some (.int (4 + v2)), none, none, none]) (σ' := [x0, x1, .tup [.int (3 + v1), .int (4 + v2)]]) (by
        simp [qc1, qc2, qc3, qc4, qc5, qc6, qc7, qc8, qc9, qc10, qc11, qc12, qc13, qc14, qc15, qc16, qc17, qc18, ↓la0, ↓la1, ↓la2, ↓la3, ↓la4, ↓la5, ↓la6, ↓la7, ↓la8, ↓la9, ↓la10, ↓la11, ↓la12, ↓la13, qa1, qa2, qa3, qa4, qa5, qa6, qa7, qa8, qa9, qa10, qa11, qa12, qa13, qa14, qa15, qa16, qa17, qa18, qa19, qa20, qa21, qa22, qa23, qa24, qa25, qa26, qa27, qa28, qa29, qb1, qb2, h1, h2, bv_int, b_add, tupGet])]
      rw [ss_n (loc' := [some (.ref 1), some (.int (3 + v1)), some (.int (4 + v2)), some (.int n), none, none]) (σ' := [x0, x1, .tup [.int (3 + v1), .int (4 + v2)]]) (by
        simp [qc1, qc2, qc3, qc4, qc5, qc6, qc7, qc8, qc9, qc10, qc11, qc12, qc13, qc14, qc15, qc16, qc17, qc18, ↓la0, ↓la1, ↓la2, ↓la3, ↓la4, ↓la5, ↓la6, ↓la7, ↓la8, ↓la9, ↓la10, ↓la11, ↓la12, ↓la13, qa1, qa2, qa3, qa4, qa5, qa6, qa7, qa8, qa9, qa10, qa11, qa12, qa13, qa14, qa15, qa16, qa17, qa18, qa19, qa20, qa21, qa22, qa23, qa24, qa25, qa26, qa27, qa28, qa29, bv_int, b_mul (a := 3 + v1) (b := 4 + v2) (by omega) (by omega), hn])]
      unfold newS at hnew
      rw [ss_n hnew]
      rw [ss_n (loc' := [some (.ref 1), some (.int (3 + v1)), some (.int (4 + v2)), some (.int n), some (.ref 55), some (.int kg)]) (σ' := σ4) (by simp [qc1, qc2, qc3, qc4, qc5, qc6, qc7, qc8, qc9, qc10, qc11, qc12, qc13, qc14, qc15, qc16, qc17, qc18, ↓la0, ↓la1, ↓la2, ↓la3, ↓la4, ↓la5, ↓la6, ↓la7, ↓la8, ↓la9, ↓la10, ↓la11, ↓la12, ↓la13, qa1, qa2, qa3, qa4, qa5, qa6, qa7, qa8, qa9, qa10, qa11, qa12, qa13, qa14, qa15, qa16, qa17, qa18, qa19, qa20, qa21, qa22, qa23, qa24, qa25, qa26, qa27, qa28, qa29, qb1, qb2, h4])]
      rw [ss_n (loc' := [some (.ref 1), some (.int (3 + v1)), some (.int (4 + v2)), some (.int n), some (.ref 55), some (.int kg)]) (σ' := σ5) (by
        have hz : (0 : Int) * 8 + 6 = 6 := by decide
        rw [hz] at h5
        simp [qc1, qc2, qc3, qc4, qc5, qc6, qc7, qc8, qc9, qc10, qc11, qc12, qc13, qc14, qc15, qc16, qc17, qc18, ↓la0, ↓la1, ↓la2, ↓la3, ↓la4, ↓la5, ↓la6, ↓la7, ↓la8, ↓la9, ↓la10, ↓la11, ↓la12, ↓la13, qa1, qa2, qa3, qa4, qa5, qa6, qa7, qa8, qa9, qa10, qa11, qa12, qa13, qa14, qa15, qa16, qa17, qa18, qa19, qa20, qa21, qa22, qa23, qa24, qa25, qa26, qa27, qa28, qa29, qb1, qb2, r0, h5])]
      rw [ss_n (loc' := [some (.ref 1), some (.int (3 + v1)), some (.int (4 + v2)), some (.int n), some (.ref 55), some (.int kg)]) (σ' := σ7) (by
        have hz : (1 : Int) * 8 + 6 = 14 := by decide
        rw [hz] at h7
        simp [qc1, qc2, qc3, qc4, qc5, qc6, qc7, qc8, qc9, qc10, qc11, qc12, qc13, qc14, qc15, qc16, qc17, qc18, ↓la0, ↓la1, ↓la2, ↓la3, ↓la4, ↓la5, ↓la6, ↓la7, ↓la8, ↓la9, ↓la10, ↓la11, ↓la12, ↓la13, qa1, qa2, qa3, qa4, qa5, qa6, qa7, qa8, qa9, qa10, qa11, qa12, qa13, qa14, qa15, qa16, qa17, qa18, qa19, qa20, qa21, qa22, qa23, qa24, qa25, qa26, qa27, qa28, qa29, qb1, qb2, r0, h6, bv_int, b_add, b_sub, b_mod _ (show (n : Int) ≠ 0 by omega), ← ekb, h7])]
      rw [ss_n (loc' := [some (.ref 1), some (.int (3 + v1)), some (.int (4 + v2)), some (.int n), some (.ref 55), some (.int kg)]) (σ' := σ9) (by simp [qc1, qc2, qc3, qc4, qc5, qc6, qc7, qc8, qc9, qc10, qc11, qc12, qc13, qc14, qc15, qc16, qc17, qc18, ↓la0, ↓la1, ↓la2, ↓la3, ↓la4, ↓la5, ↓la6, ↓la7, ↓la8, ↓la9, ↓la10, ↓la11, ↓la12, ↓la13, qa1, qa2, qa3, qa4, qa5, qa6, qa7, qa8, qa9, qa10, qa11, qa12, qa13, qa14, qa15, qa16, qa17, qa18, qa19, qa20, qa21, qa22, qa23, qa24, qa25, qa26, qa27, qa28, qa29, qb1, qb2, h8, hput])]
      simp [qd1, qd2, qc1, qc2, qc3, qc4, qc5, qc6, qc7, qc8, qc9, qc10, qc11, qc12, qc13, qc14, qc15, qc16, qc17, qc18, ↓la0, ↓la1, ↓la2, ↓la3, ↓la4, ↓la5, ↓la6, ↓la7, ↓la8, ↓la9, ↓la10, ↓la11, ↓la12, ↓la13, qa1, qa2, qa3, qa4, qa5, qa6, qa7, qa8, qa9, qa10, qa11, qa12, qa13, qa14, qa15, qa16, qa17, qa18, qa19, qa20, qa21, qa22, qa23, qa24, qa25, qa26, qa27, qa28, qa29]
    rw [hb]
    rfl
  · rw [e9]; exact keep_set B8.cst (by omega)
  · rw [e9]; simp [l55]
  · rw [e9, List.getElem?_set_ne (by decide)]; exact B8.hb
  · rw [e9, List.getElem?_set_ne (by decide)]; exact B8.hk
  · rw [e9, List.getElem?_set_ne (by decide)]; exact B8.hs
  · rw [e9, List.getElem?_set_ne (by decide)]; exact S8.r
  · rw [e9, List.getElem?_set_ne (by decide)]; exact S8.d
  · refine ⟨kg.toNat, by omega, ?_, ?_⟩
    · rw [pv_set (by simp)]
      simp only [show (0 : Int).toNat = 0 from rfl, show (1 : Int).toNat = 1 from rfl, show ¬ (0 : Nat) = 1 by decide, if_false]
      rw [pv_set (by decide)]
      simp only [show (0 : Int).toNat = 0 from rfl, if_true]
      rw [tb_put (by decide) a4]
      simp
    · rw [pv_set (by simp)]
      simp only [show (0 : Int).toNat = 0 from rfl, show (1 : Int).toNat = 1 from rfl, if_true]
      rw [tb_put q1 kb0, pv_set (by decide)]
      simp only [show (1 : Int).toNat = 1 from rfl, show ¬ (1 : Nat) = (0 : Nat) by decide, if_false]
      have : pv [0, 0] 1 = 0 := rfl
      rw [this]
      simp [tb, Ne.symm kne]
  · refine ⟨kb.toNat, by omega, ?_, ?_⟩
    · rw [pv_set (by simp)]
      simp only [show (1 : Int).toNat = 1 from rfl, if_true]
      rw [tb_put (mb1.sd 1).1 kb0]
      simp
    · rw [pv_set (by simp)]
      simp only [show (0 : Int).toNat = 0 from rfl, show (1 : Int).toNat = 1 from rfl, show ¬ (0 : Nat) = 1 by decide, if_false]
      rw [pv_set (by decide)]
      simp only [show (0 : Int).toNat = 0 from rfl, if_true]
      rw [tb_put (by decide) a4]
      have : pv [0, 0] 0 = 0 := rfl
      rw [this]
      simp [tb, kne]
  · rw [e9, List.length_set, L8, L7, L6, L5, L4, L3]
end
end Mine.Law

/-! ## P17 -/
namespace Mine.Law
open PySem PyProof.Rows

/-! comprehensions over a range -/
noncomputable def upI : Int → Nat → List Int
  | _, 0 => []
  | a, k + 1 => a :: upI (a + 1) k
theorem rangeUp_eq : ∀ (a : Int) (k : Nat), rangeUp a k = (upI a k).map MV.int
  | _, 0 => rfl
  | a, k + 1 => by rw [rangeUp, rangeUp_eq, upI, List.map_cons]
theorem mem_upI {x : Int} : ∀ {a : Int} {k : Nat}, x ∈ upI a k ↔ a ≤ x ∧ x < a + k
  | a, 0 => by simp [upI]
  | a, k + 1 => by rw [upI, List.mem_cons, mem_upI]; push_cast; omega
theorem filtN_ok {t : MV → Option Bool} {p : Int → Bool} : ∀ {xs : List Int}, (∀ x ∈ xs, t (.int x) = some (p x)) → filtN t (xs.map MV.int) = some ((xs.filter p).map MV.int)
  | [], _ => rfl
  | x :: xs, h => by
    rw [List.map_cons, filtN, h x (.head _), filtN_ok fun y hy => h y (.tail _ hy), List.filter_cons]
    cases p x <;> rfl
theorem compR_ev {Γ : Gam} {loc : Loc} {hi cond : E} {cap : Nat} {σ : Hp} {n : Nat} {p : Int → Bool} (h1 : evE Γ loc hi σ = some (.int n, σ)) (hn : n ≤ 1000)
    (hp : ∀ s : Int, 0 ≤ s → s < n → ((evE noCalls [some (.int s), loc[cap]?.join] cond σ).bind fun q => if q.2 = σ then tr q.1 else none) = some (p s)) :
    evE Γ loc (.compR hi cap cond) σ = some (.ref σ.length, σ ++ [.list (((upI 0 n).filter p).map MV.int)]) := by
  rw [qa27, h1]
  simp only [Option.bind_some]
  rw [if_pos ⟨Int.natCast_nonneg n, by omega⟩, Int.toNat_natCast, rangeUp_eq, filtN_ok fun x hx => hp x (mem_upI.mp hx).1 (by have := (mem_upI.mp hx).2; omega)]
  rfl

section
variable {row : List Int}
theorem Bo.other {σ lit : Hp} {n : Nat} {bl kl sl : List Int} {side key : Int} (h : Bo σ lit n bl kl sl side key) (hl : lit.length = 52) {t : Nat} {o : MObj} (ht : 61 ≤ t) : Bo (σ.set t o) lit n bl kl sl side key :=
  ⟨keep_set h.cst (by rw [List.length_append, hl]; show 3 + 52 ≤ t; omega), by rw [List.getElem?_set_ne (by omega)]; exact h.pos, by rw [List.getElem?_set_ne (by omega)]; exact h.hb, by rw [List.getElem?_set_ne (by omega)]; exact h.hk,
    by rw [List.getElem?_set_ne (by omega)]; exact h.hs, h.bn, h.kn, h.sn⟩

/-! the prices -/
noncomputable def prB : Ss := .cons (.app (.loc 3) (.call 44 (.cons (.loc 1) (.cons (.int 41) .nil)))) .nil
theorem price_loop {lit : Hp} {n : Nat} {bl kl sl : List Int} {side key : Int} (hr : row.length ≤ 40) (hl : lit.length = 52) {t : Nat} (ht : 61 ≤ t) (a0' a2 a5 a6 a7 a8 a9 a10 : Option MV) :
    ∀ (vals : List MV) (σ : Hp) (a : Int) (xs : List Int) (o : Option MV), Bo σ lit n bl kl sl side key → Sack σ row a → 0 ≤ a → a + vals.length < 900 → σ[t]? = some (.list (xs.map MV.int)) → xs.length + vals.length ≤ 900 →
    ∃ o' σ' ys, forN 4 (evSs (callF prog 9) prB) vals [a0', some (.ref 1), a2, some (.ref t), o, a5, a6, a7, a8, a9, a10] σ = some (.next, [a0', some (.ref 1), a2, some (.ref t), o', a5, a6, a7, a8, a9, a10], σ') ∧
      Bo σ' lit n bl kl sl side key ∧ Sack σ' row (a + vals.length) ∧ σ'[t]? = some (.list ((xs ++ ys).map MV.int)) ∧ ys.length = vals.length ∧ (∀ y ∈ ys, 0 ≤ y ∧ y ≤ 40) ∧ σ'.length = σ.length
  | [], σ, a, xs, o, hB, hS, a0, ha, hx, hxl => ⟨o, σ, [], rfl, hB, by simpa using hS, by simpa using hx, rfl, by simp, rfl⟩
  | v :: vals, σ, a, xs, o, hB, hS, a0, ha, hx, hxl => by
    simp only [List.length_cons] at ha hxl
    push_cast at ha
    obtain ⟨y, σ1, h1, y0, y1, S1, K1, L1⟩ := r44 (m := 8) hS hr a0 (by omega) (many := 41) (by decide)
    have hx1 := K1 _ _ hx rfl
    obtain ⟨σ2, e2⟩ : ∃ z : Hp, z = σ1.set t (.list ((xs ++ [y]).map MV.int)) := ⟨_, rfl⟩
    have hlt := (List.getElem?_eq_some_iff.mp hx1).1
    have B2 : Bo σ2 lit n bl kl sl side key := e2 ▸ (hB.keep K1).other hl ht
    have S2 : Sack σ2 row (a + 1) := S1.keep2 (by rw [e2, List.getElem?_set_ne (by omega)]) (by rw [e2, List.getElem?_set_ne (by omega)])
    have hx2 : σ2[t]? = some (.list ((xs ++ [y]).map MV.int)) := by rw [e2]; simp [hlt]
    obtain ⟨o', σ', ys, g1, g2, g3, g4, g5, g6, g7⟩ := price_loop hr hl ht a0' a2 a5 a6 a7 a8 a9 a10 vals σ2 (a + 1) (xs ++ [y]) (some v) B2 S2 (by omega) (by omega) hx2 (by simp; omega)
    refine ⟨o', σ', y :: ys, ?_, g2, ?_, ?_, by simp [g5], ?_, by rw [g7, e2, List.length_set, L1]⟩
    · rw [for_cons_n (loc' := [a0', some (.ref 1), a2, some (.ref t), some v, a5, a6, a7, a8, a9, a10]) (σ' := σ2) (by
        have hc : xs.length ≤ 1000 := by omega
        simp [prB, qd1, qd2, qc1, qc2, qc3, qc4, qc5, qc6, qc7, qc8, qc9, qc10, qc11, qc12, qc13, qc14, qc15, qc16, qc17, qc18, ↓la0, ↓la1, ↓la2, ↓la3, ↓la4, ↓la5, ↓la6, ↓la7, ↓la8, ↓la9, ↓la10, ↓la11, ↓la12, ↓la13, qa1, qa2, qa3, qa4, qa5, qa6, qa7, qa8, qa9, qa10, qa11, qa12, qa13, qa14, qa15, qa16, qa17, qa18, qa19, qa20, qa21, qa22, qa23, qa24, qa25, qa26, qa27, qa28, qa29, qb1, qb2, isL, hx, h1, appV, hx1, hc, e2]), g1]
    · rw [List.length_cons, show a + ((vals.length + 1 : Nat) : Int) = a + 1 + vals.length by push_cast; omega]; exact g3
    · rw [g4]; simp
    · intro z hz
      rcases List.mem_cons.mp hz with rfl | hz
      · omega
      · exact g6 z hz

/-! the men -/
noncomputable def Inv (lit : Hp) (n : Nat) (row : List Int) (t : Nat) (ps : List Int) (side : Int) (σ : Hp) (a : Int) : Prop := ∃ bl kl sl key, Bo σ lit n bl kl sl side key ∧ Sack σ row a ∧ MI n bl kl sl side ∧ Prices σ t ps
noncomputable def meB : Ss := (.cons (.unpack3 4 5 6 (.tup (.cons (.call 44 (.cons (.loc 0) (.cons (.loc 2) .nil))) (.cons (.bin .Add (.int 1) (.call 44 (.cons (.loc 0) (.cons (.int 5) .nil)))) (.cons (.call 44 (.cons (.loc 0) (.cons (.int 2) .nil))) .nil)))))
    (.cons (.ifs (.and (.cmp .Eq (.loc 5) (.glob 2)) (.un .Not (.cmp2 .LtE .Lt (.attr (.attr (.loc 1) 14) 0) (.loc 4) (.bin .Sub (.loc 2) (.attr (.attr (.loc 1) 14) 0))))) (.cons (.set 5 (.glob 3))
    .nil) .nil)
    (.cons (.ifs (.cmp .Eq (.bin .BitAnd (.bin .RShift (.call 28 (.cons (.loc 1) .nil)) (.loc 4)) (.int 1)) (.int 0)) (.cons (.expr (.call 27 (.cons (.loc 1) (.cons (.call 0 (.cons (.loc 6) (.cons (.loc 5) .nil))) (.cons (.loc 4) .nil)))))
    .nil) .nil)
    .nil)))
theorem men_turn {lit : Hp} {n t : Nat} {ps : List Int} {side f : Int} (hr : row.length ≤ 40) (g : GoodG lit n f) (n20 : n ≤ 20) (n12 : 12 ≤ n) (ht : 61 ≤ t) {σ : Hp} {a : Int} (hI : Inv lit n row t ps side σ a) (a0 : 0 ≤ a) (a1 : a < 900) (v : MV) (o3 o4 o5 o6 : Option MV) :
    ∃ o4' o5' o6' σ', evSs (callF prog 8) meB ([some (.ref 1), some (.ref 55), some (.int n), o3, o4, o5, o6].set 3 (some v)) σ = some (.next, [some (.ref 1), some (.ref 55), some (.int n), some v, o4', o5', o6'], σ') ∧ Inv lit n row t ps side σ' (a + 3) := by
  refine hide fun X back => ?_
  obtain ⟨bl, kl, sl, key, hB, hS, hM, hP⟩ := hI
  obtain ⟨sq, σ1, h1, q0, q1, S1, K1, L1⟩ := r44 (m := 7) hS hr a0 (by omega) (many := (n : Int)) (by omega)
  obtain ⟨k5, σ2, h2, k0, k1, S2, K2, L2⟩ := r44 (m := 7) S1 hr (by omega) (by omega) (many := 5) (by decide)
  obtain ⟨c, σ3, h3, c0, c1, S3, K3, L3⟩ := r44 (m := 7) S2 hr (by omega) (by omega) (many := 2) (by decide)
  obtain ⟨σ4, e4⟩ : ∃ z : Hp, z = σ3 ++ [MObj.tup [.int sq, .int (1 + k5), .int c]] := ⟨_, rfl⟩
  have l4 : Le σ3 σ4 := e4 ▸ Le.app
  have K4 : Keep σ σ4 := ((K1.trans K2).trans K3).trans l4.keep
  have B4 := hB.keep K4
  have S4 : Sack σ4 row (a + 3) := by have := S3.le l4; rwa [show a + 1 + 1 + 1 = a + 3 by omega] at this
  have P4 : Prices σ4 t ps := ⟨K4 _ _ hP.at_ rfl, hP.len, hP.rng⟩
  have t4 : σ4[σ3.length]? = some (.tup [.int sq, .int (1 + k5), .int c]) := by rw [e4]; simp
  have H4 := B4.posn (f := f) n20
  have G4 := B4.geo g
  have hgeo : getA σ4 (.ref 55) 14 = some (.ref 3) := H4.geo
  have hfil : getA σ4 (.ref 3) 0 = some (.int f) := (G4 : Geo σ4 (bOf lit n f bl kl sl side)).files
  have h28 : callF prog 8 28 [.ref 55] σ4 = some (.int (bor (pv sl 0) (pv sl 1)), σ4) := r28 (n := 7) H4
  have hocc : Bn n (bor (pv sl 0) (pv sl 1)) := (hM.mb.sd 0).or (hM.mb.sd 1)
  obtain ⟨kd, ekd, kd1, kd6⟩ : ∃ kd : Int, evS (callF prog 8) (.ifs (.and (.cmp .Eq (.loc 5) (.glob 2)) (.un .Not (.cmp2 .LtE .Lt (.attr (.attr (.loc 1) 14) 0) (.loc 4) (.bin .Sub (.loc 2) (.attr (.attr (.loc 1) 14) 0))))) (.cons (.set 5 (.glob 3)) .nil) .nil)
      [some (.ref 1), some (.ref 55), some (.int n), some v, some (.int sq), some (.int (1 + k5)), some (.int c)] σ4 = some (.next, [some (.ref 1), some (.ref 55), some (.int n), some v, some (.int sq), some (.int kd), some (.int c)], σ4) ∧ 1 ≤ kd ∧ kd ≤ 6 := by
    by_cases z1 : 1 + k5 = 1
    · by_cases z2 : f ≤ sq
      · by_cases z3 : sq < (n : Int) - f
        · exact ⟨1 + k5, by simp [qd1, qd2, qc1, qc2, qc3, qc4, qc5, qc6, qc7, qc8, qc9, qc10, qc11, qc12, qc13, qc14, qc15, qc16, qc17, qc18, ↓la0, ↓la1, ↓la2, ↓la3, ↓la4, ↓la5, ↓la6, ↓la7, ↓la8, ↓la9, ↓la10, ↓la11, ↓la12, ↓la13, qa1, qa2, qa3, qa4, qa5, qa6, qa7, qa8, qa9, qa10, qa11, qa12, qa13, qa14, qa15, qa16, qa17, qa18, qa19, qa20, qa21, qa22, qa23, qa24, qa25, qa26, qa27, qa28, qa29, gl2, gl3, cmpV, cmpI, tr, unV, hgeo, hfil, bv_int, b_sub, z1, z2, z3], by omega, by omega⟩
        · exact ⟨2, by simp [qd1, qd2, qc1, qc2, qc3, qc4, qc5, qc6, qc7, qc8, qc9, qc10, qc11, qc12, qc13, qc14, qc15, qc16, qc17, qc18, ↓la0, ↓la1, ↓la2, ↓la3, ↓la4, ↓la5, ↓la6, ↓la7, ↓la8, ↓la9, ↓la10, ↓la11, ↓la12, ↓la13, qa1, qa2, qa3, qa4, qa5, qa6, qa7, qa8, qa9, qa10, qa11, qa12, qa13, qa14, qa15, qa16, qa17, qa18, qa19, qa20, qa21, qa22, qa23, qa24, qa25, qa26, qa27, qa28, qa29, gl2, gl3, cmpV, cmpI, tr, unV, hgeo, hfil, bv_int, b_sub, z1, z2, z3], by omega, by omega⟩
      · exact ⟨2, by simp [qd1, qd2, qc1, qc2, qc3, qc4, qc5, qc6, qc7, qc8, qc9, qc10, qc11, qc12, qc13, qc14, qc15, qc16, qc17, qc18, ↓la0, ↓la1, ↓la2, ↓la3, ↓la4, ↓la5, ↓la6, ↓la7, ↓la8, ↓la9, ↓la10, ↓la11, ↓la12, ↓la13, qa1, qa2, qa3, qa4, qa5, qa6, qa7, qa8, qa9, qa10, qa11, qa12, qa13, qa14, qa15, qa16, qa17, qa18, qa19, qa20, qa21, qa22, qa23, qa24, qa25, qa26, qa27, qa28, qa29, gl2, gl3, cmpV, cmpI, tr, unV, hgeo, hfil, bv_int, b_sub, z1, z2], by omega, by omega⟩
    · exact ⟨1 + k5, by simp [qd1, qd2, qc1, qc2, qc3, qc4, qc5, qc6, qc7, qc8, qc9, qc10, qc11, qc12, qc13, qc14, qc15, qc16, qc17, qc18, ↓la0, ↓la1, ↓la2, ↓la3, ↓la4, ↓la5, ↓la6, ↓la7, ↓la8, ↓la9, ↓la10, ↓la11, ↓la12, ↓la13, qa1, qa2, qa3, qa4, qa5, qa6, qa7, qa8, qa9, qa10, qa11, qa12, qa13, qa14, qa15, qa16, qa17, qa18, qa19, qa20, qa21, qa22, qa23, qa24, qa25, qa26, qa27, qa28, qa29, gl2, cmpV, cmpI, tr, z1], by omega, by omega⟩
  have pre : ∀ r, evSs (callF prog 8) (.cons (.unpack3 4 5 6 (.tup (.cons (.call 44 (.cons (.loc 0) (.cons (.loc 2) .nil))) (.cons (.bin .Add (.int 1) (.call 44 (.cons (.loc 0) (.cons (.int 5) .nil)))) (.cons (.call 44 (.cons (.loc 0) (.cons (.int 2) .nil))) .nil))))) r)
      ([some (.ref 1), some (.ref 55), some (.int n), o3, o4, o5, o6].set 3 (some v)) σ = evSs (callF prog 8) r [some (.ref 1), some (.ref 55), some (.int n), some v, some (.int sq), some (.int (1 + k5)), some (.int c)] σ4 := by
    intro r
    rw [ss_n (loc' := [some (.ref 1), some (.ref 55), some (.int n), some v, some (.int sq), some (.int (1 + k5)), some (.int c)]) (σ' := σ4) (by
      simp [qc1, qc2, qc3, qc4, qc5, qc6, qc7, qc8, qc9, qc10, qc11, qc12, qc13, qc14, qc15, qc16, qc17, qc18, ↓la0, ↓la1, ↓la2, ↓la3, ↓la4, ↓la5, ↓la6, ↓la7, ↓la8, ↓la9, ↓la10, ↓la11, ↓la12, ↓la13, qa1, qa2, qa3, qa4, qa5, qa6, qa7, qa8, qa9, qa10, qa11, qa12, qa13, qa14, qa15, qa16, qa17, qa18, qa19, qa20, qa21, qa22, qa23, qa24, qa25, qa26, qa27, qa28, qa29, qb1, qb2, h1, h2, h3, bv_int, b_add, tupGet, e4])]
  have hbit := bit_one (x := bor (pv sl 0) (pv sl 1)) (s := sq) hocc.1
  by_cases hfree : tb (bor (pv sl 0) (pv sl 1)) sq.toNat = true
  · refine back ?_
    refine ⟨some (.int sq), some (.int kd), some (.int c), σ4, ?_, bl, kl, sl, key, B4, S4, hM, P4⟩
    rw [if_pos hfree] at hbit
    unfold meB
    rw [pre, ss_n ekd]
    rw [ss_n (loc' := [some (.ref 1), some (.ref 55), some (.int n), some v, some (.int sq), some (.int kd), some (.int c)]) (σ' := σ4) (by
      simp [qd1, qd2, qc1, qc2, qc3, qc4, qc5, qc6, qc7, qc8, qc9, qc10, qc11, qc12, qc13, qc14, qc15, qc16, qc17, qc18, ↓la0, ↓la1, ↓la2, ↓la3, ↓la4, ↓la5, ↓la6, ↓la7, ↓la8, ↓la9, ↓la10, ↓la11, ↓la12, ↓la13, qa1, qa2, qa3, qa4, qa5, qa6, qa7, qa8, qa9, qa10, qa11, qa12, qa13, qa14, qa15, qa16, qa17, qa18, qa19, qa20, qa21, qa22, qa23, qa24, qa25, qa26, qa27, qa28, qa29, qb1, qb2, h28, bv_int, b_shr _ q0, b_and, hbit, cmpV, cmpI, tr])]
    exact ss_nil
  · rw [if_neg hfree] at hbit
    have hc : c = 0 ∨ c = 1 := by omega
    obtain ⟨key', σ5, h5, B5, I5, L5⟩ := r27 (m := 6) B4 g n20 q0 q1 hc kd1 kd6
    have S5 : Sack σ5 row (a + 3) := S4.keep2 (I5 0 (by decide) (by decide) (by decide) (by decide)) (I5 1 (by decide) (by decide) (by decide) (by decide))
    have P5 : Prices σ5 t ps := ⟨by rw [I5 t (by omega) (by omega) (by omega) (by omega)]; exact P4.at_, P4.len, P4.rng⟩
    refine back ?_
    refine ⟨some (.int sq), some (.int kd), some (.int c), σ5, ?_, _, _, _, key', B5, S5, hM.put hB.bn hB.kn hB.sn q0 q1 hc kd1 kd6 (by simpa using hfree), P5⟩
    unfold meB
    rw [pre, ss_n ekd]
    rw [ss_n (loc' := [some (.ref 1), some (.ref 55), some (.int n), some v, some (.int sq), some (.int kd), some (.int c)]) (σ' := σ5) (by
      simp [qd1, qd2, qc1, qc2, qc3, qc4, qc5, qc6, qc7, qc8, qc9, qc10, qc11, qc12, qc13, qc14, qc15, qc16, qc17, qc18, ↓la0, ↓la1, ↓la2, ↓la3, ↓la4, ↓la5, ↓la6, ↓la7, ↓la8, ↓la9, ↓la10, ↓la11, ↓la12, ↓la13, qa1, qa2, qa3, qa4, qa5, qa6, qa7, qa8, qa9, qa10, qa11, qa12, qa13, qa14, qa15, qa16, qa17, qa18, qa19, qa20, qa21, qa22, qa23, qa24, qa25, qa26, qa27, qa28, qa29, qb1, qb2, h28, bv_int, b_shr _ q0, b_and, hbit, cmpV, cmpI, tr, r0 7 σ4 c kd (by omega), h5])]
    exact ss_nil
theorem men_loop {lit : Hp} {n t : Nat} {ps : List Int} {side f : Int} (hr : row.length ≤ 40) (g : GoodG lit n f) (n20 : n ≤ 20) (n12 : 12 ≤ n) (ht : 61 ≤ t) : ∀ (vals : List MV) (σ : Hp) (a : Int) (o3 o4 o5 o6 : Option MV), Inv lit n row t ps side σ a → 0 ≤ a → a + 3 * vals.length < 800 →
    ∃ o3' o4' o5' o6' σ', forN 3 (evSs (callF prog 8) meB) vals [some (.ref 1), some (.ref 55), some (.int n), o3, o4, o5, o6] σ = some (.next, [some (.ref 1), some (.ref 55), some (.int n), o3', o4', o5', o6'], σ') ∧ Inv lit n row t ps side σ' (a + 3 * vals.length)
  | [], σ, a, o3, o4, o5, o6, hI, a0, ha => ⟨o3, o4, o5, o6, σ, rfl, by simpa using hI⟩
  | v :: vals, σ, a, o3, o4, o5, o6, hI, a0, ha => by
    rw [List.length_cons] at ha
    push_cast at ha
    obtain ⟨p4, p5, p6, σ1, h1, I1⟩ := men_turn hr g n20 n12 ht hI a0 (by omega) v o3 o4 o5 o6
    obtain ⟨q3, q4, q5, q6, σ2, h2, I2⟩ := men_loop hr g n20 n12 ht vals σ1 (a + 3) (some v) p4 p5 p6 I1 (by omega) (by omega)
    refine ⟨q3, q4, q5, q6, σ2, by rw [for_cons_n h1, h2], ?_⟩
    rw [List.length_cons, show a + 3 * ((vals.length + 1 : Nat) : Int) = a + 3 + 3 * vals.length by push_cast; omega]
    exact I2
theorem rangeUp_len : ∀ (a : Int) (k : Nat), (rangeUp a k).length = k
  | _, 0 => rfl
  | a, k + 1 => by rw [rangeUp, List.length_cons, rangeUp_len]
theorem r46 {lit : Hp} {n t : Nat} {ps : List Int} {side f : Int} (hr : row.length ≤ 40) (g : GoodG lit n f) (n20 : n ≤ 20) (n12 : 12 ≤ n) (ht : 61 ≤ t) {σ : Hp} {a : Int} (hI : Inv lit n row t ps side σ a) (a0 : 0 ≤ a) (a1 : a < 500) :
    ∃ σ' a', callF prog 9 46 [.ref 1, .ref 55] σ = some (.none, σ') ∧ Inv lit n row t ps side σ' a' ∧ 0 ≤ a' ∧ a' < a + 30 := by
  obtain ⟨bl, kl, sl, key, hB, hS, hM, hP⟩ := hI
  obtain ⟨k, σ1, h1, k0, k1, S1, K1, L1⟩ := r44 (m := 7) hS hr a0 (by omega) (many := 7) (by decide)
  have I1 : Inv lit n row t ps side σ1 (a + 1) := ⟨bl, kl, sl, key, hB.keep K1, S1, hM, ⟨K1 _ _ hP.at_ rfl, hP.len, hP.rng⟩⟩
  have H := hB.posn (f := f) n20
  have G := hB.geo g
  have hgeo : getA σ (.ref 55) 14 = some (.ref 3) := H.geo
  have hsz : getA σ (.ref 3) 2 = some (.int n) := (G : Geo σ (bOf lit n f bl kl sl side)).size
  obtain ⟨o3, o4, o5, o6, σ2, h2, I2⟩ := men_loop hr g n20 n12 ht (rangeUp 0 k.toNat) σ1 (a + 1) none none none none I1 (by omega) (by rw [rangeUp_len]; omega)
  rw [rangeUp_len] at I2
  refine ⟨σ2, _, ?_, I2, by omega, by omega⟩
  rw [call_eq]
  show Option.bind (evSs (callF prog 8) F46.body [some (.ref 1), some (.ref 55), none, none, none, none, none] σ) _ = _
  have hb : evSs (callF prog 8) F46.body [some (.ref 1), some (.ref 55), none, none, none, none, none] σ = some (.next, [some (.ref 1), some (.ref 55), some (.int n), o3, o4, o5, o6], σ2) := by
    unfold F46
    rw [ss_n (loc' := [some (.ref 1), some (.ref 55), some (.int n), none, none, none, none]) (σ' := σ) (by simp [qc1, qc2, qc3, qc4, qc5, qc6, qc7, qc8, qc9, qc10, qc11, qc12, qc13, qc14, qc15, qc16, qc17, qc18, ↓la0, ↓la1, ↓la2, ↓la3, ↓la4, ↓la5, ↓la6, ↓la7, ↓la8, ↓la9, ↓la10, ↓la11, ↓la12, ↓la13, qa1, qa2, qa3, qa4, qa5, qa6, qa7, qa8, qa9, qa10, qa11, qa12, qa13, qa14, qa15, qa16, qa17, qa18, qa19, qa20, qa21, qa22, qa23, qa24, qa25, qa26, qa27, qa28, qa29, hgeo, hsz])]
    have hc : evE (callF prog 8) [some (.ref 1), some (.ref 55), some (.int n), none, none, none, none] (.call 44 (.cons (.loc 0) (.cons (.int 7) .nil))) σ = some (.int k, σ1) := by simp [↓la0, ↓la1, ↓la2, ↓la3, ↓la4, ↓la5, ↓la6, ↓la7, ↓la8, ↓la9, ↓la10, ↓la11, ↓la12, ↓la13, qa1, qa2, qa3, qa4, qa5, qa6, qa7, qa8, qa9, qa10, qa11, qa12, qa13, qa14, qa15, qa16, qa17, qa18, qa19, qa20, qa21, qa22, qa23, qa24, qa25, qa26, qa27, qa28, qa29, qb1, qb2, h1]
    have hf : evS (callF prog 8) (.forR1 3 (.call 44 (.cons (.loc 0) (.cons (.int 7) .nil))) meB) [some (.ref 1), some (.ref 55), some (.int n), none, none, none, none] σ = some (.next, [some (.ref 1), some (.ref 55), some (.int n), o3, o4, o5, o6], σ2) := by
      rw [qc12, hc]
      simp only [Option.bind_some]
      rw [if_pos ⟨k0, by omega⟩]
      exact h2
    unfold meB at hf
    rw [ss_n hf]
    exact ss_nil
  rw [hb]
  rfl
end
end Mine.Law

/-! ## P18 -/
namespace Mine.Law
open PySem PyProof.Rows
section
variable {row : List Int} {σ lit : Hp} {n t : Nat} {bl kl sl ps : List Int} {side key f : Int}

theorem r47 (hB : Bo σ lit n bl kl sl side key) (g : GoodG lit n f) (n20 : n ≤ 20) (hM : MI n bl kl sl side) {o : Int} (o0 : 0 ≤ o) (o1 : o < n) :
    ∃ gs : List Int, callF prog 9 47 [.ref 55, .int o] σ = some (.ref σ.length, σ ++ [.list (gs.map MV.int)]) ∧ (∀ x ∈ gs, 0 ≤ x ∧ x < n) ∧ gs.length ≤ 20 := by
  have H := hB.posn (f := f) n20
  have G := hB.geo g
  have hside := hM.side
  have hgeo : getA σ (.ref 55) 14 = some (.ref 3) := H.geo
  have hsz : getA σ (.ref 3) 2 = some (.int n) := (G : Geo σ (bOf lit n f bl kl sl side)).size
  have hbd : getI σ (.ref 57) (.int o) = some (.int (pv bl o)) := H.bd o o0 o1
  have hboard : getA σ (.ref 55) 16 = some (.ref 57) := H.board
  have hsides : getA σ (.ref 55) 18 = some (.ref 60) := H.sides
  have hsd : getA σ (.ref 55) 19 = some (.int side) := H.side
  have hs1 : getI σ (.ref 60) (.int side) = some (.int (pv sl side)) := H.sd side (by omega) (by omega)
  have hs2 : getI σ (.ref 60) (.int (1 - side)) = some (.int (pv sl (1 - side))) := H.sd (1 - side) (by omega) (by omega)
  have h28 : callF prog 8 28 [.ref 55] σ = some (.int (bor (pv sl 0) (pv sl 1)), σ) := r28 (n := 7) H
  have h24 : callF prog 8 24 [.ref 3, .int side, .int (band (pv bl o) 7), .int o, .int (bor (pv sl 0) (pv sl 1))] σ = some (.int (pieceA (bOf lit n f bl kl sl side) side (band (pv bl o) 7) o (bor (pv sl 0) (pv sl 1))), σ) :=
    r24 (n := 2) (G : Geo σ (bOf lit n f bl kl sl side)) (by omega) (by omega) o0 o1
  obtain ⟨q, eq⟩ : ∃ q, q = pieceA (bOf lit n f bl kl sl side) side (band (pv bl o) 7) o (bor (pv sl 0) (pv sl 1)) := ⟨_, rfl⟩
  rw [← eq] at h24
  obtain ⟨gg, egg⟩ : ∃ x, x = band q (Builtin.bitNot (pv sl side)) := ⟨_, rfl⟩
  obtain ⟨g2, eg2⟩ : ∃ g2 : Int, evS (callF prog 8) (.ifs (.cmp .Eq (.loc 2) (.glob 2)) (.cons (.augN 3 .BitAnd (.idx (.attr (.loc 0) 18) (.bin .Sub (.int 1) (.attr (.loc 0) 19)))) .nil) .nil) [some (.ref 55), some (.int o), some (.int (band (pv bl o) 7)), some (.int gg)] σ =
      some (.next, [some (.ref 55), some (.int o), some (.int (band (pv bl o) 7)), some (.int g2)], σ) := by
    by_cases z : band (pv bl o) 7 = 1
    · exact ⟨band gg (pv sl (1 - side)), by simp [qd1, qd2, qc1, qc2, qc3, qc4, qc5, qc6, qc7, qc8, qc9, qc10, qc11, qc12, qc13, qc14, qc15, qc16, qc17, qc18, ↓la0, ↓la1, ↓la2, ↓la3, ↓la4, ↓la5, ↓la6, ↓la7, ↓la8, ↓la9, ↓la10, ↓la11, ↓la12, ↓la13, qa1, qa2, qa3, qa4, qa5, qa6, qa7, qa8, qa9, qa10, qa11, qa12, qa13, qa14, qa15, qa16, qa17, qa18, qa19, qa20, qa21, qa22, qa23, qa24, qa25, qa26, qa27, qa28, qa29, gl2, cmpV, cmpI, tr, z, hsides, hsd, hs2, bv_int, ba_int, b_sub, b_and]⟩
    · exact ⟨gg, by simp [qd1, qd2, qc1, qc2, qc3, qc4, qc5, qc6, qc7, qc8, qc9, qc10, qc11, qc12, qc13, qc14, qc15, qc16, qc17, qc18, ↓la0, ↓la1, ↓la2, ↓la3, ↓la4, ↓la5, ↓la6, ↓la7, ↓la8, ↓la9, ↓la10, ↓la11, ↓la12, ↓la13, qa1, qa2, qa3, qa4, qa5, qa6, qa7, qa8, qa9, qa10, qa11, qa12, qa13, qa14, qa15, qa16, qa17, qa18, qa19, qa20, qa21, qa22, qa23, qa24, qa25, qa26, qa27, qa28, qa29, gl2, cmpV, cmpI, tr, z]⟩
  have hc := compR_ev (Γ := callF prog 8) (loc := [some (.ref 55), some (.int o), some (.int (band (pv bl o) 7)), some (.int g2)]) (hi := .attr (.attr (.loc 0) 14) 2) (cap := 3) (cond := .cmp .Eq (.bin .BitAnd (.bin .RShift (.loc 1) (.loc 0)) (.int 1)) (.int 1))
    (σ := σ) (n := n) (p := fun s => band (shr g2 s) 1 == 1) (by simp [↓la0, ↓la1, ↓la2, ↓la3, ↓la4, ↓la5, ↓la6, ↓la7, ↓la8, ↓la9, ↓la10, ↓la11, ↓la12, ↓la13, qa1, qa2, qa3, qa4, qa5, qa6, qa7, qa8, qa9, qa10, qa11, qa12, qa13, qa14, qa15, qa16, qa17, qa18, qa19, qa20, qa21, qa22, qa23, qa24, qa25, qa26, qa27, qa28, qa29, hgeo, hsz]) (by omega) (fun s h0 h1 => by simp [↓la0, ↓la1, ↓la2, ↓la3, ↓la4, ↓la5, ↓la6, ↓la7, ↓la8, ↓la9, ↓la10, ↓la11, ↓la12, ↓la13, qa1, qa2, qa3, qa4, qa5, qa6, qa7, qa8, qa9, qa10, qa11, qa12, qa13, qa14, qa15, qa16, qa17, qa18, qa19, qa20, qa21, qa22, qa23, qa24, qa25, qa26, qa27, qa28, qa29, bv_int, b_shr _ h0, b_and, cmpV, cmpI, tr])
  refine ⟨(upI 0 n).filter (fun s => band (shr g2 s) 1 == 1), ?_, fun x hx => ?_, ?_⟩
  rotate_left
  · have := mem_upI.mp (List.mem_filter.mp hx).1
    omega
  · have := List.length_filter_le (fun s => band (shr g2 s) 1 == 1) (upI 0 n)
    have e : (upI 0 n).length = n := by rw [← List.length_map (f := MV.int), ← rangeUp_eq, rangeUp_len]
    omega
  · rw [call_eq]
    show Option.bind (evSs (callF prog 8) F47.body [some (.ref 55), some (.int o), none, none] σ) _ = _
    have hb : evSs (callF prog 8) F47.body [some (.ref 55), some (.int o), none, none] σ = some (.ret (.ref σ.length), [some (.ref 55), some (.int o), some (.int (band (pv bl o) 7)), some (.int g2)], σ ++ [.list (((upI 0 n).filter (fun s => band (shr g2 s) 1 == 1)).map MV.int)]) := by
      unfold F47
      rw [ss_n (loc' := [some (.ref 55), some (.int o), some (.int (band (pv bl o) 7)), none]) (σ' := σ) (by simp [qc1, qc2, qc3, qc4, qc5, qc6, qc7, qc8, qc9, qc10, qc11, qc12, qc13, qc14, qc15, qc16, qc17, qc18, ↓la0, ↓la1, ↓la2, ↓la3, ↓la4, ↓la5, ↓la6, ↓la7, ↓la8, ↓la9, ↓la10, ↓la11, ↓la12, ↓la13, qa1, qa2, qa3, qa4, qa5, qa6, qa7, qa8, qa9, qa10, qa11, qa12, qa13, qa14, qa15, qa16, qa17, qa18, qa19, qa20, qa21, qa22, qa23, qa24, qa25, qa26, qa27, qa28, qa29, qb1, qb2, hboard, hbd, r2])]
      rw [ss_n (loc' := [some (.ref 55), some (.int o), some (.int (band (pv bl o) 7)), some (.int gg)]) (σ' := σ) (by simp [qc1, qc2, qc3, qc4, qc5, qc6, qc7, qc8, qc9, qc10, qc11, qc12, qc13, qc14, qc15, qc16, qc17, qc18, ↓la0, ↓la1, ↓la2, ↓la3, ↓la4, ↓la5, ↓la6, ↓la7, ↓la8, ↓la9, ↓la10, ↓la11, ↓la12, ↓la13, qa1, qa2, qa3, qa4, qa5, qa6, qa7, qa8, qa9, qa10, qa11, qa12, qa13, qa14, qa15, qa16, qa17, qa18, qa19, qa20, qa21, qa22, qa23, qa24, qa25, qa26, qa27, qa28, qa29, qb1, qb2, hgeo, hsd, h28, h24, hsides, hs1, unV, bv_int, b_and, egg])]
      rw [ss_n eg2]
      exact ss_r (by rw [qc15, hc]; rfl)
    rw [hb]
    rfl

theorem list_get {σ : Hp} {id : Nat} {xs : List Int} (h : σ[id]? = some (.list (xs.map MV.int))) (hl : xs.length ≤ 1000) {k : Int} (h0 : 0 ≤ k) (h1 : k < xs.length) : ∃ x ∈ xs, getI σ (.ref id) (.int k) = some (.int x) := by
  refine ⟨pv xs k, ?_, pv_get h hl h0 h1⟩
  unfold pv
  have hk : k.toNat < xs.length := by omega
  rw [List.getElem?_eq_getElem hk]
  exact List.getElem_mem hk

noncomputable def tnB : Ss := (.cons (.set 7 (.idx (.loc 5) (.bin .Mod (.bin .Add (.loc 6) (.loc 4)) (.len (.loc 5)))))
    (.cons (.set 8 (.call 47 (.cons (.loc 2) (.cons (.loc 7) .nil))))
    (.cons (.ifs (.neNil (.loc 8)) (.cons (.set 9 (.idx (.loc 8) (.bin .Mod (.call 44 (.cons (.loc 1) (.cons (.int 8) .nil))) (.len (.loc 8)))))
    (.cons (.ret (.call 48 (.cons (.loc 2) (.cons (.loc 7) (.cons (.loc 9) (.cons (.loc 3) (.cons (.bin .Add (.int 2) (.call 44 (.cons (.loc 1) (.cons (.int 3) .nil)))) .nil)))))))
    .nil)) .nil)
    .nil)))
theorem es5 {Γ : Gam} {loc : Loc} {a b c d e : E} {x y z u w : MV} {σ σ1 σ2 σ3 σ4 σ5 : Hp} (h1 : evE Γ loc a σ = some (x, σ1)) (h2 : evE Γ loc b σ1 = some (y, σ2)) (h3 : evE Γ loc c σ2 = some (z, σ3)) (h4 : evE Γ loc d σ3 = some (u, σ4)) (h5 : evE Γ loc e σ4 = some (w, σ5)) :
    evEs Γ loc (.cons a (.cons b (.cons c (.cons d (.cons e .nil))))) σ = some ([x, y, z, u, w], σ5) := by
  simp [qb1, qb2, h1, h2, h3, h4, h5]

/-- the men of the side that moves, as the law lists them -/
noncomputable def menL (n : Nat) (x : Int) (v : Int) : List Int := (upI 0 n).filter (fun s => band (shr x s) 1 == v)
theorem menL_mem {n : Nat} {x v s : Int} (h : s ∈ menL n x v) : 0 ≤ s ∧ s < n ∧ band (shr x s) 1 = v := by
  obtain ⟨h1, h2⟩ := List.mem_filter.mp h
  have := mem_upI.mp h1
  exact ⟨this.1, by omega, eq_of_beq h2⟩
theorem menL_ne {n : Nat} {x v : Int} {i : Nat} (hi : i < n) (h : band (shr x (i : Int)) 1 = v) : menL n x v ≠ [] := by
  intro e
  have : (i : Int) ∈ menL n x v := List.mem_filter.mpr ⟨mem_upI.mpr ⟨by omega, by omega⟩, by simp [h]⟩
  rw [e] at this
  cases this
theorem upI_len : ∀ (a : Int) (k : Nat), (upI a k).length = k
  | _, 0 => rfl
  | a, k + 1 => by rw [upI, List.length_cons, upI_len]
theorem menL_len (n : Nat) (x v : Int) : (menL n x v).length ≤ n := by
  have := List.length_filter_le (fun s => band (shr x s) 1 == v) (upI 0 n)
  rwa [upI_len] at this

theorem law_turn (hr : row.length ≤ 40) (hB : Bo σ lit n bl kl sl side key) (g : GoodG lit n f) (n20 : n ≤ 20) (hM : MI n bl kl sl side) (hP : Prices σ t ps) {a : Int} (hS : Sack σ row a) (a0 : 0 ≤ a) (a1 : a < 900) {mI : Nat} {ms : List Int}
    (hm : σ[mI]? = some (.list (ms.map MV.int))) (hml : ms.length ≤ 20) (hmp : 0 < ms.length) (hown : ∀ x ∈ ms, 0 ≤ x ∧ x < n ∧ tb (bor (pv sl 0) (pv sl 1)) x.toNat = true) {spot k : Int} (s0 : 0 ≤ spot) (k0 : 0 ≤ k) (l0 : Option MV) (o4 o7 o8 o9 o10 : Option MV) :
    ∃ fl loc' σ', evSs (callF prog 9) tnB ([l0, some (.ref 1), some (.ref 55), some (.ref t), o4, some (.ref mI), some (.int spot), o7, o8, o9, o10].set 4 (some (.int k))) σ = some (fl, loc', σ') ∧
      (fl = .ret (.bool true) ∨ (fl = .next ∧ Le σ σ' ∧ ∃ p7 p8 p9, loc' = [l0, some (.ref 1), some (.ref 55), some (.ref t), some (.int k), some (.ref mI), some (.int spot), p7, p8, p9, o10])) := by
  refine hide fun X back => ?_
  have hlen : lenV σ (.ref mI) = some (ms.length : Int) := by simp [lenV, hm, show ms.length ≤ 1000 by omega]
  obtain ⟨o, homem, hget⟩ := list_get hm (by omega) (k := (spot + k).fmod (ms.length : Int)) (Int.fmod_nonneg_of_pos _ (by omega)) (Int.fmod_lt_of_pos _ (by omega))
  obtain ⟨o0, o1, ho⟩ := hown o homem
  obtain ⟨gs, h47, hgs, hg20⟩ := r47 hB g n20 hM o0 o1
  obtain ⟨σ1, e1⟩ : ∃ z : Hp, z = σ ++ [MObj.list (gs.map MV.int)] := ⟨_, rfl⟩
  rw [← e1] at h47
  have l1 : Le σ σ1 := e1 ▸ Le.app
  have g1 : σ1[σ.length]? = some (.list (gs.map MV.int)) := by rw [e1]; simp
  obtain ⟨σ2, e2⟩ : ∃ z : Hp, z = σ1 ++ [MObj.list []] := ⟨_, rfl⟩
  have l2 : Le σ σ2 := l1.trans (e2 ▸ Le.app)
  have g2 : σ2[σ.length]? = some (.list (gs.map MV.int)) := by rw [e2]; exact Le.app _ _ g1
  have hall : (gs.map MV.int).all isInt = true := by rw [List.all_map]; simp [isInt]
  have hne : ∀ r, evE (callF prog 9) (l0 :: some (.ref 1) :: some (.ref 55) :: some (.ref t) :: some (.int k) :: some (.ref mI) :: some (.int spot) :: some (.int o) :: some (.ref σ.length) :: r) (.neNil (.loc 8)) σ1 = some (.bool (gs.map MV.int != []), σ2) := by
    intro r
    rw [qa29]
    simp only [↓la0, ↓la1, ↓la2, ↓la3, ↓la4, ↓la5, ↓la6, ↓la7, ↓la8, ↓la9, ↓la10, ↓la11, ↓la12, ↓la13, qa1, qa2, qa3, qa4, qa5, qa6, qa7, qa8, qa9, qa10, qa11, qa12, qa13, qa14, qa15, qa16, qa17, qa18, qa19, qa20, qa21, qa22, qa23, qa24, qa25, qa26, qa27, qa28, qa29, List.getElem?_cons_succ, List.getElem?_cons_zero, Option.join_some, Option.map_some, Option.bind_some, g1, hall, if_true]
    rw [e2]
  have pre : ∀ r, evSs (callF prog 9) (.cons (.set 7 (.idx (.loc 5) (.bin .Mod (.bin .Add (.loc 6) (.loc 4)) (.len (.loc 5))))) (.cons (.set 8 (.call 47 (.cons (.loc 2) (.cons (.loc 7) .nil)))) r))
      ([l0, some (.ref 1), some (.ref 55), some (.ref t), o4, some (.ref mI), some (.int spot), o7, o8, o9, o10].set 4 (some (.int k))) σ = evSs (callF prog 9) r [l0, some (.ref 1), some (.ref 55), some (.ref t), some (.int k), some (.ref mI), some (.int spot), some (.int o), some (.ref σ.length), o9, o10] σ1 := by
    intro r
    rw [ss_n (loc' := [l0, some (.ref 1), some (.ref 55), some (.ref t), some (.int k), some (.ref mI), some (.int spot), some (.int o), o8, o9, o10]) (σ' := σ) (by
      simp [qc1, qc2, qc3, qc4, qc5, qc6, qc7, qc8, qc9, qc10, qc11, qc12, qc13, qc14, qc15, qc16, qc17, qc18, ↓la0, ↓la1, ↓la2, ↓la3, ↓la4, ↓la5, ↓la6, ↓la7, ↓la8, ↓la9, ↓la10, ↓la11, ↓la12, ↓la13, qa1, qa2, qa3, qa4, qa5, qa6, qa7, qa8, qa9, qa10, qa11, qa12, qa13, qa14, qa15, qa16, qa17, qa18, qa19, qa20, qa21, qa22, qa23, qa24, qa25, qa26, qa27, qa28, qa29, bv_int, b_add, hlen, b_mod _ (show (ms.length : Int) ≠ 0 by omega), hget])]
    rw [ss_n (loc' := [l0, some (.ref 1), some (.ref 55), some (.ref t), some (.int k), some (.ref mI), some (.int spot), some (.int o), some (.ref σ.length), o9, o10]) (σ' := σ1) (by
      simp [qc1, qc2, qc3, qc4, qc5, qc6, qc7, qc8, qc9, qc10, qc11, qc12, qc13, qc14, qc15, qc16, qc17, qc18, ↓la0, ↓la1, ↓la2, ↓la3, ↓la4, ↓la5, ↓la6, ↓la7, ↓la8, ↓la9, ↓la10, ↓la11, ↓la12, ↓la13, qa1, qa2, qa3, qa4, qa5, qa6, qa7, qa8, qa9, qa10, qa11, qa12, qa13, qa14, qa15, qa16, qa17, qa18, qa19, qa20, qa21, qa22, qa23, qa24, qa25, qa26, qa27, qa28, qa29, qb1, qb2, h47])]
  by_cases hz : gs = []
  · refine back ?_
    unfold tnB
    rw [pre]
    refine ⟨_, _, _, ?_, .inr ⟨rfl, l2, some (.int o), some (.ref σ.length), o9, rfl⟩⟩
    rw [ss_n (loc' := [l0, some (.ref 1), some (.ref 55), some (.ref t), some (.int k), some (.ref mI), some (.int spot), some (.int o), some (.ref σ.length), o9, o10]) (σ' := σ2) (by
      rw [qc10, hne]
      simp [tr, hz, qd1, qd2])]
    exact ss_nil
  · have hgp : 0 < gs.length := List.length_pos_iff.mpr hz
    have hgl : gs.length ≤ 1000 := by omega
    obtain ⟨v1, σ3, h3, b0, b1, S3, K3, L3⟩ := r44 (m := 8) (hS.le l2) hr a0 (by omega) (many := 8) (by decide)
    have g3 := K3 _ _ g2 rfl
    have hlen3 : lenV σ3 (.ref σ.length) = some (gs.length : Int) := by simp [lenV, g3, hgl]
    obtain ⟨gl, hglm, hgetl⟩ := list_get g3 hgl (k := v1.fmod (gs.length : Int)) (Int.fmod_nonneg_of_pos _ (by omega)) (Int.fmod_lt_of_pos _ (by omega))
    obtain ⟨q0, q1⟩ := hgs gl hglm
    obtain ⟨v2, σ4, h4, c0, c1, S4, K4, L4⟩ := r44 (m := 8) S3 hr (by omega) (by omega) (many := 3) (by decide)
    have K := (l2.keep.trans K3).trans K4
    have B4 := hB.keep K
    have P4 : Prices σ4 t ps := ⟨K _ _ hP.at_ rfl, hP.len, hP.rng⟩
    obtain ⟨σ5, h5, l5⟩ := r48 (n := 2) (B4.geo g) (B4.posn (f := f) n20) (g.sane _ _ _ _) hM.men (o := o.toNat) (g := gl.toNat) (by show o.toNat < n; omega) (by show gl.toNat < n; omega) ho P4 (st := 2 + v2) (by omega) (by omega)
    rw [Int.toNat_of_nonneg o0, Int.toNat_of_nonneg q0] at h5
    refine back ?_
    unfold tnB
    rw [pre]
    refine ⟨_, _, _, ss_r (v := .bool true) (loc' := [l0, some (.ref 1), some (.ref 55), some (.ref t), some (.int k), some (.ref mI), some (.int spot), some (.int o), some (.ref σ.length), some (.int gl), o10]) (σ' := σ5) ?_, .inl rfl⟩
    rw [qc10, hne]
    have htr : (gs.map MV.int != []) = true := by simp [hz]
    simp only [Option.bind_some, tr, htr, if_true]
    rw [ss_n (loc' := [l0, some (.ref 1), some (.ref 55), some (.ref t), some (.int k), some (.ref mI), some (.int spot), some (.int o), some (.ref σ.length), some (.int gl), o10]) (σ' := σ3) (by
      simp [qc1, qc2, qc3, qc4, qc5, qc6, qc7, qc8, qc9, qc10, qc11, qc12, qc13, qc14, qc15, qc16, qc17, qc18, ↓la0, ↓la1, ↓la2, ↓la3, ↓la4, ↓la5, ↓la6, ↓la7, ↓la8, ↓la9, ↓la10, ↓la11, ↓la12, ↓la13, qa1, qa2, qa3, qa4, qa5, qa6, qa7, qa8, qa9, qa10, qa11, qa12, qa13, qa14, qa15, qa16, qa17, qa18, qa19, qa20, qa21, qa22, qa23, qa24, qa25, qa26, qa27, qa28, qa29, qb1, qb2, h3, hlen3, bv_int, b_mod _ (show (gs.length : Int) ≠ 0 by omega), hgetl])]
    apply ss_r
    rw [qc15, call_e (by decide) (es5 (x := .ref 55) (y := .int o) (z := .int gl) (u := .ref t) (w := .int (2 + v2)) (σ1 := σ3) (σ2 := σ3) (σ3 := σ3) (σ4 := σ3) (σ5 := σ4) (by simp [↓la0, ↓la1, ↓la2, ↓la3, ↓la4, ↓la5, ↓la6, ↓la7, ↓la8, ↓la9, ↓la10, ↓la11, ↓la12, ↓la13, qa1, qa2, qa3, qa4, qa5, qa6, qa7, qa8, qa9, qa10, qa11, qa12, qa13, qa14, qa15, qa16, qa17, qa18, qa19, qa20, qa21, qa22, qa23, qa24, qa25, qa26, qa27, qa28, qa29]) (by simp [↓la0, ↓la1, ↓la2, ↓la3, ↓la4, ↓la5, ↓la6, ↓la7, ↓la8, ↓la9, ↓la10, ↓la11, ↓la12, ↓la13, qa1, qa2, qa3, qa4, qa5, qa6, qa7, qa8, qa9, qa10, qa11, qa12, qa13, qa14, qa15, qa16, qa17, qa18, qa19, qa20, qa21, qa22, qa23, qa24, qa25, qa26, qa27, qa28, qa29]) (by simp [↓la0, ↓la1, ↓la2, ↓la3, ↓la4, ↓la5, ↓la6, ↓la7, ↓la8, ↓la9, ↓la10, ↓la11, ↓la12, ↓la13, qa1, qa2, qa3, qa4, qa5, qa6, qa7, qa8, qa9, qa10, qa11, qa12, qa13, qa14, qa15, qa16, qa17, qa18, qa19, qa20, qa21, qa22, qa23, qa24, qa25, qa26, qa27, qa28, qa29]) (by simp [↓la0, ↓la1, ↓la2, ↓la3, ↓la4, ↓la5, ↓la6, ↓la7, ↓la8, ↓la9, ↓la10, ↓la11, ↓la12, ↓la13, qa1, qa2, qa3, qa4, qa5, qa6, qa7, qa8, qa9, qa10, qa11, qa12, qa13, qa14, qa15, qa16, qa17, qa18, qa19, qa20, qa21, qa22, qa23, qa24, qa25, qa26, qa27, qa28, qa29]) (by simp [↓la0, ↓la1, ↓la2, ↓la3, ↓la4, ↓la5, ↓la6, ↓la7, ↓la8, ↓la9, ↓la10, ↓la11, ↓la12, ↓la13, qa1, qa2, qa3, qa4, qa5, qa6, qa7, qa8, qa9, qa10, qa11, qa12, qa13, qa14, qa15, qa16, qa17, qa18, qa19, qa20, qa21, qa22, qa23, qa24, qa25, qa26, qa27, qa28, qa29, qb1, qb2, h4, bv_int, b_add])) h5]
    rfl
end
end Mine.Law

/-! ## P19 -/
namespace Mine.Law
open PySem PyProof.Rows
section
variable {row : List Int} {lit : Hp} {n t : Nat} {bl kl sl ps : List Int} {side key f : Int}
theorem law_loop (hr : row.length ≤ 40) (g : GoodG lit n f) (n20 : n ≤ 20) (hM : MI n bl kl sl side) {a : Int} (a0 : 0 ≤ a) (a1 : a < 900) {mI : Nat} {ms : List Int}
    (hml : ms.length ≤ 20) (hmp : 0 < ms.length) (hown : ∀ x ∈ ms, 0 ≤ x ∧ x < n ∧ tb (bor (pv sl 0) (pv sl 1)) x.toNat = true) {spot : Int} (s0 : 0 ≤ spot) (l0 o10 : Option MV) :
    ∀ (ks : List Int) (σ : Hp) (o4 o7 o8 o9 : Option MV), (∀ k ∈ ks, 0 ≤ k) → Bo σ lit n bl kl sl side key → Sack σ row a → Prices σ t ps → σ[mI]? = some (.list (ms.map MV.int)) →
    ∃ fl loc' σ', forN 4 (evSs (callF prog 9) tnB) (ks.map MV.int) [l0, some (.ref 1), some (.ref 55), some (.ref t), o4, some (.ref mI), some (.int spot), o7, o8, o9, o10] σ = some (fl, loc', σ') ∧
      (fl = .ret (.bool true) ∨ (fl = .next ∧ Le σ σ' ∧ ∃ p4 p7 p8 p9, loc' = [l0, some (.ref 1), some (.ref 55), some (.ref t), p4, some (.ref mI), some (.int spot), p7, p8, p9, o10]))
  | [], σ, o4, o7, o8, o9, _, hB, hS, hP, hm => ⟨_, _, _, rfl, .inr ⟨rfl, Le.refl, o4, o7, o8, o9, rfl⟩⟩
  | k :: ks, σ, o4, o7, o8, o9, hk, hB, hS, hP, hm => by
    obtain ⟨fl, loc', σ1, h1, hres⟩ := law_turn (f := f) hr hB g n20 hM hP hS a0 a1 hm hml hmp hown s0 (hk k (.head _)) l0 o4 o7 o8 o9 o10
    rcases hres with rfl | ⟨rfl, l1, p7, p8, p9, rfl⟩
    · exact ⟨_, _, _, by rw [List.map_cons, for_cons_r h1], .inl rfl⟩
    · obtain ⟨fl2, loc2, σ2, h2, hres2⟩ := law_loop hr g n20 hM a0 a1 hml hmp hown s0 l0 o10 ks σ1 (some (.int k)) p7 p8 p9 (fun q hq => hk q (.tail _ hq)) (hB.keep l1.keep) (hS.le l1) ⟨l1 _ _ hP.at_, hP.len, hP.rng⟩ (l1 _ _ hm)
      refine ⟨fl2, loc2, σ2, by rw [List.map_cons, for_cons_n h1, h2], ?_⟩
      rcases hres2 with rfl | ⟨rfl, l2, p4, q7, q8, q9, rfl⟩
      · exact .inl rfl
      · exact .inr ⟨rfl, l1.trans l2, p4, q7, q8, q9, rfl⟩
end

theorem law_mini (row : List Int) (hr : row.length ≤ 40) : ∃ loc σ, evSs (callF prog 9) FLaw.body (none :: some (.ref 1) :: List.replicate 9 none) [.list (row.map MV.int), .dict [(26, .ref 0), (27, .int 0)]] = some (.ret (.bool true), loc, σ) := by
  refine hide fun X back => ?_
  obtain ⟨σ1, lit, n, f, bl, kl, sl, side, key, h1, g, n20, n12, B1, S1, M1, L1⟩ := r45 hr
  -- the prices
  obtain ⟨σ2, e2⟩ : ∃ z : Hp, z = σ1 ++ [MObj.list [.int 0]] := ⟨_, rfl⟩
  have l12 : Le σ1 σ2 := e2 ▸ Le.app
  have hx2 : σ2[62]? = some (.list (([0] : List Int).map MV.int)) := by rw [e2, ← L1]; simp
  obtain ⟨o3, σ3, ys, h3, B3, S3, hx3, hyl, hyr, L3⟩ := price_loop hr g.len (t := 62) (by decide) none (some (.ref 55)) none none none none none none (rangeUp 0 6) σ2 5 [0] none (B1.keep l12.keep) (S1.le l12) (by decide) (by decide) hx2 (by decide)
  have P3 : Prices σ3 62 ([0] ++ ys) := ⟨hx3, by rw [List.length_append, hyl]; rfl, fun p hp => by
    rcases List.mem_append.mp hp with hp | hp
    · rw [List.mem_singleton] at hp; omega
    · exact hyr p hp⟩
  have S3 : Sack σ3 row 11 := S3
  -- the men
  obtain ⟨σ4, a4, h4, ⟨bl', kl', sl', key', B4, S4, M4, P4⟩, a40, a41⟩ := r46 (f := f) hr g n20 n12 (t := 62) (by decide) ⟨bl, kl, sl, key, B3, S3, M1, P3⟩ (by decide) (by decide)
  have hside := M4.side
  have H4 := B4.posn (f := f) n20
  have G4 := B4.geo g
  have hsd0 : Bn n (pv sl' side) := M4.mb.sd side
  have cset : ∀ (σ : Hp) (loc : Loc), Le σ4 σ → loc[1]? = some (some (.ref 1)) → loc[2]? = some (some (.ref 55)) → ∀ v : Int, evE (callF prog 9) loc (.compR (.attr (.attr (.loc 2) 14) 2) 2 (.cmp .Eq (.bin .BitAnd (.bin .RShift (.idx (.attr (.loc 1) 18) (.attr (.loc 1) 19)) (.loc 0)) (.int 1)) (.int v))) σ =
      some (.ref σ.length, σ ++ [.list ((menL n (pv sl' side) v).map MV.int)]) := by
    intro σ loc hl hl1 hl2 v
    have H := (H4.keep hl.keep)
    have G := ((G4 : Geo σ4 (bOf lit n f bl' kl' sl' side)).keep hl.keep)
    have hgeo : getA σ (.ref 55) 14 = some (.ref 3) := H.geo
    have hsz : getA σ (.ref 3) 2 = some (.int n) := G.size
    have hsides : getA σ (.ref 55) 18 = some (.ref 60) := H.sides
    have hsd : getA σ (.ref 55) 19 = some (.int side) := H.side
    have hs1 : getI σ (.ref 60) (.int side) = some (.int (pv sl' side)) := H.sd side (by omega) (by omega)
    exact compR_ev (by simp [↓la0, ↓la1, ↓la2, ↓la3, ↓la4, ↓la5, ↓la6, ↓la7, ↓la8, ↓la9, ↓la10, ↓la11, ↓la12, ↓la13, qa1, qa2, qa3, qa4, qa5, qa6, qa7, qa8, qa9, qa10, qa11, qa12, qa13, qa14, qa15, qa16, qa17, qa18, qa19, qa20, qa21, qa22, qa23, qa24, qa25, qa26, qa27, qa28, qa29, hl2, hgeo, hsz]) (by omega) (fun s h0 h1 => by simp [↓la0, ↓la1, ↓la2, ↓la3, ↓la4, ↓la5, ↓la6, ↓la7, ↓la8, ↓la9, ↓la10, ↓la11, ↓la12, ↓la13, qa1, qa2, qa3, qa4, qa5, qa6, qa7, qa8, qa9, qa10, qa11, qa12, qa13, qa14, qa15, qa16, qa17, qa18, qa19, qa20, qa21, qa22, qa23, qa24, qa25, qa26, qa27, qa28, qa29, hl2, hsides, hsd, hs1, bv_int, b_shr _ h0, b_and, cmpV, cmpI, tr])
  obtain ⟨ms, ems⟩ : ∃ x, x = menL n (pv sl' side) 1 := ⟨_, rfl⟩
  have c1 := cset σ4 [none, some (.ref 1), some (.ref 55), some (.ref 62), o3, none, none, none, none, none, none] Le.refl rfl rfl 1
  rw [← ems] at c1
  obtain ⟨σ5, e5⟩ : ∃ z : Hp, z = σ4 ++ [MObj.list (ms.map MV.int)] := ⟨_, rfl⟩
  rw [← e5] at c1
  have l45 : Le σ4 σ5 := e5 ▸ Le.app
  have hm5 : σ5[σ4.length]? = some (.list (ms.map MV.int)) := by rw [e5]; simp
  obtain ⟨spot, σ6, h6, s0, s1, S6, K6, L6⟩ := r44 (m := 8) (S4.le l45) hr a40 (by omega) (many := 8) (by decide)
  have hm6 := K6 _ _ hm5 rfl
  have K46 := l45.keep.trans K6
  have hmlen : ms.length ≤ 20 := by rw [ems]; exact Nat.le_trans (menL_len _ _ _) n20
  have hw : ∃ i, i < n ∧ tb (pv sl' side) i = true := by
    rcases hside with e | e
    · obtain ⟨i, q, w, _⟩ := M4.w0; exact ⟨i, q, by rw [e]; exact w⟩
    · obtain ⟨i, q, w, _⟩ := M4.w1; exact ⟨i, q, by rw [e]; exact w⟩
  have hv : ∃ i, i < n ∧ tb (pv sl' side) i = false := by
    rcases hside with e | e
    · obtain ⟨i, q, _, w⟩ := M4.w1; exact ⟨i, q, by rw [e]; exact w⟩
    · obtain ⟨i, q, _, w⟩ := M4.w0; exact ⟨i, q, by rw [e]; exact w⟩
  have hmne : ms ≠ [] := by
    obtain ⟨i, q, w⟩ := hw
    rw [ems]
    exact menL_ne q (by rw [bit_one hsd0.1]; simp [w])
  have hmp : 0 < ms.length := List.length_pos_iff.mpr hmne
  have hown : ∀ x ∈ ms, 0 ≤ x ∧ x < n ∧ tb (bor (pv sl' 0) (pv sl' 1)) x.toNat = true := by
    intro x hx
    rw [ems] at hx
    obtain ⟨x0, x1, hb⟩ := menL_mem hx
    refine ⟨x0, x1, ?_⟩
    rw [bit_one hsd0.1] at hb
    have : tb (pv sl' side) x.toNat = true := by
      split at hb
      · assumption
      · cases hb
    rw [tb_or (M4.mb.sd 0).1 (M4.mb.sd 1).1]
    rcases hside with e | e <;> rw [e] at this <;> simp [this]
  have B6 := B4.keep K46
  have P6 : Prices σ6 62 ([0] ++ ys) := ⟨K46 _ _ P4.at_ rfl, P4.len, P4.rng⟩
  obtain ⟨fl, loc', σ7, h7, hres⟩ := law_loop (f := f) hr g n20 M4 (a := a4 + 1) (by omega) (by omega) hmlen hmp hown s0 none none (upI 0 ms.length) σ6 o3 none none none (fun k hk => (mem_upI.mp hk).1) B6 S6 P6 hm6
  have hlen6 : lenV σ6 (.ref σ4.length) = some (ms.length : Int) := by simp [lenV, hm6, show ms.length ≤ 1000 by omega]
  have hfor : evS (callF prog 9) (.forR1 4 (.len (.loc 5)) tnB) [none, some (.ref 1), some (.ref 55), some (.ref 62), o3, some (.ref σ4.length), some (.int spot), none, none, none, none] σ6 = some (fl, loc', σ7) := by
    rw [qc12]
    simp only [↓la0, ↓la1, ↓la2, ↓la3, ↓la4, ↓la5, ↓la6, ↓la7, ↓la8, ↓la9, ↓la10, ↓la11, ↓la12, ↓la13, qa1, qa2, qa3, qa4, qa5, qa6, qa7, qa8, qa9, qa10, qa11, qa12, qa13, qa14, qa15, qa16, qa17, qa18, qa19, qa20, qa21, qa22, qa23, qa24, qa25, qa26, qa27, qa28, qa29, List.getElem?_cons_succ, List.getElem?_cons_zero, Option.join_some, Option.map_some, Option.bind_some, hlen6]
    rw [if_pos ⟨Int.natCast_nonneg _, by omega⟩, Int.toNat_natCast, rangeUp_eq]
    exact h7
  have hpr : evS (callF prog 9) (.forR1 4 (.int 6) prB) [none, some (.ref 1), some (.ref 55), some (.ref 62), none, none, none, none, none, none, none] σ2 = some (.next, [none, some (.ref 1), some (.ref 55), some (.ref 62), o3, none, none, none, none, none, none], σ3) := h3
  have e62 : σ1.length = 62 := L1
  unfold tnB at hfor
  unfold prB at hpr
  refine back ?_
  unfold FLaw
  show ∃ loc σ, evSs (callF prog 9) _ [none, some (.ref 1), none, none, none, none, none, none, none, none, none] _ = some (.ret (.bool true), loc, σ)
  rw [ss_n (loc' := [none, some (.ref 1), some (.ref 55), none, none, none, none, none, none, none, none]) (σ' := σ1) (by simp [qc1, qc2, qc3, qc4, qc5, qc6, qc7, qc8, qc9, qc10, qc11, qc12, qc13, qc14, qc15, qc16, qc17, qc18, ↓la0, ↓la1, ↓la2, ↓la3, ↓la4, ↓la5, ↓la6, ↓la7, ↓la8, ↓la9, ↓la10, ↓la11, ↓la12, ↓la13, qa1, qa2, qa3, qa4, qa5, qa6, qa7, qa8, qa9, qa10, qa11, qa12, qa13, qa14, qa15, qa16, qa17, qa18, qa19, qa20, qa21, qa22, qa23, qa24, qa25, qa26, qa27, qa28, qa29, qb1, qb2, h1])]
  rw [ss_n (loc' := [none, some (.ref 1), some (.ref 55), some (.ref 62), none, none, none, none, none, none, none]) (σ' := σ2) (by simp [qc1, qc2, qc3, qc4, qc5, qc6, qc7, qc8, qc9, qc10, qc11, qc12, qc13, qc14, qc15, qc16, qc17, qc18, ↓la0, ↓la1, ↓la2, ↓la3, ↓la4, ↓la5, ↓la6, ↓la7, ↓la8, ↓la9, ↓la10, ↓la11, ↓la12, ↓la13, qa1, qa2, qa3, qa4, qa5, qa6, qa7, qa8, qa9, qa10, qa11, qa12, qa13, qa14, qa15, qa16, qa17, qa18, qa19, qa20, qa21, qa22, qa23, qa24, qa25, qa26, qa27, qa28, qa29, qb1, qb2, e2, e62])]
  rw [ss_n hpr]
  rw [ss_n (loc' := [none, some (.ref 1), some (.ref 55), some (.ref 62), o3, none, none, none, none, none, none]) (σ' := σ4) (by simp [qc1, qc2, qc3, qc4, qc5, qc6, qc7, qc8, qc9, qc10, qc11, qc12, qc13, qc14, qc15, qc16, qc17, qc18, ↓la0, ↓la1, ↓la2, ↓la3, ↓la4, ↓la5, ↓la6, ↓la7, ↓la8, ↓la9, ↓la10, ↓la11, ↓la12, ↓la13, qa1, qa2, qa3, qa4, qa5, qa6, qa7, qa8, qa9, qa10, qa11, qa12, qa13, qa14, qa15, qa16, qa17, qa18, qa19, qa20, qa21, qa22, qa23, qa24, qa25, qa26, qa27, qa28, qa29, qb1, qb2, h4])]
  rw [ss_n (loc' := [none, some (.ref 1), some (.ref 55), some (.ref 62), o3, some (.ref σ4.length), none, none, none, none, none]) (σ' := σ5) (by rw [qc1, c1]; simp)]
  rw [ss_n (loc' := [none, some (.ref 1), some (.ref 55), some (.ref 62), o3, some (.ref σ4.length), some (.int spot), none, none, none, none]) (σ' := σ6) (by simp [qc1, qc2, qc3, qc4, qc5, qc6, qc7, qc8, qc9, qc10, qc11, qc12, qc13, qc14, qc15, qc16, qc17, qc18, ↓la0, ↓la1, ↓la2, ↓la3, ↓la4, ↓la5, ↓la6, ↓la7, ↓la8, ↓la9, ↓la10, ↓la11, ↓la12, ↓la13, qa1, qa2, qa3, qa4, qa5, qa6, qa7, qa8, qa9, qa10, qa11, qa12, qa13, qa14, qa15, qa16, qa17, qa18, qa19, qa20, qa21, qa22, qa23, qa24, qa25, qa26, qa27, qa28, qa29, qb1, qb2, h6])]
  rcases hres with rfl | ⟨rfl, l7, p4, p7, p8, p9, rfl⟩
  · exact ⟨_, _, ss_r hfor⟩
  · rw [ss_n hfor]
    -- nobody can move: the first man, the first free square
    obtain ⟨fs, efs⟩ : ∃ x, x = menL n (pv sl' side) 0 := ⟨_, rfl⟩
    have K47 := K46.trans l7.keep
    have H7 := H4.keep K47
    have G7 := (G4 : Geo σ4 (bOf lit n f bl' kl' sl' side)).keep K47
    have hgeo : getA σ7 (.ref 55) 14 = some (.ref 3) := H7.geo
    have hsz : getA σ7 (.ref 3) 2 = some (.int n) := G7.size
    have hsides : getA σ7 (.ref 55) 18 = some (.ref 60) := H7.sides
    have hsd : getA σ7 (.ref 55) 19 = some (.int side) := H7.side
    have hs1 : getI σ7 (.ref 60) (.int side) = some (.int (pv sl' side)) := H7.sd side (by omega) (by omega)
    have c0 : evE (callF prog 9) [none, some (.ref 1), some (.ref 55), some (.ref 62), p4, some (.ref σ4.length), some (.int spot), p7, p8, p9, none] (.compR (.attr (.attr (.loc 2) 14) 2) 2 (.cmp .Eq (.bin .BitAnd (.bin .RShift (.idx (.attr (.loc 1) 18) (.attr (.loc 1) 19)) (.loc 0)) (.int 1)) (.int 0))) σ7 =
        some (.ref σ7.length, σ7 ++ [.list (fs.map MV.int)]) := by
      rw [efs]
      exact compR_ev (by simp [↓la0, ↓la1, ↓la2, ↓la3, ↓la4, ↓la5, ↓la6, ↓la7, ↓la8, ↓la9, ↓la10, ↓la11, ↓la12, ↓la13, qa1, qa2, qa3, qa4, qa5, qa6, qa7, qa8, qa9, qa10, qa11, qa12, qa13, qa14, qa15, qa16, qa17, qa18, qa19, qa20, qa21, qa22, qa23, qa24, qa25, qa26, qa27, qa28, qa29, hgeo, hsz]) (by omega) (fun s h0 h1 => by simp [↓la0, ↓la1, ↓la2, ↓la3, ↓la4, ↓la5, ↓la6, ↓la7, ↓la8, ↓la9, ↓la10, ↓la11, ↓la12, ↓la13, qa1, qa2, qa3, qa4, qa5, qa6, qa7, qa8, qa9, qa10, qa11, qa12, qa13, qa14, qa15, qa16, qa17, qa18, qa19, qa20, qa21, qa22, qa23, qa24, qa25, qa26, qa27, qa28, qa29, hsides, hsd, hs1, bv_int, b_shr _ h0, b_and, cmpV, cmpI, tr])
    obtain ⟨σ8, e8⟩ : ∃ z : Hp, z = σ7 ++ [MObj.list (fs.map MV.int)] := ⟨_, rfl⟩
    rw [← e8] at c0
    have l78 : Le σ7 σ8 := e8 ▸ Le.app
    have hf8 : σ8[σ7.length]? = some (.list (fs.map MV.int)) := by rw [e8]; simp
    have hm8 : σ8[σ4.length]? = some (.list (ms.map MV.int)) := l78 _ _ (l7 _ _ hm6)
    have hfne : fs ≠ [] := by
      obtain ⟨i, q, w⟩ := hv
      rw [efs]
      exact menL_ne q (by rw [bit_one hsd0.1]; simp [w])
    have hfp : 0 < fs.length := List.length_pos_iff.mpr hfne
    have hfl : fs.length ≤ 20 := by rw [efs]; exact Nat.le_trans (menL_len _ _ _) n20
    obtain ⟨o, hom, hgo⟩ := list_get hm8 (by omega) (k := 0) (by decide) (by omega)
    obtain ⟨q, hqm, hgq⟩ := list_get hf8 (by omega) (k := 0) (by decide) (by omega)
    obtain ⟨o0, o1, ho⟩ := hown o hom
    have hq := menL_mem (efs ▸ hqm)
    have K48 := K47.trans l78.keep
    have B8 := B4.keep K48
    have P8 : Prices σ8 62 ([0] ++ ys) := ⟨K48 _ _ P4.at_ rfl, P4.len, P4.rng⟩
    obtain ⟨σ9, h9, l9⟩ := r48 (n := 2) (B8.geo g) (B8.posn (f := f) n20) (g.sane _ _ _ _) M4.men (o := o.toNat) (g := q.toNat) (by show o.toNat < n; omega) (by show q.toNat < n; omega) ho P8 (st := 2) (by decide) (by decide)
    rw [Int.toNat_of_nonneg o0, Int.toNat_of_nonneg hq.1] at h9
    rw [ss_n (loc' := [none, some (.ref 1), some (.ref 55), some (.ref 62), p4, some (.ref σ4.length), some (.int spot), p7, p8, p9, some (.ref σ7.length)]) (σ' := σ8) (by rw [qc1, c0]; simp)]
    refine ⟨[none, some (.ref 1), some (.ref 55), some (.ref 62), p4, some (.ref σ4.length), some (.int spot), p7, p8, p9, some (.ref σ7.length)], σ9, ss_r ?_⟩
    rw [qc15, call_e (by decide) (es5 (x := .ref 55) (y := .int o) (z := .int q) (u := .ref 62) (w := .int 2) (σ1 := σ8) (σ2 := σ8) (σ3 := σ8) (σ4 := σ8) (σ5 := σ8) (by simp [↓la0, ↓la1, ↓la2, ↓la3, ↓la4, ↓la5, ↓la6, ↓la7, ↓la8, ↓la9, ↓la10, ↓la11, ↓la12, ↓la13, qa1, qa2, qa3, qa4, qa5, qa6, qa7, qa8, qa9, qa10, qa11, qa12, qa13, qa14, qa15, qa16, qa17, qa18, qa19, qa20, qa21, qa22, qa23, qa24, qa25, qa26, qa27, qa28, qa29]) (by simp [↓la0, ↓la1, ↓la2, ↓la3, ↓la4, ↓la5, ↓la6, ↓la7, ↓la8, ↓la9, ↓la10, ↓la11, ↓la12, ↓la13, qa1, qa2, qa3, qa4, qa5, qa6, qa7, qa8, qa9, qa10, qa11, qa12, qa13, qa14, qa15, qa16, qa17, qa18, qa19, qa20, qa21, qa22, qa23, qa24, qa25, qa26, qa27, qa28, qa29, hgo]) (by simp [↓la0, ↓la1, ↓la2, ↓la3, ↓la4, ↓la5, ↓la6, ↓la7, ↓la8, ↓la9, ↓la10, ↓la11, ↓la12, ↓la13, qa1, qa2, qa3, qa4, qa5, qa6, qa7, qa8, qa9, qa10, qa11, qa12, qa13, qa14, qa15, qa16, qa17, qa18, qa19, qa20, qa21, qa22, qa23, qa24, qa25, qa26, qa27, qa28, qa29, hgq]) (by simp [↓la0, ↓la1, ↓la2, ↓la3, ↓la4, ↓la5, ↓la6, ↓la7, ↓la8, ↓la9, ↓la10, ↓la11, ↓la12, ↓la13, qa1, qa2, qa3, qa4, qa5, qa6, qa7, qa8, qa9, qa10, qa11, qa12, qa13, qa14, qa15, qa16, qa17, qa18, qa19, qa20, qa21, qa22, qa23, qa24, qa25, qa26, qa27, qa28, qa29]) (by simp [↓la0, ↓la1, ↓la2, ↓la3, ↓la4, ↓la5, ↓la6, ↓la7, ↓la8, ↓la9, ↓la10, ↓la11, ↓la12, ↓la13, qa1, qa2, qa3, qa4, qa5, qa6, qa7, qa8, qa9, qa10, qa11, qa12, qa13, qa14, qa15, qa16, qa17, qa18, qa19, qa20, qa21, qa22, qa23, qa24, qa25, qa26, qa27, qa28, qa29])) h9]
    rfl
end Mine.Law

/-! ## Top1 -/
namespace Mine.T
open PySem PySem.W PyProof.Rows
abbrev pr : Program := PySem.Challenge.pw_sa0133_01
noncomputable def stA (i : Nat) : Stmt := (pr.main.body[i]?).getD (.Pass ⟨0, 0, 0, 0⟩)
noncomputable def stB (i j : Nat) : Stmt := match stA i with
  | .ClassDef _ _ _ b _ _ _ _ _ _ _ => (b[j]?).getD (.Pass ⟨0, 0, 0, 0⟩)
  | s => s
noncomputable def fdOf (s : Stmt) (qual : Str) (gl : Addr) (df kd doc pm : Value) (an : Option Addr) (cd ct : Value) (bl : Addr) : FuncData := match s with
  | .FunctionDef nm args body _ _ _ sc _ _ _ => ⟨nm, qual, args, .stmts body, sc, gl, [], df, kd, doc, pm, an, cd, ct, bl⟩
  | _ => default
noncomputable def kv (P : Params) (x : Str) (t : Tok) (v : Value) : DictEntry := ⟨PyData.keyHash P x, .str x t, v⟩
noncomputable def lf (o : Obj) : BT := .node o .nil .nil
noncomputable def o11 : Obj := ⟨.type "tuple", none, (.seq #[] 0), #[]⟩
noncomputable def o12 : Obj := ⟨.none, none, (.fields #[]), #[]⟩
noncomputable def o13 : Obj := ⟨.type "code", none, (.fields #[.str "<module>" 182, .str "<module>" 183, .str "/claim/cut.py" 184, .int 1 0, .int 0 0, .int 0 0, .int 0 0, .int 0 0, .ref 11, .bool false, .int 181 0, .ref 12, .none, .none, .none, .none, .int 185 0, .int 1 0, .str "/claim/cut.py" 186]), #[]⟩
noncomputable def o14 : Obj := ⟨.type "frame", none, .plain, #[some (.ref 13), some (.ref 3), some (.ref 3), none, some (.str "__main__" 164), none, some (.ref 0)]⟩
noncomputable def o3 (P : Params) : Obj := ⟨.type "dict", none, (.dict #[kv P "__name__" 165 (.str "chess.bits" 269), kv P "__doc__" 166 (.none), kv P "__package__" 167 (.none), kv P "__loader__" 168 (.builtin "__main__.__loader__#opaque"), kv P "__spec__" 169 (.none), kv P "__annotations__" 170 (.ref 6), kv P "__builtins__" 171 (.ref 4), kv P "__file__" 173 (.str "/claim/cut.py" 172), kv P "__cached__" 174 (.none), kv P "WHITE" 190 (.int 0 189), kv P "BLACK" 192 (.int 1 191), kv P "PAWN" 194 (.int 1 193), kv P "KNIGHT" 196 (.int 2 195), kv P "BISHOP" 198 (.int 3 197), kv P "ROOK" 200 (.int 4 199), kv P "QUEEN" 202 (.int 5 201), kv P "KING" 204 (.int 6 203), kv P "EMPTY" 206 (.int 0 205), kv P "NORMAL" 208 (.int 0 207), kv P "PROMOTION" 210 (.int 1 209), kv P "EN_PASSANT" 212 (.int 2 211), kv P "CASTLING" 214 (.int 3 213), kv P "make_piece" 222 (.ref 21), kv P "side_of" 229 (.ref 28), kv P "kind_of" 236 (.ref 35), kv P "pack_move" 247 (.ref 42), kv P "move_from" 254 (.ref 49), kv P "move_to" 261 (.ref 56), kv P "move_special" 268 (.ref 63), kv P "more_than_one" 277 (.ref 70)] 30), #[]⟩
noncomputable def o12v1 : Obj := ⟨.none, none, (.fields #[.int 15 0, .int 0 0, .ref 20, .int 17 0, .int 0 0, .ref 27, .int 19 0, .int 0 0, .ref 34, .int 21 0, .int 0 0, .ref 41, .int 26 0, .int 0 0, .ref 48, .int 28 0, .int 0 0, .ref 55, .int 30 0, .int 0 0, .ref 62, .int 33 0, .int 0 0, .ref 69]), #[]⟩
noncomputable def o15 : Obj := ⟨.type "tuple", none, (.seq #[] 0), #[]⟩
noncomputable def o16 : Obj := ⟨.none, none, (.fields #[]), #[]⟩
noncomputable def o17 : Obj := ⟨.type "tuple", none, (.seq #[.str "side" 218, .str "kind" 219] 0), #[]⟩
noncomputable def o18 : Obj := ⟨.type "tuple", none, (.seq #[] 0), #[]⟩
noncomputable def o19 : Obj := ⟨.none, none, (.func (fdOf (stA 14) "make_piece" 0 (.none) (.none) (.none) (.none) none (.none) (.none) 0)), #[]⟩
noncomputable def o20 : Obj := ⟨.type "code", none, (.fields #[.str "make_piece" 215, .str "make_piece" 216, .str "/claim/cut.py" 217, .int 15 0, .int 2 0, .int 0 0, .int 0 0, .int 3 0, .ref 15, .bool true, .int 181 0, .ref 16, .none, .ref 17, .ref 18, .ref 19, .int 220 0, .int 15 0, .str "/claim/cut.py" 221]), #[]⟩
noncomputable def o21 : Obj := ⟨.type "function", none, (.func (fdOf (stA 14) "make_piece" 3 (.none) (.none) (.none) (.str "chess.kinds" 187) none (.ref 20) (.none) 0)), #[]⟩
noncomputable def o22 : Obj := ⟨.type "tuple", none, (.seq #[] 0), #[]⟩
noncomputable def o23 : Obj := ⟨.none, none, (.fields #[]), #[]⟩
noncomputable def o24 : Obj := ⟨.type "tuple", none, (.seq #[.str "piece" 226] 0), #[]⟩
noncomputable def o25 : Obj := ⟨.type "tuple", none, (.seq #[] 0), #[]⟩
noncomputable def o26 : Obj := ⟨.none, none, (.func (fdOf (stA 15) "side_of" 0 (.none) (.none) (.none) (.none) none (.none) (.none) 0)), #[]⟩
noncomputable def o27 : Obj := ⟨.type "code", none, (.fields #[.str "side_of" 223, .str "side_of" 224, .str "/claim/cut.py" 225, .int 17 0, .int 1 0, .int 0 0, .int 0 0, .int 3 0, .ref 22, .bool true, .int 181 0, .ref 23, .none, .ref 24, .ref 25, .ref 26, .int 227 0, .int 17 0, .str "/claim/cut.py" 228]), #[]⟩
noncomputable def o28 : Obj := ⟨.type "function", none, (.func (fdOf (stA 15) "side_of" 3 (.none) (.none) (.none) (.str "chess.kinds" 187) none (.ref 27) (.none) 0)), #[]⟩
noncomputable def o29 : Obj := ⟨.type "tuple", none, (.seq #[] 0), #[]⟩
noncomputable def o30 : Obj := ⟨.none, none, (.fields #[]), #[]⟩
noncomputable def o31 : Obj := ⟨.type "tuple", none, (.seq #[.str "piece" 233] 0), #[]⟩
noncomputable def o32 : Obj := ⟨.type "tuple", none, (.seq #[] 0), #[]⟩
noncomputable def o33 : Obj := ⟨.none, none, (.func (fdOf (stA 16) "kind_of" 0 (.none) (.none) (.none) (.none) none (.none) (.none) 0)), #[]⟩
noncomputable def o34 : Obj := ⟨.type "code", none, (.fields #[.str "kind_of" 230, .str "kind_of" 231, .str "/claim/cut.py" 232, .int 19 0, .int 1 0, .int 0 0, .int 0 0, .int 3 0, .ref 29, .bool true, .int 181 0, .ref 30, .none, .ref 31, .ref 32, .ref 33, .int 234 0, .int 19 0, .str "/claim/cut.py" 235]), #[]⟩
noncomputable def o35 : Obj := ⟨.type "function", none, (.func (fdOf (stA 16) "kind_of" 3 (.none) (.none) (.none) (.str "chess.kinds" 187) none (.ref 34) (.none) 0)), #[]⟩
noncomputable def o36 : Obj := ⟨.type "tuple", none, (.seq #[] 0), #[]⟩
noncomputable def o37 : Obj := ⟨.none, none, (.fields #[]), #[]⟩
noncomputable def o38 : Obj := ⟨.type "tuple", none, (.seq #[.str "origin" 240, .str "to" 241, .str "special" 242, .str "promo" 243, .str "field" 244] 0), #[]⟩
noncomputable def o39 : Obj := ⟨.type "tuple", none, (.seq #[] 0), #[]⟩
noncomputable def o40 : Obj := ⟨.none, none, (.func (fdOf (stA 17) "pack_move" 0 (.none) (.none) (.none) (.none) none (.none) (.none) 0)), #[]⟩
noncomputable def o41 : Obj := ⟨.type "code", none, (.fields #[.str "pack_move" 237, .str "pack_move" 238, .str "/claim/cut.py" 239, .int 21 0, .int 4 0, .int 0 0, .int 0 0, .int 3 0, .ref 36, .bool true, .int 181 0, .ref 37, .none, .ref 38, .ref 39, .ref 40, .int 245 0, .int 21 0, .str "/claim/cut.py" 246]), #[]⟩
noncomputable def o42 : Obj := ⟨.type "function", none, (.func (fdOf (stA 17) "pack_move" 3 (.none) (.none) (.none) (.str "chess.kinds" 187) none (.ref 41) (.none) 0)), #[]⟩
noncomputable def o43 : Obj := ⟨.type "tuple", none, (.seq #[] 0), #[]⟩
noncomputable def o44 : Obj := ⟨.none, none, (.fields #[]), #[]⟩
noncomputable def o45 : Obj := ⟨.type "tuple", none, (.seq #[.str "move" 251] 0), #[]⟩
noncomputable def o46 : Obj := ⟨.type "tuple", none, (.seq #[] 0), #[]⟩
noncomputable def o47 : Obj := ⟨.none, none, (.func (fdOf (stA 18) "move_from" 0 (.none) (.none) (.none) (.none) none (.none) (.none) 0)), #[]⟩
noncomputable def o48 : Obj := ⟨.type "code", none, (.fields #[.str "move_from" 248, .str "move_from" 249, .str "/claim/cut.py" 250, .int 26 0, .int 1 0, .int 0 0, .int 0 0, .int 3 0, .ref 43, .bool true, .int 181 0, .ref 44, .none, .ref 45, .ref 46, .ref 47, .int 252 0, .int 26 0, .str "/claim/cut.py" 253]), #[]⟩
noncomputable def o49 : Obj := ⟨.type "function", none, (.func (fdOf (stA 18) "move_from" 3 (.none) (.none) (.none) (.str "chess.kinds" 187) none (.ref 48) (.none) 0)), #[]⟩
noncomputable def o50 : Obj := ⟨.type "tuple", none, (.seq #[] 0), #[]⟩
noncomputable def o51 : Obj := ⟨.none, none, (.fields #[]), #[]⟩
noncomputable def o52 : Obj := ⟨.type "tuple", none, (.seq #[.str "move" 258] 0), #[]⟩
noncomputable def o53 : Obj := ⟨.type "tuple", none, (.seq #[] 0), #[]⟩
noncomputable def o54 : Obj := ⟨.none, none, (.func (fdOf (stA 19) "move_to" 0 (.none) (.none) (.none) (.none) none (.none) (.none) 0)), #[]⟩
noncomputable def o55 : Obj := ⟨.type "code", none, (.fields #[.str "move_to" 255, .str "move_to" 256, .str "/claim/cut.py" 257, .int 28 0, .int 1 0, .int 0 0, .int 0 0, .int 3 0, .ref 50, .bool true, .int 181 0, .ref 51, .none, .ref 52, .ref 53, .ref 54, .int 259 0, .int 28 0, .str "/claim/cut.py" 260]), #[]⟩
noncomputable def o56 : Obj := ⟨.type "function", none, (.func (fdOf (stA 19) "move_to" 3 (.none) (.none) (.none) (.str "chess.kinds" 187) none (.ref 55) (.none) 0)), #[]⟩
noncomputable def o57 : Obj := ⟨.type "tuple", none, (.seq #[] 0), #[]⟩
noncomputable def o58 : Obj := ⟨.none, none, (.fields #[]), #[]⟩
noncomputable def o59 : Obj := ⟨.type "tuple", none, (.seq #[.str "move" 265] 0), #[]⟩
noncomputable def o60 : Obj := ⟨.type "tuple", none, (.seq #[] 0), #[]⟩
noncomputable def o61 : Obj := ⟨.none, none, (.func (fdOf (stA 20) "move_special" 0 (.none) (.none) (.none) (.none) none (.none) (.none) 0)), #[]⟩
noncomputable def o62 : Obj := ⟨.type "code", none, (.fields #[.str "move_special" 262, .str "move_special" 263, .str "/claim/cut.py" 264, .int 30 0, .int 1 0, .int 0 0, .int 0 0, .int 3 0, .ref 57, .bool true, .int 181 0, .ref 58, .none, .ref 59, .ref 60, .ref 61, .int 266 0, .int 30 0, .str "/claim/cut.py" 267]), #[]⟩
noncomputable def o63 : Obj := ⟨.type "function", none, (.func (fdOf (stA 20) "move_special" 3 (.none) (.none) (.none) (.str "chess.kinds" 187) none (.ref 62) (.none) 0)), #[]⟩
noncomputable def o64 : Obj := ⟨.type "tuple", none, (.seq #[] 0), #[]⟩
noncomputable def o65 : Obj := ⟨.none, none, (.fields #[]), #[]⟩
noncomputable def o66 : Obj := ⟨.type "tuple", none, (.seq #[.str "b" 274] 0), #[]⟩
noncomputable def o67 : Obj := ⟨.type "tuple", none, (.seq #[] 0), #[]⟩
noncomputable def o68 : Obj := ⟨.none, none, (.func (fdOf (stA 22) "more_than_one" 0 (.none) (.none) (.none) (.none) none (.none) (.none) 0)), #[]⟩
noncomputable def o69 : Obj := ⟨.type "code", none, (.fields #[.str "more_than_one" 271, .str "more_than_one" 272, .str "/claim/cut.py" 273, .int 33 0, .int 1 0, .int 0 0, .int 0 0, .int 3 0, .ref 64, .bool true, .int 181 0, .ref 65, .none, .ref 66, .ref 67, .ref 68, .int 275 0, .int 33 0, .str "/claim/cut.py" 276]), #[]⟩
noncomputable def o70 : Obj := ⟨.type "function", none, (.func (fdOf (stA 22) "more_than_one" 3 (.none) (.none) (.none) (.str "chess.bits" 269) none (.ref 69) (.none) 0)), #[]⟩
noncomputable def o2 (P : Params) : Obj := ⟨.none, none, (.dict #[kv P "type.__subclasses__.Exception.0" 330 (.int 108 0), kv P "type.__subclasses__.Exception.n" 331 (.int 1 0)] 2), #[]⟩
noncomputable def o3v1 (P : Params) : Obj := ⟨.type "dict", none, (.dict #[kv P "__name__" 165 (.str "chess.geometry" 334), kv P "__doc__" 166 (.none), kv P "__package__" 167 (.none), kv P "__loader__" 168 (.builtin "__main__.__loader__#opaque"), kv P "__spec__" 169 (.none), kv P "__annotations__" 170 (.ref 6), kv P "__builtins__" 171 (.ref 4), kv P "__file__" 173 (.str "/claim/cut.py" 172), kv P "__cached__" 174 (.none), kv P "WHITE" 190 (.int 0 189), kv P "BLACK" 192 (.int 1 191), kv P "PAWN" 194 (.int 1 193), kv P "KNIGHT" 196 (.int 2 195), kv P "BISHOP" 198 (.int 3 197), kv P "ROOK" 200 (.int 4 199), kv P "QUEEN" 202 (.int 5 201), kv P "KING" 204 (.int 6 203), kv P "EMPTY" 206 (.int 0 205), kv P "NORMAL" 208 (.int 0 207), kv P "PROMOTION" 210 (.int 1 209), kv P "EN_PASSANT" 212 (.int 2 211), kv P "CASTLING" 214 (.int 3 213), kv P "make_piece" 222 (.ref 21), kv P "side_of" 229 (.ref 28), kv P "kind_of" 236 (.ref 35), kv P "pack_move" 247 (.ref 42), kv P "move_from" 254 (.ref 49), kv P "move_to" 261 (.ref 56), kv P "move_special" 268 (.ref 63), kv P "more_than_one" 277 (.ref 70), kv P "highest" 286 (.ref 77), kv P "lowest" 293 (.ref 84), kv P "squares_of" 302 (.ref 91), kv P "ChessError" 333 (.ref 108), kv P "STEP_FILES" 347 (.ref 112)] 35), #[]⟩
noncomputable def o12v2 : Obj := ⟨.none, none, (.fields #[.int 15 0, .int 0 0, .ref 20, .int 17 0, .int 0 0, .ref 27, .int 19 0, .int 0 0, .ref 34, .int 21 0, .int 0 0, .ref 41, .int 26 0, .int 0 0, .ref 48, .int 28 0, .int 0 0, .ref 55, .int 30 0, .int 0 0, .ref 62, .int 33 0, .int 0 0, .ref 69, .int 35 0, .int 0 0, .ref 76, .int 48 0, .int 0 0, .ref 83, .int 50 0, .int 0 0, .ref 90, .int 63 0, .int 0 0, .ref 97]), #[]⟩
noncomputable def o71 : Obj := ⟨.type "tuple", none, (.seq #[] 0), #[]⟩
noncomputable def o72 : Obj := ⟨.none, none, (.fields #[]), #[]⟩
noncomputable def o73 : Obj := ⟨.type "tuple", none, (.seq #[.str "b" 281, .str "width" 282, .str "square" 283] 0), #[]⟩
noncomputable def o74 : Obj := ⟨.type "tuple", none, (.seq #[] 0), #[]⟩
noncomputable def o75 : Obj := ⟨.none, none, (.func (fdOf (stA 23) "highest" 0 (.none) (.none) (.none) (.none) none (.none) (.none) 0)), #[]⟩
noncomputable def o76 : Obj := ⟨.type "code", none, (.fields #[.str "highest" 278, .str "highest" 279, .str "/claim/cut.py" 280, .int 35 0, .int 1 0, .int 0 0, .int 0 0, .int 3 0, .ref 71, .bool true, .int 181 0, .ref 72, .none, .ref 73, .ref 74, .ref 75, .int 284 0, .int 35 0, .str "/claim/cut.py" 285]), #[]⟩
noncomputable def o77 : Obj := ⟨.type "function", none, (.func (fdOf (stA 23) "highest" 3 (.none) (.none) (.none) (.str "chess.bits" 269) none (.ref 76) (.none) 0)), #[]⟩
noncomputable def o78 : Obj := ⟨.type "tuple", none, (.seq #[] 0), #[]⟩
noncomputable def o79 : Obj := ⟨.none, none, (.fields #[]), #[]⟩
noncomputable def o80 : Obj := ⟨.type "tuple", none, (.seq #[.str "b" 290] 0), #[]⟩
noncomputable def o81 : Obj := ⟨.type "tuple", none, (.seq #[] 0), #[]⟩
noncomputable def o82 : Obj := ⟨.none, none, (.func (fdOf (stA 24) "lowest" 0 (.none) (.none) (.none) (.none) none (.none) (.none) 0)), #[]⟩
noncomputable def o83 : Obj := ⟨.type "code", none, (.fields #[.str "lowest" 287, .str "lowest" 288, .str "/claim/cut.py" 289, .int 48 0, .int 1 0, .int 0 0, .int 0 0, .int 3 0, .ref 78, .bool true, .int 181 0, .ref 79, .none, .ref 80, .ref 81, .ref 82, .int 291 0, .int 48 0, .str "/claim/cut.py" 292]), #[]⟩
noncomputable def o84 : Obj := ⟨.type "function", none, (.func (fdOf (stA 24) "lowest" 3 (.none) (.none) (.none) (.str "chess.bits" 269) none (.ref 83) (.none) 0)), #[]⟩
noncomputable def o85 : Obj := ⟨.type "tuple", none, (.seq #[] 0), #[]⟩
noncomputable def o86 : Obj := ⟨.none, none, (.fields #[]), #[]⟩
noncomputable def o87 : Obj := ⟨.type "tuple", none, (.seq #[.str "b" 297, .str "out" 298, .str "square" 299] 0), #[]⟩
noncomputable def o88 : Obj := ⟨.type "tuple", none, (.seq #[] 0), #[]⟩
noncomputable def o89 : Obj := ⟨.none, none, (.func (fdOf (stA 25) "squares_of" 0 (.none) (.none) (.none) (.none) none (.none) (.none) 0)), #[]⟩
noncomputable def o90 : Obj := ⟨.type "code", none, (.fields #[.str "squares_of" 294, .str "squares_of" 295, .str "/claim/cut.py" 296, .int 50 0, .int 1 0, .int 0 0, .int 0 0, .int 3 0, .ref 85, .bool true, .int 181 0, .ref 86, .none, .ref 87, .ref 88, .ref 89, .int 300 0, .int 50 0, .str "/claim/cut.py" 301]), #[]⟩
noncomputable def o91 : Obj := ⟨.type "function", none, (.func (fdOf (stA 25) "squares_of" 3 (.none) (.none) (.none) (.str "chess.bits" 269) none (.ref 90) (.none) 0)), #[]⟩
noncomputable def o92 : Obj := ⟨.type "tuple", none, (.seq #[.type "Exception"] 0), #[]⟩
noncomputable def o93 : Obj := ⟨.type "builtin_function_or_method", none, (.fields #[.builtin "type.__prepare__", .type "type"]), #[]⟩
noncomputable def o94 (P : Params) : Obj := ⟨.type "dict", none, (.dict #[kv P "__module__" 312 (.str "chess.errors" 303), kv P "__qualname__" 314 (.str "ChessError" 313), kv P "__firstlineno__" 316 (.int 63 315), kv P "__init__" 324 (.ref 105), kv P "__static_attributes__" 326 (.ref 106)] 5), #[]⟩
noncomputable def o95 : Obj := ⟨.type "tuple", none, (.seq #[] 0), #[]⟩
noncomputable def o96 : Obj := ⟨.none, none, (.fields #[.int 65 0, .int 4 0, .ref 104]), #[]⟩
noncomputable def o97 : Obj := ⟨.type "code", none, (.fields #[.str "ChessError" 307, .str "ChessError" 308, .str "/claim/cut.py" 309, .int 63 0, .int 0 0, .int 0 0, .int 0 0, .int 0 0, .ref 95, .bool false, .int 181 0, .ref 96, .none, .none, .none, .none, .int 310 0, .int 63 0, .str "/claim/cut.py" 311]), #[]⟩
noncomputable def o98 : Obj := ⟨.type "frame", none, .plain, #[some (.ref 97), some (.ref 3), some (.ref 94), none, some (.str "chess.errors" 303), none, some (.ref 0)]⟩
noncomputable def o99 : Obj := ⟨.type "tuple", none, (.seq #[] 0), #[]⟩
noncomputable def o100 : Obj := ⟨.none, none, (.fields #[]), #[]⟩
noncomputable def o101 : Obj := ⟨.type "tuple", none, (.seq #[.str "self" 320, .str "text" 321] 0), #[]⟩
noncomputable def o102 : Obj := ⟨.type "tuple", none, (.seq #[] 0), #[]⟩
noncomputable def o103 : Obj := ⟨.none, none, (.func (fdOf (stB 27 0) "ChessError.__init__" 0 (.none) (.none) (.none) (.none) none (.none) (.none) 0)), #[]⟩
noncomputable def o104 : Obj := ⟨.type "code", none, (.fields #[.str "__init__" 317, .str "ChessError.__init__" 318, .str "/claim/cut.py" 319, .int 65 0, .int 2 0, .int 0 0, .int 0 0, .int 3 0, .ref 99, .bool true, .int 181 0, .ref 100, .none, .ref 101, .ref 102, .ref 103, .int 322 0, .int 65 0, .str "/claim/cut.py" 323]), #[]⟩
noncomputable def o105 : Obj := ⟨.type "function", none, (.func (fdOf (stB 27 0) "ChessError.__init__" 3 (.none) (.none) (.none) (.str "chess.errors" 303) none (.ref 104) (.none) 0)), #[]⟩
noncomputable def o106 : Obj := ⟨.type "tuple", none, (.seq #[.str "text" 325] 0), #[]⟩
noncomputable def o107 (P : Params) : Obj := ⟨.type "dict", none, (.dict #[kv P "__module__" 312 (.str "chess.errors" 303), kv P "__firstlineno__" 316 (.int 63 315), kv P "__init__" 324 (.ref 105), kv P "__static_attributes__" 326 (.ref 106), kv P "__weakref__" 328 (.ref 109), kv P "__doc__" 329 (.none)] 3), #[]⟩
noncomputable def o108 : Obj := ⟨.type "type", none, (.cls ⟨"ChessError", [.type "Exception"], [.ref 108, .type "Exception", .type "BaseException", .type "object"], 107, "ChessError", true, [], [], false, none, false⟩), #[some (.ref 92), none, some (.str "ChessError" 305), some (.str "ChessError" 313), some (.builtin "Exception.__new__"), some (.bool true)]⟩
noncomputable def o109 : Obj := ⟨.type "getset_descriptor", none, (.fields #[.str "__weakref__" 327, .ref 108, .builtin "ExceptionGroup.__weakref__", .none]), #[]⟩
noncomputable def o110 : Obj := ⟨.type "super", none, (.fields #[.ref 108, .ref 108, .ref 108]), #[]⟩
noncomputable def o111 : Obj := ⟨.type "builtin_function_or_method", none, (.fields #[.builtin "object.__init_subclass__", .ref 108]), #[]⟩
noncomputable def o112 : Obj := ⟨.type "tuple", none, (.seq #[.int 0 336, .int 1 337, .int 0 338, .int (-1) 340, .int 1 341, .int 1 342, .int (-1) 344, .int (-1) 346] 0), #[]⟩
noncomputable def o3v2 (P : Params) : Obj := ⟨.type "dict", none, (.dict #[kv P "__name__" 165 (.str "chess.geometry" 334), kv P "__doc__" 166 (.none), kv P "__package__" 167 (.none), kv P "__loader__" 168 (.builtin "__main__.__loader__#opaque"), kv P "__spec__" 169 (.none), kv P "__annotations__" 170 (.ref 6), kv P "__builtins__" 171 (.ref 4), kv P "__file__" 173 (.str "/claim/cut.py" 172), kv P "__cached__" 174 (.none), kv P "WHITE" 190 (.int 0 189), kv P "BLACK" 192 (.int 1 191), kv P "PAWN" 194 (.int 1 193), kv P "KNIGHT" 196 (.int 2 195), kv P "BISHOP" 198 (.int 3 197), kv P "ROOK" 200 (.int 4 199), kv P "QUEEN" 202 (.int 5 201), kv P "KING" 204 (.int 6 203), kv P "EMPTY" 206 (.int 0 205), kv P "NORMAL" 208 (.int 0 207), kv P "PROMOTION" 210 (.int 1 209), kv P "EN_PASSANT" 212 (.int 2 211), kv P "CASTLING" 214 (.int 3 213), kv P "make_piece" 222 (.ref 21), kv P "side_of" 229 (.ref 28), kv P "kind_of" 236 (.ref 35), kv P "pack_move" 247 (.ref 42), kv P "move_from" 254 (.ref 49), kv P "move_to" 261 (.ref 56), kv P "move_special" 268 (.ref 63), kv P "more_than_one" 277 (.ref 70), kv P "highest" 286 (.ref 77), kv P "lowest" 293 (.ref 84), kv P "squares_of" 302 (.ref 91), kv P "ChessError" 333 (.ref 108), kv P "STEP_FILES" 347 (.ref 112), kv P "STEP_RANKS" 359 (.ref 113), kv P "Geometry" 404 (.ref 130), kv P "is_growing" 411 (.ref 141), kv P "add_masks" 422 (.ref 148), kv P "inner_squares" 431 (.ref 155), kv P "add_rays" 445 (.ref 162)] 41), #[]⟩
noncomputable def o12v3 : Obj := ⟨.none, none, (.fields #[.int 15 0, .int 0 0, .ref 20, .int 17 0, .int 0 0, .ref 27, .int 19 0, .int 0 0, .ref 34, .int 21 0, .int 0 0, .ref 41, .int 26 0, .int 0 0, .ref 48, .int 28 0, .int 0 0, .ref 55, .int 30 0, .int 0 0, .ref 62, .int 33 0, .int 0 0, .ref 69, .int 35 0, .int 0 0, .ref 76, .int 48 0, .int 0 0, .ref 83, .int 50 0, .int 0 0, .ref 90, .int 63 0, .int 0 0, .ref 97, .int 71 0, .int 0 0, .ref 119, .int 88 0, .int 0 0, .ref 140, .int 90 0, .int 0 0, .ref 147, .int 98 0, .int 0 0, .ref 154, .int 109 0, .int 0 0, .ref 161]), #[]⟩
noncomputable def o113 : Obj := ⟨.type "tuple", none, (.seq #[.int 1 348, .int 0 349, .int (-1) 351, .int 0 352, .int 1 353, .int (-1) 355, .int (-1) 357, .int 1 358] 0), #[]⟩
noncomputable def o114 : Obj := ⟨.type "tuple", none, (.seq #[] 0), #[]⟩
noncomputable def o115 : Obj := ⟨.type "builtin_function_or_method", none, (.fields #[.builtin "type.__prepare__", .type "type"]), #[]⟩
noncomputable def o116 (P : Params) : Obj := ⟨.type "dict", none, (.dict #[kv P "__module__" 367 (.str "chess.geometry" 334), kv P "__qualname__" 369 (.str "Geometry" 368), kv P "__firstlineno__" 371 (.int 71 370), kv P "__init__" 382 (.ref 127), kv P "__static_attributes__" 397 (.ref 128)] 5), #[]⟩
noncomputable def o117 : Obj := ⟨.type "tuple", none, (.seq #[] 0), #[]⟩
noncomputable def o118 : Obj := ⟨.none, none, (.fields #[.int 73 0, .int 4 0, .ref 126]), #[]⟩
noncomputable def o119 : Obj := ⟨.type "code", none, (.fields #[.str "Geometry" 362, .str "Geometry" 363, .str "/claim/cut.py" 364, .int 71 0, .int 0 0, .int 0 0, .int 0 0, .int 0 0, .ref 117, .bool false, .int 181 0, .ref 118, .none, .none, .none, .none, .int 365 0, .int 71 0, .str "/claim/cut.py" 366]), #[]⟩
noncomputable def o120 : Obj := ⟨.type "frame", none, .plain, #[some (.ref 119), some (.ref 3), some (.ref 116), none, some (.str "chess.geometry" 334), none, some (.ref 0)]⟩
noncomputable def o121 : Obj := ⟨.type "tuple", none, (.seq #[] 0), #[]⟩
noncomputable def o122 : Obj := ⟨.none, none, (.fields #[]), #[]⟩
noncomputable def o123 : Obj := ⟨.type "tuple", none, (.seq #[.str "self" 375, .str "files" 376, .str "ranks" 377, .str "has_double" 378, .str "has_castling" 379] 0), #[]⟩
noncomputable def o124 : Obj := ⟨.type "tuple", none, (.seq #[] 0), #[]⟩
noncomputable def o125 : Obj := ⟨.none, none, (.func (fdOf (stB 31 0) "Geometry.__init__" 0 (.none) (.none) (.none) (.none) none (.none) (.none) 0)), #[]⟩
noncomputable def o126 : Obj := ⟨.type "code", none, (.fields #[.str "__init__" 372, .str "Geometry.__init__" 373, .str "/claim/cut.py" 374, .int 73 0, .int 5 0, .int 0 0, .int 0 0, .int 3 0, .ref 121, .bool true, .int 181 0, .ref 122, .none, .ref 123, .ref 124, .ref 125, .int 380 0, .int 73 0, .str "/claim/cut.py" 381]), #[]⟩
noncomputable def o127 : Obj := ⟨.type "function", none, (.func (fdOf (stB 31 0) "Geometry.__init__" 3 (.none) (.none) (.none) (.str "chess.geometry" 334) none (.ref 126) (.none) 0)), #[]⟩
noncomputable def o128 : Obj := ⟨.type "tuple", none, (.seq #[.str "castles" 383, .str "file_masks" 384, .str "files" 385, .str "full" 386, .str "has_castling" 387, .str "has_double" 388, .str "king" 389, .str "knight" 390, .str "pawn" 391, .str "rank_masks" 392, .str "ranks" 393, .str "rays" 394, .str "rights_lost" 395, .str "size" 396] 0), #[]⟩
noncomputable def o129 (P : Params) : Obj := ⟨.type "dict", none, (.dict #[kv P "__module__" 367 (.str "chess.geometry" 334), kv P "__firstlineno__" 371 (.int 71 370), kv P "__init__" 382 (.ref 127), kv P "__static_attributes__" 397 (.ref 128), kv P "__dict__" 399 (.ref 131), kv P "__weakref__" 401 (.ref 132), kv P "__doc__" 402 (.none)] 4), #[]⟩
noncomputable def o130 : Obj := ⟨.type "type", none, (.cls ⟨"Geometry", [.type "object"], [.ref 130, .type "object"], 129, "Geometry", true, [], [], false, none, false⟩), #[none, none, some (.str "Geometry" 360), some (.str "Geometry" 368), some (.builtin "object.__new__"), some (.bool true)]⟩
noncomputable def o131 : Obj := ⟨.type "getset_descriptor", none, (.fields #[.str "__dict__" 398, .ref 130, .builtin "function.__dict__", .builtin "function.__dict__#set"]), #[]⟩
noncomputable def o132 : Obj := ⟨.type "getset_descriptor", none, (.fields #[.str "__weakref__" 400, .ref 130, .builtin "ExceptionGroup.__weakref__", .none]), #[]⟩
noncomputable def o133 : Obj := ⟨.type "super", none, (.fields #[.ref 130, .ref 130, .ref 130]), #[]⟩
noncomputable def o134 : Obj := ⟨.type "builtin_function_or_method", none, (.fields #[.builtin "object.__init_subclass__", .ref 130]), #[]⟩
noncomputable def o135 : Obj := ⟨.type "tuple", none, (.seq #[] 0), #[]⟩
noncomputable def o136 : Obj := ⟨.none, none, (.fields #[]), #[]⟩
noncomputable def o137 : Obj := ⟨.type "tuple", none, (.seq #[.str "d" 408] 0), #[]⟩
noncomputable def o138 : Obj := ⟨.type "tuple", none, (.seq #[] 0), #[]⟩
noncomputable def o139 : Obj := ⟨.none, none, (.func (fdOf (stA 32) "is_growing" 0 (.none) (.none) (.none) (.none) none (.none) (.none) 0)), #[]⟩
noncomputable def o140 : Obj := ⟨.type "code", none, (.fields #[.str "is_growing" 405, .str "is_growing" 406, .str "/claim/cut.py" 407, .int 88 0, .int 1 0, .int 0 0, .int 0 0, .int 3 0, .ref 135, .bool true, .int 181 0, .ref 136, .none, .ref 137, .ref 138, .ref 139, .int 409 0, .int 88 0, .str "/claim/cut.py" 410]), #[]⟩
noncomputable def o141 : Obj := ⟨.type "function", none, (.func (fdOf (stA 32) "is_growing" 3 (.none) (.none) (.none) (.str "chess.geometry" 334) none (.ref 140) (.none) 0)), #[]⟩
noncomputable def o142 : Obj := ⟨.type "tuple", none, (.seq #[] 0), #[]⟩
noncomputable def o143 : Obj := ⟨.none, none, (.fields #[]), #[]⟩
noncomputable def o144 : Obj := ⟨.type "tuple", none, (.seq #[.str "geo" 415, .str "row" 416, .str "column" 417, .str "r" 418, .str "f" 419] 0), #[]⟩
noncomputable def o145 : Obj := ⟨.type "tuple", none, (.seq #[] 0), #[]⟩
noncomputable def o146 : Obj := ⟨.none, none, (.func (fdOf (stA 33) "add_masks" 0 (.none) (.none) (.none) (.none) none (.none) (.none) 0)), #[]⟩
noncomputable def o147 : Obj := ⟨.type "code", none, (.fields #[.str "add_masks" 412, .str "add_masks" 413, .str "/claim/cut.py" 414, .int 90 0, .int 1 0, .int 0 0, .int 0 0, .int 3 0, .ref 142, .bool true, .int 181 0, .ref 143, .none, .ref 144, .ref 145, .ref 146, .int 420 0, .int 90 0, .str "/claim/cut.py" 421]), #[]⟩
noncomputable def o148 : Obj := ⟨.type "function", none, (.func (fdOf (stA 33) "add_masks" 3 (.none) (.none) (.none) (.str "chess.geometry" 334) none (.ref 147) (.none) 0)), #[]⟩
noncomputable def o149 : Obj := ⟨.type "tuple", none, (.seq #[] 0), #[]⟩
noncomputable def o150 : Obj := ⟨.none, none, (.fields #[]), #[]⟩
noncomputable def o151 : Obj := ⟨.type "tuple", none, (.seq #[.str "geo" 426, .str "d" 427, .str "edge" 428] 0), #[]⟩
noncomputable def o152 : Obj := ⟨.type "tuple", none, (.seq #[] 0), #[]⟩
noncomputable def o153 : Obj := ⟨.none, none, (.func (fdOf (stA 34) "inner_squares" 0 (.none) (.none) (.none) (.none) none (.none) (.none) 0)), #[]⟩
noncomputable def o154 : Obj := ⟨.type "code", none, (.fields #[.str "inner_squares" 423, .str "inner_squares" 424, .str "/claim/cut.py" 425, .int 98 0, .int 2 0, .int 0 0, .int 0 0, .int 3 0, .ref 149, .bool true, .int 181 0, .ref 150, .none, .ref 151, .ref 152, .ref 153, .int 429 0, .int 98 0, .str "/claim/cut.py" 430]), #[]⟩
noncomputable def o155 : Obj := ⟨.type "function", none, (.func (fdOf (stA 34) "inner_squares" 3 (.none) (.none) (.none) (.str "chess.geometry" 334) none (.ref 154) (.none) 0)), #[]⟩
noncomputable def o156 : Obj := ⟨.type "tuple", none, (.seq #[] 0), #[]⟩
noncomputable def o157 : Obj := ⟨.none, none, (.fields #[]), #[]⟩
noncomputable def o158 : Obj := ⟨.type "tuple", none, (.seq #[.str "geo" 435, .str "d" 436, .str "inner" 437, .str "delta" 438, .str "ray" 439, .str "order" 440, .str "square" 441, .str "goal" 442] 0), #[]⟩
noncomputable def o159 : Obj := ⟨.type "tuple", none, (.seq #[] 0), #[]⟩
noncomputable def o160 : Obj := ⟨.none, none, (.func (fdOf (stA 35) "add_rays" 0 (.none) (.none) (.none) (.none) none (.none) (.none) 0)), #[]⟩
noncomputable def o161 : Obj := ⟨.type "code", none, (.fields #[.str "add_rays" 432, .str "add_rays" 433, .str "/claim/cut.py" 434, .int 109 0, .int 1 0, .int 0 0, .int 0 0, .int 3 0, .ref 156, .bool true, .int 181 0, .ref 157, .none, .ref 158, .ref 159, .ref 160, .int 443 0, .int 109 0, .str "/claim/cut.py" 444]), #[]⟩
noncomputable def o162 : Obj := ⟨.type "function", none, (.func (fdOf (stA 35) "add_rays" 3 (.none) (.none) (.none) (.str "chess.geometry" 334) none (.ref 161) (.none) 0)), #[]⟩
noncomputable def o3v3 (P : Params) : Obj := ⟨.type "dict", none, (.dict #[kv P "__name__" 165 (.str "chess.lines" 562), kv P "__doc__" 166 (.none), kv P "__package__" 167 (.none), kv P "__loader__" 168 (.builtin "__main__.__loader__#opaque"), kv P "__spec__" 169 (.none), kv P "__annotations__" 170 (.ref 6), kv P "__builtins__" 171 (.ref 4), kv P "__file__" 173 (.str "/claim/cut.py" 172), kv P "__cached__" 174 (.none), kv P "WHITE" 190 (.int 0 189), kv P "BLACK" 192 (.int 1 191), kv P "PAWN" 194 (.int 1 193), kv P "KNIGHT" 196 (.int 2 195), kv P "BISHOP" 198 (.int 3 197), kv P "ROOK" 200 (.int 4 199), kv P "QUEEN" 202 (.int 5 201), kv P "KING" 204 (.int 6 203), kv P "EMPTY" 206 (.int 0 205), kv P "NORMAL" 208 (.int 0 207), kv P "PROMOTION" 210 (.int 1 209), kv P "EN_PASSANT" 212 (.int 2 211), kv P "CASTLING" 214 (.int 3 213), kv P "make_piece" 222 (.ref 21), kv P "side_of" 229 (.ref 28), kv P "kind_of" 236 (.ref 35), kv P "pack_move" 247 (.ref 42), kv P "move_from" 254 (.ref 49), kv P "move_to" 261 (.ref 56), kv P "move_special" 268 (.ref 63), kv P "more_than_one" 277 (.ref 70), kv P "highest" 286 (.ref 77), kv P "lowest" 293 (.ref 84), kv P "squares_of" 302 (.ref 91), kv P "ChessError" 333 (.ref 108), kv P "STEP_FILES" 347 (.ref 112), kv P "STEP_RANKS" 359 (.ref 113), kv P "Geometry" 404 (.ref 130), kv P "is_growing" 411 (.ref 141), kv P "add_masks" 422 (.ref 148), kv P "inner_squares" 431 (.ref 155), kv P "add_rays" 445 (.ref 162), kv P "add_pawns" 453 (.ref 169), kv P "add_knights" 470 (.ref 176), kv P "add_castles" 483 (.ref 183), kv P "make_geometry" 494 (.ref 190), kv P "ray_attacks" 509 (.ref 197), kv P "rook_attacks" 520 (.ref 204), kv P "bishop_attacks" 531 (.ref 211), kv P "queen_attacks" 540 (.ref 218), kv P "slider_attacks" 550 (.ref 225), kv P "piece_attacks" 561 (.ref 232), kv P "direction" 573 (.ref 239)] 52), #[]⟩
noncomputable def o12v4 : Obj := ⟨.none, none, (.fields #[.int 15 0, .int 0 0, .ref 20, .int 17 0, .int 0 0, .ref 27, .int 19 0, .int 0 0, .ref 34, .int 21 0, .int 0 0, .ref 41, .int 26 0, .int 0 0, .ref 48, .int 28 0, .int 0 0, .ref 55, .int 30 0, .int 0 0, .ref 62, .int 33 0, .int 0 0, .ref 69, .int 35 0, .int 0 0, .ref 76, .int 48 0, .int 0 0, .ref 83, .int 50 0, .int 0 0, .ref 90, .int 63 0, .int 0 0, .ref 97, .int 71 0, .int 0 0, .ref 119, .int 88 0, .int 0 0, .ref 140, .int 90 0, .int 0 0, .ref 147, .int 98 0, .int 0 0, .ref 154, .int 109 0, .int 0 0, .ref 161, .int 124 0, .int 0 0, .ref 168, .int 128 0, .int 0 0, .ref 175, .int 140 0, .int 0 0, .ref 182, .int 157 0, .int 0 0, .ref 189, .int 168 0, .int 0 0, .ref 196, .int 183 0, .int 0 0, .ref 203, .int 188 0, .int 0 0, .ref 210, .int 193 0, .int 0 0, .ref 217, .int 195 0, .int 0 0, .ref 224, .int 203 0, .int 0 0, .ref 231, .int 212 0, .int 0 0, .ref 238]), #[]⟩
noncomputable def o163 : Obj := ⟨.type "tuple", none, (.seq #[] 0), #[]⟩
noncomputable def o164 : Obj := ⟨.none, none, (.fields #[]), #[]⟩
noncomputable def o165 : Obj := ⟨.type "tuple", none, (.seq #[.str "geo" 449, .str "square" 450] 0), #[]⟩
noncomputable def o166 : Obj := ⟨.type "tuple", none, (.seq #[] 0), #[]⟩
noncomputable def o167 : Obj := ⟨.none, none, (.func (fdOf (stA 36) "add_pawns" 0 (.none) (.none) (.none) (.none) none (.none) (.none) 0)), #[]⟩
noncomputable def o168 : Obj := ⟨.type "code", none, (.fields #[.str "add_pawns" 446, .str "add_pawns" 447, .str "/claim/cut.py" 448, .int 124 0, .int 1 0, .int 0 0, .int 0 0, .int 3 0, .ref 163, .bool true, .int 181 0, .ref 164, .none, .ref 165, .ref 166, .ref 167, .int 451 0, .int 124 0, .str "/claim/cut.py" 452]), #[]⟩
noncomputable def o169 : Obj := ⟨.type "function", none, (.func (fdOf (stA 36) "add_pawns" 3 (.none) (.none) (.none) (.str "chess.geometry" 334) none (.ref 168) (.none) 0)), #[]⟩
noncomputable def o170 : Obj := ⟨.type "tuple", none, (.seq #[] 0), #[]⟩
noncomputable def o171 : Obj := ⟨.none, none, (.fields #[]), #[]⟩
noncomputable def o172 : Obj := ⟨.type "tuple", none, (.seq #[.str "geo" 457, .str "files" 458, .str "not_first" 459, .str "not_last" 460, .str "not_first_two" 461, .str "not_last_two" 462, .str "square" 463, .str "b" 464, .str "near" 465, .str "far" 466, .str "found" 467] 0), #[]⟩
noncomputable def o173 : Obj := ⟨.type "tuple", none, (.seq #[] 0), #[]⟩
noncomputable def o174 : Obj := ⟨.none, none, (.func (fdOf (stA 37) "add_knights" 0 (.none) (.none) (.none) (.none) none (.none) (.none) 0)), #[]⟩
noncomputable def o175 : Obj := ⟨.type "code", none, (.fields #[.str "add_knights" 454, .str "add_knights" 455, .str "/claim/cut.py" 456, .int 128 0, .int 1 0, .int 0 0, .int 0 0, .int 3 0, .ref 170, .bool true, .int 181 0, .ref 171, .none, .ref 172, .ref 173, .ref 174, .int 468 0, .int 128 0, .str "/claim/cut.py" 469]), #[]⟩
noncomputable def o176 : Obj := ⟨.type "function", none, (.func (fdOf (stA 37) "add_knights" 3 (.none) (.none) (.none) (.str "chess.geometry" 334) none (.ref 175) (.none) 0)), #[]⟩
noncomputable def o177 : Obj := ⟨.type "tuple", none, (.seq #[] 0), #[]⟩
noncomputable def o178 : Obj := ⟨.none, none, (.fields #[]), #[]⟩
noncomputable def o179 : Obj := ⟨.type "tuple", none, (.seq #[.str "geo" 474, .str "start" 475, .str "index" 476, .str "base" 477, .str "corner" 478, .str "way" 479, .str "goal" 480] 0), #[]⟩
noncomputable def o180 : Obj := ⟨.type "tuple", none, (.seq #[] 0), #[]⟩
noncomputable def o181 : Obj := ⟨.none, none, (.func (fdOf (stA 38) "add_castles" 0 (.none) (.none) (.none) (.none) none (.none) (.none) 0)), #[]⟩
noncomputable def o182 : Obj := ⟨.type "code", none, (.fields #[.str "add_castles" 471, .str "add_castles" 472, .str "/claim/cut.py" 473, .int 140 0, .int 1 0, .int 0 0, .int 0 0, .int 3 0, .ref 177, .bool true, .int 181 0, .ref 178, .none, .ref 179, .ref 180, .ref 181, .int 481 0, .int 140 0, .str "/claim/cut.py" 482]), #[]⟩
noncomputable def o183 : Obj := ⟨.type "function", none, (.func (fdOf (stA 38) "add_castles" 3 (.none) (.none) (.none) (.str "chess.geometry" 334) none (.ref 182) (.none) 0)), #[]⟩
noncomputable def o184 : Obj := ⟨.type "tuple", none, (.seq #[] 0), #[]⟩
noncomputable def o185 : Obj := ⟨.none, none, (.fields #[]), #[]⟩
noncomputable def o186 : Obj := ⟨.type "tuple", none, (.seq #[.str "files" 487, .str "ranks" 488, .str "has_double" 489, .str "has_castling" 490, .str "geo" 491] 0), #[]⟩
noncomputable def o187 : Obj := ⟨.type "tuple", none, (.seq #[] 0), #[]⟩
noncomputable def o188 : Obj := ⟨.none, none, (.func (fdOf (stA 39) "make_geometry" 0 (.none) (.none) (.none) (.none) none (.none) (.none) 0)), #[]⟩
noncomputable def o189 : Obj := ⟨.type "code", none, (.fields #[.str "make_geometry" 484, .str "make_geometry" 485, .str "/claim/cut.py" 486, .int 157 0, .int 4 0, .int 0 0, .int 0 0, .int 3 0, .ref 184, .bool true, .int 181 0, .ref 185, .none, .ref 186, .ref 187, .ref 188, .int 492 0, .int 157 0, .str "/claim/cut.py" 493]), #[]⟩
noncomputable def o190 : Obj := ⟨.type "function", none, (.func (fdOf (stA 39) "make_geometry" 3 (.none) (.none) (.none) (.str "chess.geometry" 334) none (.ref 189) (.none) 0)), #[]⟩
noncomputable def o191 : Obj := ⟨.type "tuple", none, (.seq #[] 0), #[]⟩
noncomputable def o192 : Obj := ⟨.none, none, (.fields #[]), #[]⟩
noncomputable def o193 : Obj := ⟨.type "tuple", none, (.seq #[.str "geo" 500, .str "d" 501, .str "square" 502, .str "occupied" 503, .str "ray" 504, .str "stop" 505, .str "behind" 506] 0), #[]⟩
noncomputable def o194 : Obj := ⟨.type "tuple", none, (.seq #[] 0), #[]⟩
noncomputable def o195 : Obj := ⟨.none, none, (.func (fdOf (stA 41) "ray_attacks" 0 (.none) (.none) (.none) (.none) none (.none) (.none) 0)), #[]⟩
noncomputable def o196 : Obj := ⟨.type "code", none, (.fields #[.str "ray_attacks" 497, .str "ray_attacks" 498, .str "/claim/cut.py" 499, .int 168 0, .int 4 0, .int 0 0, .int 0 0, .int 3 0, .ref 191, .bool true, .int 181 0, .ref 192, .none, .ref 193, .ref 194, .ref 195, .int 507 0, .int 168 0, .str "/claim/cut.py" 508]), #[]⟩
noncomputable def o197 : Obj := ⟨.type "function", none, (.func (fdOf (stA 41) "ray_attacks" 3 (.none) (.none) (.none) (.str "chess.sliders" 495) none (.ref 196) (.none) 0)), #[]⟩
noncomputable def o198 : Obj := ⟨.type "tuple", none, (.seq #[] 0), #[]⟩
noncomputable def o199 : Obj := ⟨.none, none, (.fields #[]), #[]⟩
noncomputable def o200 : Obj := ⟨.type "tuple", none, (.seq #[.str "geo" 513, .str "square" 514, .str "occupied" 515, .str "found" 516, .str "d" 517] 0), #[]⟩
noncomputable def o201 : Obj := ⟨.type "tuple", none, (.seq #[] 0), #[]⟩
noncomputable def o202 : Obj := ⟨.none, none, (.func (fdOf (stA 42) "rook_attacks" 0 (.none) (.none) (.none) (.none) none (.none) (.none) 0)), #[]⟩
noncomputable def o203 : Obj := ⟨.type "code", none, (.fields #[.str "rook_attacks" 510, .str "rook_attacks" 511, .str "/claim/cut.py" 512, .int 183 0, .int 3 0, .int 0 0, .int 0 0, .int 3 0, .ref 198, .bool true, .int 181 0, .ref 199, .none, .ref 200, .ref 201, .ref 202, .int 518 0, .int 183 0, .str "/claim/cut.py" 519]), #[]⟩
noncomputable def o204 : Obj := ⟨.type "function", none, (.func (fdOf (stA 42) "rook_attacks" 3 (.none) (.none) (.none) (.str "chess.sliders" 495) none (.ref 203) (.none) 0)), #[]⟩
noncomputable def o205 : Obj := ⟨.type "tuple", none, (.seq #[] 0), #[]⟩
noncomputable def o206 : Obj := ⟨.none, none, (.fields #[]), #[]⟩
noncomputable def o207 : Obj := ⟨.type "tuple", none, (.seq #[.str "geo" 524, .str "square" 525, .str "occupied" 526, .str "found" 527, .str "d" 528] 0), #[]⟩
noncomputable def o208 : Obj := ⟨.type "tuple", none, (.seq #[] 0), #[]⟩
noncomputable def o209 : Obj := ⟨.none, none, (.func (fdOf (stA 43) "bishop_attacks" 0 (.none) (.none) (.none) (.none) none (.none) (.none) 0)), #[]⟩
noncomputable def o210 : Obj := ⟨.type "code", none, (.fields #[.str "bishop_attacks" 521, .str "bishop_attacks" 522, .str "/claim/cut.py" 523, .int 188 0, .int 3 0, .int 0 0, .int 0 0, .int 3 0, .ref 205, .bool true, .int 181 0, .ref 206, .none, .ref 207, .ref 208, .ref 209, .int 529 0, .int 188 0, .str "/claim/cut.py" 530]), #[]⟩
noncomputable def o211 : Obj := ⟨.type "function", none, (.func (fdOf (stA 43) "bishop_attacks" 3 (.none) (.none) (.none) (.str "chess.sliders" 495) none (.ref 210) (.none) 0)), #[]⟩
noncomputable def o212 : Obj := ⟨.type "tuple", none, (.seq #[] 0), #[]⟩
noncomputable def o213 : Obj := ⟨.none, none, (.fields #[]), #[]⟩
noncomputable def o214 : Obj := ⟨.type "tuple", none, (.seq #[.str "geo" 535, .str "square" 536, .str "occupied" 537] 0), #[]⟩
noncomputable def o215 : Obj := ⟨.type "tuple", none, (.seq #[] 0), #[]⟩
noncomputable def o216 : Obj := ⟨.none, none, (.func (fdOf (stA 44) "queen_attacks" 0 (.none) (.none) (.none) (.none) none (.none) (.none) 0)), #[]⟩
noncomputable def o217 : Obj := ⟨.type "code", none, (.fields #[.str "queen_attacks" 532, .str "queen_attacks" 533, .str "/claim/cut.py" 534, .int 193 0, .int 3 0, .int 0 0, .int 0 0, .int 3 0, .ref 212, .bool true, .int 181 0, .ref 213, .none, .ref 214, .ref 215, .ref 216, .int 538 0, .int 193 0, .str "/claim/cut.py" 539]), #[]⟩
noncomputable def o218 : Obj := ⟨.type "function", none, (.func (fdOf (stA 44) "queen_attacks" 3 (.none) (.none) (.none) (.str "chess.sliders" 495) none (.ref 217) (.none) 0)), #[]⟩
noncomputable def o219 : Obj := ⟨.type "tuple", none, (.seq #[] 0), #[]⟩
noncomputable def o220 : Obj := ⟨.none, none, (.fields #[]), #[]⟩
noncomputable def o221 : Obj := ⟨.type "tuple", none, (.seq #[.str "geo" 544, .str "kind" 545, .str "square" 546, .str "occupied" 547] 0), #[]⟩
noncomputable def o222 : Obj := ⟨.type "tuple", none, (.seq #[] 0), #[]⟩
noncomputable def o223 : Obj := ⟨.none, none, (.func (fdOf (stA 45) "slider_attacks" 0 (.none) (.none) (.none) (.none) none (.none) (.none) 0)), #[]⟩
noncomputable def o224 : Obj := ⟨.type "code", none, (.fields #[.str "slider_attacks" 541, .str "slider_attacks" 542, .str "/claim/cut.py" 543, .int 195 0, .int 4 0, .int 0 0, .int 0 0, .int 3 0, .ref 219, .bool true, .int 181 0, .ref 220, .none, .ref 221, .ref 222, .ref 223, .int 548 0, .int 195 0, .str "/claim/cut.py" 549]), #[]⟩
noncomputable def o225 : Obj := ⟨.type "function", none, (.func (fdOf (stA 45) "slider_attacks" 3 (.none) (.none) (.none) (.str "chess.sliders" 495) none (.ref 224) (.none) 0)), #[]⟩
noncomputable def o226 : Obj := ⟨.type "tuple", none, (.seq #[] 0), #[]⟩
noncomputable def o227 : Obj := ⟨.none, none, (.fields #[]), #[]⟩
noncomputable def o228 : Obj := ⟨.type "tuple", none, (.seq #[.str "geo" 554, .str "side" 555, .str "kind" 556, .str "square" 557, .str "occupied" 558] 0), #[]⟩
noncomputable def o229 : Obj := ⟨.type "tuple", none, (.seq #[] 0), #[]⟩
noncomputable def o230 : Obj := ⟨.none, none, (.func (fdOf (stA 46) "piece_attacks" 0 (.none) (.none) (.none) (.none) none (.none) (.none) 0)), #[]⟩
noncomputable def o231 : Obj := ⟨.type "code", none, (.fields #[.str "piece_attacks" 551, .str "piece_attacks" 552, .str "/claim/cut.py" 553, .int 203 0, .int 5 0, .int 0 0, .int 0 0, .int 3 0, .ref 226, .bool true, .int 181 0, .ref 227, .none, .ref 228, .ref 229, .ref 230, .int 559 0, .int 203 0, .str "/claim/cut.py" 560]), #[]⟩
noncomputable def o232 : Obj := ⟨.type "function", none, (.func (fdOf (stA 46) "piece_attacks" 3 (.none) (.none) (.none) (.str "chess.sliders" 495) none (.ref 231) (.none) 0)), #[]⟩
noncomputable def o233 : Obj := ⟨.type "tuple", none, (.seq #[] 0), #[]⟩
noncomputable def o234 : Obj := ⟨.none, none, (.fields #[]), #[]⟩
noncomputable def o235 : Obj := ⟨.type "tuple", none, (.seq #[.str "geo" 567, .str "a" 568, .str "b" 569, .str "d" 570] 0), #[]⟩
noncomputable def o236 : Obj := ⟨.type "tuple", none, (.seq #[] 0), #[]⟩
noncomputable def o237 : Obj := ⟨.none, none, (.func (fdOf (stA 48) "direction" 0 (.none) (.none) (.none) (.none) none (.none) (.none) 0)), #[]⟩
noncomputable def o238 : Obj := ⟨.type "code", none, (.fields #[.str "direction" 564, .str "direction" 565, .str "/claim/cut.py" 566, .int 212 0, .int 3 0, .int 0 0, .int 0 0, .int 3 0, .ref 233, .bool true, .int 181 0, .ref 234, .none, .ref 235, .ref 236, .ref 237, .int 571 0, .int 212 0, .str "/claim/cut.py" 572]), #[]⟩
noncomputable def o239 : Obj := ⟨.type "function", none, (.func (fdOf (stA 48) "direction" 3 (.none) (.none) (.none) (.str "chess.lines" 562) none (.ref 238) (.none) 0)), #[]⟩
noncomputable def o3v4 (P : Params) : Obj := ⟨.type "dict", none, (.dict #[kv P "__name__" 165 (.str "chess.attacks" 652), kv P "__doc__" 166 (.none), kv P "__package__" 167 (.none), kv P "__loader__" 168 (.builtin "__main__.__loader__#opaque"), kv P "__spec__" 169 (.none), kv P "__annotations__" 170 (.ref 6), kv P "__builtins__" 171 (.ref 4), kv P "__file__" 173 (.str "/claim/cut.py" 172), kv P "__cached__" 174 (.none), kv P "WHITE" 190 (.int 0 189), kv P "BLACK" 192 (.int 1 191), kv P "PAWN" 194 (.int 1 193), kv P "KNIGHT" 196 (.int 2 195), kv P "BISHOP" 198 (.int 3 197), kv P "ROOK" 200 (.int 4 199), kv P "QUEEN" 202 (.int 5 201), kv P "KING" 204 (.int 6 203), kv P "EMPTY" 206 (.int 0 205), kv P "NORMAL" 208 (.int 0 207), kv P "PROMOTION" 210 (.int 1 209), kv P "EN_PASSANT" 212 (.int 2 211), kv P "CASTLING" 214 (.int 3 213), kv P "make_piece" 222 (.ref 21), kv P "side_of" 229 (.ref 28), kv P "kind_of" 236 (.ref 35), kv P "pack_move" 247 (.ref 42), kv P "move_from" 254 (.ref 49), kv P "move_to" 261 (.ref 56), kv P "move_special" 268 (.ref 63), kv P "more_than_one" 277 (.ref 70), kv P "highest" 286 (.ref 77), kv P "lowest" 293 (.ref 84), kv P "squares_of" 302 (.ref 91), kv P "ChessError" 333 (.ref 108), kv P "STEP_FILES" 347 (.ref 112), kv P "STEP_RANKS" 359 (.ref 113), kv P "Geometry" 404 (.ref 130), kv P "is_growing" 411 (.ref 141), kv P "add_masks" 422 (.ref 148), kv P "inner_squares" 431 (.ref 155), kv P "add_rays" 445 (.ref 162), kv P "add_pawns" 453 (.ref 169), kv P "add_knights" 470 (.ref 176), kv P "add_castles" 483 (.ref 183), kv P "make_geometry" 494 (.ref 190), kv P "ray_attacks" 509 (.ref 197), kv P "rook_attacks" 520 (.ref 204), kv P "bishop_attacks" 531 (.ref 211), kv P "queen_attacks" 540 (.ref 218), kv P "slider_attacks" 550 (.ref 225), kv P "piece_attacks" 561 (.ref 232), kv P "direction" 573 (.ref 239), kv P "between" 583 (.ref 246), kv P "Position" 626 (.ref 263), kv P "put_piece" 636 (.ref 274), kv P "occupied" 643 (.ref 281), kv P "king_square" 651 (.ref 288)] 57), #[]⟩
noncomputable def o12v5 : Obj := ⟨.none, none, (.fields #[.int 15 0, .int 0 0, .ref 20, .int 17 0, .int 0 0, .ref 27, .int 19 0, .int 0 0, .ref 34, .int 21 0, .int 0 0, .ref 41, .int 26 0, .int 0 0, .ref 48, .int 28 0, .int 0 0, .ref 55, .int 30 0, .int 0 0, .ref 62, .int 33 0, .int 0 0, .ref 69, .int 35 0, .int 0 0, .ref 76, .int 48 0, .int 0 0, .ref 83, .int 50 0, .int 0 0, .ref 90, .int 63 0, .int 0 0, .ref 97, .int 71 0, .int 0 0, .ref 119, .int 88 0, .int 0 0, .ref 140, .int 90 0, .int 0 0, .ref 147, .int 98 0, .int 0 0, .ref 154, .int 109 0, .int 0 0, .ref 161, .int 124 0, .int 0 0, .ref 168, .int 128 0, .int 0 0, .ref 175, .int 140 0, .int 0 0, .ref 182, .int 157 0, .int 0 0, .ref 189, .int 168 0, .int 0 0, .ref 196, .int 183 0, .int 0 0, .ref 203, .int 188 0, .int 0 0, .ref 210, .int 193 0, .int 0 0, .ref 217, .int 195 0, .int 0 0, .ref 224, .int 203 0, .int 0 0, .ref 231, .int 212 0, .int 0 0, .ref 238, .int 217 0, .int 0 0, .ref 245, .int 223 0, .int 0 0, .ref 252, .int 238 0, .int 0 0, .ref 273, .int 244 0, .int 0 0, .ref 280, .int 246 0, .int 0 0, .ref 287]), #[]⟩
noncomputable def o240 : Obj := ⟨.type "tuple", none, (.seq #[] 0), #[]⟩
noncomputable def o241 : Obj := ⟨.none, none, (.fields #[]), #[]⟩
noncomputable def o242 : Obj := ⟨.type "tuple", none, (.seq #[.str "geo" 577, .str "a" 578, .str "b" 579, .str "d" 580] 0), #[]⟩
noncomputable def o243 : Obj := ⟨.type "tuple", none, (.seq #[] 0), #[]⟩
noncomputable def o244 : Obj := ⟨.none, none, (.func (fdOf (stA 49) "between" 0 (.none) (.none) (.none) (.none) none (.none) (.none) 0)), #[]⟩
noncomputable def o245 : Obj := ⟨.type "code", none, (.fields #[.str "between" 574, .str "between" 575, .str "/claim/cut.py" 576, .int 217 0, .int 3 0, .int 0 0, .int 0 0, .int 3 0, .ref 240, .bool true, .int 181 0, .ref 241, .none, .ref 242, .ref 243, .ref 244, .int 581 0, .int 217 0, .str "/claim/cut.py" 582]), #[]⟩
noncomputable def o246 : Obj := ⟨.type "function", none, (.func (fdOf (stA 49) "between" 3 (.none) (.none) (.none) (.str "chess.lines" 562) none (.ref 245) (.none) 0)), #[]⟩
noncomputable def o247 : Obj := ⟨.type "tuple", none, (.seq #[] 0), #[]⟩
noncomputable def o248 : Obj := ⟨.type "builtin_function_or_method", none, (.fields #[.builtin "type.__prepare__", .type "type"]), #[]⟩
noncomputable def o249 (P : Params) : Obj := ⟨.type "dict", none, (.dict #[kv P "__module__" 593 (.str "chess.position" 584), kv P "__qualname__" 595 (.str "Position" 594), kv P "__firstlineno__" 597 (.int 223 596), kv P "__init__" 606 (.ref 260), kv P "__static_attributes__" 619 (.ref 261)] 5), #[]⟩
noncomputable def o250 : Obj := ⟨.type "tuple", none, (.seq #[] 0), #[]⟩
noncomputable def o251 : Obj := ⟨.none, none, (.fields #[.int 225 0, .int 4 0, .ref 259]), #[]⟩
noncomputable def o252 : Obj := ⟨.type "code", none, (.fields #[.str "Position" 588, .str "Position" 589, .str "/claim/cut.py" 590, .int 223 0, .int 0 0, .int 0 0, .int 0 0, .int 0 0, .ref 250, .bool false, .int 181 0, .ref 251, .none, .none, .none, .none, .int 591 0, .int 223 0, .str "/claim/cut.py" 592]), #[]⟩
noncomputable def o253 : Obj := ⟨.type "frame", none, .plain, #[some (.ref 252), some (.ref 3), some (.ref 249), none, some (.str "chess.position" 584), none, some (.ref 0)]⟩
noncomputable def o254 : Obj := ⟨.type "tuple", none, (.seq #[] 0), #[]⟩
noncomputable def o255 : Obj := ⟨.none, none, (.fields #[]), #[]⟩
noncomputable def o256 : Obj := ⟨.type "tuple", none, (.seq #[.str "self" 601, .str "geo" 602, .str "zob" 603] 0), #[]⟩
noncomputable def o257 : Obj := ⟨.type "tuple", none, (.seq #[] 0), #[]⟩
noncomputable def o258 : Obj := ⟨.none, none, (.func (fdOf (stB 51 0) "Position.__init__" 0 (.none) (.none) (.none) (.none) none (.none) (.none) 0)), #[]⟩
noncomputable def o259 : Obj := ⟨.type "code", none, (.fields #[.str "__init__" 598, .str "Position.__init__" 599, .str "/claim/cut.py" 600, .int 225 0, .int 3 0, .int 0 0, .int 0 0, .int 3 0, .ref 254, .bool true, .int 181 0, .ref 255, .none, .ref 256, .ref 257, .ref 258, .int 604 0, .int 225 0, .str "/claim/cut.py" 605]), #[]⟩
noncomputable def o260 : Obj := ⟨.type "function", none, (.func (fdOf (stB 51 0) "Position.__init__" 3 (.none) (.none) (.none) (.str "chess.position" 584) none (.ref 259) (.none) 0)), #[]⟩
noncomputable def o261 : Obj := ⟨.type "tuple", none, (.seq #[.str "board" 607, .str "ep" 608, .str "full" 609, .str "geo" 610, .str "half" 611, .str "history" 612, .str "key" 613, .str "kinds" 614, .str "rights" 615, .str "side" 616, .str "sides" 617, .str "zob" 618] 0), #[]⟩
noncomputable def o262 (P : Params) : Obj := ⟨.type "dict", none, (.dict #[kv P "__module__" 593 (.str "chess.position" 584), kv P "__firstlineno__" 597 (.int 223 596), kv P "__init__" 606 (.ref 260), kv P "__static_attributes__" 619 (.ref 261), kv P "__dict__" 621 (.ref 264), kv P "__weakref__" 623 (.ref 265), kv P "__doc__" 624 (.none)] 4), #[]⟩
noncomputable def o263 : Obj := ⟨.type "type", none, (.cls ⟨"Position", [.type "object"], [.ref 263, .type "object"], 262, "Position", true, [], [], false, none, false⟩), #[none, none, some (.str "Position" 586), some (.str "Position" 594), some (.builtin "object.__new__"), some (.bool true)]⟩
noncomputable def o264 : Obj := ⟨.type "getset_descriptor", none, (.fields #[.str "__dict__" 620, .ref 263, .builtin "function.__dict__", .builtin "function.__dict__#set"]), #[]⟩
noncomputable def o265 : Obj := ⟨.type "getset_descriptor", none, (.fields #[.str "__weakref__" 622, .ref 263, .builtin "ExceptionGroup.__weakref__", .none]), #[]⟩
noncomputable def o266 : Obj := ⟨.type "super", none, (.fields #[.ref 263, .ref 263, .ref 263]), #[]⟩
noncomputable def o267 : Obj := ⟨.type "builtin_function_or_method", none, (.fields #[.builtin "object.__init_subclass__", .ref 263]), #[]⟩
noncomputable def o268 : Obj := ⟨.type "tuple", none, (.seq #[] 0), #[]⟩
noncomputable def o269 : Obj := ⟨.none, none, (.fields #[]), #[]⟩
noncomputable def o270 : Obj := ⟨.type "tuple", none, (.seq #[.str "pos" 630, .str "piece" 631, .str "s" 632, .str "bit" 633] 0), #[]⟩
noncomputable def o271 : Obj := ⟨.type "tuple", none, (.seq #[] 0), #[]⟩
noncomputable def o272 : Obj := ⟨.none, none, (.func (fdOf (stA 52) "put_piece" 0 (.none) (.none) (.none) (.none) none (.none) (.none) 0)), #[]⟩
noncomputable def o273 : Obj := ⟨.type "code", none, (.fields #[.str "put_piece" 627, .str "put_piece" 628, .str "/claim/cut.py" 629, .int 238 0, .int 3 0, .int 0 0, .int 0 0, .int 3 0, .ref 268, .bool true, .int 181 0, .ref 269, .none, .ref 270, .ref 271, .ref 272, .int 634 0, .int 238 0, .str "/claim/cut.py" 635]), #[]⟩
noncomputable def o274 : Obj := ⟨.type "function", none, (.func (fdOf (stA 52) "put_piece" 3 (.none) (.none) (.none) (.str "chess.position" 584) none (.ref 273) (.none) 0)), #[]⟩
noncomputable def o275 : Obj := ⟨.type "tuple", none, (.seq #[] 0), #[]⟩
noncomputable def o276 : Obj := ⟨.none, none, (.fields #[]), #[]⟩
noncomputable def o277 : Obj := ⟨.type "tuple", none, (.seq #[.str "pos" 640] 0), #[]⟩
noncomputable def o278 : Obj := ⟨.type "tuple", none, (.seq #[] 0), #[]⟩
noncomputable def o279 : Obj := ⟨.none, none, (.func (fdOf (stA 53) "occupied" 0 (.none) (.none) (.none) (.none) none (.none) (.none) 0)), #[]⟩
noncomputable def o280 : Obj := ⟨.type "code", none, (.fields #[.str "occupied" 637, .str "occupied" 638, .str "/claim/cut.py" 639, .int 244 0, .int 1 0, .int 0 0, .int 0 0, .int 3 0, .ref 275, .bool true, .int 181 0, .ref 276, .none, .ref 277, .ref 278, .ref 279, .int 641 0, .int 244 0, .str "/claim/cut.py" 642]), #[]⟩
noncomputable def o281 : Obj := ⟨.type "function", none, (.func (fdOf (stA 53) "occupied" 3 (.none) (.none) (.none) (.str "chess.position" 584) none (.ref 280) (.none) 0)), #[]⟩
noncomputable def o282 : Obj := ⟨.type "tuple", none, (.seq #[] 0), #[]⟩
noncomputable def o283 : Obj := ⟨.none, none, (.fields #[]), #[]⟩
noncomputable def o284 : Obj := ⟨.type "tuple", none, (.seq #[.str "pos" 647, .str "side" 648] 0), #[]⟩
noncomputable def o285 : Obj := ⟨.type "tuple", none, (.seq #[] 0), #[]⟩
noncomputable def o286 : Obj := ⟨.none, none, (.func (fdOf (stA 54) "king_square" 0 (.none) (.none) (.none) (.none) none (.none) (.none) 0)), #[]⟩
noncomputable def o287 : Obj := ⟨.type "code", none, (.fields #[.str "king_square" 644, .str "king_square" 645, .str "/claim/cut.py" 646, .int 246 0, .int 2 0, .int 0 0, .int 0 0, .int 3 0, .ref 282, .bool true, .int 181 0, .ref 283, .none, .ref 284, .ref 285, .ref 286, .int 649 0, .int 246 0, .str "/claim/cut.py" 650]), #[]⟩
noncomputable def o288 : Obj := ⟨.type "function", none, (.func (fdOf (stA 54) "king_square" 3 (.none) (.none) (.none) (.str "chess.position" 584) none (.ref 287) (.none) 0)), #[]⟩
noncomputable def o3v5 (P : Params) : Obj := ⟨.type "dict", none, (.dict #[kv P "__name__" 165 (.str "chess.see" 735), kv P "__doc__" 166 (.none), kv P "__package__" 167 (.none), kv P "__loader__" 168 (.builtin "__main__.__loader__#opaque"), kv P "__spec__" 169 (.none), kv P "__annotations__" 170 (.ref 6), kv P "__builtins__" 171 (.ref 4), kv P "__file__" 173 (.str "/claim/cut.py" 172), kv P "__cached__" 174 (.none), kv P "WHITE" 190 (.int 0 189), kv P "BLACK" 192 (.int 1 191), kv P "PAWN" 194 (.int 1 193), kv P "KNIGHT" 196 (.int 2 195), kv P "BISHOP" 198 (.int 3 197), kv P "ROOK" 200 (.int 4 199), kv P "QUEEN" 202 (.int 5 201), kv P "KING" 204 (.int 6 203), kv P "EMPTY" 206 (.int 0 205), kv P "NORMAL" 208 (.int 0 207), kv P "PROMOTION" 210 (.int 1 209), kv P "EN_PASSANT" 212 (.int 2 211), kv P "CASTLING" 214 (.int 3 213), kv P "make_piece" 222 (.ref 21), kv P "side_of" 229 (.ref 28), kv P "kind_of" 236 (.ref 35), kv P "pack_move" 247 (.ref 42), kv P "move_from" 254 (.ref 49), kv P "move_to" 261 (.ref 56), kv P "move_special" 268 (.ref 63), kv P "more_than_one" 277 (.ref 70), kv P "highest" 286 (.ref 77), kv P "lowest" 293 (.ref 84), kv P "squares_of" 302 (.ref 91), kv P "ChessError" 333 (.ref 108), kv P "STEP_FILES" 347 (.ref 112), kv P "STEP_RANKS" 359 (.ref 113), kv P "Geometry" 404 (.ref 130), kv P "is_growing" 411 (.ref 141), kv P "add_masks" 422 (.ref 148), kv P "inner_squares" 431 (.ref 155), kv P "add_rays" 445 (.ref 162), kv P "add_pawns" 453 (.ref 169), kv P "add_knights" 470 (.ref 176), kv P "add_castles" 483 (.ref 183), kv P "make_geometry" 494 (.ref 190), kv P "ray_attacks" 509 (.ref 197), kv P "rook_attacks" 520 (.ref 204), kv P "bishop_attacks" 531 (.ref 211), kv P "queen_attacks" 540 (.ref 218), kv P "slider_attacks" 550 (.ref 225), kv P "piece_attacks" 561 (.ref 232), kv P "direction" 573 (.ref 239), kv P "between" 583 (.ref 246), kv P "Position" 626 (.ref 263), kv P "put_piece" 636 (.ref 274), kv P "occupied" 643 (.ref 281), kv P "king_square" 651 (.ref 288), kv P "straight_sliders" 660 (.ref 295), kv P "slanting_sliders" 667 (.ref 302), kv P "pawn_attackers" 676 (.ref 309), kv P "step_attackers" 687 (.ref 316), kv P "line_attackers" 699 (.ref 323), kv P "attackers_to" 709 (.ref 330), kv P "snipers_of" 719 (.ref 337), kv P "blockers" 734 (.ref 344), kv P "least_attacker" 748 (.ref 351), kv P "next_attacker" 761 (.ref 358), kv P "opened_attackers" 772 (.ref 365)] 68), #[]⟩
noncomputable def o12v6 : Obj := ⟨.none, none, (.fields #[.int 15 0, .int 0 0, .ref 20, .int 17 0, .int 0 0, .ref 27, .int 19 0, .int 0 0, .ref 34, .int 21 0, .int 0 0, .ref 41, .int 26 0, .int 0 0, .ref 48, .int 28 0, .int 0 0, .ref 55, .int 30 0, .int 0 0, .ref 62, .int 33 0, .int 0 0, .ref 69, .int 35 0, .int 0 0, .ref 76, .int 48 0, .int 0 0, .ref 83, .int 50 0, .int 0 0, .ref 90, .int 63 0, .int 0 0, .ref 97, .int 71 0, .int 0 0, .ref 119, .int 88 0, .int 0 0, .ref 140, .int 90 0, .int 0 0, .ref 147, .int 98 0, .int 0 0, .ref 154, .int 109 0, .int 0 0, .ref 161, .int 124 0, .int 0 0, .ref 168, .int 128 0, .int 0 0, .ref 175, .int 140 0, .int 0 0, .ref 182, .int 157 0, .int 0 0, .ref 189, .int 168 0, .int 0 0, .ref 196, .int 183 0, .int 0 0, .ref 203, .int 188 0, .int 0 0, .ref 210, .int 193 0, .int 0 0, .ref 217, .int 195 0, .int 0 0, .ref 224, .int 203 0, .int 0 0, .ref 231, .int 212 0, .int 0 0, .ref 238, .int 217 0, .int 0 0, .ref 245, .int 223 0, .int 0 0, .ref 252, .int 238 0, .int 0 0, .ref 273, .int 244 0, .int 0 0, .ref 280, .int 246 0, .int 0 0, .ref 287, .int 249 0, .int 0 0, .ref 294, .int 251 0, .int 0 0, .ref 301, .int 253 0, .int 0 0, .ref 308, .int 255 0, .int 0 0, .ref 315, .int 260 0, .int 0 0, .ref 322, .int 269 0, .int 0 0, .ref 329, .int 272 0, .int 0 0, .ref 336, .int 277 0, .int 0 0, .ref 343, .int 291 0, .int 0 0, .ref 350, .int 300 0, .int 0 0, .ref 357, .int 308 0, .int 0 0, .ref 364]), #[]⟩
noncomputable def o289 : Obj := ⟨.type "tuple", none, (.seq #[] 0), #[]⟩
noncomputable def o290 : Obj := ⟨.none, none, (.fields #[]), #[]⟩
noncomputable def o291 : Obj := ⟨.type "tuple", none, (.seq #[.str "pos" 657] 0), #[]⟩
noncomputable def o292 : Obj := ⟨.type "tuple", none, (.seq #[] 0), #[]⟩
noncomputable def o293 : Obj := ⟨.none, none, (.func (fdOf (stA 56) "straight_sliders" 0 (.none) (.none) (.none) (.none) none (.none) (.none) 0)), #[]⟩
noncomputable def o294 : Obj := ⟨.type "code", none, (.fields #[.str "straight_sliders" 654, .str "straight_sliders" 655, .str "/claim/cut.py" 656, .int 249 0, .int 1 0, .int 0 0, .int 0 0, .int 3 0, .ref 289, .bool true, .int 181 0, .ref 290, .none, .ref 291, .ref 292, .ref 293, .int 658 0, .int 249 0, .str "/claim/cut.py" 659]), #[]⟩
noncomputable def o295 : Obj := ⟨.type "function", none, (.func (fdOf (stA 56) "straight_sliders" 3 (.none) (.none) (.none) (.str "chess.attacks" 652) none (.ref 294) (.none) 0)), #[]⟩
noncomputable def o296 : Obj := ⟨.type "tuple", none, (.seq #[] 0), #[]⟩
noncomputable def o297 : Obj := ⟨.none, none, (.fields #[]), #[]⟩
noncomputable def o298 : Obj := ⟨.type "tuple", none, (.seq #[.str "pos" 664] 0), #[]⟩
noncomputable def o299 : Obj := ⟨.type "tuple", none, (.seq #[] 0), #[]⟩
noncomputable def o300 : Obj := ⟨.none, none, (.func (fdOf (stA 57) "slanting_sliders" 0 (.none) (.none) (.none) (.none) none (.none) (.none) 0)), #[]⟩
noncomputable def o301 : Obj := ⟨.type "code", none, (.fields #[.str "slanting_sliders" 661, .str "slanting_sliders" 662, .str "/claim/cut.py" 663, .int 251 0, .int 1 0, .int 0 0, .int 0 0, .int 3 0, .ref 296, .bool true, .int 181 0, .ref 297, .none, .ref 298, .ref 299, .ref 300, .int 665 0, .int 251 0, .str "/claim/cut.py" 666]), #[]⟩
noncomputable def o302 : Obj := ⟨.type "function", none, (.func (fdOf (stA 57) "slanting_sliders" 3 (.none) (.none) (.none) (.str "chess.attacks" 652) none (.ref 301) (.none) 0)), #[]⟩
noncomputable def o303 : Obj := ⟨.type "tuple", none, (.seq #[] 0), #[]⟩
noncomputable def o304 : Obj := ⟨.none, none, (.fields #[]), #[]⟩
noncomputable def o305 : Obj := ⟨.type "tuple", none, (.seq #[.str "pos" 671, .str "square" 672, .str "side" 673] 0), #[]⟩
noncomputable def o306 : Obj := ⟨.type "tuple", none, (.seq #[] 0), #[]⟩
noncomputable def o307 : Obj := ⟨.none, none, (.func (fdOf (stA 58) "pawn_attackers" 0 (.none) (.none) (.none) (.none) none (.none) (.none) 0)), #[]⟩
noncomputable def o308 : Obj := ⟨.type "code", none, (.fields #[.str "pawn_attackers" 668, .str "pawn_attackers" 669, .str "/claim/cut.py" 670, .int 253 0, .int 3 0, .int 0 0, .int 0 0, .int 3 0, .ref 303, .bool true, .int 181 0, .ref 304, .none, .ref 305, .ref 306, .ref 307, .int 674 0, .int 253 0, .str "/claim/cut.py" 675]), #[]⟩
noncomputable def o309 : Obj := ⟨.type "function", none, (.func (fdOf (stA 58) "pawn_attackers" 3 (.none) (.none) (.none) (.str "chess.attacks" 652) none (.ref 308) (.none) 0)), #[]⟩
noncomputable def o310 : Obj := ⟨.type "tuple", none, (.seq #[] 0), #[]⟩
noncomputable def o311 : Obj := ⟨.none, none, (.fields #[]), #[]⟩
noncomputable def o312 : Obj := ⟨.type "tuple", none, (.seq #[.str "pos" 680, .str "square" 681, .str "side" 682, .str "geo" 683, .str "near" 684] 0), #[]⟩
noncomputable def o313 : Obj := ⟨.type "tuple", none, (.seq #[] 0), #[]⟩
noncomputable def o314 : Obj := ⟨.none, none, (.func (fdOf (stA 59) "step_attackers" 0 (.none) (.none) (.none) (.none) none (.none) (.none) 0)), #[]⟩
noncomputable def o315 : Obj := ⟨.type "code", none, (.fields #[.str "step_attackers" 677, .str "step_attackers" 678, .str "/claim/cut.py" 679, .int 255 0, .int 3 0, .int 0 0, .int 0 0, .int 3 0, .ref 310, .bool true, .int 181 0, .ref 311, .none, .ref 312, .ref 313, .ref 314, .int 685 0, .int 255 0, .str "/claim/cut.py" 686]), #[]⟩
noncomputable def o316 : Obj := ⟨.type "function", none, (.func (fdOf (stA 59) "step_attackers" 3 (.none) (.none) (.none) (.str "chess.attacks" 652) none (.ref 315) (.none) 0)), #[]⟩
noncomputable def o317 : Obj := ⟨.type "tuple", none, (.seq #[] 0), #[]⟩
noncomputable def o318 : Obj := ⟨.none, none, (.fields #[]), #[]⟩
noncomputable def o319 : Obj := ⟨.type "tuple", none, (.seq #[.str "pos" 691, .str "square" 692, .str "occupied" 693, .str "hits" 694, .str "straight" 695, .str "slanting" 696] 0), #[]⟩
noncomputable def o320 : Obj := ⟨.type "tuple", none, (.seq #[] 0), #[]⟩
noncomputable def o321 : Obj := ⟨.none, none, (.func (fdOf (stA 60) "line_attackers" 0 (.none) (.none) (.none) (.none) none (.none) (.none) 0)), #[]⟩
noncomputable def o322 : Obj := ⟨.type "code", none, (.fields #[.str "line_attackers" 688, .str "line_attackers" 689, .str "/claim/cut.py" 690, .int 260 0, .int 3 0, .int 0 0, .int 0 0, .int 3 0, .ref 317, .bool true, .int 181 0, .ref 318, .none, .ref 319, .ref 320, .ref 321, .int 697 0, .int 260 0, .str "/claim/cut.py" 698]), #[]⟩
noncomputable def o323 : Obj := ⟨.type "function", none, (.func (fdOf (stA 60) "line_attackers" 3 (.none) (.none) (.none) (.str "chess.attacks" 652) none (.ref 322) (.none) 0)), #[]⟩
noncomputable def o324 : Obj := ⟨.type "tuple", none, (.seq #[] 0), #[]⟩
noncomputable def o325 : Obj := ⟨.none, none, (.fields #[]), #[]⟩
noncomputable def o326 : Obj := ⟨.type "tuple", none, (.seq #[.str "pos" 703, .str "square" 704, .str "occupied" 705, .str "steps" 706] 0), #[]⟩
noncomputable def o327 : Obj := ⟨.type "tuple", none, (.seq #[] 0), #[]⟩
noncomputable def o328 : Obj := ⟨.none, none, (.func (fdOf (stA 61) "attackers_to" 0 (.none) (.none) (.none) (.none) none (.none) (.none) 0)), #[]⟩
noncomputable def o329 : Obj := ⟨.type "code", none, (.fields #[.str "attackers_to" 700, .str "attackers_to" 701, .str "/claim/cut.py" 702, .int 269 0, .int 3 0, .int 0 0, .int 0 0, .int 3 0, .ref 324, .bool true, .int 181 0, .ref 325, .none, .ref 326, .ref 327, .ref 328, .int 707 0, .int 269 0, .str "/claim/cut.py" 708]), #[]⟩
noncomputable def o330 : Obj := ⟨.type "function", none, (.func (fdOf (stA 61) "attackers_to" 3 (.none) (.none) (.none) (.str "chess.attacks" 652) none (.ref 329) (.none) 0)), #[]⟩
noncomputable def o331 : Obj := ⟨.type "tuple", none, (.seq #[] 0), #[]⟩
noncomputable def o332 : Obj := ⟨.none, none, (.fields #[]), #[]⟩
noncomputable def o333 : Obj := ⟨.type "tuple", none, (.seq #[.str "pos" 713, .str "side" 714, .str "king" 715, .str "hits" 716] 0), #[]⟩
noncomputable def o334 : Obj := ⟨.type "tuple", none, (.seq #[] 0), #[]⟩
noncomputable def o335 : Obj := ⟨.none, none, (.func (fdOf (stA 62) "snipers_of" 0 (.none) (.none) (.none) (.none) none (.none) (.none) 0)), #[]⟩
noncomputable def o336 : Obj := ⟨.type "code", none, (.fields #[.str "snipers_of" 710, .str "snipers_of" 711, .str "/claim/cut.py" 712, .int 272 0, .int 2 0, .int 0 0, .int 0 0, .int 3 0, .ref 331, .bool true, .int 181 0, .ref 332, .none, .ref 333, .ref 334, .ref 335, .int 717 0, .int 272 0, .str "/claim/cut.py" 718]), #[]⟩
noncomputable def o337 : Obj := ⟨.type "function", none, (.func (fdOf (stA 62) "snipers_of" 3 (.none) (.none) (.none) (.str "chess.attacks" 652) none (.ref 336) (.none) 0)), #[]⟩
noncomputable def o338 : Obj := ⟨.type "tuple", none, (.seq #[] 0), #[]⟩
noncomputable def o339 : Obj := ⟨.none, none, (.fields #[]), #[]⟩
noncomputable def o340 : Obj := ⟨.type "tuple", none, (.seq #[.str "pos" 723, .str "side" 724, .str "king" 725, .str "snipers" 726, .str "standing" 727, .str "held" 728, .str "pinners" 729, .str "sniper" 730, .str "inside" 731] 0), #[]⟩
noncomputable def o341 : Obj := ⟨.type "tuple", none, (.seq #[] 0), #[]⟩
noncomputable def o342 : Obj := ⟨.none, none, (.func (fdOf (stA 63) "blockers" 0 (.none) (.none) (.none) (.none) none (.none) (.none) 0)), #[]⟩
noncomputable def o343 : Obj := ⟨.type "code", none, (.fields #[.str "blockers" 720, .str "blockers" 721, .str "/claim/cut.py" 722, .int 277 0, .int 2 0, .int 0 0, .int 0 0, .int 3 0, .ref 338, .bool true, .int 181 0, .ref 339, .none, .ref 340, .ref 341, .ref 342, .int 732 0, .int 277 0, .str "/claim/cut.py" 733]), #[]⟩
noncomputable def o344 : Obj := ⟨.type "function", none, (.func (fdOf (stA 63) "blockers" 3 (.none) (.none) (.none) (.str "chess.attacks" 652) none (.ref 343) (.none) 0)), #[]⟩
noncomputable def o345 : Obj := ⟨.type "tuple", none, (.seq #[] 0), #[]⟩
noncomputable def o346 : Obj := ⟨.none, none, (.fields #[]), #[]⟩
noncomputable def o347 : Obj := ⟨.type "tuple", none, (.seq #[.str "pos" 740, .str "attackers" 741, .str "side" 742, .str "own" 743, .str "kind" 744, .str "some" 745] 0), #[]⟩
noncomputable def o348 : Obj := ⟨.type "tuple", none, (.seq #[] 0), #[]⟩
noncomputable def o349 : Obj := ⟨.none, none, (.func (fdOf (stA 65) "least_attacker" 0 (.none) (.none) (.none) (.none) none (.none) (.none) 0)), #[]⟩
noncomputable def o350 : Obj := ⟨.type "code", none, (.fields #[.str "least_attacker" 737, .str "least_attacker" 738, .str "/claim/cut.py" 739, .int 291 0, .int 3 0, .int 0 0, .int 0 0, .int 3 0, .ref 345, .bool true, .int 181 0, .ref 346, .none, .ref 347, .ref 348, .ref 349, .int 746 0, .int 291 0, .str "/claim/cut.py" 747]), #[]⟩
noncomputable def o351 : Obj := ⟨.type "function", none, (.func (fdOf (stA 65) "least_attacker" 3 (.none) (.none) (.none) (.str "chess.see" 735) none (.ref 350) (.none) 0)), #[]⟩
noncomputable def o352 : Obj := ⟨.type "tuple", none, (.seq #[] 0), #[]⟩
noncomputable def o353 : Obj := ⟨.none, none, (.fields #[]), #[]⟩
noncomputable def o354 : Obj := ⟨.type "tuple", none, (.seq #[.str "pos" 752, .str "attackers" 753, .str "occupied" 754, .str "side" 755, .str "pins" 756, .str "free" 757, .str "square" 758] 0), #[]⟩
noncomputable def o355 : Obj := ⟨.type "tuple", none, (.seq #[] 0), #[]⟩
noncomputable def o356 : Obj := ⟨.none, none, (.func (fdOf (stA 66) "next_attacker" 0 (.none) (.none) (.none) (.none) none (.none) (.none) 0)), #[]⟩
noncomputable def o357 : Obj := ⟨.type "code", none, (.fields #[.str "next_attacker" 749, .str "next_attacker" 750, .str "/claim/cut.py" 751, .int 300 0, .int 5 0, .int 0 0, .int 0 0, .int 3 0, .ref 352, .bool true, .int 181 0, .ref 353, .none, .ref 354, .ref 355, .ref 356, .int 759 0, .int 300 0, .str "/claim/cut.py" 760]), #[]⟩
noncomputable def o358 : Obj := ⟨.type "function", none, (.func (fdOf (stA 66) "next_attacker" 3 (.none) (.none) (.none) (.str "chess.see" 735) none (.ref 357) (.none) 0)), #[]⟩
noncomputable def o359 : Obj := ⟨.type "tuple", none, (.seq #[] 0), #[]⟩
noncomputable def o360 : Obj := ⟨.none, none, (.fields #[]), #[]⟩
noncomputable def o361 : Obj := ⟨.type "tuple", none, (.seq #[.str "pos" 765, .str "square" 766, .str "occupied" 767, .str "kind" 768, .str "found" 769] 0), #[]⟩
noncomputable def o362 : Obj := ⟨.type "tuple", none, (.seq #[] 0), #[]⟩
noncomputable def o363 : Obj := ⟨.none, none, (.func (fdOf (stA 67) "opened_attackers" 0 (.none) (.none) (.none) (.none) none (.none) (.none) 0)), #[]⟩
noncomputable def o364 : Obj := ⟨.type "code", none, (.fields #[.str "opened_attackers" 762, .str "opened_attackers" 763, .str "/claim/cut.py" 764, .int 308 0, .int 4 0, .int 0 0, .int 0 0, .int 3 0, .ref 359, .bool true, .int 181 0, .ref 360, .none, .ref 361, .ref 362, .ref 363, .int 770 0, .int 308 0, .str "/claim/cut.py" 771]), #[]⟩
noncomputable def o365 : Obj := ⟨.type "function", none, (.func (fdOf (stA 67) "opened_attackers" 3 (.none) (.none) (.none) (.str "chess.see" 735) none (.ref 364) (.none) 0)), #[]⟩
noncomputable def o3v6 (P : Params) : Obj := ⟨.type "dict", none, (.dict #[kv P "__name__" 165 (.str "law_sa0133_01" 862), kv P "__doc__" 166 (.none), kv P "__package__" 167 (.none), kv P "__loader__" 168 (.builtin "__main__.__loader__#opaque"), kv P "__spec__" 169 (.none), kv P "__annotations__" 170 (.ref 6), kv P "__builtins__" 171 (.ref 4), kv P "__file__" 173 (.str "/claim/cut.py" 172), kv P "__cached__" 174 (.none), kv P "WHITE" 190 (.int 0 189), kv P "BLACK" 192 (.int 1 191), kv P "PAWN" 194 (.int 1 193), kv P "KNIGHT" 196 (.int 2 195), kv P "BISHOP" 198 (.int 3 197), kv P "ROOK" 200 (.int 4 199), kv P "QUEEN" 202 (.int 5 201), kv P "KING" 204 (.int 6 203), kv P "EMPTY" 206 (.int 0 205), kv P "NORMAL" 208 (.int 0 207), kv P "PROMOTION" 210 (.int 1 209), kv P "EN_PASSANT" 212 (.int 2 211), kv P "CASTLING" 214 (.int 3 213), kv P "make_piece" 222 (.ref 21), kv P "side_of" 229 (.ref 28), kv P "kind_of" 236 (.ref 35), kv P "pack_move" 247 (.ref 42), kv P "move_from" 254 (.ref 49), kv P "move_to" 261 (.ref 56), kv P "move_special" 268 (.ref 63), kv P "more_than_one" 277 (.ref 70), kv P "highest" 286 (.ref 77), kv P "lowest" 293 (.ref 84), kv P "squares_of" 302 (.ref 91), kv P "ChessError" 333 (.ref 108), kv P "STEP_FILES" 347 (.ref 112), kv P "STEP_RANKS" 359 (.ref 113), kv P "Geometry" 404 (.ref 130), kv P "is_growing" 411 (.ref 141), kv P "add_masks" 422 (.ref 148), kv P "inner_squares" 431 (.ref 155), kv P "add_rays" 445 (.ref 162), kv P "add_pawns" 453 (.ref 169), kv P "add_knights" 470 (.ref 176), kv P "add_castles" 483 (.ref 183), kv P "make_geometry" 494 (.ref 190), kv P "ray_attacks" 509 (.ref 197), kv P "rook_attacks" 520 (.ref 204), kv P "bishop_attacks" 531 (.ref 211), kv P "queen_attacks" 540 (.ref 218), kv P "slider_attacks" 550 (.ref 225), kv P "piece_attacks" 561 (.ref 232), kv P "direction" 573 (.ref 239), kv P "between" 583 (.ref 246), kv P "Position" 626 (.ref 263), kv P "put_piece" 636 (.ref 274), kv P "occupied" 643 (.ref 281), kv P "king_square" 651 (.ref 288), kv P "straight_sliders" 660 (.ref 295), kv P "slanting_sliders" 667 (.ref 302), kv P "pawn_attackers" 676 (.ref 309), kv P "step_attackers" 687 (.ref 316), kv P "line_attackers" 699 (.ref 323), kv P "attackers_to" 709 (.ref 330), kv P "snipers_of" 719 (.ref 337), kv P "blockers" 734 (.ref 344), kv P "least_attacker" 748 (.ref 351), kv P "next_attacker" 761 (.ref 358), kv P "opened_attackers" 772 (.ref 365), kv P "first_taken" 785 (.ref 372), kv P "see" 804 (.ref 379), kv P "see_ge" 824 (.ref 386), kv P "Zobrist" 861 (.ref 403), kv P "_law_ration" 871 (.ref 414)] 73), #[]⟩
noncomputable def o12v7 : Obj := ⟨.none, none, (.fields #[.int 15 0, .int 0 0, .ref 20, .int 17 0, .int 0 0, .ref 27, .int 19 0, .int 0 0, .ref 34, .int 21 0, .int 0 0, .ref 41, .int 26 0, .int 0 0, .ref 48, .int 28 0, .int 0 0, .ref 55, .int 30 0, .int 0 0, .ref 62, .int 33 0, .int 0 0, .ref 69, .int 35 0, .int 0 0, .ref 76, .int 48 0, .int 0 0, .ref 83, .int 50 0, .int 0 0, .ref 90, .int 63 0, .int 0 0, .ref 97, .int 71 0, .int 0 0, .ref 119, .int 88 0, .int 0 0, .ref 140, .int 90 0, .int 0 0, .ref 147, .int 98 0, .int 0 0, .ref 154, .int 109 0, .int 0 0, .ref 161, .int 124 0, .int 0 0, .ref 168, .int 128 0, .int 0 0, .ref 175, .int 140 0, .int 0 0, .ref 182, .int 157 0, .int 0 0, .ref 189, .int 168 0, .int 0 0, .ref 196, .int 183 0, .int 0 0, .ref 203, .int 188 0, .int 0 0, .ref 210, .int 193 0, .int 0 0, .ref 217, .int 195 0, .int 0 0, .ref 224, .int 203 0, .int 0 0, .ref 231, .int 212 0, .int 0 0, .ref 238, .int 217 0, .int 0 0, .ref 245, .int 223 0, .int 0 0, .ref 252, .int 238 0, .int 0 0, .ref 273, .int 244 0, .int 0 0, .ref 280, .int 246 0, .int 0 0, .ref 287, .int 249 0, .int 0 0, .ref 294, .int 251 0, .int 0 0, .ref 301, .int 253 0, .int 0 0, .ref 308, .int 255 0, .int 0 0, .ref 315, .int 260 0, .int 0 0, .ref 322, .int 269 0, .int 0 0, .ref 329, .int 272 0, .int 0 0, .ref 336, .int 277 0, .int 0 0, .ref 343, .int 291 0, .int 0 0, .ref 350, .int 300 0, .int 0 0, .ref 357, .int 308 0, .int 0 0, .ref 364, .int 315 0, .int 0 0, .ref 371, .int 324 0, .int 0 0, .ref 378, .int 347 0, .int 0 0, .ref 385, .int 375 0, .int 0 0, .ref 392, .int 383 0, .int 0 0, .ref 413]), #[]⟩
noncomputable def o366 : Obj := ⟨.type "tuple", none, (.seq #[] 0), #[]⟩
noncomputable def o367 : Obj := ⟨.none, none, (.fields #[]), #[]⟩
noncomputable def o368 : Obj := ⟨.type "tuple", none, (.seq #[.str "pos" 776, .str "move" 777, .str "values" 778, .str "goal" 779, .str "gone" 780, .str "taken" 781, .str "behind" 782] 0), #[]⟩
noncomputable def o369 : Obj := ⟨.type "tuple", none, (.seq #[] 0), #[]⟩
noncomputable def o370 : Obj := ⟨.none, none, (.func (fdOf (stA 68) "first_taken" 0 (.none) (.none) (.none) (.none) none (.none) (.none) 0)), #[]⟩
noncomputable def o371 : Obj := ⟨.type "code", none, (.fields #[.str "first_taken" 773, .str "first_taken" 774, .str "/claim/cut.py" 775, .int 315 0, .int 3 0, .int 0 0, .int 0 0, .int 3 0, .ref 366, .bool true, .int 181 0, .ref 367, .none, .ref 368, .ref 369, .ref 370, .int 783 0, .int 315 0, .str "/claim/cut.py" 784]), #[]⟩
noncomputable def o372 : Obj := ⟨.type "function", none, (.func (fdOf (stA 68) "first_taken" 3 (.none) (.none) (.none) (.str "chess.see" 735) none (.ref 371) (.none) 0)), #[]⟩
noncomputable def o373 : Obj := ⟨.type "tuple", none, (.seq #[] 0), #[]⟩
noncomputable def o374 : Obj := ⟨.none, none, (.fields #[]), #[]⟩
noncomputable def o375 : Obj := ⟨.type "tuple", none, (.seq #[.str "pos" 789, .str "move" 790, .str "values" 791, .str "goal" 792, .str "taken" 793, .str "occupied" 794, .str "pins" 795, .str "attackers" 796, .str "kind" 797, .str "side" 798, .str "swap" 799, .str "square" 800, .str "last" 801] 0), #[]⟩
noncomputable def o376 : Obj := ⟨.type "tuple", none, (.seq #[] 0), #[]⟩
noncomputable def o377 : Obj := ⟨.none, none, (.func (fdOf (stA 69) "see" 0 (.none) (.none) (.none) (.none) none (.none) (.none) 0)), #[]⟩
noncomputable def o378 : Obj := ⟨.type "code", none, (.fields #[.str "see" 786, .str "see" 787, .str "/claim/cut.py" 788, .int 324 0, .int 3 0, .int 0 0, .int 0 0, .int 3 0, .ref 373, .bool true, .int 181 0, .ref 374, .none, .ref 375, .ref 376, .ref 377, .int 802 0, .int 324 0, .str "/claim/cut.py" 803]), #[]⟩
noncomputable def o379 : Obj := ⟨.type "function", none, (.func (fdOf (stA 69) "see" 3 (.none) (.none) (.none) (.str "chess.see" 735) none (.ref 378) (.none) 0)), #[]⟩
noncomputable def o380 : Obj := ⟨.type "tuple", none, (.seq #[] 0), #[]⟩
noncomputable def o381 : Obj := ⟨.none, none, (.fields #[]), #[]⟩
noncomputable def o382 : Obj := ⟨.type "tuple", none, (.seq #[.str "pos" 808, .str "move" 809, .str "threshold" 810, .str "values" 811, .str "goal" 812, .str "taken" 813, .str "occupied" 814, .str "swap" 815, .str "pins" 816, .str "attackers" 817, .str "side" 818, .str "good" 819, .str "square" 820, .str "kind" 821] 0), #[]⟩
noncomputable def o383 : Obj := ⟨.type "tuple", none, (.seq #[] 0), #[]⟩
noncomputable def o384 : Obj := ⟨.none, none, (.func (fdOf (stA 70) "see_ge" 0 (.none) (.none) (.none) (.none) none (.none) (.none) 0)), #[]⟩
noncomputable def o385 : Obj := ⟨.type "code", none, (.fields #[.str "see_ge" 805, .str "see_ge" 806, .str "/claim/cut.py" 807, .int 347 0, .int 4 0, .int 0 0, .int 0 0, .int 3 0, .ref 380, .bool true, .int 181 0, .ref 381, .none, .ref 382, .ref 383, .ref 384, .int 822 0, .int 347 0, .str "/claim/cut.py" 823]), #[]⟩
noncomputable def o386 : Obj := ⟨.type "function", none, (.func (fdOf (stA 70) "see_ge" 3 (.none) (.none) (.none) (.str "chess.see" 735) none (.ref 385) (.none) 0)), #[]⟩
noncomputable def o387 : Obj := ⟨.type "tuple", none, (.seq #[] 0), #[]⟩
noncomputable def o388 : Obj := ⟨.type "builtin_function_or_method", none, (.fields #[.builtin "type.__prepare__", .type "type"]), #[]⟩
noncomputable def o389 (P : Params) : Obj := ⟨.type "dict", none, (.dict #[kv P "__module__" 834 (.str "chess.zobrist" 825), kv P "__qualname__" 836 (.str "Zobrist" 835), kv P "__firstlineno__" 838 (.int 375 837), kv P "__init__" 849 (.ref 400), kv P "__static_attributes__" 854 (.ref 401)] 5), #[]⟩
noncomputable def o390 : Obj := ⟨.type "tuple", none, (.seq #[] 0), #[]⟩
noncomputable def o391 : Obj := ⟨.none, none, (.fields #[.int 377 0, .int 4 0, .ref 399]), #[]⟩
noncomputable def o392 : Obj := ⟨.type "code", none, (.fields #[.str "Zobrist" 829, .str "Zobrist" 830, .str "/claim/cut.py" 831, .int 375 0, .int 0 0, .int 0 0, .int 0 0, .int 0 0, .ref 390, .bool false, .int 181 0, .ref 391, .none, .none, .none, .none, .int 832 0, .int 375 0, .str "/claim/cut.py" 833]), #[]⟩
noncomputable def o393 : Obj := ⟨.type "frame", none, .plain, #[some (.ref 392), some (.ref 3), some (.ref 389), none, some (.str "chess.zobrist" 825), none, some (.ref 0)]⟩
noncomputable def o394 : Obj := ⟨.type "tuple", none, (.seq #[] 0), #[]⟩
noncomputable def o395 : Obj := ⟨.none, none, (.fields #[]), #[]⟩
noncomputable def o396 : Obj := ⟨.type "tuple", none, (.seq #[.str "self" 842, .str "pieces" 843, .str "ep" 844, .str "rights" 845, .str "side" 846] 0), #[]⟩
noncomputable def o397 : Obj := ⟨.type "tuple", none, (.seq #[] 0), #[]⟩
noncomputable def o398 : Obj := ⟨.none, none, (.func (fdOf (stB 72 0) "Zobrist.__init__" 0 (.none) (.none) (.none) (.none) none (.none) (.none) 0)), #[]⟩
noncomputable def o399 : Obj := ⟨.type "code", none, (.fields #[.str "__init__" 839, .str "Zobrist.__init__" 840, .str "/claim/cut.py" 841, .int 377 0, .int 5 0, .int 0 0, .int 0 0, .int 3 0, .ref 394, .bool true, .int 181 0, .ref 395, .none, .ref 396, .ref 397, .ref 398, .int 847 0, .int 377 0, .str "/claim/cut.py" 848]), #[]⟩
noncomputable def o400 : Obj := ⟨.type "function", none, (.func (fdOf (stB 72 0) "Zobrist.__init__" 3 (.none) (.none) (.none) (.str "chess.zobrist" 825) none (.ref 399) (.none) 0)), #[]⟩
noncomputable def o401 : Obj := ⟨.type "tuple", none, (.seq #[.str "ep" 850, .str "pieces" 851, .str "rights" 852, .str "side" 853] 0), #[]⟩
noncomputable def o402 (P : Params) : Obj := ⟨.type "dict", none, (.dict #[kv P "__module__" 834 (.str "chess.zobrist" 825), kv P "__firstlineno__" 838 (.int 375 837), kv P "__init__" 849 (.ref 400), kv P "__static_attributes__" 854 (.ref 401), kv P "__dict__" 856 (.ref 404), kv P "__weakref__" 858 (.ref 405), kv P "__doc__" 859 (.none)] 4), #[]⟩
noncomputable def o403 : Obj := ⟨.type "type", none, (.cls ⟨"Zobrist", [.type "object"], [.ref 403, .type "object"], 402, "Zobrist", true, [], [], false, none, false⟩), #[none, none, some (.str "Zobrist" 827), some (.str "Zobrist" 835), some (.builtin "object.__new__"), some (.bool true)]⟩
noncomputable def o404 : Obj := ⟨.type "getset_descriptor", none, (.fields #[.str "__dict__" 855, .ref 403, .builtin "function.__dict__", .builtin "function.__dict__#set"]), #[]⟩
noncomputable def o405 : Obj := ⟨.type "getset_descriptor", none, (.fields #[.str "__weakref__" 857, .ref 403, .builtin "ExceptionGroup.__weakref__", .none]), #[]⟩
noncomputable def o406 : Obj := ⟨.type "super", none, (.fields #[.ref 403, .ref 403, .ref 403]), #[]⟩
noncomputable def o407 : Obj := ⟨.type "builtin_function_or_method", none, (.fields #[.builtin "object.__init_subclass__", .ref 403]), #[]⟩
noncomputable def o408 : Obj := ⟨.type "tuple", none, (.seq #[] 0), #[]⟩
noncomputable def o409 : Obj := ⟨.none, none, (.fields #[]), #[]⟩
noncomputable def o410 : Obj := ⟨.type "tuple", none, (.seq #[.str "sack" 867, .str "many" 868] 0), #[]⟩
noncomputable def o411 : Obj := ⟨.type "tuple", none, (.seq #[] 0), #[]⟩
noncomputable def o412 : Obj := ⟨.none, none, (.func (fdOf (stA 74) "_law_ration" 0 (.none) (.none) (.none) (.none) none (.none) (.none) 0)), #[]⟩
noncomputable def o413 : Obj := ⟨.type "code", none, (.fields #[.str "_law_ration" 864, .str "_law_ration" 865, .str "/claim/cut.py" 866, .int 383 0, .int 2 0, .int 0 0, .int 0 0, .int 3 0, .ref 408, .bool true, .int 181 0, .ref 409, .none, .ref 410, .ref 411, .ref 412, .int 869 0, .int 383 0, .str "/claim/cut.py" 870]), #[]⟩
noncomputable def o414 : Obj := ⟨.type "function", none, (.func (fdOf (stA 74) "_law_ration" 3 (.none) (.none) (.none) (.str "law_sa0133_01" 862) none (.ref 413) (.none) 0)), #[]⟩
noncomputable def o3v7 (P : Params) : Obj := ⟨.type "dict", none, (.dict #[kv P "__name__" 165 (.str "law_sa0133_01" 862), kv P "__doc__" 166 (.none), kv P "__package__" 167 (.none), kv P "__loader__" 168 (.builtin "__main__.__loader__#opaque"), kv P "__spec__" 169 (.none), kv P "__annotations__" 170 (.ref 6), kv P "__builtins__" 171 (.ref 4), kv P "__file__" 173 (.str "/claim/cut.py" 172), kv P "__cached__" 174 (.none), kv P "WHITE" 190 (.int 0 189), kv P "BLACK" 192 (.int 1 191), kv P "PAWN" 194 (.int 1 193), kv P "KNIGHT" 196 (.int 2 195), kv P "BISHOP" 198 (.int 3 197), kv P "ROOK" 200 (.int 4 199), kv P "QUEEN" 202 (.int 5 201), kv P "KING" 204 (.int 6 203), kv P "EMPTY" 206 (.int 0 205), kv P "NORMAL" 208 (.int 0 207), kv P "PROMOTION" 210 (.int 1 209), kv P "EN_PASSANT" 212 (.int 2 211), kv P "CASTLING" 214 (.int 3 213), kv P "make_piece" 222 (.ref 21), kv P "side_of" 229 (.ref 28), kv P "kind_of" 236 (.ref 35), kv P "pack_move" 247 (.ref 42), kv P "move_from" 254 (.ref 49), kv P "move_to" 261 (.ref 56), kv P "move_special" 268 (.ref 63), kv P "more_than_one" 277 (.ref 70), kv P "highest" 286 (.ref 77), kv P "lowest" 293 (.ref 84), kv P "squares_of" 302 (.ref 91), kv P "ChessError" 333 (.ref 108), kv P "STEP_FILES" 347 (.ref 112), kv P "STEP_RANKS" 359 (.ref 113), kv P "Geometry" 404 (.ref 130), kv P "is_growing" 411 (.ref 141), kv P "add_masks" 422 (.ref 148), kv P "inner_squares" 431 (.ref 155), kv P "add_rays" 445 (.ref 162), kv P "add_pawns" 453 (.ref 169), kv P "add_knights" 470 (.ref 176), kv P "add_castles" 483 (.ref 183), kv P "make_geometry" 494 (.ref 190), kv P "ray_attacks" 509 (.ref 197), kv P "rook_attacks" 520 (.ref 204), kv P "bishop_attacks" 531 (.ref 211), kv P "queen_attacks" 540 (.ref 218), kv P "slider_attacks" 550 (.ref 225), kv P "piece_attacks" 561 (.ref 232), kv P "direction" 573 (.ref 239), kv P "between" 583 (.ref 246), kv P "Position" 626 (.ref 263), kv P "put_piece" 636 (.ref 274), kv P "occupied" 643 (.ref 281), kv P "king_square" 651 (.ref 288), kv P "straight_sliders" 660 (.ref 295), kv P "slanting_sliders" 667 (.ref 302), kv P "pawn_attackers" 676 (.ref 309), kv P "step_attackers" 687 (.ref 316), kv P "line_attackers" 699 (.ref 323), kv P "attackers_to" 709 (.ref 330), kv P "snipers_of" 719 (.ref 337), kv P "blockers" 734 (.ref 344), kv P "least_attacker" 748 (.ref 351), kv P "next_attacker" 761 (.ref 358), kv P "opened_attackers" 772 (.ref 365), kv P "first_taken" 785 (.ref 372), kv P "see" 804 (.ref 379), kv P "see_ge" 824 (.ref 386), kv P "Zobrist" 861 (.ref 403), kv P "_law_ration" 871 (.ref 414), kv P "_law_board" 883 (.ref 421), kv P "_law_men" 896 (.ref 428), kv P "_law_goals" 902 (.ref 433), kv P "_law_exchange_right" 908 (.ref 438), kv P "law" 914 (.ref 443)] 78), #[]⟩
noncomputable def o12v8 : Obj := ⟨.none, none, (.fields #[.int 15 0, .int 0 0, .ref 20, .int 17 0, .int 0 0, .ref 27, .int 19 0, .int 0 0, .ref 34, .int 21 0, .int 0 0, .ref 41, .int 26 0, .int 0 0, .ref 48, .int 28 0, .int 0 0, .ref 55, .int 30 0, .int 0 0, .ref 62, .int 33 0, .int 0 0, .ref 69, .int 35 0, .int 0 0, .ref 76, .int 48 0, .int 0 0, .ref 83, .int 50 0, .int 0 0, .ref 90, .int 63 0, .int 0 0, .ref 97, .int 71 0, .int 0 0, .ref 119, .int 88 0, .int 0 0, .ref 140, .int 90 0, .int 0 0, .ref 147, .int 98 0, .int 0 0, .ref 154, .int 109 0, .int 0 0, .ref 161, .int 124 0, .int 0 0, .ref 168, .int 128 0, .int 0 0, .ref 175, .int 140 0, .int 0 0, .ref 182, .int 157 0, .int 0 0, .ref 189, .int 168 0, .int 0 0, .ref 196, .int 183 0, .int 0 0, .ref 203, .int 188 0, .int 0 0, .ref 210, .int 193 0, .int 0 0, .ref 217, .int 195 0, .int 0 0, .ref 224, .int 203 0, .int 0 0, .ref 231, .int 212 0, .int 0 0, .ref 238, .int 217 0, .int 0 0, .ref 245, .int 223 0, .int 0 0, .ref 252, .int 238 0, .int 0 0, .ref 273, .int 244 0, .int 0 0, .ref 280, .int 246 0, .int 0 0, .ref 287, .int 249 0, .int 0 0, .ref 294, .int 251 0, .int 0 0, .ref 301, .int 253 0, .int 0 0, .ref 308, .int 255 0, .int 0 0, .ref 315, .int 260 0, .int 0 0, .ref 322, .int 269 0, .int 0 0, .ref 329, .int 272 0, .int 0 0, .ref 336, .int 277 0, .int 0 0, .ref 343, .int 291 0, .int 0 0, .ref 350, .int 300 0, .int 0 0, .ref 357, .int 308 0, .int 0 0, .ref 364, .int 315 0, .int 0 0, .ref 371, .int 324 0, .int 0 0, .ref 378, .int 347 0, .int 0 0, .ref 385, .int 375 0, .int 0 0, .ref 392, .int 383 0, .int 0 0, .ref 413, .int 388 0, .int 0 0, .ref 420, .int 397 0, .int 0 0, .ref 427, .int 405 0, .int 0 0, .ref 432, .int 411 0, .int 0 0, .ref 437, .int 423 0, .int 0 0, .ref 442]), #[]⟩
noncomputable def o415 : Obj := ⟨.type "tuple", none, (.seq #[] 0), #[]⟩
noncomputable def o416 : Obj := ⟨.none, none, (.fields #[]), #[]⟩
noncomputable def o417 : Obj := ⟨.type "tuple", none, (.seq #[.str "sack" 875, .str "files" 876, .str "ranks" 877, .str "size" 878, .str "pos" 879, .str "king" 880] 0), #[]⟩
noncomputable def o418 : Obj := ⟨.type "tuple", none, (.seq #[] 0), #[]⟩
noncomputable def o419 : Obj := ⟨.none, none, (.func (fdOf (stA 75) "_law_board" 0 (.none) (.none) (.none) (.none) none (.none) (.none) 0)), #[]⟩
noncomputable def o420 : Obj := ⟨.type "code", none, (.fields #[.str "_law_board" 872, .str "_law_board" 873, .str "/claim/cut.py" 874, .int 388 0, .int 1 0, .int 0 0, .int 0 0, .int 3 0, .ref 415, .bool true, .int 181 0, .ref 416, .none, .ref 417, .ref 418, .ref 419, .int 881 0, .int 388 0, .str "/claim/cut.py" 882]), #[]⟩
noncomputable def o421 : Obj := ⟨.type "function", none, (.func (fdOf (stA 75) "_law_board" 3 (.none) (.none) (.none) (.str "law_sa0133_01" 862) none (.ref 420) (.none) 0)), #[]⟩
noncomputable def o422 : Obj := ⟨.type "tuple", none, (.seq #[] 0), #[]⟩
noncomputable def o423 : Obj := ⟨.none, none, (.fields #[]), #[]⟩
noncomputable def o424 : Obj := ⟨.type "tuple", none, (.seq #[.str "sack" 887, .str "pos" 888, .str "size" 889, .str "turn" 890, .str "square" 891, .str "kind" 892, .str "side" 893] 0), #[]⟩
noncomputable def o425 : Obj := ⟨.type "tuple", none, (.seq #[] 0), #[]⟩
noncomputable def o426 : Obj := ⟨.none, none, (.func (fdOf (stA 76) "_law_men" 0 (.none) (.none) (.none) (.none) none (.none) (.none) 0)), #[]⟩
noncomputable def o427 : Obj := ⟨.type "code", none, (.fields #[.str "_law_men" 884, .str "_law_men" 885, .str "/claim/cut.py" 886, .int 397 0, .int 2 0, .int 0 0, .int 0 0, .int 3 0, .ref 422, .bool true, .int 181 0, .ref 423, .none, .ref 424, .ref 425, .ref 426, .int 894 0, .int 397 0, .str "/claim/cut.py" 895]), #[]⟩
noncomputable def o428 : Obj := ⟨.type "function", none, (.func (fdOf (stA 76) "_law_men" 3 (.none) (.none) (.none) (.str "law_sa0133_01" 862) none (.ref 427) (.none) 0)), #[]⟩
noncomputable def o429 : Obj := ⟨.type "tuple", none, (.seq #[] 0), #[]⟩
noncomputable def o430 : Obj := ⟨.none, none, (.fields #[]), #[]⟩
noncomputable def o431 : Obj := ⟨.none, none, (.func (fdOf (stA 77) "_law_goals" 0 (.none) (.none) (.none) (.none) none (.none) (.none) 0)), #[]⟩
noncomputable def o432 : Obj := ⟨.type "code", none, (.fields #[.str "_law_goals" 897, .str "_law_goals" 898, .str "/claim/cut.py" 899, .int 405 0, .int 2 0, .int 0 0, .int 0 0, .int 3 0, .ref 429, .bool true, .int 181 0, .ref 430, .none, .none, .none, .ref 431, .int 900 0, .int 405 0, .str "/claim/cut.py" 901]), #[]⟩
noncomputable def o433 : Obj := ⟨.type "function", none, (.func (fdOf (stA 77) "_law_goals" 3 (.none) (.none) (.none) (.str "law_sa0133_01" 862) none (.ref 432) (.none) 0)), #[]⟩
noncomputable def o434 : Obj := ⟨.type "tuple", none, (.seq #[] 0), #[]⟩
noncomputable def o435 : Obj := ⟨.none, none, (.fields #[]), #[]⟩
noncomputable def o436 : Obj := ⟨.none, none, (.func (fdOf (stA 78) "_law_exchange_right" 0 (.none) (.none) (.none) (.none) none (.none) (.none) 0)), #[]⟩
noncomputable def o437 : Obj := ⟨.type "code", none, (.fields #[.str "_law_exchange_right" 903, .str "_law_exchange_right" 904, .str "/claim/cut.py" 905, .int 411 0, .int 5 0, .int 0 0, .int 0 0, .int 3 0, .ref 434, .bool true, .int 181 0, .ref 435, .none, .none, .none, .ref 436, .int 906 0, .int 411 0, .str "/claim/cut.py" 907]), #[]⟩
noncomputable def o438 : Obj := ⟨.type "function", none, (.func (fdOf (stA 78) "_law_exchange_right" 3 (.none) (.none) (.none) (.str "law_sa0133_01" 862) none (.ref 437) (.none) 0)), #[]⟩
noncomputable def o439 : Obj := ⟨.type "tuple", none, (.seq #[] 0), #[]⟩
noncomputable def o440 : Obj := ⟨.none, none, (.fields #[]), #[]⟩
noncomputable def o441 : Obj := ⟨.none, none, (.func (fdOf (stA 79) "law" 0 (.none) (.none) (.none) (.none) none (.none) (.none) 0)), #[]⟩
noncomputable def o442 : Obj := ⟨.type "code", none, (.fields #[.str "law" 909, .str "law" 910, .str "/claim/cut.py" 911, .int 423 0, .int 1 0, .int 0 0, .int 0 0, .int 3 0, .ref 439, .bool true, .int 181 0, .ref 440, .none, .none, .none, .ref 441, .int 912 0, .int 423 0, .str "/claim/cut.py" 913]), #[]⟩
noncomputable def o443 : Obj := ⟨.type "function", none, (.func (fdOf (stA 79) "law" 3 (.none) (.none) (.none) (.str "law_sa0133_01" 862) none (.ref 442) (.none) 0)), #[]⟩
noncomputable def ha (P : Params) : Heap := ⟨⟨[boot_o_0 P, boot_o_1 P, boot_o_2 P, boot_o_3 P, boot_o_4 P, boot_o_5 P, boot_o_6 P, boot_o_7 P, boot_o_8 P, boot_o_9 P, boot_o_10 P, o11, o12, o13, o14]⟩, {}⟩
noncomputable def t0 (P : Params) : BT := (.node (boot_o_0 P) (.node (boot_o_1 P) (.node (boot_o_3 P) (lf (boot_o_7 P)) (lf o11)) (.node (boot_o_5 P) (lf (boot_o_9 P)) (lf o13))) (.node (boot_o_2 P) (.node (boot_o_4 P) (lf (boot_o_8 P)) (lf o12)) (.node (boot_o_6 P) (lf (boot_o_10 P)) (lf o14))))
noncomputable def t1 (P : Params) : BT := (.node (boot_o_0 P) (.node (boot_o_1 P) (.node (o3 P) (.node (boot_o_7 P) (.node o15 (.node o31 (lf o63) .nil) (lf o47)) (.node o23 (lf o39) (lf o55))) (.node o11 (.node o19 (.node o35 (lf o67) .nil) (lf o51)) (.node o27 (lf o43) (lf o59)))) (.node (boot_o_5 P) (.node (boot_o_9 P) (.node o17 (.node o33 (lf o65) .nil) (lf o49)) (.node o25 (lf o41) (lf o57))) (.node o13 (.node o21 (.node o37 (lf o69) .nil) (lf o53)) (.node o29 (lf o45) (lf o61))))) (.node (boot_o_2 P) (.node (boot_o_4 P) (.node (boot_o_8 P) (.node o16 (.node o32 (lf o64) .nil) (lf o48)) (.node o24 (lf o40) (lf o56))) (.node o12v1 (.node o20 (.node o36 (lf o68) .nil) (lf o52)) (.node o28 (lf o44) (lf o60)))) (.node (boot_o_6 P) (.node (boot_o_10 P) (.node o18 (.node o34 (lf o66) .nil) (lf o50)) (.node o26 (lf o42) (lf o58))) (.node o14 (.node o22 (.node o38 (lf o70) .nil) (lf o54)) (.node o30 (lf o46) (lf o62))))))
noncomputable def t2 (P : Params) : BT := (.node (boot_o_0 P) (.node (boot_o_1 P) (.node (o3v1 P) (.node (boot_o_7 P) (.node o15 (.node o31 (lf o63) (lf o95)) (.node o47 (lf o79) (lf o111))) (.node o23 (.node o39 (lf o71) (lf o103)) (.node o55 (lf o87) .nil))) (.node o11 (.node o19 (.node o35 (lf o67) (lf o99)) (.node o51 (lf o83) .nil)) (.node o27 (.node o43 (lf o75) (lf (o107 P))) (.node o59 (lf o91) .nil)))) (.node (boot_o_5 P) (.node (boot_o_9 P) (.node o17 (.node o33 (lf o65) (lf o97)) (.node o49 (lf o81) .nil)) (.node o25 (.node o41 (lf o73) (lf o105)) (.node o57 (lf o89) .nil))) (.node o13 (.node o21 (.node o37 (lf o69) (lf o101)) (.node o53 (lf o85) .nil)) (.node o29 (.node o45 (lf o77) (lf o109)) (.node o61 (lf o93) .nil))))) (.node (o2 P) (.node (boot_o_4 P) (.node (boot_o_8 P) (.node o16 (.node o32 (lf o64) (lf o96)) (.node o48 (lf o80) (lf o112))) (.node o24 (.node o40 (lf o72) (lf o104)) (.node o56 (lf o88) .nil))) (.node o12v2 (.node o20 (.node o36 (lf o68) (lf o100)) (.node o52 (lf o84) .nil)) (.node o28 (.node o44 (lf o76) (lf o108)) (.node o60 (lf o92) .nil)))) (.node (boot_o_6 P) (.node (boot_o_10 P) (.node o18 (.node o34 (lf o66) (lf o98)) (.node o50 (lf o82) .nil)) (.node o26 (.node o42 (lf o74) (lf o106)) (.node o58 (lf o90) .nil))) (.node o14 (.node o22 (.node o38 (lf o70) (lf o102)) (.node o54 (lf o86) .nil)) (.node o30 (.node o46 (lf o78) (lf o110)) (.node o62 (lf (o94 P)) .nil))))))
noncomputable def t3 (P : Params) : BT := (.node (boot_o_0 P) (.node (boot_o_1 P) (.node (o3v2 P) (.node (boot_o_7 P) (.node o15 (.node o31 (.node o63 (lf o127) .nil) (.node o95 (lf o159) .nil)) (.node o47 (.node o79 (lf o143) .nil) (lf o111))) (.node o23 (.node o39 (.node o71 (lf o135) .nil) (lf o103)) (.node o55 (.node o87 (lf o151) .nil) (lf o119)))) (.node o11 (.node o19 (.node o35 (.node o67 (lf o131) .nil) (lf o99)) (.node o51 (.node o83 (lf o147) .nil) (lf o115))) (.node o27 (.node o43 (.node o75 (lf o139) .nil) (lf (o107 P))) (.node o59 (.node o91 (lf o155) .nil) (lf o123))))) (.node (boot_o_5 P) (.node (boot_o_9 P) (.node o17 (.node o33 (.node o65 (lf (o129 P)) .nil) (.node o97 (lf o161) .nil)) (.node o49 (.node o81 (lf o145) .nil) (lf o113))) (.node o25 (.node o41 (.node o73 (lf o137) .nil) (lf o105)) (.node o57 (.node o89 (lf o153) .nil) (lf o121)))) (.node o13 (.node o21 (.node o37 (.node o69 (lf o133) .nil) (lf o101)) (.node o53 (.node o85 (lf o149) .nil) (lf o117))) (.node o29 (.node o45 (.node o77 (lf o141) .nil) (lf o109)) (.node o61 (.node o93 (lf o157) .nil) (lf o125)))))) (.node (o2 P) (.node (boot_o_4 P) (.node (boot_o_8 P) (.node o16 (.node o32 (.node o64 (lf o128) .nil) (.node o96 (lf o160) .nil)) (.node o48 (.node o80 (lf o144) .nil) (lf o112))) (.node o24 (.node o40 (.node o72 (lf o136) .nil) (lf o104)) (.node o56 (.node o88 (lf o152) .nil) (lf o120)))) (.node o12v3 (.node o20 (.node o36 (.node o68 (lf o132) .nil) (lf o100)) (.node o52 (.node o84 (lf o148) .nil) (lf (o116 P)))) (.node o28 (.node o44 (.node o76 (lf o140) .nil) (lf o108)) (.node o60 (.node o92 (lf o156) .nil) (lf o124))))) (.node (boot_o_6 P) (.node (boot_o_10 P) (.node o18 (.node o34 (.node o66 (lf o130) .nil) (.node o98 (lf o162) .nil)) (.node o50 (.node o82 (lf o146) .nil) (lf o114))) (.node o26 (.node o42 (.node o74 (lf o138) .nil) (lf o106)) (.node o58 (.node o90 (lf o154) .nil) (lf o122)))) (.node o14 (.node o22 (.node o38 (.node o70 (lf o134) .nil) (lf o102)) (.node o54 (.node o86 (lf o150) .nil) (lf o118))) (.node o30 (.node o46 (.node o78 (lf o142) .nil) (lf o110)) (.node o62 (.node (o94 P) (lf o158) .nil) (lf o126)))))))
noncomputable def t4 (P : Params) : BT := (.node (boot_o_0 P) (.node (boot_o_1 P) (.node (o3v3 P) (.node (boot_o_7 P) (.node o15 (.node o31 (.node o63 (lf o127) (lf o191)) (.node o95 (lf o159) (lf o223))) (.node o47 (.node o79 (lf o143) (lf o207)) (.node o111 (lf o175) (lf o239)))) (.node o23 (.node o39 (.node o71 (lf o135) (lf o199)) (.node o103 (lf o167) (lf o231))) (.node o55 (.node o87 (lf o151) (lf o215)) (.node o119 (lf o183) .nil)))) (.node o11 (.node o19 (.node o35 (.node o67 (lf o131) (lf o195)) (.node o99 (lf o163) (lf o227))) (.node o51 (.node o83 (lf o147) (lf o211)) (.node o115 (lf o179) .nil))) (.node o27 (.node o43 (.node o75 (lf o139) (lf o203)) (.node (o107 P) (lf o171) (lf o235))) (.node o59 (.node o91 (lf o155) (lf o219)) (.node o123 (lf o187) .nil))))) (.node (boot_o_5 P) (.node (boot_o_9 P) (.node o17 (.node o33 (.node o65 (lf (o129 P)) (lf o193)) (.node o97 (lf o161) (lf o225))) (.node o49 (.node o81 (lf o145) (lf o209)) (.node o113 (lf o177) .nil))) (.node o25 (.node o41 (.node o73 (lf o137) (lf o201)) (.node o105 (lf o169) (lf o233))) (.node o57 (.node o89 (lf o153) (lf o217)) (.node o121 (lf o185) .nil)))) (.node o13 (.node o21 (.node o37 (.node o69 (lf o133) (lf o197)) (.node o101 (lf o165) (lf o229))) (.node o53 (.node o85 (lf o149) (lf o213)) (.node o117 (lf o181) .nil))) (.node o29 (.node o45 (.node o77 (lf o141) (lf o205)) (.node o109 (lf o173) (lf o237))) (.node o61 (.node o93 (lf o157) (lf o221)) (.node o125 (lf o189) .nil)))))) (.node (o2 P) (.node (boot_o_4 P) (.node (boot_o_8 P) (.node o16 (.node o32 (.node o64 (lf o128) (lf o192)) (.node o96 (lf o160) (lf o224))) (.node o48 (.node o80 (lf o144) (lf o208)) (.node o112 (lf o176) .nil))) (.node o24 (.node o40 (.node o72 (lf o136) (lf o200)) (.node o104 (lf o168) (lf o232))) (.node o56 (.node o88 (lf o152) (lf o216)) (.node o120 (lf o184) .nil)))) (.node o12v4 (.node o20 (.node o36 (.node o68 (lf o132) (lf o196)) (.node o100 (lf o164) (lf o228))) (.node o52 (.node o84 (lf o148) (lf o212)) (.node (o116 P) (lf o180) .nil))) (.node o28 (.node o44 (.node o76 (lf o140) (lf o204)) (.node o108 (lf o172) (lf o236))) (.node o60 (.node o92 (lf o156) (lf o220)) (.node o124 (lf o188) .nil))))) (.node (boot_o_6 P) (.node (boot_o_10 P) (.node o18 (.node o34 (.node o66 (lf o130) (lf o194)) (.node o98 (lf o162) (lf o226))) (.node o50 (.node o82 (lf o146) (lf o210)) (.node o114 (lf o178) .nil))) (.node o26 (.node o42 (.node o74 (lf o138) (lf o202)) (.node o106 (lf o170) (lf o234))) (.node o58 (.node o90 (lf o154) (lf o218)) (.node o122 (lf o186) .nil)))) (.node o14 (.node o22 (.node o38 (.node o70 (lf o134) (lf o198)) (.node o102 (lf o166) (lf o230))) (.node o54 (.node o86 (lf o150) (lf o214)) (.node o118 (lf o182) .nil))) (.node o30 (.node o46 (.node o78 (lf o142) (lf o206)) (.node o110 (lf o174) (lf o238))) (.node o62 (.node (o94 P) (lf o158) (lf o222)) (.node o126 (lf o190) .nil)))))))
noncomputable def t5 (P : Params) : BT := (.node (boot_o_0 P) (.node (boot_o_1 P) (.node (o3v4 P) (.node (boot_o_7 P) (.node o15 (.node o31 (.node o63 (.node o127 (lf o255) .nil) (lf o191)) (.node o95 (.node o159 (lf o287) .nil) (lf o223))) (.node o47 (.node o79 (.node o143 (lf o271) .nil) (lf o207)) (.node o111 (lf o175) (lf o239)))) (.node o23 (.node o39 (.node o71 (.node o135 (lf o263) .nil) (lf o199)) (.node o103 (lf o167) (lf o231))) (.node o55 (.node o87 (.node o151 (lf o279) .nil) (lf o215)) (.node o119 (lf o183) (lf o247))))) (.node o11 (.node o19 (.node o35 (.node o67 (.node o131 (lf o259) .nil) (lf o195)) (.node o99 (lf o163) (lf o227))) (.node o51 (.node o83 (.node o147 (lf o275) .nil) (lf o211)) (.node o115 (lf o179) (lf o243)))) (.node o27 (.node o43 (.node o75 (.node o139 (lf o267) .nil) (lf o203)) (.node (o107 P) (lf o171) (lf o235))) (.node o59 (.node o91 (.node o155 (lf o283) .nil) (lf o219)) (.node o123 (lf o187) (lf o251)))))) (.node (boot_o_5 P) (.node (boot_o_9 P) (.node o17 (.node o33 (.node o65 (.node (o129 P) (lf o257) .nil) (lf o193)) (.node o97 (lf o161) (lf o225))) (.node o49 (.node o81 (.node o145 (lf o273) .nil) (lf o209)) (.node o113 (lf o177) (lf o241)))) (.node o25 (.node o41 (.node o73 (.node o137 (lf o265) .nil) (lf o201)) (.node o105 (lf o169) (lf o233))) (.node o57 (.node o89 (.node o153 (lf o281) .nil) (lf o217)) (.node o121 (lf o185) (lf (o249 P)))))) (.node o13 (.node o21 (.node o37 (.node o69 (.node o133 (lf o261) .nil) (lf o197)) (.node o101 (lf o165) (lf o229))) (.node o53 (.node o85 (.node o149 (lf o277) .nil) (lf o213)) (.node o117 (lf o181) (lf o245)))) (.node o29 (.node o45 (.node o77 (.node o141 (lf o269) .nil) (lf o205)) (.node o109 (lf o173) (lf o237))) (.node o61 (.node o93 (.node o157 (lf o285) .nil) (lf o221)) (.node o125 (lf o189) (lf o253))))))) (.node (o2 P) (.node (boot_o_4 P) (.node (boot_o_8 P) (.node o16 (.node o32 (.node o64 (.node o128 (lf o256) .nil) (lf o192)) (.node o96 (.node o160 (lf o288) .nil) (lf o224))) (.node o48 (.node o80 (.node o144 (lf o272) .nil) (lf o208)) (.node o112 (lf o176) (lf o240)))) (.node o24 (.node o40 (.node o72 (.node o136 (lf o264) .nil) (lf o200)) (.node o104 (lf o168) (lf o232))) (.node o56 (.node o88 (.node o152 (lf o280) .nil) (lf o216)) (.node o120 (lf o184) (lf o248))))) (.node o12v5 (.node o20 (.node o36 (.node o68 (.node o132 (lf o260) .nil) (lf o196)) (.node o100 (lf o164) (lf o228))) (.node o52 (.node o84 (.node o148 (lf o276) .nil) (lf o212)) (.node (o116 P) (lf o180) (lf o244)))) (.node o28 (.node o44 (.node o76 (.node o140 (lf o268) .nil) (lf o204)) (.node o108 (lf o172) (lf o236))) (.node o60 (.node o92 (.node o156 (lf o284) .nil) (lf o220)) (.node o124 (lf o188) (lf o252)))))) (.node (boot_o_6 P) (.node (boot_o_10 P) (.node o18 (.node o34 (.node o66 (.node o130 (lf o258) .nil) (lf o194)) (.node o98 (lf o162) (lf o226))) (.node o50 (.node o82 (.node o146 (lf o274) .nil) (lf o210)) (.node o114 (lf o178) (lf o242)))) (.node o26 (.node o42 (.node o74 (.node o138 (lf o266) .nil) (lf o202)) (.node o106 (lf o170) (lf o234))) (.node o58 (.node o90 (.node o154 (lf o282) .nil) (lf o218)) (.node o122 (lf o186) (lf o250))))) (.node o14 (.node o22 (.node o38 (.node o70 (.node o134 (lf (o262 P)) .nil) (lf o198)) (.node o102 (lf o166) (lf o230))) (.node o54 (.node o86 (.node o150 (lf o278) .nil) (lf o214)) (.node o118 (lf o182) (lf o246)))) (.node o30 (.node o46 (.node o78 (.node o142 (lf o270) .nil) (lf o206)) (.node o110 (lf o174) (lf o238))) (.node o62 (.node (o94 P) (.node o158 (lf o286) .nil) (lf o222)) (.node o126 (lf o190) (lf o254))))))))
noncomputable def t6 (P : Params) : BT := (.node (boot_o_0 P) (.node (boot_o_1 P) (.node (o3v5 P) (.node (boot_o_7 P) (.node o15 (.node o31 (.node o63 (.node o127 (lf o255) .nil) (.node o191 (lf o319) .nil)) (.node o95 (.node o159 (lf o287) .nil) (.node o223 (lf o351) .nil))) (.node o47 (.node o79 (.node o143 (lf o271) .nil) (.node o207 (lf o335) .nil)) (.node o111 (.node o175 (lf o303) .nil) (lf o239)))) (.node o23 (.node o39 (.node o71 (.node o135 (lf o263) .nil) (.node o199 (lf o327) .nil)) (.node o103 (.node o167 (lf o295) .nil) (.node o231 (lf o359) .nil))) (.node o55 (.node o87 (.node o151 (lf o279) .nil) (.node o215 (lf o343) .nil)) (.node o119 (.node o183 (lf o311) .nil) (lf o247))))) (.node o11 (.node o19 (.node o35 (.node o67 (.node o131 (lf o259) .nil) (.node o195 (lf o323) .nil)) (.node o99 (.node o163 (lf o291) .nil) (.node o227 (lf o355) .nil))) (.node o51 (.node o83 (.node o147 (lf o275) .nil) (.node o211 (lf o339) .nil)) (.node o115 (.node o179 (lf o307) .nil) (lf o243)))) (.node o27 (.node o43 (.node o75 (.node o139 (lf o267) .nil) (.node o203 (lf o331) .nil)) (.node (o107 P) (.node o171 (lf o299) .nil) (.node o235 (lf o363) .nil))) (.node o59 (.node o91 (.node o155 (lf o283) .nil) (.node o219 (lf o347) .nil)) (.node o123 (.node o187 (lf o315) .nil) (lf o251)))))) (.node (boot_o_5 P) (.node (boot_o_9 P) (.node o17 (.node o33 (.node o65 (.node (o129 P) (lf o257) .nil) (.node o193 (lf o321) .nil)) (.node o97 (.node o161 (lf o289) .nil) (.node o225 (lf o353) .nil))) (.node o49 (.node o81 (.node o145 (lf o273) .nil) (.node o209 (lf o337) .nil)) (.node o113 (.node o177 (lf o305) .nil) (lf o241)))) (.node o25 (.node o41 (.node o73 (.node o137 (lf o265) .nil) (.node o201 (lf o329) .nil)) (.node o105 (.node o169 (lf o297) .nil) (.node o233 (lf o361) .nil))) (.node o57 (.node o89 (.node o153 (lf o281) .nil) (.node o217 (lf o345) .nil)) (.node o121 (.node o185 (lf o313) .nil) (lf (o249 P)))))) (.node o13 (.node o21 (.node o37 (.node o69 (.node o133 (lf o261) .nil) (.node o197 (lf o325) .nil)) (.node o101 (.node o165 (lf o293) .nil) (.node o229 (lf o357) .nil))) (.node o53 (.node o85 (.node o149 (lf o277) .nil) (.node o213 (lf o341) .nil)) (.node o117 (.node o181 (lf o309) .nil) (lf o245)))) (.node o29 (.node o45 (.node o77 (.node o141 (lf o269) .nil) (.node o205 (lf o333) .nil)) (.node o109 (.node o173 (lf o301) .nil) (.node o237 (lf o365) .nil))) (.node o61 (.node o93 (.node o157 (lf o285) .nil) (.node o221 (lf o349) .nil)) (.node o125 (.node o189 (lf o317) .nil) (lf o253))))))) (.node (o2 P) (.node (boot_o_4 P) (.node (boot_o_8 P) (.node o16 (.node o32 (.node o64 (.node o128 (lf o256) .nil) (.node o192 (lf o320) .nil)) (.node o96 (.node o160 (lf o288) .nil) (.node o224 (lf o352) .nil))) (.node o48 (.node o80 (.node o144 (lf o272) .nil) (.node o208 (lf o336) .nil)) (.node o112 (.node o176 (lf o304) .nil) (lf o240)))) (.node o24 (.node o40 (.node o72 (.node o136 (lf o264) .nil) (.node o200 (lf o328) .nil)) (.node o104 (.node o168 (lf o296) .nil) (.node o232 (lf o360) .nil))) (.node o56 (.node o88 (.node o152 (lf o280) .nil) (.node o216 (lf o344) .nil)) (.node o120 (.node o184 (lf o312) .nil) (lf o248))))) (.node o12v6 (.node o20 (.node o36 (.node o68 (.node o132 (lf o260) .nil) (.node o196 (lf o324) .nil)) (.node o100 (.node o164 (lf o292) .nil) (.node o228 (lf o356) .nil))) (.node o52 (.node o84 (.node o148 (lf o276) .nil) (.node o212 (lf o340) .nil)) (.node (o116 P) (.node o180 (lf o308) .nil) (lf o244)))) (.node o28 (.node o44 (.node o76 (.node o140 (lf o268) .nil) (.node o204 (lf o332) .nil)) (.node o108 (.node o172 (lf o300) .nil) (.node o236 (lf o364) .nil))) (.node o60 (.node o92 (.node o156 (lf o284) .nil) (.node o220 (lf o348) .nil)) (.node o124 (.node o188 (lf o316) .nil) (lf o252)))))) (.node (boot_o_6 P) (.node (boot_o_10 P) (.node o18 (.node o34 (.node o66 (.node o130 (lf o258) .nil) (.node o194 (lf o322) .nil)) (.node o98 (.node o162 (lf o290) .nil) (.node o226 (lf o354) .nil))) (.node o50 (.node o82 (.node o146 (lf o274) .nil) (.node o210 (lf o338) .nil)) (.node o114 (.node o178 (lf o306) .nil) (lf o242)))) (.node o26 (.node o42 (.node o74 (.node o138 (lf o266) .nil) (.node o202 (lf o330) .nil)) (.node o106 (.node o170 (lf o298) .nil) (.node o234 (lf o362) .nil))) (.node o58 (.node o90 (.node o154 (lf o282) .nil) (.node o218 (lf o346) .nil)) (.node o122 (.node o186 (lf o314) .nil) (lf o250))))) (.node o14 (.node o22 (.node o38 (.node o70 (.node o134 (lf (o262 P)) .nil) (.node o198 (lf o326) .nil)) (.node o102 (.node o166 (lf o294) .nil) (.node o230 (lf o358) .nil))) (.node o54 (.node o86 (.node o150 (lf o278) .nil) (.node o214 (lf o342) .nil)) (.node o118 (.node o182 (lf o310) .nil) (lf o246)))) (.node o30 (.node o46 (.node o78 (.node o142 (lf o270) .nil) (.node o206 (lf o334) .nil)) (.node o110 (.node o174 (lf o302) .nil) (lf o238))) (.node o62 (.node (o94 P) (.node o158 (lf o286) .nil) (.node o222 (lf o350) .nil)) (.node o126 (.node o190 (lf o318) .nil) (lf o254))))))))
noncomputable def t7 (P : Params) : BT := (.node (boot_o_0 P) (.node (boot_o_1 P) (.node (o3v6 P) (.node (boot_o_7 P) (.node o15 (.node o31 (.node o63 (.node o127 (lf o255) (lf o383)) (.node o191 (lf o319) .nil)) (.node o95 (.node o159 (lf o287) .nil) (.node o223 (lf o351) .nil))) (.node o47 (.node o79 (.node o143 (lf o271) (lf o399)) (.node o207 (lf o335) .nil)) (.node o111 (.node o175 (lf o303) .nil) (.node o239 (lf o367) .nil)))) (.node o23 (.node o39 (.node o71 (.node o135 (lf o263) (lf o391)) (.node o199 (lf o327) .nil)) (.node o103 (.node o167 (lf o295) .nil) (.node o231 (lf o359) .nil))) (.node o55 (.node o87 (.node o151 (lf o279) (lf o407)) (.node o215 (lf o343) .nil)) (.node o119 (.node o183 (lf o311) .nil) (.node o247 (lf o375) .nil))))) (.node o11 (.node o19 (.node o35 (.node o67 (.node o131 (lf o259) (lf o387)) (.node o195 (lf o323) .nil)) (.node o99 (.node o163 (lf o291) .nil) (.node o227 (lf o355) .nil))) (.node o51 (.node o83 (.node o147 (lf o275) (lf o403)) (.node o211 (lf o339) .nil)) (.node o115 (.node o179 (lf o307) .nil) (.node o243 (lf o371) .nil)))) (.node o27 (.node o43 (.node o75 (.node o139 (lf o267) (lf o395)) (.node o203 (lf o331) .nil)) (.node (o107 P) (.node o171 (lf o299) .nil) (.node o235 (lf o363) .nil))) (.node o59 (.node o91 (.node o155 (lf o283) (lf o411)) (.node o219 (lf o347) .nil)) (.node o123 (.node o187 (lf o315) .nil) (.node o251 (lf o379) .nil)))))) (.node (boot_o_5 P) (.node (boot_o_9 P) (.node o17 (.node o33 (.node o65 (.node (o129 P) (lf o257) (lf o385)) (.node o193 (lf o321) .nil)) (.node o97 (.node o161 (lf o289) .nil) (.node o225 (lf o353) .nil))) (.node o49 (.node o81 (.node o145 (lf o273) (lf o401)) (.node o209 (lf o337) .nil)) (.node o113 (.node o177 (lf o305) .nil) (.node o241 (lf o369) .nil)))) (.node o25 (.node o41 (.node o73 (.node o137 (lf o265) (lf o393)) (.node o201 (lf o329) .nil)) (.node o105 (.node o169 (lf o297) .nil) (.node o233 (lf o361) .nil))) (.node o57 (.node o89 (.node o153 (lf o281) (lf o409)) (.node o217 (lf o345) .nil)) (.node o121 (.node o185 (lf o313) .nil) (.node (o249 P) (lf o377) .nil))))) (.node o13 (.node o21 (.node o37 (.node o69 (.node o133 (lf o261) (lf (o389 P))) (.node o197 (lf o325) .nil)) (.node o101 (.node o165 (lf o293) .nil) (.node o229 (lf o357) .nil))) (.node o53 (.node o85 (.node o149 (lf o277) (lf o405)) (.node o213 (lf o341) .nil)) (.node o117 (.node o181 (lf o309) .nil) (.node o245 (lf o373) .nil)))) (.node o29 (.node o45 (.node o77 (.node o141 (lf o269) (lf o397)) (.node o205 (lf o333) .nil)) (.node o109 (.node o173 (lf o301) .nil) (.node o237 (lf o365) .nil))) (.node o61 (.node o93 (.node o157 (lf o285) (lf o413)) (.node o221 (lf o349) .nil)) (.node o125 (.node o189 (lf o317) .nil) (.node o253 (lf o381) .nil))))))) (.node (o2 P) (.node (boot_o_4 P) (.node (boot_o_8 P) (.node o16 (.node o32 (.node o64 (.node o128 (lf o256) (lf o384)) (.node o192 (lf o320) .nil)) (.node o96 (.node o160 (lf o288) .nil) (.node o224 (lf o352) .nil))) (.node o48 (.node o80 (.node o144 (lf o272) (lf o400)) (.node o208 (lf o336) .nil)) (.node o112 (.node o176 (lf o304) .nil) (.node o240 (lf o368) .nil)))) (.node o24 (.node o40 (.node o72 (.node o136 (lf o264) (lf o392)) (.node o200 (lf o328) .nil)) (.node o104 (.node o168 (lf o296) .nil) (.node o232 (lf o360) .nil))) (.node o56 (.node o88 (.node o152 (lf o280) (lf o408)) (.node o216 (lf o344) .nil)) (.node o120 (.node o184 (lf o312) .nil) (.node o248 (lf o376) .nil))))) (.node o12v7 (.node o20 (.node o36 (.node o68 (.node o132 (lf o260) (lf o388)) (.node o196 (lf o324) .nil)) (.node o100 (.node o164 (lf o292) .nil) (.node o228 (lf o356) .nil))) (.node o52 (.node o84 (.node o148 (lf o276) (lf o404)) (.node o212 (lf o340) .nil)) (.node (o116 P) (.node o180 (lf o308) .nil) (.node o244 (lf o372) .nil)))) (.node o28 (.node o44 (.node o76 (.node o140 (lf o268) (lf o396)) (.node o204 (lf o332) .nil)) (.node o108 (.node o172 (lf o300) .nil) (.node o236 (lf o364) .nil))) (.node o60 (.node o92 (.node o156 (lf o284) (lf o412)) (.node o220 (lf o348) .nil)) (.node o124 (.node o188 (lf o316) .nil) (.node o252 (lf o380) .nil)))))) (.node (boot_o_6 P) (.node (boot_o_10 P) (.node o18 (.node o34 (.node o66 (.node o130 (lf o258) (lf o386)) (.node o194 (lf o322) .nil)) (.node o98 (.node o162 (lf o290) .nil) (.node o226 (lf o354) .nil))) (.node o50 (.node o82 (.node o146 (lf o274) (lf (o402 P))) (.node o210 (lf o338) .nil)) (.node o114 (.node o178 (lf o306) .nil) (.node o242 (lf o370) .nil)))) (.node o26 (.node o42 (.node o74 (.node o138 (lf o266) (lf o394)) (.node o202 (lf o330) .nil)) (.node o106 (.node o170 (lf o298) .nil) (.node o234 (lf o362) .nil))) (.node o58 (.node o90 (.node o154 (lf o282) (lf o410)) (.node o218 (lf o346) .nil)) (.node o122 (.node o186 (lf o314) .nil) (.node o250 (lf o378) .nil))))) (.node o14 (.node o22 (.node o38 (.node o70 (.node o134 (lf (o262 P)) (lf o390)) (.node o198 (lf o326) .nil)) (.node o102 (.node o166 (lf o294) .nil) (.node o230 (lf o358) .nil))) (.node o54 (.node o86 (.node o150 (lf o278) (lf o406)) (.node o214 (lf o342) .nil)) (.node o118 (.node o182 (lf o310) .nil) (.node o246 (lf o374) .nil)))) (.node o30 (.node o46 (.node o78 (.node o142 (lf o270) (lf o398)) (.node o206 (lf o334) .nil)) (.node o110 (.node o174 (lf o302) .nil) (.node o238 (lf o366) .nil))) (.node o62 (.node (o94 P) (.node o158 (lf o286) (lf o414)) (.node o222 (lf o350) .nil)) (.node o126 (.node o190 (lf o318) .nil) (.node o254 (lf o382) .nil))))))))
noncomputable def t8 (P : Params) : BT := (.node (boot_o_0 P) (.node (boot_o_1 P) (.node (o3v7 P) (.node (boot_o_7 P) (.node o15 (.node o31 (.node o63 (.node o127 (lf o255) (lf o383)) (.node o191 (lf o319) .nil)) (.node o95 (.node o159 (lf o287) (lf o415)) (.node o223 (lf o351) .nil))) (.node o47 (.node o79 (.node o143 (lf o271) (lf o399)) (.node o207 (lf o335) .nil)) (.node o111 (.node o175 (lf o303) (lf o431)) (.node o239 (lf o367) .nil)))) (.node o23 (.node o39 (.node o71 (.node o135 (lf o263) (lf o391)) (.node o199 (lf o327) .nil)) (.node o103 (.node o167 (lf o295) (lf o423)) (.node o231 (lf o359) .nil))) (.node o55 (.node o87 (.node o151 (lf o279) (lf o407)) (.node o215 (lf o343) .nil)) (.node o119 (.node o183 (lf o311) (lf o439)) (.node o247 (lf o375) .nil))))) (.node o11 (.node o19 (.node o35 (.node o67 (.node o131 (lf o259) (lf o387)) (.node o195 (lf o323) .nil)) (.node o99 (.node o163 (lf o291) (lf o419)) (.node o227 (lf o355) .nil))) (.node o51 (.node o83 (.node o147 (lf o275) (lf o403)) (.node o211 (lf o339) .nil)) (.node o115 (.node o179 (lf o307) (lf o435)) (.node o243 (lf o371) .nil)))) (.node o27 (.node o43 (.node o75 (.node o139 (lf o267) (lf o395)) (.node o203 (lf o331) .nil)) (.node (o107 P) (.node o171 (lf o299) (lf o427)) (.node o235 (lf o363) .nil))) (.node o59 (.node o91 (.node o155 (lf o283) (lf o411)) (.node o219 (lf o347) .nil)) (.node o123 (.node o187 (lf o315) (lf o443)) (.node o251 (lf o379) .nil)))))) (.node (boot_o_5 P) (.node (boot_o_9 P) (.node o17 (.node o33 (.node o65 (.node (o129 P) (lf o257) (lf o385)) (.node o193 (lf o321) .nil)) (.node o97 (.node o161 (lf o289) (lf o417)) (.node o225 (lf o353) .nil))) (.node o49 (.node o81 (.node o145 (lf o273) (lf o401)) (.node o209 (lf o337) .nil)) (.node o113 (.node o177 (lf o305) (lf o433)) (.node o241 (lf o369) .nil)))) (.node o25 (.node o41 (.node o73 (.node o137 (lf o265) (lf o393)) (.node o201 (lf o329) .nil)) (.node o105 (.node o169 (lf o297) (lf o425)) (.node o233 (lf o361) .nil))) (.node o57 (.node o89 (.node o153 (lf o281) (lf o409)) (.node o217 (lf o345) .nil)) (.node o121 (.node o185 (lf o313) (lf o441)) (.node (o249 P) (lf o377) .nil))))) (.node o13 (.node o21 (.node o37 (.node o69 (.node o133 (lf o261) (lf (o389 P))) (.node o197 (lf o325) .nil)) (.node o101 (.node o165 (lf o293) (lf o421)) (.node o229 (lf o357) .nil))) (.node o53 (.node o85 (.node o149 (lf o277) (lf o405)) (.node o213 (lf o341) .nil)) (.node o117 (.node o181 (lf o309) (lf o437)) (.node o245 (lf o373) .nil)))) (.node o29 (.node o45 (.node o77 (.node o141 (lf o269) (lf o397)) (.node o205 (lf o333) .nil)) (.node o109 (.node o173 (lf o301) (lf o429)) (.node o237 (lf o365) .nil))) (.node o61 (.node o93 (.node o157 (lf o285) (lf o413)) (.node o221 (lf o349) .nil)) (.node o125 (.node o189 (lf o317) .nil) (.node o253 (lf o381) .nil))))))) (.node (o2 P) (.node (boot_o_4 P) (.node (boot_o_8 P) (.node o16 (.node o32 (.node o64 (.node o128 (lf o256) (lf o384)) (.node o192 (lf o320) .nil)) (.node o96 (.node o160 (lf o288) (lf o416)) (.node o224 (lf o352) .nil))) (.node o48 (.node o80 (.node o144 (lf o272) (lf o400)) (.node o208 (lf o336) .nil)) (.node o112 (.node o176 (lf o304) (lf o432)) (.node o240 (lf o368) .nil)))) (.node o24 (.node o40 (.node o72 (.node o136 (lf o264) (lf o392)) (.node o200 (lf o328) .nil)) (.node o104 (.node o168 (lf o296) (lf o424)) (.node o232 (lf o360) .nil))) (.node o56 (.node o88 (.node o152 (lf o280) (lf o408)) (.node o216 (lf o344) .nil)) (.node o120 (.node o184 (lf o312) (lf o440)) (.node o248 (lf o376) .nil))))) (.node o12v8 (.node o20 (.node o36 (.node o68 (.node o132 (lf o260) (lf o388)) (.node o196 (lf o324) .nil)) (.node o100 (.node o164 (lf o292) (lf o420)) (.node o228 (lf o356) .nil))) (.node o52 (.node o84 (.node o148 (lf o276) (lf o404)) (.node o212 (lf o340) .nil)) (.node (o116 P) (.node o180 (lf o308) (lf o436)) (.node o244 (lf o372) .nil)))) (.node o28 (.node o44 (.node o76 (.node o140 (lf o268) (lf o396)) (.node o204 (lf o332) .nil)) (.node o108 (.node o172 (lf o300) (lf o428)) (.node o236 (lf o364) .nil))) (.node o60 (.node o92 (.node o156 (lf o284) (lf o412)) (.node o220 (lf o348) .nil)) (.node o124 (.node o188 (lf o316) .nil) (.node o252 (lf o380) .nil)))))) (.node (boot_o_6 P) (.node (boot_o_10 P) (.node o18 (.node o34 (.node o66 (.node o130 (lf o258) (lf o386)) (.node o194 (lf o322) .nil)) (.node o98 (.node o162 (lf o290) (lf o418)) (.node o226 (lf o354) .nil))) (.node o50 (.node o82 (.node o146 (lf o274) (lf (o402 P))) (.node o210 (lf o338) .nil)) (.node o114 (.node o178 (lf o306) (lf o434)) (.node o242 (lf o370) .nil)))) (.node o26 (.node o42 (.node o74 (.node o138 (lf o266) (lf o394)) (.node o202 (lf o330) .nil)) (.node o106 (.node o170 (lf o298) (lf o426)) (.node o234 (lf o362) .nil))) (.node o58 (.node o90 (.node o154 (lf o282) (lf o410)) (.node o218 (lf o346) .nil)) (.node o122 (.node o186 (lf o314) (lf o442)) (.node o250 (lf o378) .nil))))) (.node o14 (.node o22 (.node o38 (.node o70 (.node o134 (lf (o262 P)) (lf o390)) (.node o198 (lf o326) .nil)) (.node o102 (.node o166 (lf o294) (lf o422)) (.node o230 (lf o358) .nil))) (.node o54 (.node o86 (.node o150 (lf o278) (lf o406)) (.node o214 (lf o342) .nil)) (.node o118 (.node o182 (lf o310) (lf o438)) (.node o246 (lf o374) .nil)))) (.node o30 (.node o46 (.node o78 (.node o142 (lf o270) (lf o398)) (.node o206 (lf o334) .nil)) (.node o110 (.node o174 (lf o302) (lf o430)) (.node o238 (lf o366) .nil))) (.node o62 (.node (o94 P) (.node o158 (lf o286) (lf o414)) (.node o222 (lf o350) .nil)) (.node o126 (.node o190 (lf o318) .nil) (.node o254 (lf o382) .nil))))))))
noncomputable def hz (P : Params) : Heap := ⟨⟨[boot_o_0 P, boot_o_1 P, o2 P, o3v7 P, boot_o_4 P, boot_o_5 P, boot_o_6 P, boot_o_7 P, boot_o_8 P, boot_o_9 P, boot_o_10 P, o11, o12v8, o13, o14, o15, o16, o17, o18, o19, o20, o21, o22, o23, o24, o25, o26, o27, o28, o29, o30, o31, o32, o33, o34, o35, o36, o37, o38, o39, o40, o41, o42, o43, o44, o45, o46, o47, o48, o49, o50, o51, o52, o53, o54, o55, o56, o57, o58, o59, o60, o61, o62, o63, o64, o65, o66, o67, o68, o69, o70, o71, o72, o73, o74, o75, o76, o77, o78, o79, o80, o81, o82, o83, o84, o85, o86, o87, o88, o89, o90, o91, o92, o93, o94 P, o95, o96, o97, o98, o99, o100, o101, o102, o103, o104, o105, o106, o107 P, o108, o109, o110, o111, o112, o113, o114, o115, o116 P, o117, o118, o119, o120, o121, o122, o123, o124, o125, o126, o127, o128, o129 P, o130, o131, o132, o133, o134, o135, o136, o137, o138, o139, o140, o141, o142, o143, o144, o145, o146, o147, o148, o149, o150, o151, o152, o153, o154, o155, o156, o157, o158, o159, o160, o161, o162, o163, o164, o165, o166, o167, o168, o169, o170, o171, o172, o173, o174, o175, o176, o177, o178, o179, o180, o181, o182, o183, o184, o185, o186, o187, o188, o189, o190, o191, o192, o193, o194, o195, o196, o197, o198, o199, o200, o201, o202, o203, o204, o205, o206, o207, o208, o209, o210, o211, o212, o213, o214, o215, o216, o217, o218, o219, o220, o221, o222, o223, o224, o225, o226, o227, o228, o229, o230, o231, o232, o233, o234, o235, o236, o237, o238, o239, o240, o241, o242, o243, o244, o245, o246, o247, o248, o249 P, o250, o251, o252, o253, o254, o255, o256, o257, o258, o259, o260, o261, o262 P, o263, o264, o265, o266, o267, o268, o269, o270, o271, o272, o273, o274, o275, o276, o277, o278, o279, o280, o281, o282, o283, o284, o285, o286, o287, o288, o289, o290, o291, o292, o293, o294, o295, o296, o297, o298, o299, o300, o301, o302, o303, o304, o305, o306, o307, o308, o309, o310, o311, o312, o313, o314, o315, o316, o317, o318, o319, o320, o321, o322, o323, o324, o325, o326, o327, o328, o329, o330, o331, o332, o333, o334, o335, o336, o337, o338, o339, o340, o341, o342, o343, o344, o345, o346, o347, o348, o349, o350, o351, o352, o353, o354, o355, o356, o357, o358, o359, o360, o361, o362, o363, o364, o365, o366, o367, o368, o369, o370, o371, o372, o373, o374, o375, o376, o377, o378, o379, o380, o381, o382, o383, o384, o385, o386, o387, o388, o389 P, o390, o391, o392, o393, o394, o395, o396, o397, o398, o399, o400, o401, o402 P, o403, o404, o405, o406, o407, o408, o409, o410, o411, o412, o413, o414, o415, o416, o417, o418, o419, o420, o421, o422, o423, o424, o425, o426, o427, o428, o429, o430, o431, o432, o433, o434, o435, o436, o437, o438, o439, o440, o441, o442, o443]⟩, {}⟩

noncomputable def envT : Env := { scope := pr.main.scope, locals := mainNs, globals := mainNs, cells := [], code := .ref 13, frame := some 14 }
abbrev z4 : Pos := ⟨0, 0, 0, 0⟩
noncomputable abbrev cT : Code := .body (behindTheImports pr) envT
noncomputable abbrev bT : List Frame := [topFrame z4]
theorem segT_q : @segRunT = @Fast.tw10110043849684766642 := Fast.te10110043849684766642
theorem tab_q : treeTable = Fast.tw14364793385576792824 := Fast.te14364793385576792824
theorem pre_t (w : World) : (fun os => topGo treeTable pr w 11 (some (.ref 6)) 12 ⟨boot_heap w.params, #[], boot_drawn, boot_toks, os⟩ (topStub pr)) =
    fun os => some (⟨ha w.params, #[], {}, 187, os⟩, ⟨denote treeTable cT, cT, z4, bT⟩) := by kernel_rfl
theorem block_t (w : World) : (fun os => segRun treeTable pr w 11 (some (.ref 6)) 1 1 ⟨ha w.params, #[], {}, 187, os⟩ (blockOf (behindTheImports pr) envT cT z4 bT)) =
    fun os => some (.next, SharedT.abs ⟨t0 w.params, 15, {}, #[], {}, 187, os⟩, cT, z4) := by kernel_rfl
noncomputable def s1 : List Stmt := ((behindTheImports pr).drop 0).take 23
theorem piece1 (w : World) : (fun os => segRunT treeTable pr w 11 (some (.ref 6)) 1 373 ⟨t0 w.params, 15, {}, #[], {}, 187, os⟩ (piecesOf s1 envT cT z4 bT)) =
    fun os => some (.next, ⟨t1 w.params, 71, {}, #[], {}, 278, os⟩, cT, ⟨33, 0, 34, 25⟩) := by
  rw [segT_q, tab_q]
  kernel_rfl
noncomputable def s2 : List Stmt := ((behindTheImports pr).drop 23).take 7
theorem piece2 (w : World) : (fun os => segRunT treeTable pr w 11 (some (.ref 6)) 1 371 ⟨t1 w.params, 71, {}, #[], {}, 278, os⟩ (piecesOf s2 envT cT ⟨33, 0, 34, 25⟩ bT)) =
    fun os => some (.next, ⟨t2 w.params, 113, {}, #[], {}, 348, os⟩, cT, ⟨69, 0, 69, 10⟩) := by
  rw [segT_q, tab_q]
  kernel_rfl
noncomputable def s3 : List Stmt := ((behindTheImports pr).drop 30).take 6
theorem piece3 (w : World) : (fun os => segRunT treeTable pr w 11 (some (.ref 6)) 1 401 ⟨t2 w.params, 113, {}, #[], {}, 348, os⟩ (piecesOf s3 envT cT ⟨69, 0, 69, 10⟩ bT)) =
    fun os => some (.next, ⟨t3 w.params, 163, {}, #[], {}, 446, os⟩, cT, ⟨109, 0, 123, 28⟩) := by
  rw [segT_q, tab_q]
  kernel_rfl
noncomputable def s4 : List Stmt := ((behindTheImports pr).drop 36).take 13
theorem piece4 (w : World) : (fun os => segRunT treeTable pr w 11 (some (.ref 6)) 1 385 ⟨t3 w.params, 163, {}, #[], {}, 446, os⟩ (piecesOf s4 envT cT ⟨109, 0, 123, 28⟩ bT)) =
    fun os => some (.next, ⟨t4 w.params, 240, {}, #[], {}, 574, os⟩, cT, ⟨212, 0, 216, 13⟩) := by
  rw [segT_q, tab_q]
  kernel_rfl
noncomputable def s5 : List Stmt := ((behindTheImports pr).drop 49).take 7
theorem piece5 (w : World) : (fun os => segRunT treeTable pr w 11 (some (.ref 6)) 1 376 ⟨t4 w.params, 240, {}, #[], {}, 574, os⟩ (piecesOf s5 envT cT ⟨212, 0, 216, 13⟩ bT)) =
    fun os => some (.next, ⟨t5 w.params, 289, {}, #[], {}, 654, os⟩, cT, ⟨248, 0, 248, 8⟩) := by
  rw [segT_q, tab_q]
  kernel_rfl
noncomputable def s6 : List Stmt := ((behindTheImports pr).drop 56).take 12
theorem piece6 (w : World) : (fun os => segRunT treeTable pr w 11 (some (.ref 6)) 1 369 ⟨t5 w.params, 289, {}, #[], {}, 654, os⟩ (piecesOf s6 envT cT ⟨248, 0, 248, 8⟩ bT)) =
    fun os => some (.next, ⟨t6 w.params, 366, {}, #[], {}, 773, os⟩, cT, ⟨308, 0, 314, 16⟩) := by
  rw [segT_q, tab_q]
  kernel_rfl
noncomputable def s7 : List Stmt := ((behindTheImports pr).drop 68).take 7
theorem piece7 (w : World) : (fun os => segRunT treeTable pr w 11 (some (.ref 6)) 1 395 ⟨t6 w.params, 366, {}, #[], {}, 773, os⟩ (piecesOf s7 envT cT ⟨308, 0, 314, 16⟩ bT)) =
    fun os => some (.next, ⟨t7 w.params, 415, {}, #[], {}, 872, os⟩, cT, ⟨383, 0, 387, 70⟩) := by
  rw [segT_q, tab_q]
  kernel_rfl
noncomputable def s8 : List Stmt := ((behindTheImports pr).drop 75).take 5
theorem piece8 (w : World) : (fun os => segRunT treeTable pr w 11 (some (.ref 6)) 1 148 ⟨t7 w.params, 415, {}, #[], {}, 872, os⟩ (piecesOf s8 envT cT ⟨383, 0, 387, 70⟩ bT)) =
    fun os => some (.next, ⟨t8 w.params, 444, {}, #[], {}, 915, os⟩, cT, ⟨423, 0, 439, 63⟩) := by
  rw [segT_q, tab_q]
  kernel_rfl
theorem fin_t (w : World) : (fun os => topRun treeTable pr w 11 (some (.ref 6)) 2 (SharedT.abs ⟨t8 w.params, 444, {}, #[], {}, 915, os⟩) ⟨doneF .next, cT, ⟨423, 0, 439, 63⟩, bT⟩) = fun os => some ⟨hz w.params, #[], {}, 915, os⟩ := by kernel_rfl
theorem cut_t : behindTheImports pr = s1 ++ (s2 ++ (s3 ++ (s4 ++ (s5 ++ (s6 ++ (s7 ++ (s8 ++ []))))))) := by kernel_rfl
end Mine.T

/-! ## Top2 -/
namespace Mine.T
open PySem PySem.W PyProof.Rows
theorem run_t (w : World) (os : OsState) : topRun treeTable pr w 11 (some (.ref 6)) (12 + (1 + (373 + (371 + (401 + (385 + (376 + (369 + (395 + (148 + 2)))))))))) ⟨boot_heap w.params, #[], boot_drawn, boot_toks, os⟩ (topStub pr) = some ⟨hz w.params, #[], {}, 915, os⟩ := by
  have k9 := piece_nil (env := envT) (congrFun (fin_t w) os)
  have k8 := piece_app (segRun_of (congrFun (piece8 w) os)) k9
  have k7 := piece_app (segRun_of (congrFun (piece7 w) os)) k8
  have k6 := piece_app (segRun_of (congrFun (piece6 w) os)) k7
  have k5 := piece_app (segRun_of (congrFun (piece5 w) os)) k6
  have k4 := piece_app (segRun_of (congrFun (piece4 w) os)) k5
  have k3 := piece_app (segRun_of (congrFun (piece3 w) os)) k4
  have k2 := piece_app (segRun_of (congrFun (piece2 w) os)) k3
  have k1 := piece_app (segRun_of (congrFun (piece1 w) os)) k2
  rw [← cut_t] at k1
  exact go_top (congrFun (pre_t w) os) (piece_block (congrFun (block_t w) os) k1)
theorem open_t : ∀ w : World, (fencedOpening treeTable pr w 5746).map (fun s => (s.heap, s.gens, s.drawn, s.toks)) = some (boot_heap w.params, #[], boot_drawn, boot_toks) :=
  boot_open (by kernel_rfl) (by rfl) (fun s => by kernel_rfl)
theorem size_t : ∀ w : World, ((boot_heap w.params).isNs mainGlobals && (#[] : Array GenState).size == 0, (boot_heap w.params).objs.size, (boot_heap w.params).nsMap mainGlobals "__annotations__") = (true, 11, some (.ref 6)) := fun w => by kernel_rfl
noncomputable def kept : List Nat := [1, 2, 3, 4, 5, 6, 7, 8, 9, 10, 11, 12, 13, 14, 15, 16, 17, 18, 19, 20, 22, 23, 24, 25, 27, 29, 30, 31, 32, 33, 34, 35, 36, 37, 38, 39, 41, 42, 43, 44, 45, 46, 48, 49, 51, 52, 53, 54, 56, 57, 58, 59, 60, 61, 62, 63, 65, 66, 67, 68, 69, 70, 72, 74, 75, 76, 77, 78, 79]
noncomputable def vw : Program := view pr kept
noncomputable abbrev sz (w : World) (os : OsState) : Shared := ⟨hz w.params, #[], {}, 915, os⟩
noncomputable def fragT (P : Params) : Frag := [(3, o3v7 P), (130, o130), (403, o403), (263, o263), (129, o129 P), (402, o402 P), (262, o262 P), (112, o112), (113, o113), (21, o21), (20, o20), (28, o28), (27, o27), (35, o35), (34, o34), (42, o42), (41, o41), (49, o49), (48, o48), (56, o56), (55, o55), (63, o63), (62, o62), (70, o70), (69, o69), (77, o77), (76, o76), (84, o84), (83, o83), (91, o91), (90, o90), (141, o141), (140, o140), (148, o148), (147, o147), (155, o155), (154, o154), (162, o162), (161, o161), (169, o169), (168, o168), (176, o176), (175, o175), (183, o183), (182, o182), (190, o190), (189, o189), (197, o197), (196, o196), (204, o204), (203, o203), (211, o211), (210, o210), (218, o218), (217, o217), (225, o225), (224, o224), (232, o232), (231, o231), (239, o239), (238, o238), (246, o246), (245, o245), (274, o274), (273, o273), (281, o281), (280, o280), (288, o288), (287, o287), (295, o295), (294, o294), (302, o302), (301, o301), (309, o309), (308, o308), (316, o316), (315, o315), (323, o323), (322, o322), (330, o330), (329, o329), (337, o337), (336, o336), (344, o344), (343, o343), (351, o351), (350, o350), (358, o358), (357, o357), (365, o365), (364, o364), (372, o372), (371, o371), (379, o379), (378, o378), (386, o386), (385, o385), (414, o414), (413, o413), (421, o421), (420, o420), (428, o428), (427, o427), (433, o433), (432, o432), (438, o438), (437, o437), (127, o127), (126, o126), (400, o400), (399, o399), (260, o260), (259, o259)]
noncomputable def asT : List Addr := [3, 130, 403, 263, 129, 402, 262, 112, 113, 21, 20, 28, 27, 35, 34, 42, 41, 49, 48, 56, 55, 63, 62, 70, 69, 77, 76, 84, 83, 91, 90, 141, 140, 148, 147, 155, 154, 162, 161, 169, 168, 176, 175, 183, 182, 190, 189, 197, 196, 204, 203, 211, 210, 218, 217, 225, 224, 232, 231, 239, 238, 246, 245, 274, 273, 281, 280, 288, 287, 295, 294, 302, 301, 309, 308, 316, 315, 323, 322, 330, 329, 337, 336, 344, 343, 351, 350, 358, 357, 365, 364, 372, 371, 379, 378, 386, 385, 414, 413, 421, 420, 428, 427, 433, 432, 438, 437, 127, 126, 400, 399, 260, 259]
noncomputable abbrev hookT : Hook := kHook fragT asT fun _ => by kernel_rfl
end Mine.T

/-! ## LA -/
namespace Mine.T
open PySem PySem.W PyProof.Rows
theorem lkA (w : World) : (fun os => staticsOk (importedModules pr.main.body) (boot_heap w.params) (hz w.params) && namesBound pr (hz w.params) && gensDone (sz w os) && laidKept (boot_heap w.params) (hz w.params)) = fun os => true := by kernel_rfl
end Mine.T

/-! ## LB1 -/
namespace Mine.T
open PySem PySem.W PyProof.Rows
theorem lkB1 (w : World) : (fun os => seen ((recsOf vw).map (·.name)) (ownsOf vw) [] { sz w os with gens := #[] }) = fun os => expectedOf vw := by
  rw [Fast.te5160383126252970620, Fast.te3399658132070893891, Fast.te5991557255702980513]
  kernel_rfl
end Mine.T

/-! ## LB2 -/
namespace Mine.T
open PySem PySem.W PyProof.Rows
theorem lkB2 (w : World) : (fun os => (sz w os).heap.bltView) = fun os => bltViewBooted := by kernel_rfl
end Mine.T

/-! ## LB3 -/
namespace Mine.T
open PySem PySem.W PyProof.Rows
theorem lkB3 (w : World) : (fun os => (sz w os).heap.keysOk (looseW vw []) ((recsOf vw).map (·.name)) ((litsOf vw).map (·.1)) ((clssOf vw (looseW vw [])).map (·.name)) && (sz w os).heap.accountedOkI (importedModules pr.main.body) && (sz w os).heap.isNs mainGlobals && (sz w os).heap.isNs builtinsNs && tablesOk vw (sz w os).heap && (xlAt vw [] (sz w os) && recOk PySem.Challenge.rw_sa0133_01.row.toRowW.records (sz w os)) && (sz w os).gens.size == 0) = fun os => true := by
  rw [Fast.te10880121769531294198, Fast.te821141287760084731, Fast.te3399658132070893891, Fast.te7409074990110511671, Fast.te13664370479719496447, Fast.te14722251495701143533, Fast.te10994771534591457954]
  kernel_rfl
end Mine.T

/-! ## LB4 -/
namespace Mine.T
open PySem PySem.W PyProof.Rows
theorem lkB4 (w : World) : (fun os => tabsOk vw (sz w os)) = fun os => true := by
  rw [Fast.te479339242167458305]
  kernel_rfl
end Mine.T

/-! ## LB5 -/
namespace Mine.T
open PySem PySem.W PyProof.Rows
theorem lkB5 (w : World) : (fun os => pinSeenD vw (drecsOf vw) (sz w os)) = fun os => pinGoodD (drecsOf vw) := by
  rw [Fast.te16090120013241838585, Fast.te3247288618530077131]
  kernel_rfl
end Mine.T

/-! ## LB6 -/
namespace Mine.T
open PySem PySem.W PyProof.Rows
theorem lkB6 (w : World) : (fun os => plainSeenE vw (looseW vw []) (sz w os)) = fun os => plainGoodE vw (looseW vw []) := by
  rw [Fast.te2386780881361962483, Fast.te821141287760084731]
  kernel_rfl
end Mine.T

/-! ## LB7 -/
namespace Mine.T
open PySem PySem.W PyProof.Rows
theorem lkB7 (w : World) : (fun os => plainSeenD vw [] (sz w os)) = fun os => plainGoodD vw [] := by kernel_rfl
end Mine.T

/-! ## LB8 -/
namespace Mine.T
open PySem PySem.W PyProof.Rows
theorem lkB8 (w : World) : (fun os => wideSeen vw (sz w os)) = fun os => wideGood vw := by
  rw [Fast.te7317090234206586261]
  kernel_rfl
end Mine.T

/-! ## LB9 -/
namespace Mine.T
open PySem PySem.W PyProof.Rows
theorem lkB9 (w : World) : (fun os => clsSeenW vw [] (sz w os)) = fun os => clsGoodW vw [] := by kernel_rfl
end Mine.T

/-! ## LC -/
namespace Mine.T
open PySem PySem.W PyProof.Rows
theorem lkC (w : World) : (fun os => hookT.obs (sz w os)) = fun os => hookT.val w := by kernel_rfl
end Mine.T

/-! ## Law0 -/
namespace Mine.T
open PySem PySem.W PyProof.Rows
set_option maxHeartbeats 8000000 in
theorem row_t : Fast.tw17960256430627541270 (Fast.tw2368527892694137696 PySem.Challenge.rw_sa0133_01) = true := by
  iterate 20 (refine Bool.and_eq_true_iff.mpr ⟨?_, by as_aux_lemma => kernel_rfl⟩)
  as_aux_lemma => kernel_rfl
set_option maxHeartbeats 8000000 in
theorem law_t : PySem.Challenge.rw_sa0133_01.wellSaid = true := by
  rw [Fast.te9446332074065402090]
  iterate 18 (refine Bool.and_eq_true_iff.mpr ⟨?_, by as_aux_lemma => kernel_rfl⟩)
  exact row_t
theorem tab_t : PySem.Challenge.rw_sa0133_01.row.prog.tablesWhole = true := by kernel_rfl
end Mine.T

/-! ## Head3b -/
namespace Mine
open PySem PySem.W PyProof.Rows
noncomputable def gBA : Nat → Addr := fun k => 112 + k
noncomputable def faTab : List Nat := [21, 28, 35, 42, 49, 56, 63, 70, 77, 84, 91, 141, 148, 155, 162, 169, 176, 183, 190, 197, 204, 211, 218, 225, 232, 239, 246, 274, 281, 288, 295, 302, 309, 316, 323, 330, 337, 344, 351, 358, 365, 372, 379, 386, 414, 421, 428, 433, 438]
noncomputable def gFA (f : Nat) : Addr := if f = 100 then 127 else if f = 101 then 400 else if f = 102 then 260 else faTab.getD f 0
noncomputable def gCA : Nat → Addr := fun c => if c = 0 then 130 else if c = 1 then 403 else 263
noncomputable def gl (p : Program) (w : World) : Gl := ⟨p, w, gCA, gBA, gFA⟩
noncomputable def okTop (K : Frag) : Bool :=
  okGlob K gBA && (okBref K gBA && (okFn K gFA && (okCls K gCA gFA 0 "Geometry" && (okCls K gCA gFA 1 "Zobrist" && (okCls K gCA gFA 2 "Position" && (okFld K gCA 0 && (okFld K gCA 1 && (okFld K gCA 2 &&
  (okSet K gCA 0 && (okSet K gCA 1 && (okSet K gCA 2 && (isNil (nsIn K mainGlobals "range") && isNil (nsIn K mainGlobals "len")))))))))))))
noncomputable def okFns (K : Frag) (l : List (Nat × Fn)) : Bool := l.all fun q => fnB K (gFA q.1) q.2
noncomputable def allOk (K : Frag) : Bool := okTop K && okFns K progTab
theorem look_mem {f : Nat} {fd : Fn} : ∀ {l : List (Nat × Fn)}, l.lookup f = some fd → (f, fd) ∈ l
  | (g, x) :: l, h => by
    rw [List.lookup_cons] at h
    split at h
    · rename_i e
      cases eq_of_beq e
      cases h
      exact .head _
    · exact .tail _ (look_mem h)
theorem kok2 {K : Frag} (h : allOk K = true) (p : Program) (w : World) : KOk (gl p w) K ∧ ∀ f fd, prog f = some fd → FnOk (gl p w) K cpAll csAll f fd := by
  obtain ⟨h1, h2⟩ := and_t h
  obtain ⟨a, h1⟩ := and_t h1
  obtain ⟨b, h1⟩ := and_t h1
  obtain ⟨c, h1⟩ := and_t h1
  obtain ⟨d, h1⟩ := and_t h1
  obtain ⟨e, h1⟩ := and_t h1
  obtain ⟨f, h1⟩ := and_t h1
  obtain ⟨g, h1⟩ := and_t h1
  obtain ⟨i, h1⟩ := and_t h1
  obtain ⟨j, h1⟩ := and_t h1
  obtain ⟨k, h1⟩ := and_t h1
  obtain ⟨l, h1⟩ := and_t h1
  obtain ⟨m, h1⟩ := and_t h1
  obtain ⟨n, o⟩ := and_t h1
  exact ⟨kok_of a b c d e f g i j k l m n o, fun f fd hf => fn_of_b (List.all_eq_true.mp h2 (f, fd) (look_mem hf))⟩
theorem seen_of {q : Program} {loose mods : List Str} {Xt : Shared → Bool} {s : Shared} (b1 : seen ((recsOf q).map (·.name)) (ownsOf q) [] { s with gens := #[] } = expectedOf q) (b2 : s.heap.bltView = bltViewBooted)
    (b3 : (s.heap.keysOk (looseW q loose) ((recsOf q).map (·.name)) ((litsOf q).map (·.1)) ((clssOf q (looseW q loose)).map (·.name)) && s.heap.accountedOkI mods && s.heap.isNs mainGlobals && s.heap.isNs builtinsNs && tablesOk q s.heap && Xt s && s.gens.size == 0) = true)
    (b4 : tabsOk q s = true) (b5 : pinSeenD q (drecsOf q) s = pinGoodD (drecsOf q)) (b6 : plainSeenE q (looseW q loose) s = plainGoodE q (looseW q loose)) (b7 : plainSeenD q loose s = plainGoodD q loose) (b8 : wideSeen q s = wideGood q) (b9 : clsSeenW q loose s = clsGoodW q loose) :
    openSeen q loose mods Xt true s = openGood q loose := by
  unfold openSeen openGood
  rw [b1, b2, b4, b5, b6, b7, b8, b9]
  exact congrArg (fun x => (expectedOf q, bltViewBooted, x, true, pinGoodD (drecsOf q), plainGoodE q (looseW q loose), plainGoodD q loose, wideGood q, clsGoodW q loose)) b3
theorem three {α β γ : Type} {a a' : α} {b b' : β} {c c' : γ} (x : a = a') (y : b = b') (z : c = c') : (a, b, c) = (a', b', c') := by rw [x, y, z]
theorem seen_t (w : World) (os : OsState) : openSeen T.vw [] (importedModules T.pr.main.body) (fun s => xlAt T.vw [] s && recOk PySem.Challenge.rw_sa0133_01.row.toRowW.records s) true (T.sz w os) = openGood T.vw [] :=
  seen_of (congrFun (T.lkB1 w) os) (congrFun (T.lkB2 w) os) (congrFun (T.lkB3 w) os) (congrFun (T.lkB4 w) os) (congrFun (T.lkB5 w) os) (congrFun (T.lkB6 w) os) (congrFun (T.lkB7 w) os) (congrFun (T.lkB8 w) os) (congrFun (T.lkB9 w) os)
theorem left_t : LeftO T.pr T.vw [] (fun s => xlAt T.vw [] s && recOk PySem.Challenge.rw_sa0133_01.row.toRowW.records s) T.hookT.obs T.hookT.val 5746 :=
  LeftO.of_pieces T.open_t T.size_t T.run_t (by rfl) fun w => funext fun os => three (congrFun (T.lkA w) os) (seen_t w os) (congrFun (T.lkC w) os)
end Mine

/-! ## Head4 -/
namespace Mine
open PySem PySem.W PyProof.Rows
theorem ok_top (P : Params) : okTop (T.fragT P) = true := by kernel_rfl
theorem ok_fns (P : Params) : okFns (T.fragT P) progTab = true := by kernel_rfl
theorem ok_all (P : Params) : allOk (T.fragT P) = true := Bool.and_eq_true_iff.mpr ⟨ok_top P, ok_fns P⟩
set_option maxHeartbeats 8000000 in
theorem x (jl : ∀ row : List Int, row.length ≤ 40 → ∃ loc σ, evSs (callF prog 9) FLaw.body (none :: some (.ref 1) :: List.replicate 9 none) [.list (row.map MV.int), .dict [(26, .ref 0), (27, .int 0)]] = some (.ret (.bool true), loc, σ)) : PySem.Challenge.rw_sa0133_01.Holds := by
  w_on
  refine holds_law T.law_t fun said => ?_
  refine holds_open (q := T.vw) (loose := []) (Xt := fun s => xlAt T.vw [] s && recOk PySem.Challenge.rw_sa0133_01.row.toRowW.records s) (XP := XL T.vw []) (Yf := T.hookT.obs) (Ya := T.hookT.val) (YP := T.hookT.says) (N := 5746) left_t T.hookT.of T.hookT.keeps
    (fun s e => xl_of s (Bool.and_eq_true_iff.mp e).1) XL.keeps (by rfl) (by rfl) (by rfl) (fun s e => recFacts_of (Bool.and_eq_true_iff.mp e).2) (by rfl) (by first | assumption | kernel_rfl!) (by kernel_rfl!) ⟨rfl, rfl, rfl, rfl, rfl, T.tab_t⟩ ?jjhw ?jjhc
  case jjhw => w_witness2
  case jjhc =>
    intro w s₀ s₁ mg mb G Y fa o pm cd doc dV kV ho hd hcd hD hmg hg args vals as hpre hlay hrd hwl hlo
    have KX := kIn_of Y
    have KO := ok_all w.params
    generalize T.fragT w.params = K at KX KO
    clear Y
    have X := (Ground.X G).1
    have V := (Ground.X G).2
    refine Ground.open G ?_
    intro T B D TE TW
    try (refine guard_noD D (by decide +kernel) ?_; clear D)
    obtain ⟨_, _, M⟩ := bmod_of_top T
    have TA := at_of_top T
    try (obtain ⟨_, _, he, B0⟩ := based_of_top T rfl hmg ho hd; have he' : cd = _ := he; subst he'; clear he)
    clear hmg
    wrow_args hpre hlay hrd hwl hlo
    all_goals (
      first | refine callC_kw (enter_call ?_) | refine enter_call ?_ | refine callC_kw (enter_callW ?_) | refine enter_callW ?_ | w_how
      w_top on
      try refine codeAny_mono ?_ (fun _ _ g => GoodW.toG g)
      have K0 := below_caller (Top.heap T)
      w_call any ho hd hcd hD T F
      clear hd TA
      k_drop
      skip)
    iterate 19 (first | walk1 | (dsimp only; walk1))
    dsimp only
    refine' law_rest (G := gl _ _) (kok2 KO _ _).1 (kok2 KO _ _).2 ?jjX ?jjT ?jjB rfl rfl rfl rfl rfl ?jjnames ?jjchk ?jjF ?jjm ?jjN ?jjcell ?jjn1 ?jjn2 ?jjn3 ?jjI ?jjd ?jjlaw ?jjk
    case jjX => assumption
    case jjT => assumption
    case jjB => assumption
    case jjnames => kernel_rfl!
    case jjchk => kernel_rfl!
    case jjF => assumption
    case jjN => assumption
    case jjm => rfl
    case jjcell => exact ⟨_, by assumption⟩
    case jjn1 => exact Nat.ne_of_gt (by omega)
    case jjn2 => exact Nat.ne_of_gt (by omega)
    case jjn3 => exact Nat.ne_of_gt (by omega)
    case jjI => assumption
    case jjd => assumption
    case jjlaw => exact jl _ (by rw [List.length_take]; omega)
    case jjk =>
      intro h' tk m' F2
      dsimp only
      kc_close
end Mine

theorem PySem.Challenge.cw_sa0133_01_holds : PySem.Challenge.rw_sa0133_01.Holds := by
  exact Mine.x fun row hr => Mine.Law.law_mini row hr
