import PyProof.Rows.All
import Wide.All
import OpenK.AllK
import Wide.FinOn
import Lean
import PySem.Challenge.RW_sa0632_01
open PySem PySem.W PyProof.Rows PySem.Calls PySem.Spec
set_option Elab.async false
set_option linter.unusedVariables false
set_option linter.unusedSimpArgs false
set_option maxRecDepth 100000
set_option maxHeartbeats 8000000
namespace Mine
/-- what a local name holds: a datum, or a list of the call's own that turns (its number) -/
inductive LV where
  | d (x : Dat)
  | c (k : Nat)
noncomputable def octD : Dat → Bool
  | .int v => decide (0 ≤ v) && decide (v < 256)
  | _ => false
noncomputable def goodD (ds : List Dat) : Bool := decide (0 < ds.length) && decide (ds.length ≤ 500) && ds.all octD
/-- a list of octets that stands still -/
structure Mem where
  ds : List Dat
  ok : goodD ds = true
inductive Cell where
  | lst (ds : List Dat)
  | dead
  | mem (M : Mem)
abbrev Rho := List (Str × LV)
abbrev Sig := List Cell
/-- what the text's defs give back -/
abbrev Ctr := Str → List LV → Sig → Option (Dat × Sig)
mutual
noncomputable def beqD : Dat → Dat → Bool
  | .none, .none => true
  | .bool a, .bool b => a == b
  | .int a, .int b => decide (a = b)
  | .str a, .str b => decide (a = b)
  | .bytes a, .bytes b => decide (a = b)
  | .tuple a, .tuple b => beqDs a b
  | .list a, .list b => beqDs a b
  | _, _ => false
noncomputable def beqDs : List Dat → List Dat → Bool
  | [], [] => true
  | a :: as, b :: bs => beqD a b && beqDs as bs
  | _, _ => false
end
mutual
theorem beqD_iff : ∀ a b : Dat, beqD a b = true ↔ a = b
  | .none, b => by cases b <;> simp [beqD]
  | .bool a, b => by cases b <;> simp [beqD]
  | .int a, b => by cases b <;> simp [beqD]
  | .str a, b => by cases b <;> simp [beqD]
  | .bytes a, b => by cases b <;> simp [beqD]
  | .tuple a, b => by
    cases b <;> simp only [beqD, Dat.tuple.injEq, reduceCtorEq, Bool.false_eq_true]
    exact beqDs_iff a _
  | .list a, b => by
    cases b <;> simp only [beqD, Dat.list.injEq, reduceCtorEq, Bool.false_eq_true]
    exact beqDs_iff a _
theorem beqDs_iff : ∀ a b : List Dat, beqDs a b = true ↔ a = b
  | [], [] => by simp [beqDs]
  | [], _ :: _ => by simp [beqDs]
  | _ :: _, [] => by simp [beqDs]
  | a :: as, b :: bs => by simp [beqDs, beqD_iff a b, beqDs_iff as bs]
end
theorem beqD_refl (a : Dat) : beqD a a = true := (beqD_iff a a).mpr rfl
noncomputable def valL (σ : Sig) : LV → Option Dat
  | .d x => some x
  | .c k => match σ[k]? with
    | some (.lst ds) => some (.list ds)
    | some (.mem M) => some (.list M.ds)
    | _ => none
noncomputable def frz (σ : Sig) : LV → Option (Dat × Sig)
  | .d x => some (x, σ)
  | .c k => match σ[k]? with
    | some (.lst ds) => some (.list ds, σ.set k .dead)
    | some (.mem M) => some (.list M.ds, σ)
    | _ => none
noncomputable def frzL : List LV → Sig → Option (List Dat × Sig)
  | [], σ => some ([], σ)
  | v :: vs, σ => (frz σ v).bind fun p => (frzL vs p.2).bind fun q => some (p.1 :: q.1, q.2)
noncomputable def small (n : Int) : Bool := decide (n.natAbs < 2 ^ 62)
noncomputable def binI (op : Operator) (a b : Int) : Option Int :=
  match op with
  | .Add => some (a + b)
  | .Sub => some (a - b)
  | .Mult => if small a && small b then some (a * b) else none
  | .FloorDiv => if b = 0 then none else if b.natAbs < 1000000 then some (a.fdiv b) else none
  | .Mod => if b = 0 then none else some (a.fmod b)
  | .BitAnd => some (Builtin.bitAnd a b)
  | .BitOr => some (Builtin.bitOr a b)
  | .BitXor => some (Builtin.bitXor a b)
  | .LShift => if decide (0 ≤ b) && decide (b ≤ 1000) && small a then some (a * 2 ^ b.toNat) else none
  | .RShift => if 0 ≤ b then some (a.fdiv (2 ^ b.toNat)) else none
  | _ => none
noncomputable def binD (op : Operator) : Dat → Dat → Option Dat
  | .int a, .int b => (binI op a b).map .int
  | .str x, .str y => match op with
    | .Add => if x.length + y.length ≤ 1000000 then some (.str (x ++ y)) else none
    | _ => none
  | .tuple xs, .tuple ys => match op with
    | .Add => if xs.length + ys.length ≤ 1000 then some (.tuple (xs ++ ys)) else none
    | _ => none
  | .list xs, .list ys => match op with
    | .Add => if xs.length + ys.length ≤ 1000 then some (.list (xs ++ ys)) else none
    | _ => none
  | _, _ => none
/-- data that == and in may look at -/
noncomputable def okD (d : Dat) : Bool := kqdOk 8 d
noncomputable def eqD : Dat → Dat → Option Bool
  | .int a, .int b => some (decide (a = b))
  | .str a, .str b => some (decide (a = b))
  | .tuple a, .tuple b => if okD (.tuple a) && okD (.tuple b) then some (beqDs a b) else none
  | .list a, .list b => if okD (.list a) && okD (.list b) then some (beqDs a b) else none
  | _, _ => none
noncomputable def memD (x : Dat) (ds : List Dat) : Option Bool :=
  if okD x && ds.all okD then some (ds.any fun y => beqD y x) else none
noncomputable def cmpD (op : CmpOp) (a b : Dat) : Option Bool :=
  match op with
  | .Eq => eqD a b
  | .NotEq => (eqD a b).map not
  | .Lt => match a, b with | .int x, .int y => some (decide (x < y)) | _, _ => none
  | .LtE => match a, b with | .int x, .int y => some (decide (x ≤ y)) | _, _ => none
  | .Gt => match a, b with | .int x, .int y => some (decide (y < x)) | _, _ => none
  | .Is => match a, b with | .none, .none => some true | .tuple _, .none => some false | _, _ => none
  | .In => match b with | .tuple ds => memD a ds | .list ds => memD a ds | _ => none
  | _ => none
noncomputable def atI (n : Nat) (k : Int) : Option Nat :=
  if decide (0 ≤ k) && decide (k < n) then some k.toNat else if decide (k < 0) && decide (-(n : Int) ≤ k) then some (k + n).toNat else none
noncomputable def idxD : Dat → Dat → Option Dat
  | .list ds, .int k => if small k && decide (ds.length ≤ 1000) then (atI ds.length k).bind fun j => ds[j]? else none
  | .tuple ds, .int k => if small k && decide (ds.length ≤ 1000) then (atI ds.length k).bind fun j => ds[j]? else none
  | .str x, .int k => if decide (0 ≤ k) && decide (k < x.length) && small k then some (.str (Txt.item x k)) else none
  | _, _ => none
noncomputable def kmsD (l : List Dat) (lo hi : Option Int) : List Dat := (l.drop (kms_lo lo l.length)).take (kms_hi hi l.length - kms_lo lo l.length)
noncomputable def partD : Dat → Option (Option Int)
  | .none => some none
  | .int i => some (some i)
  | _ => none
/-- a slice of a list: no step, or the whole from behind -/
noncomputable def isNoneD : Dat → Bool
  | .none => true
  | _ => false
noncomputable def sliceD (x lo hi st : Dat) : Option (List Dat) := match x with
  | .list ds => match st with
    | .none => if decide (ds.length ≤ 1000) then (partD lo).bind fun l => (partD hi).map fun h => kmsD ds l h else none
    | .int k => if isNoneD lo && isNoneD hi && decide (ds.length ≤ 1000) && decide (k = -1) then some ds.reverse else none
    | _ => none
  | _ => none
noncomputable def stepOk : Option Expr → Dat → Bool
  | none, .none => true
  | some _, .int _ => true
  | _, _ => false
noncomputable def strsD : List Dat → Option (List Str)
  | [] => some []
  | .str x :: r => (strsD r).map fun xs => x :: xs
  | _ :: _ => none
noncomputable def intsD : List Dat → Option (List Int)
  | [] => some []
  | .int x :: r => (intsD r).map fun xs => x :: xs
  | _ :: _ => none
noncomputable def findI (k : Int) : List Int → Option Nat
  | [] => none
  | x :: r => if x = k then some 0 else (findI k r).map fun i => i + 1
/-- the built-ins that give a value -/
noncomputable def bltD (f : Str) (args : List Dat) : Option Dat :=
  match args with
  | [.int a] => if f = "abs" then some (.int (if a < 0 then -a else a)) else if f = "int" then some (.int a) else if f = "str" then (if small a then some (.str (Str.ofString (toString a))) else none) else none
  | [.str x] => if f = "str" then some (.str x) else none
  | [.list ds] => if f = "len" then (if ds.length ≤ 10000 then some (.int ds.length) else none) else none
  | [.int a, .int b] => if f = "min" then some (.int (if b < a then b else a)) else none
  | _ => none
noncomputable def blts : List Str := ["abs", "int", "str", "len", "min"]
structure Evs where
  e : Scope → Rho → Expr → Sig → Option (LV × Sig)
  t : Scope → Rho → Expr → Sig → Option (Bool × Sig)
noncomputable def evL (ev : Expr → Sig → Option (LV × Sig)) : List Expr → Sig → Option (List LV × Sig)
  | [], σ => some ([], σ)
  | e :: es, σ => (ev e σ).bind fun p => (evL ev es p.2).bind fun q => some (p.1 :: q.1, q.2)
noncomputable def valsL (σ : Sig) : List LV → Option (List Dat)
  | [] => some []
  | v :: vs => (valL σ v).bind fun x => (valsL σ vs).map fun xs => x :: xs
noncomputable def isGlob (sc : Scope) (x : Str) : Bool := decide (sc.names.lookup x = some .globalImplicit)
noncomputable def isLoc (sc : Scope) (x : Str) : Bool := decide (sc.names.lookup x = some .local) && !(x == ("__debug__" : Str))
/-- the value of an expression's part that may lack -/
noncomputable def evO (ev : Expr → Sig → Option (LV × Sig)) : Option Expr → Sig → Option (Dat × Sig)
  | none, σ => some (.none, σ)
  | some e, σ => (ev e σ).bind fun p => (valL p.2 p.1).bind fun x => match p.1 with
    | .d _ => some (x, p.2)
    | .c _ => none
noncomputable def stateMap (f : Dat → Sig → Option (List Dat × Sig)) : List Dat → Sig → Option (List Dat × Sig)
  | [], σ => some ([], σ)
  | d :: ds, σ => (f d σ).bind fun p => (stateMap f ds p.2).bind fun q => some (p.1 ++ q.1, q.2)
noncomputable def rangeD (n : Int) : List Dat := (List.range n.toNat).map fun i => .int (Int.ofNat i)
set_option genSizeOf false in
set_option genInjectivity false in
/-- what a for or a comprehension goes over -/
inductive IView : Expr → Type
  | call (f : Str) (fp : Pos) (a : Expr) (p : Pos) : IView (.Call (.Name f fp) [a] [] p)
  | name (x : Str) (xp : Pos) : IView (.Name x xp)
noncomputable def iview : (e : Expr) → Option (IView e)
  | .Call (.Name f fp) [a] [] p => some (.call f fp a p)
  | .Name x xp => some (.name x xp)
  | _ => none
noncomputable def evItemsV (R : Evs) (sc : Scope) (ρ : Rho) {iter : Expr} (v : IView iter) (σ : Sig) : Option (List Dat × Sig) :=
  match v with
  | .call f _ a _ =>
    if isGlob sc f && decide (f = "range") then (R.e sc ρ a σ).bind fun p => match p.1 with
      | .d (.int n) => if decide (n ≤ 1000) && small n then some (rangeD n, p.2) else none
      | _ => none
    else none
  | .name x xp => (R.e sc ρ (.Name x xp) σ).bind fun p => match p.1 with
      | .d (.list ds) => if ds.length ≤ 1000 then some (ds, p.2) else none
      | .c k => match p.2[k]? with
        | some (.mem M) => some (M.ds, p.2)
        | _ => none
      | _ => none
noncomputable def evItems (R : Evs) (sc : Scope) (ρ : Rho) (iter : Expr) (σ : Sig) : Option (List Dat × Sig) := (iview iter).bind fun v => evItemsV R sc ρ v σ
section
variable {R : Evs} {sc : Scope} {ρ : Rho} {σ : Sig}
theorem i_name (x xp) : evItems R sc ρ (.Name x xp) σ = (R.e sc ρ (.Name x xp) σ).bind fun p => match p.1 with
      | .d (.list ds) => if ds.length ≤ 1000 then some (ds, p.2) else none
      | .c k => match p.2[k]? with
        | some (.mem M) => some (M.ds, p.2)
        | _ => none
      | _ => none := rfl
theorem i_call (f fp a p) : evItems R sc ρ (.Call (.Name f fp) [a] [] p) σ = if isGlob sc f && decide (f = "range") then (R.e sc ρ a σ).bind fun p => match p.1 with
      | .d (.int n) => if decide (n ≤ 1000) && small n then some (rangeD n, p.2) else none
      | _ => none
    else none := rfl
end
noncomputable def freesOk (sc scope : Scope) (ρ : Rho) : Bool := scope.names.all fun y =>
  decide (y.2 ≠ .cell) && (decide (y.2 ≠ .local) || decide (scope.names.lookup y.1 = some .local)) && (decide (y.2 ≠ .free) || (decide (sc.names.lookup y.1 = some .cell) && (ρ.lookup y.1).isSome))
noncomputable def notDebug (x : Str) : Bool := !(x == ("__debug__" : Str))
noncomputable def restR (scope : Scope) (ρ : Rho) : Rho := ρ.filter fun p => decide (scope.names.lookup p.1 = some .free)
set_option genSizeOf false in
set_option genInjectivity false in
/-- an expression that makes a list -/
inductive FView : Expr → Type
  | list (es : List Expr) (p : Pos) : FView (.List es p)
  | call (f : Str) (fp : Pos) (a : Expr) (p : Pos) : FView (.Call (.Name f fp) [a] [] p)
  | lcu (elt : Expr) (x : Str) (xp : Pos) (iter : Expr) (a : Int) (scope : Scope) (p : Pos) : FView (.ListComp elt [⟨.Name x xp, iter, [], a⟩] scope p)
  | lct (elt : Expr) (x : Str) (xp : Pos) (y : Str) (yp : Pos) (c : Expr) (a : Int) (scope : Scope) (p : Pos) : FView (.ListComp elt [⟨.Name x xp, .Name y yp, [c], a⟩] scope p)
  | lcp (elt : Expr) (x : Str) (xp : Pos) (x₂ : Str) (x₂p : Pos) (k : Nat) (tp : Pos) (y : Str) (yp : Pos) (a : Int) (scope : Scope) (p : Pos) : FView (.ListComp elt [⟨.Tuple [.Name x xp, .Name x₂ x₂p] k tp, .Name y yp, [], a⟩] scope p)
noncomputable def fview : (e : Expr) → Option (FView e)
  | .List es p => some (.list es p)
  | .Call (.Name f fp) [a] [] p => some (.call f fp a p)
  | .ListComp elt [⟨.Name x xp, iter, [], a⟩] scope p => some (.lcu elt x xp iter a scope p)
  | .ListComp elt [⟨.Name x xp, .Name y yp, [c], a⟩] scope p => some (.lct elt x xp y yp c a scope p)
  | .ListComp elt [⟨.Tuple [.Name x xp, .Name x₂ x₂p] k tp, .Name y yp, [], a⟩] scope p => some (.lcp elt x xp x₂ x₂p k tp y yp a scope p)
  | _ => none
noncomputable def stepFV (R : Evs) (sc : Scope) (ρ : Rho) {e : Expr} (v : FView e) (σ : Sig) : Option (List Dat × Sig) :=
  match v with
  | .list es _ => (evL (R.e sc ρ) es σ).bind fun p => if es.length ≤ 1000 then frzL p.1 p.2 else none
  | .call f _ a _ => if isGlob sc f && decide (f = "list") then (R.e sc ρ a σ).bind fun p => match p.1 with
      | .d (.list ds) => if ds.length ≤ 1000 then some (ds, p.2) else none
      | _ => none
    else none
  | .lcu elt x _ iter a scope _ =>
    if decide (a = 0) && decide (scope.kind = .function) && freesOk sc scope ρ && isLoc scope x then
      (evItems R sc ρ iter σ).bind fun p => stateMap (fun d σ' => (R.e scope ((x, .d d) :: restR scope ρ) elt σ').bind fun q => match q.1 with
        | .d v => some ([v], q.2)
        | .c _ => none) p.1 p.2
    else none
  | .lct elt x _ y yp c a scope _ =>
    if decide (a = 0) && decide (scope.kind = .function) && freesOk sc scope ρ && isLoc scope x then
      (evItems R sc ρ (.Name y yp) σ).bind fun p => stateMap (fun d σ' => (R.t scope ((x, .d d) :: restR scope ρ) c σ').bind fun b =>
        if b.1 then (R.e scope ((x, .d d) :: restR scope ρ) elt b.2).bind fun q => match q.1 with
          | .d v => some ([v], q.2)
          | .c _ => none
        else some ([], b.2)) p.1 p.2
    else none
  | .lcp elt x _ x₂ _ _ _ y yp a scope _ =>
    if decide (a = 0) && decide (scope.kind = .function) && freesOk sc scope ρ && isLoc scope x && isLoc scope x₂ && decide (x ≠ x₂) then
      (evItems R sc ρ (.Name y yp) σ).bind fun p => stateMap (fun d σ' => match d with
        | .tuple [d₁, d₂] => (R.e scope ((x, .d d₁) :: (x₂, .d d₂) :: restR scope ρ) elt σ').bind fun q => match q.1 with
          | .d v => some ([v], q.2)
          | .c _ => none
        | _ => none) p.1 p.2
    else none
noncomputable def stepF (R : Evs) (sc : Scope) (ρ : Rho) (e : Expr) (σ : Sig) : Option (List Dat × Sig) := (fview e).bind fun v => stepFV R sc ρ v σ
noncomputable def evBo (op : BoolOp) (tt : Expr → Sig → Option (Bool × Sig)) : List Expr → Sig → Option (Bool × Sig)
  | [], σ => some (decide (op = .And), σ)
  | e :: es, σ => (tt e σ).bind fun p => match op with
    | .And => if p.1 then evBo op tt es p.2 else some (false, p.2)
    | .Or => if p.1 then some (true, p.2) else evBo op tt es p.2
/-- a comparison, of one link or two -/
noncomputable def evCmp (R : Evs) (sc : Scope) (ρ : Rho) (l : Expr) (ops : List CmpOp) (rs : List Expr) (σ : Sig) : Option (Bool × Sig) :=
  match ops, rs with
  | [op], [r] => if behindInMarks op r then none else
    (R.e sc ρ l σ).bind fun p => (R.e sc ρ r p.2).bind fun q => (valL q.2 p.1).bind fun x => (valL q.2 q.1).bind fun y => (cmpD op x y).map fun b => (b, q.2)
  | [op₁, op₂], [r₁, r₂] => if behindInMarks op₂ r₂ then none else
    (R.e sc ρ l σ).bind fun p => (R.e sc ρ r₁ p.2).bind fun q => (valL q.2 p.1).bind fun x => (valL q.2 q.1).bind fun y => (cmpD op₁ x y).bind fun b =>
      if b then (R.e sc ρ r₂ q.2).bind fun u => (valL u.2 q.1).bind fun y' => (valL u.2 u.1).bind fun z => (cmpD op₂ y' z).map fun b' => (b', u.2)
      else some (false, q.2)
  | _, _ => none
/-- a value that is a bool -/
noncomputable def evBool (ev : Expr → Sig → Option (LV × Sig)) (e : Expr) (σ : Sig) : Option (Bool × Sig) :=
  (ev e σ).bind fun q => match q.1 with
    | .d (.bool b) => some (b, q.2)
    | _ => none
set_option genSizeOf false in
set_option genInjectivity false in
inductive TView : Expr → Type
  | not (x : Expr) (p : Pos) : TView (.UnaryOp .Not x p)
  | bo (op : BoolOp) (vs : List Expr) (p : Pos) : TView (.BoolOp op vs p)
  | cmp (l : Expr) (ops : List CmpOp) (rs : List Expr) (p : Pos) : TView (.Compare l ops rs p)
  | name (x : Str) (p : Pos) : TView (.Name x p)
  | call (f : Expr) (as : List Expr) (ks : List Keyword) (p : Pos) : TView (.Call f as ks p)
noncomputable def tview : (e : Expr) → Option (TView e)
  | .UnaryOp .Not x p => some (.not x p)
  | .BoolOp op vs p => some (.bo op vs p)
  | .Compare l ops rs p => some (.cmp l ops rs p)
  | .Name x p => some (.name x p)
  | .Call f as ks p => some (.call f as ks p)
  | _ => none
noncomputable def stepTV (R : Evs) (sc : Scope) (ρ : Rho) {e : Expr} (v : TView e) (σ : Sig) : Option (Bool × Sig) :=
  match v with
  | .not x _ => (R.t sc ρ x σ).map fun p => (!p.1, p.2)
  | .bo op vs _ => evBo op (R.t sc ρ) vs σ
  | .cmp l ops rs _ => evCmp R sc ρ l ops rs σ
  | .name x p => evBool (R.e sc ρ) (.Name x p) σ
  | .call f as ks p => evBool (R.e sc ρ) (.Call f as ks p) σ
noncomputable def stepT (R : Evs) (sc : Scope) (ρ : Rho) (e : Expr) (σ : Sig) : Option (Bool × Sig) := (tview e).bind fun v => stepTV R sc ρ v σ
noncomputable def isSlice : Expr → Bool
  | .Slice .. => true
  | _ => false
theorem not_slice {i : Expr} (h : isSlice i = false) (a b c : Option Expr) (d : Pos) : i ≠ .Slice a b c d := fun e => by subst e; cases h
set_option genSizeOf false in
set_option genInjectivity false in
inductive EView : Expr → Type
  | int (i : Int) (k : Nat) (p : Pos) : EView (.Constant (.int i) k p)
  | str (x : Str) (k : Nat) (p : Pos) : EView (.Constant (.str x) k p)
  | none (k : Nat) (p : Pos) : EView (.Constant .none k p)
  | bool (b : Bool) (k : Nat) (p : Pos) : EView (.Constant (.bool b) k p)
  | name (x : Str) (p : Pos) : EView (.Name x p)
  | bin (l : Expr) (op : Operator) (r : Expr) (p : Pos) : EView (.BinOp l op r p)
  | neg (x : Expr) (p : Pos) : EView (.UnaryOp .USub x p)
  | not (x : Expr) (p : Pos) : EView (.UnaryOp .Not x p)
  | ife (t b o : Expr) (p : Pos) : EView (.IfExp t b o p)
  | bo (op : BoolOp) (v : Expr) (r : List Expr) (p : Pos) : EView (.BoolOp op (v :: r) p)
  | cmp (l : Expr) (ops : List CmpOp) (rs : List Expr) (p : Pos) : EView (.Compare l ops rs p)
  | tup (es : List Expr) (k : Nat) (p : Pos) : EView (.Tuple es k p)
  | slice (n : Str) (np : Pos) (lo hi st : Option Expr) (sp p : Pos) : EView (.Subscript (.Name n np) (.Slice lo hi st sp) p)
  | sub (v i : Expr) (p : Pos) (h : isSlice i = false) : EView (.Subscript v i p)
  | join (x : Str) (ck : Nat) (cpp : Pos) (name : Str) (ap : Pos) (a : Expr) (cp : Pos) : EView (.Call (.Attribute (.Constant (.str x) ck cpp) name ap) [a] [] cp)
  | index (y : Str) (yp : Pos) (name : Str) (ap : Pos) (a : Expr) (cp : Pos) : EView (.Call (.Attribute (.Name y yp) name ap) [a] [] cp)
  | call (f : Str) (fp : Pos) (args : List Expr) (p : Pos) : EView (.Call (.Name f fp) args [] p)
  | list (es : List Expr) (p : Pos) : EView (.List es p)
  | lc (a : Expr) (b : List Comprehension) (c : Scope) (p : Pos) : EView (.ListComp a b c p)
noncomputable def sliceView : (v i : Expr) → (p : Pos) → Option (EView (.Subscript v i p))
  | .Name n np, .Slice lo hi st sp, p => some (.slice n np lo hi st sp p)
  | _, _, _ => none
noncomputable def eview : (e : Expr) → Option (EView e)
  | .Constant (.int i) k p => some (.int i k p)
  | .Constant (.str x) k p => some (.str x k p)
  | .Constant .none k p => some (.none k p)
  | .Constant (.bool b) k p => some (.bool b k p)
  | .Name x p => some (.name x p)
  | .BinOp l op r p => some (.bin l op r p)
  | .UnaryOp .USub x p => some (.neg x p)
  | .UnaryOp .Not x p => some (.not x p)
  | .IfExp t b o p => some (.ife t b o p)
  | .BoolOp op (v :: r) p => some (.bo op v r p)
  | .Compare l ops rs p => some (.cmp l ops rs p)
  | .Tuple es k p => some (.tup es k p)
  | .Subscript v i p => match h : isSlice i with
    | true => sliceView v i p
    | false => some (.sub v i p h)
  | .Call (.Attribute (.Constant (.str x) ck cpp) name ap) [a] [] cp => some (.join x ck cpp name ap a cp)
  | .Call (.Attribute (.Name y yp) name ap) [a] [] cp => some (.index y yp name ap a cp)
  | .Call (.Name f fp) args [] p => some (.call f fp args p)
  | .List es p => some (.list es p)
  | .ListComp a b c p => some (.lc a b c p)
  | _ => none
noncomputable def stepEV (G : Ctr) (R : Evs) (sc : Scope) (ρ : Rho) {e : Expr} (v : EView e) (σ : Sig) : Option (LV × Sig) :=
  match v with
  | .int i _ _ => some (.d (.int i), σ)
  | .str x _ _ => some (.d (.str x), σ)
  | .none _ _ => some (.d .none, σ)
  | .bool b _ _ => some (.d (.bool b), σ)
  | .name x _ => (ρ.lookup x).map fun v => (v, σ)
  | .bin l op r _ => (R.e sc ρ l σ).bind fun p => (R.e sc ρ r p.2).bind fun q => (valL q.2 p.1).bind fun x => (valL q.2 q.1).bind fun y => (binD op x y).map fun z => (.d z, q.2)
  | .neg x _ => (R.e sc ρ x σ).bind fun p => match p.1 with
      | .d (.int i) => some (.d (.int (-i)), p.2)
      | _ => none
  | .not x _ => (R.e sc ρ x σ).bind fun p => match p.1 with
      | .d (.bool b) => some (.d (.bool (!b)), p.2)
      | _ => none
  | .ife t b o _ => (R.t sc ρ t σ).bind fun p => if p.1 then R.e sc ρ b p.2 else R.e sc ρ o p.2
  | .bo op v r _ => (evBo op (evBool (R.e sc ρ)) (v :: r) σ).map fun p => (.d (.bool p.1), p.2)
  | .cmp l ops rs _ => (evCmp R sc ρ l ops rs σ).map fun p => (.d (.bool p.1), p.2)
  | .tup es _ _ => (evL (R.e sc ρ) es σ).bind fun p => if es.length ≤ 1000 then (frzL p.1 p.2).map fun q => (.d (.tuple q.1), q.2) else none
  | .slice n np lo hi st _ _ => (R.e sc ρ (.Name n np) σ).bind fun p => (evO (R.e sc ρ) lo p.2).bind fun a => (evO (R.e sc ρ) hi a.2).bind fun b => (evO (R.e sc ρ) st b.2).bind fun c =>
      (valL c.2 p.1).bind fun x => if stepOk st c.1 then (sliceD x a.1 b.1 c.1).map fun ds => (.d (.list ds), c.2) else none
  | .sub v i _ _ => (R.e sc ρ v σ).bind fun p => (R.e sc ρ i p.2).bind fun q => (valL q.2 p.1).bind fun x => (valL q.2 q.1).bind fun y => (idxD x y).map fun z => (.d z, q.2)
  | .join x ck cpp name ap a cp => if decide (ap.endLine = cp.line) && decide (name = "join") then
          (R.e sc ρ (.Constant (.str x) ck cpp) σ).bind fun p => (R.e sc ρ a p.2).bind fun q => match p.1, q.1 with
            | .d (.str x), .d (.list ds) => (strsD ds).bind fun ys => if x.length ≤ 16 ∧ (ys.map (·.length)).sum + ys.length ≤ 1048576 then some (.d (.str (Txt.join x ys)), q.2) else none
            | _, _ => none
        else none
  | .index y yp name ap a cp => if decide (ap.endLine = cp.line) && decide (name = "index") then
          (R.e sc ρ (.Name y yp) σ).bind fun p => (R.e sc ρ a p.2).bind fun q => match p.1, q.1 with
            | .d (.list ds), .d (.int k) => (intsD ds).bind fun ns => if ns.length ≤ 1000 then (findI k ns).map fun i => (.d (.int (Int.ofNat i)), q.2) else none
            | _, _ => none
        else none
  | .call f fp args p =>
    if isGlob sc f then
      if blts.contains f then (evL (R.e sc ρ) args σ).bind fun q => (valsL q.2 q.1).bind fun xs => if decide (0 < args.length) then (bltD f xs).map fun z => (.d z, q.2) else none
      else if decide (f = "list") then (stepF R sc ρ (.Call (.Name f fp) args [] p) σ).map fun q => (.d (.list q.1), q.2)
      else if notDebug f then (evL (R.e sc ρ) args σ).bind fun q => (G f q.1 q.2).map fun r => (.d r.1, r.2) else none
    else none
  | .list es p => (stepF R sc ρ (.List es p) σ).map fun q => (.d (.list q.1), q.2)
  | .lc a b c p => (stepF R sc ρ (.ListComp a b c p) σ).map fun q => (.d (.list q.1), q.2)
noncomputable def stepE (G : Ctr) (R : Evs) (sc : Scope) (ρ : Rho) (e : Expr) (σ : Sig) : Option (LV × Sig) := (eview e).bind fun v => stepEV G R sc ρ v σ
noncomputable def evAll (G : Ctr) : Nat → Evs
  | 0 => ⟨fun _ _ _ _ => none, fun _ _ _ _ => none⟩
  | n + 1 => ⟨stepE G (evAll G n), stepT (evAll G n)⟩
/-- an expression whose list, when it makes one, may turn -/
noncomputable def stepX (R : Evs) (mt : Bool) (sc : Scope) (ρ : Rho) (e : Expr) (σ : Sig) : Option (LV × Sig) :=
  if mt then (stepF R sc ρ e σ).map fun q => (.c q.2.length, q.2 ++ [.lst q.1]) else R.e sc ρ e σ
inductive Fl where
  | next
  | ret (x : Dat)
abbrev SRes := Option (Fl × Rho × Sig)
noncomputable def setR : Rho → Str → LV → Rho
  | [], x, v => [(x, v)]
  | p :: r, x, v => if p.1 = x then (x, v) :: r else p :: setR r x v
noncomputable def namesOf : List Expr → Option (List Str)
  | [] => some []
  | .Name x _ :: r => (namesOf r).map fun xs => x :: xs
  | _ :: _ => none
noncomputable def setRs : Rho → List Str → List LV → Option Rho
  | ρ, [], [] => some ρ
  | ρ, x :: xs, v :: vs => setRs (setR ρ x v) xs vs
  | _, _, _ => none
noncomputable def itemsD : Dat → Option (List Dat)
  | .tuple ds => some ds
  | .list ds => some ds
  | _ => none
/-- a target and a datum -/
noncomputable def tgt (sc : Scope) (t : Expr) (ρ : Rho) (x : Dat) : Option Rho :=
  match t with
  | .Name y _ => if isLoc sc y then some (setR ρ y (.d x)) else none
  | .Tuple es _ _ => (namesOf es).bind fun ys => if ys.all (isLoc sc) && decide (2 ≤ ys.length) then (itemsD x).bind fun ds => if ds.length ≤ 1000 then setRs ρ ys (ds.map .d) else none else none
  | _ => none
noncomputable def evSs (f : Rho → Sig → Stmt → SRes) : List Stmt → Rho → Sig → SRes
  | [], ρ, σ => some (.next, ρ, σ)
  | s :: r, ρ, σ => (f ρ σ s).bind fun p => match p.1 with
    | .next => evSs f r p.2.1 p.2.2
    | .ret x => some (.ret x, p.2.1, p.2.2)
noncomputable def evLoop (as : Rho → Dat → Option Rho) (f : Rho → Sig → SRes) : List Dat → Rho → Sig → SRes
  | [], ρ, σ => some (.next, ρ, σ)
  | d :: ds, ρ, σ => (as ρ d).bind fun ρ' => (f ρ' σ).bind fun p => match p.1 with
    | .next => evLoop as f ds p.2.1 p.2.2
    | .ret x => some (.ret x, p.2.1, p.2.2)
noncomputable def setAt (ds : List Dat) (k : Int) (x : Dat) : Option (List Dat) := if small k && decide (ds.length ≤ 1000) then (atI ds.length k).map fun j => ds.set j x else none
noncomputable def enumD (ds : List Dat) : List Dat := (ds.zipIdx).map fun p => .tuple [.int (p.2 : Int), p.1]
set_option genSizeOf false in
set_option genInjectivity false in
inductive TIView : Expr → Expr → Type
  | en (es : List Expr) (k : Nat) (tp : Pos) (f : Str) (fp : Pos) (x : Str) (xp p : Pos) : TIView (.Tuple es k tp) (.Call (.Name f fp) [.Name x xp] [] p)
  | tn (es : List Expr) (k : Nat) (tp : Pos) (x : Str) (xp : Pos) : TIView (.Tuple es k tp) (.Name x xp)
  | nn (y : Str) (yp : Pos) (x : Str) (xp : Pos) : TIView (.Name y yp) (.Name x xp)
  | nc (y : Str) (yp : Pos) (f : Str) (fp : Pos) (a : Expr) (p : Pos) : TIView (.Name y yp) (.Call (.Name f fp) [a] [] p)
noncomputable def tiview : (t iter : Expr) → Option (TIView t iter)
  | .Tuple es k tp, .Call (.Name f fp) [.Name x xp] [] p => some (.en es k tp f fp x xp p)
  | .Tuple es k tp, .Name x xp => some (.tn es k tp x xp)
  | .Name y yp, .Name x xp => some (.nn y yp x xp)
  | .Name y yp, .Call (.Name f fp) [a] [] p => some (.nc y yp f fp a p)
  | _, _ => none
noncomputable def evIterV (R : Evs) (sc : Scope) (ρ : Rho) {t iter : Expr} (v : TIView t iter) (σ : Sig) : Option (List Dat × Sig) :=
  match v with
  | .en _ _ _ f _ x xp _ => if isGlob sc f && decide (f = "enumerate") then (evItems R sc ρ (.Name x xp) σ).map fun p => (enumD p.1, p.2) else none
  | .tn _ _ _ x xp => evItems R sc ρ (.Name x xp) σ
  | .nn _ _ x xp => evItems R sc ρ (.Name x xp) σ
  | .nc _ _ f fp a p => evItems R sc ρ (.Call (.Name f fp) [a] [] p) σ
noncomputable def evIter (R : Evs) (sc : Scope) (ρ : Rho) (t iter : Expr) (σ : Sig) : Option (List Dat × Sig) := (tiview t iter).bind fun v => evIterV R sc ρ v σ
section
variable {R : Evs} {sc : Scope} {ρ : Rho} {σ : Sig}
theorem it_en (es k tp f fp x xp p) : evIter R sc ρ (.Tuple es k tp) (.Call (.Name f fp) [.Name x xp] [] p) σ = if isGlob sc f && decide (f = "enumerate") then (evItems R sc ρ (.Name x xp) σ).map fun p => (enumD p.1, p.2) else none := rfl
theorem it_tn (es k tp x xp) : evIter R sc ρ (.Tuple es k tp) (.Name x xp) σ = evItems R sc ρ (.Name x xp) σ := rfl
theorem it_nn (y yp x xp) : evIter R sc ρ (.Name y yp) (.Name x xp) σ = evItems R sc ρ (.Name x xp) σ := rfl
theorem it_nc (y yp f fp a p) : evIter R sc ρ (.Name y yp) (.Call (.Name f fp) [a] [] p) σ = evItems R sc ρ (.Call (.Name f fp) [a] [] p) σ := rfl
end
noncomputable def sameLine (ts : List Expr) : Bool := ts.all fun t => t.pos.line == (ts.head?.map (·.pos.line)).getD 0
/-- an expression that is no comprehension -/
noncomputable def plainE : Expr → Bool
  | .ListComp .. => false
  | .SetComp .. => false
  | .DictComp .. => false
  | _ => true
noncomputable def callOrName : Expr → Bool
  | .Call .. => true
  | .Name .. => true
  | _ => false
noncomputable def evXs (R : Evs) (mt : Str → Bool) (sc : Scope) (ρ : Rho) : List Str → List Expr → Sig → Option (List LV × Sig)
    | [], [], σ => some ([], σ)
    | x :: xs, e :: es, σ => (stepX R (mt x) sc ρ e σ).bind fun p => (evXs R mt sc ρ xs es p.2).bind fun q => some (p.1 :: q.1, q.2)
    | _, _, _ => none
set_option genSizeOf false in
set_option genInjectivity false in
inductive SView : Stmt → Type
  | ret (e : Expr) (p : Pos) : SView (.Return (some e) p)
  | ite (t : Expr) (b o : List Stmt) (p : Pos) : SView (.If t b o p)
  | lc (x : Str) (px : Pos) (a : Expr) (gs : List Comprehension) (scope : Scope) (p sp : Pos) : SView (.Assign [.Name x px] (.ListComp a gs scope p) sp)
  | name (x : Str) (px : Pos) (e : Expr) (p : Pos) : SView (.Assign [.Name x px] e p)
  | swap (ts : List Expr) (k : Nat) (tp : Pos) (es : List Expr) (k' : Nat) (p' p : Pos) : SView (.Assign [.Tuple ts k tp] (.Tuple es k' p') p)
  | unp (ts : List Expr) (k : Nat) (tp : Pos) (e : Expr) (p : Pos) : SView (.Assign [.Tuple ts k tp] e p)
  | set (o : Str) (op : Pos) (i : Expr) (ip : Pos) (e : Expr) (p : Pos) : SView (.Assign [.Subscript (.Name o op) i ip] e p)
  | loop (t iter : Expr) (b : List Stmt) (p : Pos) : SView (.For t iter b [] p)
  | app (o : Str) (op : Pos) (name : Str) (ap : Pos) (a : Expr) (cp p : Pos) : SView (.Expr (.Call (.Attribute (.Name o op) name ap) [a] [] cp) p)
noncomputable def sview : (s : Stmt) → Option (SView s)
  | .Return (some e) p => some (.ret e p)
  | .If t b o p => some (.ite t b o p)
  | .Assign [.Name x px] (.ListComp a gs scope p) sp => some (.lc x px a gs scope p sp)
  | .Assign [.Name x px] e p => some (.name x px e p)
  | .Assign [.Tuple ts k tp] (.Tuple es k' p') p => some (.swap ts k tp es k' p' p)
  | .Assign [.Tuple ts k tp] e p => some (.unp ts k tp e p)
  | .Assign [.Subscript (.Name o op) i ip] e p => some (.set o op i ip e p)
  | .For t iter b [] p => some (.loop t iter b p)
  | .Expr (.Call (.Attribute (.Name o op) name ap) [a] [] cp) p => some (.app o op name ap a cp p)
  | _ => none
noncomputable def stepSV (R : Evs) (mt : Str → Bool) (sc : Scope) (body : Rho → Sig → Stmt → SRes) (ρ : Rho) (σ : Sig) {s : Stmt} (v : SView s) : SRes :=
  match v with
  | .ret e _ => (R.e sc ρ e σ).bind fun p => (frz p.2 p.1).map fun q => (.ret q.1, ρ, q.2)
  | .ite t b o _ => (R.t sc ρ t σ).bind fun p => if p.1 then evSs body b ρ p.2 else evSs body o ρ p.2
  | .lc x px a gs scope p _ => if isLoc sc x && decide (px.line = p.line) && !(scope.names.any fun nk => nk.1 == x && (nk.2 == .local || nk.2 == .cell)) then ((stepF R sc ρ (.ListComp a gs scope p) σ).map fun q => if mt x then (LV.c q.2.length, q.2 ++ [.lst q.1]) else (LV.d (.list q.1), q.2)).map fun p => (.next, setR ρ x p.1, p.2) else none
  | .name x _ e _ => if isLoc sc x && plainE e then (stepX R (mt x) sc ρ e σ).map fun p => (.next, setR ρ x p.1, p.2) else none
  | .swap ts _ _ es _ _ _ => (namesOf ts).bind fun xs =>
      if xs.all (isLoc sc) && decide (xs.length = es.length) && decide (2 ≤ xs.length ∧ xs.length ≤ 3) && decide xs.Nodup && sameLine ts && !(es.all (foldedForSure 8)) && !(es.all (constantsAlone 8)) then
        (evXs R (fun x => mt x) sc ρ xs es σ).bind fun p => (setRs ρ xs p.1).map fun ρ' => (.next, ρ', p.2)
      else none
  | .unp ts k tp e _ => if callOrName e then (R.e sc ρ e σ).bind fun p => (valL p.2 p.1).bind fun x => (tgt sc (.Tuple ts k tp) ρ x).map fun ρ' => (.next, ρ', p.2) else none
  | .set o op i _ e _ => (R.e sc ρ e σ).bind fun p => (frz p.2 p.1).bind fun q => (R.e sc ρ (.Name o op) q.2).bind fun c => (R.e sc ρ i c.2).bind fun j => match c.1, j.1 with
      | .c n, .d (.int k) => match j.2[n]? with
        | some (.lst ds) => (setAt ds k q.1).map fun ds' => (.next, ρ, j.2.set n (.lst ds'))
        | _ => none
      | _, _ => none
  | .loop t iter b _ => (evIter R sc ρ t iter σ).bind fun p => evLoop (tgt sc t) (fun ρ' σ' => evSs body b ρ' σ') p.1 ρ p.2
  | .app o op name ap a cp _ => if decide (name = "append") && decide (ap.endLine = cp.line) then
      (R.e sc ρ (.Name o op) σ).bind fun c => match c.1 with
        | .c n => match c.2[n]? with
          | some (.lst _) => (R.e sc ρ a c.2).bind fun p => (frz p.2 p.1).bind fun q => match q.2[n]? with
            | some (.lst ds) => if ds.length ≤ 1000 then some (.next, ρ, q.2.set n (.lst (ds ++ [q.1]))) else none
            | _ => none
          | _ => none
        | _ => none
    else none
noncomputable def stepS (R : Evs) (mt : Str → Bool) (sc : Scope) (body : Rho → Sig → Stmt → SRes) (ρ : Rho) (σ : Sig) (s : Stmt) : SRes := (sview s).bind fun v => stepSV R mt sc body ρ σ v
noncomputable def evS (G : Ctr) (mt : Str → Bool) (sc : Scope) : Nat → Rho → Sig → Stmt → SRes
  | 0, _, _, _ => none
  | n + 1, ρ, σ, s => stepS (evAll G n) mt sc (evS G mt sc n) ρ σ s
/-- a def of the text -/
structure Fn where
  params : List Str
  body : List Stmt
  scope : Scope
  mt : List Str
noncomputable def bindR : List Str → List LV → Option Rho
  | [], [] => some []
  | x :: xs, v :: vs => (bindR xs vs).map fun r => (x, v) :: r
  | _, _ => none
noncomputable def runFn (G : Ctr) (f : Fn) (n : Nat) (args : List LV) (σ : Sig) : Option (Dat × Sig) :=
  (bindR f.params args).bind fun ρ => (evSs (evS G f.mt.contains f.scope n) f.body ρ σ).bind fun p => match p.1 with
    | .ret x => some (x, p.2.2.take σ.length)
    | .next => none
abbrev NoE : Value → Shared → Prop := fun _ _ => False
abbrev News' := List (Addr × Obj)
inductive LVR (fro : List (Addr × Obj)) (ca : List Addr) : Value → LV → Prop
  | d {v : Value} {x : Dat} : DatIn fro v x → LVR fro ca v (.d x)
  | c {a : Addr} {k : Nat} : ca[k]? = some a → LVR fro ca (.ref a) (.c k)
theorem LVR.mono {fro fro' : List (Addr × Obj)} {ca : List Addr} {v : Value} {x : LV} (h : LVR fro ca v x) (hs : ∀ p ∈ fro, p ∈ fro') : LVR fro' ca v x := by
  cases h with
  | d h => exact .d (h.mono hs)
  | c h => exact .c h
theorem LVR.grow {fro : List (Addr × Obj)} {ca more : List Addr} {v : Value} {x : LV} (h : LVR fro ca v x) : LVR fro (ca ++ more) v x := by
  cases h with
  | d h => exact .d h
  | c h => exact .c (by rw [List.getElem?_append_left (List.getElem?_eq_some_iff.mp h).1]; exact h)
inductive LedR (fro : List (Addr × Obj)) : List Addr → Sig → List (Addr × Obj) → Prop
  | nil : LedR fro [] [] []
  | lst {a : Addr} {ca : List Addr} {σ : Sig} {led : List (Addr × Obj)} {vs : List Value} {ds : List Dat} {n : Nat} : DatAll fro vs ds → LedR fro ca σ led → LedR fro (a :: ca) (.lst ds :: σ) ((a, W.listOf vs.toArray n) :: led)
  | dead {a : Addr} {ca : List Addr} {σ : Sig} {led : List (Addr × Obj)} : LedR fro ca σ led → LedR fro (a :: ca) (.dead :: σ) led
  | mem {a : Addr} {ca : List Addr} {σ : Sig} {led : List (Addr × Obj)} {M : Mem} : DatIn fro (.ref a) (.list M.ds) → LedR fro ca σ led → LedR fro (a :: ca) (.mem M :: σ) led
theorem LedR.mono {fro fro' : List (Addr × Obj)} {ca : List Addr} {σ : Sig} {led : List (Addr × Obj)} (h : LedR fro ca σ led) (hs : ∀ p ∈ fro, p ∈ fro') : LedR fro' ca σ led := by
  induction h with
  | nil => exact .nil
  | lst h _ ih => exact .lst (h.mono hs) ih
  | dead _ ih => exact .dead ih
  | mem hd _ ih => exact .mem (hd.mono hs) ih
theorem LedR.length {fro : List (Addr × Obj)} {ca : List Addr} {σ : Sig} {led : List (Addr × Obj)} (h : LedR fro ca σ led) : ca.length = σ.length := by
  induction h with
  | nil => rfl
  | lst _ _ ih => simp [ih]
  | dead _ ih => simp [ih]
  | mem _ _ ih => simp [ih]
/-- one list of the call's own -/
theorem LedR.get {fro : List (Addr × Obj)} {ca : List Addr} {σ : Sig} {led : List (Addr × Obj)} (h : LedR fro ca σ led) {k : Nat} {a : Addr} {ds : List Dat} (ha : ca[k]? = some a) (hd : σ[k]? = some (.lst ds)) :
    ∃ vs n, (a, W.listOf vs.toArray n) ∈ led ∧ DatAll fro vs ds := by
  induction h generalizing k with
  | nil => simp at ha
  | lst hv _ ih =>
    cases k with
    | zero => simp at ha hd; subst ha; subst hd; exact ⟨_, _, .head _, hv⟩
    | succ k => obtain ⟨vs, n, hm, hx⟩ := ih (by simpa using ha) (by simpa using hd); exact ⟨vs, n, .tail _ hm, hx⟩
  | dead _ ih =>
    cases k with
    | zero => simp at hd
    | succ k => exact ih (by simpa using ha) (by simpa using hd)
  | mem _ _ ih =>
    cases k with
    | zero => simp at hd
    | succ k => exact ih (by simpa using ha) (by simpa using hd)
theorem Upd.addr {d : Addr} {o o' : Obj} {r r' : List (Addr × Obj)} (u : Upd d o o' r r') : r'.map (·.1) = r.map (·.1) := by
  induction u with
  | head _ => rfl
  | tail _ _ ih => simp [ih]
theorem Upd.app {d : Addr} {o o' : Obj} {r r' : List (Addr × Obj)} (u : Upd d o o' r r') (t : List (Addr × Obj)) (h : ∀ p ∈ t, p.1 ≠ d) : Upd d o o' (r ++ t) (r' ++ t) := by
  induction u with
  | head q => exact .head fun p hp => (List.mem_append.mp hp).elim (q p) (h p)
  | tail q _ ih => exact .tail q ih
/-- a list of the call's own is turned -/
theorem LedR.upd {fro : List (Addr × Obj)} {ca : List Addr} {σ : Sig} {led : List (Addr × Obj)} (h : LedR fro ca σ led) (nd : (led.map (·.1)).Nodup) {k : Nat} {a : Addr} {ds : List Dat} (ha : ca[k]? = some a) (hd : σ[k]? = some (.lst ds)) :
    ∃ vs n, (a, W.listOf vs.toArray n) ∈ led ∧ DatAll fro vs ds ∧ ∀ vs' n' ds', DatAll fro vs' ds' → ∃ led', Upd a (W.listOf vs.toArray n) (W.listOf vs'.toArray n') led led' ∧ LedR fro ca (σ.set k (.lst ds')) led' := by
  induction h generalizing k with
  | nil => simp at ha
  | @lst b ca σ led vs es n hv hr ih =>
    simp only [List.map_cons, List.nodup_cons] at nd
    cases k with
    | zero =>
      simp at ha hd; subst ha; subst hd
      refine ⟨vs, n, .head _, hv, fun vs' n' ds' hx => ⟨_, .head fun p hp e => nd.1 (List.mem_map.mpr ⟨p, hp, e⟩), ?_⟩⟩
      exact .lst hx hr
    | succ k =>
      obtain ⟨vs₁, n₁, hm, hx, up⟩ := ih nd.2 (by simpa using ha) (by simpa using hd)
      refine ⟨vs₁, n₁, .tail _ hm, hx, fun vs' n' ds' hy => ?_⟩
      obtain ⟨led', u, r⟩ := up vs' n' ds' hy
      refine ⟨_, .tail (fun e => nd.1 (List.mem_map.mpr ⟨_, hm, e.symm⟩)) u, ?_⟩
      exact .lst hv r
  | dead _ ih =>
    cases k with
    | zero => simp at hd
    | succ k =>
      obtain ⟨vs₁, n₁, hm, hx, up⟩ := ih nd (by simpa using ha) (by simpa using hd)
      refine ⟨vs₁, n₁, hm, hx, fun vs' n' ds' hy => ?_⟩
      obtain ⟨led', u, r⟩ := up vs' n' ds' hy
      exact ⟨led', u, .dead r⟩
  | mem hmm _ ih =>
    cases k with
    | zero => simp at hd
    | succ k =>
      obtain ⟨vs₁, n₁, hm, hx, up⟩ := ih nd (by simpa using ha) (by simpa using hd)
      refine ⟨vs₁, n₁, hm, hx, fun vs' n' ds' hy => ?_⟩
      obtain ⟨led', u, r⟩ := up vs' n' ds' hy
      exact ⟨led', u, .mem hmm r⟩
/-- a list of the call's own stands still from here on -/
theorem LedR.freeze {fro : List (Addr × Obj)} {ca : List Addr} {σ : Sig} {led : List (Addr × Obj)} (h : LedR fro ca σ led) (nd : (led.map (·.1)).Nodup) {k : Nat} {a : Addr} {ds : List Dat} (ha : ca[k]? = some a) (hd : σ[k]? = some (.lst ds)) :
    ∃ vs n led', (a, W.listOf vs.toArray n) ∈ led ∧ DatAll fro vs ds ∧ (∀ p ∈ led', p ∈ led ∧ p.1 ≠ a) ∧ (led'.map (·.1)).Nodup ∧ LedR fro ca (σ.set k .dead) led' := by
  induction h generalizing k with
  | nil => simp at ha
  | @lst b ca σ led vs es n hv hr ih =>
    simp only [List.map_cons, List.nodup_cons] at nd
    cases k with
    | zero =>
      simp at ha hd; subst ha; subst hd
      refine ⟨vs, n, led, .head _, hv, fun p hp => ⟨.tail _ hp, fun e => nd.1 (List.mem_map.mpr ⟨p, hp, e⟩)⟩, nd.2, .dead hr⟩
    | succ k =>
      obtain ⟨vs₁, n₁, led', hm, hx, hs, nd', r⟩ := ih nd.2 (by simpa using ha) (by simpa using hd)
      refine ⟨vs₁, n₁, (b, W.listOf vs.toArray n) :: led', .tail _ hm, hx, fun p hp => ?_, ?_, .lst hv r⟩
      · rcases List.mem_cons.mp hp with rfl | hp
        · exact ⟨.head _, fun e => nd.1 (List.mem_map.mpr ⟨_, hm, e.symm⟩)⟩
        · exact ⟨.tail _ (hs p hp).1, (hs p hp).2⟩
      · simp only [List.map_cons, List.nodup_cons]
        refine ⟨fun hm' => ?_, nd'⟩
        obtain ⟨q, hq, e⟩ := List.mem_map.mp hm'
        exact nd.1 (List.mem_map.mpr ⟨q, (hs q hq).1, e⟩)
  | dead _ ih =>
    cases k with
    | zero => simp at hd
    | succ k =>
      obtain ⟨vs₁, n₁, led', hm, hx, hs, nd', r⟩ := ih nd (by simpa using ha) (by simpa using hd)
      exact ⟨vs₁, n₁, led', hm, hx, hs, nd', .dead r⟩
  | mem hmm _ ih =>
    cases k with
    | zero => simp at hd
    | succ k =>
      obtain ⟨vs₁, n₁, led', hm, hx, hs, nd', r⟩ := ih nd (by simpa using ha) (by simpa using hd)
      exact ⟨vs₁, n₁, led', hm, hx, hs, nd', .mem hmm r⟩
theorem LedR.snoc {fro : List (Addr × Obj)} {ca : List Addr} {σ : Sig} {led : List (Addr × Obj)} (h : LedR fro ca σ led) {a : Addr} {vs : List Value} {n : Nat} {ds : List Dat} (hd : DatAll fro vs ds) :
    LedR fro (ca ++ [a]) (σ ++ [.lst ds]) (led ++ [(a, W.listOf vs.toArray n)]) := by
  induction h with
  | nil => exact .lst hd .nil
  | lst h _ ih => exact .lst h ih
  | dead _ ih => exact .dead ih
  | mem hd _ ih => exact .mem hd ih
theorem LedR.take {fro : List (Addr × Obj)} {ca : List Addr} {σ : Sig} {led : List (Addr × Obj)} (h : LedR fro ca σ led) (k : Nat) : ∃ led', LedR fro (ca.take k) (σ.take k) led' ∧ led'.Sublist led := by
  induction h generalizing k with
  | nil => exact ⟨[], by simpa using LedR.nil, .slnil⟩
  | lst h _ ih =>
    cases k with
    | zero => exact ⟨[], .nil, List.nil_sublist _⟩
    | succ k => obtain ⟨l, r, s⟩ := ih k; exact ⟨_, .lst h r, s.cons_cons _⟩
  | dead _ ih =>
    cases k with
    | zero => exact ⟨[], .nil, List.nil_sublist _⟩
    | succ k => obtain ⟨l, r, s⟩ := ih k; exact ⟨_, .dead r, s⟩
  | mem hmm _ ih =>
    cases k with
    | zero => exact ⟨[], .nil, List.nil_sublist _⟩
    | succ k => obtain ⟨l, r, s⟩ := ih k; exact ⟨_, .mem hmm r, s⟩
/-- a list that stands still -/
theorem LedR.getMem {fro : List (Addr × Obj)} {ca : List Addr} {σ : Sig} {led : List (Addr × Obj)} (h : LedR fro ca σ led) {k : Nat} {a : Addr} {M : Mem} (ha : ca[k]? = some a) (hd : σ[k]? = some (.mem M)) : DatIn fro (.ref a) (.list M.ds) := by
  induction h generalizing k with
  | nil => simp at ha
  | lst _ _ ih =>
    cases k with
    | zero => simp at hd
    | succ k => exact ih (by simpa using ha) (by simpa using hd)
  | dead _ ih =>
    cases k with
    | zero => simp at hd
    | succ k => exact ih (by simpa using ha) (by simpa using hd)
  | mem hm _ ih =>
    cases k with
    | zero => simp at ha hd; subst ha; subst hd; exact hm
    | succ k => exact ih (by simpa using ha) (by simpa using hd)
theorem LedR.revive {fro : List (Addr × Obj)} {ca : List Addr} {σ : Sig} {led : List (Addr × Obj)} (h : LedR fro ca σ led) {k : Nat} {a : Addr} {M : Mem} (ha : ca[k]? = some a) (hd : σ[k]? = some .dead) (hm : DatIn fro (.ref a) (.list M.ds)) : LedR fro ca (σ.set k (.mem M)) led := by
  induction h generalizing k with
  | nil => simp at ha
  | lst hv _ ih =>
    cases k with
    | zero => simp at hd
    | succ k => exact .lst hv (ih (by simpa using ha) (by simpa using hd))
  | dead hr ih =>
    cases k with
    | zero => simp at ha; subst ha; exact .mem hm hr
    | succ k => exact .dead (ih (by simpa using ha) (by simpa using hd))
  | mem hv _ ih =>
    cases k with
    | zero => simp at hd
    | succ k => exact .mem hv (ih (by simpa using ha) (by simpa using hd))
structure SI (h₀ : Heap) (L : Addr) (m : Str → Option Value) (ext fro : List (Addr × Obj)) (ca : List Addr) (σ : Sig) (led : List (Addr × Obj)) (h : Heap) : Prop where
  F : Fr h₀ L h m
  N : News h₀ L h (led ++ (ext ++ fro))
  R : LedR fro ca σ led
  nd : (led.map (·.1)).Nodup
  ap : ∀ p ∈ led, ∀ q ∈ ext ++ fro, p.1 ≠ q.1
  ap2 : ∀ p ∈ ext, ∀ q ∈ fro, p.1 ≠ q.1
section
variable {h₀ h h' : Heap} {L : Addr} {m m' : Str → Option Value} {ext fro : List (Addr × Obj)} {ca : List Addr} {σ : Sig} {led : List (Addr × Obj)}
theorem SI.lt (S : SI h₀ L m ext fro ca σ led h) : ∀ p ∈ led ++ (ext ++ fro), p.1 < h.objs.size := fun p hp => Heap.lt_size (S.N p hp).1
theorem SI.all (S : SI h₀ L m ext fro ca σ led h) : ∀ p ∈ fro, p ∈ led ++ (ext ++ fro) := fun _ hp => List.mem_append.mpr (.inr (List.mem_append.mpr (.inr hp)))
theorem SI.inled (S : SI h₀ L m ext fro ca σ led h) : ∀ p ∈ led, p ∈ led ++ (ext ++ fro) := fun _ hp => List.mem_append.mpr (.inl hp)
theorem SI.inext (S : SI h₀ L m ext fro ca σ led h) : ∀ p ∈ ext ++ fro, p ∈ led ++ (ext ++ fro) := fun _ hp => List.mem_append.mpr (.inr hp)
theorem SI.at (S : SI h₀ L m ext fro ca σ led h) (F : Fr h₀ L h' m') (N : News h₀ L h' (led ++ (ext ++ fro))) : SI h₀ L m' ext fro ca σ led h' := ⟨F, N, S.R, S.nd, S.ap, S.ap2⟩
theorem SI.alloc {a : Addr} {o : Obj} (S : SI h₀ L m ext fro ca σ led h) (F : Fr h₀ L h' m) (N : News h₀ L h' ((a, o) :: (led ++ (ext ++ fro)))) (ha : ∀ p ∈ led ++ (ext ++ fro), p.1 < a) : SI h₀ L m ext ((a, o) :: fro) ca σ led h' := by
  refine ⟨F, fun p hp => N p ?_, S.R.mono fun p hp => .tail _ hp, S.nd, fun p hp q hq => ?_, fun p hp q hq => ?_⟩
  · simp only [List.mem_append, List.mem_cons] at hp ⊢
    rcases hp with h | h | h | h
    · exact .inr (.inl h)
    · exact .inr (.inr (.inl h))
    · exact .inl h
    · exact .inr (.inr (.inr h))
  · simp only [List.mem_append, List.mem_cons] at hq
    rcases hq with h | h | h
    · exact S.ap p hp q (List.mem_append.mpr (.inl h))
    · subst h; exact Nat.ne_of_lt (ha p (S.inled p hp))
    · exact S.ap p hp q (List.mem_append.mpr (.inr h))
  · rcases List.mem_cons.mp hq with h | h
    · subst h; exact Nat.ne_of_lt (ha p (S.inext p (List.mem_append.mpr (.inl hp))))
    · exact S.ap2 p hp q h
/-- an object just made, not yet told what it is to be -/
theorem SI.fresh {a : Addr} {o : Obj} (S : SI h₀ L m ext fro ca σ led h) (F : Fr h₀ L h' m) (N : News h₀ L h' ((a, o) :: (led ++ (ext ++ fro)))) (ha : ∀ p ∈ led ++ (ext ++ fro), p.1 < a) : SI h₀ L m ((a, o) :: ext) fro ca σ led h' := by
  refine ⟨F, fun p hp => N p ?_, S.R, S.nd, fun p hp q hq => ?_, fun p hp q hq => ?_⟩
  · simp only [List.mem_append, List.mem_cons] at hp ⊢
    rcases hp with h | (h | h) | h
    · exact .inr (.inl h)
    · exact .inl h
    · exact .inr (.inr (.inl h))
    · exact .inr (.inr (.inr h))
  · simp only [List.mem_append, List.mem_cons] at hq
    rcases hq with (h | h) | h
    · subst h; exact Nat.ne_of_lt (ha p (S.inled p hp))
    · exact S.ap p hp q (List.mem_append.mpr (.inl h))
    · exact S.ap p hp q (List.mem_append.mpr (.inr h))
  · rcases List.mem_cons.mp hp with h | h
    · subst h; exact (Nat.ne_of_lt (ha q (S.all q hq))).symm
    · exact S.ap2 p h q hq
theorem SI.toFro {a : Addr} {o : Obj} (S : SI h₀ L m ((a, o) :: ext) fro ca σ led h) (hx : ∀ p ∈ ext, p.1 ≠ a) : SI h₀ L m ext ((a, o) :: fro) ca σ led h := by
  refine ⟨S.F, fun p hp => S.N p ?_, S.R.mono fun p hp => .tail _ hp, S.nd, fun p hp q hq => S.ap p hp q ?_, fun p hp q hq => ?_⟩
  · simp only [List.mem_append, List.mem_cons] at hp ⊢
    rcases hp with h | h | h | h
    · exact .inl h
    · exact .inr (.inl (.inr h))
    · exact .inr (.inl (.inl h))
    · exact .inr (.inr h)
  · simp only [List.mem_append, List.mem_cons] at hq ⊢
    rcases hq with h | h | h
    · exact .inl (.inr h)
    · exact .inl (.inl h)
    · exact .inr h
  · rcases List.mem_cons.mp hq with h | h
    · subst h; exact hx p hp
    · exact S.ap2 p (.tail _ hp) q h
theorem SI.toCell {a : Addr} {vs : List Value} {n : Nat} {ds : List Dat} (S : SI h₀ L m ((a, W.listOf vs.toArray n) :: ext) fro ca σ led h) (hd : DatAll fro vs ds) (hx : ∀ p ∈ ext, p.1 ≠ a) :
    SI h₀ L m ext fro (ca ++ [a]) (σ ++ [.lst ds]) (led ++ [(a, W.listOf vs.toArray n)]) h := by
  refine ⟨S.F, fun p hp => S.N p ?_, S.R.snoc hd, ?_, fun p hp q hq => ?_, fun p hp q hq => S.ap2 p (.tail _ hp) q hq⟩
  · simp only [List.mem_append, List.mem_cons, List.not_mem_nil, or_false] at hp ⊢
    rcases hp with (h | h) | h | h
    · exact .inl h
    · exact .inr (.inl (.inl h))
    · exact .inr (.inl (.inr h))
    · exact .inr (.inr h)
  · rw [List.map_append, List.nodup_append]
    refine ⟨S.nd, by simp, fun x hx' y hy e => ?_⟩
    obtain ⟨p, hp, rfl⟩ := List.mem_map.mp hx'
    simp at hy
    exact S.ap p hp _ (List.mem_append.mpr (.inl (.head _))) (e.trans hy)
  · rcases List.mem_append.mp hp with hp | hp
    · exact S.ap p hp q (by simp only [List.mem_append, List.mem_cons] at hq ⊢; rcases hq with h | h <;> first | exact .inl (.inr h) | exact .inr h)
    · simp at hp; subst hp
      rcases List.mem_append.mp hq with hq | hq
      · exact fun e => hx q hq e.symm
      · exact S.ap2 _ (.head _) q hq
theorem SI.freeze {k : Nat} {a : Addr} {ds : List Dat} (S : SI h₀ L m ext fro ca σ led h) (ha : ca[k]? = some a) (hd : σ[k]? = some (.lst ds)) :
    ∃ o led', SI h₀ L m ext ((a, o) :: fro) ca (σ.set k .dead) led' h ∧ DatIn ((a, o) :: fro) (.ref a) (.list ds) := by
  obtain ⟨vs, n, led', hm, hx, hs, nd', r⟩ := S.R.freeze S.nd ha hd
  have st : ∀ p ∈ fro, p ∈ (a, W.listOf vs.toArray n) :: fro := fun p hp => .tail _ hp
  refine ⟨W.listOf vs.toArray n, led', ⟨S.F, fun p hp => S.N p ?_, r.mono st, nd', fun p hp q hq => ?_, fun p hp q hq => ?_⟩, .list (.head _) (hx.mono st)⟩
  · simp only [List.mem_append, List.mem_cons] at hp ⊢
    rcases hp with h | h | h | h
    · exact .inl (hs p h).1
    · exact .inr (.inl h)
    · exact .inl (h ▸ hm)
    · exact .inr (.inr h)
  · simp only [List.mem_append, List.mem_cons] at hq
    rcases hq with h | h | h
    · exact S.ap p (hs p hp).1 q (List.mem_append.mpr (.inl h))
    · subst h; exact (hs p hp).2
    · exact S.ap p (hs p hp).1 q (List.mem_append.mpr (.inr h))
  · rcases List.mem_cons.mp hq with h | h
    · subst h; exact fun e => S.ap _ hm p (List.mem_append.mpr (.inl hp)) e.symm
    · exact S.ap2 p hp q h
/-- a list of the call's own is turned: what the heap's rule wants, and what stands behind it -/
theorem SI.upd {k : Nat} {a : Addr} {ds : List Dat} (S : SI h₀ L m ext fro ca σ led h) (ha : ca[k]? = some a) (hd : σ[k]? = some (.lst ds)) :
    ∃ vs n, (a, W.listOf vs.toArray n) ∈ led ++ (ext ++ fro) ∧ DatAll fro vs ds ∧ ∀ vs' n' ds', DatAll fro vs' ds' → ∃ led', Upd a (W.listOf vs.toArray n) (W.listOf vs'.toArray n') (led ++ (ext ++ fro)) (led' ++ (ext ++ fro)) ∧
      ∀ h', Fr h₀ L h' m → News h₀ L h' (led' ++ (ext ++ fro)) → SI h₀ L m ext fro ca (σ.set k (.lst ds')) led' h' := by
  obtain ⟨vs, n, hm, hx, up⟩ := S.R.upd S.nd ha hd
  refine ⟨vs, n, S.inled _ hm, hx, fun vs' n' ds' hy => ?_⟩
  obtain ⟨led', u, r⟩ := up vs' n' ds' hy
  have ea := Upd.addr u
  refine ⟨led', Upd.app u _ fun q hq e => S.ap _ hm q hq e.symm, fun h' F N => ⟨F, N, r, ea ▸ S.nd, fun p hp q hq => ?_, S.ap2⟩⟩
  have : p.1 ∈ led.map (·.1) := by rw [← ea]; exact List.mem_map.mpr ⟨p, hp, rfl⟩
  obtain ⟨p', hp', e⟩ := List.mem_map.mp this
  rw [← e]; exact S.ap p' hp' q hq
inductive VR (all fro : List (Addr × Obj)) : Value → Dat → Prop
  | d {v : Value} {x : Dat} : DatIn fro v x → VR all fro v x
  | l {a : Addr} {vs : List Value} {n : Nat} {ds : List Dat} : (a, W.listOf vs.toArray n) ∈ all → DatAll fro vs ds → VR all fro (.ref a) (.list ds)
theorem SI.val {v : Value} {x : LV} {d : Dat} (S : SI h₀ L m ext fro ca σ led h) (hv : LVR fro ca v x) (e : valL σ x = some d) : VR (led ++ (ext ++ fro)) fro v d := by
  cases hv with
  | d hd => simp only [valL, Option.some.injEq] at e; subst e; exact .d hd
  | @c a k hc =>
    simp only [valL] at e
    split at e
    · rename_i ds q
      cases e
      obtain ⟨vs, n, hm, hx⟩ := S.R.get hc q
      exact .l (S.inled _ hm) hx
    · rename_i M q
      cases e
      exact .d (S.R.getMem hc q)
    · cases e
theorem VR.list {all fro : List (Addr × Obj)} {v : Value} {ds : List Dat} (h : VR all fro v (.list ds)) (hs : ∀ p ∈ fro, p ∈ all) : ∃ a vs n, v = .ref a ∧ (a, W.listOf vs.toArray n) ∈ all ∧ DatAll fro vs ds := by
  cases h with
  | d h => cases h with | list hm hx => exact ⟨_, _, _, rfl, hs _ hm, hx⟩
  | l hm hx => exact ⟨_, _, _, rfl, hm, hx⟩
theorem VR.tuple {all fro : List (Addr × Obj)} {v : Value} {ds : List Dat} (h : VR all fro v (.tuple ds)) (hs : ∀ p ∈ fro, p ∈ all) : ∃ a vs n, v = .ref a ∧ (a, ({ cls := .type "tuple", data := .seq vs.toArray n } : Obj)) ∈ all ∧ DatAll fro vs ds := by
  cases h with
  | d h => cases h with | tuple hm hx => exact ⟨_, _, _, rfl, hs _ hm, hx⟩
theorem VR.int {all fro : List (Addr × Obj)} {v : Value} {i : Int} (h : VR all fro v (.int i)) : ∃ t, v = .int i t := by
  cases h with
  | d h => cases h; exact ⟨_, rfl⟩
theorem VR.str {all fro : List (Addr × Obj)} {v : Value} {i : Str} (h : VR all fro v (.str i)) : ∃ t, v = .str i t := by
  cases h with
  | d h => cases h; exact ⟨_, rfl⟩
theorem VR.none {all fro : List (Addr × Obj)} {v : Value} (h : VR all fro v .none) : v = .none := by
  cases h with
  | d h => cases h; rfl
theorem VR.mem {all fro : List (Addr × Obj)} {v : Value} {d : Dat} (h : VR all fro v d) (hs : ∀ p ∈ fro, p ∈ all) : DatIn all v d := by
  cases h with
  | d h => exact h.mono hs
  | l hm hx => exact .list hm (hx.mono hs)
end
noncomputable def NameVal (env : Env) (L : Addr) (m : Str → Option Value) (kn fro : List (Addr × Obj)) (x : Str) (v : Value) : Prop :=
  (x == ("__debug__" : Str)) = false ∧
  ((env.kindOf x = some .local ∧ env.locals = L ∧ m x = some v) ∨
   (env.kindOf x = some .local ∧ ∃ o m₂, (env.locals, o) ∈ kn ∧ LCg.NsObj o m₂ ∧ m₂ x = some v) ∨
   (env.kindOf x = some .cell ∧ ∃ c o, env.cells.lookup x = some c ∧ (c, o) ∈ fro ∧ o.data = .cell (some v)))
theorem NameVal.mono {env : Env} {L : Addr} {m : Str → Option Value} {kn kn' fro fro' : List (Addr × Obj)} {x : Str} {v : Value} (h : NameVal env L m kn fro x v) (hs : ∀ p ∈ kn, p ∈ kn') (hf : ∀ p ∈ fro, p ∈ fro') : NameVal env L m kn' fro' x v := by
  obtain ⟨h0, h | ⟨h1, o, m₂, h2, h3⟩ | ⟨h1, c, o, h2, h3, h4⟩⟩ := h
  · exact ⟨h0, .inl h⟩
  · exact ⟨h0, .inr (.inl ⟨h1, o, m₂, hs _ h2, h3⟩)⟩
  · exact ⟨h0, .inr (.inr ⟨h1, c, o, h2, hf _ h3, h4⟩)⟩
structure EnvR (env : Env) (sc : Scope) (L : Addr) (m : Str → Option Value) (kn fro : List (Addr × Obj)) (ca : List Addr) (ρ : Rho) : Prop where
  look : ∀ x lv, ρ.lookup x = some lv → ∃ v, NameVal env L m kn fro x v ∧ LVR fro ca v lv
  kind : env.scope.kind = .function
  gl : env.globals = mainGlobals
  bl : env.builtins = builtinsNs
  glob : ∀ x, sc.names.lookup x = some .globalImplicit → env.kindOf x = some .globalImplicit
  cell : ∀ x, sc.names.lookup x = some .cell → env.kindOf x = some .cell
theorem EnvR.mono {env : Env} {sc : Scope} {L : Addr} {m : Str → Option Value} {ext fro fro' : List (Addr × Obj)} {ca : List Addr} {ρ : Rho} (h : EnvR env sc L m (ext ++ fro) fro ca ρ) (hs : ∀ p ∈ fro, p ∈ fro') :
    EnvR env sc L m (ext ++ fro') fro' ca ρ :=
  ⟨fun x lv e => let ⟨v, a, b⟩ := h.look x lv e; ⟨v, a.mono (fun p hp => (List.mem_append.mp hp).elim (fun q => List.mem_append.mpr (.inl q)) fun q => List.mem_append.mpr (.inr (hs p q))) hs, b.mono hs⟩, h.kind, h.gl, h.bl, h.glob, h.cell⟩
section
variable (prog : Program) (w : World) (K : Frag) (p : Program) (loose : List Str) (mean : ExcName → Option Value) (mg mb : Str → Option Value)
structure Act (A : Around) (h₀ : Heap) (L : Addr) (r : Nat) : Prop where
  ex : ∃ A₀ base outer fenv, Below A₀ base outer h₀ ∧ A.frames = some (fenv :: outer) ∧ fenv.frame = some L ∧ fenv.scope.kind = .function
  X : K.In h₀
  T : TopRead p loose mg mb h₀
  hh : A.handled = none
  dp : A.depth + (r + 2) ≤ 900
  un : A.units + (5 * r + 200) ≤ 9000
  gd : A.guards = some []
abbrev PostV (h₀ : Heap) (L : Addr) (m : Str → Option Value) (ext fro : List (Addr × Obj)) (ca : List Addr) (s : Shared) (Q : Value → Shared → Prop) (r : LV) (σ' : Sig) : Prop :=
  ∀ v h' tk fro' led', (∀ q ∈ fro, q ∈ fro') → SI h₀ L m ext fro' ca σ' led' h' → LVR fro' ca v r → Q v { s with heap := h', toks := tk }
abbrev PostB (h₀ : Heap) (L : Addr) (m : Str → Option Value) (ext fro : List (Addr × Obj)) (ca : List Addr) (s : Shared) (Q : Bool → Shared → Prop) (b : Bool) (σ' : Sig) : Prop :=
  ∀ h' tk fro' led', (∀ q ∈ fro, q ∈ fro') → SI h₀ L m ext fro' ca σ' led' h' → Q b { s with heap := h', toks := tk }
noncomputable def EOK (rk : Nat) (sc : Scope) (ρ : Rho) (e : Expr) (σ : Sig) (r : LV × Sig) : Prop :=
  ∀ {A : Around} {env : Env} {h₀ : Heap} {L : Addr} {m : Str → Option Value} {ext fro : List (Addr × Obj)} {ca : List Addr} {led : List (Addr × Obj)} {s : Shared} {Q : Value → Shared → Prop},
    Act K p loose mg mb A h₀ L rk → SI h₀ L m ext fro ca σ led s.heap → EnvR env sc L m (ext ++ fro) fro ca ρ → PostV h₀ L m ext fro ca s Q r.1 r.2 → wpAny (model prog w) A (eval e env) Q NoE s
noncomputable def TOK (rk : Nat) (sc : Scope) (ρ : Rho) (e : Expr) (σ : Sig) (r : Bool × Sig) : Prop :=
  ∀ {A : Around} {env : Env} {h₀ : Heap} {L : Addr} {m : Str → Option Value} {ext fro : List (Addr × Obj)} {ca : List Addr} {led : List (Addr × Obj)} {s : Shared} {Q : Bool → Shared → Prop},
    Act K p loose mg mb A h₀ L rk → SI h₀ L m ext fro ca σ led s.heap → EnvR env sc L m (ext ++ fro) fro ca ρ → PostB h₀ L m ext fro ca s Q r.1 r.2 → wpAny (model prog w) A (isTrue e env (eval e env)) Q NoE s
inductive LVRs (fro : List (Addr × Obj)) (ca : List Addr) : List Value → List LV → Prop
  | nil : LVRs fro ca [] []
  | cons {v : Value} {vs : List Value} {x : LV} {xs : List LV} : LVR fro ca v x → LVRs fro ca vs xs → LVRs fro ca (v :: vs) (x :: xs)
noncomputable def CallOK (rk : Nat) (f : Str) (args : List LV) (σ : Sig) (r : Dat × Sig) : Prop :=
  ∃ fa o fd, nsIn K mainGlobals f = some (some (.ref fa)) ∧ K.lookup fa = some o ∧ o.data = .func fd ∧
    ∀ {A : Around} {h₀ : Heap} {L : Addr} {m : Str → Option Value} {ext fro : List (Addr × Obj)} {ca : List Addr} {led : List (Addr × Obj)} {s : Shared} {Q : Value → Shared → Prop} {vs : List Value},
      Act K p loose mg mb A h₀ L rk → SI h₀ L m ext fro ca σ led s.heap → LVRs fro ca vs args → PostV h₀ L m ext fro ca s Q (.d r.1) r.2 → wpAny (model prog w) A (call (.ref fa) vs) Q NoE s
structure Sound (rk : Nat) (R : Evs) : Prop where
  e : ∀ sc ρ e σ r, R.e sc ρ e σ = some r → EOK prog w K p loose mg mb rk sc ρ e σ r
  t : ∀ sc ρ e σ r, R.t sc ρ e σ = some r → TOK prog w K p loose mg mb rk sc ρ e σ r
  star : ∀ sc ρ v q σ, R.e sc ρ (.Starred v q) σ = none
noncomputable def GOK (rk : Nat) (G : Ctr) : Prop := ∀ f args σ r, G f args σ = some r → CallOK prog w K p loose mg mb rk f args σ r
end
theorem LVRs.mono {fro fro' : List (Addr × Obj)} {ca : List Addr} {vs : List Value} {xs : List LV} (h : LVRs fro ca vs xs) (hs : ∀ p ∈ fro, p ∈ fro') : LVRs fro' ca vs xs := by
  induction h with
  | nil => exact .nil
  | cons h _ ih => exact .cons (h.mono hs) ih
theorem LVRs.length {fro : List (Addr × Obj)} {ca : List Addr} {vs : List Value} {xs : List LV} (h : LVRs fro ca vs xs) : vs.length = xs.length := by
  induction h with
  | nil => rfl
  | cons _ _ ih => simp [ih]
section
variable {prog : Program} {w : World} {K : Frag} {p : Program} {loose : List Str} {mg mb : Str → Option Value} {rk : Nat}
  {A : Around} {env : Env} {h₀ : Heap} {L : Addr} {m : Str → Option Value} {ext fro : List (Addr × Obj)} {ca : List Addr} {led : List (Addr × Obj)} {s : Shared} {sc : Scope} {ρ : Rho} {σ : Sig}
theorem sub_refl {α : Type} {l : List α} : ∀ q ∈ l, q ∈ l := fun _ h => h
theorem PostV.stay {Q : Value → Shared → Prop} {r : LV} {v : Value} {tk : Nat} (S : SI h₀ L m ext fro ca σ led s.heap) (P : PostV h₀ L m ext fro ca s Q r σ) (hv : LVR fro ca v r) : Q v { s with toks := tk } :=
  P v s.heap tk fro led sub_refl S hv
theorem eok_name {x : Str} {pos : Pos} {lv : LV} (e : ρ.lookup x = some lv) : EOK prog w K p loose mg mb rk sc ρ (.Name x pos) σ (lv, σ) := by
  intro A env h₀ L m ext fro ca led s Q act S R P
  obtain ⟨v, ⟨hb, hn⟩, hl⟩ := R.look x lv e
  refine wpAny_Name ?_ hb
  have q : Q v s := P v s.heap s.toks fro led sub_refl S hl
  rcases hn with ⟨h1, h2, h3⟩ | ⟨h1, o, m₂, h2, h3, h4⟩ | ⟨h1, c, o, h2, h3, h4⟩
  · subst h2; exact wpAny_loadName_local R.kind h1 S.F.ns h3 q
  · exact wpAny_loadName_local R.kind h1 (h3.ns (S.N _ (S.inext _ h2)).1) h4 q
  · exact wpAny_loadName_cell R.kind h1 h2 ⟨o, S.N.get (S.all _ h3), h4⟩ q
theorem eok_int {i : Int} {k : Nat} {pos : Pos} : EOK prog w K p loose mg mb rk sc ρ (.Constant (.int i) k pos) σ (.d (.int i), σ) := by
  intro A env h₀ L m ext fro ca led s Q act S R P
  exact wpAny_Constant_int (PostV.stay S P (.d (.int _ _)))
theorem eok_str {i : Str} {k : Nat} {pos : Pos} : EOK prog w K p loose mg mb rk sc ρ (.Constant (.str i) k pos) σ (.d (.str i), σ) := by
  intro A env h₀ L m ext fro ca led s Q act S R P
  exact wpAny_Constant_str (PostV.stay S P (.d (.str _ _)))
theorem eok_none {k : Nat} {pos : Pos} : EOK prog w K p loose mg mb rk sc ρ (.Constant .none k pos) σ (.d .none, σ) := by
  intro A env h₀ L m ext fro ca led s Q act S R P
  exact wpAny_Constant_none (PostV.stay (tk := s.toks) S P (.d .none))
theorem eok_bool {b : Bool} {k : Nat} {pos : Pos} : EOK prog w K p loose mg mb rk sc ρ (.Constant (.bool b) k pos) σ (.d (.bool b), σ) := by
  intro A env h₀ L m ext fro ca led s Q act S R P
  exact wpAny_Constant_bool (PostV.stay (tk := s.toks) S P (.d (.bool b)))
/-- two operands, one behind the other -/
theorem two {e₁ e₂ : Expr} {p₁ p₂ : LV × Sig} {Q : Value → Value → Shared → Prop} (H₁ : EOK prog w K p loose mg mb rk sc ρ e₁ σ p₁) (H₂ : EOK prog w K p loose mg mb rk sc ρ e₂ p₁.2 p₂)
    (act : Act K p loose mg mb A h₀ L rk) (S : SI h₀ L m ext fro ca σ led s.heap) (R : EnvR env sc L m (ext ++ fro) fro ca ρ)
    (P : ∀ a b h' tk fro' led', (∀ q ∈ fro, q ∈ fro') → SI h₀ L m ext fro' ca p₂.2 led' h' → LVR fro' ca a p₁.1 → LVR fro' ca b p₂.1 → Q a b { s with heap := h', toks := tk }) :
    wpAny (model prog w) A (eval e₁ env) (fun a s₁ => wpAny (model prog w) A (eval e₂ env) (fun b s₂ => Q a b s₂) NoE s₁) NoE s := by
  refine H₁ act S R fun a h₁ tk₁ fro₁ led₁ sub₁ S₁ l₁ => ?_
  refine H₂ act S₁ (R.mono sub₁) fun b h₂ tk₂ fro₂ led₂ sub₂ S₂ l₂ => ?_
  exact P a b h₂ tk₂ fro₂ led₂ (fun q hq => sub₂ q (sub₁ q hq)) S₂ (l₁.mono sub₂) l₂
theorem small_lt {n : Int} (h : small n = true) : n.natAbs < 2 ^ 62 := of_decide_eq_true h
end
section
variable {prog : Program} {w : World} {K : Frag} {p : Program} {loose : List Str} {mg mb : Str → Option Value} {rk : Nat}
  {A : Around} {env : Env} {h₀ : Heap} {L : Addr} {m : Str → Option Value} {ext fro : List (Addr × Obj)} {ca : List Addr} {led : List (Addr × Obj)} {s : Shared} {sc : Scope} {ρ : Rho} {σ : Sig}
theorem intBits_small {n : Int} (h : small n = true) : Builtin.Int.intBits n ≤ 64 := by
  have h := small_lt h
  unfold Builtin.Int.intBits
  split
  · omega
  · rename_i h0
    have : n.natAbs ≠ 0 := by simpa using h0
    have := (Nat.log2_lt this).mpr h
    omega
theorem binI_ok {op : Operator} {a b z : Int} {t u : Tok} {Q : Value → Shared → Prop} (h : binI op a b = some z) (P : ∀ t' tk, Q (.int z t') { s with toks := tk }) :
    wpAny (model prog w) A (binaryOp op (.int a t) (.int b u)) Q NoE s := by
  cases op <;> simp only [binI, Option.some.injEq, reduceCtorEq] at h
  case Add => subst h; exact PyProof.Rows.add_int (P _ _)
  case Sub => subst h; exact PyProof.Rows.sub_int (P _ _)
  case Mult =>
    split at h
    · rename_i hs
      simp only [Bool.and_eq_true] at hs
      cases h
      exact PyProof.Rows.mul_int (P _ _) (IntMulOk.of_left (intBits_small hs.1))
    · cases h
  case Mod =>
    split at h
    · cases h
    · rename_i hb; cases h; exact PyProof.Rows.mod_int' hb (P _ _)
  case LShift =>
    split at h
    · rename_i hs
      simp only [Bool.and_eq_true, decide_eq_true_eq] at hs
      cases h
      have := small_lt hs.2
      exact PyProof.Rows.lshift_int_small hs.1.1 (by omega) (by omega) (P _ _)
    · cases h
  case RShift =>
    split at h
    · rename_i hs; cases h; exact PyProof.Rows.rshift_int hs (P _ _)
    · cases h
  case BitOr => subst h; exact PyProof.Rows.or_int (P _ _)
  case BitXor => subst h; exact PyProof.Rows.xor_int (P _ _)
  case BitAnd => subst h; exact PyProof.Rows.and_int (P _ _)
  case FloorDiv =>
    split at h
    · cases h
    · rename_i hb
      split at h
      · rename_i hs; cases h; exact PyProof.Rows.floordiv_int hb (P _ _) (.inl (PyProof.noPylong_small (by omega)))
      · cases h
theorem DatAll.ne_nil {news : List (Addr × Obj)} {vs : List Value} {ds : List Dat} (h : DatAll news vs ds) : vs = [] ↔ ds = [] := by
  cases h <;> simp
theorem sizeLine_big : 1000000 ≤ sizeLine := by rw [sizeLine_eq]; omega
theorem bin_ok {op : Operator} {a b : Value} {x y z : Dat} {Q : Value → Shared → Prop} (h : binD op x y = some z) (S : SI h₀ L m ext fro ca σ led s.heap)
    (va : VR (led ++ (ext ++ fro)) fro a x) (vb : VR (led ++ (ext ++ fro)) fro b y) (P : PostV h₀ L m ext fro ca s Q (.d z) σ) : wpAny (model prog w) A (binaryOp op a b) Q NoE s := by
  have stay : ∀ v tk, DatIn fro v z → Q v { s with toks := tk } := fun v tk hv => P v s.heap tk fro led sub_refl S (.d hv)
  have mkt : ∀ vs ds, z = .tuple ds → DatAll fro vs ds → ∀ h', Fr h₀ L h' m → News h₀ L h' ((s.heap.objs.size, { cls := .type "tuple", data := .seq vs.toArray }) :: (led ++ (ext ++ fro))) → Q (.ref s.heap.objs.size) { s with heap := h' } := fun vs ds e hd h' F N => by
    subst e
    exact P _ h' s.toks _ led (fun q hq => .tail _ hq) (S.alloc F N S.lt) (.d (.tuple (.head _) (hd.mono fun q hq => .tail _ hq)))
  have mkl : ∀ vs ds, z = .list ds → DatAll fro vs ds → ∀ h', Fr h₀ L h' m → News h₀ L h' ((s.heap.objs.size, { cls := .type "list", data := .seq vs.toArray }) :: (led ++ (ext ++ fro))) → Q (.ref s.heap.objs.size) { s with heap := h' } := fun vs ds e hd h' F N => by
    subst e
    exact P _ h' s.toks _ led (fun q hq => .tail _ hq) (S.alloc F N S.lt) (.d (.list (n := 0) (.head _) (hd.mono fun q hq => .tail _ hq)))
  cases x with
  | int i =>
    cases y with
    | int j =>
      obtain ⟨t, rfl⟩ := va.int
      obtain ⟨u, rfl⟩ := vb.int
      simp only [binD, Option.map_eq_some_iff] at h
      obtain ⟨k, hk, rfl⟩ := h
      exact binI_ok hk fun t' tk => stay _ tk (.int k t')
    | _ => simp [binD] at h
  | str i =>
    cases y with
    | str j =>
      obtain ⟨t, rfl⟩ := va.str
      obtain ⟨u, rfl⟩ := vb.str
      cases op <;> simp only [binD, reduceCtorEq] at h
      split at h
      · rename_i hs
        cases h
        exact PyProof.Rows.add_str (fun t' tk => stay _ tk (.str _ t')) (Nat.le_trans hs sizeLine_big)
      · cases h
    | _ => simp [binD] at h
  | tuple i =>
    cases y with
    | tuple j =>
      obtain ⟨aa, vs, n, rfl, hm, hd⟩ := va.tuple S.all
      obtain ⟨ab, ws, n', rfl, hm', hd'⟩ := vb.tuple S.all
      cases op <;> simp only [binD, reduceCtorEq] at h
      split at h
      · rename_i hs
        cases h
        have l1 := hd.length
        have l2 := hd'.length
        have e1 := DatAll.ne_nil hd
        have e2 := DatAll.ne_nil hd'
        refine add_tuples S.F S.N (S.N.isTup hm) (S.N.isTup hm') (fun e => ?_) (fun _ e => ?_) (fun _ _ h' F N => mkt _ _ rfl (hd.append hd') h' F N) (by have := sizeLine_big; omega)
        · have e3 := e1.mp e
          subst e3
          cases vb with
          | d hv => exact stay _ s.toks (by simpa using hv)
        · have e3 := e2.mp e
          subst e3
          cases va with
          | d hv => exact stay _ s.toks (by simpa using hv)
      · cases h
    | _ => simp [binD] at h
  | list i =>
    cases y with
    | list j =>
      obtain ⟨aa, vs, n, rfl, hm, hd⟩ := va.list S.all
      obtain ⟨ab, ws, n', rfl, hm', hd'⟩ := vb.list S.all
      cases op <;> simp only [binD, reduceCtorEq] at h
      split at h
      · rename_i hs
        cases h
        have l1 := hd.length
        have l2 := hd'.length
        refine add_arrays S.F S.N (S.N.isList hm) (S.N.isList hm') (fun h' F N => ?_) (by simp only [List.size_toArray]; have := sizeLine_big; omega)
        exact mkl _ _ rfl (hd.append hd') h' F (by simpa using N)
      · cases h
    | _ => simp [binD] at h
  | _ => cases y <;> simp [binD] at h
theorem eok_bin {l r : Expr} {op : Operator} {pos : Pos} {p₁ p₂ : LV × Sig} {x y z : Dat} (H₁ : EOK prog w K p loose mg mb rk sc ρ l σ p₁) (H₂ : EOK prog w K p loose mg mb rk sc ρ r p₁.2 p₂)
    (hx : valL p₂.2 p₁.1 = some x) (hy : valL p₂.2 p₂.1 = some y) (hz : binD op x y = some z) : EOK prog w K p loose mg mb rk sc ρ (.BinOp l op r pos) σ (.d z, p₂.2) := by
  intro A env h₀ L m ext fro ca led s Q act S R P
  refine wpAny_BinOp (two H₁ H₂ act S R (Q := fun a b s₂ => wpAny (model prog w) A (binaryOp op a b) Q NoE s₂) fun a b h' tk fro' led' sub S' la lb => ?_)
  exact bin_ok hz S' (S'.val la hx) (S'.val lb hy) fun v h'' tk' fro'' led'' sub' S'' lv => P v h'' tk' fro'' led'' (fun q hq => sub' q (sub q hq)) S'' lv
/-! comparisons -/
theorem okD_in {all : List (Addr × Obj)} {h : Heap} (N : News h₀ L h all) {v : Value} {d : Dat} (hd : DatIn all v d) (ho : okD d = true) : ∃ as, Reads h v (kqdP d) as := kqd_in N 8 hd ho
theorem okD_shaped {d : Dat} (ho : okD d = true) : (kqdP d).canLay0 = true ∧ (kqdP d).depth ≤ 8 := kqd_lay 8 d ho
theorem eqv_beq {a b : Dat} (ha : okD a = true) (hb : okD b = true) : PyData.eqv (kqdP a) (kqdP b) = beqD a b := by
  have h1 := kqd_eqv 8 a b 8 ha hb
  have h2 := beqD_iff a b
  cases e1 : PyData.eqv (kqdP a) (kqdP b) <;> cases e2 : beqD a b <;> simp_all
theorem eqd_ok {neg : Bool} {a b : Value} {x y : Dat} {c : Bool} {Q : Value → Shared → Prop} (h : eqD x y = some c) (S : SI h₀ L m ext fro ca σ led s.heap)
    (va : VR (led ++ (ext ++ fro)) fro a x) (vb : VR (led ++ (ext ++ fro)) fro b y) (hu : A.units + 64 < cLine) (P : Q (.bool (if neg then !c else c)) s) :
    wpAny (model prog w) A (compareOp (if neg then .NotEq else .Eq) a b) Q NoE s := by
  have deep : okD x = true → okD y = true → c = beqD x y → wpAny (model prog w) A (compareOp (if neg then .NotEq else .Eq) a b) Q NoE s := fun hx hy e => by
    obtain ⟨as, ra⟩ := okD_in S.N (va.mem S.all) hx
    obtain ⟨bs, rb⟩ := okD_in S.N (vb.mem S.all) hy
    have sx : SeqAt.shaped (kqdP x) = true := by unfold SeqAt.shaped; rw [(okD_shaped hx).1, Bool.true_and]; exact decide_eq_true (Nat.le_trans (okD_shaped hx).2 (by decide))
    have sy : SeqAt.shaped (kqdP y) = true := by unfold SeqAt.shaped; rw [(okD_shaped hy).1, Bool.true_and]; exact decide_eq_true (Nat.le_trans (okD_shaped hy).2 (by decide))
    cases neg with
    | false => exact eq_dataH ra rb sx sy hu (by rw [eqv_beq hx hy, ← e]; exact P)
    | true => exact ne_dataH ra rb sx sy hu (by rw [eqv_beq hx hy, ← e]; exact P)
  cases x with
  | int i =>
    cases y with
    | int j =>
      obtain ⟨t, rfl⟩ := va.int
      obtain ⟨u, rfl⟩ := vb.int
      simp only [eqD, Option.some.injEq] at h
      subst h
      have e : (i == j) = decide (i = j) := by by_cases q : i = j <;> simp [q]
      cases neg with
      | false => exact PyProof.Rows.eq_int (by rw [e]; exact P)
      | true => exact PyProof.Rows.ne_int (by unfold bne; rw [e]; exact P)
    | _ => simp [eqD] at h
  | str i =>
    cases y with
    | str j =>
      obtain ⟨t, rfl⟩ := va.str
      obtain ⟨u, rfl⟩ := vb.str
      simp only [eqD, Option.some.injEq] at h
      subst h
      have e : (i == j) = decide (i = j) := by by_cases q : i = j <;> simp [q]
      cases neg with
      | false => exact PyProof.Rows.eq_str (by rw [e]; exact P)
      | true => exact PyProof.Rows.ne_str (by unfold bne; rw [e]; exact P)
    | _ => simp [eqD] at h
  | tuple i =>
    cases y with
    | tuple j =>
      simp only [eqD] at h
      split at h
      · rename_i hs
        simp only [Bool.and_eq_true] at hs
        cases h
        exact deep hs.1 hs.2 (by simp [beqD])
      · cases h
    | _ => simp [eqD] at h
  | list i =>
    cases y with
    | list j =>
      simp only [eqD] at h
      split at h
      · rename_i hs
        simp only [Bool.and_eq_true] at hs
        cases h
        exact deep hs.1 hs.2 (by simp [beqD])
      · cases h
    | _ => simp [eqD] at h
  | _ => cases y <;> simp [eqD] at h
theorem kqdPs_any {x : Dat} (hx : okD x = true) : ∀ ds : List Dat, (∀ d ∈ ds, okD d = true) → ((kqdPs ds).any fun y => PyData.eqv y (kqdP x)) = ds.any fun y => beqD y x
  | [], _ => rfl
  | d :: ds, h => by simp only [kqdPs, List.any_cons, kqdPs_any hx ds fun e he => h e (.tail _ he), eqv_beq (h d (.head _)) hx]
theorem mem_ok {a b : Value} {x y : Dat} {ds : List Dat} {c : Bool} {Q : Value → Shared → Prop} (h : memD x ds = some c) (S : SI h₀ L m ext fro ca σ led s.heap) (hy : y = .tuple ds ∨ y = .list ds)
    (va : VR (led ++ (ext ++ fro)) fro a x) (vb : VR (led ++ (ext ++ fro)) fro b y) (hu : A.units + 64 < cLine) (P : Q (.bool c) s) :
    wpAny (model prog w) A (compareOp .In a b) Q NoE s := by
  unfold memD at h
  split at h
  · rename_i hs
    simp only [Bool.and_eq_true, List.all_eq_true] at hs
    cases h
    obtain ⟨as, ra⟩ := okD_in S.N (va.mem S.all) hs.1
    have la := okD_shaped hs.1
    have l := kqd_layL hs.2
    have room : A.units + 1 + min (PyData.depthAll (kqdPs ds)) (kqdP x).depth < cLine := by
      have := Nat.min_le_right (PyData.depthAll (kqdPs ds)) (kqdP x).depth
      omega
    rcases hy with rfl | rfl
    · obtain ⟨ab, vs, n, rfl, hm, hd⟩ := vb.tuple S.all
      obtain ⟨bs, rb⟩ := kqd_all S.N 8 (hd.mono S.all) hs.2
      exact SeqAt.in_tuple_reads (reads_tuple_at (S.N.get hm) rfl rfl (by simpa using rb)) ra l.1 la.1 room (by rw [kqdPs_any hs.1 ds hs.2]; exact P)
    · obtain ⟨ab, vs, n, rfl, hm, hd⟩ := vb.list S.all
      obtain ⟨bs, rb⟩ := kqd_all S.N 8 (hd.mono S.all) hs.2
      exact SeqAt.in_list_reads (reads_list_at (S.N.get hm) rfl rfl (by simpa [W.listOf] using rb)) ra l.1 la.1 room (by rw [kqdPs_any hs.1 ds hs.2]; exact P)
  · cases h
theorem cmp_ok {op : CmpOp} {a b : Value} {x y : Dat} {c : Bool} {Q : Value → Shared → Prop} (h : cmpD op x y = some c) (S : SI h₀ L m ext fro ca σ led s.heap)
    (va : VR (led ++ (ext ++ fro)) fro a x) (vb : VR (led ++ (ext ++ fro)) fro b y) (hu : A.units + 64 < cLine) (P : Q (.bool c) s) :
    wpAny (model prog w) A (compareOp op a b) Q NoE s := by
  cases op <;> simp only [cmpD, reduceCtorEq] at h
  case Eq => exact eqd_ok (neg := false) h S va vb hu P
  case NotEq =>
    simp only [Option.map_eq_some_iff] at h
    obtain ⟨c', hc, rfl⟩ := h
    exact eqd_ok (neg := true) hc S va vb hu P
  case Lt =>
    cases x <;> cases y <;> simp only [Option.some.injEq, reduceCtorEq] at h
    obtain ⟨t, rfl⟩ := va.int
    obtain ⟨u, rfl⟩ := vb.int
    subst h
    exact PyProof.Rows.lt_int P
  case LtE =>
    cases x <;> cases y <;> simp only [Option.some.injEq, reduceCtorEq] at h
    obtain ⟨t, rfl⟩ := va.int
    obtain ⟨u, rfl⟩ := vb.int
    subst h
    exact PyProof.Rows.le_int P
  case Gt =>
    cases x <;> cases y <;> simp only [Option.some.injEq, reduceCtorEq] at h
    obtain ⟨t, rfl⟩ := va.int
    obtain ⟨u, rfl⟩ := vb.int
    subst h
    exact PyProof.Rows.gt_int P
  case Is =>
    cases x <;> cases y <;> simp only [Option.some.injEq, reduceCtorEq] at h
    · subst h
      have e1 := va.none
      have e2 := vb.none
      subst e1 e2
      exact is_none P
    · subst h
      have e2 := vb.none
      obtain ⟨aa, vs, n, rfl, _⟩ := va.tuple S.all
      subst e2
      exact is_none P
  case In =>
    cases y <;> simp only [reduceCtorEq] at h
    · exact mem_ok h S (.inl rfl) va vb hu P
    · exact mem_ok h S (.inr rfl) va vb hu P
end
section
variable {prog : Program} {w : World} {K : Frag} {p : Program} {loose : List Str} {mg mb : Str → Option Value} {rk : Nat}
  {A : Around} {env : Env} {h₀ : Heap} {L : Addr} {m : Str → Option Value} {ext fro : List (Addr × Obj)} {ca : List Addr} {led : List (Addr × Obj)} {s : Shared} {sc : Scope} {ρ : Rho} {σ : Sig}
theorem frz_ok {h : Heap} {v : Value} {x : LV} {d : Dat} {σ' : Sig} (S : SI h₀ L m ext fro ca σ led h) (hl : LVR fro ca v x) (e : frz σ x = some (d, σ')) :
    ∃ fro' led', (∀ q ∈ fro, q ∈ fro') ∧ SI h₀ L m ext fro' ca σ' led' h ∧ DatIn fro' v d := by
  cases hl with
  | d hd => simp only [frz, Option.some.injEq, Prod.mk.injEq] at e; obtain ⟨rfl, rfl⟩ := e; exact ⟨fro, led, sub_refl, S, hd⟩
  | @c a k hc =>
    simp only [frz] at e
    split at e
    · rename_i ds q
      cases e
      obtain ⟨o, led', S', hd⟩ := S.freeze hc q
      exact ⟨_, led', fun q hq => .tail _ hq, S', hd⟩
    · rename_i M q
      cases e
      exact ⟨fro, led, sub_refl, S, S.R.getMem hc q⟩
    · cases e
theorem frzL_ok {h : Heap} : ∀ {vs : List Value} {xs : List LV} {ds : List Dat} {σ σ' : Sig} {fro led : List (Addr × Obj)}, SI h₀ L m ext fro ca σ led h → LVRs fro ca vs xs → frzL xs σ = some (ds, σ') →
    ∃ fro' led', (∀ q ∈ fro, q ∈ fro') ∧ SI h₀ L m ext fro' ca σ' led' h ∧ DatAll fro' vs ds
  | _, _, _, _, _, fro, led, S, .nil, e => by
    simp only [frzL, Option.some.injEq, Prod.mk.injEq] at e
    obtain ⟨rfl, rfl⟩ := e
    exact ⟨fro, led, sub_refl, S, .nil⟩
  | _, _, _, _, _, fro, led, S, .cons hv hr, e => by
    simp only [frzL, Option.bind_eq_some_iff, Option.some.injEq, Prod.mk.injEq] at e
    obtain ⟨⟨d, σ₁⟩, h1, ⟨ds, σ₂⟩, h2, rfl, rfl⟩ := e
    obtain ⟨fro₁, led₁, s1, S₁, hd⟩ := frz_ok S hv h1
    obtain ⟨fro₂, led₂, s2, S₂, hds⟩ := frzL_ok S₁ (hr.mono s1) h2
    exact ⟨fro₂, led₂, fun q hq => s2 q (s1 q hq), S₂, .cons (hd.mono s2) hds⟩
theorem starEach_plain {e : Expr} {es : List Expr} (h : ∀ v q, e ≠ .Starred v q) : starEach (e :: es) env = (false, eval e env) :: starEach es env := by
  cases e <;> first | rfl | exact absurd rfl (h _ _)
theorem items_ok {ev : Expr → Sig → Option (LV × Sig)} (H : ∀ e σ r, ev e σ = some r → EOK prog w K p loose mg mb rk sc ρ e σ r) (hst : ∀ v q σ, ev (.Starred v q) σ = none) {pos : Pos} :
    ∀ {es : List Expr} {σ : Sig} {xs : List LV} {σ' : Sig} {fro led : List (Addr × Obj)} {s : Shared} {Q : List Value → Shared → Prop}, evL ev es σ = some (xs, σ') → Act K p loose mg mb A h₀ L rk → SI h₀ L m ext fro ca σ led s.heap → EnvR env sc L m (ext ++ fro) fro ca ρ →
      (∀ vs h' tk fro' led', (∀ q ∈ fro, q ∈ fro') → SI h₀ L m ext fro' ca σ' led' h' → LVRs fro' ca vs xs → Q vs { s with heap := h', toks := tk }) → wpAny (model prog w) A (spliced (backTo pos (starEach es env))) Q NoE s
  | [], σ, xs, σ', fro, led, s, Q, e, act, S, R, P => by
    simp only [evL, Option.some.injEq, Prod.mk.injEq] at e
    obtain ⟨rfl, rfl⟩ := e
    exact wpAny_items_nil (P [] s.heap s.toks fro led sub_refl S .nil)
  | e₁ :: es, σ, xs, σ', fro, led, s, Q, e, act, S, R, P => by
    simp only [evL, Option.bind_eq_some_iff, Option.some.injEq, Prod.mk.injEq] at e
    obtain ⟨⟨x, σ₁⟩, h1, ⟨ys, σ₂⟩, h2, rfl, rfl⟩ := e
    have hne : ∀ v q, e₁ ≠ .Starred v q := fun v q he => by subst he; rw [hst] at h1; cases h1
    refine wpAny_items_cons ?_ (starEach_plain hne)
    refine H _ _ _ h1 act S R fun v h₁ tk₁ fro₁ led₁ sub₁ S₁ l₁ => ?_
    refine items_ok H hst h2 act S₁ (R.mono sub₁) fun vs h₂ tk₂ fro₂ led₂ sub₂ S₂ l₂ => ?_
    exact P (v :: vs) h₂ tk₂ fro₂ led₂ (fun q hq => sub₂ q (sub₁ q hq)) S₂ (.cons (l₁.mono sub₂) l₂)
theorem evL_length {ev : Expr → Sig → Option (LV × Sig)} : ∀ {es : List Expr} {σ σ' : Sig} {xs : List LV}, evL ev es σ = some (xs, σ') → xs.length = es.length
  | [], _, _, _, e => by simp only [evL, Option.some.injEq, Prod.mk.injEq] at e; obtain ⟨rfl, _⟩ := e; rfl
  | _ :: es, _, _, _, e => by
    simp only [evL, Option.bind_eq_some_iff, Option.some.injEq, Prod.mk.injEq] at e
    obtain ⟨_, _, ⟨ys, _⟩, h2, rfl, _⟩ := e
    simp [evL_length h2]
theorem eok_tuple {ev : Expr → Sig → Option (LV × Sig)} (H : ∀ e σ r, ev e σ = some r → EOK prog w K p loose mg mb rk sc ρ e σ r) (hst : ∀ v q σ, ev (.Starred v q) σ = none) {es : List Expr} {k : Nat} {pos : Pos} {xs : List LV} {σ₁ σ₂ : Sig} {ds : List Dat}
    (h1 : evL ev es σ = some (xs, σ₁)) (hl : es.length ≤ 1000) (h2 : frzL xs σ₁ = some (ds, σ₂)) : EOK prog w K p loose mg mb rk sc ρ (.Tuple es k pos) σ (.d (.tuple ds), σ₂) := by
  intro A env h₀ L m ext fro ca led s Q act S R P
  refine Tuple_ (items_ok H hst h1 act S R fun vs h' tk fro' led' sub S' lv => ?_)
  obtain ⟨fro₂, led₂, s2, S₂, hd⟩ := frzL_ok S' lv h2
  refine newTuple_N S₂.F S₂.N (fun h'' F N => ?_) (by have := lv.length; have := evL_length h1; have := sizeLine_big; omega)
  exact P _ h'' tk _ led₂ (fun q hq => .tail _ (s2 q (sub q hq))) (S₂.alloc F N S₂.lt) (.d (.tuple (.head _) (hd.mono fun q hq => .tail _ hq)))
/-- an expression that makes a list: the list stands on the ledger, not yet told what it is to be -/
noncomputable def FOK (prog : Program) (w : World) (K : Frag) (p : Program) (loose : List Str) (mg mb : Str → Option Value) (rk : Nat) (sc : Scope) (ρ : Rho) (e : Expr) (σ : Sig) (r : List Dat × Sig) : Prop :=
  ∀ {A : Around} {env : Env} {h₀ : Heap} {L : Addr} {m : Str → Option Value} {ext fro : List (Addr × Obj)} {ca : List Addr} {led : List (Addr × Obj)} {s : Shared} {Q : Value → Shared → Prop},
    Act K p loose mg mb A h₀ L rk → SI h₀ L m ext fro ca σ led s.heap → EnvR env sc L m (ext ++ fro) fro ca ρ →
    (∀ a vs n h' tk fro' led', (∀ q ∈ fro, q ∈ fro') → SI h₀ L m ((a, W.listOf vs.toArray n) :: ext) fro' ca r.2 led' h' → DatAll fro' vs r.1 → (∀ q ∈ ext, q.1 ≠ a) → Q (.ref a) { s with heap := h', toks := tk }) →
    wpAny (model prog w) A (eval e env) Q NoE s
theorem fok_list {ev : Expr → Sig → Option (LV × Sig)} (H : ∀ e σ r, ev e σ = some r → EOK prog w K p loose mg mb rk sc ρ e σ r) (hst : ∀ v q σ, ev (.Starred v q) σ = none) {es : List Expr} {pos : Pos} {xs : List LV} {σ₁ σ₂ : Sig} {ds : List Dat}
    (h1 : evL ev es σ = some (xs, σ₁)) (hl : es.length ≤ 1000) (h2 : frzL xs σ₁ = some (ds, σ₂)) {A : Around} {env : Env} {h₀ : Heap} {L : Addr} {m : Str → Option Value} {ext fro : List (Addr × Obj)} {ca : List Addr} {led : List (Addr × Obj)} {s : Shared} {Q : Value → Shared → Prop}
    (act : Act K p loose mg mb A h₀ L rk) (S : SI h₀ L m ext fro ca σ led s.heap) (R : EnvR env sc L m (ext ++ fro) fro ca ρ)
    (P : ∀ a vs n h' tk fro' led', (∀ q ∈ fro, q ∈ fro') → SI h₀ L m ((a, W.listOf vs.toArray n) :: ext) fro' ca σ₂ led' h' → DatAll fro' vs ds → (∀ q ∈ ext, q.1 ≠ a) → Q (.ref a) { s with heap := h', toks := tk }) :
    wpAny (model prog w) A (eval (.List es pos) env) Q NoE s := by
  refine List_ (items_ok H hst h1 act S R fun vs h' tk fro' led' sub S' lv => ?_)
  obtain ⟨fro₂, led₂, s2, S₂, hd⟩ := frzL_ok S' lv h2
  refine newList_N S₂.F S₂.N (fun h'' F N => ?_) (by have := lv.length; have := evL_length h1; have := sizeLine_big; omega)
  exact P _ vs 0 h'' tk _ led₂ (fun q hq => s2 q (sub q hq)) (S₂.fresh F N S₂.lt) hd fun q hq => Nat.ne_of_lt (S₂.lt q (S₂.inext q (List.mem_append.mpr (.inl hq))))
theorem eok_usub {x : Expr} {pos : Pos} {i : Int} {σ' : Sig} (H : EOK prog w K p loose mg mb rk sc ρ x σ (.d (.int i), σ')) : EOK prog w K p loose mg mb rk sc ρ (.UnaryOp .USub x pos) σ (.d (.int (-i)), σ') := by
  intro A env h₀ L m ext fro ca led s Q act S R P
  refine UnaryOp_ (H act S R fun v h' tk fro' led' sub S' lv => ?_)
  cases lv with
  | d hd =>
    cases hd
    exact PyProof.Rows.neg_int (P _ h' _ fro' led' sub S' (.d (.int _ _)))
theorem eok_not {x : Expr} {pos : Pos} {b : Bool} {σ' : Sig} (H : EOK prog w K p loose mg mb rk sc ρ x σ (.d (.bool b), σ')) : EOK prog w K p loose mg mb rk sc ρ (.UnaryOp .Not x pos) σ (.d (.bool (!b)), σ') := by
  intro A env h₀ L m ext fro ca led s Q act S R P
  refine UnaryOp_ (H act S R fun v h' tk fro' led' sub S' lv => ?_)
  cases lv with
  | d hd =>
    cases hd
    exact PyProof.Rows.not_of (wpAny_truthy_bool (P _ h' _ fro' led' sub S' (.d (.bool _))))
theorem eok_ifexp {t b o : Expr} {pos : Pos} {c : Bool} {σ' : Sig} {r : LV × Sig} (H : TOK prog w K p loose mg mb rk sc ρ t σ (c, σ')) (H' : EOK prog w K p loose mg mb rk sc ρ (if c then b else o) σ' r) : EOK prog w K p loose mg mb rk sc ρ (.IfExp t b o pos) σ r := by
  intro A env h₀ L m ext fro ca led s Q act S R P
  refine IfExp_ (H act S R fun h' tk fro' led' sub S' => ?_)
  have z := H' (Q := Q) (s := { s with heap := h', toks := tk }) act S' (R.mono sub) fun v h'' tk' fro'' led'' sub' S'' lv => P v h'' tk' fro'' led'' (fun q hq => sub' q (sub q hq)) S'' lv
  cases c <;> exact z
/-! tests -/
theorem tok_not {x : Expr} {pos : Pos} {b : Bool} {σ' : Sig} (H : TOK prog w K p loose mg mb rk sc ρ x σ (b, σ')) : TOK prog w K p loose mg mb rk sc ρ (.UnaryOp .Not x pos) σ (!b, σ') := by
  intro A env h₀ L m ext fro ca led s Q act S R P
  exact isTrue_not (H act S R fun h' tk fro' led' sub S' => P h' tk fro' led' sub S')
theorem tok_bo {tt : Expr → Sig → Option (Bool × Sig)} (H : ∀ e σ r, tt e σ = some r → TOK prog w K p loose mg mb rk sc ρ e σ r) {op : BoolOp} {pos : Pos} :
    ∀ {es : List Expr} {σ : Sig} {r : Bool × Sig}, evBo op tt es σ = some r → TOK prog w K p loose mg mb rk sc ρ (.BoolOp op es pos) σ r := by
  intro es
  induction es with
  | nil =>
    intro σ r e A env h₀ L m ext fro ca led s Q act S R P
    simp only [evBo, Option.some.injEq] at e
    subst e
    have z := P s.heap s.toks fro led sub_refl S
    cases op
    · exact isTrue_and_nil z
    · exact isTrue_or_nil z
  | cons x es ih =>
    intro σ r e A env h₀ L m ext fro ca led s Q act S R P
    simp only [evBo, Option.bind_eq_some_iff] at e
    obtain ⟨⟨c, σ₁⟩, h1, h2⟩ := e
    cases op
    · refine isTrue_and (H _ _ _ h1 act S R fun h' tk fro' led' sub S' => ?_)
      cases c with
      | false =>
        simp only [Bool.false_eq_true, if_false, Option.some.injEq] at h2
        subst h2
        exact P h' tk fro' led' sub S'
      | true =>
        simp only [if_true] at h2 ⊢
        exact ih h2 act S' (R.mono sub) fun h'' tk' fro'' led'' sub' S'' => P h'' tk' fro'' led'' (fun q hq => sub' q (sub q hq)) S''
    · refine isTrue_or (H _ _ _ h1 act S R fun h' tk fro' led' sub S' => ?_)
      cases c with
      | true =>
        simp only [if_true, Option.some.injEq] at h2
        subst h2
        exact P h' tk fro' led' sub S'
      | false =>
        simp only [Bool.false_eq_true, if_false] at h2 ⊢
        exact ih h2 act S' (R.mono sub) fun h'' tk' fro'' led'' sub' S'' => P h'' tk' fro'' led'' (fun q hq => sub' q (sub q hq)) S''
theorem tok_value {e : Expr} {b : Bool} {σ' : Sig} (H : EOK prog w K p loose mg mb rk sc ρ e σ (.d (.bool b), σ')) (he : ∀ env, isTrue e env (eval e env) = (do let v ← eval e env; standAt e.pos; holding [v] (truthy v))) : TOK prog w K p loose mg mb rk sc ρ e σ (b, σ') := by
  intro A env h₀ L m ext fro ca led s Q act S R P
  refine isTrue_plain (H act S R fun v h' tk fro' led' sub S' lv => ?_) (he env)
  cases lv with
  | d hd =>
    cases hd
    exact wpAny_truthy_bool (P h' tk fro' led' sub S')
theorem eok_bo {ev : Expr → Sig → Option (LV × Sig)} (H : ∀ e σ r, ev e σ = some r → EOK prog w K p loose mg mb rk sc ρ e σ r) {op : BoolOp} {pos : Pos} :
    ∀ {es : List Expr} {e₁ : Expr} {σ : Sig} {r : Bool × Sig}, evBo op (evBool ev) (e₁ :: es) σ = some r → EOK prog w K p loose mg mb rk sc ρ (.BoolOp op (e₁ :: es) pos) σ (.d (.bool r.1), r.2) := by
  intro es
  induction es with
  | nil =>
    intro e₁ σ r e A env h₀ L m ext fro ca led s Q act S R P
    simp only [evBo, evBool, Option.bind_eq_some_iff] at e
    obtain ⟨⟨c, σ₁⟩, ⟨⟨v, σ₂⟩, h1, h2⟩, h3⟩ := e
    split at h2
    · rename_i b hb
      cases h2
      simp only at hb
      subst hb
      have er : r = (c, σ₂) := by
        cases op <;> cases c <;> (simp at h3; exact h3.symm)
      subst er
      exact BoolOp_one (H _ _ _ h1 act S R P)
    · cases h2
  | cons e₂ es ih =>
    intro e₁ σ r e A env h₀ L m ext fro ca led s Q act S R P
    rw [evBo] at e
    simp only [Option.bind_eq_some_iff] at e
    obtain ⟨⟨c, σ₁⟩, h0, h3⟩ := e
    simp only [evBool, Option.bind_eq_some_iff] at h0
    obtain ⟨⟨v, σ₂⟩, h1, h2⟩ := h0
    split at h2
    · rename_i b hb
      cases h2
      simp only at hb
      subst hb
      cases op
      · refine BoolOp_and (H _ _ _ h1 act S R fun v h' tk fro' led' sub S' lv => ?_)
        cases lv with
        | d hd =>
          cases hd
          refine wpAny_truthy_bool ?_
          cases c with
          | false =>
            simp only [Bool.false_eq_true, if_false, Option.some.injEq] at h3 ⊢
            subst h3
            exact P _ h' tk fro' led' sub S' (.d (.bool _))
          | true =>
            simp only [if_true] at h3 ⊢
            exact ih h3 act S' (R.mono sub) fun v h'' tk' fro'' led'' sub' S'' lv => P v h'' tk' fro'' led'' (fun q hq => sub' q (sub q hq)) S'' lv
      · refine BoolOp_or (H _ _ _ h1 act S R fun v h' tk fro' led' sub S' lv => ?_)
        cases lv with
        | d hd =>
          cases hd
          refine wpAny_truthy_bool ?_
          cases c with
          | true =>
            simp only [if_true, Option.some.injEq] at h3 ⊢
            subst h3
            exact P _ h' tk fro' led' sub S' (.d (.bool _))
          | false =>
            simp only [Bool.false_eq_true, if_false] at h3 ⊢
            exact ih h3 act S' (R.mono sub) fun v h'' tk' fro'' led'' sub' S'' lv => P v h'' tk' fro'' led'' (fun q hq => sub' q (sub q hq)) S'' lv
    · cases h2
theorem units_ok (act : Act K p loose mg mb A h₀ L rk) : A.units + 64 < cLine := by
  have := act.un
  have := cLine_is
  omega
/-- one link -/
theorem eok_cmp1 {l r : Expr} {op : CmpOp} {pos : Pos} {p₁ p₂ : LV × Sig} {x y : Dat} {c : Bool} (hm : behindInMarks op r = false) (H₁ : EOK prog w K p loose mg mb rk sc ρ l σ p₁) (H₂ : EOK prog w K p loose mg mb rk sc ρ r p₁.2 p₂)
    (hx : valL p₂.2 p₁.1 = some x) (hy : valL p₂.2 p₂.1 = some y) (hz : cmpD op x y = some c) : EOK prog w K p loose mg mb rk sc ρ (.Compare l [op] [r] pos) σ (.d (.bool c), p₂.2) := by
  intro A env h₀ L m ext fro ca led s Q act S R P
  refine wpAny_Compare1 (two H₁ H₂ act S R (Q := fun a b s₂ => wpAny (model prog w) A (compareOp op a b) Q NoE s₂) fun a b h' tk fro' led' sub S' la lb => ?_) hm
  exact cmp_ok hz S' (S'.val la hx) (S'.val lb hy) (units_ok act) (P _ h' tk fro' led' sub S' (.d (.bool _)))
theorem tok_cmp1 {l r : Expr} {op : CmpOp} {pos : Pos} {p₁ p₂ : LV × Sig} {x y : Dat} {c : Bool} (hm : behindInMarks op r = false) (H₁ : EOK prog w K p loose mg mb rk sc ρ l σ p₁) (H₂ : EOK prog w K p loose mg mb rk sc ρ r p₁.2 p₂)
    (hx : valL p₂.2 p₁.1 = some x) (hy : valL p₂.2 p₂.1 = some y) (hz : cmpD op x y = some c) : TOK prog w K p loose mg mb rk sc ρ (.Compare l [op] [r] pos) σ (c, p₂.2) := by
  intro A env h₀ L m ext fro ca led s Q act S R P
  refine wpAny_isTrue_Compare1 (two H₁ H₂ act S R (Q := fun a b s₂ => wpAny (model prog w) A (compareOp op a b) (fun c s₃ => wpAny (model prog w) A (truthy c) Q NoE s₃) NoE s₂) fun a b h' tk fro' led' sub S' la lb => ?_) hm
  exact cmp_ok hz S' (S'.val la hx) (S'.val lb hy) (units_ok act) (wpAny_truthy_bool (P h' tk fro' led' sub S'))
theorem valL_d {σ' : Sig} {v : Dat} {x : Dat} (h : valL σ' (.d v) = some x) : v = x := by simpa [valL] using h
/-- two links -/
theorem eok_cmp2 {l r₁ r₂ : Expr} {op₁ op₂ : CmpOp} {pos : Pos} {p₁ p₂ : LV × Sig} {x y : Dat} {c : Bool} (hm : behindInMarks op₂ r₂ = false) (H₁ : EOK prog w K p loose mg mb rk sc ρ l σ p₁) (H₂ : EOK prog w K p loose mg mb rk sc ρ r₁ p₁.2 p₂)
    (hx : valL p₂.2 p₁.1 = some x) (hy : valL p₂.2 p₂.1 = some y) (hz : cmpD op₁ x y = some c) {r : Bool × Sig}
    (hr : if c then ∃ p₃ y' z c', EOK prog w K p loose mg mb rk sc ρ r₂ p₂.2 p₃ ∧ valL p₃.2 p₂.1 = some y' ∧ valL p₃.2 p₃.1 = some z ∧ cmpD op₂ y' z = some c' ∧ r = (c', p₃.2) else r = (false, p₂.2)) :
    EOK prog w K p loose mg mb rk sc ρ (.Compare l [op₁, op₂] [r₁, r₂] pos) σ (.d (.bool r.1), r.2) := by
  intro A env h₀ L m ext fro ca led s Q act S R P
  refine Compare_chain (H₁ act S R fun a h₁ tk₁ fro₁ led₁ sub₁ S₁ la => chain_link (H₂ act S₁ (R.mono sub₁) fun b h₂ tk₂ fro₂ led₂ sub₂ S₂ lb => ?_)) (by simpa [lastMarks] using hm)
  refine cmp_ok hz S₂ (S₂.val (la.mono sub₂) hx) (S₂.val lb hy) (units_ok act) (wpAny_truthy_bool ?_)
  cases c with
  | false =>
    simp only [Bool.false_eq_true, if_false] at hr ⊢
    subst hr
    exact P _ h₂ tk₂ fro₂ led₂ (fun q hq => sub₂ q (sub₁ q hq)) S₂ (.d (.bool _))
  | true =>
    simp only [if_true] at hr ⊢
    obtain ⟨p₃, y', z, c', H₃, hy', hz', hc', rfl⟩ := hr
    refine chain_last (H₃ act S₂ ((R.mono sub₁).mono sub₂) fun d h₃ tk₃ fro₃ led₃ sub₃ S₃ ld => ?_)
    exact cmp_ok hc' S₃ (S₃.val (lb.mono sub₃) hy') (S₃.val ld hz') (units_ok act) (P _ h₃ tk₃ fro₃ led₃ (fun q hq => sub₃ q (sub₂ q (sub₁ q hq))) S₃ (.d (.bool _)))
theorem tok_cmp2 {l r₁ r₂ : Expr} {op₁ op₂ : CmpOp} {pos : Pos} {p₁ p₂ : LV × Sig} {x y : Dat} {c : Bool} (hm : behindInMarks op₂ r₂ = false) (H₁ : EOK prog w K p loose mg mb rk sc ρ l σ p₁) (H₂ : EOK prog w K p loose mg mb rk sc ρ r₁ p₁.2 p₂)
    (hx : valL p₂.2 p₁.1 = some x) (hy : valL p₂.2 p₂.1 = some y) (hz : cmpD op₁ x y = some c) {r : Bool × Sig}
    (hr : if c then ∃ p₃ y' z c', EOK prog w K p loose mg mb rk sc ρ r₂ p₂.2 p₃ ∧ valL p₃.2 p₂.1 = some y' ∧ valL p₃.2 p₃.1 = some z ∧ cmpD op₂ y' z = some c' ∧ r = (c', p₃.2) else r = (false, p₂.2)) :
    TOK prog w K p loose mg mb rk sc ρ (.Compare l [op₁, op₂] [r₁, r₂] pos) σ r := by
  intro A env h₀ L m ext fro ca led s Q act S R P
  refine isTrue_chain (H₁ act S R fun a h₁ tk₁ fro₁ led₁ sub₁ S₁ la => test_link (H₂ act S₁ (R.mono sub₁) fun b h₂ tk₂ fro₂ led₂ sub₂ S₂ lb => ?_)) (by simpa [lastMarks] using hm)
  refine cmp_ok hz S₂ (S₂.val (la.mono sub₂) hx) (S₂.val lb hy) (units_ok act) (wpAny_truthy_bool ?_)
  cases c with
  | false =>
    simp only [Bool.false_eq_true, if_false] at hr ⊢
    subst hr
    exact P h₂ tk₂ fro₂ led₂ (fun q hq => sub₂ q (sub₁ q hq)) S₂
  | true =>
    simp only [if_true] at hr ⊢
    obtain ⟨p₃, y', z, c', H₃, hy', hz', hc', rfl⟩ := hr
    refine test_last (H₃ act S₂ ((R.mono sub₁).mono sub₂) fun d h₃ tk₃ fro₃ led₃ sub₃ S₃ ld => ?_)
    exact cmp_ok hc' S₃ (S₃.val (lb.mono sub₃) hy') (S₃.val ld hz') (units_ok act) (wpAny_truthy_bool (P h₃ tk₃ fro₃ led₃ (fun q hq => sub₃ q (sub₂ q (sub₁ q hq))) S₃))
end
section
variable {prog : Program} {w : World} {K : Frag} {p : Program} {loose : List Str} {mg mb : Str → Option Value} {rk : Nat}
  {A : Around} {env : Env} {h₀ : Heap} {L : Addr} {m : Str → Option Value} {ext fro : List (Addr × Obj)} {ca : List Addr} {led : List (Addr × Obj)} {s : Shared} {sc : Scope} {ρ : Rho} {σ : Sig}
theorem DatAll.take {news : List (Addr × Obj)} {vs : List Value} {ds : List Dat} (h : DatAll news vs ds) (k : Nat) : DatAll news (vs.take k) (ds.take k) := by
  induction vs generalizing ds k with
  | nil => cases h; simpa using DatAll.nil
  | cons v vs ih => cases h with | cons a b => cases k with | zero => exact .nil | succ k => exact .cons a (ih b k)
theorem DatAll.drop {news : List (Addr × Obj)} {vs : List Value} {ds : List Dat} (h : DatAll news vs ds) (k : Nat) : DatAll news (vs.drop k) (ds.drop k) := by
  induction vs generalizing ds k with
  | nil => cases h; simpa using DatAll.nil
  | cons v vs ih => cases h with | cons a b => cases k with | zero => exact .cons a b | succ k => exact ih b k
theorem DatAll.reverse {news : List (Addr × Obj)} {vs : List Value} {ds : List Dat} (h : DatAll news vs ds) : DatAll news vs.reverse ds.reverse := by
  induction vs generalizing ds with
  | nil => cases h; exact .nil
  | cons v vs ih => cases h with | cons a b => rw [List.reverse_cons, List.reverse_cons]; exact (ih b).append (.cons a .nil)
theorem DatAll.set {news : List (Addr × Obj)} {vs : List Value} {ds : List Dat} {v : Value} {d : Dat} (h : DatAll news vs ds) (hv : DatIn news v d) (k : Nat) : DatAll news (vs.set k v) (ds.set k d) := by
  induction vs generalizing ds k with
  | nil => cases h; simpa using DatAll.nil
  | cons u vs ih => cases h with | cons a b => cases k with | zero => exact .cons hv b | succ k => exact .cons a (ih b k)
theorem DatAll.at {news : List (Addr × Obj)} {vs : List Value} {ds : List Dat} (h : DatAll news vs ds) {k : Nat} {d : Dat} (hk : ds[k]? = some d) : ∃ v, vs[k]? = some v ∧ DatIn news v d := by
  obtain ⟨hlt, e⟩ := List.getElem?_eq_some_iff.mp hk
  obtain ⟨v, h1, h2⟩ := h.get hlt
  exact ⟨v, h1, e ▸ h2⟩
theorem sub_plain {slice : Expr} (h : ∀ a b c d, slice ≠ .Slice a b c d) (o i : Value) : subscripted slice false o i = operate [o, i] (getItem o i) := by
  cases slice <;> first | rfl | exact absurd rfl (h _ _ _ _)
theorem idx_ok {value slice : Expr} {a b : Value} {x y z : Dat} {Q : Value → Shared → Prop} (h : idxD x y = some z) (S : SI h₀ L m ext fro ca σ led s.heap) (hs : ∀ a b c d, slice ≠ .Slice a b c d)
    (va : VR (led ++ (ext ++ fro)) fro a x) (vb : VR (led ++ (ext ++ fro)) fro b y) (P : PostV h₀ L m ext fro ca s Q (.d z) σ) : wpAny (model prog w) A (subscriptTail value slice a b) Q NoE s := by
  have stay : ∀ v tk, DatIn fro v z → Q v { s with toks := tk } := fun v tk hv => P v s.heap tk fro led sub_refl S (.d hv)
  cases x with
  | list ds =>
    cases y with
    | int k =>
      obtain ⟨aa, vs, n, rfl, hm, hd⟩ := va.list S.all
      obtain ⟨t, rfl⟩ := vb.int
      have hl := S.N.isList hm
      have len := hd.length
      simp only [idxD] at h
      split at h
      · rename_i hk
        simp only [Bool.and_eq_true, decide_eq_true_eq] at hk
        have hsm := small_lt hk.1
        simp only [Option.bind_eq_some_iff] at h
        obtain ⟨j, hj, hz⟩ := h
        obtain ⟨v, hv, hdv⟩ := DatAll.at hd hz
        unfold atI at hj
        split at hj
        · rename_i hc
          simp only [Bool.and_eq_true, decide_eq_true_eq] at hc
          cases hj
          exact tail_any hl.typeIs slot_list_getitem.lookup (wpAny_getItem_list hl hc.1 (by omega) (by simpa using hv) (stay v s.toks hdv)) (sub_plain hs _ _)
        · split at hj
          · rename_i hc
            simp only [Bool.and_eq_true, decide_eq_true_eq] at hc
            cases hj
            refine tail_any hl.typeIs slot_list_getitem.lookup (wpAny_getItem_list_neg hl hc.1 (by rw [List.size_toArray]; omega) (by omega) (by rw [List.size_toArray, len]; simpa using hv) (stay v s.toks hdv)) (sub_plain hs _ _)
          · cases hj
      · cases h
    | _ => exact nomatch (show (none : Option Dat) = some _ from h)
  | tuple ds =>
    cases y with
    | int k =>
      obtain ⟨aa, vs, n, rfl, hm, hd⟩ := va.tuple S.all
      obtain ⟨t, rfl⟩ := vb.int
      have len := hd.length
      simp only [idxD] at h
      split at h
      · rename_i hk
        simp only [Bool.and_eq_true, decide_eq_true_eq] at hk
        have hsm := small_lt hk.1
        simp only [Option.bind_eq_some_iff] at h
        obtain ⟨j, hj, hz⟩ := h
        obtain ⟨v, hv, hdv⟩ := DatAll.at hd hz
        refine item_tupleT (S.N.isTup hm) (by omega) (by omega) (j := j) ?_ hv (stay v s.toks hdv) (sub_plain hs _ _)
        unfold atI at hj
        unfold seqIndex?
        rw [len]
        split at hj
        · rename_i hc
          simp only [Bool.and_eq_true, decide_eq_true_eq] at hc
          cases hj
          have : ¬ k < 0 := by omega
          simp [this, hc.1, hc.2]
        · split at hj
          · rename_i hc
            simp only [Bool.and_eq_true, decide_eq_true_eq] at hc
            cases hj
            have h1 : 0 ≤ k + (ds.length : Int) := by omega
            have h2 : k + (ds.length : Int) < ds.length := by omega
            simp [hc.1, h1]
            omega
          · cases hj
      · cases h
    | _ => exact nomatch (show (none : Option Dat) = some _ from h)
  | str x =>
    cases y with
    | int k =>
      obtain ⟨u, rfl⟩ := va.str
      obtain ⟨t, rfl⟩ := vb.int
      simp only [idxD] at h
      split at h
      · rename_i hk
        simp only [Bool.and_eq_true, decide_eq_true_eq] at hk
        have hsm := small_lt hk.2
        cases h
        exact PyProof.Rows.item_str (fitsSsize_of (N := 2 ^ 62) (by omega) (by omega) (by decide)) (by omega) hk.1.2 (fun _ => stay _ _ (.str _ _)) (sub_plain hs _ _) (fun r => by cases value <;> rfl)
      · cases h
    | _ => exact nomatch (show (none : Option Dat) = some _ from h)
  | _ => cases y <;> exact nomatch (show (none : Option Dat) = some _ from h)
theorem eok_sub {v i : Expr} {pos : Pos} {p₁ p₂ : LV × Sig} {x y z : Dat} (hs : ∀ a b c d, i ≠ .Slice a b c d) (H₁ : EOK prog w K p loose mg mb rk sc ρ v σ p₁) (H₂ : EOK prog w K p loose mg mb rk sc ρ i p₁.2 p₂)
    (hx : valL p₂.2 p₁.1 = some x) (hy : valL p₂.2 p₂.1 = some y) (hz : idxD x y = some z) : EOK prog w K p loose mg mb rk sc ρ (.Subscript v i pos) σ (.d z, p₂.2) := by
  intro A env h₀ L m ext fro ca led s Q act S R P
  refine Subscript_ (two H₁ H₂ act S R (Q := fun a b s₂ => wpAny (model prog w) A (subscriptTail v i a b) Q NoE s₂) fun a b h' tk fro' led' sub S' la lb => ?_)
  exact idx_ok hz S' hs (S'.val la hx) (S'.val lb hy) fun v h'' tk' fro'' led'' sub' S'' lv => P v h'' tk' fro'' led'' (fun q hq => sub' q (sub q hq)) S'' lv
theorem part_ok {ev : Expr → Sig → Option (LV × Sig)} (H : ∀ e σ r, ev e σ = some r → EOK prog w K p loose mg mb rk sc ρ e σ r) {o : Option Expr} {x : Dat} {σ' : Sig} {Q : Value → Shared → Prop} (h : evO ev o σ = some (x, σ'))
    (act : Act K p loose mg mb A h₀ L rk) (S : SI h₀ L m ext fro ca σ led s.heap) (R : EnvR env sc L m (ext ++ fro) fro ca ρ)
    (P : ∀ v h' tk fro' led', (∀ q ∈ fro, q ∈ fro') → SI h₀ L m ext fro' ca σ' led' h' → DatIn fro' v x → Q v { s with heap := h', toks := tk }) : wpAny (model prog w) A (evalPart o env) Q NoE s := by
  cases o with
  | none =>
    simp only [evO, Option.some.injEq, Prod.mk.injEq] at h
    obtain ⟨rfl, rfl⟩ := h
    exact wpAny_evalPart_none (P .none s.heap s.toks fro led sub_refl S .none)
  | some e =>
    simp only [evO, Option.bind_eq_some_iff] at h
    obtain ⟨⟨v, σ₁⟩, h1, x', h2, h3⟩ := h
    refine wpAny_evalPart_some (H _ _ _ h1 act S R fun v' h' tk fro' led' sub S' lv => ?_)
    cases v with
    | d d =>
      simp only [valL, Option.some.injEq] at h2 h3
      subst h2
      cases h3
      cases lv with
      | d hd => exact P v' h' tk fro' led' sub S' hd
    | c k => simp at h3
theorem dat_none {v : Value} (h : DatIn fro v .none) : v = .none := by cases h; rfl
theorem isPart_of {v : Value} {x : Dat} {o : Option Int} (h : DatIn fro v x) (e : partD x = some o) : IsPart v o := by
  cases x with
  | none => cases h; simp only [partD, Option.some.injEq] at e; subst e; exact .none
  | int i => cases h; simp only [partD, Option.some.injEq] at e; subst e; exact .int _ _
  | _ => simp [partD] at e
theorem eok_slice {ev : Expr → Sig → Option (LV × Sig)} (H : ∀ e σ r, ev e σ = some r → EOK prog w K p loose mg mb rk sc ρ e σ r) {n : Str} {np : Pos} {lo hi st : Option Expr} {sp pos : Pos} {p₁ : LV × Sig} {a b c : Dat × Sig} {x : Dat} {ds : List Dat}
    (h₁ : ev (.Name n np) σ = some p₁) (ha : evO ev lo p₁.2 = some a) (hb : evO ev hi a.2 = some b) (hc : evO ev st b.2 = some c) (hx : valL c.2 p₁.1 = some x)
    (hst : stepOk st c.1 = true) (hz : sliceD x a.1 b.1 c.1 = some ds) : EOK prog w K p loose mg mb rk sc ρ (.Subscript (.Name n np) (.Slice lo hi st sp) pos) σ (.d (.list ds), c.2) := by
  intro A env h₀ L m ext fro ca led s Q act S R P
  refine Subscript_ (H _ _ _ h₁ act S R fun o h1 tk1 fro1 led1 sub1 S1 l1 => wpAny_Slice ?_)
  refine part_ok H ha act S1 (R.mono sub1) fun vl h2 tk2 fro2 led2 sub2 S2 d2 => ?_
  refine part_ok H hb act S2 ((R.mono sub1).mono sub2) fun vu h3 tk3 fro3 led3 sub3 S3 d3 => ?_
  refine part_ok H hc act S3 (((R.mono sub1).mono sub2).mono sub3) fun vk h4 tk4 fro4 led4 sub4 S4 d4 => ?_
  have lo' := ((l1.mono sub2).mono sub3).mono sub4
  have d2' := (d2.mono sub3).mono sub4
  have d3' := d3.mono sub4
  have V := S4.val lo' hx
  have fin : ∀ D h' (zs : List Value), DatAll fro4 zs ds → Fr h₀ L h' m → News h₀ L h' ((D, W.listOf zs.toArray 0) :: (led4 ++ (ext ++ fro4))) → (∀ q ∈ led4 ++ (ext ++ fro4), q.1 < D) → Q (.ref D) { s with heap := h', toks := tk4 } := fun D h' zs hd F N hlt =>
    P _ h' tk4 _ led4 (fun q hq => .tail _ (sub4 q (sub3 q (sub2 q (sub1 q hq))))) (S4.alloc F N hlt) (.d (.list (n := 0) (.head _) (hd.mono fun q hq => .tail _ hq)))
  obtain ⟨cv, σc⟩ := c
  cases cv with
  | none =>
    cases x with
    | list es =>
      simp only [sliceD] at hz
      split at hz
      · rename_i hlen
        simp only [decide_eq_true_eq] at hlen
        simp only [Option.bind_eq_some_iff, Option.map_eq_some_iff] at hz
        obtain ⟨l, hl, h, hh, rfl⟩ := hz
        obtain ⟨aa, vs, k, rfl, hm, hd⟩ := V.list S4.all
        have len := hd.length
        cases d4
        have hn : st = none := by
          cases st with
          | none => rfl
          | some e => simp [stepOk] at hst
        subst hn
        refine kms_slice_lit (s := { s with heap := h4, toks := tk4 }) S4.F S4.N (S4.N.isList hm) (isPart_of d2' hl) (isPart_of d3' hh) (zs := kms_pick vs l h) (by simp) (fun D h' F N hlt => fin D h' _ ?_ F N hlt) ?_ (fun _ => rfl) (by simp only [List.size_toArray]; have := sizeLine_big; omega)
        · unfold kms_pick kmsD
          rw [len]
          exact DatAll.take (DatAll.drop hd _) _
        · rfl
      · cases hz
    | _ => exact nomatch (show (none : Option (List Dat)) = some _ from hz)
  | int k =>
    cases x with
    | list es =>
      obtain ⟨av, σa⟩ := a
      obtain ⟨bv, σb⟩ := b
      simp only [sliceD] at hz
      split at hz
      · rename_i hlen
        simp only [Bool.and_eq_true, decide_eq_true_eq] at hlen
        obtain ⟨⟨⟨n1, n2⟩, hlen⟩, rfl⟩ := hlen
        cases hz
        cases av <;> first | cases n1 | skip
        cases bv <;> first | cases n2 | skip
        obtain ⟨aa, vs, k, rfl, hm, hd⟩ := V.list S4.all
        have len := hd.length
        cases d4
        cases d2'
        cases d3'
        refine krv_lit (s := { s with heap := h4, toks := tk4 }) S4.F S4.N (S4.N.isList hm) (.int _ _) (zs := vs.reverse) (by simp) (fun D h' F N hlt => fin D h' _ (DatAll.reverse hd) F N hlt) (ops := [.ref aa, .ref h4.objs.size]) ?_ (fun _ => rfl) (by simp only [List.size_toArray]; have := sizeLine_big; omega)
        cases st with
        | none => simp [evO] at hc
        | some e => rfl
      · cases hz
    | _ => exact nomatch (show (none : Option (List Dat)) = some _ from hz)
  | _ => cases x <;> exact nomatch (show (none : Option (List Dat)) = some _ from hz)
end
/-- the names of built-ins that the text reads and does not bind -/
noncomputable def free9 : List Str := ["abs", "int", "str", "len", "min", "list", "range", "enumerate"]
noncomputable def BltOK (K : Frag) : Prop := ∀ f ∈ free9, nsIn K mainGlobals f = some none
section
variable {prog : Program} {w : World} {K : Frag} {p : Program} {loose : List Str} {mg mb : Str → Option Value} {rk : Nat}
  {A : Around} {env : Env} {h₀ : Heap} {L : Addr} {m : Str → Option Value} {ext fro : List (Addr × Obj)} {ca : List Addr} {led : List (Addr × Obj)} {s : Shared} {sc : Scope} {ρ : Rho} {σ : Sig}
theorem free9_name {f : Str} (h : f ∈ free9) : f ≠ ("__name__" : Str) ∧ (f == ("__debug__" : Str)) = false := by
  have : free9.all (fun f => decide (f ≠ ("__name__" : Str)) && !(f == ("__debug__" : Str))) = true := by decide +kernel
  have := List.all_eq_true.mp this f h
  simp only [Bool.and_eq_true, decide_eq_true_eq, Bool.not_eq_true'] at this
  exact this
theorem name_blt {f : Str} {fp : Pos} {v : Value} {Q : Value → Shared → Prop} (hB : BltOK K) (hf : f ∈ free9) (hv : bootBuiltins f = some v) (act : Act K p loose mg mb A h₀ L rk) (S : SI h₀ L m ext fro ca σ led s.heap) (R : EnvR env sc L m (ext ++ fro) fro ca ρ)
    (hg : isGlob sc f = true) (P : Q v s) : wpAny (model prog w) A (eval (.Name f fp) env) Q NoE s := by
  have n9 := free9_name hf
  refine Name_function_global R.kind (R.glob f (of_decide_eq_true hg)) ?_ n9.2
  refine loadGlobal_builtin (by rw [R.gl]; exact act.T.g.keeps S.F.keep) (mg_none_of act.X act.T.g (hB f hf)) (by rw [R.bl]; exact act.T.b.keeps S.F.keep) ((act.T.builtins f n9.1).trans hv) P
theorem name_fn {f : Str} {fp : Pos} {v : Value} {Q : Value → Shared → Prop} (hv : nsIn K mainGlobals f = some (some v)) (act : Act K p loose mg mb A h₀ L rk) (S : SI h₀ L m ext fro ca σ led s.heap) (R : EnvR env sc L m (ext ++ fro) fro ca ρ)
    (hg : isGlob sc f = true) (hd : (f == ("__debug__" : Str)) = false) (P : Q v s) : wpAny (model prog w) A (eval (.Name f fp) env) Q NoE s := by
  refine Name_function_global R.kind (R.glob f (of_decide_eq_true hg)) ?_ hd
  exact loadGlobal_global (by rw [R.gl]; exact act.T.g.keeps S.F.keep) (mg_of act.X act.T.g hv) P
theorem Call_plain {f : Str} {fp pos : Pos} {args : List Expr} {Q : Value → Shared → Prop} (h : wpAny (model prog w) A (eval (.Name f fp) env) (fun fv s₁ => wpAny (model prog w) A (callWith pos fv [] (backTo pos (starEach args env)) []) Q NoE s₁) NoE s) :
    wpAny (model prog w) A (eval (.Call (.Name f fp) args [] pos) env) Q NoE s := Call_ h rfl
theorem stars_plain {ev : Expr → Sig → Option (LV × Sig)} (hst : ∀ v q σ, ev (.Starred v q) σ = none) {pos : Pos} : ∀ {es : List Expr} {σ σ' : Sig} {xs : List LV}, evL ev es σ = some (xs, σ') → ((backTo pos (starEach es env)).any fun x => x.1) = false
  | [], _, _, _, _ => rfl
  | e₁ :: es, σ, σ', xs, e => by
    simp only [evL, Option.bind_eq_some_iff] at e
    obtain ⟨⟨x, σ₁⟩, h1, ⟨ys, σ₂⟩, h2, _⟩ := e
    have hne : ∀ v q, e₁ ≠ .Starred v q := fun v q he => by subst he; rw [hst] at h1; cases h1
    have ih := stars_plain hst (pos := pos) h2
    rw [starEach_plain hne]
    show (false || (backTo pos (starEach es env)).any fun x => x.1) = false
    rw [ih]; rfl
theorem eok_call {ev : Expr → Sig → Option (LV × Sig)} (H : ∀ e σ r, ev e σ = some r → EOK prog w K p loose mg mb rk sc ρ e σ r) (hst : ∀ v q σ, ev (.Starred v q) σ = none) {f : Str} {fp pos : Pos} {args : List Expr} {xs : List LV} {σ₁ : Sig} {r : Dat × Sig}
    (hg : isGlob sc f = true) (hd : (f == ("__debug__" : Str)) = false) (h1 : evL ev args σ = some (xs, σ₁)) (h2 : CallOK prog w K p loose mg mb rk f xs σ₁ r) : EOK prog w K p loose mg mb rk sc ρ (.Call (.Name f fp) args [] pos) σ (.d r.1, r.2) := by
  intro A env h₀ L m ext fro ca led s Q act S R P
  obtain ⟨fa, o, fd, hn, hk, hdat, hcall⟩ := h2
  refine Call_plain (name_fn hn act S R hg hd ?_)
  have go : ∀ vs h' tk fro' led', (∀ q ∈ fro, q ∈ fro') → SI h₀ L m ext fro' ca σ₁ led' h' → LVRs fro' ca vs xs → wpAny (model prog w) A (call (.ref fa) vs) Q NoE { s with heap := h', toks := tk } := fun vs h' tk fro' led' sub S' lv =>
    hcall act S' lv fun v h'' tk' fro'' led'' sub' S'' lv' => P v h'' tk' fro'' led'' (fun q hq => sub' q (sub q hq)) S'' lv'
  cases args with
  | nil =>
    simp only [evL, Option.some.injEq, Prod.mk.injEq] at h1
    obtain ⟨rfl, rfl⟩ := h1
    exact callWith_meth0 hdat (act.X.keeps S.F.keep _ _ hk) (go [] s.heap s.toks fro led sub_refl S .nil)
  | cons e rest =>
    have hne : ∀ v q, e ≠ .Starred v q := fun v q he => by
      subst he
      simp only [evL, Option.bind_eq_some_iff] at h1
      obtain ⟨_, h1, _⟩ := h1
      rw [hst] at h1; cases h1
    refine callWith_def hdat (items_ok H hst h1 act S R fun vs h' tk fro' led' sub S' lv => ⟨act.X.keeps S'.F.keep _ _ hk, go vs h' tk fro' led' sub S' lv⟩) (starEach_plain hne)
theorem blt_boot : bootBuiltins "abs" = some (.builtin "abs") ∧ bootBuiltins "int" = some (.type "int") ∧ bootBuiltins "str" = some (.type "str") ∧ bootBuiltins "len" = some (.builtin "len") ∧ bootBuiltins "min" = some (.builtin "min") ∧
    bootBuiltins "list" = some (.type "list") ∧ bootBuiltins "range" = some (.type "range") ∧ bootBuiltins "enumerate" = some (.type "enumerate") := by decide +kernel
/-- a call of a built-in by its name: its arguments, then the call -/
theorem call_blt {ev : Expr → Sig → Option (LV × Sig)} (H : ∀ e σ r, ev e σ = some r → EOK prog w K p loose mg mb rk sc ρ e σ r) (hst : ∀ v q σ, ev (.Starred v q) σ = none) {f : Str} {v : Value} {fp pos : Pos} {args : List Expr} {xs : List LV} {σ₁ : Sig} {Q : Value → Shared → Prop}
    (hB : BltOK K) (hf : f ∈ free9) (hv : bootBuiltins f = some v) (hvv : (∃ id, v = .builtin id) ∨ ∃ T, v = .type T) (hg : isGlob sc f = true) (h1 : evL ev args σ = some (xs, σ₁)) (hne : 0 < args.length) (act : Act K p loose mg mb A h₀ L rk) (S : SI h₀ L m ext fro ca σ led s.heap) (R : EnvR env sc L m (ext ++ fro) fro ca ρ)
    (P : ∀ vs h' tk fro' led', (∀ q ∈ fro, q ∈ fro') → SI h₀ L m ext fro' ca σ₁ led' h' → LVRs fro' ca vs xs → wpAny (model prog w) A (call v vs) Q NoE { s with heap := h', toks := tk }) :
    wpAny (model prog w) A (eval (.Call (.Name f fp) args [] pos) env) Q NoE s := by
  refine Call_plain (name_blt hB hf hv act S R hg ?_)
  cases args with
  | nil => simp at hne
  | cons e rest =>
    have st := h1
    have hst' : ∀ v q, e ≠ .Starred v q := fun v q he => by
      subst he
      simp only [evL, Option.bind_eq_some_iff] at h1
      obtain ⟨_, h1, _⟩ := h1
      rw [hst] at h1; cases h1
    have pl : ((backTo pos (starEach rest env)).any fun x => x.1) = false := by
      simp only [evL, Option.bind_eq_some_iff] at h1
      obtain ⟨_, _, ⟨_, _⟩, h2, _⟩ := h1
      exact stars_plain hst h2
    rcases hvv with ⟨id, rfl⟩ | ⟨T, rfl⟩
    · exact PyProof.Rows.callWith_builtin1 (items_ok H hst h1 act S R fun vs h' tk fro' led' sub S' lv => P vs h' tk fro' led' sub S' lv) (starEach_plain hst') pl
    · exact PyProof.Rows.callWith_type1 (items_ok H hst h1 act S R fun vs h' tk fro' led' sub S' lv => P vs h' tk fro' led' sub S' lv) (starEach_plain hst') pl
theorem vals_one {σ : Sig} {xs : List LV} {d : Dat} (h : valsL σ xs = some [d]) : ∃ x, xs = [x] ∧ valL σ x = some d := by
  cases xs with
  | nil => simp [valsL] at h
  | cons x r =>
    simp only [valsL, Option.bind_eq_some_iff, Option.map_eq_some_iff] at h
    obtain ⟨y, h1, ys, h2, h3⟩ := h
    cases r with
    | nil => simp only [List.cons.injEq] at h3; exact ⟨x, rfl, h3.1 ▸ h1⟩
    | cons z r =>
      simp only [valsL, Option.bind_eq_some_iff, Option.map_eq_some_iff] at h2
      obtain ⟨_, _, _, _, rfl⟩ := h2
      simp at h3
theorem vals_two {σ : Sig} {xs : List LV} {d e : Dat} (h : valsL σ xs = some [d, e]) : ∃ x y, xs = [x, y] ∧ valL σ x = some d ∧ valL σ y = some e := by
  cases xs with
  | nil => simp [valsL] at h
  | cons x r =>
    simp only [valsL, Option.bind_eq_some_iff, Option.map_eq_some_iff] at h
    obtain ⟨y, h1, ys, h2, h3⟩ := h
    simp only [List.cons.injEq] at h3
    obtain ⟨z, rfl, hz⟩ := vals_one (h3.2 ▸ h2)
    exact ⟨x, z, rfl, h3.1 ▸ h1, hz⟩
theorem log2_small {a : Int} (h : small a = true) : a.natAbs.log2 < 1920 := by
  have h := small_lt h
  by_cases h0 : a.natAbs = 0
  · rw [h0]; decide
  · have := (Nat.log2_lt h0).mpr h; omega
theorem eok_blt {ev : Expr → Sig → Option (LV × Sig)} (H : ∀ e σ r, ev e σ = some r → EOK prog w K p loose mg mb rk sc ρ e σ r) (hst : ∀ v q σ, ev (.Starred v q) σ = none) {f : Str} {fp pos : Pos} {args : List Expr} {xs : List LV} {σ₁ : Sig} {ds : List Dat} {z : Dat}
    (hB : BltOK K) (hf : blts.contains f = true) (hg : isGlob sc f = true) (h1 : evL ev args σ = some (xs, σ₁)) (hne : 0 < args.length) (h2 : valsL σ₁ xs = some ds) (h3 : bltD f ds = some z) : EOK prog w K p loose mg mb rk sc ρ (.Call (.Name f fp) args [] pos) σ (.d z, σ₁) := by
  intro A env h₀ L m ext fro ca led s Q act S R P
  have hf' : f = "abs" ∨ f = "int" ∨ f = "str" ∨ f = "len" ∨ f = "min" := by
    have h9 := List.contains_iff_mem.mp hf
    simp only [blts, List.mem_cons, List.not_mem_nil, or_false] at h9
    exact h9
  obtain ⟨b1, b2, b3, b4, b5, _⟩ := blt_boot
  have one : ∀ v, bootBuiltins f = some v → ((∃ id, v = .builtin id) ∨ ∃ T, v = .type T) → f ∈ free9 → ∀ d, ds = [d] → (∀ a h' tk fro' led', (∀ q ∈ fro, q ∈ fro') → SI h₀ L m ext fro' ca σ₁ led' h' → VR (led' ++ (ext ++ fro')) fro' a d → wpAny (model prog w) A (call v [a]) Q NoE { s with heap := h', toks := tk }) →
      wpAny (model prog w) A (eval (.Call (.Name f fp) args [] pos) env) Q NoE s := fun v hv hvv h9 d hd P' => by
    subst hd
    obtain ⟨x, rfl, hx⟩ := vals_one h2
    refine call_blt H hst hB h9 hv hvv hg h1 hne act S R fun vs h' tk fro' led' sub S' lv => ?_
    cases lv with
    | cons l1 lr =>
      cases lr
      exact P' _ h' tk fro' led' sub S' (S'.val l1 hx)
  have two' : ∀ v, bootBuiltins f = some v → ((∃ id, v = .builtin id) ∨ ∃ T, v = .type T) → f ∈ free9 → ∀ d e, ds = [d, e] → (∀ a b h' tk fro' led', (∀ q ∈ fro, q ∈ fro') → SI h₀ L m ext fro' ca σ₁ led' h' → VR (led' ++ (ext ++ fro')) fro' a d → VR (led' ++ (ext ++ fro')) fro' b e → wpAny (model prog w) A (call v [a, b]) Q NoE { s with heap := h', toks := tk }) →
      wpAny (model prog w) A (eval (.Call (.Name f fp) args [] pos) env) Q NoE s := fun v hv hvv h9 d e hd P' => by
    subst hd
    obtain ⟨x, y, rfl, hx, hy⟩ := vals_two h2
    refine call_blt H hst hB h9 hv hvv hg h1 hne act S R fun vs h' tk fro' led' sub S' lv => ?_
    cases lv with
    | cons l1 lr =>
      cases lr with
      | cons l2 lr =>
        cases lr
        exact P' _ _ h' tk fro' led' sub S' (S'.val l1 hx) (S'.val l2 hy)
  unfold bltD at h3
  split at h3
  · rename_i a
    split at h3
    · rename_i e; subst e; cases h3
      refine one _ b1 (.inl ⟨_, rfl⟩) (by decide +kernel) _ rfl fun v h' tk fro' led' sub S' va => ?_
      obtain ⟨t, rfl⟩ := va.int
      exact call_abs_int fun u tk' => P _ h' tk' fro' led' sub S' (.d (.int _ _))
    · split at h3
      · rename_i e; subst e; cases h3
        refine one _ b2 (.inr ⟨_, rfl⟩) (by decide +kernel) _ rfl fun v h' tk fro' led' sub S' va => ?_
        obtain ⟨t, rfl⟩ := va.int
        exact PySem.call_int_int (P _ h' tk fro' led' sub S' (.d (.int _ _)))
      · split at h3
        · rename_i e
          split at h3
          · rename_i hs
            subst e; cases h3
            refine one _ b3 (.inr ⟨_, rfl⟩) (by decide +kernel) _ rfl fun v h' tk fro' led' sub S' va => ?_
            obtain ⟨t, rfl⟩ := va.int
            exact PySem.P.str_of_int (log2_small hs) (P _ h' _ fro' led' sub S' (.d (.str _ _)))
          · cases h3
        · cases h3
  · rename_i x
    split at h3
    · rename_i e; subst e; cases h3
      refine one _ b3 (.inr ⟨_, rfl⟩) (by decide +kernel) _ rfl fun v h' tk fro' led' sub S' va => ?_
      obtain ⟨t, rfl⟩ := va.str
      exact PySem.P.str_of_str (P _ h' tk fro' led' sub S' (.d (.str _ _)))
    · cases h3
  · rename_i es
    split at h3
    · rename_i e
      split at h3
      · rename_i hs
        subst e; cases h3
        refine one _ b4 (.inl ⟨_, rfl⟩) (by decide +kernel) _ rfl fun v h' tk fro' led' sub S' va => ?_
        obtain ⟨aa, vs, n, rfl, hm, hd⟩ := va.list S'.all
        have len := hd.length
        exact kun_lenL (S'.N.isList hm) (k := (es.length : Int)) (by rw [List.size_toArray, len]) (by omega) (P _ h' _ fro' led' sub S' (.d (.int _ _)))
      · cases h3
    · cases h3
  · rename_i a b
    split at h3
    · rename_i e; subst e; cases h3
      refine two' _ b5 (.inl ⟨_, rfl⟩) (by decide +kernel) _ _ rfl fun u v h' tk fro' led' sub S' va vb => ?_
      obtain ⟨t, rfl⟩ := va.int
      obtain ⟨t', rfl⟩ := vb.int
      exact min_two_N act.hh S'.F S'.N fun h'' tk' F N => P _ h'' tk' fro' led' sub (S'.at F N) (.d (.int _ _))
    · cases h3
  · cases h3
end
/-- what does not speak of the heap -/
structure SP (ext fro : List (Addr × Obj)) (ca : List Addr) (σ : Sig) (led : List (Addr × Obj)) : Prop where
  R : LedR fro ca σ led
  nd : (led.map (·.1)).Nodup
  ap : ∀ p ∈ led, ∀ q ∈ ext ++ fro, p.1 ≠ q.1
  ap2 : ∀ p ∈ ext, ∀ q ∈ fro, p.1 ≠ q.1
section
variable {prog : Program} {w : World} {K : Frag} {p : Program} {loose : List Str} {mg mb : Str → Option Value} {rk : Nat}
  {A : Around} {env : Env} {h₀ : Heap} {L : Addr} {m : Str → Option Value} {ext fro : List (Addr × Obj)} {ca : List Addr} {led : List (Addr × Obj)} {s : Shared} {sc : Scope} {ρ : Rho} {σ : Sig}
theorem SI.sp {h : Heap} (S : SI h₀ L m ext fro ca σ led h) : SP ext fro ca σ led := ⟨S.R, S.nd, S.ap, S.ap2⟩
theorem SP.si {h : Heap} (S : SP ext fro ca σ led) (F : Fr h₀ L h m) (N : News h₀ L h (led ++ (ext ++ fro))) : SI h₀ L m ext fro ca σ led h := ⟨F, N, S.R, S.nd, S.ap, S.ap2⟩
/-- three objects more that stand aside -/
theorem SP.three {a b c : Addr × Obj} (S : SP ext fro ca σ led) (off : ∀ q ∈ led ++ (ext ++ fro), q.1 ≠ a.1 ∧ q.1 ≠ b.1 ∧ q.1 ≠ c.1) : SP (a :: b :: c :: ext) fro ca σ led := by
  refine ⟨S.R, S.nd, fun x hx q hq => ?_, fun x hx q hq => ?_⟩
  · have o := off x (List.mem_append.mpr (.inl hx))
    simp only [List.cons_append, List.mem_cons] at hq
    rcases hq with h | h | h | h
    · rw [h]; exact o.1
    · rw [h]; exact o.2.1
    · rw [h]; exact o.2.2
    · exact S.ap x hx q h
  · have o := off q (List.mem_append.mpr (.inr (List.mem_append.mpr (.inr hq))))
    simp only [List.mem_cons] at hx
    rcases hx with h | h | h | h
    · rw [h]; exact fun e => o.1 e.symm
    · rw [h]; exact fun e => o.2.1 e.symm
    · rw [h]; exact fun e => o.2.2 e.symm
    · exact S.ap2 x h q hq
theorem SP.less {a : List (Addr × Obj)} (S : SP (a ++ ext) fro ca σ led) : SP ext fro ca σ led :=
  ⟨S.R, S.nd, fun x hx q hq => S.ap x hx q (by rcases List.mem_append.mp hq with h | h; · exact List.mem_append.mpr (.inl (List.mem_append.mpr (.inr h)))
                                               · exact List.mem_append.mpr (.inr h)), fun x hx q hq => S.ap2 x (List.mem_append.mpr (.inr hx)) q hq⟩
theorem lookup_relabel {env : Env} {k : NameKind} (hk : k ≠ .free) : ∀ {names : List (Str × NameKind)} {x : Str}, names.lookup x = some k →
    (names.map fun (n, k) => if (k == NameKind.free && env.scope.kind == .function && env.kindOf n == some .cell) then (n, NameKind.cell) else (n, k)).lookup x = some k
  | [], _, h => by simp at h
  | (n, k') :: r, x, h => by
    have ih := @lookup_relabel env k hk r x
    show List.lookup x ((if (k' == NameKind.free && env.scope.kind == .function && env.kindOf n == some .cell) = true then (n, NameKind.cell) else (n, k')) :: _) = _
    cases hx : x == n with
    | true =>
      simp only [List.lookup_cons, hx] at h
      cases h
      have : (k == NameKind.free) = false := by simpa using hk
      simp [List.lookup_cons, hx, this]
    | false =>
      simp only [List.lookup_cons, hx] at h
      by_cases hc : (k' == NameKind.free && env.scope.kind == .function && env.kindOf n == some .cell) = true
      · rw [if_pos hc]; simp only [List.lookup_cons, hx]; exact ih h
      · rw [if_neg hc]; simp only [List.lookup_cons, hx]; exact ih h
theorem lookup_relabel_free {env : Env} (hs : env.scope.kind = .function) : ∀ {names : List (Str × NameKind)} {x : Str}, names.lookup x = some .free → env.kindOf x = some .cell →
    (names.map fun (n, k) => if (k == NameKind.free && env.scope.kind == .function && env.kindOf n == some .cell) then (n, NameKind.cell) else (n, k)).lookup x = some .cell
  | [], _, h, _ => by simp at h
  | (n, k') :: r, x, h, hc => by
    have ih := @lookup_relabel_free env hs r x
    show List.lookup x ((if (k' == NameKind.free && env.scope.kind == .function && env.kindOf n == some .cell) = true then (n, NameKind.cell) else (n, k')) :: _) = _
    cases hx : x == n with
    | true =>
      simp only [List.lookup_cons, hx] at h
      cases h
      have e : x = n := by simpa using hx
      subst e
      simp [List.lookup_cons, hs, hc]
    | false =>
      simp only [List.lookup_cons, hx] at h
      by_cases hc' : (k' == NameKind.free && env.scope.kind == .function && env.kindOf n == some .cell) = true
      · rw [if_pos hc']; simp only [List.lookup_cons, hx]; exact ih h hc
      · rw [if_neg hc']; simp only [List.lookup_cons, hx]; exact ih h hc
theorem lookup_mem {α β : Type} [BEq α] [LawfulBEq α] {l : List (α × β)} {x : α} {y : β} (h : l.lookup x = some y) : (x, y) ∈ l := by
  induction l with
  | nil => simp at h
  | cons q r ih =>
    obtain ⟨a, b⟩ := q
    rw [List.lookup_cons] at h
    split at h
    · rename_i e; cases h; have := beq_iff_eq.mp e; subst this; exact .head _
    · exact .tail _ (ih h)
theorem lookup_filter {β : Type} (g : Str → Bool) {l : List (Str × β)} {x : Str} {y : β} (h : (l.filter fun q => g q.1).lookup x = some y) : l.lookup x = some y ∧ g x = true := by
  induction l with
  | nil => simp at h
  | cons q r ih =>
    obtain ⟨a, b⟩ := q
    rw [List.lookup_cons]
    simp only [List.filter_cons] at h
    cases hx : x == a with
    | true =>
      have e : x = a := by simpa using hx
      subst e
      split at h
      · rename_i hg; simp only [List.lookup_cons, beq_self_eq_true] at h; exact ⟨h, hg⟩
      · rename_i hg
        have := ih h
        exact absurd this.2 hg
    | false =>
      split at h
      · simp only [List.lookup_cons, hx] at h; exact ih h
      · exact ih h
theorem closure_ok {env : Env} : ∀ (names : List (Str × NameKind)) (cs : List (Str × Addr)), (∀ y ∈ names, y.2 = .free → ∃ c, env.cells.lookup y.1 = some c) →
    ∃ cl, (forIn names cs fun x cs => match x with
        | (name, kind) => if (kind == NameKind.free) = true then do
            let l ← cellOf env name
            pure (ForInStep.yield ((name, l) :: cs))
          else pure (ForInStep.yield cs) : Sem _) = pure cl ∧ (∀ y : Str × Addr, y ∈ cl → (y ∈ cs ∨ (∃ k, (y.1, k) ∈ names) ∧ env.cells.lookup y.1 = some y.2)) ∧ (∀ y ∈ cs, y ∈ cl) ∧ ∀ y ∈ names, y.2 = .free → ∃ c, (y.1, c) ∈ cl
  | [], cs, _ => ⟨cs, rfl, fun y h => .inl h, fun _ h => h, fun _ h => nomatch h⟩
  | (n, k) :: r, cs, h => by
    by_cases hk : k = .free
    · subst hk
      obtain ⟨c, hc⟩ := h _ (.head _) rfl
      obtain ⟨cl, e, h1, h2, h3⟩ := closure_ok r ((n, c) :: cs) fun y hy => h y (.tail _ hy)
      refine ⟨cl, ?_, fun y hy => ?_, fun y hy => h2 y (.tail _ hy), fun y hy hf => ?_⟩
      · rw [List.forIn_cons]
        simp only [beq_self_eq_true, if_true, cellOf, hc, pure_bind]
        exact e
      · rcases h1 y hy with h | ⟨⟨k, h⟩, h'⟩
        · rcases List.mem_cons.mp h with h | h
          · subst h; exact .inr ⟨⟨_, .head _⟩, hc⟩
          · exact .inl h
        · exact .inr ⟨⟨k, .tail _ h⟩, h'⟩
      · rcases List.mem_cons.mp hy with h | h
        · subst h; exact ⟨c, h2 _ (.head _)⟩
        · exact h3 y h hf
    · obtain ⟨cl, e, h1, h2, h3⟩ := closure_ok r cs fun y hy => h y (.tail _ hy)
      refine ⟨cl, ?_, fun y hy => ?_, h2, fun y hy hf => ?_⟩
      · rw [List.forIn_cons]
        have : (k == NameKind.free) = false := by simpa using hk
        simp only [this, Bool.false_eq_true, if_false, pure_bind]
        exact e
      · rcases h1 y hy with h | ⟨⟨k, h⟩, h'⟩
        · exact .inl h
        · exact .inr ⟨⟨k, .tail _ h⟩, h'⟩
      · rcases List.mem_cons.mp hy with h | h
        · subst h; exact absurd hf hk
        · exact h3 y h hf
theorem mem_lookup {β : Type} {l : List (Str × β)} {x : Str} {y : β} (h : (x, y) ∈ l) (hu : ∀ z, (x, z) ∈ l → z = y) : l.lookup x = some y := by
  induction l with
  | nil => cases h
  | cons q r ih =>
    obtain ⟨a, b⟩ := q
    rw [List.lookup_cons]
    split
    · rename_i e
      have := beq_iff_eq.mp e
      subst this
      rw [hu b (.head _)]
    · rename_i e
      refine ih ?_ fun z hz => hu z (.tail _ hz)
      rcases List.mem_cons.mp h with h | h
      · cases h; simp at e
      · exact h
/-- the block of a comprehension: its captured names -/
theorem comp_env {scope : Scope} (R : EnvR env sc L m (ext ++ fro) fro ca ρ) (hf : freesOk sc scope ρ = true) :
    ∃ cl, closureFor scope env = pure cl ∧ (∀ y ∈ scope.names, y.2 ≠ .cell) ∧ (∀ y ∈ scope.names, y.2 = .local → scope.names.lookup y.1 = some .local) ∧
      ∀ y lv, (restR scope ρ).lookup y = some lv → scope.names.lookup y = some .free ∧ env.kindOf y = some .cell ∧ (y == ("__debug__" : Str)) = false ∧ ∃ v c o, cl.lookup y = some c ∧ (c, o) ∈ fro ∧ o.data = .cell (some v) ∧ LVR fro ca v lv := by
  have hall := List.all_eq_true.mp hf
  have cellv : ∀ y lv, ρ.lookup y = some lv → sc.names.lookup y = some .cell → (y == ("__debug__" : Str)) = false ∧ env.kindOf y = some .cell ∧ ∃ v c o, env.cells.lookup y = some c ∧ (c, o) ∈ fro ∧ o.data = .cell (some v) ∧ LVR fro ca v lv := fun y lv e hc => by
    have hk := R.cell y hc
    obtain ⟨v, ⟨hb, h | ⟨h1, _⟩ | ⟨h1, c, o, h2, h3, h4⟩⟩, hl⟩ := R.look y lv e
    · rw [hk] at h; cases h.1
    · rw [hk] at h1; cases h1
    · exact ⟨hb, hk, v, c, o, h2, h3, h4, hl⟩
  have frees : ∀ y ∈ scope.names, y.2 = .free → sc.names.lookup y.1 = some .cell ∧ (ρ.lookup y.1).isSome = true := fun y hy he => by
    have := hall y hy
    simp only [Bool.and_eq_true, Bool.or_eq_true, decide_eq_true_eq] at this
    rcases this.2 with h | h
    · exact absurd he h
    · exact h
  obtain ⟨cl, e, h1, _, h3⟩ := closure_ok (env := env) scope.names [] fun y hy he => by
    obtain ⟨f1, f2⟩ := frees y hy he
    obtain ⟨lv, hlv⟩ := Option.isSome_iff_exists.mp f2
    obtain ⟨_, _, _, c, _, h, _⟩ := cellv y.1 lv hlv f1
    exact ⟨c, h⟩
  refine ⟨cl, ?_, fun y hy => ?_, fun y hy hl => ?_, fun y lv hy => ?_⟩
  · unfold closureFor
    exact (congrArg (· >>= fun a => pure a) e).trans (pure_bind _ _)
  · have := hall y hy
    simp only [Bool.and_eq_true, Bool.or_eq_true, decide_eq_true_eq] at this
    exact this.1.1
  · have := hall y hy
    simp only [Bool.and_eq_true, Bool.or_eq_true, decide_eq_true_eq] at this
    rcases this.1.2 with h | h
    · exact absurd hl h
    · exact h
  · obtain ⟨a, b⟩ := lookup_filter (fun n => decide (scope.names.lookup n = some .free)) hy
    have hfree := of_decide_eq_true b
    obtain ⟨f1, _⟩ := frees (y, .free) (lookup_mem hfree) rfl
    obtain ⟨hb, hk, v, c, o, h2, h3', h4, hl⟩ := cellv y lv a f1
    refine ⟨hfree, hk, hb, v, c, o, ?_, h3', h4, hl⟩
    obtain ⟨c', hc'⟩ := h3 (y, .free) (lookup_mem hfree) rfl
    have uniq : ∀ z, (y, z) ∈ cl → z = c := fun z hz => by
      rcases h1 (y, z) hz with h | ⟨_, h⟩
      · cases h
      · simp only at h
        rw [h2] at h; exact (Option.some.inj h).symm
    exact mem_lookup (uniq c' hc' ▸ hc') uniq
/-- the names that a comprehension's turn sees -/
theorem comp_R {scope : Scope} {cl : List (Str × Addr)} {C : Addr} {oC : Obj} {m₂ : Str → Option Value} {ρ' : Rho} {fro₀ ext' : List (Addr × Obj)} (R : EnvR env sc L m (ext ++ fro₀) fro₀ ca ρ) (hkind : scope.kind = .function) (hcell : ∀ y ∈ scope.names, y.2 ≠ .cell)
    (hc : ∀ y lv, (restR scope ρ).lookup y = some lv → scope.names.lookup y = some .free ∧ env.kindOf y = some .cell ∧ (y == ("__debug__" : Str)) = false ∧ ∃ v c o, cl.lookup y = some c ∧ (c, o) ∈ fro₀ ∧ o.data = .cell (some v) ∧ LVR fro₀ ca v lv)
    (sub : ∀ q ∈ fro₀, q ∈ fro) (sub' : ∀ q ∈ ext, q ∈ ext') (hC : (C, oC) ∈ ext') (ho : LCg.NsObj oC m₂)
    (hl : ∀ x lv, ρ'.lookup x = some lv → (isLoc scope x = true ∧ ∃ v, m₂ x = some v ∧ LVR fro ca v lv) ∨ (restR scope ρ).lookup x = some lv) : EnvR (compEnvC scope cl C env) scope L m (ext' ++ fro) fro ca ρ' := by
  refine ⟨fun x lv e => ?_, hkind, R.gl, R.bl, fun x e => lookup_relabel (by decide) e, fun x e => absurd rfl (hcell _ (lookup_mem e))⟩
  rcases hl x lv e with ⟨h1, v, h2, h3⟩ | h
  · simp only [isLoc, Bool.and_eq_true, Bool.not_eq_true', decide_eq_true_eq] at h1
    exact ⟨v, ⟨h1.2, .inr (.inl ⟨lookup_relabel_local h1.1, oC, m₂, List.mem_append.mpr (.inl hC), ho, h2⟩)⟩, h3⟩
  · obtain ⟨a, b, hb, v, c, o, h2, h3, h4, h5⟩ := hc x lv h
    exact ⟨v, ⟨hb, .inr (.inr ⟨lookup_relabel_free R.kind a b, c, o, h2, sub _ h3, h4⟩)⟩, h5.mono sub⟩
end
section
variable {prog : Program} {w : World} {K : Frag} {p : Program} {loose : List Str} {mg mb : Str → Option Value} {rk : Nat}
  {A : Around} {env : Env} {h₀ : Heap} {L : Addr} {m : Str → Option Value} {ext fro : List (Addr × Obj)} {ca : List Addr} {led : List (Addr × Obj)} {s : Shared} {sc : Scope} {ρ : Rho} {σ : Sig}
theorem news_three {h : Heap} {a b c : Addr × Obj} {l e f : List (Addr × Obj)} (N : News h₀ L h (a :: b :: c :: (l ++ (e ++ f)))) : News h₀ L h (l ++ ((a :: b :: c :: e) ++ f)) := fun q hq => N q (by
  simp only [List.mem_append, List.mem_cons] at hq ⊢
  rcases hq with h | (h | h | h | h) | h
  · exact .inr (.inr (.inr (.inl h)))
  · exact .inl h
  · exact .inr (.inl h)
  · exact .inr (.inr (.inl h))
  · exact .inr (.inr (.inr (.inr (.inl h))))
  · exact .inr (.inr (.inr (.inr (.inr h)))))
theorem three_news {h : Heap} {a b c : Addr × Obj} {l e f : List (Addr × Obj)} (N : News h₀ L h (l ++ ((a :: b :: c :: e) ++ f))) : News h₀ L h (a :: b :: c :: (l ++ (e ++ f))) := fun q hq => N q (by
  simp only [List.mem_append, List.mem_cons] at hq ⊢
  rcases hq with h | h | h | h | h | h
  · exact .inr (.inl (.inl h))
  · exact .inr (.inl (.inr (.inl h)))
  · exact .inr (.inl (.inr (.inr (.inl h))))
  · exact .inl h
  · exact .inr (.inl (.inr (.inr (.inr h))))
  · exact .inr (.inr h))
theorem off_three {I C D : Addr} {oI oC oD : Obj} {fro' led' : List (Addr × Obj)} {σ' : Sig} (S : SP ((I, oI) :: (C, oC) :: (D, oD) :: ext) fro' ca σ' led') (off : ∀ q ∈ ext, q.1 ≠ I ∧ q.1 ≠ C ∧ q.1 ≠ D) : LCg.Off3 I C D (led' ++ (ext ++ fro')) := by
  refine LCg.Off3.of fun q hq => ?_
  rcases List.mem_append.mp hq with h | h
  · exact ⟨S.ap q h (I, oI) (List.mem_append.mpr (.inl (.head _))), S.ap q h (C, oC) (List.mem_append.mpr (.inl (.tail _ (.head _)))), S.ap q h (D, oD) (List.mem_append.mpr (.inl (.tail _ (.tail _ (.head _)))))⟩
  · rcases List.mem_append.mp h with h | h
    · exact off q h
    · exact ⟨fun e => S.ap2 _ (.head _) q h e.symm, fun e => S.ap2 _ (.tail _ (.head _)) q h e.symm, fun e => S.ap2 _ (.tail _ (.tail _ (.head _))) q h e.symm⟩
theorem SP.less3 {a b c : Addr × Obj} {fro' led' : List (Addr × Obj)} {σ' : Sig} (S : SP (a :: b :: c :: ext) fro' ca σ' led') : SP ext fro' ca σ' led' := SP.less (a := [a, b, c]) S
theorem rest_U {elt : Expr} {x : Str} {scope : Scope} {cl : List (Str × Addr)} {s₂ : Shared} {f : Dat → Sig → Option (List Dat × Sig)} {Sx : List (Addr × Obj) → Prop} {Pv : Nat → Value → Prop} {Fin : List Value → List (Addr × Obj) → Prop} {items : List Dat} {fro₀ : List (Addr × Obj)}
    (Hf : ∀ d σ r, f d σ = some r → ∃ v σ', r = ([v], σ') ∧ EOK prog w K p loose mg mb rk scope ((x, .d d) :: restR scope ρ) elt σ (.d v, σ')) (act : Act K p loose mg mb A h₀ L rk)
    (hEnv : ∀ {d : Dat} {v : Value} {fro ext' : List (Addr × Obj)} {C : Addr} {oC : Obj} {m₂ : Str → Option Value}, (∀ q ∈ fro₀, q ∈ fro) → (∀ q ∈ ext, q ∈ ext') → (C, oC) ∈ ext' → LCg.NsObj oC m₂ → m₂ x = some v → DatIn fro v d → EnvR (compEnvC scope cl C env) scope L m (ext' ++ fro) fro ca ((x, .d d) :: restR scope ρ))
    (hS : ∀ l, (∀ q ∈ fro₀, q ∈ l) → Sx l) (hP : ∀ i v, i < items.length → Pv i v → ∃ d, items[i]? = some d ∧ DatIn fro₀ v d) {rs₀ : List Dat} {σ' : Sig}
    (fin : ∀ ys fro' led', (∀ q ∈ fro₀, q ∈ fro') → SP ext fro' ca σ' led' → DatAll fro' ys rs₀ → Fin ys (led' ++ (ext ++ fro'))) :
    ∀ (k i : Nat) (ys : List Value) (acc : List Dat) (σ : Sig) (fro led : List (Addr × Obj)) (rs : List Dat), SP ext fro ca σ led → (∀ q ∈ fro₀, q ∈ fro) → i + k = items.length → DatAll fro ys acc → stateMap f (items.drop i) σ = some (rs, σ') → acc ++ rs = rs₀ →
      LCg.CompRest prog w A h₀ L m env elt x scope cl s₂ Sx Pv Fin k i ys (led ++ (ext ++ fro))
  | 0, i, ys, acc, σ, fro, led, rs, S, sub, hi, hd, hm, hr => by
    rw [List.drop_of_length_le (by omega)] at hm
    simp only [stateMap, Option.some.injEq, Prod.mk.injEq] at hm
    obtain ⟨rfl, rfl⟩ := hm
    rw [List.append_nil] at hr
    subst hr
    exact LCg.CompRest.zero (fin ys fro led sub S hd)
  | k + 1, i, ys, acc, σ, fro, led, rs, S, sub, hi, hd, hm, hr => by
    refine LCg.CompRest.succ fun v I oI C oC D m₂ h tk E' hPv hNs hx F N off ne => ?_
    obtain ⟨d, hdi, hdv⟩ := hP i v (by omega) hPv
    have hlt := (List.getElem?_eq_some_iff.mp hdi).1
    have hdrop : items.drop i = d :: items.drop (i + 1) := by
      rw [List.drop_eq_getElem_cons hlt]
      congr 1
      exact (List.getElem?_eq_some_iff.mp hdi).2
    rw [hdrop] at hm
    simp only [stateMap, Option.bind_eq_some_iff, Option.some.injEq, Prod.mk.injEq] at hm
    obtain ⟨r₁, h1, ⟨rs₂, σ₂⟩, h2, rfl, rfl⟩ := hm
    obtain ⟨y, σ₁, rfl, H⟩ := Hf _ _ _ h1
    have offm := off.mem
    have S' := S.three (a := (I, oI)) (b := (C, oC)) (c := (D, LCg.lst ys)) offm
    refine wpAny_mono (H act (S'.si F (news_three N)) (hEnv sub (fun q hq => .tail _ (.tail _ (.tail _ hq))) (.tail _ (.head _)) hNs hx (hdv.mono sub)) fun v' h' tk' fro' led' sub' S'' lv => ?_) (fun _ _ q => q) fun _ _ e => e.elim
    cases lv with
    | d hd' =>
      refine ⟨h', tk', led' ++ (ext ++ fro'), rfl, S''.F, three_news S''.N, off_three S''.sp fun q hq => offm q (List.mem_append.mpr (.inr (List.mem_append.mpr (.inl hq)))), hS _ fun q hq => List.mem_append.mpr (.inr (List.mem_append.mpr (.inr (sub' q (sub q hq))))), ?_⟩
      exact rest_U Hf act hEnv hS hP fin k (i + 1) (ys ++ [v']) (acc ++ [y]) σ₁ fro' led' rs₂ S''.sp.less3 (fun q hq => sub' q (sub q hq)) (by omega) ((hd.mono sub').append (.cons hd' .nil)) h2 (by rw [← hr]; simp)
theorem rest_T {ct elt : Expr} {x : Str} {scope : Scope} {cl : List (Str × Addr)} {s₂ : Shared} {f : Dat → Sig → Option (List Dat × Sig)} {Sx : List (Addr × Obj) → Prop} {Pv : Nat → Value → Prop} {Fin : List Value → List (Addr × Obj) → Prop} {items : List Dat} {fro₀ : List (Addr × Obj)}
    (Hf : ∀ d σ r, f d σ = some r → ∃ b σ', TOK prog w K p loose mg mb rk scope ((x, .d d) :: restR scope ρ) ct σ (b, σ') ∧ if b then ∃ v σ'', r = ([v], σ'') ∧ EOK prog w K p loose mg mb rk scope ((x, .d d) :: restR scope ρ) elt σ' (.d v, σ'') else r = ([], σ')) (act : Act K p loose mg mb A h₀ L rk)
    (hEnv : ∀ {d : Dat} {v : Value} {fro ext' : List (Addr × Obj)} {C : Addr} {oC : Obj} {m₂ : Str → Option Value}, (∀ q ∈ fro₀, q ∈ fro) → (∀ q ∈ ext, q ∈ ext') → (C, oC) ∈ ext' → LCg.NsObj oC m₂ → m₂ x = some v → DatIn fro v d → EnvR (compEnvC scope cl C env) scope L m (ext' ++ fro) fro ca ((x, .d d) :: restR scope ρ))
    (hS : ∀ l, (∀ q ∈ fro₀, q ∈ l) → Sx l) (hP : ∀ i v, i < items.length → Pv i v → ∃ d, items[i]? = some d ∧ DatIn fro₀ v d) {rs₀ : List Dat} {σ' : Sig}
    (fin : ∀ ys fro' led', (∀ q ∈ fro₀, q ∈ fro') → SP ext fro' ca σ' led' → DatAll fro' ys rs₀ → Fin ys (led' ++ (ext ++ fro'))) :
    ∀ (k i : Nat) (ys : List Value) (acc : List Dat) (σ : Sig) (fro led : List (Addr × Obj)) (rs : List Dat), SP ext fro ca σ led → (∀ q ∈ fro₀, q ∈ fro) → i + k = items.length → DatAll fro ys acc → stateMap f (items.drop i) σ = some (rs, σ') → acc ++ rs = rs₀ →
      LCt.CompRestT prog w A h₀ L m env ct elt x scope cl s₂ Sx Pv Fin k i ys (led ++ (ext ++ fro))
  | 0, i, ys, acc, σ, fro, led, rs, S, sub, hi, hd, hm, hr => by
    rw [List.drop_of_length_le (by omega)] at hm
    simp only [stateMap, Option.some.injEq, Prod.mk.injEq] at hm
    obtain ⟨rfl, rfl⟩ := hm
    rw [List.append_nil] at hr
    subst hr
    exact LCt.CompRestT.zero (fin ys fro led sub S hd)
  | k + 1, i, ys, acc, σ, fro, led, rs, S, sub, hi, hd, hm, hr => by
    refine LCt.CompRestT.succ fun v I oI C oC D m₂ h tk E' hPv hNs hx F N off ne => ?_
    obtain ⟨d, hdi, hdv⟩ := hP i v (by omega) hPv
    have hlt := (List.getElem?_eq_some_iff.mp hdi).1
    have hdrop : items.drop i = d :: items.drop (i + 1) := by
      rw [List.drop_eq_getElem_cons hlt]
      congr 1
      exact (List.getElem?_eq_some_iff.mp hdi).2
    rw [hdrop] at hm
    simp only [stateMap, Option.bind_eq_some_iff, Option.some.injEq, Prod.mk.injEq] at hm
    obtain ⟨⟨rr, σr⟩, h1, ⟨rs₂, σ₂⟩, h2, rfl, rfl⟩ := hm
    obtain ⟨b, σ₁, H, H'⟩ := Hf _ _ _ h1
    have offm := off.mem
    have offe : ∀ q ∈ ext, q.1 ≠ I ∧ q.1 ≠ C ∧ q.1 ≠ D := fun q hq => offm q (List.mem_append.mpr (.inr (List.mem_append.mpr (.inl hq))))
    have S' := S.three (a := (I, oI)) (b := (C, oC)) (c := (D, LCg.lst ys)) offm
    have R' := hEnv sub (fun q hq => List.mem_cons_of_mem (I, oI) (List.mem_cons_of_mem (C, oC) (List.mem_cons_of_mem (D, LCg.lst ys) hq))) (.tail _ (.head _)) hNs hx (hdv.mono sub)
    refine wpAny_mono (H act (S'.si F (news_three N)) R' (Q := fun ok s' => if ok = true then
        wpAny (model prog w) A (eval elt (compEnvC scope cl C env)) (LCg.CompEnd h₀ L m { s₂ with heap := h, toks := tk } I oI C oC D (LCg.lst ys) Sx (fun y news' => LCt.CompRestT prog w A h₀ L m env ct elt x scope cl s₂ Sx Pv Fin k (i + 1) (ys ++ [y]) news')) E' s'
        else LCg.CompEnd h₀ L m { s₂ with heap := h, toks := tk } I oI C oC D (LCg.lst ys) Sx (fun _ news' => LCt.CompRestT prog w A h₀ L m env ct elt x scope cl s₂ Sx Pv Fin k (i + 1) ys news') Value.none s') fun h' tk' fro' led' sub' S'' => ?_) (fun _ _ q => q) fun _ _ e => e.elim
    cases b with
    | false =>
      simp only [Bool.false_eq_true, if_false, Prod.mk.injEq] at H' ⊢
      obtain ⟨rfl, rfl⟩ := H'
      refine ⟨h', tk', led' ++ (ext ++ fro'), rfl, S''.F, three_news S''.N, off_three S''.sp offe, hS _ fun q hq => List.mem_append.mpr (.inr (List.mem_append.mpr (.inr (sub' q (sub q hq))))), ?_⟩
      exact rest_T Hf act hEnv hS hP fin k (i + 1) ys acc σr fro' led' rs₂ S''.sp.less3 (fun q hq => sub' q (sub q hq)) (by omega) (hd.mono sub') h2 (by rw [← hr]; simp)
    | true =>
      simp only [if_true] at H' ⊢
      obtain ⟨y, σ₃, he, H'⟩ := H'
      cases he
      refine wpAny_mono (H' act S'' (R'.mono sub') fun v' h'' tk'' fro'' led'' sub'' S3 lv => ?_) (fun _ _ q => q) fun _ _ e => e.elim
      cases lv with
      | d hd' =>
        refine ⟨h'', tk'', led'' ++ (ext ++ fro''), rfl, S3.F, three_news S3.N, off_three S3.sp offe, hS _ fun q hq => List.mem_append.mpr (.inr (List.mem_append.mpr (.inr (sub'' q (sub' q (sub q hq)))))), ?_⟩
        exact rest_T Hf act hEnv hS hP fin k (i + 1) (ys ++ [v']) (acc ++ [y]) σr fro'' led'' rs₂ S3.sp.less3 (fun q hq => sub'' q (sub' q (sub q hq))) (by omega) (((hd.mono sub').mono sub'').append (.cons hd' .nil)) h2 (by rw [← hr]; simp)
theorem rest_P {elt : Expr} {x x₂ : Str} {scope : Scope} {cl : List (Str × Addr)} {s₂ : Shared} {f : Dat → Sig → Option (List Dat × Sig)} {Sx : List (Addr × Obj) → Prop} {Pv : Nat → Value → Prop} {Fin : List Value → List (Addr × Obj) → Prop} {items : List Dat} {fro₀ : List (Addr × Obj)}
    (Hf : ∀ d σ r, f d σ = some r → ∃ d₁ d₂ v σ', d = .tuple [d₁, d₂] ∧ r = ([v], σ') ∧ EOK prog w K p loose mg mb rk scope ((x, .d d₁) :: (x₂, .d d₂) :: restR scope ρ) elt σ (.d v, σ')) (act : Act K p loose mg mb A h₀ L rk)
    (hEnv : ∀ {d₁ d₂ : Dat} {v₁ v₂ : Value} {fro ext' : List (Addr × Obj)} {C : Addr} {oC : Obj} {m₂ : Str → Option Value}, (∀ q ∈ fro₀, q ∈ fro) → (∀ q ∈ ext, q ∈ ext') → (C, oC) ∈ ext' → LCg.NsObj oC m₂ → m₂ x = some v₁ → m₂ x₂ = some v₂ → DatIn fro v₁ d₁ → DatIn fro v₂ d₂ → EnvR (compEnvC scope cl C env) scope L m (ext' ++ fro) fro ca ((x, .d d₁) :: (x₂, .d d₂) :: restR scope ρ))
    (hS : ∀ l, (∀ q ∈ fro₀, q ∈ l) → Sx l) (hP : ∀ i v, i < items.length → Pv i v → ∃ d, items[i]? = some d ∧ DatIn fro₀ v d) {rs₀ : List Dat} {σ' : Sig}
    (fin : ∀ ys fro' led', (∀ q ∈ fro₀, q ∈ fro') → SP ext fro' ca σ' led' → DatAll fro' ys rs₀ → Fin ys (led' ++ (ext ++ fro'))) :
    ∀ (k i : Nat) (ys : List Value) (acc : List Dat) (σ : Sig) (fro led : List (Addr × Obj)) (rs : List Dat), SP ext fro ca σ led → (∀ q ∈ fro₀, q ∈ fro) → i + k = items.length → DatAll fro ys acc → stateMap f (items.drop i) σ = some (rs, σ') → acc ++ rs = rs₀ →
      LCp.CompRestP prog w A h₀ L m env elt x x₂ scope cl s₂ Sx Pv Fin k i ys (led ++ (ext ++ fro))
  | 0, i, ys, acc, σ, fro, led, rs, S, sub, hi, hd, hm, hr => by
    rw [List.drop_of_length_le (by omega)] at hm
    simp only [stateMap, Option.some.injEq, Prod.mk.injEq] at hm
    obtain ⟨rfl, rfl⟩ := hm
    rw [List.append_nil] at hr
    subst hr
    exact LCp.CompRestP.zero (fin ys fro led sub S hd)
  | k + 1, i, ys, acc, σ, fro, led, rs, S, sub, hi, hd, hm, hr => by
    refine LCp.CompRestP.succ fun v hPv => ?_
    obtain ⟨d, hdi, hdv⟩ := hP i v (by omega) hPv
    have hlt := (List.getElem?_eq_some_iff.mp hdi).1
    have hdrop : items.drop i = d :: items.drop (i + 1) := by
      rw [List.drop_eq_getElem_cons hlt]
      congr 1
      exact (List.getElem?_eq_some_iff.mp hdi).2
    rw [hdrop] at hm
    simp only [stateMap, Option.bind_eq_some_iff, Option.some.injEq, Prod.mk.injEq] at hm
    obtain ⟨r₁, h1, ⟨rs₂, σ₂⟩, h2, rfl, rfl⟩ := hm
    obtain ⟨d₁, d₂, y, σ₁, rfl, rfl, H⟩ := Hf _ _ _ h1
    cases hdv with
    | @tuple t vs n _ hmem hall =>
      cases hall with
      | cons hd1 hr1 =>
        cases hr1 with
        | cons hd2 hr2 =>
          cases hr2
          refine ⟨t, _, _, _, n, rfl, List.mem_append.mpr (.inr (List.mem_append.mpr (.inr (sub _ hmem)))), rfl, rfl, fun I oI C oC D m₂ h tk E' hNs hx hx2 F N off ne => ?_⟩
          have offm := off.mem
          have S' := S.three (a := (I, oI)) (b := (C, oC)) (c := (D, LCg.lst ys)) offm
          refine wpAny_mono (H act (S'.si F (news_three N)) (hEnv sub (fun q hq => .tail _ (.tail _ (.tail _ hq))) (.tail _ (.head _)) hNs hx hx2 (hd1.mono sub) (hd2.mono sub)) fun v' h' tk' fro' led' sub' S'' lv => ?_) (fun _ _ q => q) fun _ _ e => e.elim
          cases lv with
          | d hd' =>
            refine ⟨h', tk', led' ++ (ext ++ fro'), rfl, S''.F, three_news S''.N, off_three S''.sp fun q hq => offm q (List.mem_append.mpr (.inr (List.mem_append.mpr (.inl hq)))), hS _ fun q hq => List.mem_append.mpr (.inr (List.mem_append.mpr (.inr (sub' q (sub q hq))))), ?_⟩
            exact rest_P Hf act hEnv hS hP fin k (i + 1) (ys ++ [v']) (acc ++ [y]) σ₁ fro' led' rs₂ S''.sp.less3 (fun q hq => sub' q (sub q hq)) (by omega) ((hd.mono sub').append (.cons hd' .nil)) h2 (by rw [← hr]; simp)
end
section
variable {prog : Program} {w : World} {K : Frag} {p : Program} {loose : List Str} {mg mb : Str → Option Value} {rk : Nat}
  {A : Around} {env : Env} {h₀ : Heap} {L : Addr} {m : Str → Option Value} {ext fro : List (Addr × Obj)} {ca : List Addr} {led : List (Addr × Obj)} {s : Shared} {sc : Scope} {ρ : Rho} {σ : Sig}
theorem DatAll.at' {news : List (Addr × Obj)} {vs : List Value} {ds : List Dat} (h : DatAll news vs ds) {k : Nat} {v : Value} (hk : vs[k]? = some v) : ∃ d, ds[k]? = some d ∧ DatIn news v d := by
  have hlt := (List.getElem?_eq_some_iff.mp hk).1
  rw [h.length] at hlt
  obtain ⟨v', h1, h2⟩ := h.get hlt
  rw [hk] at h1
  cases h1
  exact ⟨_, List.getElem?_eq_getElem hlt, h2⟩
/-- a name that holds a list that stands still -/
theorem name_list {R : Evs} (Sd : Sound prog w K p loose mg mb rk R) {y : Str} {yp : Pos} {ds : List Dat} {σ₁ : Sig} {Q : Value → Shared → Prop} (h : evItems R sc ρ (.Name y yp) σ = some (ds, σ₁))
    (act : Act K p loose mg mb A h₀ L rk) (S : SI h₀ L m ext fro ca σ led s.heap) (R' : EnvR env sc L m (ext ++ fro) fro ca ρ)
    (P : ∀ a vs n h' tk fro' led', (∀ q ∈ fro, q ∈ fro') → SI h₀ L m ext fro' ca σ₁ led' h' → (a, W.listOf vs.toArray n) ∈ fro' → DatAll fro' vs ds → ds.length ≤ 1000 → Q (.ref a) { s with heap := h', toks := tk }) : wpAny (model prog w) A (eval (.Name y yp) env) Q NoE s := by
  simp only [i_name, Option.bind_eq_some_iff] at h
  obtain ⟨⟨v, σ₂⟩, h1, h2⟩ := h
  refine Sd.e _ _ _ _ _ h1 act S R' fun v' h' tk fro' led' sub S' lv => ?_
  split at h2
  · rename_i es he
    split at h2
    · rename_i hl
      cases h2
      simp only at he
      subst he
      cases lv with
      | d hd => cases hd with | list hm hx => exact P _ _ _ h' tk fro' led' sub S' hm hx hl
    · cases h2
  · rename_i k he
    split at h2
    · rename_i M hq
      cases h2
      simp only at he
      subst he
      have hl : M.ds.length ≤ 1000 := by
        have := M.ok
        simp only [goodD, Bool.and_eq_true, decide_eq_true_eq] at this
        omega
      cases lv with
      | c hc =>
        have hd := S'.R.getMem hc hq
        cases hd with | list hm hx => exact P _ _ _ h' tk fro' led' sub S' hm hx hl
    · cases h2
  · cases h2
theorem evL_one {ev : Expr → Sig → Option (LV × Sig)} {a : Expr} {x : LV} {σ₁ : Sig} (h : ev a σ = some (x, σ₁)) : evL ev [a] σ = some ([x], σ₁) := by simp [evL, h]
/-- range(n) -/
theorem call_range {R : Evs} (Sd : Sound prog w K p loose mg mb rk R) (hB : BltOK K) {f : Str} {fp pos : Pos} {a : Expr} {ds : List Dat} {σ₁ : Sig} {Q : Value → Shared → Prop} (h : evItems R sc ρ (.Call (.Name f fp) [a] [] pos) σ = some (ds, σ₁))
    (act : Act K p loose mg mb A h₀ L rk) (S : SI h₀ L m ext fro ca σ led s.heap) (R' : EnvR env sc L m (ext ++ fro) fro ca ρ)
    (P : ∀ n r h' tk fro' led' t u v, (∀ q ∈ fro, q ∈ fro') → SI h₀ L m ext fro' ca σ₁ led' h' → ds = rangeD n → n ≤ 1000 → small n = true → IsRange h' r 0 n 1 t u v → Q (.ref r) { s with heap := h', toks := tk }) : wpAny (model prog w) A (eval (.Call (.Name f fp) [a] [] pos) env) Q NoE s := by
  rw [i_call] at h
  split at h
  · rename_i hg
    simp only [Bool.and_eq_true, decide_eq_true_eq] at hg
    obtain ⟨hg, rfl⟩ := hg
    simp only [Option.bind_eq_some_iff] at h
    obtain ⟨⟨v, σ₂⟩, h1, h2⟩ := h
    split at h2
    · rename_i n hn
      simp only at hn
      subst hn
      split at h2
      · rename_i hl
        simp only [Bool.and_eq_true, decide_eq_true_eq] at hl
        cases h2
        refine call_blt (fun e σ r => Sd.e sc ρ e σ r) (fun v q σ => Sd.star sc ρ v q σ) hB (by decide +kernel) blt_boot.2.2.2.2.2.2.1 (.inr ⟨_, rfl⟩) hg (evL_one h1) (by simp) act S R' fun vs h' tk fro' led' sub S' lv => ?_
        cases lv with
        | cons l1 lr =>
          cases lr
          cases l1 with
          | d hd =>
            cases hd
            exact range1_rows S'.F S'.N fun h'' tk' t₁ u₁ v₁ hr F N keep => P n _ h'' tk' fro' led' t₁ u₁ v₁ sub (S'.at F N) rfl hl.1 hl.2 hr
      · cases h2
    · cases h2
  · cases h
theorem rangeD_length (n : Int) : (rangeD n).length = n.toNat := by simp [rangeD]
theorem rangeD_at {n : Int} {i : Nat} (h : i < n.toNat) : (rangeD n)[i]? = some (.int (i : Int)) := by simp [rangeD, h]
theorem comp_U {R : Evs} (Sd : Sound prog w K p loose mg mb rk R) (hB : BltOK K) {iter elt : Expr} {x : Str} {scope : Scope} {cl : List (Str × Addr)} {items rs : List Dat} {σ₁ σ₂ : Sig} {f : Dat → Sig → Option (List Dat × Sig)} {Fin : Shared → List Value → List (Addr × Obj) → Prop}
    (hit : evItems R sc ρ iter σ = some (items, σ₁)) (hm : stateMap f items σ₁ = some (rs, σ₂))
    (Hf : ∀ d σ r, f d σ = some r → ∃ v σ', r = ([v], σ') ∧ EOK prog w K p loose mg mb rk scope ((x, .d d) :: restR scope ρ) elt σ (.d v, σ'))
    (act : Act K p loose mg mb A h₀ L rk) (S : SI h₀ L m ext fro ca σ led s.heap) (R' : EnvR env sc L m (ext ++ fro) fro ca ρ) (hkind : scope.kind = .function) (hcell : ∀ y ∈ scope.names, y.2 ≠ .cell) (hx : isLoc scope x = true)
    (hc : ∀ y lv, (restR scope ρ).lookup y = some lv → scope.names.lookup y = some .free ∧ env.kindOf y = some .cell ∧ (y == ("__debug__" : Str)) = false ∧ ∃ v c o, cl.lookup y = some c ∧ (c, o) ∈ fro ∧ o.data = .cell (some v) ∧ LVR fro ca v lv)
    (fin : ∀ g tk ys fro' led', (∀ q ∈ fro, q ∈ fro') → SP ext fro' ca σ₂ led' → DatAll fro' ys rs → Fin { s with heap := g, toks := tk } ys (led' ++ (ext ++ fro'))) :
    wpAny (model prog w) A (eval iter env) (LCg.CompSrc prog w A h₀ L m env elt x scope cl Fin) NoE s := by
  have envOf : ∀ {fro₀ : List (Addr × Obj)}, (∀ q ∈ fro, q ∈ fro₀) → ∀ {d : Dat} {v : Value} {fro' ext' : List (Addr × Obj)} {C : Addr} {oC : Obj} {m₂ : Str → Option Value}, (∀ q ∈ fro₀, q ∈ fro') → (∀ q ∈ ext, q ∈ ext') → (C, oC) ∈ ext' → LCg.NsObj oC m₂ → m₂ x = some v → DatIn fro' v d →
      EnvR (compEnvC scope cl C env) scope L m (ext' ++ fro') fro' ca ((x, .d d) :: restR scope ρ) := by
    intro fro₀ sub₀ d v fro' ext' C oC m₂ sub sube hC ho hxv hdv
    exact comp_R R' hkind hcell hc (fun q hq => sub q (sub₀ q hq)) sube hC ho fun y lv e => by
      rw [List.lookup_cons] at e
      split at e
      · rename_i q
        have := beq_iff_eq.mp q
        subst this
        cases e
        exact .inl ⟨hx, v, hxv, .d hdv⟩
      · exact .inr e
  cases iter with
  | Name y yp =>
    refine name_list Sd hit act S R' fun a vs n h' tk fro' led' sub S' hmem hall hlen => ?_
    have len := hall.length
    refine LCg.CompSrc.ledger (its := vs.toArray) (k := n) act.hh S'.F S'.N (S'.all _ hmem) (by rw [List.size_toArray]; have := sizeLine_big; omega) fun g => ?_
    rw [List.size_toArray]
    exact rest_U (fro₀ := fro') (items := items) Hf act (envOf sub) (fun l hl => .inr ⟨_, hl _ hmem, rfl, _, rfl⟩) (fun i v hi hv => DatAll.at' hall (by simpa using hv)) (fun ys fro'' led'' sub'' sp hd => fin g tk ys fro'' led'' (fun q hq => sub'' q (sub q hq)) sp hd) vs.length 0 [] [] σ₁ fro' led' rs S'.sp sub_refl (by omega) .nil (by simpa using hm) rfl
  | Call fn as ks pos =>
    have hshape : ∃ f' fp a, fn = .Name f' fp ∧ as = [a] ∧ ks = [] := by
      obtain ⟨v, _, _⟩ := Option.bind_eq_some_iff.mp hit
      cases v
      exact ⟨_, _, _, rfl, rfl, rfl⟩
    obtain ⟨f', fp, a, rfl, rfl, rfl⟩ := hshape
    refine call_range Sd hB hit act S R' fun n r h' tk fro' led' t u v sub S' hds hn hsm hr => ?_
    have hs := small_lt hsm
    refine LCg.CompSrc.range (n := n.toNat) act.hh S'.F S'.N hr (small_one (by omega) (by omega) (by omega) (by omega)) (by rw [rangeSize_nat]; simp) (by have := sizeLine_big; omega) fun g => ?_
    subst hds
    exact rest_U (fro₀ := fro') (items := rangeD n) Hf act (envOf sub) (fun l hl => trivial) (fun i v hi hv => by
      obtain ⟨t', rfl⟩ := hv
      rw [rangeD_length] at hi
      exact ⟨_, rangeD_at hi, by rw [Int.zero_add]; exact .int _ _⟩) (fun ys fro'' led'' sub'' sp hd => fin g tk ys fro'' led'' (fun q hq => sub'' q (sub q hq)) sp hd) n.toNat 0 [] [] σ₁ fro' led' rs S'.sp sub_refl (by rw [rangeD_length]; omega) .nil (by simpa using hm) rfl
  | _ => exact nomatch (show (none : Option (List Dat × Sig)) = some _ from hit)
theorem comp_T {R : Evs} (Sd : Sound prog w K p loose mg mb rk R) {ct elt : Expr} {x z : Str} {zp : Pos} {scope : Scope} {cl : List (Str × Addr)} {items rs : List Dat} {σ₁ σ₂ : Sig} {f : Dat → Sig → Option (List Dat × Sig)} {Fin : Shared → List Value → List (Addr × Obj) → Prop}
    (hit : evItems R sc ρ (.Name z zp) σ = some (items, σ₁)) (hm : stateMap f items σ₁ = some (rs, σ₂))
    (Hf : ∀ d σ r, f d σ = some r → ∃ b σ', TOK prog w K p loose mg mb rk scope ((x, .d d) :: restR scope ρ) ct σ (b, σ') ∧ if b then ∃ v σ'', r = ([v], σ'') ∧ EOK prog w K p loose mg mb rk scope ((x, .d d) :: restR scope ρ) elt σ' (.d v, σ'') else r = ([], σ'))
    (act : Act K p loose mg mb A h₀ L rk) (S : SI h₀ L m ext fro ca σ led s.heap) (R' : EnvR env sc L m (ext ++ fro) fro ca ρ) (hkind : scope.kind = .function) (hcell : ∀ y ∈ scope.names, y.2 ≠ .cell) (hx : isLoc scope x = true)
    (hc : ∀ y lv, (restR scope ρ).lookup y = some lv → scope.names.lookup y = some .free ∧ env.kindOf y = some .cell ∧ (y == ("__debug__" : Str)) = false ∧ ∃ v c o, cl.lookup y = some c ∧ (c, o) ∈ fro ∧ o.data = .cell (some v) ∧ LVR fro ca v lv)
    (fin : ∀ g tk ys fro' led', (∀ q ∈ fro, q ∈ fro') → SP ext fro' ca σ₂ led' → DatAll fro' ys rs → Fin { s with heap := g, toks := tk } ys (led' ++ (ext ++ fro'))) :
    wpAny (model prog w) A (eval (.Name z zp) env) (LCt.CompSrcT prog w A h₀ L m env ct elt x scope cl Fin) NoE s := by
  have envOf : ∀ {fro₀ : List (Addr × Obj)}, (∀ q ∈ fro, q ∈ fro₀) → ∀ {d : Dat} {v : Value} {fro' ext' : List (Addr × Obj)} {C : Addr} {oC : Obj} {m₂ : Str → Option Value}, (∀ q ∈ fro₀, q ∈ fro') → (∀ q ∈ ext, q ∈ ext') → (C, oC) ∈ ext' → LCg.NsObj oC m₂ → m₂ x = some v → DatIn fro' v d →
      EnvR (compEnvC scope cl C env) scope L m (ext' ++ fro') fro' ca ((x, .d d) :: restR scope ρ) := by
    intro fro₀ sub₀ d v fro' ext' C oC m₂ sub sube hC ho hxv hdv
    exact comp_R R' hkind hcell hc (fun q hq => sub q (sub₀ q hq)) sube hC ho fun y lv e => by
      rw [List.lookup_cons] at e
      split at e
      · rename_i q
        have := beq_iff_eq.mp q
        subst this
        cases e
        exact .inl ⟨hx, v, hxv, .d hdv⟩
      · exact .inr e
  refine name_list Sd hit act S R' fun a vs n h' tk fro' led' sub S' hmem hall hlen => ?_
  have len := hall.length
  refine LCt.CompSrcT.ledger (its := vs.toArray) (k := n) act.hh S'.F S'.N (S'.all _ hmem) (by rw [List.size_toArray]; have := sizeLine_big; omega) fun g => ?_
  rw [List.size_toArray]
  exact rest_T (fro₀ := fro') (items := items) Hf act (envOf sub) (fun l hl => .inr ⟨_, hl _ hmem, rfl, _, rfl⟩) (fun i v hi hv => DatAll.at' hall (by simpa using hv)) (fun ys fro'' led'' sub'' sp hd => fin g tk ys fro'' led'' (fun q hq => sub'' q (sub q hq)) sp hd) vs.length 0 [] [] σ₁ fro' led' rs S'.sp sub_refl (by omega) .nil (by simpa using hm) rfl
theorem comp_P {R : Evs} (Sd : Sound prog w K p loose mg mb rk R) {elt : Expr} {x x₂ z : Str} {zp : Pos} {scope : Scope} {cl : List (Str × Addr)} {items rs : List Dat} {σ₁ σ₂ : Sig} {f : Dat → Sig → Option (List Dat × Sig)} {Fin : Shared → List Value → List (Addr × Obj) → Prop}
    (hit : evItems R sc ρ (.Name z zp) σ = some (items, σ₁)) (hm : stateMap f items σ₁ = some (rs, σ₂))
    (Hf : ∀ d σ r, f d σ = some r → ∃ d₁ d₂ v σ', d = .tuple [d₁, d₂] ∧ r = ([v], σ') ∧ EOK prog w K p loose mg mb rk scope ((x, .d d₁) :: (x₂, .d d₂) :: restR scope ρ) elt σ (.d v, σ'))
    (act : Act K p loose mg mb A h₀ L rk) (S : SI h₀ L m ext fro ca σ led s.heap) (R' : EnvR env sc L m (ext ++ fro) fro ca ρ) (hkind : scope.kind = .function) (hcell : ∀ y ∈ scope.names, y.2 ≠ .cell) (hx : isLoc scope x = true) (hx₂ : isLoc scope x₂ = true)
    (hc : ∀ y lv, (restR scope ρ).lookup y = some lv → scope.names.lookup y = some .free ∧ env.kindOf y = some .cell ∧ (y == ("__debug__" : Str)) = false ∧ ∃ v c o, cl.lookup y = some c ∧ (c, o) ∈ fro ∧ o.data = .cell (some v) ∧ LVR fro ca v lv)
    (fin : ∀ g tk ys fro' led', (∀ q ∈ fro, q ∈ fro') → SP ext fro' ca σ₂ led' → DatAll fro' ys rs → Fin { s with heap := g, toks := tk } ys (led' ++ (ext ++ fro'))) :
    wpAny (model prog w) A (eval (.Name z zp) env) (LCp.SrcLP prog w A h₀ L m env elt x x₂ scope cl Fin) NoE s := by
  refine name_list Sd hit act S R' fun a vs n h' tk fro' led' sub S' hmem hall hlen => ?_
  have len := hall.length
  refine LCp.SrcLP.ledger (its := vs.toArray) (k := n) act.hh S'.F S'.N (S'.all _ hmem) (by rw [List.size_toArray]; have := sizeLine_big; omega) fun g => ?_
  rw [List.size_toArray]
  refine rest_P (fro₀ := fro') (items := items) Hf act (fun {d₁ d₂ v₁ v₂ fro'' ext' C oC m₂} sub' sube hC ho hxv hxv2 hd1 hd2 => ?_) (fun l hl => .inr ⟨_, hl _ hmem, rfl, _, rfl⟩) (fun i v hi hv => DatAll.at' hall (by simpa using hv)) (fun ys fro'' led'' sub'' sp hd => fin g tk ys fro'' led'' (fun q hq => sub'' q (sub q hq)) sp hd) vs.length 0 [] [] σ₁ fro' led' rs S'.sp sub_refl (by omega) .nil (by simpa using hm) rfl
  refine comp_R R' hkind hcell hc (fun q hq => sub' q (sub q hq)) sube hC ho fun y lv e => ?_
  rw [List.lookup_cons] at e
  split at e
  · rename_i q
    have := beq_iff_eq.mp q
    subst this
    cases e
    exact .inl ⟨hx, v₁, hxv, .d hd1⟩
  · rw [List.lookup_cons] at e
    split at e
    · rename_i q
      have := beq_iff_eq.mp q
      subst this
      cases e
      exact .inl ⟨hx₂, v₂, hxv2, .d hd2⟩
    · exact .inr e
end
section
variable {prog : Program} {w : World} {K : Frag} {p : Program} {loose : List Str} {mg mb : Str → Option Value} {rk : Nat}
  {A : Around} {env : Env} {h₀ : Heap} {L : Addr} {m : Str → Option Value} {ext fro : List (Addr × Obj)} {ca : List Addr} {led : List (Addr × Obj)} {s : Shared} {sc : Scope} {ρ : Rho} {σ : Sig}
theorem eok_of_fok {e : Expr} {r : List Dat × Sig} (H : FOK prog w K p loose mg mb rk sc ρ e σ r) : EOK prog w K p loose mg mb rk sc ρ e σ (.d (.list r.1), r.2) := by
  intro A env h₀ L m ext fro ca led s Q act S R P
  exact H act S R fun a vs n h' tk fro' led' sub S' hd hx => P _ h' tk _ led' (fun q hq => .tail _ (sub q hq)) (S'.toFro hx) (.d (.list (.head _) (hd.mono fun q hq => .tail _ hq)))
theorem fin_fok {Q : Value → Shared → Prop} {rs : List Dat} {σ₂ : Sig}
    (P : ∀ a vs n h' tk fro' led', (∀ q ∈ fro, q ∈ fro') → SI h₀ L m ((a, W.listOf vs.toArray n) :: ext) fro' ca σ₂ led' h' → DatAll fro' vs rs → (∀ q ∈ ext, q.1 ≠ a) → Q (.ref a) { s with heap := h', toks := tk }) :
    ∀ g tk ys fro' led', (∀ q ∈ fro, q ∈ fro') → SP ext fro' ca σ₂ led' → DatAll fro' ys rs → LCg.FinE h₀ L m { s with heap := g, toks := tk } Q ys (led' ++ (ext ++ fro')) := by
  intro g tk ys fro' led' sub sp hd D h tk' F N off
  have offm : ∀ q ∈ led' ++ (ext ++ fro'), q.1 ≠ D := by
    have : ∀ l : List (Addr × Obj), LCg.Off1 D l → ∀ q ∈ l, q.1 ≠ D := by
      intro l
      induction l with
      | nil => intro _ q hq; cases hq
      | cons a r ih =>
        intro h q hq
        rcases List.mem_cons.mp hq with e | e
        · rw [e]; exact h.1
        · exact ih h.2 q e
    exact this _ off
  refine P D ys ys.length h tk' fro' led' sub ⟨F, fun q hq => N q ?_, sp.R, sp.nd, fun q hq r hr => ?_, fun q hq r hr => ?_⟩ hd fun q hq => offm q (List.mem_append.mpr (.inr (List.mem_append.mpr (.inl hq))))
  · simp only [List.mem_append, List.mem_cons] at hq ⊢
    rcases hq with h | (h | h) | h
    · exact .inr (.inl h)
    · exact .inl h
    · exact .inr (.inr (.inl h))
    · exact .inr (.inr (.inr h))
  · simp only [List.cons_append, List.mem_cons] at hr
    rcases hr with e | e
    · rw [e]; exact offm q (List.mem_append.mpr (.inl hq))
    · exact sp.ap q hq r e
  · rcases List.mem_cons.mp hq with e | e
    · rw [e]; exact fun e' => offm r (List.mem_append.mpr (.inr (List.mem_append.mpr (.inr hr)))) e'.symm
    · exact sp.ap2 q e r hr
/-- what a turn of a comprehension gives -/
theorem turn_U {R : Evs} (Sd : Sound prog w K p loose mg mb rk R) {x : Str} {scope : Scope} {elt : Expr} : ∀ d σ r, (fun (d : Dat) (σ' : Sig) => (R.e scope ((x, LV.d d) :: restR scope ρ) elt σ').bind fun q => match q.1 with
        | .d v => some ([v], q.2)
        | .c _ => none) d σ = some r → ∃ v σ', r = ([v], σ') ∧ EOK prog w K p loose mg mb rk scope ((x, .d d) :: restR scope ρ) elt σ (.d v, σ') := by
  intro d σ r h
  simp only [Option.bind_eq_some_iff] at h
  obtain ⟨⟨v, σ'⟩, h1, h2⟩ := h
  cases v with
  | d v => simp only [Option.some.injEq] at h2; subst h2; exact ⟨v, σ', rfl, Sd.e _ _ _ _ _ h1⟩
  | c k => simp at h2
theorem turn_T {R : Evs} (Sd : Sound prog w K p loose mg mb rk R) {x : Str} {scope : Scope} {c elt : Expr} : ∀ d σ r, (fun (d : Dat) (σ' : Sig) => (R.t scope ((x, LV.d d) :: restR scope ρ) c σ').bind fun b =>
        if b.1 then (R.e scope ((x, .d d) :: restR scope ρ) elt b.2).bind fun q => match q.1 with
          | .d v => some ([v], q.2)
          | .c _ => none
        else some ([], b.2)) d σ = some r → ∃ b σ', TOK prog w K p loose mg mb rk scope ((x, .d d) :: restR scope ρ) c σ (b, σ') ∧ if b then ∃ v σ'', r = ([v], σ'') ∧ EOK prog w K p loose mg mb rk scope ((x, .d d) :: restR scope ρ) elt σ' (.d v, σ'') else r = ([], σ') := by
  intro d σ r h
  simp only [Option.bind_eq_some_iff] at h
  obtain ⟨⟨b, σ'⟩, h1, h2⟩ := h
  refine ⟨b, σ', Sd.t _ _ _ _ _ h1, ?_⟩
  cases b with
  | false => simp only [Bool.false_eq_true, if_false, Option.some.injEq] at h2 ⊢; exact h2.symm
  | true =>
    simp only [if_true, Option.bind_eq_some_iff] at h2 ⊢
    obtain ⟨⟨v, σ''⟩, h3, h4⟩ := h2
    cases v with
    | d v => simp only [Option.some.injEq] at h4; subst h4; exact ⟨v, σ'', rfl, Sd.e _ _ _ _ _ h3⟩
    | c k => simp at h4
theorem turn_P {R : Evs} (Sd : Sound prog w K p loose mg mb rk R) {x x₂ : Str} {scope : Scope} {elt : Expr} : ∀ d σ r, (fun (d : Dat) (σ' : Sig) => match d with
        | .tuple [d₁, d₂] => (R.e scope ((x, LV.d d₁) :: (x₂, LV.d d₂) :: restR scope ρ) elt σ').bind fun q => match q.1 with
          | .d v => some ([v], q.2)
          | .c _ => none
        | _ => none) d σ = some r → ∃ d₁ d₂ v σ', d = .tuple [d₁, d₂] ∧ r = ([v], σ') ∧ EOK prog w K p loose mg mb rk scope ((x, .d d₁) :: (x₂, .d d₂) :: restR scope ρ) elt σ (.d v, σ') := by
  intro d σ r h
  simp only at h
  split at h
  · rename_i d₁ d₂
    simp only [Option.bind_eq_some_iff] at h
    obtain ⟨⟨v, σ'⟩, h1, h2⟩ := h
    cases v with
    | d v => simp only [Option.some.injEq] at h2; subst h2; exact ⟨d₁, d₂, v, σ', rfl, rfl, Sd.e _ _ _ _ _ h1⟩
    | c k => simp at h2
  · cases h
theorem loc_lookup {scope : Scope} {x : Str} (h : isLoc scope x = true) : scope.names.lookup x = some .local := by
  simp only [isLoc, Bool.and_eq_true, decide_eq_true_eq] at h; exact h.1
theorem loc_debug {scope : Scope} {x : Str} (h : isLoc scope x = true) : (x == ("__debug__" : Str)) = false := by
  simp only [isLoc, Bool.and_eq_true, Bool.not_eq_true'] at h; exact h.2
theorem fok_ok {R : Evs} (Sd : Sound prog w K p loose mg mb rk R) (hB : BltOK K) {e : Expr} {r : List Dat × Sig} (h : stepF R sc ρ e σ = some r) : FOK prog w K p loose mg mb rk sc ρ e σ r := by
  intro A env h₀ L m ext fro ca led s Q act S R' P
  replace h := Option.bind_eq_some_iff.mp h
  obtain ⟨v, hv, h⟩ := h
  clear hv
  cases v
  all_goals (delta stepFV at h; dsimp only at h)
  · rename_i es pos
    simp only [Option.bind_eq_some_iff] at h
    obtain ⟨⟨xs, σ₁⟩, h1, h2⟩ := h
    split at h2
    · rename_i hl
      exact fok_list (fun e σ r => Sd.e sc ρ e σ r) (fun v q σ => Sd.star sc ρ v q σ) h1 hl h2 act S R' P
    · cases h2
  · rename_i f fp a pos
    split at h
    · rename_i hg
      simp only [Bool.and_eq_true, decide_eq_true_eq] at hg
      obtain ⟨hg, rfl⟩ := hg
      simp only [Option.bind_eq_some_iff] at h
      obtain ⟨⟨v, σ₁⟩, h1, h2⟩ := h
      split at h2
      · rename_i ds hds
        simp only at hds
        subst hds
        split at h2
        · rename_i hl
          cases h2
          refine call_blt (fun e σ r => Sd.e sc ρ e σ r) (fun v q σ => Sd.star sc ρ v q σ) hB (by decide +kernel) blt_boot.2.2.2.2.2.1 (.inr ⟨_, rfl⟩) hg (evL_one h1) (by simp) act S R' fun vs h' tk fro' led' sub S' lv => ?_
          cases lv with
          | cons l1 lr =>
            cases lr
            cases l1 with
            | d hd =>
              cases hd with
              | @list a vs n _ hm hall =>
                have len := hall.length
                exact kup_listOf S'.F S'.N (S'.all _ hm) (zs := vs) (by simp) (fun D c h'' F N hlt => P D vs c h'' tk fro' led' sub (S'.fresh F N hlt) hall fun q hq => Nat.ne_of_lt (hlt q (S'.inext q (List.mem_append.mpr (.inl hq))))) (by simp only [List.size_toArray]; have := sizeLine_big; omega)
        · cases h2
      · cases h2
    · cases h
  · rename_i elt x px iter a scope pos
    split at h
    · rename_i hc
      simp only [Bool.and_eq_true, decide_eq_true_eq] at hc
      obtain ⟨⟨⟨rfl, hkind⟩, hfree⟩, hloc⟩ := hc
      simp only [Option.bind_eq_some_iff] at h
      obtain ⟨⟨items, σ₁⟩, h1, h2⟩ := h
      obtain ⟨cl, hcl, hcell, hnames, hcv⟩ := comp_env R' hfree
      exact LCg.ListComp_U S.F hcl hcell hkind hnames (loc_lookup hloc) (comp_U Sd hB h1 h2 (turn_U Sd) act S R' hkind hcell hloc hcv (fin_fok P)) (fun y => by
        cases iter <;> first | rfl | exact nomatch (show (none : Option (List Dat × Sig)) = some _ from h1))
    · cases h
  · rename_i elt x px y yp c a scope pos
    split at h
    · rename_i hc
      simp only [Bool.and_eq_true, decide_eq_true_eq] at hc
      obtain ⟨⟨⟨rfl, hkind⟩, hfree⟩, hloc⟩ := hc
      simp only [Option.bind_eq_some_iff] at h
      obtain ⟨⟨items, σ₁⟩, h1, h2⟩ := h
      obtain ⟨cl, hcl, hcell, hnames, hcv⟩ := comp_env R' hfree
      exact LCt.ListComp_T S.F hcl hcell hkind hnames (loc_lookup hloc) (comp_T Sd h1 h2 (turn_T Sd) act S R' hkind hcell hloc hcv (fin_fok P)) (fun y => rfl)
    · cases h
  · rename_i elt x px x₂ px₂ tk tp y yp a scope pos
    split at h
    · rename_i hc
      simp only [Bool.and_eq_true, decide_eq_true_eq] at hc
      obtain ⟨⟨⟨⟨⟨rfl, hkind⟩, hfree⟩, hloc⟩, hloc2⟩, hne⟩ := hc
      simp only [Option.bind_eq_some_iff] at h
      obtain ⟨⟨items, σ₁⟩, h1, h2⟩ := h
      obtain ⟨cl, hcl, hcell, hnames, hcv⟩ := comp_env R' hfree
      exact LCp.ListComp_P S.F hcl hcell hkind hnames (loc_lookup hloc) (loc_lookup hloc2) hne (comp_P Sd h1 h2 (turn_P Sd) act S R' hkind hcell hloc hloc2 hcv (fin_fok P)) (fun y => rfl)
    · cases h
/-- a method's call with one argument -/
theorem meth1 {o a : Expr} {name : Str} {apos pos : Pos} {Q : Value → Shared → Prop} (ho : attributeBase o name env (eval o env) = eval o env) (ha : starEach [a] env = [(false, eval a env)]) (hl : apos.endLine = pos.line)
    (h : wpAny (model prog w) A (eval o env) (fun ov s₁ => wpAny (model prog w) A (getMethod ov name (do return (← importBound o env).getD true)) (fun fx s₂ => wpAny (model prog w) A (callWith pos fx.1 fx.2 (backTo pos (starEach [a] env)) []) Q NoE s₂) NoE s₁) NoE s) :
    wpAny (model prog w) A (eval (.Call (.Attribute o name apos) [a] [] pos) env) Q NoE s := by
  have e : eval (.Call (.Attribute o name apos) [a] [] pos) env = (do
    let ov ← attributeBase o name env (eval o env)
    standAt apos.atName
    methodCall o name apos pos env ov 1 (backTo pos (starEach [a] env)) []) := rfl
  rw [e, ho]
  refine wpAny_bind (wpAny_mono h (fun ov s₁ h₁ => wpAny_bind (wpAny_standAt ?_)) fun _ _ x => x)
  have f1 : methodCallForm 1 (backTo pos (starEach [a] env)) [] = true := by rw [ha]; rfl
  unfold methodCall
  rw [f1]
  refine wpAny_bind (wpAny_holding ?_)
  unfold calleeOf
  simp only [if_true]
  refine wpAny_mono h₁ (fun fx s₂ h₂ => ?_) fun _ _ x => x
  unfold methodCallPos
  have f2 : (!true || apos.endLine == pos.line) = true := by simp [hl]
  rw [f2]
  simp only [if_true]
  exact wpAny_bind (wpAny_pure h₂)
theorem strs_ok {all : List (Addr × Obj)} {vs : List Value} : ∀ {ds : List Dat} {ys : List Str}, DatAll all vs ds → strsD ds = some ys → StrsAre vs ys := by
  induction vs with
  | nil => intro ds ys hd h; cases hd; simp only [strsD, Option.some.injEq] at h; subst h; exact .nil
  | cons v vs ih =>
    intro ds ys hd h
    cases hd with
    | @cons _ _ d ds hv hr =>
      cases d <;> simp only [strsD, reduceCtorEq, Option.map_eq_some_iff] at h
      obtain ⟨ys, h1, rfl⟩ := h
      cases hv
      exact .cons _ _ (ih hr h1)
theorem ints_ok {all : List (Addr × Obj)} {vs : List Value} : ∀ {ds : List Dat} {ys : List Int}, DatAll all vs ds → intsD ds = some ys → kf_ints vs = true ∧ vs.length = ys.length ∧ ∀ k, kf_at k vs = findI k ys := by
  induction vs with
  | nil => intro ds ys hd h; cases hd; simp only [intsD, Option.some.injEq] at h; subst h; exact ⟨rfl, rfl, fun _ => rfl⟩
  | cons v vs ih =>
    intro ds ys hd h
    cases hd with
    | @cons _ _ d ds hv hr =>
      cases d <;> simp only [intsD, reduceCtorEq, Option.map_eq_some_iff] at h
      rename_i x
      obtain ⟨ys, h1, rfl⟩ := h
      cases hv
      obtain ⟨a, b, c⟩ := ih hr h1
      refine ⟨by simpa [kf_ints] using a, by simp [b], fun k => ?_⟩
      simp only [kf_at, findI, isInt, c k]
      by_cases hx : x = k
      · simp [hx]
      · have : (x == k) = false := by simpa using hx
        simp only [this, cond_false, hx, if_false]
        cases findI k ys <;> rfl
theorem star_one {R : Evs} (Sd : Sound prog w K p loose mg mb rk R) {a : Expr} {σ : Sig} {r : LV × Sig} (h : R.e sc ρ a σ = some r) : starEach [a] env = [(false, eval a env)] := by
  refine starEach_plain fun v q he => ?_
  subst he
  rw [Sd.star] at h; cases h
set_option maxRecDepth 100000 in
theorem eok_join {R : Evs} (Sd : Sound prog w K p loose mg mb rk R) {x₀ x : Str} {ck : Nat} {cp apos pos : Pos} {a : Expr} {ds : List Dat} {ys : List Str} {σ₁ σ₂ : Sig} (h1 : R.e sc ρ (.Constant (.str x₀) ck cp) σ = some (.d (.str x), σ₁)) (h2 : R.e sc ρ a σ₁ = some (.d (.list ds), σ₂))
    (hy : strsD ds = some ys) (hz : x.length ≤ 16 ∧ (ys.map (·.length)).sum + ys.length ≤ 1048576) (hl : apos.endLine = pos.line) : EOK prog w K p loose mg mb rk sc ρ (.Call (.Attribute (.Constant (.str x₀) ck cp) "join" apos) [a] [] pos) σ (.d (.str (Txt.join x ys)), σ₂) := by
  intro A env h₀ L m ext fro ca led s Q act S R' P
  refine meth1 rfl (star_one Sd h2) hl (Sd.e _ _ _ _ _ h1 act S R' fun v h' tk fro' led' sub S' lv => ?_)
  cases lv with
  | d hd =>
    cases hd
    refine GM.join ?_
    refine PyProof.Rows.callWith_method1 ?_ (star_one Sd h2) rfl
    refine items_ok (fun e σ r => Sd.e sc ρ e σ r) (fun v q σ => Sd.star sc ρ v q σ) (evL_one h2) act S' (R'.mono sub) fun vs h'' tk' fro'' led'' sub' S'' lv => ?_
    cases lv with
    | cons l1 lr =>
      cases lr
      cases l1 with
      | d hd =>
        cases hd with
        | list hm hall =>
          exact join_listW (S''.N.isList (S''.all _ hm)) (by simpa using strs_ok hall hy) hz.1 hz.2 fun t' k => P _ h'' k fro'' led'' (fun q hq => sub' q (sub q hq)) S'' (.d (.str _ _))
theorem eok_index {R : Evs} (Sd : Sound prog w K p loose mg mb rk R) {y : Str} {yp apos pos : Pos} {a : Expr} {ds : List Dat} {ns : List Int} {k : Int} {i : Nat} {σ₁ σ₂ : Sig} (h1 : R.e sc ρ (.Name y yp) σ = some (.d (.list ds), σ₁)) (h2 : R.e sc ρ a σ₁ = some (.d (.int k), σ₂))
    (hy : intsD ds = some ns) (hz : ns.length ≤ 1000) (hi : findI k ns = some i) (hl : apos.endLine = pos.line) : EOK prog w K p loose mg mb rk sc ρ (.Call (.Attribute (.Name y yp) "index" apos) [a] [] pos) σ (.d (.int (Int.ofNat i)), σ₂) := by
  intro A env h₀ L m ext fro ca led s Q act S R' P
  refine meth1 rfl (star_one Sd h2) hl (Sd.e _ _ _ _ _ h1 act S R' fun v h' tk fro' led' sub S' lv => ?_)
  cases lv with
  | d hd =>
    cases hd with
    | @list la vs n _ hm hall =>
      refine kf_method S'.N (S'.all _ hm) PySem.F.slot_list_index PySem.F.type_list_index ?_
      refine PyProof.Rows.callWith_method1 ?_ (star_one Sd h2) rfl
      refine items_ok (fun e σ r => Sd.e sc ρ e σ r) (fun v q σ => Sd.star sc ρ v q σ) (evL_one h2) act S' (R'.mono sub) fun vs' h'' tk' fro'' led'' sub' S'' lv => ?_
      cases lv with
      | cons l1 lr =>
        cases lr
        cases l1 with
        | d hd =>
          cases hd
          obtain ⟨a1, a2, a3⟩ := ints_ok hall hy
          exact kf_index S''.N (S''.all _ (sub' _ hm)) (by simpa using a1) (j := i) (by simpa [a3] using hi) rfl (by simp only [List.size_toArray]; have := sizeLine_big; simp only [a2]; omega) (P _ h'' _ fro'' led'' (fun q hq => sub' q (sub q hq)) S'' (.d (.int _ _)))
end
section
variable {prog : Program} {w : World} {K : Frag} {p : Program} {loose : List Str} {mg mb : Str → Option Value} {rk : Nat}
  {A : Around} {env : Env} {h₀ : Heap} {L : Addr} {m : Str → Option Value} {ext fro : List (Addr × Obj)} {ca : List Addr} {led : List (Addr × Obj)} {s : Shared} {sc : Scope} {ρ : Rho} {σ : Sig}
theorem cmp_split {R : Evs} (Sd : Sound prog w K p loose mg mb rk R) {l : Expr} {ops : List CmpOp} {rs : List Expr} {pos : Pos} {r : Bool × Sig} (h : evCmp R sc ρ l ops rs σ = some r) :
    EOK prog w K p loose mg mb rk sc ρ (.Compare l ops rs pos) σ (.d (.bool r.1), r.2) ∧ TOK prog w K p loose mg mb rk sc ρ (.Compare l ops rs pos) σ r := by
  unfold evCmp at h
  split at h
  · rename_i op r'
    split at h
    · cases h
    · rename_i hm
      simp only [Option.bind_eq_some_iff, Option.map_eq_some_iff] at h
      obtain ⟨p₁, h1, p₂, h2, x, hx, y, hy, b, hb, rfl⟩ := h
      have hm' : behindInMarks op r' = false := by simpa using hm
      exact ⟨eok_cmp1 hm' (Sd.e _ _ _ _ _ h1) (Sd.e _ _ _ _ _ h2) hx hy hb, tok_cmp1 hm' (Sd.e _ _ _ _ _ h1) (Sd.e _ _ _ _ _ h2) hx hy hb⟩
  · rename_i op₁ op₂ r₁ r₂
    split at h
    · cases h
    · rename_i hm
      simp only [Option.bind_eq_some_iff] at h
      obtain ⟨p₁, h1, p₂, h2, x, hx, y, hy, b, hb, h3⟩ := h
      have hm' : behindInMarks op₂ r₂ = false := by simpa using hm
      have hr : if b then ∃ p₃ y' z c', EOK prog w K p loose mg mb rk sc ρ r₂ p₂.2 p₃ ∧ valL p₃.2 p₂.1 = some y' ∧ valL p₃.2 p₃.1 = some z ∧ cmpD op₂ y' z = some c' ∧ r = (c', p₃.2) else r = (false, p₂.2) := by
        cases b with
        | false => simp only [Bool.false_eq_true, if_false, Option.some.injEq] at h3 ⊢; exact h3.symm
        | true =>
          simp only [if_true, Option.bind_eq_some_iff, Option.map_eq_some_iff] at h3 ⊢
          obtain ⟨p₃, h3, y', hy', z, hz, c', hc', rfl⟩ := h3
          exact ⟨p₃, y', z, c', Sd.e _ _ _ _ _ h3, hy', hz, hc', rfl⟩
      exact ⟨eok_cmp2 hm' (Sd.e _ _ _ _ _ h1) (Sd.e _ _ _ _ _ h2) hx hy hb hr, tok_cmp2 hm' (Sd.e _ _ _ _ _ h1) (Sd.e _ _ _ _ _ h2) hx hy hb hr⟩
  · cases h
theorem bool_value {ev : Expr → Sig → Option (LV × Sig)} {e : Expr} {r : Bool × Sig} (h : evBool ev e σ = some r) : ev e σ = some (.d (.bool r.1), r.2) := by
  simp only [evBool, Option.bind_eq_some_iff] at h
  obtain ⟨⟨v, σ'⟩, h1, h2⟩ := h
  split at h2
  · rename_i b hb
    cases h2
    simp only at hb
    subst hb
    exact h1
  · cases h2
theorem stepT_ok {R : Evs} (Sd : Sound prog w K p loose mg mb rk R) {e : Expr} {r : Bool × Sig} (h : stepT R sc ρ e σ = some r) : TOK prog w K p loose mg mb rk sc ρ e σ r := by
  intro A env h₀ L m ext fro ca led s Q
  replace h := Option.bind_eq_some_iff.mp h
  obtain ⟨v, hv, h⟩ := h
  clear hv
  cases v
  all_goals (delta stepTV at h; dsimp only at h)
  · simp only [Option.map_eq_some_iff] at h
    obtain ⟨⟨b, σ'⟩, h1, rfl⟩ := h
    exact tok_not (Sd.t _ _ _ _ _ h1)
  · exact tok_bo (fun e σ r => Sd.t sc ρ e σ r) h
  · exact (cmp_split Sd h).2
  · exact tok_value (Sd.e _ _ _ _ _ (bool_value h)) (fun _ => rfl)
  · exact tok_value (Sd.e _ _ _ _ _ (bool_value h)) (fun _ => rfl)
theorem stepE_ok {G : Ctr} {R : Evs} (Sd : Sound prog w K p loose mg mb rk R) (hG : GOK prog w K p loose mg mb rk G) (hB : BltOK K) {e : Expr} {r : LV × Sig} (h : stepE G R sc ρ e σ = some r) : EOK prog w K p loose mg mb rk sc ρ e σ r := by
  intro A env h₀ L m ext fro ca led s Q
  replace h := Option.bind_eq_some_iff.mp h
  obtain ⟨v, hv, h⟩ := h
  clear hv
  cases v
  all_goals (delta stepEV at h; dsimp only at h)
  · cases h; exact eok_int
  · cases h; exact eok_str
  · cases h; exact eok_none
  · cases h; exact eok_bool
  · simp only [Option.map_eq_some_iff] at h
    obtain ⟨v, h1, rfl⟩ := h
    exact eok_name h1
  · simp only [Option.bind_eq_some_iff, Option.map_eq_some_iff] at h
    obtain ⟨p₁, h1, p₂, h2, x, hx, y, hy, z, hz, rfl⟩ := h
    exact eok_bin (Sd.e _ _ _ _ _ h1) (Sd.e _ _ _ _ _ h2) hx hy hz
  · simp only [Option.bind_eq_some_iff] at h
    obtain ⟨⟨v, σ'⟩, h1, h2⟩ := h
    split at h2
    · rename_i i hi
      cases h2
      simp only at hi
      subst hi
      exact eok_usub (Sd.e _ _ _ _ _ h1)
    · cases h2
  · simp only [Option.bind_eq_some_iff] at h
    obtain ⟨⟨v, σ'⟩, h1, h2⟩ := h
    split at h2
    · rename_i i hi
      cases h2
      simp only at hi
      subst hi
      exact eok_not (Sd.e _ _ _ _ _ h1)
    · cases h2
  · simp only [Option.bind_eq_some_iff] at h
    obtain ⟨⟨c, σ'⟩, h1, h2⟩ := h
    refine eok_ifexp (Sd.t _ _ _ _ _ h1) ?_
    cases c with
    | false => simp only [Bool.false_eq_true, if_false] at h2 ⊢; exact Sd.e _ _ _ _ _ h2
    | true => simp only [if_true] at h2 ⊢; exact Sd.e _ _ _ _ _ h2
  · simp only [Option.map_eq_some_iff] at h
    obtain ⟨q, h1, rfl⟩ := h
    exact eok_bo (fun e σ r => Sd.e sc ρ e σ r) h1
  · simp only [Option.map_eq_some_iff] at h
    obtain ⟨q, h1, rfl⟩ := h
    exact (cmp_split Sd h1).1
  · simp only [Option.bind_eq_some_iff] at h
    obtain ⟨⟨xs, σ₁⟩, h1, h2⟩ := h
    split at h2
    · rename_i hl
      simp only [Option.map_eq_some_iff] at h2
      obtain ⟨q, h3, rfl⟩ := h2
      exact eok_tuple (fun e σ r => Sd.e sc ρ e σ r) (fun v q σ => Sd.star sc ρ v q σ) h1 hl h3
    · cases h2
  · simp only [Option.bind_eq_some_iff] at h
    obtain ⟨p₁, h1, a, ha, b, hb, c, hc, x, hx, h2⟩ := h
    split at h2
    · rename_i hst
      simp only [Option.map_eq_some_iff] at h2
      obtain ⟨ds, hz, rfl⟩ := h2
      exact eok_slice (fun e σ r => Sd.e sc ρ e σ r) h1 ha hb hc hx hst hz
    · cases h2
  · rename_i v i pos hns
    simp only [Option.bind_eq_some_iff, Option.map_eq_some_iff] at h
    obtain ⟨p₁, h1, p₂, h2, x, hx, y, hy, z, hz, rfl⟩ := h
    exact eok_sub (fun a b c d he => not_slice hns a b c d he) (Sd.e _ _ _ _ _ h1) (Sd.e _ _ _ _ _ h2) hx hy hz
  · split at h
    · rename_i hn
      simp only [Bool.and_eq_true, decide_eq_true_eq] at hn
      obtain ⟨hl, rfl⟩ := hn
      simp only [Option.bind_eq_some_iff] at h
      obtain ⟨⟨v₁, σ₁⟩, h1, ⟨v₂, σ₂⟩, h2, h3⟩ := h
      split at h3
      · rename_i x' ds e1 e2
        simp only at e1 e2
        subst e1 e2
        simp only [Option.bind_eq_some_iff] at h3
        obtain ⟨ys, hy, h4⟩ := h3
        split at h4
        · rename_i hz
          cases h4
          exact eok_join Sd h1 h2 hy hz hl
        · cases h4
      · cases h3
    · cases h
  · split at h
    · rename_i hn
      simp only [Bool.and_eq_true, decide_eq_true_eq] at hn
      obtain ⟨hl, rfl⟩ := hn
      simp only [Option.bind_eq_some_iff] at h
      obtain ⟨⟨v₁, σ₁⟩, h1, ⟨v₂, σ₂⟩, h2, h3⟩ := h
      split at h3
      · rename_i ds k e1 e2
        simp only at e1 e2
        subst e1 e2
        simp only [Option.bind_eq_some_iff] at h3
        obtain ⟨ns, hy, h4⟩ := h3
        split at h4
        · rename_i hz
          simp only [Option.map_eq_some_iff] at h4
          obtain ⟨i, hi, rfl⟩ := h4
          exact eok_index Sd h1 h2 hy hz hi hl
        · cases h4
      · cases h3
    · cases h
  · rename_i f fp args pos
    split at h
    · rename_i hg
      split at h
      · rename_i hb
        simp only [Option.bind_eq_some_iff] at h
        obtain ⟨⟨xs, σ₁⟩, h1, ds, h2, h3⟩ := h
        split at h3
        · rename_i hn
          simp only [decide_eq_true_eq] at hn
          simp only [Option.map_eq_some_iff] at h3
          obtain ⟨z, hz, rfl⟩ := h3
          exact eok_blt (fun e σ r => Sd.e sc ρ e σ r) (fun v q σ => Sd.star sc ρ v q σ) hB hb hg h1 hn h2 hz
        · cases h3
      · split at h
        · simp only [Option.map_eq_some_iff] at h
          obtain ⟨q, h1, rfl⟩ := h
          exact eok_of_fok (fok_ok Sd hB h1)
        · split at h
          · rename_i hd
            simp only [Option.bind_eq_some_iff, Option.map_eq_some_iff] at h
            obtain ⟨⟨xs, σ₁⟩, h1, q, h2, rfl⟩ := h
            exact eok_call (fun e σ r => Sd.e sc ρ e σ r) (fun v q σ => Sd.star sc ρ v q σ) hg (by simpa [notDebug] using hd) h1 (hG _ _ _ _ h2)
          · cases h
    · cases h
  · simp only [Option.map_eq_some_iff] at h
    obtain ⟨q, h1, rfl⟩ := h
    exact eok_of_fok (fok_ok Sd hB h1)
  · simp only [Option.map_eq_some_iff] at h
    obtain ⟨q, h1, rfl⟩ := h
    exact eok_of_fok (fok_ok Sd hB h1)
theorem evAll_ok {G : Ctr} (hG : GOK prog w K p loose mg mb rk G) (hB : BltOK K) : ∀ n, Sound prog w K p loose mg mb rk (evAll G n)
  | 0 => ⟨fun _ _ _ _ _ h => (nomatch h), fun _ _ _ _ _ h => (nomatch h), fun _ _ _ _ _ => rfl⟩
  | n + 1 => ⟨fun sc ρ e σ r h => stepE_ok (evAll_ok hG hB n) hG hB h, fun sc ρ e σ r h => stepT_ok (evAll_ok hG hB n) h, fun _ _ _ _ _ => rfl⟩
end
/-- the names in a def's own block -/
structure EnvF (env : Env) (sc : Scope) (L : Addr) (m : Str → Option Value) (kn fro : List (Addr × Obj)) (ca : List Addr) (ρ : Rho) : Prop where
  R : EnvR env sc L m kn fro ca ρ
  L : env.locals = L
  sc : env.scope = sc
section
variable {prog : Program} {w : World} {K : Frag} {p : Program} {loose : List Str} {mg mb : Str → Option Value} {rk : Nat}
  {A : Around} {env : Env} {h₀ : Heap} {L : Addr} {m : Str → Option Value} {ext fro : List (Addr × Obj)} {ca : List Addr} {led : List (Addr × Obj)} {s : Shared} {sc : Scope} {ρ : Rho} {σ : Sig}
theorem EnvF.mono {fro' : List (Addr × Obj)} (h : EnvF env sc L m (ext ++ fro) fro ca ρ) (hs : ∀ q ∈ fro, q ∈ fro') : EnvF env sc L m (ext ++ fro') fro' ca ρ := ⟨h.R.mono hs, h.L, h.sc⟩
theorem EnvF.grow {more : List Addr} {kn : List (Addr × Obj)} (h : EnvF env sc L m kn fro ca ρ) : EnvF env sc L m kn fro (ca ++ more) ρ :=
  ⟨⟨fun x lv e => let ⟨v, a, b⟩ := h.R.look x lv e; ⟨v, a, b.grow⟩, h.R.kind, h.R.gl, h.R.bl, h.R.glob, h.R.cell⟩, h.L, h.sc⟩
theorem setR_lookup (ρ : Rho) (x : Str) (v : LV) (y : Str) : (setR ρ x v).lookup y = if y = x then some v else ρ.lookup y := by
  induction ρ with
  | nil =>
    simp only [setR, List.lookup_cons, List.lookup_nil]
    by_cases h : y = x
    · subst h; simp
    · have : (y == x) = false := by simpa using h
      simp [this, h]
  | cons q r ih =>
    obtain ⟨a, b⟩ := q
    simp only [setR]
    by_cases ha : a = x
    · subst ha
      simp only [if_true, List.lookup_cons]
      by_cases h : y = a
      · subst h; simp
      · have : (y == a) = false := by simpa using h
        simp [this, h]
    · simp only [ha, if_false, List.lookup_cons, ih]
      by_cases h : y = a
      · subst h
        simp [ha]
      · have : (y == a) = false := by simpa using h
        simp [this]
theorem EnvF.put {kn : List (Addr × Obj)} {x : Str} {v : Value} {lv : LV} (h : EnvF env sc L m kn fro ca ρ) (hx : isLoc sc x = true) (hv : LVR fro ca v lv) : EnvF env sc L (fun y => if y = x then some v else m y) kn fro ca (setR ρ x lv) := by
  have hk : env.kindOf x = some .local := by
    show env.scope.names.lookup x = _
    rw [h.sc]; exact loc_lookup hx
  refine ⟨⟨fun y lv' e => ?_, h.R.kind, h.R.gl, h.R.bl, h.R.glob, h.R.cell⟩, h.L, h.sc⟩
  rw [setR_lookup] at e
  by_cases hy : y = x
  · subst hy
    simp only [if_true, Option.some.injEq] at e
    subst e
    exact ⟨v, ⟨loc_debug hx, .inl ⟨hk, h.L, by simp⟩⟩, hv⟩
  · simp only [hy, if_false] at e
    obtain ⟨u, ⟨hb, hn⟩, hl⟩ := h.R.look y lv' e
    refine ⟨u, ⟨hb, ?_⟩, hl⟩
    rcases hn with ⟨h1, h2, h3⟩ | h1 | h1
    · exact .inl ⟨h1, h2, by simpa [hy] using h3⟩
    · exact .inr (.inl h1)
    · exact .inr (.inr h1)
theorem store_ok {x : Str} {v : Value} {Q : Unit → Shared → Prop} (S : SI h₀ L m ext fro ca σ led s.heap) (R : EnvF env sc L m (ext ++ fro) fro ca ρ) (hx : isLoc sc x = true)
    (P : ∀ h' tk, SI h₀ L (fun y => if y = x then some v else m y) ext fro ca σ led h' → Q () { s with heap := h', toks := tk }) : wpAny (model prog w) A (storeName env x v) Q NoE s := by
  have hk : env.kindOf x = some .local := by
    show env.scope.names.lookup x = _
    rw [R.sc]; exact loc_lookup hx
  have e := R.L
  subst e
  refine wpAny_storeName_local hk S.F.ns (fun h' hn hs => P h' _ (S.at (S.F.set hn hs) (S.N.set hs))) ?_
  rw [R.R.kind]; rfl
/-- what a target's store does -/
noncomputable def StoresL (prog : Program) (w : World) (A : Around) (env : Env) : List (Value → Sem Unit) → List Str → Prop
  | [], [] => True
  | f :: fs, x :: xs => (∀ (v : Value) (s : Shared) (Q : Unit → Shared → Prop), wpAny (model prog w) A (storeName env x v) Q NoE s → wpAny (model prog w) A (f v) Q NoE s) ∧ StoresL prog w A env fs xs
  | _, _ => False
theorem storesL_bind : ∀ xs : List Str, StoresL prog w A env (xs.map fun n => bindName env n) xs
  | [] => trivial
  | x :: xs => ⟨fun v s Q h => wpAny_bindName h, storesL_bind xs⟩
theorem storesL_each : ∀ {es : List Expr} {xs : List Str}, namesOf es = some xs → StoresL prog w A env ((assignEach es env).map (·.2)) xs ∧ (assignEach es env).length = xs.length ∧ (assignEach es env).findIdx? (·.1) = none
  | [], xs, h => by simp only [namesOf, Option.some.injEq] at h; subst h; exact ⟨trivial, rfl, rfl⟩
  | e :: es, xs, h => by
    cases e <;> simp only [namesOf, reduceCtorEq, Option.map_eq_some_iff] at h
    obtain ⟨ys, h1, rfl⟩ := h
    obtain ⟨a, b, c⟩ := storesL_each h1
    rename_i x px
    have e1 : assignEach (.Name x px :: es) env = (false, assign (.Name x px) env) :: assignEach es env := rfl
    rw [e1]
    refine ⟨⟨fun v s Q h => wpAny_assign_Name h, a⟩, by simp [b], ?_⟩
    rw [List.findIdx?_cons]
    simp [c]
noncomputable def putAll (m : Str → Option Value) : List Str → List Value → Str → Option Value
  | x :: xs, v :: vs => putAll (fun y => if y = x then some v else m y) xs vs
  | _, _ => m
theorem stores_ok {Q : Unit → Shared → Prop} {fs : List (Value → Sem Unit)} : ∀ {xs : List Str} {vs : List Value} {m : Str → Option Value} {s : Shared}, StoresL prog w A env fs xs → (∀ x ∈ xs, isLoc sc x = true) → xs.length = vs.length →
    SI h₀ L m ext fro ca σ led s.heap → env.locals = L → env.scope = sc → env.scope.kind = .function → (∀ h' tk, SI h₀ L (putAll m xs vs) ext fro ca σ led h' → Q () { s with heap := h', toks := tk }) → wpAny (model prog w) A (assignInOrder fs vs) Q NoE s := by
  induction fs with
  | nil =>
    intro xs vs m s hf hx hl S e1 e2 e3 P
    cases xs with
    | nil => cases vs with
      | nil => exact wpAny_pure (P s.heap s.toks S)
      | cons _ _ => simp at hl
    | cons _ _ => exact hf.elim
  | cons f fs ih =>
    intro xs vs m s hf hx hl S e1 e2 e3 P
    cases xs with
    | nil => exact hf.elim
    | cons x xs =>
      cases vs with
      | nil => simp at hl
      | cons v vs =>
        show wpAny _ A (do holding vs (f v); assignInOrder fs vs) Q NoE s
        refine wpAny_bind (wpAny_holding (hf.1 v s _ ?_))
        have hk : env.kindOf x = some .local := by
          show env.scope.names.lookup x = _
          rw [e2]; exact loc_lookup (hx x (.head _))
        subst e1
        refine wpAny_storeName_local hk S.F.ns (fun h' hn hs => ?_) (by rw [e3]; rfl)
        exact ih hf.2 (fun y hy => hx y (.tail _ hy)) (by simpa using hl) (S.at (S.F.set hn hs) (S.N.set hs)) rfl e2 e3 fun h'' tk S' => P h'' tk S'
theorem EnvF.puts {kn : List (Addr × Obj)} {xs : List Str} : ∀ {vs : List Value} {lvs : List LV} {m : Str → Option Value} {ρ ρ' : Rho}, EnvF env sc L m kn fro ca ρ → (∀ x ∈ xs, isLoc sc x = true) → LVRs fro ca vs lvs → setRs ρ xs lvs = some ρ' → EnvF env sc L (putAll m xs vs) kn fro ca ρ' := by
  induction xs with
  | nil =>
    intro vs lvs m ρ ρ' h hx hv e
    cases hv with
    | nil => simp only [setRs, Option.some.injEq] at e; subst e; exact h
    | cons _ _ => simp [setRs] at e
  | cons x xs ih =>
    intro vs lvs m ρ ρ' h hx hv e
    cases hv with
    | nil => simp [setRs] at e
    | cons hv hr => exact ih (h.put (hx x (.head _)) hv) (fun y hy => hx y (.tail _ hy)) hr e
/-- a value that is handed to a target -/
inductive VT (h : Heap) (fro : List (Addr × Obj)) : Value → Dat → Prop
  | d {v : Value} {x : Dat} : DatIn fro v x → VT h fro v x
  | t {T : Addr} {vs : List Value} {ds : List Dat} : IsTup h T vs.toArray → DatAll fro vs ds → VT h fro (.ref T) (.tuple ds)
  | l {a : Addr} {vs : List Value} {ds : List Dat} : h.IsList a vs.toArray → DatAll fro vs ds → VT h fro (.ref a) (.list ds)
theorem lvrs_of {vs : List Value} {ds : List Dat} (h : DatAll fro vs ds) : LVRs fro ca vs (ds.map .d) := by
  induction vs generalizing ds with
  | nil => cases h; exact .nil
  | cons v vs ih => cases h with | cons a b => exact .cons (.d a) (ih b)
theorem setRs_length : ∀ {xs : List Str} {lvs : List LV} {ρ ρ' : Rho}, setRs ρ xs lvs = some ρ' → xs.length = lvs.length
  | [], [], _, _, _ => rfl
  | _ :: _, _ :: _, _, _, h => by simp only [setRs] at h; simp [setRs_length h]
  | [], _ :: _, _, _, h => by simp [setRs] at h
  | _ :: _, [], _, _, h => by simp [setRs] at h
theorem tgt_ok {t : Expr} {x : Dat} {v : Value} {ρ' : Rho} {Q : Unit → Shared → Prop} (h : tgt sc t ρ x = some ρ') (hh : A.handled = none) (S : SI h₀ L m ext fro ca σ led s.heap) (R : EnvF env sc L m (ext ++ fro) fro ca ρ) (hv : VT s.heap fro v x) (hn : ∀ y py, t = .Name y py → DatIn fro v x)
    (P : ∀ h' tk m', SI h₀ L m' ext fro ca σ led h' → EnvF env sc L m' (ext ++ fro) fro ca ρ' → Q () { s with heap := h', toks := tk }) : wpAny (model prog w) A (assign t env v) Q NoE s := by
  unfold tgt at h
  split at h
  · rename_i y py
    split at h
    · rename_i hy
      cases h
      exact wpAny_assign_Name (store_ok S R hy fun h' tk S' => P h' tk _ S' (R.put hy (.d (hn y py rfl))))
    · cases h
  · rename_i es k pos
    simp only [Option.bind_eq_some_iff] at h
    obtain ⟨ys, h1, h2⟩ := h
    split at h2
    · rename_i hy
      simp only [Bool.and_eq_true, decide_eq_true_eq, List.all_eq_true] at hy
      simp only [Option.bind_eq_some_iff] at h2
      obtain ⟨ds, h3, h4⟩ := h2
      split at h4
      · obtain ⟨st, len, nf⟩ := storesL_each (prog := prog) (w := w) (A := A) (env := env) h1
        have hlen := setRs_length h4
        rw [List.length_map] at hlen
        have go : ∀ (vs : List Value), DatAll fro vs ds → ∀ h', Fr h₀ L h' m → News h₀ L h' (led ++ (ext ++ fro)) → wpAny (model prog w) A (assignInOrder (List.map (fun x => x.2) (assignEach es env)) vs) Q NoE { s with heap := h' } := fun vs hd h' F N =>
          stores_ok st (fun x hx => hy.1 x hx) (by rw [hlen, hd.length]) (S.at F N) R.L R.sc R.R.kind fun h'' tk S' => P h'' tk _ S' (R.puts (fun x hx => hy.1 x hx) (lvrs_of hd) h4)
        have tup : ∀ (T : Addr) (vs : List Value), v = .ref T → IsTup s.heap T vs.toArray → DatAll fro vs ds → wpAny (model prog w) A (assign (.Tuple es k pos) env v) Q NoE s := fun T vs hvT hT hd => by
          subst hvT
          exact unpackN_ S.F S.N hT hh (by rw [len, List.size_toArray, hlen, hd.length]) nf fun h' F N => by simpa using go vs hd h' F N
        have lst : ∀ (T : Addr) (vs : List Value), v = .ref T → s.heap.IsList T vs.toArray → DatAll fro vs ds → wpAny (model prog w) A (assign (.Tuple es k pos) env v) Q NoE s := fun T vs hvT hT hd => by
          subst hvT
          exact kun_list S.F S.N hT hh (by rw [len, List.size_toArray, hlen, hd.length]) nf fun h' F N => by simpa using go vs hd h' F N
        cases x <;> simp only [itemsD, reduceCtorEq, Option.some.injEq] at h3
        · subst h3
          cases hv with
          | d hd => cases hd with | tuple hm hall => exact tup _ _ rfl (S.N.isTup (S.all _ hm)) hall
          | t hT hall => exact tup _ _ rfl hT hall
        · subst h3
          cases hv with
          | d hd => cases hd with | list hm hall => exact lst _ _ rfl (S.N.isList (S.all _ hm)) hall
          | l hT hall => exact lst _ _ rfl hT hall
      · cases h4
    · cases h2
  · cases h
end
section
variable {prog : Program} {w : World} {K : Frag} {p : Program} {loose : List Str} {mg mb : Str → Option Value} {rk : Nat}
  {A : Around} {env : Env} {h₀ : Heap} {L : Addr} {m : Str → Option Value} {ext fro : List (Addr × Obj)} {ca : List Addr} {led : List (Addr × Obj)} {s : Shared} {sc : Scope} {ρ : Rho} {σ : Sig}
theorem EnvR.grow {kn : List (Addr × Obj)} {more : List Addr} (h : EnvR env sc L m kn fro ca ρ) : EnvR env sc L m kn fro (ca ++ more) ρ :=
  ⟨fun x lv e => let ⟨v, a, b⟩ := h.look x lv e; ⟨v, a, b.grow⟩, h.kind, h.gl, h.bl, h.glob, h.cell⟩
theorem LVRs.grow {vs : List Value} {xs : List LV} {more : List Addr} (h : LVRs fro ca vs xs) : LVRs fro (ca ++ more) vs xs := by
  induction h with
  | nil => exact .nil
  | cons h _ ih => exact .cons h.grow ih
theorem x_ok {R : Evs} (Sd : Sound prog w K p loose mg mb rk R) (hB : BltOK K) {mt : Bool} {e : Expr} {r : LV × Sig} {Q : Value → Shared → Prop} (h : stepX R mt sc ρ e σ = some r) (act : Act K p loose mg mb A h₀ L rk) (S : SI h₀ L m ext fro ca σ led s.heap) (R' : EnvR env sc L m (ext ++ fro) fro ca ρ)
    (P : ∀ v h' tk fro' led' more, (∀ q ∈ fro, q ∈ fro') → SI h₀ L m ext fro' (ca ++ more) r.2 led' h' → LVR fro' (ca ++ more) v r.1 → Q v { s with heap := h', toks := tk }) : wpAny (model prog w) A (eval e env) Q NoE s := by
  unfold stepX at h
  cases mt with
  | false =>
    simp only [Bool.false_eq_true, if_false] at h
    exact Sd.e _ _ _ _ _ h act S R' fun v h' tk fro' led' sub S' lv => P v h' tk fro' led' [] sub (by simpa using S') (by simpa using lv)
  | true =>
    simp only [if_true, Option.map_eq_some_iff] at h
    obtain ⟨⟨ds, σ'⟩, h1, rfl⟩ := h
    refine fok_ok Sd hB h1 act S R' fun a vs n h' tk fro' led' sub S' hd hx => ?_
    have len := S'.R.length
    refine P _ h' tk fro' (led' ++ [(a, W.listOf vs.toArray n)]) [a] sub (S'.toCell hd hx) (.c ?_)
    show (ca ++ [a])[σ'.length]? = some a
    rw [← len]; simp
theorem xs_ok {R : Evs} (Sd : Sound prog w K p loose mg mb rk R) (hB : BltOK K) {mt : Str → Bool} {pos : Pos} {es : List Expr} :
    ∀ {xs : List Str} {σ : Sig} {lvs : List LV} {σ' : Sig} {fro led : List (Addr × Obj)} {ca : List Addr} {s : Shared} {Q : List Value → Shared → Prop}, evXs R mt sc ρ xs es σ = some (lvs, σ') → Act K p loose mg mb A h₀ L rk → SI h₀ L m ext fro ca σ led s.heap → EnvR env sc L m (ext ++ fro) fro ca ρ →
      (∀ vs h' tk fro' led' more, (∀ q ∈ fro, q ∈ fro') → SI h₀ L m ext fro' (ca ++ more) σ' led' h' → LVRs fro' (ca ++ more) vs lvs → Q vs { s with heap := h', toks := tk }) → wpAny (model prog w) A (spliced (backTo pos (starEach es env))) Q NoE s := by
  induction es with
  | nil =>
    intro xs σ lvs σ' fro led ca s Q e act S R' P
    cases xs with
    | nil =>
      simp only [evXs, Option.some.injEq, Prod.mk.injEq] at e
      obtain ⟨rfl, rfl⟩ := e
      exact wpAny_items_nil (P [] s.heap s.toks fro led [] sub_refl (by simpa using S) .nil)
    | cons _ _ => simp [evXs] at e
  | cons e₁ es ih =>
    intro xs σ lvs σ' fro led ca s Q e act S R' P
    cases xs with
    | nil => simp [evXs] at e
    | cons x xs =>
      simp only [evXs, Option.bind_eq_some_iff, Option.some.injEq, Prod.mk.injEq] at e
      obtain ⟨⟨y, σ₁⟩, h1, ⟨ys, σ₂⟩, h2, rfl, rfl⟩ := e
      have hne : ∀ v q, e₁ ≠ .Starred v q := fun v q he => by
        subst he
        unfold stepX at h1
        split at h1
        · exact nomatch (show (none : Option (LV × Sig)) = some _ from h1)
        · rw [Sd.star] at h1; cases h1
      refine wpAny_items_cons ?_ (starEach_plain hne)
      refine x_ok Sd hB h1 act S R' fun v h₁ tk₁ fro₁ led₁ more₁ sub₁ S₁ l₁ => ?_
      refine ih h2 act S₁ (R'.mono sub₁).grow fun vs h₂ tk₂ fro₂ led₂ more₂ sub₂ S₂ l₂ => ?_
      rw [List.append_assoc] at S₂ l₂
      refine P (v :: vs) h₂ tk₂ fro₂ led₂ (more₁ ++ more₂) (fun q hq => sub₂ q (sub₁ q hq)) S₂ (.cons ?_ l₂)
      rw [← List.append_assoc]
      exact (l₁.mono sub₂).grow
theorem evXs_length {R : Evs} {mt : Str → Bool} {es : List Expr} : ∀ {xs : List Str} {σ σ' : Sig} {lvs : List LV}, evXs R mt sc ρ xs es σ = some (lvs, σ') → lvs.length = es.length := by
  induction es with
  | nil => intro xs σ σ' lvs e; cases xs <;> simp [evXs] at e; simp [e.1]
  | cons e₁ es ih =>
    intro xs σ σ' lvs e
    cases xs with
    | nil => simp [evXs] at e
    | cons x xs =>
      simp only [evXs, Option.bind_eq_some_iff, Option.some.injEq, Prod.mk.injEq] at e
      obtain ⟨⟨y, σ₁⟩, h1, ⟨ys, σ₂⟩, h2, rfl, rfl⟩ := e
      simp [ih h2]
theorem names_filter {env : Env} {l : Nat} : ∀ {ts : List Expr} {xs : List Str}, namesOf ts = some xs → (∀ t ∈ ts, t.pos.line = l) → (∀ x ∈ xs, env.kindOf x = some .local) →
    (ts.filterMap fun
      | .Name id pos => if env.kindOf id == some .local && pos.line == l then some id else none
      | _ => none) = xs
  | [], xs, h, _, _ => by simp only [namesOf, Option.some.injEq] at h; subst h; rfl
  | t :: ts, xs, h, hl, hk => by
    cases t <;> simp only [namesOf, reduceCtorEq, Option.map_eq_some_iff] at h
    obtain ⟨ys, h1, rfl⟩ := h
    rename_i x px
    have e1 := hl (.Name x px) (.head _)
    have e2 := hk x (.head _)
    have e1' : px.line = l := e1
    rw [List.filterMap_cons]
    simp only [e2, e1', beq_self_eq_true, Bool.and_self, if_true]
    rw [names_filter h1 (fun t ht => hl t (.tail _ ht)) fun x hx => hk x (.tail _ hx)]
theorem names_length : ∀ {ts : List Expr} {xs : List Str}, namesOf ts = some xs → ts.length = xs.length
  | [], xs, h => by simp only [namesOf, Option.some.injEq] at h; subst h; rfl
  | t :: ts, xs, h => by
    cases t <;> simp only [namesOf, reduceCtorEq, Option.map_eq_some_iff] at h
    obtain ⟨ys, h1, rfl⟩ := h
    simp [names_length h1]
theorem swapped_ok {ts es : List Expr} {k k' : Nat} {tp p' : Pos} {xs : List Str} (h1 : namesOf ts = some xs) (hk : ∀ x ∈ xs, env.kindOf x = some .local) (hf : env.scope.kind = .function) (hl : xs.length = es.length) (h2 : 2 ≤ xs.length ∧ xs.length ≤ 3) (hn : xs.Nodup) (hs : sameLine ts = true)
    (hfo : es.all (foldedForSure 8) = false) (hco : es.all (constantsAlone 8) = false) (hst : (es.any fun | .Starred .. => true | _ => false) = false) : swappedStores [.Tuple ts k tp] (.Tuple es k' p') env = pure (some xs) := by
  have lt := names_length h1
  have b1 : (!(ts.length == 2 || ts.length == 3) || es.length != ts.length || env.blockKind != .function) = false := by
    have : ts.length = 2 ∨ ts.length = 3 := by omega
    have e2 : es.length = ts.length := by omega
    have e3 : env.blockKind = .function := by unfold Env.blockKind; rw [hf]; rfl
    rw [e2, e3]
    rcases this with h | h <;> simp [h]
  have b2 := names_filter (env := env) (l := (ts.head?.map (·.pos.line)).getD 0) h1 (fun t ht => by simpa [sameLine] using (List.all_eq_true.mp hs t ht)) hk
  have b3 : (xs.length != ts.length || xs.eraseDups.length != xs.length) = false := by
    have e4 : xs.eraseDups = xs := by
      rcases xs with _ | ⟨a, _ | ⟨b, _ | ⟨c, _ | ⟨d, r⟩⟩⟩⟩
      · simp at h2
      · simp at h2
      · simp only [List.nodup_cons, List.mem_cons, List.not_mem_nil, or_false] at hn
        have : (b == a) = false := by simpa using fun e => hn.1 e.symm
        simp [List.eraseDups_cons, this]
      · simp only [List.nodup_cons, List.mem_cons, List.not_mem_nil, or_false, not_or] at hn
        have e1 : (b == a) = false := by simpa using fun e => hn.1.1 e.symm
        have e2 : (c == a) = false := by simpa using fun e => hn.1.2 e.symm
        have e3 : (c == b) = false := by simpa using fun e => hn.2.1 e.symm
        simp [List.eraseDups_cons, e1, e2, e3]
      · simp at h2
        try omega
    rw [e4, lt]; simp
  have key : ∀ (b : Bool) (names : List Str), b = false → names = xs → (if (!(ts.length == 2 || ts.length == 3) || es.length != ts.length || env.blockKind != .function) = true then pure none else if b = true then pure none else
      if (names.length != ts.length || names.eraseDups.length != names.length) = true then pure none else if es.all (foldedForSure 8) = true then pure none else
        if es.all (constantsAlone 8) = true then (do unsupported "assign.tuple-of-constant-expressions:order-of-the-stores"; pure (some names)) else pure (some names) : Sem (Option (List Str))) = pure (some xs) := by
    rintro b names rfl rfl
    simp only [b1, b3, hfo, hco, Bool.false_eq_true, if_false]
  exact key _ _ hst b2
theorem putAll_rev {m : Str → Option Value} {xs : List Str} {vs : List Value} (hn : xs.Nodup) (h2 : 2 ≤ xs.length ∧ xs.length ≤ 3) (hl : xs.length = vs.length) : putAll m xs.reverse vs.reverse = putAll m xs vs := by
  rcases xs with _ | ⟨a, _ | ⟨b, _ | ⟨c, _ | ⟨d, r⟩⟩⟩⟩
  · simp at h2
  · simp at h2
  · rcases vs with _ | ⟨u, _ | ⟨v, _ | ⟨x, r⟩⟩⟩ <;> simp at hl
    simp only [List.nodup_cons, List.mem_cons, List.not_mem_nil, or_false] at hn
    funext y
    simp only [List.reverse_cons, List.reverse_nil, List.nil_append, List.cons_append, putAll]
    by_cases h1 : y = a
    · subst h1; simp [hn.1]
    · simp [h1]
  · rcases vs with _ | ⟨u, _ | ⟨v, _ | ⟨x, _ | ⟨z, r⟩⟩⟩⟩ <;> simp at hl
    simp only [List.nodup_cons, List.mem_cons, List.not_mem_nil, or_false, not_or] at hn
    funext y
    simp only [List.reverse_cons, List.reverse_nil, List.nil_append, List.cons_append, putAll]
    by_cases h1 : y = a
    · subst h1; simp [hn.1.1, hn.1.2]
    · by_cases h3 : y = b
      · subst h3; simp [h1, hn.2.1]
      · simp [h1, h3]
  · simp at h2
    try omega
end
inductive FlR (fro : List (Addr × Obj)) : Flow → Fl → Prop
  | next : FlR fro .next .next
  | ret {v : Value} {x : Dat} : DatIn fro v x → FlR fro (.ret v) (.ret x)
section
variable {prog : Program} {w : World} {K : Frag} {p : Program} {loose : List Str} {mg mb : Str → Option Value} {rk : Nat}
  {A : Around} {env : Env} {h₀ : Heap} {L : Addr} {m : Str → Option Value} {ext fro : List (Addr × Obj)} {ca : List Addr} {led : List (Addr × Obj)} {s : Shared} {sc : Scope} {ρ : Rho} {σ : Sig}
abbrev SPost (env : Env) (sc : Scope) (h₀ : Heap) (L : Addr) (ext fro : List (Addr × Obj)) (ca : List Addr) (s : Shared) (Q : Flow → Shared → Prop) (r : Fl × Rho × Sig) : Prop :=
  ∀ f h' tk m' fro' more led', (∀ q ∈ fro, q ∈ fro') → SI h₀ L m' ext fro' (ca ++ more) r.2.2 led' h' → EnvF env sc L m' (ext ++ fro') fro' (ca ++ more) r.2.1 → FlR fro' f r.1 → Q f { s with heap := h', toks := tk }
noncomputable def SOK (prog : Program) (w : World) (K : Frag) (p : Program) (loose : List Str) (mg mb : Str → Option Value) (rk : Nat) (sc : Scope) (ρ : Rho) (σ : Sig) (st : Stmt) (r : Fl × Rho × Sig) : Prop :=
  ∀ {A : Around} {env : Env} {h₀ : Heap} {L : Addr} {m : Str → Option Value} {ext fro : List (Addr × Obj)} {ca : List Addr} {led : List (Addr × Obj)} {s : Shared} {Q : Flow → Shared → Prop},
    Act K p loose mg mb A h₀ L rk → SI h₀ L m ext fro ca σ led s.heap → EnvF env sc L m (ext ++ fro) fro ca ρ → SPost env sc h₀ L ext fro ca s Q r → wpAny (model prog w) A (exec st env) Q NoE s
noncomputable def SsOK (prog : Program) (w : World) (K : Frag) (p : Program) (loose : List Str) (mg mb : Str → Option Value) (rk : Nat) (sc : Scope) (ρ : Rho) (σ : Sig) (sts : List Stmt) (r : Fl × Rho × Sig) : Prop :=
  ∀ {A : Around} {env : Env} {h₀ : Heap} {L : Addr} {m : Str → Option Value} {ext fro : List (Addr × Obj)} {ca : List Addr} {led : List (Addr × Obj)} {s : Shared} {Q : Flow → Shared → Prop},
    Act K p loose mg mb A h₀ L rk → SI h₀ L m ext fro ca σ led s.heap → EnvF env sc L m (ext ++ fro) fro ca ρ → SPost env sc h₀ L ext fro ca s Q r → wpAny (model prog w) A (execs sts env) Q NoE s
theorem ss_ok {f : Rho → Sig → Stmt → SRes} (H : ∀ ρ σ st r, f ρ σ st = some r → SOK prog w K p loose mg mb rk sc ρ σ st r) : ∀ (sts : List Stmt) (ρ : Rho) (σ : Sig) (r : Fl × Rho × Sig), evSs f sts ρ σ = some r → SsOK prog w K p loose mg mb rk sc ρ σ sts r := by
  intro sts
  induction sts with
  | nil =>
    intro ρ σ r e A env h₀ L m ext fro ca led s Q act S R P
    simp only [evSs, Option.some.injEq] at e
    subst e
    exact wpAny_execs_nil (P .next s.heap s.toks m fro [] led sub_refl (by simpa using S) (by simpa using R) .next)
  | cons st sts ih =>
    intro ρ σ r e A env h₀ L m ext fro ca led s Q act S R P
    simp only [evSs, Option.bind_eq_some_iff] at e
    obtain ⟨⟨fl, ρ₁, σ₁⟩, h1, h2⟩ := e
    refine wpAny_execs_cons (H _ _ _ _ h1 act S R fun f h' tk m' fro' more led' sub S' R' hf => ?_)
    cases fl with
    | next =>
      cases hf
      simp only at h2
      refine ih _ _ _ h2 act S' R' fun f h'' tk' m'' fro'' more' led'' sub' S'' R'' hf => ?_
      rw [List.append_assoc] at S'' R''
      exact P f h'' tk' m'' fro'' (more ++ more') led'' (fun q hq => sub' q (sub q hq)) S'' R'' hf
    | ret x =>
      cases hf with
      | ret hd =>
        simp only [Option.some.injEq] at h2
        subst h2
        exact P _ h' tk m' fro' more led' sub S' R' (.ret hd)
theorem AllObj.of : ∀ {ws : List (Addr × String)} {k : List (Addr × Obj) → Prop}, (∀ its, Objs ws its → k its) → AllObj ws k
  | [], k, h => AllObj.nil (h [] trivial)
  | w :: ws, k, h => AllObj.cons fun o ho => AllObj.of fun its hi => h ((w.1, o) :: its) ⟨⟨rfl, ho⟩, hi⟩
theorem SP.aside {its : List (Addr × Obj)} (S : SP ext fro ca σ led) (off : ∀ q ∈ led ++ (ext ++ fro), ∀ i ∈ its, q.1 ≠ i.1) : SP (its ++ ext) fro ca σ led := by
  refine ⟨S.R, S.nd, fun x hx q hq => ?_, fun x hx q hq => ?_⟩
  · rcases List.mem_append.mp hq with h | h
    · rcases List.mem_append.mp h with h | h
      · exact off x (List.mem_append.mpr (.inl hx)) q h
      · exact S.ap x hx q (List.mem_append.mpr (.inl h))
    · exact S.ap x hx q (List.mem_append.mpr (.inr h))
  · rcases List.mem_append.mp hx with h | h
    · exact fun e => off q (List.mem_append.mpr (.inr (List.mem_append.mpr (.inr hq)))) x h e.symm
    · exact S.ap2 x h q hq
theorem news_aside {h : Heap} {a l e f : List (Addr × Obj)} (N : News h₀ L h (a ++ (l ++ (e ++ f)))) : News h₀ L h (l ++ ((a ++ e) ++ f)) := fun q hq => N q (by
  simp only [List.mem_append] at hq ⊢
  rcases hq with h | (h | h) | h
  · exact .inr (.inl h)
  · exact .inl h
  · exact .inr (.inr (.inl h))
  · exact .inr (.inr (.inr h)))
theorem aside_news {h : Heap} {a l e f : List (Addr × Obj)} (N : News h₀ L h (l ++ ((a ++ e) ++ f))) : News h₀ L h (a ++ (l ++ (e ++ f))) := fun q hq => N q (by
  simp only [List.mem_append] at hq ⊢
  rcases hq with h | h | h | h
  · exact .inr (.inl (.inl h))
  · exact .inl h
  · exact .inr (.inl (.inr h))
  · exact .inr (.inr h))
theorem SP.aside_less {its : List (Addr × Obj)} (S : SP (its ++ ext) fro ca σ led) : SP ext fro ca σ led := SP.less S
theorem EnvR.wide {kn kn' : List (Addr × Obj)} (h : EnvR env sc L m kn fro ca ρ) (hs : ∀ q ∈ kn, q ∈ kn') : EnvR env sc L m kn' fro ca ρ :=
  ⟨fun x lv e => let ⟨v, a, b⟩ := h.look x lv e; ⟨v, a.mono hs fun _ q => q, b⟩, h.kind, h.gl, h.bl, h.glob, h.cell⟩
/-- in a def's own block no name is kept in what stands aside -/
theorem EnvF.narrow {its : List (Addr × Obj)} (h : EnvF env sc L m ((its ++ ext) ++ fro) fro ca ρ) (hL : ∀ q ∈ its, q.1 ≠ L) : EnvF env sc L m (ext ++ fro) fro ca ρ := by
  refine ⟨⟨fun x lv e => ?_, h.R.kind, h.R.gl, h.R.bl, h.R.glob, h.R.cell⟩, h.L, h.sc⟩
  obtain ⟨v, ⟨hb, hn⟩, hl⟩ := h.R.look x lv e
  refine ⟨v, ⟨hb, ?_⟩, hl⟩
  rcases hn with h1 | ⟨h1, o, m₂, h2, h3⟩ | h1
  · exact .inl h1
  · rw [List.append_assoc] at h2
    rcases List.mem_append.mp h2 with h2 | h2
    · exact absurd h.L (hL _ h2)
    · exact .inr (.inl ⟨h1, o, m₂, h2, h3⟩)
  · exact .inr (.inr h1)
theorem rest_I {target : Expr} {body : List Stmt} {bodyf : Rho → Sig → SRes} (Hb : ∀ ρ σ r, bodyf ρ σ = some r → SsOK prog w K p loose mg mb rk sc ρ σ body r) {Q : Flow → Shared → Prop} {ws : List (Addr × String)} {keep : List (Addr × Obj)} {fro₀ : List (Addr × Obj)} {ca₀ : List Addr} {res : Fl × Rho × Sig}
    (act : Act K p loose mg mb A h₀ L rk) (hL : env.locals = L) (hkeep : ∀ l, (∀ q ∈ fro₀, q ∈ l) → SubL keep l) 
    (fin : SPost env sc h₀ L ext fro₀ ca₀ s Q res) :
    ∀ (l : List (Itm × Dat)) (ρ : Rho) (σ : Sig) (m : Str → Option Value) (fro : List (Addr × Obj)) (more : List Addr) (led : List (Addr × Obj)),
      (∀ a ∈ l, ∀ v h fro', (∀ q ∈ fro₀, q ∈ fro') → a.1.Is v h → VT h fro' v a.2 ∧ ∀ y py, target = .Name y py → DatIn fro' v a.2) →
      SP ext fro (ca₀ ++ more) σ led → EnvF env sc L m (ext ++ fro) fro (ca₀ ++ more) ρ → (∀ q ∈ fro₀, q ∈ fro) → (∀ q ∈ led ++ (ext ++ fro), ∀ i ∈ ws, q.1 ≠ i.1) →
      evLoop (tgt sc target) bodyf (l.map (·.2)) ρ σ = some res → ItemsRest prog w A NoE h₀ env target body Q s ws keep (l.map (·.1)) m (led ++ (ext ++ fro)) := by
  subst hL
  intro l
  induction l with
  | nil =>
    intro ρ σ m fro more led hl S R sub off e
    simp only [List.map_nil, evLoop, Option.some.injEq] at e
    subst e
    exact ItemsRest.zero fun h tk F N => fin .next h tk m fro more led sub (S.si F N) R .next
  | cons a r ih =>
    intro ρ σ m fro more led hl S R sub off e
    simp only [List.map_cons, evLoop, Option.bind_eq_some_iff] at e
    obtain ⟨ρ₁, h1, ⟨fl, ρ₂, σ₂⟩, h2, h3⟩ := e
    intro v h tk hv F
    refine AllObj.of fun its hits N => ?_
    have hmap := hits.map
    have offi : ∀ q ∈ led ++ (ext ++ fro), ∀ i ∈ its, q.1 ≠ i.1 := fun q hq i hi e => by
      have : i.1 ∈ ws.map (·.1) := by rw [← hmap]; exact List.mem_map.mpr ⟨i, hi, rfl⟩
      obtain ⟨j, hj, ej⟩ := List.mem_map.mp this
      exact off q hq j hj (e.trans ej.symm)
    have hLi : ∀ q ∈ its, q.1 ≠ env.locals := fun q hq => (N q (List.mem_append.mpr (.inl hq))).2.1
    have S' := SP.aside (its := its) S offi
    have R' : EnvF env sc env.locals m ((its ++ ext) ++ fro) fro (ca₀ ++ more) ρ := ⟨R.R.wide fun q hq => by
      rcases List.mem_append.mp hq with h | h
      · exact List.mem_append.mpr (.inl (List.mem_append.mpr (.inr h)))
      · exact List.mem_append.mpr (.inr h), R.L, R.sc⟩
    obtain ⟨vt, vn⟩ := hl a (.head _) v h fro sub hv
    refine tgt_ok (s := { s with heap := h, toks := tk }) h1 act.hh (S'.si F (news_aside N)) R' vt vn fun h' tk' m' S1 R1 => ?_
    refine Hb _ _ _ h2 act S1 R1 fun f h'' tk'' m'' fro'' more' led'' sub'' S2 R2 hf => ?_
    rw [List.append_assoc ca₀ more more'] at S2 R2
    have sp2 := S2.sp
    have off2 : ∀ q ∈ led'' ++ (ext ++ fro''), ∀ i ∈ its, q.1 ≠ i.1 := fun q hq i hi => by
      rcases List.mem_append.mp hq with h | h
      · exact sp2.ap q h i (List.mem_append.mpr (.inl (List.mem_append.mpr (.inl hi))))
      · rcases List.mem_append.mp h with h | h
        · exact offi q (List.mem_append.mpr (.inr (List.mem_append.mpr (.inl h)))) i hi
        · exact fun e => sp2.ap2 i (List.mem_append.mpr (.inl hi)) q h e.symm
    have N2 := aside_news S2.N
    cases fl with
    | ret x =>
      cases hf with
      | ret hd =>
        simp only [Option.some.injEq] at h3
        subst h3
        exact fin _ h'' tk'' m'' fro'' (more ++ more') led'' (fun q hq => sub'' q (sub q hq)) (sp2.aside_less.si S2.F fun q hq => N2 q (List.mem_append.mpr (.inr hq))) (R2.narrow hLi) (.ret hd)
    | next =>
      cases hf
      simp only at h3
      refine ⟨h'', tk'', m'', led'' ++ (ext ++ fro''), rfl, S2.F, N2, off2, hkeep _ fun q hq => List.mem_append.mpr (.inr (List.mem_append.mpr (.inr (sub'' q (sub q hq))))), ?_⟩
      refine ih _ _ _ _ (more ++ more') _ (fun a ha => hl a (.tail _ ha)) sp2.aside_less (R2.narrow hLi) (fun q hq => sub'' q (sub q hq)) (fun q hq i hi e => ?_) h3
      have : i.1 ∈ its.map (·.1) := by rw [hmap]; exact List.mem_map.mpr ⟨i, hi, rfl⟩
      obtain ⟨j, hj, ej⟩ := List.mem_map.mp this
      exact off2 q hq j hj (e.trans ej.symm)
end
section
variable {prog : Program} {w : World} {K : Frag} {p : Program} {loose : List Str} {mg mb : Str → Option Value} {rk : Nat}
  {A : Around} {env : Env} {h₀ : Heap} {L : Addr} {m : Str → Option Value} {ext fro : List (Addr × Obj)} {ca : List Addr} {led : List (Addr × Obj)} {s : Shared} {sc : Scope} {ρ : Rho} {σ : Sig}
theorem passes_no : PassesOwn (model prog w) A env NoE := fun _ _ h => h.elim
theorem letGo_name {x : Str} {px : Pos} {it v : Value} {Q : Unit → Shared → Prop} {E : Value → Shared → Prop} (h : Q () s) : wpAny (model prog w) A (letOwnedTupleGo (.Name x px) it v) Q E s := wpAny_pure h
noncomputable def rangeItms (n : Nat) : List Itm := (List.range n).map fun (i : Nat) => Itm.tok fun t => Value.int (Int.ofNat i) t
theorem iter_range {x : Str} {px : Pos} {body : List Stmt} {Q : Flow → Shared → Prop} {r : Addr} {n : Nat} {nI : Int} {t u v : Tok} {m₀ : Str → Option Value} {news : List (Addr × Obj)}
    (hh : A.handled = none) (F : Fr h₀ env.locals s.heap m₀) (N : News h₀ env.locals s.heap news) (hr : IsRange s.heap r 0 nI 1 t u v) (hsm : Builtin.Range.small 0 nI 1 = true) (hn : Builtin.Range.rangeSize 0 nI 1 = (n : Int))
    (rest₀ : ∀ I : Addr, (∀ p ∈ news, p.1 < I) → ItemsRest prog w A NoE h₀ env (.Name x px) body Q s [(I, "range_iterator")] [] (rangeItms n) m₀ news) :
    wpAny (model prog w) A (pyIter (.ref r)) (fun it s₂ => TurnsAt prog w A h₀ env (.Name x px) body Q NoE it s₂) NoE s := by
  refine wpAny_pyIter_range hr hsm ?_
  refine ktu_core (tk0 := s.toks) (keep := []) (KTurns.ofWalks ((Walks.range hh s.heap.objs.size 0 1 n).bound) fun i v s Q E st q => letGo_name q) (by simp [rangeItms]) (fun i v h hp => ?_) (fun i h st => ?_) (fun b hb => ?_) (fun b hb => by simpa using hb) (fun b hb => ?_) ?_ (fun p hp hI => ?_) ?_ (F.push _) (fun p hp => ⟨Heap.get?_push_of_some _ (N p hp).1, (N p hp).2⟩) trivial (rest₀ _ fun p hp => Heap.lt_size (N p hp).1)
  · obtain ⟨hi, t, rfl⟩ := hp
    exact ⟨.tok fun t => .int (Int.ofNat i) t, by simp [rangeItms, hi], t, by rw [Int.zero_add, Int.mul_one]; rfl⟩
  · exact ⟨[(s.heap.objs.size, _)], ⟨⟨rfl, rfl⟩, trivial⟩, fun p hp => by rw [List.mem_singleton.mp hp]; exact st⟩
  · have hb' : b = s.heap.objs.size := by simpa using hb
    rw [hb']
    exact ⟨List.mem_cons_self .., next_is_new F⟩
  · have hb' : b = s.heap.objs.size := by simpa using hb
    exact .inl (by simp [hb'])
  · intro hI
    exact absurd F.ns.lt ((List.mem_singleton.mp hI) ▸ Nat.lt_irrefl _)
  · exact absurd (Heap.lt_size (N p hp).1) ((List.mem_singleton.mp hI) ▸ Nat.lt_irrefl _)
  · show IsRangeIter _ _ _ _ _
    rw [hn]
    simpa using Heap.get?_push_size _ rfl
theorem zip_fst {α β : Type} : ∀ {a : List α} {b : List β}, a.length = b.length → (a.zip b).map (·.1) = a
  | [], [], _ => rfl
  | _ :: _, _ :: _, h => by simp only [List.zip_cons_cons, List.map_cons]; rw [zip_fst (by simpa using h)]
  | [], _ :: _, h => by simp at h
  | _ :: _, [], h => by simp at h
theorem zip_snd {α β : Type} : ∀ {a : List α} {b : List β}, a.length = b.length → (a.zip b).map (·.2) = b
  | [], [], _ => rfl
  | _ :: _, _ :: _, h => by simp only [List.zip_cons_cons, List.map_cons]; rw [zip_snd (by simpa using h)]
  | [], _ :: _, h => by simp at h
  | _ :: _, [], h => by simp at h
theorem zip_vals {vs : List Value} {ds : List Dat} (h : DatAll fro vs ds) : ∀ a ∈ (vs.map Itm.val).zip ds, ∀ v hp fro', (∀ q ∈ fro, q ∈ fro') → a.1.Is v hp → DatIn fro' v a.2 := by
  induction vs generalizing ds with
  | nil => intro a ha; simp at ha
  | cons v vs ih =>
    cases h with
    | cons hd hr =>
      intro a ha u hp fro' sub hu
      simp only [List.map_cons, List.zip_cons_cons, List.mem_cons] at ha
      rcases ha with rfl | ha
      · have e : u = v := hu
        rw [e]; exact hd.mono sub
      · exact ih hr a ha u hp fro' sub hu
theorem zip_range (n : Nat) : ∀ a ∈ (rangeItms n).zip (rangeD n), ∀ v hp (fro' : List (Addr × Obj)), a.1.Is v hp → DatIn fro' v a.2 := by
  intro a ha v hp fro' hv
  obtain ⟨i, hi, e⟩ := List.getElem_of_mem ha
  simp only [List.length_zip] at hi
  rw [List.getElem_zip] at e
  have h1 : i < n := by simp [rangeItms, rangeD] at hi; exact hi
  subst e
  simp only [rangeItms, rangeD, List.getElem_map, List.getElem_range] at hv ⊢
  obtain ⟨t, rfl⟩ := hv
  exact .int _ _
theorem enumD_cons (ds : List Dat) : ∀ (k : Nat), (ds.zipIdx k).map (fun p => Dat.tuple [.int (p.2 : Int), p.1]) = match ds with | [] => [] | d :: r => .tuple [.int (k : Int), d] :: (r.zipIdx (k + 1)).map fun p => .tuple [.int (p.2 : Int), p.1] := by
  intro k
  cases ds with
  | nil => rfl
  | cons d r => rfl
theorem zip_enum {vs : List Value} : ∀ {ds : List Dat} (k : Nat), DatAll fro vs ds → ∀ a ∈ (enumItems k vs).zip ((ds.zipIdx k).map fun p => Dat.tuple [.int (p.2 : Int), p.1]), ∀ v hp fro', (∀ q ∈ fro, q ∈ fro') → a.1.Is v hp → VT hp fro' v a.2 := by
  induction vs with
  | nil => intro ds k h a ha; simp [enumItems] at ha
  | cons u vs ih =>
    intro ds k h a ha v hp fro' sub hv
    cases h with
    | cons hd hr =>
      rw [enumD_cons] at ha
      simp only [enumItems, List.zip_cons_cons, List.mem_cons] at ha
      rcases ha with rfl | ha
      · obtain ⟨T, t, rfl, hT⟩ := hv
        exact .t (vs := [.int (k : Int) t, u]) hT (.cons (.int _ _) (.cons (hd.mono sub) .nil))
      · exact ih (k + 1) hr a ha v hp fro' sub hv
theorem sok_for {R : Evs} (Sd : Sound prog w K p loose mg mb rk R) (hB : BltOK K) {target iter : Expr} {body : List Stmt} {pos : Pos} {bodyf : Rho → Sig → SRes} (Hb : ∀ ρ σ r, bodyf ρ σ = some r → SsOK prog w K p loose mg mb rk sc ρ σ body r) {items : List Dat} {σ₁ : Sig} {res : Fl × Rho × Sig}
    (h1 : evIter R sc ρ target iter σ = some (items, σ₁)) (h2 : evLoop (tgt sc target) bodyf items ρ σ₁ = some res) : SOK prog w K p loose mg mb rk sc ρ σ (.For target iter body [] pos) res := by
  intro A env h₀ L m ext fro ca led s Q act S R' P
  have eL := R'.L
  subst eL
  -- a list
  have onList : ∀ y yp, iter = .Name y yp → evItems R sc ρ (.Name y yp) σ = some (items, σ₁) → wpAny (model prog w) A (exec (.For target iter body [] pos) env) Q NoE s := by
    rintro y yp rfl h1
    refine For_turns S.F ?_ (fun _ => rfl) passes_no
    refine name_list Sd h1 act S R'.R fun a vs n h' tk fro' led' sub S' hmem hall hlen => ?_
    refine iter_listTurns (s := { s with heap := h', toks := tk }) act.hh S'.F S'.N (S'.all _ hmem) rfl rfl fun I hI => ?_
    have hl : (vs.map Itm.val).length = items.length := by rw [List.length_map]; exact hall.length
    have e1 := zip_fst hl
    have e2 := zip_snd hl
    rw [← e1]
    exact rest_I (s := { s with heap := h', toks := tk }) (ws := [(I, "list_iterator")]) (keep := [(a, W.listOf vs.toArray n)]) (fro₀ := fro') (ca₀ := ca) Hb act rfl (fun l hl => ⟨hl _ hmem, trivial⟩) (fun f h'' tk' m' fro'' more led'' sub' S'' R'' hf => P f h'' tk' m' fro'' more led'' (fun q hq => sub' q (sub q hq)) S'' R'' hf)
      ((vs.map Itm.val).zip items) ρ σ₁ m fro' [] led' (fun a ha v h fro'' sub' hv => ⟨.d (zip_vals hall a ha v h fro'' sub' hv), fun _ _ _ => zip_vals hall a ha v h fro'' sub' hv⟩) (by simpa using S'.sp) (by simpa using R'.mono sub) sub_refl
      (fun q hq i hi => by rw [List.mem_singleton.mp hi]; exact Nat.ne_of_lt (hI q hq)) (by rw [e2]; exact h2)
  replace h1 := Option.bind_eq_some_iff.mp h1
  obtain ⟨v, hv, h1⟩ := h1
  clear hv
  cases v
  all_goals (delta evIterV at h1; dsimp only at h1)
  · rename_i es k tp f fp x xp ip
    split at h1
    · rename_i hg
      simp only [Bool.and_eq_true, decide_eq_true_eq] at hg
      obtain ⟨hg, rfl⟩ := hg
      simp only [Option.map_eq_some_iff] at h1
      obtain ⟨⟨ds, σ₂⟩, h1, e⟩ := h1
      simp only [Prod.mk.injEq] at e
      obtain ⟨rfl, rfl⟩ := e
      refine For_turns S.F ?_ (fun _ => rfl) passes_no
      have h1' := h1
      simp only [i_name, Option.bind_eq_some_iff] at h1'
      obtain ⟨⟨v, σ₃⟩, h3, h4⟩ := h1'
      have key : σ₂ = σ₃ ∧ ∀ {fro' led' : List (Addr × Obj)} {h' : Heap} {val : Value}, SI h₀ env.locals m ext fro' ca σ₃ led' h' → LVR fro' ca val v → DatIn fro' val (.list ds) := by
        split at h4
        · rename_i es' he
          split at h4
          · cases h4
            simp only at he
            subst he
            exact ⟨rfl, fun S' lv => by cases lv with | d hd => exact hd⟩
          · cases h4
        · rename_i k' he
          split at h4
          · rename_i M hq
            cases h4
            simp only at he
            subst he
            exact ⟨rfl, fun S' lv => by cases lv with | c hc => exact S'.R.getMem hc hq⟩
          · cases h4
        · cases h4
      obtain ⟨rfl, key⟩ := key
      refine call_blt (fun e σ r => Sd.e sc ρ e σ r) (fun v q σ => Sd.star sc ρ v q σ) hB (by decide +kernel) blt_boot.2.2.2.2.2.2.2 (.inr ⟨_, rfl⟩) hg (evL_one h3) (by simp) act S R'.R fun vs h' tk fro' led' sub S' lv => ?_
      cases lv with
      | cons l1 lr =>
        cases lr
        have hd := key S' l1
        cases hd with
        | @list a vs n _ hmem hall =>
          refine ktu_enum (s := { s with heap := h', toks := tk }) (xs := enumItems 0 vs) act.hh S'.F S'.N (S'.all _ hmem) rfl rfl rfl fun I hI => ?_
          have hl : (enumItems 0 vs).length = (enumD ds).length := by rw [enumItems_length]; simp [enumD, hall.length]
          have e1 := zip_fst hl
          have e2 := zip_snd hl
          rw [← e1]
          exact rest_I (s := { s with heap := h', toks := tk }) (target := .Tuple es k tp) (ws := [(I + 1, "enumerate"), (I, "list_iterator")]) (keep := [(a, W.listOf vs.toArray n)]) (fro₀ := fro') (ca₀ := ca) Hb act rfl (fun l hl => ⟨hl _ hmem, trivial⟩) (fun f h'' tk' m' fro'' more led'' sub' S'' R'' hf => P f h'' tk' m' fro'' more led'' (fun q hq => sub' q (sub q hq)) S'' R'' hf)
            ((enumItems 0 vs).zip (enumD ds)) ρ _ m fro' [] led' (fun a ha v h fro'' sub' hv => ⟨zip_enum 0 hall a ha v h fro'' sub' hv, by intro y py e; cases e⟩) (by simpa using S'.sp) (by simpa using R'.mono sub) sub_refl
            (fun q hq i hi => by
              simp only [List.mem_cons, List.not_mem_nil, or_false] at hi
              have := hI q hq
              rcases hi with rfl | rfl
              · exact Nat.ne_of_lt (Nat.lt_succ_of_lt this)
              · exact Nat.ne_of_lt this) (by rw [e2]; exact h2)
    · cases h1
  · exact onList _ _ rfl h1
  · exact onList _ _ rfl h1
  · rename_i x px f fp a ip
    refine For_turns S.F ?_ (fun _ => rfl) passes_no
    refine call_range Sd hB h1 act S R'.R fun n r h' tk fro' led' t u v sub S' hds hn hsm hr => ?_
    have hs := small_lt hsm
    refine iter_range (s := { s with heap := h', toks := tk }) (n := n.toNat) act.hh S'.F S'.N hr (small_one (by omega) (by omega) (by omega) (by omega)) (by rw [rangeSize_nat]; simp) fun I hI => ?_
    subst hds
    have hl : (rangeItms n.toNat).length = (rangeD n).length := by simp [rangeItms, rangeD]
    have e1 := zip_fst hl
    have e2 := zip_snd hl
    have er : rangeD n = rangeD (n.toNat : Int) := by simp only [rangeD, Int.toNat_natCast]
    rw [← e1]
    exact rest_I (s := { s with heap := h', toks := tk }) (ws := [(I, "range_iterator")]) (keep := []) (fro₀ := fro') (ca₀ := ca) Hb act rfl (fun l hl => trivial) (fun f h'' tk' m' fro'' more led'' sub' S'' R'' hf => P f h'' tk' m' fro'' more led'' (fun q hq => sub' q (sub q hq)) S'' R'' hf)
      ((rangeItms n.toNat).zip (rangeD n)) ρ σ₁ m fro' [] led' (fun a ha v h fro'' sub' hv => by
        rw [er] at ha
        exact ⟨.d (zip_range _ a ha v h fro'' hv), fun _ _ _ => zip_range _ a ha v h fro'' hv⟩) (by simpa using S'.sp) (by simpa using R'.mono sub) sub_refl
      (fun q hq i hi => by rw [List.mem_singleton.mp hi]; exact Nat.ne_of_lt (hI q hq)) (by rw [e2]; exact h2)
end
section
variable {prog : Program} {w : World} {K : Frag} {p : Program} {loose : List Str} {mg mb : Str → Option Value} {rk : Nat}
  {A : Around} {env : Env} {h₀ : Heap} {L : Addr} {m : Str → Option Value} {ext fro : List (Addr × Obj)} {ca : List Addr} {led : List (Addr × Obj)} {s : Shared} {sc : Scope} {ρ : Rho} {σ : Sig}
theorem sok_return {e : Expr} {pos : Pos} {lv : LV} {d : Dat} {σ₁ σ₂ : Sig} (H : EOK prog w K p loose mg mb rk sc ρ e σ (lv, σ₁)) (hf : frz σ₁ lv = some (d, σ₂)) : SOK prog w K p loose mg mb rk sc ρ σ (.Return (some e) pos) (.ret d, ρ, σ₂) := by
  intro A env h₀ L m ext fro ca led s Q act S R' P
  refine wpAny_Return_some (H act S R'.R fun v h' tk fro' led' sub S' lv => ?_)
  obtain ⟨fro₂, led₂, s2, S₂, hd⟩ := frz_ok S' lv hf
  exact P _ h' tk m fro₂ [] led₂ (fun q hq => s2 q (sub q hq)) (by simpa using S₂) (by simpa using R'.mono fun q hq => s2 q (sub q hq)) (.ret hd)
theorem sok_if {f : Rho → Sig → Stmt → SRes} (H : ∀ ρ σ st r, f ρ σ st = some r → SOK prog w K p loose mg mb rk sc ρ σ st r) {t : Expr} {b o : List Stmt} {pos : Pos} {v : Bool} {σ₁ : Sig} {r : Fl × Rho × Sig} (Ht : TOK prog w K p loose mg mb rk sc ρ t σ (v, σ₁))
    (h : (if v then evSs f b ρ σ₁ else evSs f o ρ σ₁) = some r) : SOK prog w K p loose mg mb rk sc ρ σ (.If t b o pos) r := by
  intro A env h₀ L m ext fro ca led s Q act S R' P
  refine wpAny_If (Ht act S R'.R fun h' tk fro' led' sub S' => ?_)
  have P' : SPost env sc h₀ L ext fro' ca { s with heap := h', toks := tk } Q r := fun f h'' tk' m' fro'' more led'' sub' S'' R'' hf => P f h'' tk' m' fro'' more led'' (fun q hq => sub' q (sub q hq)) S'' R'' hf
  cases v with
  | true => exact ss_ok H _ _ _ _ h act S' (R'.mono sub) P'
  | false => exact ss_ok H _ _ _ _ h act S' (R'.mono sub) P'
theorem sw_plain {e : Expr} (h : plainE e = true) (t : Option Expr) (l : Nat) (env : Env) : swapsWith e t l env = pure false := by
  cases e <;> first | rfl | simp [plainE] at h
theorem sok_name {R : Evs} (Sd : Sound prog w K p loose mg mb rk R) (hB : BltOK K) {mt : Bool} {x : Str} {px pos : Pos} {e : Expr} {r : LV × Sig} (hx : isLoc sc x = true) (hp : plainE e = true) (h : stepX R mt sc ρ e σ = some r) : SOK prog w K p loose mg mb rk sc ρ σ (.Assign [.Name x px] e pos) (.next, setR ρ x r.1, r.2) := by
  intro A env h₀ L m ext fro ca led s Q act S R' P
  refine wpAny_Assign_Name (x_ok Sd hB h act S R'.R fun v h' tk fro' led' more sub S' lv => ?_) (sw_plain hp _ _ _)
  have R2 := (R'.mono sub).grow (more := more)
  exact store_ok (s := { s with heap := h', toks := tk }) S' R2 hx fun h'' tk' S'' => P _ h'' tk' _ fro' more led' sub S'' (R2.put hx lv) .next
theorem off_mem {D : Addr} : ∀ {l : List (Addr × Obj)}, LCg.Off1 D l → ∀ q ∈ l, q.1 ≠ D := by
  intro l
  induction l with
  | nil => intro _ q hq; cases hq
  | cons a r ih =>
    intro h q hq
    rcases List.mem_cons.mp hq with e | e
    · rw [e]; exact h.1
    · exact ih h.2 q e
/-- a list that a comprehension has made and stored -/
theorem fin_A {y : Str} {mt : Bool} {Q : Flow → Shared → Prop} {rs : List Dat} {σ₂ : Sig} (hy : isLoc sc y = true) (R' : EnvF env sc L m (ext ++ fro) fro ca ρ)
    (P : SPost env sc h₀ L ext fro ca s Q (.next, setR ρ y (if mt then .c σ₂.length else .d (.list rs)), if mt then σ₂ ++ [.lst rs] else σ₂)) :
    ∀ g tk ys fro' led', (∀ q ∈ fro, q ∈ fro') → SP ext fro' ca σ₂ led' → DatAll fro' ys rs → LCg.FinA h₀ L m { s with heap := g, toks := tk } y Q ys (led' ++ (ext ++ fro')) := by
  intro g tk ys fro' led' sub sp hd D h tk' F N off
  have offm := off_mem off
  have S : SI h₀ L (fun z => if z = y then some (.ref D) else m z) ((D, W.listOf ys.toArray ys.length) :: ext) fro' ca σ₂ led' h := by
    refine ⟨F, fun q hq => N q ?_, sp.R, sp.nd, fun q hq r hr => ?_, fun q hq r hr => ?_⟩
    · simp only [List.mem_append, List.mem_cons] at hq ⊢
      rcases hq with h | (h | h) | h
      · exact .inr (.inl h)
      · exact .inl h
      · exact .inr (.inr (.inl h))
      · exact .inr (.inr (.inr h))
    · simp only [List.cons_append, List.mem_cons] at hr
      rcases hr with e | e
      · rw [e]; exact offm q (List.mem_append.mpr (.inl hq))
      · exact sp.ap q hq r e
    · rcases List.mem_cons.mp hq with e | e
      · rw [e]; exact fun e' => offm r (List.mem_append.mpr (.inr (List.mem_append.mpr (.inr hr)))) e'.symm
      · exact sp.ap2 q e r hr
  have hext : ∀ q ∈ ext, q.1 ≠ D := fun q hq => offm q (List.mem_append.mpr (.inr (List.mem_append.mpr (.inl hq))))
  cases mt with
  | false =>
    refine P _ h tk' _ ((D, W.listOf ys.toArray ys.length) :: fro') [] led' (fun q hq => .tail _ (sub q hq)) (by simpa using S.toFro hext) ?_ .next
    have R2 := R'.mono (fro' := (D, W.listOf ys.toArray ys.length) :: fro') fun q hq => .tail _ (sub q hq)
    simpa using R2.put hy (.d (.list (.head _) (hd.mono fun q hq => .tail _ hq)))
  | true =>
    have len := S.R.length
    refine P _ h tk' _ fro' [D] (led' ++ [(D, W.listOf ys.toArray ys.length)]) sub (by simpa using S.toCell hd hext) ?_ .next
    exact ((R'.mono sub).grow).put hy (.c (by show (ca ++ [D])[σ₂.length]? = some D; rw [← len]; simp))
theorem sw_comp {a : Expr} {gs : List Comprehension} {scope : Scope} {p' px : Pos} {x : Str} {l : Nat} (R' : EnvF env sc L m (ext ++ fro) fro ca ρ) (hx : isLoc sc x = true) (hl : px.line = p'.line) (hn : (scope.names.any fun nk => nk.1 == x && (nk.2 == .local || nk.2 == .cell)) = false) :
    swapsWith (.ListComp a gs scope p') (some (.Name x px)) l env = pure true := by
  have hk : env.kindOf x = some .local := by
    show env.scope.names.lookup x = _
    rw [R'.sc]; exact loc_lookup hx
  have e3 : env.blockKind = .function := by unfold Env.blockKind; rw [R'.R.kind]; rfl
  show (pure (env.blockKind == .function && env.kindOf x == some .local && px.line == p'.line && !(scope.names.any fun nk => nk.1 == x && (nk.2 == .local || nk.2 == .cell))) : Sem Bool) = _
  rw [e3, hk, hl, hn]
  simp
theorem folded_iter {R : Evs} {iter : Expr} {r : List Dat × Sig} (h : evItems R sc ρ iter σ = some r) : ∀ y, foldedSetIterable iter env y = pure y := by
  intro y
  cases iter <;> first | rfl | exact nomatch (show (none : Option (List Dat × Sig)) = some _ from h)
theorem sok_comp {R : Evs} (Sd : Sound prog w K p loose mg mb rk R) (hB : BltOK K) {mt : Bool} {x : Str} {px pos p' : Pos} {a : Expr} {gs : List Comprehension} {scope : Scope} {r : LV × Sig} (hx : isLoc sc x = true) (hl : px.line = p'.line) (hn : (scope.names.any fun nk => nk.1 == x && (nk.2 == .local || nk.2 == .cell)) = false)
    (h : (stepF R sc ρ (.ListComp a gs scope p') σ).map (fun q => if mt then (LV.c q.2.length, q.2 ++ [.lst q.1]) else (.d (.list q.1), q.2)) = some r) : SOK prog w K p loose mg mb rk sc ρ σ (.Assign [.Name x px] (.ListComp a gs scope p') pos) (.next, setR ρ x r.1, r.2) := by
  intro A env h₀ L m ext fro ca led s Q act S R' P
  simp only [Option.map_eq_some_iff] at h
  obtain ⟨⟨rs, σ₂⟩, h, rfl⟩ := h
  have P' : SPost env sc h₀ L ext fro ca s Q (.next, setR ρ x (if mt then .c σ₂.length else .d (.list rs)), if mt then σ₂ ++ [.lst rs] else σ₂) := by
    cases mt <;> exact P
  have hsw := sw_comp (a := a) (gs := gs) (l := pos.line) R' hx hl hn
  have hy : env.kindOf x = some .local := by
    show env.scope.names.lookup x = _
    rw [R'.sc]; exact loc_lookup hx
  have hp : (env.scope.kind == .class || (env.scope.kind == .module && env.locals != env.globals)) = false := by rw [R'.R.kind]; rfl
  replace h := Option.bind_eq_some_iff.mp h
  obtain ⟨v, hv, h⟩ := h
  clear hv
  cases v
  all_goals (delta stepFV at h; dsimp only at h)
  · split at h
    · rename_i hc
      simp only [Bool.and_eq_true, decide_eq_true_eq] at hc
      obtain ⟨⟨⟨rfl, hkind⟩, hfree⟩, hloc⟩ := hc
      simp only [Option.bind_eq_some_iff] at h
      obtain ⟨⟨items, σ₁⟩, h1, h2⟩ := h
      obtain ⟨cl, hcl, hcell, hnames, hcv⟩ := comp_env R'.R hfree
      exact LCg.Assign_ListComp_U S.F R'.L hsw hcl hcell hkind hnames (loc_lookup hloc) hy hp (comp_U Sd hB h1 h2 (turn_U Sd) act S R'.R hkind hcell hloc hcv (fin_A hx R' P')) (folded_iter h1)
    · cases h
  · split at h
    · rename_i hc
      simp only [Bool.and_eq_true, decide_eq_true_eq] at hc
      obtain ⟨⟨⟨rfl, hkind⟩, hfree⟩, hloc⟩ := hc
      simp only [Option.bind_eq_some_iff] at h
      obtain ⟨⟨items, σ₁⟩, h1, h2⟩ := h
      obtain ⟨cl, hcl, hcell, hnames, hcv⟩ := comp_env R'.R hfree
      exact LCt.Assign_ListComp_T S.F R'.L hsw hcl hcell hkind hnames (loc_lookup hloc) hy hp (comp_T Sd h1 h2 (turn_T Sd) act S R'.R hkind hcell hloc hcv (fin_A hx R' P')) (fun y => rfl)
    · cases h
  · split at h
    · rename_i hc
      simp only [Bool.and_eq_true, decide_eq_true_eq] at hc
      obtain ⟨⟨⟨⟨⟨rfl, hkind⟩, hfree⟩, hloc⟩, hloc2⟩, hne⟩ := hc
      simp only [Option.bind_eq_some_iff] at h
      obtain ⟨⟨items, σ₁⟩, h1, h2⟩ := h
      obtain ⟨cl, hcl, hcell, hnames, hcv⟩ := comp_env R'.R hfree
      exact LCp.Assign_ListComp_P S.F R'.L hsw hcl hcell hkind hnames (loc_lookup hloc) (loc_lookup hloc2) hne hy hp (comp_P Sd h1 h2 (turn_P Sd) act S R'.R hkind hcell hloc hloc2 hcv (fin_A hx R' P')) (fun y => rfl)
    · cases h
theorem sw_sole {t : Expr} {e : Expr} (h : plainE e = true) (l : Nat) : swapsWithSole [t] e l env = pure false := sw_plain h _ _ _
theorem sok_swap {R : Evs} (Sd : Sound prog w K p loose mg mb rk R) (hB : BltOK K) {mt : Str → Bool} {ts es : List Expr} {k k' : Nat} {tp p' pos : Pos} {xs : List Str} {lvs : List LV} {σ₁ : Sig} {ρ' : Rho} (h1 : namesOf ts = some xs) (hx : ∀ x ∈ xs, isLoc sc x = true) (hl : xs.length = es.length) (h2 : 2 ≤ xs.length ∧ xs.length ≤ 3) (hn : xs.Nodup) (hs : sameLine ts = true)
    (hfo : es.all (foldedForSure 8) = false) (hco : es.all (constantsAlone 8) = false) (h : evXs R mt sc ρ xs es σ = some (lvs, σ₁)) (hr : setRs ρ xs lvs = some ρ') : SOK prog w K p loose mg mb rk sc ρ σ (.Assign [.Tuple ts k tp] (.Tuple es k' p') pos) (.next, ρ', σ₁) := by
  intro A env h₀ L m ext fro ca led s Q act S R' P
  have hk : ∀ x ∈ xs, env.kindOf x = some .local := fun x hm => by
    show env.scope.names.lookup x = _
    rw [R'.sc]; exact loc_lookup (hx x hm)
  have hst : (es.any fun | .Starred .. => true | _ => false) = false := by
    have key : ∀ (es : List Expr) (xs : List Str) (σ : Sig) (r : List LV × Sig), evXs R mt sc ρ xs es σ = some r → (es.any fun | .Starred .. => true | _ => false) = false := by
      intro es
      induction es with
      | nil => intro _ _ _ _; rfl
      | cons e es ih =>
        intro xs σ r h
        cases xs with
        | nil => simp [evXs] at h
        | cons x xs =>
          simp only [evXs, Option.bind_eq_some_iff] at h
          obtain ⟨⟨y, σ₁⟩, h1, ⟨ys, σ₂⟩, h2, _⟩ := h
          rw [List.any_cons, ih _ _ _ h2, Bool.or_false]
          cases e <;> first | rfl | skip
          unfold stepX at h1
          split at h1
          · exact nomatch (show (none : Option (LV × Sig)) = some _ from h1)
          · rw [Sd.star] at h1; cases h1
    exact key _ _ _ _ h
  refine Assign_Tuple_swapped (names := xs) ?_ (sw_sole rfl _) (swapped_ok h1 hk R'.R.kind hl h2 hn hs hfo hco hst)
  refine Tuple_ (xs_ok Sd hB h act S R'.R fun vs h' tk fro' led' more sub S' lv => ?_)
  have len := lv.length
  have len2 := evXs_length h
  refine newTuple_N S'.F S'.N (fun h'' F N => ?_) (by have := sizeLine_big; omega)
  have S2 := S'.alloc F N S'.lt
  refine unpackItemsN_ S2.F S2.N (S2.N.isTup (S2.all _ (.head _))) act.hh (by simp; omega) fun g F N => ?_
  refine stores_ok (sc := sc) (xs := xs.reverse) (storesL_bind _) (fun x hm => hx x (List.mem_reverse.mp hm)) (by simp; omega) (S2.at F N) R'.L R'.sc R'.R.kind fun g' tk' S3 => ?_
  have e : putAll m xs.reverse vs.reverse = putAll m xs vs := putAll_rev hn h2 (by omega)
  refine P _ g' tk' (putAll m xs vs) _ more led' (fun q hq => .tail _ (sub q hq)) (by rw [← e]; exact S3) (((R'.mono fun q hq => .tail _ (sub q hq)).grow (more := more)).puts hx (lv.mono fun q hq => .tail _ hq) hr) .next
theorem sok_unpack {R : Evs} (Sd : Sound prog w K p loose mg mb rk R) {ts : List Expr} {k : Nat} {tp pos : Pos} {e : Expr} {lv : LV} {x : Dat} {σ₁ : Sig} {ρ' : Rho} (he : callOrName e = true) (h : R.e sc ρ e σ = some (lv, σ₁)) (hv : valL σ₁ lv = some x) (ht : tgt sc (.Tuple ts k tp) ρ x = some ρ') :
    SOK prog w K p loose mg mb rk sc ρ σ (.Assign [.Tuple ts k tp] e pos) (.next, ρ', σ₁) := by
  intro A env h₀ L m ext fro ca led s Q act S R' P
  have hsw : swapsWithSole [.Tuple ts k tp] e pos.line env = pure false := by cases e <;> first | rfl | simp [callOrName] at he
  have hw : swappedStores [.Tuple ts k tp] e env = pure none := by cases e <;> first | rfl | simp [callOrName] at he
  refine Assign_Tuple (Sd.e _ _ _ _ _ h act S R'.R fun v h' tk fro' led' sub S' l => ?_) hsw hw
  have vt : VT h' fro' v x := by
    cases l with
    | d hd => simp only [valL, Option.some.injEq] at hv; subst hv; exact .d hd
    | c hc =>
      simp only [valL] at hv
      split at hv
      · rename_i ds hq
        cases hv
        obtain ⟨vs, n, hm, hall⟩ := S'.R.get hc hq
        exact .l (S'.N.isList (S'.inled _ hm)) hall
      · rename_i M hq
        cases hv
        exact .d (S'.R.getMem hc hq)
      · cases hv
  refine tgt_ok (s := { s with heap := h', toks := tk }) ht act.hh S' (R'.mono sub) vt (by intro y py e; cases e) fun h'' tk' m' S2 R2 => ?_
  exact P _ h'' tk' m' fro' [] led' sub (by simpa using S2) (by simpa using R2) .next
end
section
variable {prog : Program} {w : World} {K : Frag} {p : Program} {loose : List Str} {mg mb : Str → Option Value} {rk : Nat}
  {A : Around} {env : Env} {h₀ : Heap} {L : Addr} {m : Str → Option Value} {ext fro : List (Addr × Obj)} {ca : List Addr} {led : List (Addr × Obj)} {s : Shared} {sc : Scope} {ρ : Rho} {σ : Sig}
theorem atI_lt {n : Nat} {k : Int} {j : Nat} (h : atI n k = some j) : j < n ∧ ((0 ≤ k ∧ k < n ∧ j = k.toNat) ∨ (k < 0 ∧ -(n : Int) ≤ k ∧ j = (k + n).toNat)) := by
  unfold atI at h
  split at h
  · rename_i q
    simp only [Bool.and_eq_true, decide_eq_true_eq] at q
    cases h
    exact ⟨by omega, .inl ⟨q.1, q.2, rfl⟩⟩
  · split at h
    · rename_i q
      simp only [Bool.and_eq_true, decide_eq_true_eq] at q
      cases h
      exact ⟨by omega, .inr ⟨q.1, q.2, rfl⟩⟩
    · cases h
theorem datAll_set {fro : List (Addr × Obj)} {vs : List Value} {ds : List Dat} {v : Value} {x : Dat} (h : DatAll fro vs ds) (hv : DatIn fro v x) : ∀ j, DatAll fro (vs.set j v) (ds.set j x) := by
  induction vs generalizing ds with
  | nil => cases h; intro j; exact .nil
  | cons a r ih =>
    cases h with
    | cons hd hr =>
      intro j
      cases j with
      | zero => exact .cons hv hr
      | succ j => exact .cons hd (ih hr j)
theorem datAll_snoc {fro : List (Addr × Obj)} {vs : List Value} {ds : List Dat} {v : Value} {x : Dat} (h : DatAll fro vs ds) (hv : DatIn fro v x) : DatAll fro (vs ++ [v]) (ds ++ [x]) := by
  induction vs generalizing ds with
  | nil => cases h; exact .cons hv .nil
  | cons a r ih => cases h with | cons hd hr => exact .cons hd (ih hr)
theorem sok_setitem {R : Evs} (Sd : Sound prog w K p loose mg mb rk R) {o : Str} {op sp pos : Pos} {i e : Expr} {p₁ : LV × Sig} {q : Dat × Sig} {n : Nat} {k : Int} {σ₂ σ₃ : Sig} {ds ds' : List Dat}
    (h1 : R.e sc ρ e σ = some p₁) (h2 : frz p₁.2 p₁.1 = some q) (h3 : R.e sc ρ (.Name o op) q.2 = some (.c n, σ₂)) (h4 : R.e sc ρ i σ₂ = some (.d (.int k), σ₃)) (h5 : σ₃[n]? = some (.lst ds)) (h6 : setAt ds k q.1 = some ds') :
    SOK prog w K p loose mg mb rk sc ρ σ (.Assign [.Subscript (.Name o op) i sp] e pos) (.next, ρ, σ₃.set n (.lst ds')) := by
  intro A env h₀ L m ext fro ca led s Q act S R' P
  refine wpAny_Assign_Subscript (Sd.e _ _ _ _ _ h1 act S R'.R fun v g₁ tk₁ fro₁ led₁ sub₁ S₁ l₁ => ?_) (by cases e <;> rfl)
  obtain ⟨fro₂, led₂, sub₂, S₂, hd⟩ := frz_ok S₁ l₁ h2
  refine Sd.e _ _ _ _ _ h3 act S₂ (R'.R.mono fun q hq => sub₂ q (sub₁ q hq)) fun u g₃ tk₃ fro₃ led₃ sub₃ S₃ l₃ => ?_
  refine Sd.e _ _ _ _ _ h4 act S₃ (R'.R.mono fun q hq => sub₃ q (sub₂ q (sub₁ q hq))) fun x g₄ tk₄ fro₄ led₄ sub₄ S₄ l₄ => ?_
  cases l₃ with
  | @c a _ hc =>
    cases l₄ with
    | d hi =>
      cases hi with
      | int _ t =>
        obtain ⟨vs, c, hm, hall, up⟩ := S₄.upd hc h5
        have hv := hd.mono fun q hq => sub₄ q (sub₃ q hq)
        simp only [setAt] at h6
        split at h6
        · rename_i hg
          simp only [Bool.and_eq_true, decide_eq_true_eq] at hg
          have hsm := small_lt hg.1
          simp only [Option.map_eq_some_iff] at h6
          obtain ⟨j, hj, rfl⟩ := h6
          obtain ⟨hlt, hcase⟩ := atI_lt hj
          have hlen := hall.length
          obtain ⟨led', u, done⟩ := up (vs.set j v) c (ds.set j q.1) (datAll_set hall hv j)
          obtain ⟨pre, post, e1, e2, o1, o2⟩ := u.split
          have ho : g₄.get? a = some (W.listOf vs.toArray c) := (S₄.N _ hm).1
          have fin : Q .next { s with heap := g₄.update a (Obj.mapSeq (·.setIfInBounds j v)), toks := tk₄ } := by
            have N := S₄.N
            rw [e1] at N
            have hDL := (N (a, W.listOf vs.toArray c) (List.mem_append.mpr (.inr (.head _)))).2
            have N' := ki_turn (fun xs => xs.setIfInBounds j v) (its' := (vs.set j v).toArray) (n' := c) N o1 o2 (by simp) (by simp)
            rw [← e2] at N'
            refine P _ _ tk₄ m fro₄ [] led' (fun q hq => sub₄ q (sub₃ q (sub₂ q (sub₁ q hq)))) ?_ ?_ .next
            · simpa using done _ (S₄.F.change (Heap.SameBut.update ..) hDL.1 hDL.2) N'
            · simpa using R'.mono fun q hq => sub₄ q (sub₃ q (sub₂ q (sub₁ q hq)))
          rcases hcase with ⟨h7, h8, rfl⟩ | ⟨h7, h8, rfl⟩
          · exact ki_setAt ho h7 (by omega) (by simp only [List.size_toArray]; omega) fin
          · have e9 : ((vs.toArray.size : Nat) : Int) = (ds.length : Int) := by simp only [List.size_toArray]; omega
            exact ki_setBack ho h7 (by rw [e9]; exact h8) (by omega) (by rw [e9]; exact fin)
        · cases h6
theorem sok_append {R : Evs} (Sd : Sound prog w K p loose mg mb rk R) {o : Str} {op ap cp pos : Pos} {a : Expr} {p₁ : LV × Sig} {q : Dat × Sig} {n : Nat} {σ₁ : Sig} {ds₀ : List Dat} {ds : List Dat} (hl : ap.endLine = cp.line)
    (h1 : R.e sc ρ (.Name o op) σ = some (.c n, σ₁)) (h0 : σ₁[n]? = some (.lst ds₀)) (h2 : R.e sc ρ a σ₁ = some p₁) (h3 : frz p₁.2 p₁.1 = some q) (h4 : q.2[n]? = some (.lst ds)) (h5 : ds.length ≤ 1000) :
    SOK prog w K p loose mg mb rk sc ρ σ (.Expr (.Call (.Attribute (.Name o op) "append" ap) [a] [] cp) pos) (.next, ρ, q.2.set n (.lst (ds ++ [q.1]))) := by
  intro A env h₀ L m ext fro ca led s Q act S R' P
  have hi : interactive env = false := by
    show (env.scope.kind == .module && _) = false
    rw [R'.R.kind]; rfl
  refine wpAny_Expr ?_ hi rfl
  refine meth1 rfl (star_one Sd h2) hl (Sd.e _ _ _ _ _ h1 act S R'.R fun v h' tk fro' led' sub S' lv => ?_)
  cases lv with
  | @c b _ hc =>
    have hq := h0
    · obtain ⟨vs₀, c₀, hm₀, _⟩ := S'.R.get hc hq
      refine kf_method S'.N (S'.inled _ hm₀) slot_list_append type_list_append ?_
      refine PyProof.Rows.callWith_method1 ?_ (star_one Sd h2) rfl
      refine items_ok (fun e σ r => Sd.e sc ρ e σ r) (fun v q σ => Sd.star sc ρ v q σ) (evL_one h2) act S' (R'.R.mono sub) fun vs' h'' tk' fro'' led'' sub' S'' lv => ?_
      cases lv with
      | @cons v₁ _ _ _ l1 lr =>
        cases lr
        obtain ⟨fro₂, led₂, sub₂, S₂, hd⟩ := frz_ok S'' l1 h3
        obtain ⟨vs, c, hm, hall, up⟩ := S₂.upd hc h4
        have hlen := hall.length
        obtain ⟨led₃, u, done⟩ := up (vs ++ [v₁]) (c + 1) (ds ++ [q.1]) (datAll_snoc hall hd)
        have e : (vs ++ [v₁]).toArray = vs.toArray.push v₁ := by simp
        rw [e] at u
        refine append_K (s := { s with heap := h'', toks := tk' }) S₂.F S₂.N u (fun g F N => ?_) (by simp only [List.size_toArray]; have := sizeLine_big; omega)
        have sub3 : ∀ q ∈ fro, q ∈ fro₂ := fun q hq => sub₂ q (sub' q (sub q hq))
        exact P _ g tk' m fro₂ [] led₃ sub3 (by simpa using done g F N) (by simpa using R'.mono sub3) .next
theorem stepS_ok {R : Evs} (Sd : Sound prog w K p loose mg mb rk R) (hB : BltOK K) {mt : Str → Bool} {f : Rho → Sig → Stmt → SRes} (H : ∀ ρ σ st r, f ρ σ st = some r → SOK prog w K p loose mg mb rk sc ρ σ st r) {st : Stmt} {r : Fl × Rho × Sig}
    (h : stepS R mt sc f ρ σ st = some r) : SOK prog w K p loose mg mb rk sc ρ σ st r := by
  intro A env h₀ L m ext fro ca led s Q
  replace h := Option.bind_eq_some_iff.mp h
  obtain ⟨v, hv, h⟩ := h
  clear hv
  cases v
  all_goals (delta stepSV at h; dsimp only at h)
  · simp only [Option.bind_eq_some_iff, Option.map_eq_some_iff] at h
    obtain ⟨⟨lv, σ₁⟩, h1, ⟨d, σ₂⟩, h2, rfl⟩ := h
    exact sok_return (Sd.e _ _ _ _ _ h1) h2
  · simp only [Option.bind_eq_some_iff] at h
    obtain ⟨⟨v, σ₁⟩, h1, h2⟩ := h
    exact sok_if H (Sd.t _ _ _ _ _ h1) h2
  · split at h
    · rename_i hc
      simp only [Bool.and_eq_true, decide_eq_true_eq, Bool.not_eq_true'] at hc
      simp only [Option.map_eq_some_iff] at h
      obtain ⟨q, h1, rfl⟩ := h
      exact sok_comp Sd hB hc.1.1 hc.1.2 hc.2 (by simp only [Option.map_eq_some_iff]; exact h1)
    · cases h
  · split at h
    · rename_i hc
      simp only [Bool.and_eq_true] at hc
      simp only [Option.map_eq_some_iff] at h
      obtain ⟨q, h1, rfl⟩ := h
      exact sok_name Sd hB hc.1 hc.2 h1
    · cases h
  · simp only [Option.bind_eq_some_iff] at h
    obtain ⟨xs, h1, h2⟩ := h
    split at h2
    · rename_i hc
      simp only [Bool.and_eq_true, decide_eq_true_eq, Bool.not_eq_true', List.all_eq_true] at hc
      simp only [Option.bind_eq_some_iff, Option.map_eq_some_iff] at h2
      obtain ⟨⟨lvs, σ₁⟩, h3, ρ', h4, rfl⟩ := h2
      obtain ⟨⟨⟨⟨⟨⟨c1, c2⟩, c3⟩, c4⟩, c5⟩, c6⟩, c7⟩ := hc
      exact sok_swap Sd hB h1 c1 c2 c3 c4 c5 c6 c7 h3 h4
    · cases h2
  · split at h
    · rename_i hc
      simp only [Option.bind_eq_some_iff, Option.map_eq_some_iff] at h
      obtain ⟨⟨lv, σ₁⟩, h1, x, h2, ρ', h3, rfl⟩ := h
      exact sok_unpack Sd hc h1 h2 h3
    · cases h
  · simp only [Option.bind_eq_some_iff] at h
    obtain ⟨⟨lv, σ₁⟩, h1, ⟨d, σ₂⟩, h2, ⟨c, σ₃⟩, h3, ⟨j, σ₄⟩, h4, h5⟩ := h
    split at h5
    · rename_i n k hc hj
      simp only at hc hj
      subst hc; subst hj
      split at h5
      · rename_i ds hd
        simp only [Option.map_eq_some_iff] at h5
        obtain ⟨ds', h6, rfl⟩ := h5
        exact sok_setitem Sd h1 h2 h3 h4 hd h6
      · cases h5
    · cases h5
  · simp only [Option.bind_eq_some_iff] at h
    obtain ⟨⟨ds, σ₁⟩, h1, h2⟩ := h
    exact sok_for Sd hB (bodyf := fun ρ' σ' => evSs f _ ρ' σ') (fun ρ σ r h => ss_ok H _ _ _ _ h) h1 h2
  · split at h
    · rename_i hc
      simp only [Bool.and_eq_true, decide_eq_true_eq] at hc
      obtain ⟨rfl, hc⟩ := hc
      simp only [Option.bind_eq_some_iff] at h
      obtain ⟨⟨c, σ₁⟩, h1, h0⟩ := h
      split at h0
      · rename_i n hc'
        simp only at hc'
        subst hc'
        split at h0
        · rename_i ds₀ hd₀
          simp only [Option.bind_eq_some_iff] at h0
          obtain ⟨⟨lv, σ₂⟩, h2, ⟨d, σ₃⟩, h3, h4⟩ := h0
          split at h4
          · rename_i ds hd
            split at h4
            · rename_i hl
              cases h4
              exact sok_append Sd hc h1 hd₀ h2 h3 hd hl
            · cases h4
          · cases h4
        · cases h0
      · cases h0
    · cases h
end
/-- a def of the text, as the heap holds it -/
structure FnAt (K : Frag) (f : Str) (fn : Fn) : Prop where
  here : ∃ fa oc od osl name qual params doc pm an cdv ct dV kV, nsIn K mainGlobals f = some (some (.ref fa)) ∧ K.lookup fa = some ⟨oc, od, .func (fnX name qual params fn.body fn.scope [] dV kV doc pm an cdv ct), osl⟩ ∧ codeIn K cdv qual = true ∧
    ∀ vs : List Value, vs.length = fn.params.length → bindArgs (fnX name qual params fn.body fn.scope [] dV kV doc pm an cdv ct) ⟨vs, []⟩ = pure (fn.params.zip vs)
  co : fn.scope.isCoroutine = false
  gen : fn.scope.isGenerator = false
  kind : fn.scope.kind = .function
  cells : ((cellsFrom 0 fn.scope.names []).map (·.1)).Nodup
  pk : (fn.params.all fun x => (fn.scope.names.lookup x == some .local || fn.scope.names.lookup x == some .cell) && notDebug x) = true
  nd : fn.params.Nodup
section
variable {prog : Program} {w : World} {K : Frag} {p : Program} {loose : List Str} {mg mb : Str → Option Value} {rk : Nat}
  {A : Around} {env : Env} {h₀ : Heap} {L : Addr} {m : Str → Option Value} {ext fro : List (Addr × Obj)} {ca : List Addr} {led : List (Addr × Obj)} {s : Shared} {sc : Scope} {ρ : Rho} {σ : Sig}
theorem evS_ok {G : Ctr} (hG : GOK prog w K p loose mg mb rk G) (hB : BltOK K) {mt : Str → Bool} : ∀ n ρ σ st r, evS G mt sc n ρ σ st = some r → SOK prog w K p loose mg mb rk sc ρ σ st r := by
  intro n
  induction n with
  | zero => intro ρ σ st r h; simp [evS] at h
  | succ n ih => intro ρ σ st r h; exact stepS_ok (evAll_ok hG hB n) hB ih h
theorem bindL_out {k : Str → Option NameKind} {x : Str} : ∀ {ps : List Str} {vs : List Value} {m : Str → Option Value}, x ∉ ps → bindL k (ps.zip vs) m x = m x
  | [], _, _, _ => rfl
  | _ :: _, [], _, _ => rfl
  | a :: ps, v :: vs, m, h => by
    simp only [List.mem_cons, not_or] at h
    show bindL k (ps.zip vs) _ x = m x
    rw [bindL_out h.2]
    split
    · simp [h.1]
    · rfl
theorem bindC_out {k : Str → Option NameKind} {x : Str} : ∀ {ps : List Str} {vs : List Value} {m : Str → Option Value}, x ∉ ps → bindC k (ps.zip vs) m x = m x
  | [], _, _, _ => rfl
  | _ :: _, [], _, _ => rfl
  | a :: ps, v :: vs, m, h => by
    simp only [List.mem_cons, not_or] at h
    show bindC k (ps.zip vs) _ x = m x
    rw [bindC_out h.2]
    split
    · rfl
    · simp [h.1]
theorem bind_look {k : Str → Option NameKind} {fro : List (Addr × Obj)} {ca : List Addr} {x : Str} {lv : LV} : ∀ {ps : List Str} {vs : List Value} {args : List LV} {ρ : Rho}, bindR ps args = some ρ → LVRs fro ca vs args → ps.Nodup → ρ.lookup x = some lv →
    x ∈ ps ∧ ∃ v, LVR fro ca v lv ∧ (k x = some .local → ∀ m, bindL k (ps.zip vs) m x = some v) ∧ (k x ≠ some .local → ∀ m, bindC k (ps.zip vs) m x = some v) := by
  intro ps
  induction ps with
  | nil =>
    intro vs args ρ h hv nd e
    cases args with
    | nil => simp only [bindR, Option.some.injEq] at h; subst h; simp at e
    | cons _ _ => simp [bindR] at h
  | cons a ps ih =>
    intro vs args ρ h hv nd e
    cases hv with
    | nil => simp [bindR] at h
    | @cons v vs y ys hv hr =>
      simp only [bindR, Option.map_eq_some_iff] at h
      obtain ⟨ρ', h1, rfl⟩ := h
      simp only [List.nodup_cons] at nd
      rw [List.lookup_cons] at e
      split at e
      · rename_i q
        have := beq_iff_eq.mp q
        subst this
        cases e
        refine ⟨.head _, v, hv, fun hk m => ?_, fun hk m => ?_⟩
        · show bindL k (ps.zip vs) _ x = _
          rw [bindL_out nd.1]; simp [hk]
        · show bindC k (ps.zip vs) _ x = _
          rw [bindC_out nd.1]; simp [hk]
      · obtain ⟨hm, u, h2, h3, h4⟩ := ih h1 hr nd.2 e
        exact ⟨.tail _ hm, u, h2, fun hk m => h3 hk _, fun hk m => h4 hk _⟩
theorem cellsFrom_ge : ∀ (names : List (Str × NameKind)) (k n : Nat) (acc : List (Str × Addr)), k ≤ n → (∀ q ∈ acc, k ≤ q.2) → ∀ q ∈ cellsFrom n names acc, k ≤ q.2
  | [], _, _, _, _, h, q, hq => h q hq
  | (x, kd) :: r, k, n, acc, hn, h, q, hq => by
    unfold cellsFrom at hq
    split at hq
    · refine cellsFrom_ge r k (n + 1) _ (Nat.le_succ_of_le hn) (fun q hq => ?_) q hq
      rcases List.mem_cons.mp hq with rfl | hq
      · exact hn
      · exact h q hq
    · exact cellsFrom_ge r k n _ hn h q hq
theorem cells_look {cm : Str → Option Value} {cs : List (Str × Addr)} {cells : List (Addr × Obj)} (X : CellsAre cm cs cells) : (∀ q ∈ cells, ∃ x, (x, q.1) ∈ cs) ∧ ∀ x c, cs.lookup x = some c → ∃ o, (c, o) ∈ cells ∧ o.data = .cell (cm x) := by
  induction X with
  | nil => exact ⟨fun q hq => (nomatch hq), fun x c e => by simp at e⟩
  | @cons n c o cs cells hd _ ih =>
    refine ⟨fun q hq => ?_, fun x c' e => ?_⟩
    · rcases List.mem_cons.mp hq with rfl | hq
      · exact ⟨n, .head _⟩
      · obtain ⟨x, hx⟩ := ih.1 q hq; exact ⟨x, .tail _ hx⟩
    · rw [List.lookup_cons] at e
      split at e
      · rename_i q
        have := beq_iff_eq.mp q
        subst this
        cases e
        exact ⟨o, .head _, hd⟩
      · obtain ⟨o', a, b⟩ := ih.2 x c' e; exact ⟨o', .tail _ a, b⟩
theorem bindR_length : ∀ {ps : List Str} {args : List LV} {ρ : Rho}, bindR ps args = some ρ → ps.length = args.length
  | [], [], _, _ => rfl
  | _ :: _, _ :: _, _, h => by
    simp only [bindR, Option.map_eq_some_iff] at h
    obtain ⟨r, h, _⟩ := h
    simp [bindR_length h]
  | [], _ :: _, _, h => by simp [bindR] at h
  | _ :: _, [], _, h => by simp [bindR] at h
/-- a def's call, by its body -/
theorem call_fn {f : Str} {fn : Fn} (hf : FnAt K f fn) {args : List LV} {ρ : Rho} {x : Dat} {ρ' : Rho} {σ' : Sig} (hb : bindR fn.params args = some ρ) (H : SsOK prog w K p loose mg mb rk fn.scope ρ σ fn.body (.ret x, ρ', σ')) :
    CallOK prog w K p loose mg mb (rk + 1) f args σ (x, σ'.take σ.length) := by
  obtain ⟨fa, oc, od, osl, name, qual, params, doc, pm, an, cdv, ct, dV, kV, h1, h2, h3, h4⟩ := hf.here
  refine ⟨fa, _, _, h1, h2, rfl, ?_⟩
  intro A h₀ L m ext fro ca led s Q vs act S lv P
  obtain ⟨A₀, base, outer, fenv, B, hA, hfr, hke⟩ := act.ex
  have dp := act.dp
  have un := act.un
  have hlen : vs.length = fn.params.length := by rw [lv.length, ← bindR_length hb]
  have pk := List.all_eq_true.mp hf.pk
  refine wpAny_call ?_
  refine callX_cells B S.F S.N act.T.nolimit hA hfr hke ((act.X.keeps S.F.keep) _ _ h2) rfl (codeRec_of (act.X.keeps S.F.keep) h3) (by unfold recursionLimit; omega) (BindsTo.of_eq (h4 vs hlen)) (kindsX ?_) hf.cells ?_ hf.co hf.gen hf.kind
  · refine List.all_eq_true.mpr fun y hy => ?_
    have hy1 := (List.of_mem_zip hy).1
    have := pk y.1 hy1
    simp only [Bool.and_eq_true] at this
    exact this.1
  · intro g L' h₁ tk cells FG F' N' X B' st lt
    obtain ⟨cX1, cX2⟩ := cells_look X
    have above : ∀ q ∈ cells, L' + 1 ≤ q.1 := fun q hq => by
      obtain ⟨y, hy⟩ := cX1 q hq
      exact cellsFrom_ge _ (L' + 1) _ _ (Nat.le_refl _) (by intro _ h; cases h) _ hy
    have act' : Act K p loose mg mb (A.deeper (envOfC qual fn.scope L' fa cdv)) g L' rk := by
      refine ⟨⟨A, base, fenv :: outer, envOfC qual fn.scope L' fa cdv, B', ?_, rfl, hf.kind⟩, act.X.keeps st, act.T.keeps st, act.hh, ?_, ?_, act.gd⟩
      · show A.frames.map _ = _
        rw [hA]; rfl
      · show A.depth + 1 + (rk + 2) ≤ 900
        omega
      · show A.units + 3 + (5 * rk + 200) ≤ 9000
        omega
    have S' : SI g L' (bindL (envOfC qual fn.scope L' fa cdv).kindOf (fn.params.zip vs) fun _ => none) ext (cells ++ fro) ca σ led h₁ := by
      refine ⟨F', fun q hq => N' q ?_, S.R.mono fun q hq => List.mem_append.mpr (.inr hq), S.nd, fun q hq r hr => ?_, fun q hq r hr => ?_⟩
      · simp only [List.mem_append] at hq ⊢
        rcases hq with h | h | h | h
        · exact .inr (.inl h)
        · exact .inr (.inr (.inl h))
        · exact .inl h
        · exact .inr (.inr (.inr h))
      · simp only [List.mem_append] at hr
        rcases hr with h | h | h
        · exact S.ap q hq r (List.mem_append.mpr (.inl h))
        · have a1 := lt q (S.inled q hq)
          have a2 := above r h
          exact fun e => Nat.lt_irrefl _ (Nat.lt_of_lt_of_le (Nat.lt_succ_of_lt (e ▸ a1 : r.1 < L')) a2)
        · exact S.ap q hq r (List.mem_append.mpr (.inr h))
      · simp only [List.mem_append] at hr
        rcases hr with h | h
        · have a1 := lt q (S.inext q (List.mem_append.mpr (.inl hq)))
          have a2 := above r h
          exact fun e => Nat.lt_irrefl _ (Nat.lt_of_lt_of_le (Nat.lt_succ_of_lt (e ▸ a1 : r.1 < L')) a2)
        · exact S.ap2 q hq r h
    have R' : EnvF (envOfC qual fn.scope L' fa cdv) fn.scope L' (bindL (envOfC qual fn.scope L' fa cdv).kindOf (fn.params.zip vs) fun _ => none) (ext ++ (cells ++ fro)) (cells ++ fro) ca ρ := by
      refine ⟨⟨fun y ly e => ?_, hf.kind, rfl, rfl, fun _ e => e, fun _ e => e⟩, rfl, rfl⟩
      obtain ⟨hm, v, hv, hl, hc⟩ := bind_look (k := (envOfC qual fn.scope L' fa cdv).kindOf) hb lv hf.nd e
      have hpk := pk y hm
      simp only [Bool.and_eq_true, notDebug, Bool.not_eq_true', Bool.or_eq_true, beq_iff_eq] at hpk
      refine ⟨v, ⟨by simpa using hpk.2, ?_⟩, hv.mono fun q hq => List.mem_append.mpr (.inr hq)⟩
      rcases hpk.1 with hk | hk
      · exact .inl ⟨hk, rfl, hl hk _⟩
      · refine .inr (.inr ⟨hk, ?_⟩)
        have hs := cellsFrom_some fn.scope.names (L' + 1) [] (.inl hk)
        obtain ⟨c, hcl⟩ := Option.isSome_iff_exists.mp hs
        obtain ⟨o, ho, hd⟩ := cX2 y c hcl
        refine ⟨c, o, hcl, List.mem_append.mpr (.inl ho), ?_⟩
        have hne : (envOfC qual fn.scope L' fa cdv).kindOf y ≠ some .local := by
          show fn.scope.names.lookup y ≠ _
          rw [hk]; simp
        rw [hd, hc hne]
    refine wpAny_mono (H act' S' R' (Q := fun fl s' => LeaveK h₀ L m g _ (match fl with | .ret v => v | _ => .none) s') (s := { s with heap := h₁, toks := tk }) fun fl h' tk' m' fro' more led' sub S2 R2 hfl => ?_) (fun _ _ x => x) fun _ _ x => x.elim
    cases hfl with
    | ret hd =>
      refine ⟨L', m', _, S2.F, S2.N, fun F N => ?_⟩
      obtain ⟨led₂, lr, sl⟩ := S2.R.take ca.length
      have hca : ca.length = σ.length := S.R.length
      rw [List.take_left' rfl, hca] at lr
      refine P _ h' tk' fro' led₂ (fun q hq => sub q (List.mem_append.mpr (.inr hq))) ⟨F, fun q hq => N q ?_, lr, ?_, fun q hq r hr => S2.ap q (sl.subset hq) r hr, S2.ap2⟩ (.d hd)
      · rcases List.mem_append.mp hq with h | h
        · exact List.mem_append.mpr (.inl (sl.subset h))
        · exact List.mem_append.mpr (.inr h)
      · exact S2.nd.sublist (sl.map _)
end
noncomputable def mtsOf (x : Str) : List Str :=
  if x = "law" then ["feed", "memory"] else if x = "_law_alone" then ["other"] else if x = "_law_moved" then ["due"] else if x = "listing" then ["found"] else []
noncomputable def fnOf : Stmt → Option (Str × Fn)
  | .FunctionDef name args body _ _ _ scope _ _ _ => some (name, ⟨args.args.map (·.arg), body, scope, mtsOf name⟩)
  | _ => none
noncomputable def stmts : List Stmt := PySem.Challenge.pw_sa0632_01.main.body
noncomputable def fnI (i : Nat) : Str × Fn := match (stmts.drop i).head? with
  | some st => (match fnOf st with | some q => q | none => ("", ⟨[], [], ⟨.function, [], false, false, []⟩, []⟩))
  | none => ("", ⟨[], [], ⟨.function, [], false, false, []⟩, []⟩)
noncomputable def fns : List (Str × Fn) := [fnI 5, fnI 6, fnI 7, fnI 8, fnI 9, fnI 10, fnI 11, fnI 12, fnI 13, fnI 14, fnI 15, fnI 16, fnI 17, fnI 19, fnI 20, fnI 21, fnI 22, fnI 23]
noncomputable def Mem.pk (M : Mem) (a : Int) : Int := match M.ds[(a.fmod (M.ds.length : Int)).toNat]? with
  | some (.int v) => v
  | _ => 0
noncomputable def sgn (a : Int) : Int := if 127 < a then a - 256 else a
noncomputable def G0 : Ctr := fun f args σ => match args with
  | [.c k, .d (.int a)] => (match σ[k]? with
    | some (.mem M) => if f = "peek" then some (.int (M.pk a), σ) else if f = "peek16" then some (.int (M.pk a + 256 * M.pk (Builtin.bitAnd (a + 1) 65535)), σ) else none
    | _ => none)
  | [.d (.int a)] => if f = "signed_octet" then some (.int (sgn a), σ) else none
  | _ => none
/-- extra_order: its last three rows, which make a dict, told apart -/
noncomputable def exTab : List (Int × Dat) := [(68, .tuple [.str "NEG", .list []]), (69, .tuple [.str "RETN", .list []]), (77, .tuple [.str "RETI", .list []]), (70, .tuple [.str "IM", .list [.tuple [.str "n", .int 0]]]),
  (86, .tuple [.str "IM", .list [.tuple [.str "n", .int 1]]]), (94, .tuple [.str "IM", .list [.tuple [.str "n", .int 2]]])]
noncomputable def getD' (b : List (Int × Dat)) (k : Int) : Dat := match b with
  | [] => .none
  | (j, d) :: r => if j = k then d else getD' r k
noncomputable def exRunF (fn : Fn) (G : Ctr) (args : List LV) (σ : Sig) : Option (Dat × Sig) :=
  (bindR fn.params args).bind fun ρ => (evSs (evS G fn.mt.contains fn.scope 60) (fn.body.take 7) ρ σ).bind fun p => match p.1 with
    | .ret x => some (x, p.2.2.take σ.length)
    | .next => match p.2.1.lookup (Str.ofString "octet") with
      | some (.d (.int o)) => if (p.2.1.lookup (Str.ofString "told")).isNone then some (getD' exTab o, p.2.2.take σ.length) else none
      | _ => none
noncomputable def exRun : Ctr → List LV → Sig → Option (Dat × Sig) := exRunF (fnI 18).2
noncomputable def Gk : Nat → Ctr
  | 0 => G0
  | n + 1 => fun f args σ => match G0 f args σ with
    | some r => some r
    | none => match fns.lookup f with
      | some fn => runFn (Gk n) fn 60 args σ
      | none => if f = "extra_order" then exRun (Gk n) args σ else none
/-- a dict's pairs and what they tell -/
inductive PR (fro : List (Addr × Obj)) : List (Int × Value) → List (Int × Dat) → Prop
  | nil : PR fro [] []
  | cons {k : Int} {v : Value} {d : Dat} {a : List (Int × Value)} {b : List (Int × Dat)} : DatIn fro v d → PR fro a b → PR fro ((k, v) :: a) ((k, d) :: b)
theorem PR.mono {fro fro' : List (Addr × Obj)} {a : List (Int × Value)} {b : List (Int × Dat)} (h : PR fro a b) (hs : ∀ q ∈ fro, q ∈ fro') : PR fro' a b := by
  induction h with
  | nil => exact .nil
  | cons h _ ih => exact .cons (h.mono hs) ih
theorem PR.snoc {fro : List (Addr × Obj)} {a : List (Int × Value)} {b : List (Int × Dat)} (h : PR fro a b) {k : Int} {v : Value} {d : Dat} (hd : DatIn fro v d) : PR fro (a ++ [(k, v)]) (b ++ [(k, d)]) := by
  induction h with
  | nil => exact .cons hd .nil
  | cons h _ ih => exact .cons h ih
theorem PR.keys {fro : List (Addr × Obj)} {a : List (Int × Value)} {b : List (Int × Dat)} (h : PR fro a b) : a.map (·.1) = b.map (·.1) := by
  induction h with
  | nil => rfl
  | cons h _ ih => simp [ih]
theorem PR.at {fro : List (Addr × Obj)} {a : List (Int × Value)} {b : List (Int × Dat)} (h : PR fro a b) (k : Int) : DatIn fro ((valueAt a k).getD .none) (getD' b k) := by
  induction h with
  | nil => exact .none
  | @cons j v d a b h _ ih =>
    simp only [getD', valueAt, List.find?_cons]
    by_cases e : j = k
    · simp only [e, decide_true, if_true]; exact h
    · simp only [e, decide_false, if_false]; exact ih
section
variable {prog : Program} {w : World} {K : Frag} {p : Program} {loose : List Str} {mg mb : Str → Option Value} {rk : Nat}
  {A : Around} {env : Env} {h₀ : Heap} {L : Addr} {m : Str → Option Value} {ext fro : List (Addr × Obj)} {ca : List Addr} {led : List (Addr × Obj)} {s : Shared} {sc : Scope} {ρ : Rho} {σ : Sig}
theorem pairs_ok {R : Evs} (Sd : Sound prog w K p loose mg mb rk R) {pos : Pos} : ∀ {ks : List (Int × Nat × Pos)} {values : List Expr} {ds : List Dat} {σ : Sig} {fro led : List (Addr × Obj)} {s : Shared} {Q : List (Value × Value) → Shared → Prop},
    evL (R.e sc ρ) values σ = some (ds.map .d, σ) → (∀ v ∈ values, ∃ d, R.e sc ρ v σ = some (.d d, σ)) → ks.length = values.length → Act K p loose mg mb A h₀ L rk → SI h₀ L m ext fro ca σ led s.heap → EnvR env sc L m (ext ++ fro) fro ca ρ →
    (∀ vs h' tk fro' led', (∀ q ∈ fro, q ∈ fro') → SI h₀ L m ext fro' ca σ led' h' → allIntKeys vs = true → vs.length = ks.length → PR fro' (intKeyPairs vs) ((ks.map (·.1)).zip ds) → Q vs { s with heap := h', toks := tk }) →
    wpAny (model prog w) A (evalPairs (pairTrees (ks.map fun k => some (.Constant (.int k.1) k.2.1 k.2.2)) values env pos)) Q NoE s := by
  intro ks
  induction ks with
  | nil =>
    intro values ds σ fro led s Q e hv hl act S R' P
    cases values with
    | nil =>
      simp only [evL, Option.some.injEq, Prod.mk.injEq] at e
      have : ds = [] := by cases ds <;> simp at e ⊢
      subst this
      exact pairTrees_nil_walk (P [] s.heap s.toks fro led sub_refl S rfl rfl .nil)
    | cons _ _ => simp at hl
  | cons k ks ih =>
    intro values ds σ fro led s Q e hv hl act S R' P
    cases values with
    | nil => simp at hl
    | cons v values =>
      obtain ⟨d, hd⟩ := hv v (.head _)
      simp only [evL, hd, Option.bind_some, Option.bind_eq_some_iff, Option.some.injEq, Prod.mk.injEq] at e
      obtain ⟨⟨q1, q2⟩, e1, e2, rfl⟩ := e
      cases ds with
      | nil => simp at e2
      | cons d' ds =>
        simp only [List.map_cons, List.cons.injEq, LV.d.injEq] at e2
        obtain ⟨rfl, rfl⟩ := e2
        refine pairTrees_cons_walk ?_
        refine wpAny_Constant_int ?_
        refine Sd.e _ _ _ _ _ hd act (s := { s with toks := _ }) S R' fun v₁ h₁ tk₁ fro₁ led₁ sub₁ S₁ l₁ => ?_
        refine ih e1 (fun v hm => hv v (.tail _ hm)) (by simpa using hl) act S₁ (R'.mono sub₁) fun vs h' tk fro' led' sub S' ha hlen hp => ?_
        cases l₁ with
        | d hd₁ => exact P _ h' tk fro' led' (fun q hq => sub q (sub₁ q hq)) S' ha (by simp [hlen]) (.cons (hd₁.mono sub) hp)
theorem updF_mid {d : Addr} {o : Obj} {ext fro : List (Addr × Obj)} : ∀ {led : List (Addr × Obj)}, (∀ q ∈ led, q.1 ≠ d) → (∀ q ∈ ext ++ fro, q.1 ≠ d) → UpdF d o (led ++ (((d, o) :: ext) ++ fro)) (fun o' => led ++ (((d, o') :: ext) ++ fro))
  | [], _, h => .head h
  | q :: led, h1, h2 => .tail (h1 q (.head _)) (updF_mid (fun q hq => h1 q (.tail _ hq)) h2)
theorem SI.turnX {d : Addr} {o o' : Obj} {h h' : Heap} {m' : Str → Option Value} (S : SI h₀ L m ((d, o) :: ext) fro ca σ led h) (F : Fr h₀ L h' m') (N : News h₀ L h' (led ++ (((d, o') :: ext) ++ fro))) : SI h₀ L m' ((d, o') :: ext) fro ca σ led h' := by
  refine ⟨F, N, S.R, S.nd, fun q hq r hr => ?_, fun q hq r hr => ?_⟩
  · rcases List.mem_cons.mp hr with e | e
    · rw [e]; exact S.ap q hq (d, o) (.head _)
    · exact S.ap q hq r (.tail _ e)
  · rcases List.mem_cons.mp hq with e | e
    · rw [e]; exact S.ap2 (d, o) (.head _) r hr
    · exact S.ap2 q (.tail _ e) r hr
theorem SI.dropX {d : Addr} {o : Obj} {h : Heap} (S : SI h₀ L m ((d, o) :: ext) fro ca σ led h) : SI h₀ L m ext fro ca σ led h :=
  ⟨S.F, fun q hq => S.N q (by
    simp only [List.mem_append, List.mem_cons] at hq ⊢
    rcases hq with h | h | h
    · exact .inl h
    · exact .inr (.inl (.inr h))
    · exact .inr (.inr h)), S.R, S.nd, fun q hq r hr => S.ap q hq r (.tail _ hr), fun q hq r hr => S.ap2 q (.tail _ hq) r hr⟩
theorem EnvR.other {kn : List (Addr × Obj)} {x : Str} {v : Value} (h : EnvR env sc L m kn fro ca ρ) (hx : ρ.lookup x = none) : EnvR env sc L (fun y => if y = x then some v else m y) kn fro ca ρ := by
  refine ⟨fun y lv e => ?_, h.kind, h.gl, h.bl, h.glob, h.cell⟩
  obtain ⟨u, ⟨hb, hn⟩, hl⟩ := h.look y lv e
  have hy : y ≠ x := fun q => by rw [q, hx] at e; cases e
  refine ⟨u, ⟨hb, ?_⟩, hl⟩
  rcases hn with ⟨h1, h2, h3⟩ | h1 | h1
  · exact .inl ⟨h1, h2, by simpa [hy] using h3⟩
  · exact .inr (.inl h1)
  · exact .inr (.inr h1)
theorem dict_tail {R : Evs} (Sd : Sound prog w K p loose mg mb rk R) {T O : Str} {tp sp dp tp2 cp sbp ap tp3 atp op clp rp : Pos} {ck : Nat} {kN o : Int} {ks : List (Int × Nat × Pos)} {values : List Expr} {eN : Expr} {ds : List Dat} {dN : Dat}
    (hT : isLoc sc T = true) (hTr : ρ.lookup T = none) (hO : ρ.lookup O = some (.d (.int o))) (hOT : O ≠ T) (h1 : evL (R.e sc ρ) values σ = some (ds.map .d, σ)) (h2 : ∀ v ∈ values, ∃ d, R.e sc ρ v σ = some (.d d, σ)) (h3 : R.e sc ρ eN σ = some (.d dN, σ))
    (hl : ks.length = values.length) (h0 : ks ≠ []) (h15 : ks.length ≤ 15) (hdl : ds.length = ks.length) (hnd : (ks.map (·.1)).Nodup) (hkN : kN ∉ ks.map (·.1)) (hpe : plainE eN = true) (hat : atp.endLine = clp.line) :
    SsOK prog w K p loose mg mb rk sc ρ σ [.Assign [.Name T tp] (.Dict (ks.map fun k => some (.Constant (.int k.1) k.2.1 k.2.2)) values dp) sp, .Assign [.Subscript (.Name T tp2) (.Constant (.int kN) ck cp) sbp] eN ap,
      .Return (some (.Call (.Attribute (.Name T tp3) "get" atp) [.Name O op] [] clp)) rp] (.ret (getD' ((ks.map (·.1)).zip ds ++ [(kN, dN)]) o), ρ, σ) := by
  intro A env h₀ L m ext fro ca led s Q act S R' P
  have eL := R'.L
  subst eL
  have hk : env.kindOf T = some .local := by
    show env.scope.names.lookup T = _
    rw [R'.sc]; exact loc_lookup hT
  refine wpAny_execs_cons (wpAny_Assign_Name ?_ rfl)
  refine kdn_eval (knd := PySem.intKind prog w) S.F S.N act.T.nolimit (by simp) (by simpa using hl) (by simpa using h0) (by simpa using h15) fun d h₁ o₁ F N lt hm hd => ?_
  have S₁ : SI h₀ env.locals m ((d, o₁) :: ext) fro ca σ led h₁ := S.fresh F N lt
  have kn1 : ∀ {o' : Obj} {fro' : List (Addr × Obj)}, (∀ q ∈ fro, q ∈ fro') → ∀ q ∈ ext ++ fro, q ∈ ((d, o') :: ext) ++ fro' := fun sub q hq => by
    rcases List.mem_append.mp hq with h | h
    · exact List.mem_append.mpr (.inl (.tail _ h))
    · exact List.mem_append.mpr (.inr (sub q h))
  have env1 : ∀ {o' : Obj} {fro' : List (Addr × Obj)} , (∀ q ∈ fro, q ∈ fro') → EnvR env sc env.locals m (((d, o') :: ext) ++ fro') fro' ca ρ := fun sub =>
    ⟨fun x lv e => let ⟨v, a, b⟩ := R'.R.look x lv e; ⟨v, a.mono (kn1 sub) sub, b.mono sub⟩, R'.R.kind, R'.R.gl, R'.R.bl, R'.R.glob, R'.R.cell⟩
  have extd : ∀ q ∈ ext, q.1 ≠ d := fun q hq => Nat.ne_of_lt (lt q (S.inext q (List.mem_append.mpr (.inl hq))))
  refine pairs_ok (s := { s with heap := h₁ }) Sd h1 h2 hl act S₁ (env1 sub_refl) fun vs h₂ tk₂ fro₂ led₂ sub₂ S₂ ha hlen hp => ?_
  have mid : ∀ {o' : Obj} {fro' led' : List (Addr × Obj)} {h' : Heap} {m' : Str → Option Value}, SI h₀ env.locals m' ((d, o') :: ext) fro' ca σ led' h' → UpdF d o' (led' ++ (((d, o') :: ext) ++ fro')) (fun o'' => led' ++ (((d, o'') :: ext) ++ fro')) := fun S' =>
    updF_mid (fun q hq => S'.ap q hq (d, _) (.head _)) fun q hq => by
      rcases List.mem_append.mp hq with h | h
      · exact extd q h
      · exact fun e => S'.ap2 (d, _) (.head _) q h e.symm
  refine kdn_made_int (s := { s with heap := h₂, toks := tk₂ }) S₂.F S₂.N (mid S₂) hd ha ?_ fun h₃ o₃ F₃ N₃ hd₃ => ?_
  · rw [hp.keys]
    have : ((ks.map (·.1)).zip ds).map (·.1) = ks.map (·.1) := zip_fst (by simp [hdl])
    rw [this]; exact hnd
  have S₃ := S₂.turnX F₃ N₃
  refine wpAny_storeName_local hk S₃.F.ns (fun h₄ hn hs => ?_) (by rw [R'.R.kind]; rfl)
  have S₄ := S₃.at (S₃.F.set hn hs) (S₃.N.set hs)
  have env2 : ∀ {o' : Obj} {fro' : List (Addr × Obj)} , (∀ q ∈ fro, q ∈ fro') → EnvR env sc env.locals (fun y => if y = T then some (.ref d) else m y) (((d, o') :: ext) ++ fro') fro' ca ρ := fun sub => (env1 sub).other hTr
  have nameT : ∀ {o' : Obj} {fro' led' : List (Addr × Obj)} {s' : Shared} {pos : Pos} {QQ : Value → Shared → Prop}, SI h₀ env.locals (fun y => if y = T then some (.ref d) else m y) ((d, o') :: ext) fro' ca σ led' s'.heap → QQ (.ref d) s' → wpAny (model prog w) A (eval (.Name T pos) env) QQ NoE s' := fun S' q =>
    wpAny_Name (wpAny_loadName_local R'.R.kind hk S'.F.ns (by simp) q) (loc_debug hT)
  refine wpAny_execs_cons (wpAny_Assign_Subscript ?_ (by cases eN <;> rfl))
  refine Sd.e _ _ _ _ _ h3 act (s := { s with heap := h₄, toks := _ }) S₄ (env2 sub₂) fun vN h₅ tk₅ fro₅ led₅ sub₅ S₅ lN => ?_
  cases lN with
  | d hdN =>
    refine nameT (s' := { s with heap := h₅, toks := tk₅ }) S₅ ?_
    refine wpAny_Constant_int ?_
    refine kda_set (knd := PySem.intKind prog w) (s := { s with heap := h₅, toks := _ }) (k := kN) S₅.F S₅.N (mid S₅) hd₃ (intKind_is _ _ _ _) ?_ fun h₆ o₆ F₆ N₆ hd₆ => ?_
    · have e := hp.keys
      have : (intKeyPairs vs).length = ks.length := by
        have := congrArg List.length e
        simp only [List.length_map, List.length_zip, hdl] at this
        omega
      have := sizeLine_big
      omega
    have S₆ := S₅.turnX F₆ N₆
    have hst : stored (intKeyPairs vs) kN vN = intKeyPairs vs ++ [(kN, vN)] := by
      unfold stored
      rw [if_neg]
      intro hany
      rw [List.any_eq_true] at hany
      obtain ⟨q, hq, e⟩ := hany
      have e' : q.1 = kN := by simpa using e
      have : kN ∈ (intKeyPairs vs).map (·.1) := e' ▸ List.mem_map.mpr ⟨q, hq, rfl⟩
      rw [hp.keys, zip_fst (by simp [hdl])] at this
      exact hkN this
    rw [hst] at hd₆
    have hpr := ((hp.mono sub₅).snoc (k := kN) hdN).at o
    refine wpAny_execs_cons (wpAny_Return_some ?_)
    have subs : ∀ q ∈ fro, q ∈ fro₅ := fun q hq => sub₅ q (sub₂ q hq)
    refine meth1 rfl rfl hat ?_
    refine nameT (s' := { s with heap := h₆, toks := _ }) S₆ ?_
    refine kdg_method (knd := PySem.intKind prog w) S₆.N (S₆.inext _ (.head _)) hd₆ ?_
    refine PyProof.Rows.callWith_method1 ?_ rfl rfl
    obtain ⟨vO, hvO, hlO⟩ := (env2 (o' := o₆) subs).look O _ hO
    refine wpAny_items_cons ?_ rfl
    refine eok_name hO act (s := { s with heap := h₆, toks := _ }) S₆ (env2 subs) fun v₇ h₇ tk₇ fro₇ led₇ sub₇ S₇ l₇ => ?_
    refine wpAny_items_nil ?_
    cases l₇ with
    | d hd₇ =>
      cases hd₇ with
      | int _ t =>
        refine kdg_get1 (knd := PySem.intKind prog w) (s := { s with heap := h₇, toks := tk₇ }) (k := o) S₇.N (S₇.inext _ (.head _)) hd₆ hm (intKind_is _ _ _ _) _ rfl ?_
        refine P _ h₇ _ _ fro₇ [] led₇ (fun q hq => sub₇ q (subs q hq)) (by simpa using S₇.dropX) ⟨?_, rfl, R'.sc⟩ (.ret (hpr.mono sub₇))
        simpa using (R'.R.mono (fun q hq => sub₇ q (subs q hq))).other hTr
end
/-- a list handed in that only is read: it stands still from here on -/
noncomputable def memArg (σ : Sig) : LV → Option (Mem × Sig)
  | .d (.list ds) => if h : goodD ds = true then some (⟨ds, h⟩, σ) else none
  | .d _ => none
  | .c k => match σ[k]? with
    | some (.mem M) => some (M, σ)
    | some (.lst ds) => if h : goodD ds = true then some (⟨ds, h⟩, σ.set k (.mem ⟨ds, h⟩)) else none
    | _ => none
section
variable {prog : Program} {w : World} {K : Frag} {p : Program} {loose : List Str} {mg mb : Str → Option Value} {rk : Nat}
  {A : Around} {env : Env} {h₀ : Heap} {L : Addr} {m : Str → Option Value} {ext fro : List (Addr × Obj)} {ca : List Addr} {led : List (Addr × Obj)} {s : Shared} {sc : Scope} {ρ : Rho} {σ : Sig}
theorem memArg_ok {h : Heap} {v : Value} {mv : LV} {M : Mem} {σ' : Sig} (S : SI h₀ L m ext fro ca σ led h) (lv : LVR fro ca v mv) (hm : memArg σ mv = some (M, σ')) :
    ∃ fro' led', (∀ q ∈ fro, q ∈ fro') ∧ SI h₀ L m ext fro' ca σ' led' h ∧ DatIn fro' v (.list M.ds) := by
  cases lv with
  | @d v x hd =>
    cases x <;> simp only [memArg, reduceCtorEq] at hm
    split at hm
    · cases hm
      exact ⟨fro, led, sub_refl, S, hd⟩
    · cases hm
  | @c a k hc =>
    simp only [memArg] at hm
    split at hm
    · rename_i M' q
      cases hm
      exact ⟨fro, led, sub_refl, S, S.R.getMem hc q⟩
    · rename_i ds q
      split at hm
      · rename_i hg
        cases hm
        obtain ⟨o, led', S', hd⟩ := S.freeze hc q
        have hlt : k < σ.length := (List.getElem?_eq_some_iff.mp q).1
        have r := S'.R.revive (M := ⟨ds, hg⟩) hc (by simp [hlt]) hd
        rw [List.set_set] at r
        exact ⟨_, led', fun q hq => .tail _ hq, ⟨S'.F, S'.N, r, S'.nd, S'.ap, S'.ap2⟩, hd⟩
      · cases hm
    · cases hm
theorem lvrs_d {vs : List Value} {xs : List Dat} {ca' : List Addr} (h : LVRs fro ca vs (xs.map .d)) : LVRs fro ca' vs (xs.map .d) := by
  induction xs generalizing vs with
  | nil => cases h; exact .nil
  | cons x xs ih =>
    cases h with
    | cons a b => cases a with | d hd => exact .cons (.d hd) (ih b)
theorem lift_ok {f : Str} {args : List Dat} {x : Dat} {M M' : Mem} {mv : LV} {σ' : Sig} (H : CallOK prog w K p loose mg mb rk f (.c 0 :: args.map .d) [.mem M] (x, [.mem M'])) (hm : memArg σ mv = some (M, σ')) : CallOK prog w K p loose mg mb rk f (mv :: args.map .d) σ (x, σ') := by
  obtain ⟨fa, o, fd, h1, h2, h3, H⟩ := H
  refine ⟨fa, o, fd, h1, h2, h3, ?_⟩
  intro A h₀ L m ext fro ca led s Q vs act S lv P
  cases lv with
  | @cons v vs _ _ l1 lr =>
    obtain ⟨fro₁, led₁, sub₁, S₁, hd⟩ := memArg_ok S l1 hm
    obtain ⟨a, rfl⟩ : ∃ a, v = .ref a := by cases hd; exact ⟨_, rfl⟩
    have S₂ : SI h₀ L m (led₁ ++ ext) fro₁ [a] [.mem M] [] s.heap := by
      refine ⟨S₁.F, fun q hq => S₁.N q (by simpa using hq), .mem hd .nil, List.nodup_nil, fun q hq => (nomatch hq), fun q hq r hr => ?_⟩
      rcases List.mem_append.mp hq with h | h
      · exact S₁.ap q h r (List.mem_append.mpr (.inr hr))
      · exact S₁.ap2 q h r hr
    refine H act S₂ (.cons (.c rfl) (lvrs_d (lr.mono sub₁))) fun v' h' tk fro' led' sub S' l' => ?_
    have hled : led' = [] := by
      have r := S'.R
      cases r with
      | mem _ r => cases r; rfl
    subst hled
    have S₃ : SI h₀ L m ext fro' ca σ' led₁ h' := by
      refine ⟨S'.F, fun q hq => S'.N q (by simpa using hq), S₁.R.mono sub, S₁.nd, fun q hq r hr => ?_, fun q hq r hr => S'.ap2 q (List.mem_append.mpr (.inr hq)) r hr⟩
      rcases List.mem_append.mp hr with h | h
      · exact S₁.ap q hq r (List.mem_append.mpr (.inl h))
      · exact S'.ap2 q (List.mem_append.mpr (.inl hq)) r h
    refine P v' h' tk fro' led₁ (fun q hq => sub q (sub₁ q hq)) S₃ ?_
    cases l' with
    | d hd' => exact .d hd'
theorem CallOK.up {f : Str} {args : List LV} {r : Dat × Sig} (H : CallOK prog w K p loose mg mb rk f args σ r) (k : Nat) : CallOK prog w K p loose mg mb (rk + k) f args σ r := by
  obtain ⟨fa, o, fd, h1, h2, h3, H⟩ := H
  refine ⟨fa, o, fd, h1, h2, h3, fun act => H ⟨act.ex, act.X, act.T, act.hh, ?_, ?_, act.gd⟩⟩
  · have := act.dp; omega
  · have := act.un; omega
/-- a def's call, by its run -/
theorem run_ok {G : Ctr} (hG : GOK prog w K p loose mg mb rk G) (hB : BltOK K) {f : Str} {fn : Fn} (hf : FnAt K f fn) {n : Nat} {args : List LV} {r : Dat × Sig} (h : runFn G fn n args σ = some r) : CallOK prog w K p loose mg mb (rk + 1) f args σ r := by
  simp only [runFn, Option.bind_eq_some_iff] at h
  obtain ⟨ρ, h1, ⟨fl, ρ', σ'⟩, h2, h3⟩ := h
  split at h3
  · rename_i x hx
    simp only at hx
    subst hx
    cases h3
    exact call_fn hf h1 (ss_ok (evS_ok hG hB n) _ _ _ _ h2)
  · cases h3
theorem gok_none : GOK prog w K p loose mg mb rk fun _ _ _ => none := fun _ _ _ _ h => by cases h
theorem ss_app {f : Rho → Sig → Stmt → SRes} (H : ∀ ρ σ st r, f ρ σ st = some r → SOK prog w K p loose mg mb rk sc ρ σ st r) {post : List Stmt} : ∀ (pre : List Stmt) (ρ : Rho) (σ : Sig) {fl : Fl} {ρ₁ : Rho} {σ₁ : Sig} {r : Fl × Rho × Sig}, evSs f pre ρ σ = some (fl, ρ₁, σ₁) →
    (fl = .next → SsOK prog w K p loose mg mb rk sc ρ₁ σ₁ post r) → (∀ x, fl = .ret x → r = (.ret x, ρ₁, σ₁)) → SsOK prog w K p loose mg mb rk sc ρ σ (pre ++ post) r := by
  intro pre
  induction pre with
  | nil =>
    intro ρ σ fl ρ₁ σ₁ r e h1 h2
    simp only [evSs, Option.some.injEq, Prod.mk.injEq] at e
    obtain ⟨rfl, rfl, rfl⟩ := e
    exact h1 rfl
  | cons st pre ih =>
    intro ρ σ fl ρ₁ σ₁ r e h1 h2 A env h₀ L m ext fro ca led s Q act S R P
    simp only [evSs, Option.bind_eq_some_iff] at e
    obtain ⟨⟨fl', ρ₂, σ₂⟩, e1, e2⟩ := e
    refine wpAny_execs_cons (H _ _ _ _ e1 act S R fun f h' tk m' fro' more led' sub S' R' hf => ?_)
    cases fl' with
    | next =>
      cases hf
      simp only at e2
      refine ih _ _ e2 h1 h2 act S' R' fun f h'' tk' m'' fro'' more' led'' sub' S'' R'' hf => ?_
      rw [List.append_assoc] at S'' R''
      exact P f h'' tk' m'' fro'' (more ++ more') led'' (fun q hq => sub' q (sub q hq)) S'' R'' hf
    | ret x =>
      simp only [Option.some.injEq, Prod.mk.injEq] at e2
      obtain ⟨rfl, rfl, rfl⟩ := e2
      have := h2 x rfl
      subst this
      cases hf with
      | ret hd => exact P _ h' tk m' fro' more led' sub S' R' (.ret hd)
end
noncomputable def isDef : Stmt → Bool
  | .FunctionDef .. => true
  | _ => false
/-- the text's defs alone -/
noncomputable def vw : Program := { PySem.Challenge.pw_sa0632_01 with main := { PySem.Challenge.pw_sa0632_01.main with body := stmts.filter isDef } }
noncomputable def kE (P : Params) (x : String) (t : Nat) (v : Value) : DictEntry := { hash := PyData.keyHash P (Str.ofString x), key := .str (Str.ofString x) t, val := v }
noncomputable def fO (i a c : Nat) (md : String) (t : Nat) : Addr × Obj := (a, match (stmts.drop i).head? with
  | some (.FunctionDef name args body _ _ _ scope _ _ _) => { cls := .type "function", data := .func { name := name, qualname := name, params := args, body := .stmts body, scope := scope, globals := 3, closure := [], defaults := .none, kwdefaults := .none, pyModule := .str (Str.ofString md) t, code := .ref c } }
  | _ => { cls := .none })
/-- the heap's rows that the walk reads -/
noncomputable def frag (P : Params) : Frag := [
  (3, { cls := .type "dict", data := .dict #[kE P "__name__" 165 (.str (Str.ofString "law_sa0632_01") 466),
    kE P "__doc__" 166 (.none),
    kE P "__package__" 167 (.none),
    kE P "__loader__" 168 (.builtin "__main__.__loader__#opaque"),
    kE P "__spec__" 169 (.none),
    kE P "__annotations__" 170 (.ref 6),
    kE P "__builtins__" 171 (.ref 4),
    kE P "__file__" 173 (.str (Str.ofString "/claim/cut.py") 172),
    kE P "__cached__" 174 (.none),
    kE P "peek" 196 (.ref 21),
    kE P "peek16" 204 (.ref 28),
    kE P "signed_octet" 211 (.ref 35),
    kE P "small_names" 219 (.ref 42),
    kE P "place_told" 228 (.ref 49),
    kE P "pair_told" 237 (.ref 56),
    kE P "flag_told" 244 (.ref 63),
    kE P "short_goal" 252 (.ref 70),
    kE P "low_order" 268 (.ref 77),
    kE P "short_order" 278 (.ref 84),
    kE P "in_order" 286 (.ref 91),
    kE P "reckoning" 295 (.ref 98),
    kE P "high_order" 308 (.ref 105),
    kE P "other_order" 318 (.ref 112),
    kE P "main_order" 333 (.ref 119),
    kE P "bits_order" 343 (.ref 126),
    kE P "extra_order" 358 (.ref 133),
    kE P "block_names" 364 (.ref 140),
    kE P "far_octets" 374 (.ref 147),
    kE P "turns_by_index" 384 (.ref 154),
    kE P "is_beside" 394 (.ref 161),
    kE P "told_octets" 400 (.ref 166),
    kE P "index_order" 414 (.ref 173),
    kE P "decode" 426 (.ref 180),
    kE P "operand_text" 435 (.ref 187),
    kE P "order_text" 441 (.ref 192),
    kE P "disassemble" 452 (.ref 199),
    kE P "listing" 465 (.ref 206),
    kE P "_law_next" 477 (.ref 213),
    kE P "_law_alone" 483 (.ref 218),
    kE P "_law_moved" 496 (.ref 225),
    kE P "law" 502 (.ref 230)] 41 }),
  (20, { cls := .type "code", data := .fields #[.str (Str.ofString "peek") 189, .str (Str.ofString "peek") 190, .str (Str.ofString "/claim/cut.py") 191, .int 2 0, .int 2 0, .int 0 0, .int 0 0, .int 3 0, .ref 15, .bool true, .int 181 0, .ref 16, .none, .ref 17, .ref 18, .ref 19, .int 194 0, .int 2 0, .str (Str.ofString "/claim/cut.py") 195] }), fO 1 21 20 "z80.cpu" 187,
  (27, { cls := .type "code", data := .fields #[.str (Str.ofString "peek16") 197, .str (Str.ofString "peek16") 198, .str (Str.ofString "/claim/cut.py") 199, .int 4 0, .int 2 0, .int 0 0, .int 0 0, .int 3 0, .ref 22, .bool true, .int 181 0, .ref 23, .none, .ref 24, .ref 25, .ref 26, .int 202 0, .int 4 0, .str (Str.ofString "/claim/cut.py") 203] }), fO 2 28 27 "z80.cpu" 187,
  (34, { cls := .type "code", data := .fields #[.str (Str.ofString "signed_octet") 205, .str (Str.ofString "signed_octet") 206, .str (Str.ofString "/claim/cut.py") 207, .int 6 0, .int 1 0, .int 0 0, .int 0 0, .int 3 0, .ref 29, .bool true, .int 181 0, .ref 30, .none, .ref 31, .ref 32, .ref 33, .int 209 0, .int 6 0, .str (Str.ofString "/claim/cut.py") 210] }), fO 3 35 34 "z80.cpu" 187,
  (41, { cls := .type "code", data := .fields #[.str (Str.ofString "small_names") 214, .str (Str.ofString "small_names") 215, .str (Str.ofString "/claim/cut.py") 216, .int 9 0, .int 0 0, .int 0 0, .int 0 0, .int 3 0, .ref 36, .bool true, .int 181 0, .ref 37, .none, .ref 38, .ref 39, .ref 40, .int 217 0, .int 9 0, .str (Str.ofString "/claim/cut.py") 218] }), fO 5 42 41 "z80.disassembler" 212,
  (48, { cls := .type "code", data := .fields #[.str (Str.ofString "place_told") 220, .str (Str.ofString "place_told") 221, .str (Str.ofString "/claim/cut.py") 222, .int 11 0, .int 3 0, .int 0 0, .int 0 0, .int 3 0, .ref 43, .bool true, .int 181 0, .ref 44, .none, .ref 45, .ref 46, .ref 47, .int 226 0, .int 11 0, .str (Str.ofString "/claim/cut.py") 227] }), fO 6 49 48 "z80.disassembler" 212,
  (55, { cls := .type "code", data := .fields #[.str (Str.ofString "pair_told") 229, .str (Str.ofString "pair_told") 230, .str (Str.ofString "/claim/cut.py") 231, .int 17 0, .int 3 0, .int 0 0, .int 0 0, .int 3 0, .ref 50, .bool true, .int 181 0, .ref 51, .none, .ref 52, .ref 53, .ref 54, .int 235 0, .int 17 0, .str (Str.ofString "/claim/cut.py") 236] }), fO 7 56 55 "z80.disassembler" 212,
  (62, { cls := .type "code", data := .fields #[.str (Str.ofString "flag_told") 238, .str (Str.ofString "flag_told") 239, .str (Str.ofString "/claim/cut.py") 240, .int 21 0, .int 1 0, .int 0 0, .int 0 0, .int 3 0, .ref 57, .bool true, .int 181 0, .ref 58, .none, .ref 59, .ref 60, .ref 61, .int 242 0, .int 21 0, .str (Str.ofString "/claim/cut.py") 243] }), fO 8 63 62 "z80.disassembler" 212,
  (69, { cls := .type "code", data := .fields #[.str (Str.ofString "short_goal") 245, .str (Str.ofString "short_goal") 246, .str (Str.ofString "/claim/cut.py") 247, .int 23 0, .int 2 0, .int 0 0, .int 0 0, .int 3 0, .ref 64, .bool true, .int 181 0, .ref 65, .none, .ref 66, .ref 67, .ref 68, .int 250 0, .int 23 0, .str (Str.ofString "/claim/cut.py") 251] }), fO 9 70 69 "z80.disassembler" 212,
  (76, { cls := .type "code", data := .fields #[.str (Str.ofString "low_order") 253, .str (Str.ofString "low_order") 254, .str (Str.ofString "/claim/cut.py") 255, .int 25 0, .int 5 0, .int 0 0, .int 0 0, .int 3 0, .ref 71, .bool true, .int 181 0, .ref 72, .none, .ref 73, .ref 74, .ref 75, .int 266 0, .int 25 0, .str (Str.ofString "/claim/cut.py") 267] }), fO 10 77 76 "z80.disassembler" 212,
  (83, { cls := .type "code", data := .fields #[.str (Str.ofString "short_order") 269, .str (Str.ofString "short_order") 270, .str (Str.ofString "/claim/cut.py") 271, .int 46 0, .int 3 0, .int 0 0, .int 0 0, .int 3 0, .ref 78, .bool true, .int 181 0, .ref 79, .none, .ref 80, .ref 81, .ref 82, .int 276 0, .int 46 0, .str (Str.ofString "/claim/cut.py") 277] }), fO 11 84 83 "z80.disassembler" 212,
  (90, { cls := .type "code", data := .fields #[.str (Str.ofString "in_order") 279, .str (Str.ofString "in_order") 280, .str (Str.ofString "/claim/cut.py") 281, .int 53 0, .int 2 0, .int 0 0, .int 0 0, .int 3 0, .ref 85, .bool true, .int 181 0, .ref 86, .none, .ref 87, .ref 88, .ref 89, .int 284 0, .int 53 0, .str (Str.ofString "/claim/cut.py") 285] }), fO 12 91 90 "z80.disassembler" 212,
  (97, { cls := .type "code", data := .fields #[.str (Str.ofString "reckoning") 287, .str (Str.ofString "reckoning") 288, .str (Str.ofString "/claim/cut.py") 289, .int 55 0, .int 2 0, .int 0 0, .int 0 0, .int 3 0, .ref 92, .bool true, .int 181 0, .ref 93, .none, .ref 94, .ref 95, .ref 96, .int 293 0, .int 55 0, .str (Str.ofString "/claim/cut.py") 294] }), fO 13 98 97 "z80.disassembler" 212,
  (104, { cls := .type "code", data := .fields #[.str (Str.ofString "high_order") 296, .str (Str.ofString "high_order") 297, .str (Str.ofString "/claim/cut.py") 298, .int 58 0, .int 4 0, .int 0 0, .int 0 0, .int 3 0, .ref 99, .bool true, .int 181 0, .ref 100, .none, .ref 101, .ref 102, .ref 103, .int 306 0, .int 58 0, .str (Str.ofString "/claim/cut.py") 307] }), fO 14 105 104 "z80.disassembler" 212,
  (111, { cls := .type "code", data := .fields #[.str (Str.ofString "other_order") 309, .str (Str.ofString "other_order") 310, .str (Str.ofString "/claim/cut.py") 311, .int 74 0, .int 4 0, .int 0 0, .int 0 0, .int 3 0, .ref 106, .bool true, .int 181 0, .ref 107, .none, .ref 108, .ref 109, .ref 110, .int 316 0, .int 74 0, .str (Str.ofString "/claim/cut.py") 317] }), fO 15 112 111 "z80.disassembler" 212,
  (118, { cls := .type "code", data := .fields #[.str (Str.ofString "main_order") 319, .str (Str.ofString "main_order") 320, .str (Str.ofString "/claim/cut.py") 321, .int 84 0, .int 5 0, .int 0 0, .int 0 0, .int 3 0, .ref 113, .bool true, .int 181 0, .ref 114, .none, .ref 115, .ref 116, .ref 117, .int 331 0, .int 84 0, .str (Str.ofString "/claim/cut.py") 332] }), fO 16 119 118 "z80.disassembler" 212,
  (125, { cls := .type "code", data := .fields #[.str (Str.ofString "bits_order") 334, .str (Str.ofString "bits_order") 335, .str (Str.ofString "/claim/cut.py") 336, .int 98 0, .int 2 0, .int 0 0, .int 0 0, .int 3 0, .ref 120, .bool true, .int 181 0, .ref 121, .none, .ref 122, .ref 123, .ref 124, .int 341 0, .int 98 0, .str (Str.ofString "/claim/cut.py") 342] }), fO 17 126 125 "z80.disassembler" 212,
  (132, { cls := .type "code", data := .fields #[.str (Str.ofString "extra_order") 344, .str (Str.ofString "extra_order") 345, .str (Str.ofString "/claim/cut.py") 346, .int 103 0, .int 3 0, .int 0 0, .int 0 0, .int 3 0, .ref 127, .bool true, .int 181 0, .ref 128, .none, .ref 129, .ref 130, .ref 131, .int 356 0, .int 103 0, .str (Str.ofString "/claim/cut.py") 357] }), fO 18 133 132 "z80.disassembler" 212,
  (139, { cls := .type "code", data := .fields #[.str (Str.ofString "block_names") 359, .str (Str.ofString "block_names") 360, .str (Str.ofString "/claim/cut.py") 361, .int 122 0, .int 0 0, .int 0 0, .int 0 0, .int 3 0, .ref 134, .bool true, .int 181 0, .ref 135, .none, .ref 136, .ref 137, .ref 138, .int 362 0, .int 122 0, .str (Str.ofString "/claim/cut.py") 363] }), fO 19 140 139 "z80.disassembler" 212,
  (146, { cls := .type "code", data := .fields #[.str (Str.ofString "far_octets") 365, .str (Str.ofString "far_octets") 366, .str (Str.ofString "/claim/cut.py") 367, .int 124 0, .int 1 0, .int 0 0, .int 0 0, .int 3 0, .ref 141, .bool true, .int 181 0, .ref 142, .none, .ref 143, .ref 144, .ref 145, .int 372 0, .int 124 0, .str (Str.ofString "/claim/cut.py") 373] }), fO 20 147 146 "z80.disassembler" 212,
  (153, { cls := .type "code", data := .fields #[.str (Str.ofString "turns_by_index") 375, .str (Str.ofString "turns_by_index") 376, .str (Str.ofString "/claim/cut.py") 377, .int 137 0, .int 1 0, .int 0 0, .int 0 0, .int 3 0, .ref 148, .bool true, .int 181 0, .ref 149, .none, .ref 150, .ref 151, .ref 152, .int 382 0, .int 137 0, .str (Str.ofString "/claim/cut.py") 383] }), fO 21 154 153 "z80.disassembler" 212,
  (160, { cls := .type "code", data := .fields #[.str (Str.ofString "is_beside") 385, .str (Str.ofString "is_beside") 386, .str (Str.ofString "/claim/cut.py") 387, .int 148 0, .int 1 0, .int 0 0, .int 0 0, .int 3 0, .ref 155, .bool true, .int 181 0, .ref 156, .none, .ref 157, .ref 158, .ref 159, .int 392 0, .int 148 0, .str (Str.ofString "/claim/cut.py") 393] }), fO 22 161 160 "z80.disassembler" 212,
  (165, { cls := .type "code", data := .fields #[.str (Str.ofString "told_octets") 395, .str (Str.ofString "told_octets") 396, .str (Str.ofString "/claim/cut.py") 397, .int 153 0, .int 3 0, .int 0 0, .int 0 0, .int 3 0, .ref 162, .bool true, .int 181 0, .ref 163, .none, .none, .none, .ref 164, .int 398 0, .int 153 0, .str (Str.ofString "/claim/cut.py") 399] }), fO 23 166 165 "z80.disassembler" 212,
  (172, { cls := .type "code", data := .fields #[.str (Str.ofString "index_order") 401, .str (Str.ofString "index_order") 402, .str (Str.ofString "/claim/cut.py") 403, .int 155 0, .int 3 0, .int 0 0, .int 0 0, .int 3 0, .ref 167, .bool true, .int 181 0, .ref 168, .none, .ref 169, .ref 170, .ref 171, .int 412 0, .int 155 0, .str (Str.ofString "/claim/cut.py") 413] }), fO 24 173 172 "z80.disassembler" 212,
  (179, { cls := .type "code", data := .fields #[.str (Str.ofString "decode") 415, .str (Str.ofString "decode") 416, .str (Str.ofString "/claim/cut.py") 417, .int 168 0, .int 2 0, .int 0 0, .int 0 0, .int 3 0, .ref 174, .bool true, .int 181 0, .ref 175, .none, .ref 176, .ref 177, .ref 178, .int 424 0, .int 168 0, .str (Str.ofString "/claim/cut.py") 425] }), fO 25 180 179 "z80.disassembler" 212,
  (186, { cls := .type "code", data := .fields #[.str (Str.ofString "operand_text") 427, .str (Str.ofString "operand_text") 428, .str (Str.ofString "/claim/cut.py") 429, .int 181 0, .int 1 0, .int 0 0, .int 0 0, .int 3 0, .ref 181, .bool true, .int 181 0, .ref 182, .none, .ref 183, .ref 184, .ref 185, .int 433 0, .int 181 0, .str (Str.ofString "/claim/cut.py") 434] }), fO 26 187 186 "z80.disassembler" 212,
  (191, { cls := .type "code", data := .fields #[.str (Str.ofString "order_text") 436, .str (Str.ofString "order_text") 437, .str (Str.ofString "/claim/cut.py") 438, .int 190 0, .int 2 0, .int 0 0, .int 0 0, .int 3 0, .ref 188, .bool true, .int 181 0, .ref 189, .none, .none, .none, .ref 190, .int 439 0, .int 190 0, .str (Str.ofString "/claim/cut.py") 440] }), fO 27 192 191 "z80.disassembler" 212,
  (198, { cls := .type "code", data := .fields #[.str (Str.ofString "disassemble") 442, .str (Str.ofString "disassemble") 443, .str (Str.ofString "/claim/cut.py") 444, .int 194 0, .int 2 0, .int 0 0, .int 0 0, .int 3 0, .ref 193, .bool true, .int 181 0, .ref 194, .none, .ref 195, .ref 196, .ref 197, .int 450 0, .int 194 0, .str (Str.ofString "/claim/cut.py") 451] }), fO 28 199 198 "z80.disassembler" 212,
  (205, { cls := .type "code", data := .fields #[.str (Str.ofString "listing") 453, .str (Str.ofString "listing") 454, .str (Str.ofString "/claim/cut.py") 455, .int 197 0, .int 3 0, .int 0 0, .int 0 0, .int 3 0, .ref 200, .bool true, .int 181 0, .ref 201, .none, .ref 202, .ref 203, .ref 204, .int 463 0, .int 197 0, .str (Str.ofString "/claim/cut.py") 464] }), fO 29 206 205 "z80.disassembler" 212,
  (212, { cls := .type "code", data := .fields #[.str (Str.ofString "_law_next") 468, .str (Str.ofString "_law_next") 469, .str (Str.ofString "/claim/cut.py") 470, .int 205 0, .int 2 0, .int 0 0, .int 0 0, .int 3 0, .ref 207, .bool true, .int 181 0, .ref 208, .none, .ref 209, .ref 210, .ref 211, .int 475 0, .int 205 0, .str (Str.ofString "/claim/cut.py") 476] }), fO 31 213 212 "law_sa0632_01" 466,
  (217, { cls := .type "code", data := .fields #[.str (Str.ofString "_law_alone") 478, .str (Str.ofString "_law_alone") 479, .str (Str.ofString "/claim/cut.py") 480, .int 211 0, .int 2 0, .int 0 0, .int 0 0, .int 3 0, .ref 214, .bool true, .int 181 0, .ref 215, .none, .none, .none, .ref 216, .int 481 0, .int 211 0, .str (Str.ofString "/claim/cut.py") 482] }), fO 32 218 217 "law_sa0632_01" 466,
  (224, { cls := .type "code", data := .fields #[.str (Str.ofString "_law_moved") 484, .str (Str.ofString "_law_moved") 485, .str (Str.ofString "/claim/cut.py") 486, .int 220 0, .int 3 0, .int 0 0, .int 0 0, .int 3 0, .ref 219, .bool true, .int 181 0, .ref 220, .none, .ref 221, .ref 222, .ref 223, .int 494 0, .int 220 0, .str (Str.ofString "/claim/cut.py") 495] }), fO 33 225 224 "law_sa0632_01" 466,
  (229, { cls := .type "code", data := .fields #[.str (Str.ofString "law") 497, .str (Str.ofString "law") 498, .str (Str.ofString "/claim/cut.py") 499, .int 226 0, .int 1 0, .int 0 0, .int 0 0, .int 3 0, .ref 226, .bool true, .int 181 0, .ref 227, .none, .none, .none, .ref 228, .int 500 0, .int 226 0, .str (Str.ofString "/claim/cut.py") 501] }), fO 34 230 229 "law_sa0632_01" 466]
noncomputable def asL : List Addr := [3, 20, 21, 27, 28, 34, 35, 41, 42, 48, 49, 55, 56, 62, 63, 69, 70, 76, 77, 83, 84, 90, 91, 97, 98, 104, 105, 111, 112, 118, 119, 125, 126, 132, 133, 139, 140, 146, 147, 153, 154, 160, 161, 165, 166, 172, 173, 179, 180, 186, 187, 191, 192, 198, 199, 205, 206, 212, 213, 217, 218, 224, 225, 229, 230]
theorem asL_eq (P : Params) : asL = (frag P).map (·.1) := by kernel_rfl
noncomputable abbrev hk : Hook := kHook frag asL asL_eq
theorem leftT : LeftO PySem.Challenge.pw_sa0632_01 vw [] (fun s => xlAt vw [] s && recOk (RowW.records (OpenRow.toRowW PySem.Challenge.rw_sa0632_01.row)) s) (Hook.obs hk) (Hook.val hk) 2192 := by
  intro w
  kernel_rfl
theorem said : OpenLaw.wellSaid PySem.Challenge.rw_sa0632_01 = true := by kernel_rfl
noncomputable def fnOk (n : Nat) (fn : Fn) : Bool := decide (fn.params.length = n) && !fn.scope.isCoroutine && !fn.scope.isGenerator && decide (fn.scope.kind = .function) && decide ((cellsFrom 0 fn.scope.names []).map (·.1)).Nodup &&
  (fn.params.all fun x => (fn.scope.names.lookup x == some .local || fn.scope.names.lookup x == some .cell) && notDebug x) && decide fn.params.Nodup
theorem fnAt_mk {K : Frag} {f : Str} {fn : Fn} {fa : Addr} {oc : Value} {od : Option Addr} {osl : Array (Option Value)} {name qual : Str} {params : Arguments} {doc pm : Value} {an : Option Addr} {cdv ct dV kV : Value} (n : Nat) (h0 : fnOk n fn = true) (h1 : nsIn K mainGlobals f = some (some (.ref fa)))
    (h2 : K.lookup fa = some ⟨oc, od, .func (fnX name qual params fn.body fn.scope [] dV kV doc pm an cdv ct), osl⟩) (h3 : codeIn K cdv qual = true)
    (h4 : ∀ vs : List Value, vs.length = n → bindArgs (fnX name qual params fn.body fn.scope [] dV kV doc pm an cdv ct) ⟨vs, []⟩ = pure (fn.params.zip vs)) : FnAt K f fn := by
  simp only [fnOk, Bool.and_eq_true, decide_eq_true_eq, Bool.not_eq_true'] at h0
  obtain ⟨⟨⟨⟨⟨⟨a1, a2⟩, a3⟩, a4⟩, a5⟩, a6⟩, a7⟩ := h0
  exact ⟨⟨_, _, _, _, _, _, _, _, _, _, _, _, _, _, h1, h2, h3, fun vs h => h4 vs (h.trans a1)⟩, a2, a3, a4, a5, a6, a7⟩
theorem vs0 {α : Type} {f g : List Value → α} (h : f [] = g []) : ∀ vs : List Value, vs.length = 0 → f vs = g vs := fun vs e => by rw [List.length_eq_zero_iff.mp e]; exact h
theorem vs1 {α : Type} {f g : List Value → α} (h : ∀ v0, f [v0] = g [v0]) : ∀ vs : List Value, vs.length = 1 → f vs = g vs := by
  intro vs e
  rcases vs with _ | ⟨v0, _ | ⟨y, r⟩⟩
  · cases e
  · exact h v0
  · cases e
theorem vs2 {α : Type} {f g : List Value → α} (h : ∀ v0 v1, f [v0, v1] = g [v0, v1]) : ∀ vs : List Value, vs.length = 2 → f vs = g vs := by
  intro vs e
  rcases vs with _ | ⟨v0, _ | ⟨v1, _ | ⟨y, r⟩⟩⟩
  · cases e
  · cases e
  · exact h v0 v1
  · cases e
theorem vs3 {α : Type} {f g : List Value → α} (h : ∀ v0 v1 v2, f [v0, v1, v2] = g [v0, v1, v2]) : ∀ vs : List Value, vs.length = 3 → f vs = g vs := by
  intro vs e
  rcases vs with _ | ⟨v0, _ | ⟨v1, _ | ⟨v2, _ | ⟨y, r⟩⟩⟩⟩
  · cases e
  · cases e
  · cases e
  · exact h v0 v1 v2
  · cases e
theorem vs4 {α : Type} {f g : List Value → α} (h : ∀ v0 v1 v2 v3, f [v0, v1, v2, v3] = g [v0, v1, v2, v3]) : ∀ vs : List Value, vs.length = 4 → f vs = g vs := by
  intro vs e
  rcases vs with _ | ⟨v0, _ | ⟨v1, _ | ⟨v2, _ | ⟨v3, _ | ⟨y, r⟩⟩⟩⟩⟩
  · cases e
  · cases e
  · cases e
  · cases e
  · exact h v0 v1 v2 v3
  · cases e
theorem vs5 {α : Type} {f g : List Value → α} (h : ∀ v0 v1 v2 v3 v4, f [v0, v1, v2, v3, v4] = g [v0, v1, v2, v3, v4]) : ∀ vs : List Value, vs.length = 5 → f vs = g vs := by
  intro vs e
  rcases vs with _ | ⟨v0, _ | ⟨v1, _ | ⟨v2, _ | ⟨v3, _ | ⟨v4, _ | ⟨y, r⟩⟩⟩⟩⟩⟩
  · cases e
  · cases e
  · cases e
  · cases e
  · cases e
  · exact h v0 v1 v2 v3 v4
  · cases e
theorem fnAt_1 (P : Params) : FnAt (Mine.frag P) (fnI 1).1 (fnI 1).2 := fnAt_mk 2 (by kernel_rfl) rfl rfl rfl (vs2 (fun _ _ => rfl))
theorem fnAt_2 (P : Params) : FnAt (Mine.frag P) (fnI 2).1 (fnI 2).2 := fnAt_mk 2 (by kernel_rfl) rfl rfl rfl (vs2 (fun _ _ => rfl))
theorem fnAt_3 (P : Params) : FnAt (Mine.frag P) (fnI 3).1 (fnI 3).2 := fnAt_mk 1 (by kernel_rfl) rfl rfl rfl (vs1 (fun _ => rfl))
theorem fnAt_5 (P : Params) : FnAt (Mine.frag P) (fnI 5).1 (fnI 5).2 := fnAt_mk 0 (by kernel_rfl) rfl rfl rfl (vs0 (rfl))
theorem fnAt_6 (P : Params) : FnAt (Mine.frag P) (fnI 6).1 (fnI 6).2 := fnAt_mk 3 (by kernel_rfl) rfl rfl rfl (vs3 (fun _ _ _ => rfl))
theorem fnAt_7 (P : Params) : FnAt (Mine.frag P) (fnI 7).1 (fnI 7).2 := fnAt_mk 3 (by kernel_rfl) rfl rfl rfl (vs3 (fun _ _ _ => rfl))
theorem fnAt_8 (P : Params) : FnAt (Mine.frag P) (fnI 8).1 (fnI 8).2 := fnAt_mk 1 (by kernel_rfl) rfl rfl rfl (vs1 (fun _ => rfl))
theorem fnAt_9 (P : Params) : FnAt (Mine.frag P) (fnI 9).1 (fnI 9).2 := fnAt_mk 2 (by kernel_rfl) rfl rfl rfl (vs2 (fun _ _ => rfl))
theorem fnAt_10 (P : Params) : FnAt (Mine.frag P) (fnI 10).1 (fnI 10).2 := fnAt_mk 5 (by kernel_rfl) rfl rfl rfl (vs5 (fun _ _ _ _ _ => rfl))
theorem fnAt_11 (P : Params) : FnAt (Mine.frag P) (fnI 11).1 (fnI 11).2 := fnAt_mk 3 (by kernel_rfl) rfl rfl rfl (vs3 (fun _ _ _ => rfl))
theorem fnAt_12 (P : Params) : FnAt (Mine.frag P) (fnI 12).1 (fnI 12).2 := fnAt_mk 2 (by kernel_rfl) rfl rfl rfl (vs2 (fun _ _ => rfl))
theorem fnAt_13 (P : Params) : FnAt (Mine.frag P) (fnI 13).1 (fnI 13).2 := fnAt_mk 2 (by kernel_rfl) rfl rfl rfl (vs2 (fun _ _ => rfl))
theorem fnAt_14 (P : Params) : FnAt (Mine.frag P) (fnI 14).1 (fnI 14).2 := fnAt_mk 4 (by kernel_rfl) rfl rfl rfl (vs4 (fun _ _ _ _ => rfl))
theorem fnAt_15 (P : Params) : FnAt (Mine.frag P) (fnI 15).1 (fnI 15).2 := fnAt_mk 4 (by kernel_rfl) rfl rfl rfl (vs4 (fun _ _ _ _ => rfl))
theorem fnAt_16 (P : Params) : FnAt (Mine.frag P) (fnI 16).1 (fnI 16).2 := fnAt_mk 5 (by kernel_rfl) rfl rfl rfl (vs5 (fun _ _ _ _ _ => rfl))
theorem fnAt_17 (P : Params) : FnAt (Mine.frag P) (fnI 17).1 (fnI 17).2 := fnAt_mk 2 (by kernel_rfl) rfl rfl rfl (vs2 (fun _ _ => rfl))
theorem fnAt_18 (P : Params) : FnAt (Mine.frag P) (fnI 18).1 (fnI 18).2 := fnAt_mk 3 (by kernel_rfl) rfl rfl rfl (vs3 (fun _ _ _ => rfl))
theorem fnAt_19 (P : Params) : FnAt (Mine.frag P) (fnI 19).1 (fnI 19).2 := fnAt_mk 0 (by kernel_rfl) rfl rfl rfl (vs0 (rfl))
theorem fnAt_20 (P : Params) : FnAt (Mine.frag P) (fnI 20).1 (fnI 20).2 := fnAt_mk 1 (by kernel_rfl) rfl rfl rfl (vs1 (fun _ => rfl))
theorem fnAt_21 (P : Params) : FnAt (Mine.frag P) (fnI 21).1 (fnI 21).2 := fnAt_mk 1 (by kernel_rfl) rfl rfl rfl (vs1 (fun _ => rfl))
theorem fnAt_22 (P : Params) : FnAt (Mine.frag P) (fnI 22).1 (fnI 22).2 := fnAt_mk 1 (by kernel_rfl) rfl rfl rfl (vs1 (fun _ => rfl))
theorem fnAt_23 (P : Params) : FnAt (Mine.frag P) (fnI 23).1 (fnI 23).2 := fnAt_mk 3 (by kernel_rfl) rfl rfl rfl (vs3 (fun _ _ _ => rfl))
theorem fnAt_24 (P : Params) : FnAt (Mine.frag P) (fnI 24).1 (fnI 24).2 := fnAt_mk 3 (by kernel_rfl) rfl rfl rfl (vs3 (fun _ _ _ => rfl))
theorem fnAt_25 (P : Params) : FnAt (Mine.frag P) (fnI 25).1 (fnI 25).2 := fnAt_mk 2 (by kernel_rfl) rfl rfl rfl (vs2 (fun _ _ => rfl))
theorem fnAt_26 (P : Params) : FnAt (Mine.frag P) (fnI 26).1 (fnI 26).2 := fnAt_mk 1 (by kernel_rfl) rfl rfl rfl (vs1 (fun _ => rfl))
theorem fnAt_27 (P : Params) : FnAt (Mine.frag P) (fnI 27).1 (fnI 27).2 := fnAt_mk 2 (by kernel_rfl) rfl rfl rfl (vs2 (fun _ _ => rfl))
theorem fnAt_28 (P : Params) : FnAt (Mine.frag P) (fnI 28).1 (fnI 28).2 := fnAt_mk 2 (by kernel_rfl) rfl rfl rfl (vs2 (fun _ _ => rfl))
theorem fnAt_29 (P : Params) : FnAt (Mine.frag P) (fnI 29).1 (fnI 29).2 := fnAt_mk 3 (by kernel_rfl) rfl rfl rfl (vs3 (fun _ _ _ => rfl))
theorem fnAt_31 (P : Params) : FnAt (Mine.frag P) (fnI 31).1 (fnI 31).2 := fnAt_mk 2 (by kernel_rfl) rfl rfl rfl (vs2 (fun _ _ => rfl))
theorem fnAt_32 (P : Params) : FnAt (Mine.frag P) (fnI 32).1 (fnI 32).2 := fnAt_mk 2 (by kernel_rfl) rfl rfl rfl (vs2 (fun _ _ => rfl))
theorem fnAt_33 (P : Params) : FnAt (Mine.frag P) (fnI 33).1 (fnI 33).2 := fnAt_mk 3 (by kernel_rfl) rfl rfl rfl (vs3 (fun _ _ _ => rfl))
theorem lk {β : Type} (x y : Str) (v : β) (r : List (Str × β)) : List.lookup y ((x, v) :: r) = if y = x then some v else r.lookup y := by
  rw [List.lookup_cons]
  by_cases h : y = x
  · subst h; simp
  · have : (y == x) = false := by simpa using h
    simp [this, h]
theorem sr (x y : Str) (v w : LV) (r : Rho) : setR ((x, v) :: r) y w = if x = y then (y, w) :: r else (x, v) :: setR r y w := rfl
section
variable {G : Ctr} {n : Nat} {sc : Scope} {ρ : Rho} {σ : Sig}
theorem e_int (i : Int) (k p) : (evAll G (n + 1)).e sc ρ (.Constant (.int i) k p) σ = some (.d (.int i), σ) := rfl
theorem e_str (i : Str) (k p) : (evAll G (n + 1)).e sc ρ (.Constant (.str i) k p) σ = some (.d (.str i), σ) := rfl
theorem e_none (k p) : (evAll G (n + 1)).e sc ρ (.Constant .none k p) σ = some (.d .none, σ) := rfl
theorem e_bool (b k p) : (evAll G (n + 1)).e sc ρ (.Constant (.bool b) k p) σ = some (.d (.bool b), σ) := rfl
theorem e_name (x p) : (evAll G (n + 1)).e sc ρ (.Name x p) σ = (ρ.lookup x).map fun v => (v, σ) := rfl
theorem e_bin (l op r p) : (evAll G (n + 1)).e sc ρ (.BinOp l op r p) σ = ((evAll G n).e sc ρ l σ).bind fun p => ((evAll G n).e sc ρ r p.2).bind fun q => (valL q.2 p.1).bind fun x => (valL q.2 q.1).bind fun y => (binD op x y).map fun z => (.d z, q.2) := rfl
theorem e_usub (x p) : (evAll G (n + 1)).e sc ρ (.UnaryOp .USub x p) σ = ((evAll G n).e sc ρ x σ).bind fun p => match p.1 with
      | .d (.int i) => some (.d (.int (-i)), p.2)
      | _ => none := rfl
theorem e_ife (t b o p) : (evAll G (n + 1)).e sc ρ (.IfExp t b o p) σ = ((evAll G n).t sc ρ t σ).bind fun p => if p.1 then (evAll G n).e sc ρ b p.2 else (evAll G n).e sc ρ o p.2 := rfl
theorem e_bo (op v r p) : (evAll G (n + 1)).e sc ρ (.BoolOp op (v :: r) p) σ = (evBo op (evBool ((evAll G n).e sc ρ)) (v :: r) σ).map fun p => (.d (.bool p.1), p.2) := rfl
theorem e_cmp (l ops rs p) : (evAll G (n + 1)).e sc ρ (.Compare l ops rs p) σ = (evCmp (evAll G n) sc ρ l ops rs σ).map fun p => (.d (.bool p.1), p.2) := rfl
theorem e_tup (es k p) : (evAll G (n + 1)).e sc ρ (.Tuple es k p) σ = (evL ((evAll G n).e sc ρ) es σ).bind fun p => if es.length ≤ 1000 then (frzL p.1 p.2).map fun q => (.d (.tuple q.1), q.2) else none := rfl
theorem e_slice (v vp lo hi st sp p) : (evAll G (n + 1)).e sc ρ (.Subscript (.Name v vp) (.Slice lo hi st sp) p) σ = ((evAll G n).e sc ρ (.Name v vp) σ).bind fun p => (evO ((evAll G n).e sc ρ) lo p.2).bind fun a => (evO ((evAll G n).e sc ρ) hi a.2).bind fun b => (evO ((evAll G n).e sc ρ) st b.2).bind fun c =>
      (valL c.2 p.1).bind fun x => if stepOk st c.1 then (sliceD x a.1 b.1 c.1).map fun ds => (.d (.list ds), c.2) else none := rfl
theorem e_sub_bin (v l op r ip p) : (evAll G (n + 1)).e sc ρ (.Subscript v (.BinOp l op r ip) p) σ = ((evAll G n).e sc ρ v σ).bind fun p => ((evAll G n).e sc ρ (.BinOp l op r ip) p.2).bind fun q => (valL q.2 p.1).bind fun x => (valL q.2 q.1).bind fun y => (idxD x y).map fun z => (.d z, q.2) := rfl
theorem e_sub_con (v c ck ip p) : (evAll G (n + 1)).e sc ρ (.Subscript v (.Constant c ck ip) p) σ = ((evAll G n).e sc ρ v σ).bind fun p => ((evAll G n).e sc ρ (.Constant c ck ip) p.2).bind fun q => (valL q.2 p.1).bind fun x => (valL q.2 q.1).bind fun y => (idxD x y).map fun z => (.d z, q.2) := rfl
theorem e_sub_name (v x ip p) : (evAll G (n + 1)).e sc ρ (.Subscript v (.Name x ip) p) σ = ((evAll G n).e sc ρ v σ).bind fun p => ((evAll G n).e sc ρ (.Name x ip) p.2).bind fun q => (valL q.2 p.1).bind fun x => (valL q.2 q.1).bind fun y => (idxD x y).map fun z => (.d z, q.2) := rfl
theorem e_sub_call (v f as ks ip p) : (evAll G (n + 1)).e sc ρ (.Subscript v (.Call f as ks ip) p) σ = ((evAll G n).e sc ρ v σ).bind fun p => ((evAll G n).e sc ρ (.Call f as ks ip) p.2).bind fun q => (valL q.2 p.1).bind fun x => (valL q.2 q.1).bind fun y => (idxD x y).map fun z => (.d z, q.2) := rfl
theorem e_sub_un (v op x ip p) : (evAll G (n + 1)).e sc ρ (.Subscript v (.UnaryOp op x ip) p) σ = ((evAll G n).e sc ρ v σ).bind fun p => ((evAll G n).e sc ρ (.UnaryOp op x ip) p.2).bind fun q => (valL q.2 p.1).bind fun x => (valL q.2 q.1).bind fun y => (idxD x y).map fun z => (.d z, q.2) := rfl
theorem e_sub_sub (v u j ip p) : (evAll G (n + 1)).e sc ρ (.Subscript v (.Subscript u j ip) p) σ = ((evAll G n).e sc ρ v σ).bind fun p => ((evAll G n).e sc ρ (.Subscript u j ip) p.2).bind fun q => (valL q.2 p.1).bind fun x => (valL q.2 q.1).bind fun y => (idxD x y).map fun z => (.d z, q.2) := rfl
theorem e_call (f fp args p) : (evAll G (n + 1)).e sc ρ (.Call (.Name f fp) args [] p) σ = if isGlob sc f then
      if blts.contains f then (evL ((evAll G n).e sc ρ) args σ).bind fun q => (valsL q.2 q.1).bind fun xs => if decide (0 < args.length) then (bltD f xs).map fun z => (.d z, q.2) else none
      else if decide (f = "list") then (stepF (evAll G n) sc ρ (.Call (.Name f fp) args [] p) σ).map fun q => (.d (.list q.1), q.2)
      else if notDebug f then (evL ((evAll G n).e sc ρ) args σ).bind fun q => (G f q.1 q.2).map fun r => (.d r.1, r.2) else none
    else none := rfl
theorem e_list (es p) : (evAll G (n + 1)).e sc ρ (.List es p) σ = (stepF (evAll G n) sc ρ (.List es p) σ).map fun q => (.d (.list q.1), q.2) := rfl
theorem e_lc (a b c p) : (evAll G (n + 1)).e sc ρ (.ListComp a b c p) σ = (stepF (evAll G n) sc ρ (.ListComp a b c p) σ).map fun q => (.d (.list q.1), q.2) := rfl
theorem t_not (x p) : (evAll G (n + 1)).t sc ρ (.UnaryOp .Not x p) σ = ((evAll G n).t sc ρ x σ).map fun p => (!p.1, p.2) := rfl
theorem t_bo (op vs p) : (evAll G (n + 1)).t sc ρ (.BoolOp op vs p) σ = evBo op ((evAll G n).t sc ρ) vs σ := rfl
theorem t_cmp (l ops rs p) : (evAll G (n + 1)).t sc ρ (.Compare l ops rs p) σ = evCmp (evAll G n) sc ρ l ops rs σ := rfl
theorem t_name (x p) : (evAll G (n + 1)).t sc ρ (.Name x p) σ = evBool ((evAll G n).e sc ρ) (.Name x p) σ := rfl
theorem t_call (f as ks p) : (evAll G (n + 1)).t sc ρ (.Call f as ks p) σ = evBool ((evAll G n).e sc ρ) (.Call f as ks p) σ := rfl
variable {mt : Str → Bool}
theorem s_ret (e p) : evS G mt sc (n + 1) ρ σ (.Return (some e) p) = ((evAll G n).e sc ρ e σ).bind fun p => (frz p.2 p.1).map fun q => (.ret q.1, ρ, q.2) := rfl
theorem s_if (t b o p) : evS G mt sc (n + 1) ρ σ (.If t b o p) = ((evAll G n).t sc ρ t σ).bind fun p => if p.1 then evSs (evS G mt sc n) b ρ p.2 else evSs (evS G mt sc n) o ρ p.2 := rfl
theorem s_asg_call (x px f as ks ep p) : evS G mt sc (n + 1) ρ σ (.Assign [.Name x px] (.Call f as ks ep) p) = if isLoc sc x && true then (stepX (evAll G n) (mt x) sc ρ (.Call f as ks ep) σ).map fun p => (.next, setR ρ x p.1, p.2) else none := rfl
theorem s_asg_name (x px y ep p) : evS G mt sc (n + 1) ρ σ (.Assign [.Name x px] (.Name y ep) p) = if isLoc sc x && true then (stepX (evAll G n) (mt x) sc ρ (.Name y ep) σ).map fun p => (.next, setR ρ x p.1, p.2) else none := rfl
theorem s_asg_ife (x px u v w ep p) : evS G mt sc (n + 1) ρ σ (.Assign [.Name x px] (.IfExp u v w ep) p) = if isLoc sc x && true then (stepX (evAll G n) (mt x) sc ρ (.IfExp u v w ep) σ).map fun p => (.next, setR ρ x p.1, p.2) else none := rfl
theorem s_asg_list (x px es ep p) : evS G mt sc (n + 1) ρ σ (.Assign [.Name x px] (.List es ep) p) = if isLoc sc x && true then (stepX (evAll G n) (mt x) sc ρ (.List es ep) σ).map fun p => (.next, setR ρ x p.1, p.2) else none := rfl
theorem s_asg_bin (x px l op r ep p) : evS G mt sc (n + 1) ρ σ (.Assign [.Name x px] (.BinOp l op r ep) p) = if isLoc sc x && true then (stepX (evAll G n) (mt x) sc ρ (.BinOp l op r ep) σ).map fun p => (.next, setR ρ x p.1, p.2) else none := rfl
theorem s_asg_sub (x px u j ep p) : evS G mt sc (n + 1) ρ σ (.Assign [.Name x px] (.Subscript u j ep) p) = if isLoc sc x && true then (stepX (evAll G n) (mt x) sc ρ (.Subscript u j ep) σ).map fun p => (.next, setR ρ x p.1, p.2) else none := rfl
theorem s_asg_lc (x px a gs scope ep p) : evS G mt sc (n + 1) ρ σ (.Assign [.Name x px] (.ListComp a gs scope ep) p) = if isLoc sc x && decide (px.line = ep.line) && !(scope.names.any fun nk => nk.1 == x && (nk.2 == .local || nk.2 == .cell)) then ((stepF (evAll G n) sc ρ (.ListComp a gs scope ep) σ).map fun q => if mt x then (LV.c q.2.length, q.2 ++ [.lst q.1]) else (LV.d (.list q.1), q.2)).map fun p => (.next, setR ρ x p.1, p.2) else none := rfl
theorem s_set (o op i sp e p) : evS G mt sc (n + 1) ρ σ (.Assign [.Subscript (.Name o op) i sp] e p) = ((evAll G n).e sc ρ e σ).bind fun p => (frz p.2 p.1).bind fun q => ((evAll G n).e sc ρ (.Name o op) q.2).bind fun c => ((evAll G n).e sc ρ i c.2).bind fun j => match c.1, j.1 with
      | .c n, .d (.int k) => match j.2[n]? with
        | some (.lst ds) => (setAt ds k q.1).map fun ds' => (.next, ρ, j.2.set n (.lst ds'))
        | _ => none
      | _, _ => none := rfl
theorem s_for (t it b p) : evS G mt sc (n + 1) ρ σ (.For t it b [] p) = (evIter (evAll G n) sc ρ t it σ).bind fun p => evLoop (tgt sc t) (fun ρ' σ' => evSs (evS G mt sc n) b ρ' σ') p.1 ρ p.2 := rfl
theorem s_app (o op name ap a cp p) : evS G mt sc (n + 1) ρ σ (.Expr (.Call (.Attribute (.Name o op) name ap) [a] [] cp) p) = if decide (name = "append") && decide (ap.endLine = cp.line) then
      ((evAll G n).e sc ρ (.Name o op) σ).bind fun c => match c.1 with
        | .c k => match c.2[k]? with
          | some (.lst _) => ((evAll G n).e sc ρ a c.2).bind fun p => (frz p.2 p.1).bind fun q => match q.2[k]? with
            | some (.lst ds) => if ds.length ≤ 1000 then some (.next, ρ, q.2.set k (.lst (ds ++ [q.1]))) else none
            | _ => none
          | _ => none
        | _ => none
    else none := rfl
theorem s_swap (ts k tp es k' p' p) : evS G mt sc (n + 1) ρ σ (.Assign [.Tuple ts k tp] (.Tuple es k' p') p) = (namesOf ts).bind fun xs =>
      if xs.all (isLoc sc) && decide (xs.length = es.length) && decide (2 ≤ xs.length ∧ xs.length ≤ 3) && decide xs.Nodup && sameLine ts && !(es.all (foldedForSure 8)) && !(es.all (constantsAlone 8)) then
        (evXs (evAll G n) (fun x => mt x) sc ρ xs es σ).bind fun p => (setRs ρ xs p.1).map fun ρ' => (.next, ρ', p.2)
      else none := rfl
theorem s_unp (ts k tp f as ks cp p) : evS G mt sc (n + 1) ρ σ (.Assign [.Tuple ts k tp] (.Call f as ks cp) p) = ((evAll G n).e sc ρ (.Call f as ks cp) σ).bind fun p => (valL p.2 p.1).bind fun x => (tgt sc (.Tuple ts k tp) ρ x).map fun ρ' => (.next, ρ', p.2) := rfl
theorem s_unpN (ts k tp x xp p) : evS G mt sc (n + 1) ρ σ (.Assign [.Tuple ts k tp] (.Name x xp) p) = ((evAll G n).e sc ρ (.Name x xp) σ).bind fun p => (valL p.2 p.1).bind fun x => (tgt sc (.Tuple ts k tp) ρ x).map fun ρ' => (.next, ρ', p.2) := rfl
theorem ss_cons (f : Rho → Sig → Stmt → SRes) (s r) : evSs f (s :: r) ρ σ = (f ρ σ s).bind fun p => match p.1 with
    | .next => evSs f r p.2.1 p.2.2
    | .ret x => some (.ret x, p.2.1, p.2.2) := rfl
theorem ss_nil (f : Rho → Sig → Stmt → SRes) : evSs f [] ρ σ = some (.next, ρ, σ) := rfl
end
theorem good_len {ds : List Dat} (h : goodD ds = true) : 0 < ds.length ∧ ds.length ≤ 500 := by
  simp only [goodD, Bool.and_eq_true, decide_eq_true_eq] at h
  exact ⟨h.1.1, h.1.2⟩
theorem good_at {ds : List Dat} (h : goodD ds = true) {j : Nat} (hj : j < ds.length) : ∃ v : Int, ds[j]? = some (.int v) ∧ 0 ≤ v ∧ v < 256 := by
  simp only [goodD, Bool.and_eq_true, List.all_eq_true] at h
  have := h.2 ds[j] (List.getElem_mem hj)
  rw [List.getElem?_eq_getElem hj]
  generalize ds[j] = d at this
  cases d <;> simp [octD] at this
  exact ⟨_, rfl, this.1, this.2⟩
theorem pk_get (M : Mem) (a : Int) : idxD (.list M.ds) (.int (a.fmod (M.ds.length : Int))) = some (.int (M.pk a)) ∧ 0 ≤ M.pk a ∧ M.pk a < 256 := by
  obtain ⟨h0, h1⟩ := good_len M.ok
  have hf1 : 0 ≤ a.fmod (M.ds.length : Int) := Int.fmod_nonneg_of_pos _ (by omega)
  have hf2 : a.fmod (M.ds.length : Int) < M.ds.length := Int.fmod_lt_of_pos _ (by omega)
  obtain ⟨v, hv, g1, g2⟩ := good_at M.ok (j := (a.fmod (M.ds.length : Int)).toNat) (by omega)
  have hp : M.pk a = v := by unfold Mem.pk; rw [hv]
  rw [hp]
  refine ⟨?_, g1, g2⟩
  have s1 : small (a.fmod (M.ds.length : Int)) = true := by unfold small; simp; omega
  have s2 : M.ds.length ≤ 1000 := by omega
  simp only [idxD, s1, s2, atI, hf1, hf2, decide_true, Bool.and_self, if_true, Option.bind_some, hv]
theorem run_peek (G : Ctr) (M : Mem) (a : Int) : runFn G (fnI 1).2 60 [.c 0, .d (.int a)] [.mem M] = some (.int (M.pk a), [.mem M]) := by
  conv => lhs; arg 2; whnf
  obtain ⟨h0, h1⟩ := good_len M.ok
  have h2 : M.ds.length ≤ 10000 := by omega
  have h3 : ¬ ((M.ds.length : Int) = 0) := by omega
  simp +decide only [runFn, List.map, bindR, Option.map_some, Option.bind_some, ss_cons, s_ret, e_sub_bin, e_bin, e_name, e_call, lk, if_true, if_false, valL, List.getElem?_cons_zero, evL, valsL, bltD, h2, List.length_cons, binD, binI, h3, (pk_get M a).1, frz, eq_self]
  rfl
theorem run_sgn (G : Ctr) (a : Int) (σ : Sig) : runFn G (fnI 3).2 60 [.d (.int a)] σ = some (.int (sgn a), σ) := by
  conv => lhs; arg 2; whnf
  simp +decide only [runFn, List.map, bindR, Option.map_some, Option.bind_some, ss_cons, s_ret, e_ife, e_bin, e_name, e_int, t_cmp, evCmp, lk, valL, binD, binI, cmpD, frz]
  unfold sgn
  by_cases h : 127 < a
  · simp [h]
  · simp [h]
theorem or_shift {x y : Int} (hx : 0 ≤ x) (hx2 : x < 256) (hy : 0 ≤ y) : Builtin.bitOr x (y * 2 ^ 8) = x + 256 * y := by
  obtain ⟨a, rfl⟩ := Int.eq_ofNat_of_zero_le hx
  obtain ⟨b, rfl⟩ := Int.eq_ofNat_of_zero_le hy
  have e : ((b : Int) * 2 ^ 8) = ((b * 2 ^ 8 : Nat) : Int) := by simp
  rw [e]
  have h : Builtin.bitOr ((a : Nat) : Int) ((b * 2 ^ 8 : Nat) : Int) = ((a ||| b * 2 ^ 8 : Nat) : Int) := by
    have n1 : ∀ c : Nat, ¬ (0 : Int) ≤ Builtin.bitNot (c : Int) := fun c => by unfold Builtin.bitNot; omega
    have n2 : ∀ c : Nat, Builtin.bitNot (Builtin.bitNot (c : Int)) = c := fun c => by unfold Builtin.bitNot; omega
    unfold Builtin.bitOr
    have e1 : Builtin.bitAnd (Builtin.bitNot (a : Int)) (Builtin.bitNot ((b * 2 ^ 8 : Nat) : Int)) = Builtin.bitNot ((Builtin.bitNot (Builtin.bitNot (a : Int))).toNat ||| (Builtin.bitNot (Builtin.bitNot ((b * 2 ^ 8 : Nat) : Int))).toNat : Nat) := by
      unfold Builtin.bitAnd
      simp only [n1, decide_false]
    rw [e1, n2, n2, n2, Int.toNat_natCast, Int.toNat_natCast]
  rw [h]
  have := Nat.two_pow_add_eq_or_of_lt (i := 8) (b := a) (by omega) b
  rw [Nat.or_comm, Nat.mul_comm, ← this]
  omega
theorem small_of {x : Int} (h : 0 ≤ x) (h2 : x < 2 ^ 60) : small x = true := by unfold small; simp; omega
theorem run_peek16 (G : Ctr) (M : Mem) (hG : ∀ a, G "peek" [.c 0, .d (.int a)] [.mem M] = some (.int (M.pk a), [.mem M])) (a : Int) : runFn G (fnI 2).2 60 [.c 0, .d (.int a)] [.mem M] = some (.int (M.pk a + 256 * M.pk (Builtin.bitAnd (a + 1) 65535)), [.mem M]) := by
  conv => lhs; arg 2; whnf
  have b1 := (pk_get M a).2
  have b2 := (pk_get M (Builtin.bitAnd (a + 1) 65535)).2
  have hs := small_of b2.1 (by omega)
  simp +decide only [runFn, List.map, bindR, Option.map_some, Option.bind_some, ss_cons, s_ret, e_bin, e_name, e_int, e_call, lk, valL, binD, binI, frz, evL, hG, if_true, if_false, hs]
  have := or_shift b1.1 b1.2 b2.1
  have e8 : (Int.toNat 8) = 8 := rfl
  rw [e8, this]
  rfl
noncomputable def ksOf : List (Option Expr) → List (Int × Nat × Pos)
  | [] => []
  | some (.Constant (.int i) k p) :: r => (i, k, p) :: ksOf r
  | _ :: r => ksOf r
section
variable {prog : Program} {w : World} {p : Program} {loose : List Str} {mg mb : Str → Option Value} {σ : Sig}
noncomputable abbrev KH (w : World) : Frag := Mine.frag w.params
theorem blt_K (w : World) : BltOK (KH w) := by
  intro f hf
  simp only [free9, List.mem_cons, List.not_mem_nil, or_false] at hf
  rcases hf with rfl | rfl | rfl | rfl | rfl | rfl | rfl | rfl | rfl <;> rfl
noncomputable def Gp : Ctr := fun f args σ => match args with
  | [.c k, .d (.int a)] => (match σ[k]? with
    | some (.mem M) => if f = "peek" then some (.int (M.pk a), σ) else none
    | _ => none)
  | _ => none
theorem gok_p : GOK prog w (KH w) p loose mg mb 1 Gp := by
  intro f args σ r h
  unfold Gp at h
  split at h
  · rename_i k a
    split at h
    · rename_i M hM
      split at h
      · rename_i hf
        subst hf
        cases h
        exact lift_ok (args := [.int a]) (M' := M) (run_ok (f := (fnI 1).1) gok_none (blt_K w) (fnAt_1 w.params) (run_peek _ M a)) (by simp [memArg, hM])
      · cases h
    · cases h
  · cases h
theorem gok_0 : GOK prog w (KH w) p loose mg mb 2 G0 := by
  intro f args σ r h
  unfold G0 at h
  split at h
  · rename_i k a
    split at h
    · rename_i M hM
      split at h
      · rename_i hf
        subst hf
        cases h
        exact (lift_ok (args := [.int a]) (M' := M) (run_ok (f := (fnI 1).1) gok_none (blt_K w) (fnAt_1 w.params) (run_peek _ M a)) (by simp [memArg, hM])).up 1
      · split at h
        · rename_i hf
          subst hf
          cases h
          exact lift_ok (args := [.int a]) (M' := M) (run_ok (f := (fnI 2).1) gok_p (blt_K w) (fnAt_2 w.params) (run_peek16 _ M (fun a => rfl) a)) (by simp [memArg, hM])
        · cases h
    · cases h
  · rename_i a
    split at h
    · rename_i hf
      subst hf
      cases h
      exact (run_ok (f := (fnI 3).1) gok_none (blt_K w) (fnAt_3 w.params) (run_sgn _ a _)).up 1
    · cases h
  · cases h
theorem fns_at (w : World) : ∀ q ∈ fns, FnAt (KH w) q.1 q.2 := by
  intro q hq
  simp only [fns, List.mem_cons, List.not_mem_nil, or_false] at hq
  rcases hq with rfl | rfl | rfl | rfl | rfl | rfl | rfl | rfl | rfl | rfl | rfl | rfl | rfl | rfl | rfl | rfl | rfl | rfl
  · exact fnAt_5 _
  · exact fnAt_6 _
  · exact fnAt_7 _
  · exact fnAt_8 _
  · exact fnAt_9 _
  · exact fnAt_10 _
  · exact fnAt_11 _
  · exact fnAt_12 _
  · exact fnAt_13 _
  · exact fnAt_14 _
  · exact fnAt_15 _
  · exact fnAt_16 _
  · exact fnAt_17 _
  · exact fnAt_19 _
  · exact fnAt_20 _
  · exact fnAt_21 _
  · exact fnAt_22 _
  · exact fnAt_23 _
noncomputable def exVals : List Expr := match ((fnI 18).2.body.drop 7).head? with
  | some (.Assign _ (.Dict _ vs _) _) => vs
  | _ => []
noncomputable def exKs : List (Int × Nat × Pos) := match ((fnI 18).2.body.drop 7).head? with
  | some (.Assign _ (.Dict ks _ _) _) => ksOf ks
  | _ => []
noncomputable def exN : Expr := match ((fnI 18).2.body.drop 8).head? with
  | some (.Assign _ e _) => e
  | _ => .Constant .none 0 ⟨0, 0, 0, 0⟩
theorem ex_shape : ∃ tp sp dp tp2 ck cp sbp ap tp3 atp op clp rp, (fnI 18).2.body.drop 7 = [.Assign [.Name "told" tp] (.Dict (exKs.map fun k => some (.Constant (.int k.1) k.2.1 k.2.2)) exVals dp) sp, .Assign [.Subscript (.Name "told" tp2) (.Constant (.int 94) ck cp) sbp] exN ap,
      .Return (some (.Call (.Attribute (.Name "told" tp3) "get" atp) [.Name "octet" op] [] clp)) rp] ∧ atp.endLine = clp.line := ⟨_, _, _, _, _, _, _, _, _, _, _, _, _, rfl, rfl⟩
noncomputable def exDs : List Dat := [.tuple [.str "NEG", .list []], .tuple [.str "RETN", .list []], .tuple [.str "RETI", .list []], .tuple [.str "IM", .list [.tuple [.str "n", .int 0]]], .tuple [.str "IM", .list [.tuple [.str "n", .int 1]]]]
noncomputable def exDN : Dat := .tuple [.str "IM", .list [.tuple [.str "n", .int 2]]]
theorem ex_evN (G : Ctr) (sc : Scope) (ρ : Rho) (σ : Sig) : (evAll G 9).e sc ρ exN σ = some (.d exDN, σ) := by kernel_rfl
theorem ex_evL (G : Ctr) (sc : Scope) (ρ : Rho) (σ : Sig) : evL ((evAll G 9).e sc ρ) exVals σ = some (exDs.map .d, σ) := by kernel_rfl
theorem ex_each (G : Ctr) (sc : Scope) (ρ : Rho) (σ : Sig) : exVals.map (fun v => (evAll G 9).e sc ρ v σ) = exDs.map fun d => some (.d d, σ) := by kernel_rfl
theorem ex_eachM {G : Ctr} {sc : Scope} {ρ : Rho} {σ : Sig} : ∀ v ∈ exVals, ∃ d, (evAll G 9).e sc ρ v σ = some (.d d, σ) := by
  intro v hv
  have h : (evAll G 9).e sc ρ v σ ∈ exVals.map (fun v => (evAll G 9).e sc ρ v σ) := List.mem_map.mpr ⟨v, hv, rfl⟩
  rw [ex_each] at h
  obtain ⟨d, _, e⟩ := List.mem_map.mp h
  exact ⟨d, e.symm⟩
theorem ex_tab : (exKs.map (·.1)).zip exDs ++ [(94, exDN)] = exTab := by kernel_rfl
theorem ex_keys : exKs.map (·.1) = [68, 69, 77, 70, 86] := by kernel_rfl
theorem ex_len : exKs.length = exVals.length ∧ exKs ≠ [] ∧ exKs.length ≤ 15 ∧ exDs.length = exKs.length := by
  have h : exKs.length = 5 := by have := congrArg List.length ex_keys; simpa using this
  have h2 : exVals.length = 5 := by have := congrArg List.length (ex_each (fun _ _ _ => none) ⟨.function, [], false, false, []⟩ [] []); simpa [exDs] using this
  refine ⟨by omega, fun e => by rw [e] at h; simp at h, by omega, by rw [h]; rfl⟩
theorem ex_loc : isLoc (fnI 18).2.scope "told" = true := by decide +kernel
theorem ex_plain : plainE exN = true := by decide +kernel
theorem ex_ne : Str.ofString "octet" ≠ Str.ofString "told" := by decide +kernel
theorem ex_tailOK {sc : Scope} {ρ : Rho} {o : Int} {rk : Nat} {G : Ctr} (hG : GOK prog w (KH w) p loose mg mb rk G) (lo : isLoc sc "told" = true) (hT' : ρ.lookup (Str.ofString "told") = none) (ho : ρ.lookup (Str.ofString "octet") = some (.d (.int o)))
    (tp sp dp tp2 cp sbp ap tp3 atp op clp rp : Pos) (ck : Nat) (hat : atp.endLine = clp.line) : SsOK prog w (KH w) p loose mg mb rk sc ρ σ [.Assign [.Name "told" tp] (.Dict (exKs.map fun k => some (.Constant (.int k.1) k.2.1 k.2.2)) exVals dp) sp, .Assign [.Subscript (.Name "told" tp2) (.Constant (.int 94) ck cp) sbp] exN ap,
      .Return (some (.Call (.Attribute (.Name "told" tp3) "get" atp) [.Name "octet" op] [] clp)) rp] (.ret (getD' exTab o), ρ, σ) := by
  have S : Sound prog w (KH w) p loose mg mb rk (evAll G 9) := evAll_ok hG (blt_K w) 9
  have a1 := ex_evL G sc ρ σ
  have a2 := ex_evN G sc ρ σ
  have a3 := @ex_eachM G sc ρ σ
  have k1 : (exKs.map (·.1)).Nodup := by rw [ex_keys]; decide
  have k2 : (94 : Int) ∉ exKs.map (·.1) := by rw [ex_keys]; decide
  have b := ex_len
  have H := @dict_tail prog w (KH w) p loose mg mb rk sc ρ σ (evAll G 9) S (Str.ofString "told") (Str.ofString "octet") tp sp dp tp2 cp sbp ap tp3 atp op clp rp ck 94 o exKs exVals exN exDs exDN lo hT' ho ex_ne a1 a3 a2 b.1 b.2.1 b.2.2.1 b.2.2.2 k1 k2 ex_plain hat
  rewrite [ex_tab] at H
  exact @H
theorem ex_gen {fn : Fn} (fa : FnAt (KH w) "extra_order" fn) (sh : ∃ tp sp dp tp2 ck cp sbp ap tp3 atp op clp rp, fn.body.drop 7 = [.Assign [.Name "told" tp] (.Dict (exKs.map fun k => some (.Constant (.int k.1) k.2.1 k.2.2)) exVals dp) sp, .Assign [.Subscript (.Name "told" tp2) (.Constant (.int 94) ck cp) sbp] exN ap,
      .Return (some (.Call (.Attribute (.Name "told" tp3) "get" atp) [.Name "octet" op] [] clp)) rp] ∧ atp.endLine = clp.line) (lo : isLoc fn.scope "told" = true)
    {rk : Nat} {G : Ctr} (hG : GOK prog w (KH w) p loose mg mb rk G) {args : List LV} {r : Dat × Sig} (h : exRunF fn G args σ = some r) : CallOK prog w (KH w) p loose mg mb (rk + 1) "extra_order" args σ r := by
  have hb : fn.body = fn.body.take 7 ++ fn.body.drop 7 := (List.take_append_drop 7 _).symm
  unfold exRunF at h
  rw [Option.bind_eq_some_iff] at h
  obtain ⟨ρ, h1, h⟩ := h
  rw [Option.bind_eq_some_iff] at h
  obtain ⟨⟨fl, ρ', σ'⟩, h2, h3⟩ := h
  have go : ∀ x, r = (x, σ'.take σ.length) → SsOK prog w (KH w) p loose mg mb rk fn.scope ρ σ fn.body (.ret x, ρ', σ') → CallOK prog w (KH w) p loose mg mb (rk + 1) "extra_order" args σ r := fun x e H => by
    subst e
    exact call_fn fa h1 H
  have HS := evS_ok (sc := fn.scope) hG (blt_K w) (mt := fn.mt.contains) 60
  cases fl with
  | ret x =>
    cases h3
    refine go x rfl ?_
    rw [hb]
    exact ss_app HS _ _ _ h2 (fun e => by cases e) fun y e => by cases e; rfl
  | next =>
    simp only at h3
    split at h3
    · rename_i o ho
      split at h3
      · rename_i hT
        cases h3
        refine go _ rfl ?_
        rw [hb]
        refine ss_app HS _ _ _ h2 (fun _ => ?_) fun y e => by cases e
        have hT' : ρ'.lookup (Str.ofString "told") = none := by simpa using hT
        obtain ⟨tp, sp, dp, tp2, ck, cp, sbp, ap, tp3, atp, op, clp, rp, hsh, hat⟩ := sh
        rw [hsh]
        exact @ex_tailOK prog w p loose mg mb σ' fn.scope ρ' o rk G hG lo hT' ho tp sp dp tp2 cp sbp ap tp3 atp op clp rp ck hat
      · cases h3
    · cases h3
theorem ex_ok {rk : Nat} {G : Ctr} (hG : GOK prog w (KH w) p loose mg mb rk G) {args : List LV} {r : Dat × Sig} (h : exRun G args σ = some r) : CallOK prog w (KH w) p loose mg mb (rk + 1) "extra_order" args σ r :=
  ex_gen (fnAt_18 w.params) ex_shape ex_loc hG h
theorem gok_k : ∀ n, GOK prog w (KH w) p loose mg mb (2 + n) (Gk n) := by
  intro n
  induction n with
  | zero => exact gok_0
  | succ n ih =>
    intro f args σ r h
    simp only [Gk] at h
    split at h
    · rename_i r' hr
      cases h
      exact (gok_0 _ _ _ _ hr).up (n + 1)
    · split at h
      · rename_i fn hfn
        have hm := lookup_mem hfn
        exact run_ok (rk := 2 + n) ih (blt_K w) (fns_at w _ hm) h
      · split at h
        · rename_i hf
          subst hf
          exact ex_ok (rk := 2 + n) ih h
        · cases h
end
/-- an int that an operand tells -/
inductive TE where
  | lit (i : Int)
  | n8
  | n16
  | goal
/-- an operand, by its kind -/
inductive TOp where
  | s (kind val : Str)
  | n (kind : Str) (e : TE)
  | x (idx : Str)
abbrev TO := Str × List TOp
noncomputable def TE.ev (pk : Int → Int) (b : Int) : TE → Int
  | .lit i => i
  | .n8 => pk b
  | .n16 => pk b + 256 * pk (Builtin.bitAnd (b + 1) 65535)
  | .goal => Builtin.bitAnd (b + 1 + sgn (pk b)) 65535
noncomputable def TOp.ev (pk : Int → Int) (b bes : Int) : TOp → Dat
  | .s k v => .tuple [.str k, .str v]
  | .n k e => .tuple [.str k, .int (e.ev pk b)]
  | .x i => .tuple [.str "x", .str i, .int bes]
noncomputable def evOps (pk : Int → Int) (b bes : Int) (l : List TOp) : List Dat := l.map (TOp.ev pk b bes)
noncomputable def nthS (l : List Str) (k : Nat) : Str := l.getD k ""
noncomputable def placeT (code : Nat) (idx : Str) : TOp :=
  if code = 6 then (if idx = "" then .s "m" "HL" else .x idx)
  else if idx ≠ "" ∧ (code = 4 ∨ code = 5) then .s "r" (idx ++ (if code = 4 then "H" else "L"))
  else .s "r" (nthS ["B", "C", "D", "E", "H", "L", "(HL)", "A"] code)
noncomputable def pairT (code : Nat) (idx last : Str) : TOp :=
  if code = 2 then .s "p" (if idx = "" then "HL" else idx) else .s "p" (nthS ["BC", "DE", "HL", last] code)
noncomputable def flagT (code : Nat) : TOp := if code = 3 then .s "r" "C" else .s "f" (nthS ["NZ", "Z", "NC", "C", "PO", "PE", "P", "M"] code)
noncomputable def reckT (y : Nat) (op : TOp) : TO := (nthS ["ADD", "ADC", "SUB", "SBC", "AND", "XOR", "OR", "CP"] y, if y = 0 ∨ y = 1 ∨ y = 3 then [.s "r" "A", op] else [op])
noncomputable def ordT (ops : List TOp) (sec : Bool) : TO := ("LD", if sec then ops.reverse else ops)
noncomputable def shortT (y : Nat) : TO :=
  if y = 0 then ("NOP", []) else if y = 1 then ("EX", [.s "p" "AF", .s "p" "AF'"]) else if y = 2 then ("DJNZ", [.n "n" .goal]) else if y = 3 then ("JR", [.n "n" .goal])
  else ("JR", [flagT (y - 4), .n "n" .goal])
noncomputable def lowT (o : Nat) (idx : Str) : TO :=
  let y := o / 8 % 8
  let z := o % 8
  let p := y / 2
  let sec := y % 2 == 1
  if z = 0 then shortT y
  else if z = 1 then (if sec then ("ADD", [pairT 2 idx "SP", pairT p idx "SP"]) else ("LD", [pairT p idx "SP", .n "n" .n16]))
  else if z = 2 then (if p < 2 then ordT [.s "m" (nthS ["BC", "DE"] p), .s "r" "A"] sec else ordT [.n "a" .n16, if p = 2 then pairT 2 idx "SP" else .s "r" "A"] sec)
  else if z = 3 then (if sec then "DEC" else "INC", [pairT p idx "SP"])
  else if z = 7 then (nthS ["RLCA", "RRCA", "RLA", "RRA", "DAA", "CPL", "SCF", "CCF"] y, [])
  else if z = 6 then ("LD", [placeT y idx, .n "n" .n8])
  else (if z = 4 then "INC" else "DEC", [placeT y idx])
noncomputable def otherT (y : Nat) (base : Str) : TO :=
  if y = 0 then ("JP", [.n "n" .n16]) else if y = 2 then ("OUT", [.n "a" .n8, .s "r" "A"]) else if y = 3 then ("IN", [.s "r" "A", .n "a" .n8])
  else if y = 4 then ("EX", [.s "m" "SP", .s "p" base]) else if y = 5 then ("EX", [.s "p" "DE", .s "p" "HL"]) else if y = 6 then ("DI", []) else ("EI", [])
noncomputable def highT (o : Nat) (idx : Str) : TO :=
  let y := o / 8 % 8
  let z := o % 8
  let base : Str := if idx = "" then "HL" else idx
  if z = 0 then ("RET", [flagT y])
  else if z = 1 then (if y % 2 = 0 then ("POP", [pairT (y / 2) idx "AF"]) else if y / 2 = 0 then ("RET", []) else if y / 2 = 1 then ("EXX", []) else if y / 2 = 2 then ("JP", [.s "m" base]) else ("LD", [.s "p" "SP", .s "p" base]))
  else if z = 2 then ("JP", [flagT y, .n "n" .n16])
  else if z = 4 then ("CALL", [flagT y, .n "n" .n16])
  else if z = 3 then otherT y base
  else if z = 5 then (if y % 2 = 0 then ("PUSH", [pairT (y / 2) idx "AF"]) else ("CALL", [.n "n" .n16]))
  else if z = 6 then reckT y (.n "n" .n8) else ("RST", [.n "n" (.lit (8 * y))])
noncomputable def mainT (o : Nat) (idx : Str) : TO :=
  let x := o / 64
  let y := o / 8 % 8
  let z := o % 8
  if x = 0 then lowT o idx else if x = 3 then highT o idx else if x = 2 then reckT y (placeT z idx)
  else if o = 118 then ("HALT", [])
  else if y = 6 ∨ z = 6 then ("LD", [placeT y (if y = 6 then idx else ""), placeT z (if z = 6 then idx else "")])
  else ("LD", [placeT y idx, placeT z idx])
noncomputable def farT (o : Nat) : Nat :=
  let x := o / 64
  let y := o / 8 % 8
  let z := o % 8
  if x = 0 then (if z = 0 then (if y < 2 then 0 else 1) else if z = 1 then (if y % 2 = 0 then 2 else 0) else if z = 2 ∧ 3 < y then 2 else if z = 6 then 1 else 0)
  else if x < 3 then 0 else if z = 2 ∨ z = 4 ∨ o = 195 ∨ o = 205 then 2 else if z = 6 ∨ o = 211 ∨ o = 219 then 1 else 0
noncomputable def turnsT (o : Nat) : Bool :=
  let x := o / 64
  let y := o / 8 % 8
  let z := o % 8
  if x = 0 then (if z = 1 then y % 2 == 1 || y == 4 else if z = 2 ∨ z = 3 then y == 4 || y == 5 else decide (4 ≤ z ∧ z ≤ 6) && decide (4 ≤ y ∧ y ≤ 6))
  else if x = 1 then o != 118 && (decide (4 ≤ y ∧ y ≤ 6) || decide (4 ≤ z ∧ z ≤ 6))
  else if x = 2 then decide (4 ≤ z ∧ z ≤ 6) else o == 225 || o == 227 || o == 229 || o == 233 || o == 249
noncomputable def besT (o : Nat) : Bool :=
  let x := o / 64
  let y := o / 8 % 8
  let z := o % 8
  if x = 0 then y == 6 && decide (4 ≤ z ∧ z ≤ 6) else o != 118 && ((x == 1 && (y == 6 || z == 6)) || (x == 2 && z == 6))
noncomputable def bitsT (o : Nat) (ops : List Dat) : Str × List Dat :=
  let x := o / 64
  let y := o / 8 % 8
  if x = 0 then (nthS ["RLC", "RRC", "RL", "RR", "SLA", "SRA", "SLL", "SRL"] y, ops) else (nthS ["BIT", "RES", "SET"] (x - 1), .tuple [.str "n", .int (y : Nat)] :: ops)
noncomputable def toD (t : Str × List Dat) : Dat := .tuple [.str t.1, .list t.2]
noncomputable def inD (pk : Int → Int) (b bes : Int) (t : TO) : Dat := .tuple [.str t.1, .list (evOps pk b bes t.2)]
noncomputable def resD (t : Str × List Dat) (n : Nat) : Dat := .tuple [.str t.1, .list t.2, .int (Int.ofNat n)]
noncomputable def evT (pk : Int → Int) (b bes : Int) (t : TO) : Str × List Dat := (t.1, evOps pk b bes t.2)
noncomputable def dbT (pk : Int → Int) (a : Int) (n : Nat) : Str × List Dat := ("DB", (List.range n).map fun k => .tuple [.str "n", .int (pk (a + Int.ofNat k))])
noncomputable def exT (o : Nat) : Option TO :=
  let x := o / 64
  let y := o / 8 % 8
  let z := o % 8
  if x = 2 ∧ 3 < y ∧ z < 4 then some (nthS ["LDI", "CPI", "INI", "OUTI", "LDD", "CPD", "IND", "OUTD", "LDIR", "CPIR", "INIR", "OTIR", "LDDR", "CPDR", "INDR", "OTDR"] ((y - 4) * 4 + z), [])
  else if x ≠ 1 then none
  else if z < 2 then
    let place : TOp := if y ≠ 6 then .s "r" (nthS ["B", "C", "D", "E", "H", "L", "(HL)", "A"] y) else if z = 0 then .s "r" "F" else .n "n" (.lit 0)
    some (if z = 0 then ("IN", [place, .s "m" "C"]) else ("OUT", [.s "m" "C", place]))
  else if z = 2 then some (if y % 2 = 1 then "ADC" else "SBC", [.s "p" "HL", pairT (y / 2) "" "SP"])
  else if z = 3 then (if y / 2 = 2 then none else some (ordT [.n "a" .n16, pairT (y / 2) "" "SP"] (y % 2 == 1)))
  else if z = 7 then (if 5 < y then none else if y = 0 then some ("LD", [.s "r" "I", .s "r" "A"]) else if y = 1 then some ("LD", [.s "r" "R", .s "r" "A"]) else if y = 2 then some ("LD", [.s "r" "A", .s "r" "I"]) else if y = 3 then some ("LD", [.s "r" "A", .s "r" "R"]) else if y = 4 then some ("RRD", []) else some ("RLD", []))
  else if o = 68 then some ("NEG", []) else if o = 69 then some ("RETN", []) else if o = 77 then some ("RETI", []) else if o = 70 then some ("IM", [.n "n" (.lit 0)]) else if o = 86 then some ("IM", [.n "n" (.lit 1)]) else if o = 94 then some ("IM", [.n "n" (.lit 2)]) else none
noncomputable def octs : List Nat := List.range 256
noncomputable def blkOf (o : Nat) (l : List Stmt) : List Stmt := match l with
  | .If (.Compare _ _ [.Constant (.int i) _ _] _) b _ _ :: r => if i = o then b else blkOf o r
  | _ :: r => blkOf o r
  | [] => []
noncomputable def body25 : List Stmt := (fnI 25).2.body
noncomputable def body24 : List Stmt := (fnI 24).2.body
noncomputable def Gi : Ctr := fun f args σ => if f = "index_order" then runFn (Gk 5) (fnI 24).2 60 args σ else Gk 5 f args σ
noncomputable def f25 (n : Nat) : Rho → Sig → Stmt → SRes := evS Gi (fnI 25).2.mt.contains (fnI 25).2.scope n
noncomputable def f24 (n : Nat) : Rho → Sig → Stmt → SRes := evS (Gk 5) (fnI 24).2.mt.contains (fnI 24).2.scope n
noncomputable def ro (a : Int) (l : List (String × Int)) : Rho := (Str.ofString "memory", .c 0) :: (Str.ofString "at", .d (.int a)) :: l.map fun q => (Str.ofString q.1, .d (.int q.2))
noncomputable def outc (r : SRes) : Option Dat := match r with
  | some (.ret x, _, [.mem _]) => some x
  | _ => none
noncomputable def t1 (pk : Int → Int) (a : Int) (o : Nat) : Dat := resD (evT pk (a + 1) 0 (mainT o "")) (1 + farT o)
noncomputable def t2 (pk : Int → Int) (a : Int) (c : Nat) : Dat := resD (bitsT c [(placeT (c % 8) "").ev pk 0 0]) 2
noncomputable def manyT (c : Nat) : Nat := if c / 64 = 1 ∧ c % 8 = 3 then 4 else 2
noncomputable def t3 (pk : Int → Int) (a : Int) (c : Nat) : Dat := match exT c with
  | none => resD (dbT pk a (manyT c)) (manyT c)
  | some t => resD (evT pk (a + 2) 0 t) (manyT c)
noncomputable def bsT (c : Nat) : Nat := if besT c then 1 else 0
noncomputable def x1 (pk : Int → Int) (a : Int) (idx : Str) (c : Nat) : Dat :=
  if c = 221 ∨ c = 237 ∨ c = 253 ∨ turnsT c = false then resD (dbT pk a 1) 1 else resD (evT pk (a + 2 + Int.ofNat (bsT c)) (sgn (pk (a + 2))) (mainT c idx)) (2 + bsT c + farT c)
noncomputable def x2 (pk : Int → Int) (a : Int) (idx : Str) (k : Nat) : Dat :=
  if k / 64 = 1 ∧ k % 8 ≠ 6 then resD (dbT pk a 4) 4
  else resD (bitsT k (.tuple [.str "x", .str idx, .int (sgn (pk (a + 2)))] :: (if k % 8 = 6 then [] else [.tuple [.str "r", .str (nthS ["B", "C", "D", "E", "H", "L", "(HL)", "A"] (k % 8))]]))) 4
noncomputable def pcs (k : Nat) : List Nat := (List.range 64).map fun i => 64 * k + i
theorem pcs_mem {o : Nat} (h : o ∈ octs) : o ∈ pcs 0 ∨ o ∈ pcs 1 ∨ o ∈ pcs 2 ∨ o ∈ pcs 3 := by
  have h1 : o < 256 := List.mem_range.mp h
  have key : ∀ k, 64 * k ≤ o → o < 64 * k + 64 → o ∈ pcs k := fun k a b => List.mem_map.mpr ⟨o - 64 * k, List.mem_range.mpr (by omega), by omega⟩
  by_cases a1 : o < 64
  · exact .inl (key 0 (by omega) (by omega))
  · by_cases a2 : o < 128
    · exact .inr (.inl (key 1 (by omega) (by omega)))
    · by_cases a3 : o < 192
      · exact .inr (.inr (.inl (key 2 (by omega) (by omega))))
      · exact .inr (.inr (.inr (key 3 (by omega) (by omega))))
theorem map_here {α β : Type} {F G : α → β} {l : List α} (h : l.map F = l.map G) : ∀ o ∈ l, F o = G o := List.map_inj_left.mp h
noncomputable def mapL {α β : Type} (F : α → β) (l : List α) : List β := @List.rec α (fun _ => List β) [] (fun a _ ih => F a :: ih) l
theorem mapL_eq {α β : Type} (F : α → β) : ∀ l : List α, mapL F l = l.map F
  | [] => rfl
  | a :: l => by
    show F a :: mapL F l = _
    rw [mapL_eq F l]; rfl
theorem of_pcs {β : Type} {F G : Nat → β} (p : Nat → Bool) (h0 : mapL F ((pcs 0).filter p) = ((pcs 0).filter p).map G) (h1 : mapL F ((pcs 1).filter p) = ((pcs 1).filter p).map G) (h2 : mapL F ((pcs 2).filter p) = ((pcs 2).filter p).map G) (h3 : mapL F ((pcs 3).filter p) = ((pcs 3).filter p).map G) :
    ∀ o ∈ octs.filter p, F o = G o := fun o ho => by
  obtain ⟨hm, hp⟩ := List.mem_filter.mp ho
  rw [mapL_eq] at h0 h1 h2 h3
  rcases pcs_mem hm with q | q | q | q
  · exact map_here h0 o (List.mem_filter.mpr ⟨q, hp⟩)
  · exact map_here h1 o (List.mem_filter.mpr ⟨q, hp⟩)
  · exact map_here h2 o (List.mem_filter.mpr ⟨q, hp⟩)
  · exact map_here h3 o (List.mem_filter.mpr ⟨q, hp⟩)
noncomputable def pA (o : Nat) : Bool := o != 203 && o != 237 && o != 221 && o != 253
noncomputable def pX (o : Nat) : Bool := o != 203
noncomputable def pT (_ : Nat) : Bool := true
noncomputable def ixS (i : Nat) : Str := ⟨#[73, i]⟩
noncomputable def rx (a : Int) (idx : Str) (l : List (String × Int)) : Rho := (Str.ofString "memory", .c 0) :: (Str.ofString "at", .d (.int a)) :: (Str.ofString "index", .d (.str idx)) :: l.map fun q => (Str.ofString q.1, .d (.int q.2))
noncomputable def F1 (M : Mem) (a : Int) : Nat → Option Dat := fun (o : Nat) => outc (evSs (f25 60) (body25.drop 1) (ro a [("octet", Int.ofNat o)]) [.mem M])
noncomputable def G1 (M : Mem) (a : Int) : Nat → Option Dat := fun o => some (t1 M.pk a o)
theorem kk1x0 (M : Mem) (a : Int) : mapL (F1 M a) ((pcs 0).filter pA) = ((pcs 0).filter pA).map (G1 M a) := by kernel_rfl
theorem kk1x1 (M : Mem) (a : Int) : mapL (F1 M a) ((pcs 1).filter pA) = ((pcs 1).filter pA).map (G1 M a) := by kernel_rfl
theorem kk1x2 (M : Mem) (a : Int) : mapL (F1 M a) ((pcs 2).filter pA) = ((pcs 2).filter pA).map (G1 M a) := by kernel_rfl
theorem kk1x3 (M : Mem) (a : Int) : mapL (F1 M a) ((pcs 3).filter pA) = ((pcs 3).filter pA).map (G1 M a) := by kernel_rfl
theorem k1 (M : Mem) (a : Int) : ∀ o ∈ octs.filter pA, F1 M a o = G1 M a o := of_pcs pA (kk1x0 M a) (kk1x1 M a) (kk1x2 M a) (kk1x3 M a)
noncomputable def F2 (M : Mem) (a : Int) : Nat → Option Dat := fun (c : Nat) => outc (evSs (f25 59) ((blkOf 203 body25).drop 1) (ro a [("octet", 203), ("code", Int.ofNat c)]) [.mem M])
noncomputable def G2 (M : Mem) (a : Int) : Nat → Option Dat := fun c => some (t2 M.pk a c)
theorem kk2x0 (M : Mem) (a : Int) : mapL (F2 M a) ((pcs 0).filter pT) = ((pcs 0).filter pT).map (G2 M a) := by kernel_rfl
theorem kk2x1 (M : Mem) (a : Int) : mapL (F2 M a) ((pcs 1).filter pT) = ((pcs 1).filter pT).map (G2 M a) := by kernel_rfl
theorem kk2x2 (M : Mem) (a : Int) : mapL (F2 M a) ((pcs 2).filter pT) = ((pcs 2).filter pT).map (G2 M a) := by kernel_rfl
theorem kk2x3 (M : Mem) (a : Int) : mapL (F2 M a) ((pcs 3).filter pT) = ((pcs 3).filter pT).map (G2 M a) := by kernel_rfl
theorem k2 (M : Mem) (a : Int) : ∀ o ∈ octs.filter pT, F2 M a o = G2 M a o := of_pcs pT (kk2x0 M a) (kk2x1 M a) (kk2x2 M a) (kk2x3 M a)
noncomputable def F3 (M : Mem) (a : Int) : Nat → Option Dat := fun (c : Nat) => outc (evSs (f25 59) ((blkOf 237 body25).drop 1) (ro a [("octet", 237), ("code", Int.ofNat c)]) [.mem M])
noncomputable def G3 (M : Mem) (a : Int) : Nat → Option Dat := fun c => some (t3 M.pk a c)
theorem kk3x0 (M : Mem) (a : Int) : mapL (F3 M a) ((pcs 0).filter pT) = ((pcs 0).filter pT).map (G3 M a) := by kernel_rfl
theorem kk3x1 (M : Mem) (a : Int) : mapL (F3 M a) ((pcs 1).filter pT) = ((pcs 1).filter pT).map (G3 M a) := by kernel_rfl
theorem kk3x2 (M : Mem) (a : Int) : mapL (F3 M a) ((pcs 2).filter pT) = ((pcs 2).filter pT).map (G3 M a) := by kernel_rfl
theorem kk3x3 (M : Mem) (a : Int) : mapL (F3 M a) ((pcs 3).filter pT) = ((pcs 3).filter pT).map (G3 M a) := by kernel_rfl
theorem k3 (M : Mem) (a : Int) : ∀ o ∈ octs.filter pT, F3 M a o = G3 M a o := of_pcs pT (kk3x0 M a) (kk3x1 M a) (kk3x2 M a) (kk3x3 M a)
noncomputable def F4 (M : Mem) (a : Int) (i : Nat) : Nat → Option Dat := fun (c : Nat) => outc (evSs (f24 60) (body24.drop 1) (rx a (ixS i) [("octet", Int.ofNat c)]) [.mem M])
noncomputable def G4 (M : Mem) (a : Int) (i : Nat) : Nat → Option Dat := fun c => some (x1 M.pk a (ixS i) c)
theorem kk4x0 (M : Mem) (a : Int) (i : Nat) : mapL (F4 M a i) ((pcs 0).filter pX) = ((pcs 0).filter pX).map (G4 M a i) := by kernel_rfl
theorem kk4x1 (M : Mem) (a : Int) (i : Nat) : mapL (F4 M a i) ((pcs 1).filter pX) = ((pcs 1).filter pX).map (G4 M a i) := by kernel_rfl
theorem kk4x2 (M : Mem) (a : Int) (i : Nat) : mapL (F4 M a i) ((pcs 2).filter pX) = ((pcs 2).filter pX).map (G4 M a i) := by kernel_rfl
theorem kk4x3 (M : Mem) (a : Int) (i : Nat) : mapL (F4 M a i) ((pcs 3).filter pX) = ((pcs 3).filter pX).map (G4 M a i) := by kernel_rfl
theorem k4 (M : Mem) (a : Int) (i : Nat) : ∀ o ∈ octs.filter pX, F4 M a i o = G4 M a i o := of_pcs pX (kk4x0 M a i) (kk4x1 M a i) (kk4x2 M a i) (kk4x3 M a i)
noncomputable def F6 (M : Mem) (a : Int) (i : Nat) : Nat → Option Dat := fun (c : Nat) => outc (evSs (f24 59) ((blkOf 203 body24).drop 1) (rx a (ixS i) [("octet", 203), ("beside", sgn (M.pk (a + 2))), ("code", Int.ofNat c)]) [.mem M])
noncomputable def G6 (M : Mem) (a : Int) (i : Nat) : Nat → Option Dat := fun c => some (x2 M.pk a (ixS i) c)
theorem kk6x0 (M : Mem) (a : Int) (i : Nat) : mapL (F6 M a i) ((pcs 0).filter pT) = ((pcs 0).filter pT).map (G6 M a i) := by kernel_rfl
theorem kk6x1 (M : Mem) (a : Int) (i : Nat) : mapL (F6 M a i) ((pcs 1).filter pT) = ((pcs 1).filter pT).map (G6 M a i) := by kernel_rfl
theorem kk6x2 (M : Mem) (a : Int) (i : Nat) : mapL (F6 M a i) ((pcs 2).filter pT) = ((pcs 2).filter pT).map (G6 M a i) := by kernel_rfl
theorem kk6x3 (M : Mem) (a : Int) (i : Nat) : mapL (F6 M a i) ((pcs 3).filter pT) = ((pcs 3).filter pT).map (G6 M a i) := by kernel_rfl
theorem k6 (M : Mem) (a : Int) (i : Nat) : ∀ o ∈ octs.filter pT, F6 M a i o = G6 M a i o := of_pcs pT (kk6x0 M a i) (kk6x1 M a i) (kk6x2 M a i) (kk6x3 M a i)
theorem ss_step {f : Rho → Sig → Stmt → SRes} {ρ ρ' : Rho} {σ σ' : Sig} : ∀ {body : List Stmt}, evSs f (body.take 1) ρ σ = some (.next, ρ', σ') → evSs f body ρ σ = evSs f (body.drop 1) ρ' σ'
  | [], h => by simp only [List.take_nil, evSs, Option.some.injEq, Prod.mk.injEq] at h; obtain ⟨_, rfl, rfl⟩ := h; rfl
  | s :: r, h => by
    simp only [List.take_succ_cons, List.take_zero, evSs, Option.bind_eq_some_iff] at h
    obtain ⟨⟨fl, ρ₁, σ₁⟩, h1, h2⟩ := h
    cases fl with
    | next =>
      simp only [Option.some.injEq, Prod.mk.injEq, true_and] at h2
      obtain ⟨rfl, rfl⟩ := h2
      simp only [evSs, h1, Option.bind_some, List.drop_succ_cons, List.drop_zero]
    | ret x => simp at h2
theorem outc_some {r : SRes} {x : Dat} (h : outc r = some x) : ∃ ρ M, r = some (.ret x, ρ, [.mem M]) := by
  unfold outc at h
  split at h
  · cases h; exact ⟨_, _, rfl⟩
  · cases h
theorem pk_oct (M : Mem) (a : Int) : ∃ o : Nat, M.pk a = Int.ofNat o ∧ o ∈ octs := by
  obtain ⟨h1, h2⟩ := (pk_get M a).2
  obtain ⟨o, ho⟩ := Int.eq_ofNat_of_zero_le h1
  refine ⟨o, ho, List.mem_range.mpr (by omega)⟩
theorem run_of {G : Ctr} {fn : Fn} {n : Nat} {args : List LV} {σ : Sig} {ρ ρ' : Rho} {x : Dat} {M : Mem} (h1 : bindR fn.params args = some ρ) (h2 : evSs (evS G fn.mt.contains fn.scope n) fn.body ρ σ = some (.ret x, ρ', [.mem M])) (hl : σ.length = 1) : runFn G fn n args σ = some (x, [.mem M]) := by
  simp only [runFn, h1, Option.bind_some, h2, hl]
  rfl
noncomputable def xD (pk : Int → Int) (a : Int) (idx : Str) : Dat := if pk (a + 1) = 203 then x2 pk a idx (pk (a + 3)).toNat else x1 pk a idx (pk (a + 1)).toNat
theorem i_bind (a : Int) (idx : Str) : bindR (fnI 24).2.params [.c 0, .d (.int a), .d (.str idx)] = some (rx a idx []) := by kernel_rfl
theorem i_step (M : Mem) (a : Int) (idx : Str) : evSs (f24 60) (body24.take 1) (rx a idx []) [.mem M] = some (.next, rx a idx [("octet", M.pk (a + 1))], [.mem M]) := by kernel_rfl
theorem i_blk (M : Mem) (a : Int) (idx : Str) : evSs (f24 60) (body24.drop 1) (rx a idx [("octet", 203)]) [.mem M] = (evSs (f24 59) (blkOf 203 body24) (rx a idx [("octet", 203)]) [.mem M]).bind fun p => match p.1 with
    | .next => evSs (f24 60) (body24.drop 2) p.2.1 p.2.2
    | .ret x => some (.ret x, p.2.1, p.2.2) := by kernel_rfl
theorem i_step2 (M : Mem) (a : Int) (idx : Str) : evSs (f24 59) ((blkOf 203 body24).take 1) (rx a idx [("octet", 203)]) [.mem M] = some (.next, rx a idx [("octet", 203), ("beside", sgn (M.pk (a + 2))), ("code", M.pk (a + 3))], [.mem M]) := by kernel_rfl
theorem ix_of {idx : Str} (hi : idx = "IX" ∨ idx = "IY") : ∃ i, idx = ixS i := by
  rcases hi with rfl | rfl
  · exact ⟨88, by kernel_rfl⟩
  · exact ⟨89, by kernel_rfl⟩
theorem run_idx (M : Mem) (a : Int) (idx : Str) (hi : idx = "IX" ∨ idx = "IY") : ∃ M', runFn (Gk 5) (fnI 24).2 60 [.c 0, .d (.int a), .d (.str idx)] [.mem M] = some (xD M.pk a idx, [.mem M']) := by
  obtain ⟨i, rfl⟩ := ix_of hi
  have key : outc (evSs (f24 60) body24 (rx a (ixS i) []) [.mem M]) = some (xD M.pk a (ixS i)) := by
    rw [ss_step (i_step M a (ixS i))]
    obtain ⟨o, ho, hm⟩ := pk_oct M (a + 1)
    unfold xD
    rw [ho]
    by_cases h : o = 203
    · subst h
      rw [show (Int.ofNat 203 : Int) = 203 from rfl, if_pos rfl, i_blk, ss_step (i_step2 M a (ixS i))]
      obtain ⟨k, hk, hkm⟩ := pk_oct M (a + 3)
      rw [hk]
      have e : outc (evSs (f24 59) ((blkOf 203 body24).drop 1) (rx a (ixS i) [("octet", 203), ("beside", sgn (M.pk (a + 2))), ("code", Int.ofNat k)]) [.mem M]) = some (x2 M.pk a (ixS i) k) := by
        exact k6 M a i k (List.mem_filter.mpr ⟨hkm, rfl⟩)
      obtain ⟨ρ', M', e'⟩ := outc_some e
      rw [e']
      rfl
    · have hne : ¬ ((Int.ofNat o : Int) = 203) := fun e => h (by have e' : (o : Int) = 203 := e; omega)
      rw [if_neg hne]
      have hX : o ∈ octs.filter pX := List.mem_filter.mpr ⟨hm, by simpa [pX] using h⟩
      exact k4 M a i o hX
  obtain ⟨ρ', M', e⟩ := outc_some key
  exact ⟨M', run_of (i_bind a (ixS i)) e rfl⟩
noncomputable def decD (pk : Int → Int) (a : Int) : Dat :=
  if pk a = 203 then t2 pk a (pk (a + 1)).toNat else if pk a = 237 then t3 pk a (pk (a + 1)).toNat else if pk a = 221 then xD pk a "IX" else if pk a = 253 then xD pk a "IY" else t1 pk a (pk a).toNat
theorem d_bind (a : Int) : bindR (fnI 25).2.params [.c 0, .d (.int a)] = some (ro a []) := by kernel_rfl
theorem d_step (M : Mem) (a : Int) : evSs (f25 60) (body25.take 1) (ro a []) [.mem M] = some (.next, ro a [("octet", M.pk a)], [.mem M]) := by kernel_rfl
theorem d_blk2 (M : Mem) (a : Int) : evSs (f25 60) (body25.drop 1) (ro a [("octet", 203)]) [.mem M] = (evSs (f25 59) (blkOf 203 body25) (ro a [("octet", 203)]) [.mem M]).bind fun p => match p.1 with
    | .next => evSs (f25 60) (body25.drop 2) p.2.1 p.2.2
    | .ret x => some (.ret x, p.2.1, p.2.2) := by kernel_rfl
theorem d_blk3 (M : Mem) (a : Int) : evSs (f25 60) (body25.drop 1) (ro a [("octet", 237)]) [.mem M] = (evSs (f25 59) (blkOf 237 body25) (ro a [("octet", 237)]) [.mem M]).bind fun p => match p.1 with
    | .next => evSs (f25 60) (body25.drop 3) p.2.1 p.2.2
    | .ret x => some (.ret x, p.2.1, p.2.2) := by kernel_rfl
theorem d_step2 (M : Mem) (a : Int) : evSs (f25 59) ((blkOf 203 body25).take 1) (ro a [("octet", 203)]) [.mem M] = some (.next, ro a [("octet", 203), ("code", M.pk (a + 1))], [.mem M]) := by kernel_rfl
theorem d_step3 (M : Mem) (a : Int) : evSs (f25 59) ((blkOf 237 body25).take 1) (ro a [("octet", 237)]) [.mem M] = some (.next, ro a [("octet", 237), ("code", M.pk (a + 1))], [.mem M]) := by kernel_rfl
theorem d_ix (M : Mem) (a : Int) (o : Int) (idx : Str) (h : (o = 221 ∧ idx = "IX") ∨ (o = 253 ∧ idx = "IY")) : evSs (f25 60) (body25.drop 1) (ro a [("octet", o)]) [.mem M] =
    ((((Gi "index_order" [.c 0, .d (.int a), .d (.str idx)] [.mem M]).map fun r => (LV.d r.1, r.2)).bind fun p => (frz p.2 p.1).map fun q => (Fl.ret q.1, ro a [("octet", o)], q.2)).bind fun p => match p.1 with
      | .next => evSs (f25 59) [] p.2.1 p.2.2
      | .ret x => some (.ret x, p.2.1, p.2.2)).bind fun p => match p.1 with
      | .next => evSs (f25 60) (body25.drop 4) p.2.1 p.2.2
      | .ret x => some (.ret x, p.2.1, p.2.2) := by
  rcases h with ⟨rfl, rfl⟩ | ⟨rfl, rfl⟩
  · kernel_rfl
  · kernel_rfl
theorem run_dec (M : Mem) (a : Int) : ∃ M', runFn Gi (fnI 25).2 60 [.c 0, .d (.int a)] [.mem M] = some (decD M.pk a, [.mem M']) := by
  have key : outc (evSs (f25 60) body25 (ro a []) [.mem M]) = some (decD M.pk a) := by
    rw [ss_step (d_step M a)]
    obtain ⟨o, ho, hm⟩ := pk_oct M a
    obtain ⟨c, hc, hcm⟩ := pk_oct M (a + 1)
    have cast : ∀ n : Nat, (Int.ofNat o = (n : Int)) ↔ o = n := fun n => ⟨fun e => Int.ofNat.inj e, fun e => by rw [e]; rfl⟩
    have ix : ∀ idx : Str, ((o = 221 ∧ idx = "IX") ∨ (o = 253 ∧ idx = "IY")) → outc (evSs (f25 60) (body25.drop 1) (ro a [("octet", Int.ofNat o)]) [.mem M]) = some (xD M.pk a idx) := fun idx h => by
      obtain ⟨M', e⟩ := run_idx M a idx (by rcases h with ⟨_, h⟩ | ⟨_, h⟩; exact .inl h; exact .inr h)
      have e2 : Gi "index_order" [.c 0, .d (.int a), .d (.str idx)] [.mem M] = some (xD M.pk a idx, [.mem M']) := by
        show (if (Str.ofString "index_order") = "index_order" then runFn (Gk 5) (fnI 24).2 60 [.c 0, .d (.int a), .d (.str idx)] [.mem M] else _) = _
        rw [if_pos rfl]; exact e
      rw [d_ix M a (Int.ofNat o) idx (by rcases h with ⟨h1, h2⟩ | ⟨h1, h2⟩; exact .inl ⟨by rw [h1]; rfl, h2⟩; exact .inr ⟨by rw [h1]; rfl, h2⟩), e2]
      rfl
    unfold decD
    rw [ho]
    by_cases h : o = 203
    · subst h
      rw [show (Int.ofNat 203 : Int) = 203 from rfl, if_pos rfl, d_blk2, ss_step (d_step2 M a), hc]
      obtain ⟨ρ', M', e'⟩ := outc_some (k2 M a c (List.mem_filter.mpr ⟨hcm, rfl⟩))
      rw [e']; rfl
    · rw [if_neg (show ¬ (Int.ofNat o = (203 : Int)) from fun e => h ((cast 203).mp e))]
      by_cases h3 : o = 237
      · subst h3
        rw [show (Int.ofNat 237 : Int) = 237 from rfl, if_pos rfl, d_blk3, ss_step (d_step3 M a), hc]
        obtain ⟨ρ', M', e'⟩ := outc_some (k3 M a c (List.mem_filter.mpr ⟨hcm, rfl⟩))
        rw [e']; rfl
      · rw [if_neg (show ¬ (Int.ofNat o = (237 : Int)) from fun e => h3 ((cast 237).mp e))]
        by_cases h4 : o = 221
        · rw [if_pos (show Int.ofNat o = (221 : Int) from (cast 221).mpr h4)]
          exact ix _ (.inl ⟨h4, rfl⟩)
        · rw [if_neg (show ¬ (Int.ofNat o = (221 : Int)) from fun e => h4 ((cast 221).mp e))]
          by_cases h5 : o = 253
          · rw [if_pos (show Int.ofNat o = (253 : Int) from (cast 253).mpr h5)]
            exact ix _ (.inr ⟨h5, rfl⟩)
          · rw [if_neg (show ¬ (Int.ofNat o = (253 : Int)) from fun e => h5 ((cast 253).mp e))]
            exact k1 M a o (List.mem_filter.mpr ⟨hm, by simp [pA, h, h3, h4, h5]⟩)
  obtain ⟨ρ', M', e⟩ := outc_some key
  exact ⟨M', run_of (d_bind a) e rfl⟩
section
variable {prog : Program} {w : World} {p : Program} {loose : List Str} {mg mb : Str → Option Value} {σ : Sig}
theorem gok_i : GOK prog w (KH w) p loose mg mb 8 Gi := by
  intro f args σ r h
  unfold Gi at h
  split at h
  · rename_i hf
    subst hf
    exact run_ok (f := (fnI 24).1) (gok_k 5) (blt_K w) (fnAt_24 w.params) h
  · exact (gok_k 5 _ _ _ _ h).up 1
/-- decode, wherever it is called -/
theorem dec_ok {mv : LV} {M : Mem} {σ' : Sig} {a : Int} (hm : memArg σ mv = some (M, σ')) : CallOK prog w (KH w) p loose mg mb 9 "decode" [mv, .d (.int a)] σ (decD M.pk a, σ') := by
  obtain ⟨M', e⟩ := run_dec M a
  exact lift_ok (args := [.int a]) (M' := M') (run_ok (f := (fnI 25).1) gok_i (blt_K w) (fnAt_25 w.params) e) hm
end
noncomputable def oct1 : List Nat := octs.filter fun o => o != 203 && o != 237 && o != 221 && o != 253
noncomputable def octX : List Nat := octs.filter fun o => o != 203
noncomputable def okK (x : Str) : Bool := decide (x.length ≤ 20) && PyData.strOk x
noncomputable def okTE : TE → Bool
  | .lit i => decide (0 ≤ i) && decide (i < 1000)
  | _ => true
noncomputable def isS (k : Str) : Bool := decide (k = "m") || decide (k = "r") || decide (k = "p") || decide (k = "f")
noncomputable def isN (k : Str) : Bool := decide (k = "n") || decide (k = "a")
noncomputable def okTOp : TOp → Bool
  | .s k v => isS k && okK v
  | .n k e => isN k && okTE e
  | .x i => okK i
noncomputable def okTO (t : TO) : Bool := okK t.1 && decide (t.2.length ≤ 3) && t.2.all okTOp
noncomputable def lil (v : Int) : Bool := decide (v.natAbs < 100000)
noncomputable def okOp : Dat → Bool
  | .tuple [.str k, .int v] => isN k && lil v
  | .tuple [.str k, .str t] => isS k && okK t
  | .tuple [.str k, .str i, .int b] => decide (k = "x") && okK i && lil b
  | _ => false
noncomputable def okR (t : Str × List Dat) : Prop := okK t.1 = true ∧ t.2.length ≤ 4 ∧ t.2.all okOp = true
noncomputable def InR (pk : Int → Int) : Prop := ∀ a, 0 ≤ pk a ∧ pk a < 256
theorem inR (M : Mem) : InR M.pk := fun a => (pk_get M a).2
theorem sgn_lil {v : Int} (h : 0 ≤ v ∧ v < 256) : (sgn v).natAbs < 300 := by unfold sgn; split <;> omega
theorem te_lil {pk : Int → Int} (h : InR pk) (b : Int) : ∀ e : TE, okTE e = true → lil (e.ev pk b) = true := by
  intro e he
  have h1 := h b
  have h2 := h (Builtin.bitAnd (b + 1) 65535)
  cases e with
  | lit i => simp only [okTE, Bool.and_eq_true, decide_eq_true_eq] at he; exact decide_eq_true (by simp only [TE.ev]; omega)
  | n8 => exact decide_eq_true (by simp only [TE.ev]; omega)
  | n16 => exact decide_eq_true (by simp only [TE.ev]; omega)
  | goal => exact decide_eq_true (by simp only [TE.ev, bitAnd_m16]; omega)
theorem top_ok {pk : Int → Int} (h : InR pk) (b bes : Int) (hb : lil bes = true) : ∀ t : TOp, okTOp t = true → okOp (t.ev pk b bes) = true := by
  intro t ht
  cases t with
  | s k v => exact ht
  | n k e =>
    simp only [okTOp, Bool.and_eq_true] at ht
    simp only [TOp.ev, okOp, Bool.and_eq_true]
    exact ⟨ht.1, te_lil h b e ht.2⟩
  | x i => simp only [TOp.ev, okOp, Bool.and_eq_true, decide_eq_true_eq]; exact ⟨⟨trivial, ht⟩, hb⟩
theorem to_ok {pk : Int → Int} (h : InR pk) (b bes : Int) (hb : lil bes = true) {t : TO} (ht : okTO t = true) : okR (evT pk b bes t) := by
  simp only [okTO, Bool.and_eq_true, decide_eq_true_eq, List.all_eq_true] at ht
  refine ⟨ht.1.1, by have := ht.1.2; simp only [evT, evOps, List.length_map]; omega, List.all_eq_true.mpr fun d hd => ?_⟩
  obtain ⟨t', h1, rfl⟩ := List.mem_map.mp hd
  exact top_ok h b bes hb t' (ht.2 t' h1)
noncomputable def useE : TE → Nat
  | .n8 => 1
  | .goal => 1
  | .n16 => 2
  | .lit _ => 0
noncomputable def useO : TOp → Nat
  | .n _ e => useE e
  | _ => 0
noncomputable def isX : TOp → Bool
  | .x _ => true
  | _ => false
noncomputable def isGoal : TOp → Bool
  | .n _ .goal => true
  | _ => false
noncomputable def jump (w : Str) : Bool := decide (w = "JR") || decide (w = "DJNZ")
noncomputable def lastGoal : List TOp → Bool
  | [] => false
  | [.n k .goal] => decide (k = "n")
  | t :: r => !isGoal t && lastGoal r
noncomputable def goalOK (t : TO) : Bool := if jump t.1 then lastGoal t.2 else t.2.all fun o => !isGoal o
noncomputable def fitTO (t : TO) (n : Nat) : Bool := okTO t && t.2.all (fun o => decide (useO o ≤ n)) && goalOK t
noncomputable def noX (t : TO) : Bool := t.2.all fun o => !isX o
theorem f1 : oct1.all (fun o => fitTO (mainT o "") (farT o) && noX (mainT o "") && decide (farT o ≤ 2)) = true := by decide +kernel
noncomputable def octI : List Nat := octX.filter fun c => turnsT c && c != 221 && c != 237 && c != 253
theorem f2 : octI.all (fun c => fitTO (mainT c "IX") (farT c) && (noX (mainT c "IX") || besT c) && decide (bsT c + farT c ≤ 2)) = true := by decide +kernel
theorem f3 : octI.all (fun c => fitTO (mainT c "IY") (farT c) && (noX (mainT c "IY") || besT c) && decide (bsT c + farT c ≤ 2)) = true := by decide +kernel
theorem f4 : octs.all (fun c => match exT c with
  | none => true
  | some t => fitTO t (manyT c - 2) && noX t && !jump t.1) = true := by decide +kernel
theorem f5 : octs.all (fun c => okK (bitsT c []).1 && okTOp (placeT (c % 8) "") && !isX (placeT (c % 8) "") && decide (useO (placeT (c % 8) "") = 0) && !jump (bitsT c []).1) = true := by decide +kernel
theorem all_at {α : Type} {l : List α} {f : α → Bool} (h : l.all f = true) {a : α} (ha : a ∈ l) : f a = true := List.all_eq_true.mp h a ha
theorem db_ok {pk : Int → Int} (h : InR pk) (a : Int) {n : Nat} (hn : n ≤ 4) : okR (dbT pk a n) := by
  refine ⟨(by decide +kernel : okK "DB" = true), by simpa [dbT] using hn, List.all_eq_true.mpr fun d hd => ?_⟩
  obtain ⟨k, _, rfl⟩ := List.mem_map.mp hd
  have := h (a + Int.ofNat k)
  simp only [okOp, Bool.and_eq_true]
  exact ⟨by decide +kernel, decide_eq_true (by omega)⟩
noncomputable def xN (pk : Int → Int) (a : Int) (idx : Str) (c k : Nat) : Dat := if c = 203 then x2 pk a idx k else x1 pk a idx c
noncomputable def dfn (pk : Int → Int) (a : Int) (o c k : Nat) : Dat :=
  if o = 203 then t2 pk a c else if o = 237 then t3 pk a c else if o = 221 then xN pk a "IX" c k else if o = 253 then xN pk a "IY" c k else t1 pk a o
theorem toNat_eq {v : Int} (h : 0 ≤ v) (n : Nat) : (v = (n : Int)) = (v.toNat = n) := by apply propext; omega
theorem dec_dfn {pk : Int → Int} (h : InR pk) (a : Int) : decD pk a = dfn pk a (pk a).toNat (pk (a + 1)).toNat (pk (a + 3)).toNat := by
  have h0 := (h a).1
  have h1 := (h (a + 1)).1
  have e1 : (pk a = 203) = ((pk a).toNat = 203) := toNat_eq h0 203
  have e2 : (pk a = 237) = ((pk a).toNat = 237) := toNat_eq h0 237
  have e3 : (pk a = 221) = ((pk a).toNat = 221) := toNat_eq h0 221
  have e4 : (pk a = 253) = ((pk a).toNat = 253) := toNat_eq h0 253
  have e5 : (pk (a + 1) = 203) = ((pk (a + 1)).toNat = 203) := toNat_eq h1 203
  simp only [decD, dfn, xD, xN, e1, e2, e3, e4, e5]
/-- agreement, with a way -/
noncomputable def Agr (pk pk' : Int → Int) (w : Int) (b : Int) (n : Nat) : Prop := ∀ x, b ≤ x → x < b + n → pk' (x + w) = pk x
theorem Agr.sub {pk pk' : Int → Int} {w b c : Int} {n m : Nat} (h : Agr pk pk' w b n) (h1 : b ≤ c) (h2 : c + m ≤ b + n) : Agr pk pk' w c m := fun x a1 a2 => h x (by omega) (by omega)
noncomputable def isGE : TE → Bool
  | .goal => true
  | _ => false
theorem te_shift {pk pk' : Int → Int} {w b : Int} {n : Nat} (h : Agr pk pk' w b n) (hb : 0 ≤ b) (hb2 : b < 30000) (hw : 0 ≤ w) (hw2 : w < 30000) : ∀ e : TE, useE e ≤ n → e.ev pk' (b + w) = if isGE e then Builtin.bitAnd (e.ev pk b + w) 65535 else e.ev pk b := by
  intro e he
  cases e with
  | lit i => rfl
  | n8 => simp only [useE] at he; simp only [TE.ev, isGE, Bool.false_eq_true, if_false]; exact h b (Int.le_refl _) (by omega)
  | n16 =>
    simp only [useE] at he
    simp only [TE.ev, isGE, Bool.false_eq_true, if_false, bitAnd_m16]
    have e1 : (b + w + 1) % 65536 = (b + 1) + w := by omega
    have e2 : (b + 1) % 65536 = b + 1 := by omega
    rw [e1, e2, h b (Int.le_refl _) (by omega), h (b + 1) (by omega) (by omega)]
  | goal =>
    simp only [useE] at he
    simp only [TE.ev, isGE, if_true, bitAnd_m16]
    rw [h b (Int.le_refl _) (by omega)]
    omega
theorem top_shift {pk pk' : Int → Int} {w b bes bes' : Int} {n : Nat} (h : Agr pk pk' w b n) (hb : 0 ≤ b) (hb2 : b < 30000) (hw : 0 ≤ w) (hw2 : w < 30000) (t : TOp) (hu : useO t ≤ n) (hx : isX t = false ∨ bes' = bes) (hg : isGoal t = false) : t.ev pk' (b + w) bes' = t.ev pk b bes := by
  cases t with
  | s k v => rfl
  | n k e =>
    simp only [TOp.ev]
    rw [te_shift h hb hb2 hw hw2 e hu]
    cases e <;> first | rfl | simp [isGoal] at hg
  | x i =>
    rcases hx with hx | hx
    · simp [isX] at hx
    · rw [hx]; rfl
noncomputable def lastV (ops : List Dat) : Int := match ops[ops.length - 1]? with
  | some (.tuple [_, .int v]) => v
  | _ => 0
/-- the operands that are due in the turned memory -/
noncomputable def dueD (word : Str) (ops : List Dat) (w : Int) : List Dat := if jump word then ops.set (ops.length - 1) (.tuple [.str "n", .int (Builtin.bitAnd (lastV ops + w) 65535)]) else ops
theorem lastGoal_split : ∀ {l : List TOp}, lastGoal l = true → ∃ i, l = i ++ [.n "n" .goal] ∧ ∀ t ∈ i, isGoal t = false
  | [], h => by simp [lastGoal] at h
  | [t], h => by
    cases t with
    | s k v => simp [lastGoal] at h
    | x i => simp [lastGoal] at h
    | n k e =>
      cases e with
      | goal => simp only [lastGoal, decide_eq_true_eq] at h; subst h; exact ⟨[], rfl, fun _ h => nomatch h⟩
      | _ => simp [lastGoal] at h
  | t :: u :: r, h => by
    have h' : (!isGoal t && lastGoal (u :: r)) = true := by
      cases t with
      | n k e => cases e <;> exact h
      | _ => exact h
    simp only [Bool.and_eq_true, Bool.not_eq_true'] at h'
    obtain ⟨i, h1, h2⟩ := lastGoal_split h'.2
    refine ⟨t :: i, by rw [h1]; rfl, fun q hq => ?_⟩
    rcases List.mem_cons.mp hq with rfl | hq
    · exact h'.1
    · exact h2 q hq
theorem to_shift {pk pk' : Int → Int} {w b bes bes' : Int} {n : Nat} (h : Agr pk pk' w b n) (hb : 0 ≤ b) (hb2 : b < 30000) (hw : 0 ≤ w) (hw2 : w < 30000) {t : TO} (ht : fitTO t n = true) (hx : noX t = true ∨ bes' = bes) :
    evT pk' (b + w) bes' t = (t.1, dueD t.1 (evOps pk b bes t.2) w) := by
  simp only [fitTO, Bool.and_eq_true, List.all_eq_true, decide_eq_true_eq] at ht
  obtain ⟨⟨h1, h2⟩, h3⟩ := ht
  have hx' : ∀ o ∈ t.2, isX o = false ∨ bes' = bes := fun o ho => by
    rcases hx with hx | hx
    · simp only [noX, List.all_eq_true, Bool.not_eq_true'] at hx; exact .inl (hx o ho)
    · exact .inr hx
  unfold evT dueD
  refine Prod.ext rfl ?_
  show evOps pk' (b + w) bes' t.2 = _
  unfold goalOK at h3
  by_cases hj : jump t.1 = true
  · rw [if_pos hj] at h3 ⊢
    obtain ⟨i, e, hi⟩ := lastGoal_split h3
    rw [e] at h2 hx' ⊢
    have e1 : (evOps pk b bes (i ++ [.n "n" .goal])) = evOps pk b bes i ++ [.tuple [.str "n", .int (TE.goal.ev pk b)]] := by simp [evOps, TOp.ev]
    have e2 : (evOps pk' (b + w) bes' (i ++ [.n "n" .goal])) = evOps pk' (b + w) bes' i ++ [.tuple [.str "n", .int (TE.goal.ev pk' (b + w))]] := by simp [evOps, TOp.ev]
    have e3 : evOps pk' (b + w) bes' i = evOps pk b bes i := List.map_congr_left fun o ho => top_shift h hb hb2 hw hw2 o (h2 o (List.mem_append.mpr (.inl ho))) (hx' o (List.mem_append.mpr (.inl ho))) (hi o ho)
    have hu := h2 (.n "n" .goal) (List.mem_append.mpr (.inr (.head _)))
    have e4 := te_shift h hb hb2 hw hw2 .goal hu
    rw [e1, e2, e3, e4]
    simp [lastV, isGE]
  · rw [if_neg hj] at h3 ⊢
    simp only [List.all_eq_true, Bool.not_eq_true'] at h3
    exact List.map_congr_left fun o ho => top_shift h hb hb2 hw hw2 o (h2 o ho) (hx' o ho) (h3 o ho)
theorem dueD_no {word : Str} {ops : List Dat} {w : Int} (h : jump word = false) : dueD word ops w = ops := by unfold dueD; rw [h]; rfl
noncomputable def LastN (t : Str × List Dat) : Prop := jump t.1 = true → ∃ i v, t.2 = i ++ [.tuple [.str "n", .int v]]
theorem lastN_no {t : Str × List Dat} (h : jump t.1 = false) : LastN t := fun e => by rw [h] at e; cases e
theorem lastN_to {pk : Int → Int} {b bes : Int} {t : TO} {n : Nat} (ht : fitTO t n = true) : LastN (evT pk b bes t) := by
  intro hj
  simp only [fitTO, Bool.and_eq_true] at ht
  have h3 := ht.2
  unfold goalOK at h3
  rw [if_pos (show jump t.1 = true from hj)] at h3
  obtain ⟨i, e, _⟩ := lastGoal_split h3
  exact ⟨evOps pk b bes i, TE.goal.ev pk b, by simp [evT, evOps, e, TOp.ev]⟩
noncomputable def okL (t : Str × List Dat) : Prop := okR t ∧ LastN t
noncomputable def KeepsAt (pk : Int → Int) (a : Int) (m : Nat) (d : Dat) (f : (Int → Int) → Int → Dat) : Prop :=
  ∃ t n, d = resD t n ∧ okL t ∧ m ≤ n ∧ n ≤ 4 ∧ ∀ pk' w, 0 ≤ w → w < 10000 → Agr pk pk' w a n → f pk' (a + w) = resD (t.1, dueD t.1 t.2 w) n
theorem db_keeps {pk : Int → Int} (h : InR pk) (a : Int) {n : Nat} (h1 : 1 ≤ n) (h4 : n ≤ 4) : KeepsAt pk a n (resD (dbT pk a n) n) (fun pk' a' => resD (dbT pk' a' n) n) := by
  refine ⟨dbT pk a n, n, rfl, ⟨db_ok h a h4, lastN_no (by decide +kernel : jump "DB" = false)⟩, Nat.le_refl _, h4, fun pk' w hw hw2 ag => ?_⟩
  have e0 : dueD (dbT pk a n).1 (dbT pk a n).2 w = (dbT pk a n).2 := dueD_no (by decide +kernel : jump "DB" = false)
  rw [e0]
  have : dbT pk' (a + w) n = dbT pk a n := by
    unfold dbT
    refine Prod.ext rfl (List.map_congr_left fun k hk => ?_)
    have hk' := List.mem_range.mp hk
    have e : a + w + Int.ofNat k = (a + Int.ofNat k) + w := by omega
    rw [e, ag (a + Int.ofNat k) (by simp only [Int.ofNat_eq_natCast]; omega) (by simp only [Int.ofNat_eq_natCast]; omega)]
  show resD (dbT pk' (a + w) n) n = _
  rw [this]
theorem bits_fst (c : Nat) (ops : List Dat) : (bitsT c ops).1 = (bitsT c []).1 := by unfold bitsT; simp only; split <;> rfl
theorem bits_snd (c : Nat) (ops : List Dat) : (bitsT c ops).2 = ops ∨ (bitsT c ops).2 = .tuple [.str "n", .int ((c / 8 % 8 : Nat) : Int)] :: ops := by unfold bitsT; simp only; split <;> simp
theorem bits_ok {c : Nat} (hc : c ∈ octs) {ops : List Dat} (h : ops.all okOp = true) (hl : ops.length ≤ 3) : okR (bitsT c ops) ∧ jump (bitsT c ops).1 = false := by
  have q := all_at f5 hc
  simp only [Bool.and_eq_true, Bool.not_eq_true'] at q
  refine ⟨⟨by rw [bits_fst]; exact q.1.1.1.1, ?_, ?_⟩, by rw [bits_fst]; exact q.2⟩
  · rcases bits_snd c ops with e | e <;> rw [e]
    · omega
    · simp only [List.length_cons]; omega
  · rcases bits_snd c ops with e | e <;> rw [e]
    · exact h
    · rw [List.all_cons, h, Bool.and_true]
      simp only [okOp, Bool.and_eq_true]
      exact ⟨by decide +kernel, decide_eq_true (by omega)⟩
theorem bsT_le (c : Nat) : bsT c ≤ 1 := by unfold bsT; split <;> omega
theorem x1_keeps {pk : Int → Int} (h : InR pk) {a : Int} (ha : 0 ≤ a) (ha2 : a < 10000) {idx : Str} (hi : idx = "IX" ∨ idx = "IY") {c : Nat} (hc : c ∈ octX) : KeepsAt pk a 1 (x1 pk a idx c) (fun pk' a' => x1 pk' a' idx c) := by
  unfold x1
  by_cases hd : c = 221 ∨ c = 237 ∨ c = 253 ∨ turnsT c = false
  · simp only [if_pos hd]
    exact db_keeps h a (by omega) (by omega)
  · simp only [if_neg hd]
    have hI : c ∈ octI := List.mem_filter.mpr ⟨hc, by
      simp only [not_or] at hd
      have : turnsT c = true := by cases e : turnsT c <;> simp [e] at hd ⊢
      simp [this, hd.1, hd.2.1, hd.2.2.1]⟩
    have q : fitTO (mainT c idx) (farT c) = true ∧ (noX (mainT c idx) = true ∨ besT c = true) ∧ bsT c + farT c ≤ 2 := by
      rcases hi with rfl | rfl
      · have := all_at f2 hI
        simp only [Bool.and_eq_true, Bool.or_eq_true, decide_eq_true_eq] at this
        exact ⟨this.1.1, this.1.2, this.2⟩
      · have := all_at f3 hI
        simp only [Bool.and_eq_true, Bool.or_eq_true, decide_eq_true_eq] at this
        exact ⟨this.1.1, this.1.2, this.2⟩
    obtain ⟨q1, q2, q3⟩ := q
    have hok : okTO (mainT c idx) = true := by simp only [fitTO, Bool.and_eq_true] at q1; exact q1.1.1
    refine ⟨_, _, rfl, ⟨to_ok h _ _ (decide_eq_true (by have := sgn_lil (h (a + 2)); omega)) hok, lastN_to q1⟩, by omega, by omega, fun pk' w hw hw2 ag => ?_⟩
    have e : a + w + 2 + Int.ofNat (bsT c) = (a + 2 + Int.ofNat (bsT c)) + w := by omega
    have hb := bsT_le c
    have ec : Int.ofNat (bsT c) = (bsT c : Int) := rfl
    dsimp only
    rw [e, to_shift (n := farT c) (bes := sgn (pk (a + 2))) (ag.sub (by omega) (by omega)) (by omega) (by omega) hw (by omega) q1 ?_]
    · rfl
    · rcases q2 with q2 | q2
      · exact .inl q2
      · right
        have hb1 : bsT c = 1 := by unfold bsT; rw [if_pos q2]
        have e2 : a + w + 2 = (a + 2) + w := by omega
        rw [e2, ag (a + 2) (by omega) (by omega)]
theorem x2_keeps {pk : Int → Int} (h : InR pk) {a : Int} {idx : Str} (hi : idx = "IX" ∨ idx = "IY") {k : Nat} (hk : k ∈ octs) : KeepsAt pk a 4 (x2 pk a idx k) (fun pk' a' => x2 pk' a' idx k) := by
  unfold x2
  by_cases hd : k / 64 = 1 ∧ k % 8 ≠ 6
  · simp only [if_pos hd]
    exact db_keeps h a (by omega) (by omega)
  · simp only [if_neg hd]
    have oi : okK idx = true := by rcases hi with rfl | rfl <;> decide +kernel
    have ox : okOp (.tuple [.str "x", .str idx, .int (sgn (pk (a + 2)))]) = true := by
      simp only [okOp, Bool.and_eq_true]
      exact ⟨⟨by decide +kernel, oi⟩, decide_eq_true (by have := sgn_lil (h (a + 2)); omega)⟩
    have or : ∀ j : Nat, j < 8 → okOp (.tuple [.str "r", .str (nthS ["B", "C", "D", "E", "H", "L", "(HL)", "A"] j)]) = true := by
      have : (List.range 8).all (fun j => okOp (.tuple [.str "r", .str (nthS ["B", "C", "D", "E", "H", "L", "(HL)", "A"] j)])) = true := by decide +kernel
      exact fun j hj => all_at this (List.mem_range.mpr hj)
    have bo := bits_ok (ops := .tuple [.str "x", .str idx, .int (sgn (pk (a + 2)))] :: (if k % 8 = 6 then [] else [.tuple [.str "r", .str (nthS ["B", "C", "D", "E", "H", "L", "(HL)", "A"] (k % 8))]])) hk (by
      rw [List.all_cons, ox, Bool.true_and]
      split
      · rfl
      · rw [List.all_cons, or (k % 8) (by omega)]; rfl) (by split <;> simp)
    refine ⟨_, 4, rfl, ⟨bo.1, lastN_no bo.2⟩, by omega, by omega, fun pk' w hw hw2 ag => ?_⟩
    have e2 : a + w + 2 = (a + 2) + w := by omega
    dsimp only
    rw [dueD_no bo.2, e2, ag (a + 2) (by omega) (by omega)]
theorem t1_keeps {pk : Int → Int} (h : InR pk) {a : Int} (ha : 0 ≤ a) (ha2 : a < 10000) {o : Nat} (ho : o ∈ oct1) : KeepsAt pk a 1 (t1 pk a o) (fun pk' a' => t1 pk' a' o) := by
  have q := all_at f1 ho
  simp only [Bool.and_eq_true, decide_eq_true_eq] at q
  have hok : okTO (mainT o "") = true := by have := q.1.1; simp only [fitTO, Bool.and_eq_true] at this; exact this.1.1
  refine ⟨evT pk (a + 1) 0 (mainT o ""), 1 + farT o, rfl, ⟨to_ok h _ _ (by decide) hok, lastN_to q.1.1⟩, by omega, by have := q.2; omega, fun pk' w hw hw2 ag => ?_⟩
  have e : a + w + 1 = (a + 1) + w := by omega
  unfold t1
  dsimp only
  rw [e, to_shift (n := farT o) (bes := 0) (ag.sub (by omega) (by omega)) (by omega) (by omega) hw (by omega) q.1.1 (.inr rfl)]
  rfl
theorem t2_keeps {pk : Int → Int} (h : InR pk) {a : Int} {c : Nat} (hc : c ∈ octs) : KeepsAt pk a 2 (t2 pk a c) (fun pk' a' => t2 pk' a' c) := by
  have q := all_at f5 hc
  simp only [Bool.and_eq_true, decide_eq_true_eq, Bool.not_eq_true'] at q
  have o1 := top_ok h 0 0 (by decide) _ q.1.1.1.2
  have bo := bits_ok (ops := [(placeT (c % 8) "").ev pk 0 0]) hc (by rw [List.all_cons, o1]; rfl) (by simp)
  refine ⟨_, 2, rfl, ⟨bo.1, lastN_no bo.2⟩, by omega, by omega, fun pk' w hw hw2 ag => ?_⟩
  rw [dueD_no bo.2]
  have : (placeT (c % 8) "").ev pk' 0 0 = (placeT (c % 8) "").ev pk 0 0 := by
    have u := q.1.2
    generalize placeT (c % 8) "" = t at u
    cases t with
    | s k v => rfl
    | x i => rfl
    | n k e => cases e <;> simp [useO, useE] at u; rfl
  show resD (bitsT c [(placeT (c % 8) "").ev pk' 0 0]) 2 = _
  rw [this]
theorem t3_keeps {pk : Int → Int} (h : InR pk) {a : Int} (ha : 0 ≤ a) (ha2 : a < 10000) {c : Nat} (hc : c ∈ octs) : KeepsAt pk a 2 (t3 pk a c) (fun pk' a' => t3 pk' a' c) := by
  have q := all_at f4 hc
  have hm : 2 ≤ manyT c ∧ manyT c ≤ 4 := by unfold manyT; split <;> omega
  unfold t3
  cases e : exT c with
  | none =>
    obtain ⟨t, n, r⟩ := db_keeps h a (n := manyT c) (by omega) hm.2
    exact ⟨t, n, r.1, r.2.1, by have := r.2.2.1; omega, r.2.2.2⟩
  | some t =>
    rw [e] at q
    simp only [Bool.and_eq_true, Bool.not_eq_true'] at q
    have hok : okTO t = true := by have := q.1.1; simp only [fitTO, Bool.and_eq_true] at this; exact this.1.1
    refine ⟨evT pk (a + 2) 0 t, manyT c, rfl, ⟨to_ok h _ _ (by decide) hok, lastN_to q.1.1⟩, by omega, by omega, fun pk' w hw hw2 ag => ?_⟩
    have e : a + w + 2 = (a + 2) + w := by omega
    dsimp only
    rw [e]
    show resD (evT pk' (a + 2 + w) 0 t) (manyT c) = _
    rw [to_shift (n := manyT c - 2) (bes := 0) (ag.sub (by omega) (by omega)) (by omega) (by omega) hw (by omega) q.1.1 (.inr rfl)]
    rfl
theorem dec_keeps {pk : Int → Int} (h : InR pk) {a : Int} (ha : 0 ≤ a) (ha2 : a < 10000) : ∃ t n, decD pk a = resD t n ∧ okL t ∧ 1 ≤ n ∧ n ≤ 4 ∧
    ∀ pk' w, InR pk' → 0 ≤ w → w < 10000 → Agr pk pk' w a n → ((pk a = 221 ∨ pk a = 253) → Agr pk pk' w a 2) → decD pk' (a + w) = resD (t.1, dueD t.1 t.2 w) n := by
  have inO : ∀ x, (pk x).toNat ∈ octs := fun x => List.mem_range.mpr (by have := h x; omega)
  have same : ∀ {pk' : Int → Int} {w : Int} {n : Nat}, Agr pk pk' w a n → ∀ k : Nat, k < n → pk' (a + w + k) = pk (a + k) := fun {pk' w n} ag k hk => by
    have e : a + w + (k : Int) = (a + k) + w := Int.add_right_comm _ _ _
    rw [e]; exact ag (a + k) (by omega) (by omega)
  have same0 : ∀ {pk' : Int → Int} {w : Int} {n : Nat}, Agr pk pk' w a n → 1 ≤ n → pk' (a + w) = pk a := fun ag hn => by
    have := same ag 0 hn; simpa using this
  rw [dec_dfn h]
  have hpre : (pk a = 221 ∨ pk a = 253) ↔ ((pk a).toNat = 221 ∨ (pk a).toNat = 253) := by have := h a; omega
  rw [hpre]
  have hx : ∀ idx : Str, (idx = "IX" ∨ idx = "IY") → (∀ pk' a' c k, dfn pk' a' (pk a).toNat c k = xN pk' a' idx c k) → ((pk a).toNat = 221 ∨ (pk a).toNat = 253) → ∃ t n, dfn pk a (pk a).toNat (pk (a + 1)).toNat (pk (a + 3)).toNat = resD t n ∧ okL t ∧ 1 ≤ n ∧ n ≤ 4 ∧
    ∀ pk' w, InR pk' → 0 ≤ w → w < 10000 → Agr pk pk' w a n → (((pk a).toNat = 221 ∨ (pk a).toNat = 253) → Agr pk pk' w a 2) → decD pk' (a + w) = resD (t.1, dueD t.1 t.2 w) n := by
    intro idx hi hf hp
    rw [hf]
    unfold xN
    by_cases hc : (pk (a + 1)).toNat = 203
    · rw [if_pos hc]
      obtain ⟨t, n, h1, h2, h3, h4, h5⟩ := x2_keeps (a := a) h hi (inO (a + 3))
      refine ⟨t, n, h1, h2, by omega, h4, fun pk' w i w1 w2 ag ag2 => ?_⟩
      have e1 : pk' (a + w + 1) = pk (a + 1) := same ag 1 (by omega)
      have e3 : pk' (a + w + 3) = pk (a + 3) := same ag 3 (by omega)
      rw [dec_dfn i, same0 ag (by omega), hf, e1, e3]
      unfold xN
      rw [if_pos hc]
      exact h5 pk' w w1 w2 ag
    · rw [if_neg hc]
      obtain ⟨t, n, h1, h2, h3, h4, h5⟩ := x1_keeps h ha ha2 hi (c := (pk (a + 1)).toNat) (List.mem_filter.mpr ⟨inO _, by simpa using hc⟩)
      refine ⟨t, n, h1, h2, by omega, h4, fun pk' w i w1 w2 ag ag2 => ?_⟩
      have e1 : pk' (a + w + 1) = pk (a + 1) := same (ag2 hp) 1 (by omega)
      rw [dec_dfn i, same0 ag (by omega), hf, e1]
      unfold xN
      rw [if_neg hc]
      exact h5 pk' w w1 w2 ag
  by_cases o1 : (pk a).toNat = 203
  · have hf : ∀ pk' a' c k, dfn pk' a' (pk a).toNat c k = t2 pk' a' c := fun pk' a' c k => by unfold dfn; rw [if_pos o1]
    rw [hf]
    obtain ⟨t, n, h1, h2, h3, h4, h5⟩ := t2_keeps (a := a) h (inO (a + 1))
    refine ⟨t, n, h1, h2, by omega, h4, fun pk' w i w1 w2 ag ag2 => ?_⟩
    have e1 : pk' (a + w + 1) = pk (a + 1) := same ag 1 (by omega)
    rw [dec_dfn i, same0 ag (by omega), hf, e1]
    exact h5 pk' w w1 w2 ag
  · by_cases o2 : (pk a).toNat = 237
    · have hf : ∀ pk' a' c k, dfn pk' a' (pk a).toNat c k = t3 pk' a' c := fun pk' a' c k => by unfold dfn; rw [if_neg o1, if_pos o2]
      rw [hf]
      obtain ⟨t, n, h1, h2, h3, h4, h5⟩ := t3_keeps h ha ha2 (inO (a + 1))
      refine ⟨t, n, h1, h2, by omega, h4, fun pk' w i w1 w2 ag ag2 => ?_⟩
      have e1 : pk' (a + w + 1) = pk (a + 1) := same ag 1 (by omega)
      rw [dec_dfn i, same0 ag (by omega), hf, e1]
      exact h5 pk' w w1 w2 ag
    · by_cases o3 : (pk a).toNat = 221
      · exact hx "IX" (.inl rfl) (fun pk' a' c k => by unfold dfn; rw [if_neg o1, if_neg o2, if_pos o3]) (.inl o3)
      · by_cases o4 : (pk a).toNat = 253
        · exact hx "IY" (.inr rfl) (fun pk' a' c k => by unfold dfn; rw [if_neg o1, if_neg o2, if_neg o3, if_pos o4]) (.inr o4)
        · have hf : ∀ pk' a' c k, dfn pk' a' (pk a).toNat c k = t1 pk' a' (pk a).toNat := fun pk' a' c k => by unfold dfn; rw [if_neg o1, if_neg o2, if_neg o3, if_neg o4]
          rw [hf]
          obtain ⟨t, n, h1, h2, h3, h4, h5⟩ := t1_keeps h ha ha2 (o := (pk a).toNat) (List.mem_filter.mpr ⟨inO a, by simp [o1, o2, o3, o4]⟩)
          refine ⟨t, n, h1, h2, by omega, h4, fun pk' w i w1 w2 ag ag2 => ?_⟩
          rw [dec_dfn i, same0 ag (by omega), hf]
          exact h5 pk' w w1 w2 ag
noncomputable def num (v : Int) : Str := Str.ofString (toString v)
noncomputable def opTxt : Dat → Str
  | .tuple [.str k, .int v] => if k = "n" then num v else "(" ++ num v ++ ")"
  | .tuple [.str k, .str t] => if k = "m" then "(" ++ t ++ ")" else t
  | .tuple [.str _, .str i, .int b] => "(" ++ i ++ (if b < 0 then ("-" : Str) else "+") ++ num (if b < 0 then -b else b) ++ ")"
  | _ => ""
theorem strOk_of (s : String) : PyData.strOk (Str.ofString s) = true := by
  rw [Str.ofString_eq_toList]
  unfold PyData.strOk
  simp only [List.all_toArray, List.all_map, List.all_eq_true, Function.comp, decide_eq_true_eq]
  intro c _
  have := c.valid
  have h : c.toNat < 0xd800 ∨ (0xdfff < c.toNat ∧ c.toNat < 0x110000) := this
  omega
theorem strOk_app {a b : Str} (ha : PyData.strOk a = true) (hb : PyData.strOk b = true) : PyData.strOk (a ++ b) = true := by
  unfold PyData.strOk at *
  rw [Str.cps_append, Array.all_append, ha, hb]; rfl
theorem num_len {v : Int} (h0 : 0 ≤ v) (h : v < 1000000) : (num v).length ≤ 10 := KT.len_num h0 (by omega)
theorem num_len' {v : Int} (h : lil v = true) : (num v).length ≤ 100002 := by
  have h2 : v.natAbs < 100000 := of_decide_eq_true h
  have := len_str_of_int v
  unfold num
  omega
noncomputable def sgnOk (x : Str) (n : Nat) : Prop := x.length ≤ n ∧ PyData.strOk x = true
theorem sgnOk_app {a b : Str} {m n : Nat} (ha : sgnOk a m) (hb : sgnOk b n) : sgnOk (a ++ b) (m + n) := ⟨KT.len_app ha.1 hb.1, strOk_app ha.2 hb.2⟩
theorem isN_cases {k : Str} (h : isN k = true) : k = "n" ∨ k = "a" := by simpa [isN] using h
theorem isS_cases {k : Str} (h : isS k = true) : k = "m" ∨ k = "r" ∨ k = "p" ∨ k = "f" := by simpa [isS, or_assoc] using h
theorem okK_ok {x : Str} (h : okK x = true) : sgnOk x 20 := by simpa [okK, sgnOk] using h
theorem lil_small {v : Int} (h : lil v = true) : small v = true := by
  have h2 : v.natAbs < 100000 := of_decide_eq_true h
  exact decide_eq_true (by omega)
theorem ix20 (a b : Dat) : idxD (.tuple [a, b]) (.int 0) = some a := rfl
theorem ix21 (a b : Dat) : idxD (.tuple [a, b]) (.int 1) = some b := rfl
theorem ix30 (a b c : Dat) : idxD (.tuple [a, b, c]) (.int 0) = some a := rfl
theorem ix31 (a b c : Dat) : idxD (.tuple [a, b, c]) (.int 1) = some b := rfl
theorem ix32 (a b c : Dat) : idxD (.tuple [a, b, c]) (.int 2) = some c := rfl
theorem add_str {a b : Str} (h : a.length + b.length ≤ 1000000) : binD .Add (.str a) (.str b) = some (.str (a ++ b)) := by simp [binD, h]
theorem eq_str (a b : Str) : cmpD .Eq (.str a) (.str b) = some (decide (a = b)) := rfl
theorem lt_int (a b : Int) : cmpD .Lt (.int a) (.int b) = some (decide (a < b)) := rfl
theorem blt_str {a : Int} (h : small a = true) : bltD "str" [.int a] = some (.str (num a)) := by simp +decide [bltD, h, num]
theorem blt_str' (a : Str) : bltD "str" [.str a] = some (.str a) := by simp +decide [bltD]
theorem blt_abs (a : Int) : bltD "abs" [.int a] = some (.int (if a < 0 then -a else a)) := by simp +decide [bltD]
theorem setRs2 (ρ : Rho) (x y : Str) (u v : LV) : setRs ρ [x, y] [u, v] = some (setR (setR ρ x u) y v) := rfl
theorem sr0 (y : Str) (w : LV) : setR [] y w = [(y, w)] := rfl
theorem len1 : (Str.ofString "(").length = 1 ∧ (Str.ofString ")").length = 1 ∧ (Str.ofString "-").length = 1 ∧ (Str.ofString "+").length = 1 ∧ (Str.ofString " ").length = 1 ∧ (Str.ofString ",").length = 1 := by decide +kernel
theorem lil_abs {b : Int} (h : lil b = true) : lil (if b < 0 then -b else b) = true := by
  have h2 : b.natAbs < 100000 := of_decide_eq_true h
  exact decide_eq_true (by split <;> omega)
theorem txt_ok {d : Dat} (hd : okOp d = true) : sgnOk (opTxt d) 100100 := by
  have wk : ∀ {x : Str} {n : Nat}, sgnOk x n → n ≤ 100100 → sgnOk x 100100 := fun h hn => ⟨Nat.le_trans h.1 hn, h.2⟩
  have one : ∀ s : String, (Str.ofString s).length = 1 → sgnOk (Str.ofString s) 1 := fun s h => ⟨by omega, strOk_of s⟩
  have nk : ∀ {v : Int}, lil v = true → sgnOk (num v) 100002 := fun h => ⟨num_len' h, strOk_of _⟩
  unfold okOp at hd
  split at hd
  · rename_i k v
    simp only [Bool.and_eq_true] at hd
    simp only [opTxt]
    split
    · exact wk (nk hd.2) (by omega)
    · exact wk (sgnOk_app (sgnOk_app (one _ len1.1) (nk hd.2)) (one _ len1.2.1)) (by omega)
  · rename_i k t
    simp only [Bool.and_eq_true] at hd
    simp only [opTxt]
    split
    · exact wk (sgnOk_app (sgnOk_app (one _ len1.1) (okK_ok hd.2)) (one _ len1.2.1)) (by omega)
    · exact wk (okK_ok hd.2) (by omega)
  · rename_i k i b
    simp only [Bool.and_eq_true] at hd
    simp only [opTxt]
    have hs : sgnOk (if b < 0 then ("-" : Str) else "+") 1 := by split; exact one _ len1.2.2.1; exact one _ len1.2.2.2.1
    exact wk (sgnOk_app (sgnOk_app (sgnOk_app (sgnOk_app (one _ len1.1) (okK_ok hd.1.2)) hs) (nk (lil_abs hd.2))) (one _ len1.2.1)) (by omega)
  · cases hd
theorem t_ex (G : Ctr) (d : Dat) (hd : okOp d = true) (σ : Sig) : runFn G (fnI 26).2 60 [.d d] σ = some (.str (opTxt d), σ) := by
  have L := len1
  unfold okOp at hd
  split at hd
  · rename_i k v
    simp only [Bool.and_eq_true] at hd
    have hs := lil_small hd.2
    have hl := num_len' hd.2
    have a1 : binD .Add (.str "(") (.str (num v)) = some (.str ("(" ++ num v)) := add_str (by omega)
    have a2 : binD .Add (.str ("(" ++ num v)) (.str ")") = some (.str ("(" ++ num v ++ ")")) := add_str (by rw [Str.length_append]; omega)
    rcases isN_cases hd.1 with rfl | rfl
    · conv => lhs; arg 2; whnf
      simp +decide only [runFn, List.map, bindR, Option.map_some, Option.bind_some, ss_cons, ss_nil, s_ret, s_if, s_swap, s_asg_call, namesOf, e_sub_con, e_name, e_int, e_str, e_call, e_bin, e_cmp, e_ife, t_cmp, t_bo, evCmp, evBo, lk, sr, sr0, valL, frz, evL, valsL, if_true, if_false, evXs, stepX, setRs2, ix20, ix21, ix30, ix31, ix32, eq_str, lt_int, blt_abs, blt_str', opTxt, blt_str hs]
      simp only [List.take_length]
    · conv => lhs; arg 2; whnf
      simp +decide only [runFn, List.map, bindR, Option.map_some, Option.bind_some, ss_cons, ss_nil, s_ret, s_if, s_swap, s_asg_call, namesOf, e_sub_con, e_name, e_int, e_str, e_call, e_bin, e_cmp, e_ife, t_cmp, t_bo, evCmp, evBo, lk, sr, sr0, valL, frz, evL, valsL, if_true, if_false, evXs, stepX, setRs2, ix20, ix21, ix30, ix31, ix32, eq_str, lt_int, blt_abs, blt_str', opTxt, blt_str hs, a1, a2]
      simp only [List.take_length]
  · rename_i k t
    simp only [Bool.and_eq_true] at hd
    have hl := (okK_ok hd.2).1
    have a1 : binD .Add (.str "(") (.str t) = some (.str ("(" ++ t)) := add_str (by omega)
    have a2 : binD .Add (.str ("(" ++ t)) (.str ")") = some (.str ("(" ++ t ++ ")")) := add_str (by rw [Str.length_append]; omega)
    rcases isS_cases hd.1 with rfl | rfl | rfl | rfl
    · conv => lhs; arg 2; whnf
      simp +decide only [runFn, List.map, bindR, Option.map_some, Option.bind_some, ss_cons, ss_nil, s_ret, s_if, s_swap, s_asg_call, namesOf, e_sub_con, e_name, e_int, e_str, e_call, e_bin, e_cmp, e_ife, t_cmp, t_bo, evCmp, evBo, lk, sr, sr0, valL, frz, evL, valsL, if_true, if_false, evXs, stepX, setRs2, ix20, ix21, ix30, ix31, ix32, eq_str, lt_int, blt_abs, blt_str', opTxt, a1, a2]
      simp only [List.take_length]
    all_goals
      conv => lhs; arg 2; whnf
      simp +decide only [runFn, List.map, bindR, Option.map_some, Option.bind_some, ss_cons, ss_nil, s_ret, s_if, s_swap, s_asg_call, namesOf, e_sub_con, e_name, e_int, e_str, e_call, e_bin, e_cmp, e_ife, t_cmp, t_bo, evCmp, evBo, lk, sr, sr0, valL, frz, evL, valsL, if_true, if_false, evXs, stepX, setRs2, ix20, ix21, ix30, ix31, ix32, eq_str, lt_int, blt_abs, blt_str', opTxt]
      simp only [List.take_length]
  · rename_i k i b
    simp only [Bool.and_eq_true, decide_eq_true_eq] at hd
    obtain ⟨⟨rfl, hi⟩, hb⟩ := hd
    have hl := (okK_ok hi).1
    have hs := lil_small (lil_abs hb)
    have hn := num_len' (lil_abs hb)
    by_cases hneg : b < 0
    · simp only [hneg, if_true] at hs hn
      have a1 : binD .Add (.str "(") (.str i) = some (.str ("(" ++ i)) := add_str (by omega)
      have a2 : binD .Add (.str ("(" ++ i)) (.str "-") = some (.str ("(" ++ i ++ "-")) := add_str (by rw [Str.length_append]; omega)
      have a3 : binD .Add (.str ("(" ++ i ++ "-")) (.str (num (-b))) = some (.str ("(" ++ i ++ "-" ++ num (-b))) := add_str (by rw [Str.length_append, Str.length_append]; omega)
      have a4 : binD .Add (.str ("(" ++ i ++ "-" ++ num (-b))) (.str ")") = some (.str ("(" ++ i ++ "-" ++ num (-b) ++ ")")) := add_str (by rw [Str.length_append, Str.length_append, Str.length_append]; omega)
      conv => lhs; arg 2; whnf
      simp +decide only [runFn, List.map, bindR, Option.map_some, Option.bind_some, ss_cons, ss_nil, s_ret, s_if, s_swap, s_asg_call, namesOf, e_sub_con, e_name, e_int, e_str, e_call, e_bin, e_cmp, e_ife, t_cmp, t_bo, evCmp, evBo, lk, sr, sr0, valL, frz, evL, valsL, if_true, if_false, evXs, stepX, setRs2, ix20, ix21, ix30, ix31, ix32, eq_str, lt_int, blt_abs, blt_str', opTxt, blt_str hs, a1, a2, a3, a4, hneg]
      simp only [List.take_length]
    · simp only [hneg, if_false] at hs hn
      have a1 : binD .Add (.str "(") (.str i) = some (.str ("(" ++ i)) := add_str (by omega)
      have a2 : binD .Add (.str ("(" ++ i)) (.str "+") = some (.str ("(" ++ i ++ "+")) := add_str (by rw [Str.length_append]; omega)
      have a3 : binD .Add (.str ("(" ++ i ++ "+")) (.str (num b)) = some (.str ("(" ++ i ++ "+" ++ num b)) := add_str (by rw [Str.length_append, Str.length_append]; omega)
      have a4 : binD .Add (.str ("(" ++ i ++ "+" ++ num b)) (.str ")") = some (.str ("(" ++ i ++ "+" ++ num b ++ ")")) := add_str (by rw [Str.length_append, Str.length_append, Str.length_append]; omega)
      conv => lhs; arg 2; whnf
      simp +decide only [runFn, List.map, bindR, Option.map_some, Option.bind_some, ss_cons, ss_nil, s_ret, s_if, s_swap, s_asg_call, namesOf, e_sub_con, e_name, e_int, e_str, e_call, e_bin, e_cmp, e_ife, t_cmp, t_bo, evCmp, evBo, lk, sr, sr0, valL, frz, evL, valsL, if_true, if_false, evXs, stepX, setRs2, ix20, ix21, ix30, ix31, ix32, eq_str, lt_int, blt_abs, blt_str', opTxt, blt_str hs, a1, a2, a3, a4, hneg]
      simp only [List.take_length]
  · cases hd
section
variable {G : Ctr} {n : Nat} {sc : Scope} {ρ : Rho} {σ : Sig} {R : Evs}
theorem e_join (x ck cpp name ap a cp) : (evAll G (n + 1)).e sc ρ (.Call (.Attribute (.Constant (.str x) ck cpp) name ap) [a] [] cp) σ = if decide (ap.endLine = cp.line) && decide (name = "join") then
          ((evAll G n).e sc ρ (.Constant (.str x) ck cpp) σ).bind fun p => ((evAll G n).e sc ρ a p.2).bind fun q => match p.1, q.1 with
            | .d (.str x), .d (.list ds) => (strsD ds).bind fun ys => if x.length ≤ 16 ∧ (ys.map (·.length)).sum + ys.length ≤ 1048576 then some (.d (.str (Txt.join x ys)), q.2) else none
            | _, _ => none
        else none := rfl
theorem e_index (y yp name ap a cp) : (evAll G (n + 1)).e sc ρ (.Call (.Attribute (.Name y yp) name ap) [a] [] cp) σ = if decide (ap.endLine = cp.line) && decide (name = "index") then
          ((evAll G n).e sc ρ (.Name y yp) σ).bind fun p => ((evAll G n).e sc ρ a p.2).bind fun q => match p.1, q.1 with
            | .d (.list ds), .d (.int k) => (intsD ds).bind fun ns => if ns.length ≤ 1000 then (findI k ns).map fun i => (.d (.int (Int.ofNat i)), q.2) else none
            | _, _ => none
        else none := rfl
theorem f_lc (elt x xp y yp a scope p) : stepF R sc ρ (.ListComp elt [⟨.Name x xp, .Name y yp, [], a⟩] scope p) σ = if decide (a = 0) && decide (scope.kind = .function) && freesOk sc scope ρ && isLoc scope x then
      (evItems R sc ρ (.Name y yp) σ).bind fun p => stateMap (fun d σ' => (R.e scope ((x, .d d) :: restR scope ρ) elt σ').bind fun q => match q.1 with
        | .d v => some ([v], q.2)
        | .c _ => none) p.1 p.2
    else none := rfl
theorem f_lcc (elt x xp f as ks cp a scope p) : stepF R sc ρ (.ListComp elt [⟨.Name x xp, .Call f as ks cp, [], a⟩] scope p) σ = if decide (a = 0) && decide (scope.kind = .function) && freesOk sc scope ρ && isLoc scope x then
      (evItems R sc ρ (.Call f as ks cp) σ).bind fun p => stateMap (fun d σ' => (R.e scope ((x, .d d) :: restR scope ρ) elt σ').bind fun q => match q.1 with
        | .d v => some ([v], q.2)
        | .c _ => none) p.1 p.2
    else none := rfl
theorem f_lct (elt x xp y yp c a scope p) : stepF R sc ρ (.ListComp elt [⟨.Name x xp, .Name y yp, [c], a⟩] scope p) σ = if decide (a = 0) && decide (scope.kind = .function) && freesOk sc scope ρ && isLoc scope x then
      (evItems R sc ρ (.Name y yp) σ).bind fun p => stateMap (fun d σ' => (R.t scope ((x, .d d) :: restR scope ρ) c σ').bind fun b =>
        if b.1 then (R.e scope ((x, .d d) :: restR scope ρ) elt b.2).bind fun q => match q.1 with
          | .d v => some ([v], q.2)
          | .c _ => none
        else some ([], b.2)) p.1 p.2
    else none := rfl
theorem f_lcp (elt x xp x₂ x₂p tk tp y yp a scope p) : stepF R sc ρ (.ListComp elt [⟨.Tuple [.Name x xp, .Name x₂ x₂p] tk tp, .Name y yp, [], a⟩] scope p) σ = if decide (a = 0) && decide (scope.kind = .function) && freesOk sc scope ρ && isLoc scope x && isLoc scope x₂ && decide (x ≠ x₂) then
      (evItems R sc ρ (.Name y yp) σ).bind fun p => stateMap (fun d σ' => match d with
        | .tuple [d₁, d₂] => (R.e scope ((x, .d d₁) :: (x₂, .d d₂) :: restR scope ρ) elt σ').bind fun q => match q.1 with
          | .d v => some ([v], q.2)
          | .c _ => none
        | _ => none) p.1 p.2
    else none := rfl
theorem f_list (es p) : stepF R sc ρ (.List es p) σ = (evL (R.e sc ρ) es σ).bind fun p => if es.length ≤ 1000 then frzL p.1 p.2 else none := rfl
theorem f_call (f fp a p) : stepF R sc ρ (.Call (.Name f fp) [a] [] p) σ = if isGlob sc f && decide (f = "list") then (R.e sc ρ a σ).bind fun p => match p.1 with
      | .d (.list ds) => if ds.length ≤ 1000 then some (ds, p.2) else none
      | _ => none
    else none := rfl
end
theorem stateMap_pure {f : Dat → Sig → Option (List Dat × Sig)} {g : Dat → Dat} : ∀ {ds : List Dat} {σ : Sig}, (∀ d ∈ ds, ∀ σ, f d σ = some ([g d], σ)) → stateMap f ds σ = some (ds.map g, σ)
  | [], _, _ => rfl
  | d :: ds, σ, h => by
    simp only [stateMap, h d (.head _), Option.bind_some, stateMap_pure fun d hd => h d (.tail _ hd)]
    rfl
theorem stateMap_some {f : Dat → Sig → Option (List Dat × Sig)} {g : Dat → List Dat} {σ : Sig} : ∀ {ds : List Dat}, (∀ d ∈ ds, f d σ = some (g d, σ)) → stateMap f ds σ = some (ds.flatMap g, σ)
  | [], _ => rfl
  | d :: ds, h => by
    simp only [stateMap, h d (.head _), Option.bind_some, stateMap_some fun d hd => h d (.tail _ hd)]
    rfl
theorem strsD_map {α : Type} (g : α → Str) : ∀ l : List α, strsD (l.map fun a => .str (g a)) = some (l.map g)
  | [] => rfl
  | a :: l => by simp only [List.map_cons, strsD, strsD_map g l, Option.map_some]
theorem okOp_kqd {d : Dat} (h : okOp d = true) (m : Nat) : kqdOk (m + 2) d = true := by
  unfold okOp at h
  split at h
  · simp only [kqdOk, List.all_cons, List.all_nil, Bool.and_true]
    exact (by
      simp only [Bool.and_eq_true] at h
      rcases isN_cases h.1 with rfl | rfl <;> exact strOk_of _)
  · simp only [kqdOk, List.all_cons, List.all_nil, Bool.and_true, Bool.and_eq_true] at h ⊢
    refine ⟨?_, (okK_ok h.2).2⟩
    rcases isS_cases h.1 with rfl | rfl | rfl | rfl <;> exact strOk_of _
  · simp only [kqdOk, List.all_cons, List.all_nil, Bool.and_true, Bool.and_eq_true, decide_eq_true_eq] at h ⊢
    refine ⟨?_, (okK_ok h.1.2).2⟩
    rw [h.1.1]; exact strOk_of _
  · cases h
theorem okOps_okD {ops : List Dat} (h : ops.all okOp = true) : okD (.list ops) = true := by
  unfold okD
  simp only [kqdOk, List.all_eq_true]
  exact fun d hd => okOp_kqd (List.all_eq_true.mp h d hd) 5
noncomputable def ordTxt (w : Str) (ops : List Dat) : Str := match ops with
  | [] => w
  | _ => w ++ " " ++ Txt.join "," (ops.map opTxt)
theorem join_ok (l : List Str) (B : Nat) (h : ∀ x ∈ l, sgnOk x B) : sgnOk (Txt.join "," l) (l.length * (B + 1)) := by
  show sgnOk (Builtin.Str.glued "," l) _
  rw [StrLaws.glued_eq_join]
  have L := len1
  induction l with
  | nil => exact ⟨by have e : Str.empty.length = 0 := by decide +kernel
                     simp only [Str.join, e]; exact Nat.zero_le _, by simp only [Str.join]; decide +kernel⟩
  | cons x r ih =>
    cases r with
    | nil => exact ⟨by have := (h x (.head _)).1; simp only [Str.join, List.length_cons, List.length_nil]; omega, (h x (.head _)).2⟩
    | cons y r =>
      have := ih fun z hz => h z (.tail _ hz)
      have h2 := sgnOk_app (sgnOk_app (h x (.head _)) (⟨Nat.le_of_eq L.2.2.2.2.2, strOk_of ","⟩ : sgnOk (Str.ofString ",") 1)) this
      refine ⟨Nat.le_trans h2.1 ?_, h2.2⟩
      simp only [List.length_cons, Nat.add_mul]
      omega
theorem sum_le (l : List Str) (B : Nat) (h : ∀ x ∈ l, x.length ≤ B) : (l.map (·.length)).sum ≤ l.length * B := by
  induction l with
  | nil => simp
  | cons x r ih =>
    have h1 := h x (.head _)
    have h2 := ih fun z hz => h z (.tail _ hz)
    simp only [List.map_cons, List.sum_cons, List.length_cons, Nat.add_mul]
    omega
noncomputable def Gt : Ctr := fun f args σ => match args with
  | [.d d] => if f = "operand_text" then (if okOp d then some (.str (opTxt d), σ) else none) else none
  | _ => none
theorem ord_ex (w : Str) (ops : List Dat) (h : okR (w, ops)) (σ : Sig) : runFn Gt (fnI 27).2 60 [.d (.str w), .d (.list ops)] σ = some (.str (ordTxt w ops), σ) ∧ sgnOk (ordTxt w ops) 500000 := by
  obtain ⟨h1, h2, h3⟩ := h
  have L := len1
  have hw := okK_ok (x := w) h1
  have h3 : ops.all okOp = true := h3
  have hx : ∀ x ∈ ops.map opTxt, sgnOk x 100100 := fun x hx => by
    obtain ⟨d, hd, rfl⟩ := List.mem_map.mp hx
    exact txt_ok (List.all_eq_true.mp h3 d hd)
  have hj := join_ok (ops.map opTxt) 100100 hx
  rw [List.length_map] at hj
  have hj1 : (Txt.join "," (ops.map opTxt)).length ≤ 400404 := Nat.le_trans hj.1 (by have : ops.length ≤ 4 := h2; omega)
  have a1 : binD .Add (.str w) (.str " ") = some (.str (w ++ " ")) := add_str (by have := hw.1; omega)
  have a2 : binD .Add (.str (w ++ " ")) (.str (Txt.join "," (ops.map opTxt))) = some (.str (w ++ " " ++ Txt.join "," (ops.map opTxt))) := add_str (by rw [Str.length_append]; have := hw.1; omega)
  have hs := sum_le (ops.map opTxt) 100100 fun x q => (hx x q).1
  rw [List.length_map] at hs
  have c1 : cmpD .Eq (.list ops) (.list []) = some (beqDs ops []) := by
    have := okOps_okD h3
    simp only [cmpD, eqD, this, Bool.true_and]
    rfl
  have hl : ops.length ≤ 1000 := by have : ops.length ≤ 4 := h2; omega
  have hs2 : ((Str.ofString ",").length ≤ 16 ∧ ((ops.map opTxt).map (·.length)).sum + (ops.map opTxt).length ≤ 1048576) := by
    rw [List.length_map]
    have : ops.length ≤ 4 := h2
    omega
  refine ⟨?_, ?_⟩
  · conv => lhs; arg 2; whnf
    cases ops with
    | nil =>
      simp +decide only [runFn, List.map, bindR, Option.map_some, Option.bind_some, ss_cons, ss_nil, s_ret, s_if, e_name, e_list, f_list, t_cmp, evCmp, lk, valL, frz, frzL, evL, if_true, if_false, c1, beqDs, ordTxt]
      simp only [List.take_length]
    | cons d r =>
      simp +decide only [runFn, List.map, bindR, Option.map_some, Option.bind_some, ss_cons, ss_nil, s_ret, s_if, e_name, e_list, f_list, t_cmp, evCmp, lk, valL, frz, frzL, evL, if_true, if_false, c1, beqDs, e_bin, e_str, a1, e_join, e_lc, f_lc, i_name, hl, freesOk, List.all_cons, List.all_nil, restR, List.filter_cons, List.filter_nil]
      rw [stateMap_pure (g := fun d => .str (opTxt d)) (by
        intro d' hd σ'
        have := List.all_eq_true.mp h3 d' hd
        simp +decide only [e_call, evL, e_name, lk, Option.map_some, Option.bind_some, if_true, if_false, Gt, this])]
      simp +decide only [Option.map_some, Option.bind_some, strsD_map, hs2, if_true, valL, a2, frz, ordTxt]
      simp only [List.take_length]
  · cases ops with
    | nil => exact ⟨by have := hw.1; simp only [ordTxt]; omega, hw.2⟩
    | cons d r =>
      have := sgnOk_app (sgnOk_app hw (⟨Nat.le_of_eq L.2.2.2.2.1, strOk_of " "⟩ : sgnOk (Str.ofString " ") 1)) hj
      refine ⟨Nat.le_trans this.1 (by have : (d :: r).length ≤ 4 := h2; omega), this.2⟩
noncomputable def okRb (t : Str × List Dat) : Bool := okK t.1 && decide (t.2.length ≤ 4) && t.2.all okOp
theorem okRb_iff {t : Str × List Dat} : okRb t = true ↔ okR t := by simp [okRb, okR, and_assoc]
noncomputable def small2 (a : Int) : Bool := decide (0 ≤ a) && decide (a < 10000)
noncomputable def GD : Ctr := fun f args σ => match args with
  | [mv, .d (.int a)] => if f = "decode" then (memArg σ mv).bind fun q => some (decD q.1.pk a, q.2) else none
  | [.d (.str w), .d (.list ops)] => if f = "order_text" then (if okRb (w, ops) then some (.str (ordTxt w ops), σ) else none) else none
  | _ => none
/-- an order's text and its size -/
noncomputable def txOf : Dat → Str
  | .tuple [.str w, .list ops, .int _] => ordTxt w ops
  | _ => ""
noncomputable def szOf : Dat → Nat
  | .tuple [.str _, .list _, .int n] => n.toNat
  | _ => 0
noncomputable def tx (pk : Int → Int) (a : Int) : Str := txOf (decD pk a)
noncomputable def sz (pk : Int → Int) (a : Int) : Nat := szOf (decD pk a)
noncomputable def disD (pk : Int → Int) (a : Int) : Dat := .tuple [.str (tx pk a), .int (Int.ofNat (sz pk a))]
theorem tx_res {pk : Int → Int} {a : Int} {t : Str × List Dat} {n : Nat} (h : decD pk a = resD t n) : tx pk a = ordTxt t.1 t.2 ∧ sz pk a = n := by
  unfold tx sz
  rw [h]
  exact ⟨rfl, by simp [resD, szOf]⟩
theorem call_dec {M : Mem} {a : Int} : GD "decode" [.c 0, .d (.int a)] [.mem M] = some (decD M.pk a, [.mem M]) := rfl
theorem call_ord {w : Str} {ops : List Dat} {σ : Sig} (h : okR (w, ops)) : GD "order_text" [.d (.str w), .d (.list ops)] σ = some (.str (ordTxt w ops), σ) := by
  have := okRb_iff.mpr h
  simp +decide [GD, this]
theorem dis_ex (M : Mem) (a : Int) (ha : 0 ≤ a) (ha2 : a < 10000) : runFn GD (fnI 28).2 60 [.c 0, .d (.int a)] [.mem M] = some (disD M.pk a, [.mem M]) := by
  obtain ⟨t, n, e, ⟨ok, _⟩, _⟩ := dec_keeps (inR M) ha ha2
  obtain ⟨e1, e2⟩ := tx_res e
  have co := call_ord (w := t.1) (ops := t.2) (σ := [.mem M]) ok
  unfold disD
  rw [e1, e2]
  conv => lhs; arg 2; whnf
  simp +decide only [runFn, List.map, bindR, Option.map_some, Option.bind_some, ss_cons, ss_nil, s_ret, s_unp, e_name, e_call, evL, lk, valL, frz, frzL, if_true, if_false, call_dec, e, resD, tgt, namesOf, itemsD, setRs, sr, sr0, e_tup, co, List.length_cons, List.length_nil]
  rfl
theorem loop_bind {α : Type} {as : Rho → Dat → Option Rho} {f : Rho → Sig → SRes} {k : Fl × Rho × Sig → Option α} {r : Option α} (Inv : Nat → Rho → Sig → Prop) {ds : List Dat} {ρ : Rho} {σ : Sig}
    (step : ∀ i d ρ σ, ds[i]? = some d → Inv i ρ σ → ∃ ρ₁ ρ₂ σ₂, as ρ d = some ρ₁ ∧ f ρ₁ σ = some (.next, ρ₂, σ₂) ∧ Inv (i + 1) ρ₂ σ₂) (h0 : Inv 0 ρ σ) (fin : ∀ ρ' σ', Inv ds.length ρ' σ' → k (.next, ρ', σ') = r) : (evLoop as f ds ρ σ).bind k = r := by
  have key : ∀ (l : List Dat) (i : Nat) (ρ : Rho) (σ : Sig), (∀ j d, l[j]? = some d → ds[i + j]? = some d) → i + l.length = ds.length → Inv i ρ σ → (evLoop as f l ρ σ).bind k = r := by
    intro l
    induction l with
    | nil =>
      intro i ρ σ _ hl hi
      simp only [List.length_nil, Nat.add_zero] at hl
      rw [hl] at hi
      exact fin ρ σ hi
    | cons d l ih =>
      intro i ρ σ hds hl hi
      obtain ⟨ρ₁, ρ₂, σ₂, a, b, c⟩ := step i d ρ σ (hds 0 d rfl) hi
      simp only [evLoop, a, b, Option.bind_some]
      refine ih (i + 1) ρ₂ σ₂ (fun j d' hj => ?_) (by simp only [List.length_cons] at hl; omega) c
      have := hds (j + 1) d' (by simpa using hj)
      rw [← this]; congr 1; omega
  exact key ds 0 ρ σ (fun j d hj => by simpa using hj) (by simp) h0
/-- a listing's rows, and where it ends -/
noncomputable def rowsN (pk : Int → Int) : Int → Nat → List Dat
  | _, 0 => []
  | a, n + 1 => .tuple [.int a, .str (tx pk a)] :: rowsN pk (a + Int.ofNat (sz pk a)) n
noncomputable def endN (pk : Int → Int) : Int → Nat → Int
  | a, 0 => a
  | a, n + 1 => endN pk (a + Int.ofNat (sz pk a)) n
theorem rows_snoc (pk : Int → Int) : ∀ (n : Nat) (a : Int), rowsN pk a (n + 1) = rowsN pk a n ++ [.tuple [.int (endN pk a n), .str (tx pk (endN pk a n))]]
  | 0, a => rfl
  | n + 1, a => by
    have := rows_snoc pk n (a + Int.ofNat (sz pk a))
    rw [rowsN, this]; rfl
theorem end_snoc (pk : Int → Int) : ∀ (n : Nat) (a : Int), endN pk a (n + 1) = endN pk a n + Int.ofNat (sz pk (endN pk a n))
  | 0, a => rfl
  | n + 1, a => by
    have := end_snoc pk n (a + Int.ofNat (sz pk a))
    rw [endN, this]; rfl
theorem sz_range {pk : Int → Int} (h : InR pk) {a : Int} (ha : 0 ≤ a) (ha2 : a < 10000) : 1 ≤ sz pk a ∧ sz pk a ≤ 4 := by
  obtain ⟨t, n, e, ⟨ok, _⟩, h1, h2, _⟩ := dec_keeps h ha ha2
  rw [(tx_res e).2]; exact ⟨h1, h2⟩
theorem tx_ok {pk : Int → Int} (h : InR pk) {a : Int} (ha : 0 ≤ a) (ha2 : a < 10000) : sgnOk (tx pk a) 500000 := by
  obtain ⟨t, n, e, ⟨ok, _⟩, h1, h2, _⟩ := dec_keeps h ha ha2
  rw [(tx_res e).1]; exact (ord_ex t.1 t.2 ok []).2
theorem end_range {pk : Int → Int} (h : InR pk) {a : Int} (ha : 0 ≤ a) : ∀ n : Nat, a + 4 * n < 10000 → a ≤ endN pk a n ∧ endN pk a n ≤ a + 4 * n
  | 0, _ => by simp [endN]
  | n + 1, hn => by
    have ih := end_range h ha n (by omega)
    have s := sz_range h (a := endN pk a n) (by omega) (by omega)
    rw [end_snoc]
    have e : Int.ofNat (sz pk (endN pk a n)) = (sz pk (endN pk a n) : Int) := rfl
    rw [e]
    omega
theorem rows_len (pk : Int → Int) : ∀ (n : Nat) (a : Int), (rowsN pk a n).length = n
  | 0, a => rfl
  | n + 1, a => by rw [rowsN, List.length_cons, rows_len pk n]
noncomputable def GL : Ctr := fun f args σ => match args with
  | [mv, .d (.int a)] => if f = "disassemble" then (memArg σ mv).bind fun q => if small2 a then some (disD q.1.pk a, q.2) else none else none
  | _ => none
theorem call_dis {M : Mem} {a : Int} (h : small2 a = true) {σ : Sig} : GL "disassemble" [.c 0, .d (.int a)] (.mem M :: σ) = some (disD M.pk a, .mem M :: σ) := by
  simp +decide [GL, memArg, h]
theorem lst_ex (M : Mem) (a : Int) (n : Nat) (ha : 0 ≤ a) (hn : a + 4 * n < 10000) (hn2 : n ≤ 100) : runFn GL (fnI 29).2 60 [.c 0, .d (.int a), .d (.int (Int.ofNat n))] [.mem M] = some (.tuple [.list (rowsN M.pk a n), .int (endN M.pk a n)], [.mem M]) := by
  have hs : small (Int.ofNat n) = true := small_of (by simp) (by simp only [Int.ofNat_eq_natCast]; omega)
  have hl : (Int.ofNat n) ≤ 1000 := by simp only [Int.ofNat_eq_natCast]; omega
  conv => lhs; arg 2; whnf
  simp +decide only [runFn, List.map, bindR, Option.map_some, Option.bind_some, ss_cons, ss_nil, s_ret, s_unp, s_asg_list, s_for, it_en, it_tn, it_nn, it_nc, i_call, f_list, stepX, e_name, e_call, evL, lk, valL, frz, frzL, if_true, if_false, sr, sr0, e_tup, List.length_cons, List.length_nil, hs, hl]
  rw [Option.bind_assoc]
  refine loop_bind (fun i ρ σ => ρ.lookup (Str.ofString "memory") = some (.c 0) ∧ ρ.lookup (Str.ofString "at") = some (.d (.int (endN M.pk a i))) ∧ ρ.lookup (Str.ofString "found") = some (.c 1) ∧ σ = [.mem M, .lst (rowsN M.pk a i)]) ?_ ?_ ?_
  · rintro i d ρ σ hd ⟨h1, h2, h3, rfl⟩
    have hi : i < n := by
      have := (List.getElem?_eq_some_iff.mp hd).1
      simpa [rangeD] using this
    have er := end_range (inR M) ha i (by omega)
    have sm : small2 (endN M.pk a i) = true := by unfold small2; simp; omega
    have sr2 := sz_range (inR M) (a := endN M.pk a i) (by omega) (by omega)
    have rl : (rowsN M.pk a i).length ≤ 1000 := by rw [rows_len]; omega
    have ba : Builtin.bitAnd (endN M.pk a i + Int.ofNat (sz M.pk (endN M.pk a i))) 65535 = endN M.pk a (i + 1) := by
      rw [bitAnd_m16, end_snoc]
      simp only [Int.ofNat_eq_natCast]
      omega
    refine ⟨setR ρ (Str.ofString "turn") (.d d), setR (setR (setR (setR ρ (Str.ofString "turn") (.d d)) (Str.ofString "text") (.d (.str (tx M.pk (endN M.pk a i))))) (Str.ofString "size") (.d (.int (Int.ofNat (sz M.pk (endN M.pk a i)))))) (Str.ofString "at") (.d (.int (endN M.pk a (i + 1)))),
      [.mem M, .lst (rowsN M.pk a (i + 1))], by simp +decide only [tgt, if_true], ?_, ?_⟩
    · simp +decide only [setR_lookup, if_true, if_false, h1, h2, h3, Option.map_some, Option.bind_some, call_dis sm, disD, tgt, namesOf, itemsD, List.map, List.length_cons, List.length_nil, setRs2, s_app, s_asg_bin, e_name, e_tup, evL, valL, frz, frzL, stepX, e_bin, e_int, binD, binI, ba, List.getElem?_cons_succ, List.getElem?_cons_zero, rl, List.set_cons_succ, List.set_cons_zero, rows_snoc]
    · refine ⟨?_, ?_, ?_, rfl⟩ <;> simp +decide only [setR_lookup, if_true, if_false, h1, h3]
  · simp +decide only [lk, if_true, if_false, rowsN, endN]
    exact ⟨trivial, trivial, trivial, rfl⟩
  · rintro ρ' σ' ⟨h1, h2, h3, rfl⟩
    have hl2 : (rangeD (Int.ofNat n)).length = n := by simp [rangeD]
    rw [hl2] at h2 ⊢
    simp +decide only [h2, h3, Option.map_some, Option.bind_some, frzL, frz, List.getElem?_cons_succ, List.getElem?_cons_zero, List.set_cons_succ, List.set_cons_zero]
    rfl
noncomputable def isI : Dat → Bool
  | .int _ => true
  | _ => false
noncomputable def vI : Dat → Int
  | .int v => v
  | _ => 0
noncomputable def nextV (cells : List Dat) (t : Int) (many : Int) : Int :=
  if t < cells.length then (let v := vI (cells.getD t.toNat .none); (if v < 0 then -v else v).fmod many) else (58 * t + (t * t).fdiv 3 + 12 + cells.length).fmod many
theorem nextV_range (cells : List Dat) (t : Int) {many : Int} (h : 0 < many) : 0 ≤ nextV cells t many ∧ nextV cells t many < many := by
  unfold nextV
  split
  · exact ⟨Int.fmod_nonneg_of_pos _ h, Int.fmod_lt_of_pos _ h⟩
  · exact ⟨Int.fmod_nonneg_of_pos _ h, Int.fmod_lt_of_pos _ h⟩
theorem blt_int (a : Int) : bltD "int" [.int a] = some (.int a) := by simp +decide [bltD]
theorem blt_len {ds : List Dat} (h : ds.length ≤ 10000) : bltD "len" [.list ds] = some (.int ds.length) := by simp +decide [bltD, h]
theorem next_ex (G : Ctr) (k : Nat) (σ : Sig) (cells : List Dat) (t many : Int) (hσ : σ[k]? = some (.lst [.list cells, .int t])) (hc : cells.all isI = true) (hl : cells.length ≤ 100) (ht : 0 ≤ t) (ht2 : t ≤ 1000) (hm : 0 < many) :
    runFn G (fnI 31).2 60 [.c k, .d (.int many)] σ = some (.int (nextV cells t many), σ.set k (.lst [.list cells, .int (t + 1)])) := by
  have hb := blt_len (ds := cells) (by omega)
  have hm0 : ¬ (many = 0) := by omega
  have s0 : small t = true := small_of ht (by omega)
  have s2 : small 58 = true := by decide
  have s1 : small 1 = true := by decide
  have hset : setAt [.list cells, .int t] 1 (.int (t + 1)) = some [.list cells, .int (t + 1)] := by simp [setAt, s1, atI]
  have hval : valL σ (.c k) = some (.list [.list cells, .int t]) := by simp [valL, hσ]
  have htake : List.take σ.length (σ.set k (.lst [.list cells, .int (t + 1)])) = σ.set k (.lst [.list cells, .int (t + 1)]) := List.take_of_length_le (by simp)
  conv => lhs; arg 2; whnf
  by_cases hlt : t < cells.length
  · have hj : t.toNat < cells.length := by omega
    have hi : idxD (.list cells) (.int t) = some (.int (vI (cells.getD t.toNat .none))) := by
      have h1 : cells[t.toNat]? = some cells[t.toNat] := List.getElem?_eq_getElem hj
      have h2 := List.all_eq_true.mp hc cells[t.toNat] (List.getElem_mem hj)
      have h3 : cells.length ≤ 1000 := by omega
      have h4 : cells.getD t.toNat .none = cells[t.toNat] := by simp [List.getD, h1]
      rw [h4]
      simp only [idxD, s0, h3, atI, ht, hlt, decide_true, Bool.and_self, if_true, Option.bind_some, h1]
      generalize cells[t.toNat] = d at h2
      cases d <;> simp [isI] at h2
      rfl
    simp +decide only [runFn, List.map, bindR, Option.map_some, Option.bind_some, ss_cons, ss_nil, s_ret, s_if, s_unpN, s_set, e_name, e_call, e_bin, e_int, e_sub_name, evL, lk, hval, frz, if_true, if_false, sr, sr0, tgt, namesOf, itemsD, List.length_cons, List.length_nil, setRs2, binD, binI, hσ, hset, t_cmp, evCmp, valL, valsL, hb, lt_int, hlt, hi, blt_int, blt_abs, hm0, htake, nextV]
  · simp +decide only [runFn, List.map, bindR, Option.map_some, Option.bind_some, ss_cons, ss_nil, s_ret, s_if, s_unpN, s_set, e_name, e_call, e_bin, e_int, e_sub_name, evL, lk, hval, frz, if_true, if_false, sr, sr0, tgt, namesOf, itemsD, List.length_cons, List.length_nil, setRs2, binD, binI, hσ, hset, t_cmp, evCmp, valL, valsL, hb, lt_int, hlt, hm0, htake, nextV, s0, s2]
theorem pk_at (M : Mem) {x : Int} {n : Nat} (hx : 0 ≤ x) (hn : M.ds.length = n) : M.pk x = vI ((M.ds[x.toNat % n]?).getD .none) := by
  unfold Mem.pk
  have h0 := (good_len M.ok).1
  have e : (x.fmod (M.ds.length : Int)).toNat = x.toNat % n := by
    rw [hn, Int.fmod_eq_emod_of_nonneg _ (by omega)]
    obtain ⟨k, rfl⟩ := Int.eq_ofNat_of_zero_le hx
    rw [Int.toNat_natCast, ← Int.natCast_emod, Int.toNat_natCast]
  rw [e]
  have hlt : x.toNat % n < M.ds.length := by rw [hn]; exact Nat.mod_lt _ (by omega)
  obtain ⟨v, hv, _⟩ := good_at M.ok hlt
  rw [hv]; rfl
theorem good_perm {ds es : List Dat} (h : goodD ds = true) (h1 : 0 < es.length ∧ es.length ≤ 500) (h2 : ∀ d ∈ es, d ∈ ds) : goodD es = true := by
  simp only [goodD, Bool.and_eq_true, decide_eq_true_eq, List.all_eq_true] at h ⊢
  exact ⟨h1, fun d hd => h.2 d (h2 d hd)⟩
theorem resD_inj {t t' : Str × List Dat} {n n' : Nat} (h : resD t n = resD t' n') : t = t' ∧ n = n' := by
  simp only [resD, Dat.tuple.injEq, List.cons.injEq, Dat.str.injEq, Dat.list.injEq, Dat.int.injEq, and_true] at h
  exact ⟨Prod.ext h.1 h.2.1, Int.ofNat.inj h.2.2⟩
theorem okD_res {t : Str × List Dat} {n : Nat} (h : okR t) : okD (resD t n) = true := by
  simp only [okD, resD, kqdOk, List.all_cons, List.all_nil, Bool.and_true, Bool.and_eq_true]
  refine ⟨(okK_ok h.1).2, ?_⟩
  rw [List.all_eq_true]
  exact fun d hd => okOp_kqd (List.all_eq_true.mp h.2.2 d hd) 4
theorem eq_self_d {a : Dat} (h : okD a = true) (ht : (∃ l, a = .tuple l) ∨ ∃ l, a = .list l) : cmpD .Eq a a = some true := by
  rcases ht with ⟨l, rfl⟩ | ⟨l, rfl⟩
  · simp only [cmpD, eqD, h, Bool.and_self, if_true]; exact congrArg some ((beqDs_iff l l).mpr rfl)
  · simp only [cmpD, eqD, h, Bool.and_self, if_true]; exact congrArg some ((beqDs_iff l l).mpr rfl)
/-- the memory turned by a way -/
noncomputable def turnM (M : Mem) (w : Nat) (h : M.ds.length = 64) (hw : w < 64) : Mem := ⟨M.ds.drop (64 - w) ++ M.ds.take (64 - w), good_perm M.ok (by simp [h]) fun d hd => by
  rcases List.mem_append.mp hd with q | q
  · exact List.mem_of_mem_drop q
  · exact List.mem_of_mem_take q⟩
theorem turn_pk (M : Mem) (w : Nat) (h : M.ds.length = 64) (hw : w < 64) (x : Int) (hx : 0 ≤ x) : (turnM M w h hw).pk (x + w) = M.pk x := by
  have hl : (turnM M w h hw).ds.length = 64 := by simp [turnM, h]
  rw [pk_at _ (by omega) hl, pk_at M hx h]
  congr 2
  show (M.ds.drop (64 - w) ++ M.ds.take (64 - w))[(x + w).toNat % 64]? = _
  have e : (x + w).toNat = x.toNat + w := by omega
  rw [e, List.getElem?_append]
  have hd : (M.ds.drop (64 - w)).length = w := by simp [h]; omega
  rw [hd]
  split
  · rename_i q
    rw [List.getElem?_drop]
    congr 1
    omega
  · rename_i q
    rw [List.getElem?_take]
    have : (x.toNat + w) % 64 - w < 64 - w := by omega
    rw [if_pos this]
    congr 1
    omega
theorem slice_from {ds : List Dat} (h : ds.length = 64) {w : Nat} (hw : w < 64) : sliceD (.list ds) (.int (64 - (w : Int))) .none .none = some (ds.drop (64 - w)) := by
  have h1 : ds.length ≤ 1000 := by omega
  have a1 : ¬ (64 - (w : Int) < 0) := by omega
  have a2 : (64 - (w : Int)).toNat = 64 - w := by omega
  simp only [sliceD, h1, decide_true, if_true, partD, Option.bind_some, Option.map_some, kmsD, kms_lo, kms_hi, a1, if_false, a2]
  congr 1
  have a3 : min (64 - w) ds.length = 64 - w := by omega
  rw [a3]
  exact List.take_of_length_le (by simp)
theorem slice_to {ds : List Dat} (h : ds.length = 64) {w : Nat} (hw : w < 64) : sliceD (.list ds) .none (.int (64 - (w : Int))) .none = some (ds.take (64 - w)) := by
  have h1 : ds.length ≤ 1000 := by omega
  have a1 : ¬ (64 - (w : Int) < 0) := by omega
  have a2 : (64 - (w : Int)).toNat = 64 - w := by omega
  have a3 : min (64 - w) ds.length = 64 - w := by omega
  simp only [sliceD, h1, decide_true, if_true, partD, Option.bind_some, Option.map_some, kmsD, kms_lo, kms_hi, a1, if_false, a2, a3, List.drop_zero, Nat.sub_zero]
theorem call_dec' {M M' : Mem} {a : Int} {σ : Sig} : GD "decode" [.d (.list M'.ds), .d (.int a)] σ = some (decD M'.pk a, σ) := by
  have h := M'.ok
  simp +decide [GD, memArg, h]
theorem set_last {ops i : List Dat} {d d' : Dat} (h : ops = i ++ [d]) (hl : ops.length ≤ 1000) : setAt ops (-1) d' = some (ops.set (ops.length - 1) d') ∧ idxD (.list ops) (.int (-1)) = some d := by
  have s1 : small (-1) = true := by decide
  have n1 : 1 ≤ ops.length := by rw [h]; simp
  have a : atI ops.length (-1) = some (ops.length - 1) := by
    have e : (-1 + (ops.length : Int)).toNat = ops.length - 1 := by omega
    have c1 : ¬ ((0 : Int) ≤ -1) := by omega
    have c2 : (-(ops.length : Int)) ≤ -1 := by omega
    have c3 : (-1 : Int) < 0 := by omega
    simp only [atI, c1, c2, c3, decide_true, decide_false, Bool.false_and, Bool.and_self, if_true, Bool.false_eq_true, if_false, e]
  refine ⟨by simp only [setAt, s1, hl, decide_true, Bool.and_self, if_true, a, Option.map_some], ?_⟩
  simp only [idxD, s1, hl, decide_true, Bool.and_self, if_true, a, Option.bind_some]
  rw [h]; simp
theorem jump_any (w : Str) : [Dat.str "JR", .str "DJNZ"].any (fun y => beqD y (.str w)) = jump w := by
  simp only [List.any_cons, List.any_nil, beqD, Bool.or_false, jump]
  rw [show decide ((Str.ofString "JR") = w) = decide (w = "JR") from decide_eq_decide.mpr eq_comm, show decide ((Str.ofString "DJNZ") = w) = decide (w = "DJNZ") from decide_eq_decide.mpr eq_comm]
theorem mem_jump {w : Str} (h : PyData.strOk w = true) : memD (.str w) [.str "JR", .str "DJNZ"] = some (jump w) := by
  have h1 : okD (.str w) = true := h
  have h2 : [Dat.str "JR", .str "DJNZ"].all okD = true := by decide +kernel
  simp only [memD, h1, h2, Bool.and_self, if_true, jump_any]
theorem bin_ii (op : Operator) (a b : Int) : binD op (.int a) (.int b) = (binI op a b).map .int := rfl
theorem cmp_in (x : Dat) (ds : List Dat) : cmpD .In x (.tuple ds) = memD x ds := rfl
theorem cmp_inl (x : Dat) (ds : List Dat) : cmpD .In x (.list ds) = memD x ds := rfl
theorem moved_ex (M : Mem) (hl : M.ds.length = 64) (a : Int) (ha : 0 ≤ a) (ha2 : a < 5000) (w : Nat) (hw : w < 64) : runFn GD (fnI 33).2 60 [.c 0, .d (.int a), .d (.int (w : Int))] [.mem M] = some (.bool true, [.mem M]) := by
  obtain ⟨t, n, e, ⟨ok, last⟩, h1, h2, keep⟩ := dec_keeps (inR M) ha (by omega)
  have hk := keep (turnM M w hl hw).pk w (inR _) (by omega) (by omega) (fun x hx _ => turn_pk M w hl hw x (by omega)) (fun _ x hx _ => turn_pk M w hl hw x (by omega))
  obtain ⟨t', n', e', ⟨ok', _⟩, _⟩ := dec_keeps (inR (turnM M w hl hw)) (a := a + w) (by omega) (by omega)
  obtain ⟨rfl, rfl⟩ := resD_inj (e'.symm.trans hk)
  have self := eq_self_d (okD_res (n := n') ok') (.inl ⟨_, rfl⟩)
  have hol : t.2.length ≤ 1000 := by have := ok.2.1; omega
  have mj := mem_jump (okK_ok ok.1).2
  have s1 := slice_from hl hw
  have s2 := slice_to hl hw
  have hadd : binD .Add (.list (M.ds.drop (64 - w))) (.list (M.ds.take (64 - w))) = some (.list (turnM M w hl hw).ds) := by
    have : (M.ds.drop (64 - w)).length + (M.ds.take (64 - w)).length ≤ 1000 := by simp [hl]
    simp only [binD, this, if_true]; rfl
  have cd : GD "decode" [.c 0, .d (.int a)] [.mem M] = some (resD t n', [.mem M]) := by rw [← e]; rfl
  have cd2 : ∀ σ, GD "decode" [.d (.list (turnM M w hl hw).ds), .d (.int (a + w))] σ = some (resD (t.1, dueD t.1 t.2 w) n', σ) := fun σ => by rw [← hk]; exact call_dec' (M := M)
  conv => lhs; arg 2; whnf
  by_cases hj : jump t.1 = true
  · obtain ⟨i, v, hi⟩ := last hj
    obtain ⟨l1, l2⟩ := set_last (d' := .tuple [.str "n", .int (Builtin.bitAnd (v + w) 65535)]) hi hol
    have hv : lastV t.2 = v := by unfold lastV; rw [hi]; simp
    have due : dueD t.1 t.2 w = t.2.set (t.2.length - 1) (.tuple [.str "n", .int (Builtin.bitAnd (v + w) 65535)]) := by unfold dueD; rw [if_pos hj, hv]
    rw [due] at self cd2
    simp +decide only [runFn, List.map, bindR, Option.map_some, Option.bind_some, ss_cons, ss_nil, s_ret, s_if, s_unp, s_asg_call, s_set, e_name, e_call, e_bin, e_int, e_str, e_slice, e_usub, e_cmp, e_sub_un, e_sub_con, evL, evO, lk, frz, frzL, if_true, if_false, sr, sr0, tgt, namesOf, itemsD, List.length_cons, List.length_nil, setRs, t_cmp, evCmp, valL, valsL, cd, resD, stepX, f_call, hol, e_tup, cmp_in, mj, hj, l1, l2, ix21, bin_ii, binI, s1, s2, stepOk, hadd, cd2, List.getElem?_cons_succ, List.getElem?_cons_zero, List.set_cons_succ, List.set_cons_zero, List.cons_append, List.nil_append]
    simp only [resD] at self
    simp +decide only [self, Option.map_some, Option.bind_some, frz]
    rfl
  · have due : dueD t.1 t.2 w = t.2 := by unfold dueD; rw [if_neg hj]
    have hj' : jump t.1 = false := by simpa using hj
    rw [due] at self cd2
    simp +decide only [runFn, List.map, bindR, Option.map_some, Option.bind_some, ss_cons, ss_nil, s_ret, s_if, s_unp, s_asg_call, s_set, e_name, e_call, e_bin, e_int, e_str, e_slice, e_usub, e_cmp, e_sub_un, e_sub_con, evL, evO, lk, frz, frzL, if_true, if_false, sr, sr0, tgt, namesOf, itemsD, List.length_cons, List.length_nil, setRs, t_cmp, evCmp, valL, valsL, cd, resD, stepX, f_call, hol, e_tup, cmp_in, mj, hj', ix21, bin_ii, binI, s1, s2, stepOk, hadd, cd2, List.getElem?_cons_succ, List.getElem?_cons_zero, List.set_cons_succ, List.set_cons_zero, List.cons_append, List.nil_append]
    simp only [resD] at self
    simp +decide only [self, Option.map_some, Option.bind_some, frz]
    rfl
/-- the memory twice -/
noncomputable def twoM (M : Mem) (h : M.ds.length = 64) : Mem := ⟨M.ds ++ M.ds, good_perm M.ok (by simp [h]) fun d hd => by
  rcases List.mem_append.mp hd with q | q <;> exact q⟩
theorem two_pk (M : Mem) (h : M.ds.length = 64) (x : Int) (hx : 0 ≤ x) : (twoM M h).pk x = M.pk x := by
  have hl : (twoM M h).ds.length = 128 := by simp [twoM, h]
  rw [pk_at _ hx hl, pk_at M hx h]
  congr 2
  show (M.ds ++ M.ds)[x.toNat % 128]? = _
  rw [List.getElem?_append]
  split
  · congr 1; omega
  · congr 1; omega
/-- octets that are all others but at some places -/
noncomputable def othL (kept : List Int) : List Dat → Nat → List Dat
  | [], _ => []
  | d :: r, i => (if (Int.ofNat i) ∈ kept then d else .int (Builtin.bitXor (vI d) 255)) :: othL kept r (i + 1)
theorem othL_len (kept : List Int) : ∀ (ds : List Dat) (i : Nat), (othL kept ds i).length = ds.length
  | [], _ => rfl
  | d :: r, i => by simp [othL, othL_len kept r]
theorem othL_at (kept : List Int) : ∀ (ds : List Dat) (i j : Nat), (othL kept ds i)[j]? = ds[j]?.map fun d => if (Int.ofNat (i + j)) ∈ kept then d else .int (Builtin.bitXor (vI d) 255)
  | [], _, _ => by simp [othL]
  | d :: r, i, 0 => by simp [othL]
  | d :: r, i, j + 1 => by
    have e : i + 1 + j = i + (j + 1) := by omega
    simp only [othL, List.getElem?_cons_succ]
    rw [othL_at kept r (i + 1) j, e]
theorem xor255 {v : Int} (h : 0 ≤ v ∧ v < 256) : Builtin.bitXor v 255 = 255 - v := by
  rw [bitXor_and, bitAnd_m8]; omega
theorem othL_good {kept : List Int} {ds : List Dat} (h : goodD ds = true) : goodD (othL kept ds 0) = true := by
  have hl := good_len h
  simp only [goodD, Bool.and_eq_true, decide_eq_true_eq, List.all_eq_true] at h ⊢
  rw [othL_len]
  refine ⟨hl, fun d hd => ?_⟩
  obtain ⟨j, hj, e⟩ := List.getElem_of_mem hd
  have q : (othL kept ds 0)[j]? = some d := by rw [List.getElem?_eq_getElem hj, e]
  rw [othL_at] at q
  simp only [Option.map_eq_some_iff] at q
  obtain ⟨d', h1, h2⟩ := q
  have h3 := h.2 d' (List.mem_of_getElem? h1)
  split at h2
  · rw [← h2]; exact h3
  · rw [← h2]
    cases d' <;> simp [octD] at h3
    simp only [vI, xor255 h3, octD, Bool.and_eq_true, decide_eq_true_eq]
    omega
noncomputable def othM (M : Mem) (kept : List Int) : Mem := ⟨othL kept M.ds 0, othL_good M.ok⟩
theorem oth_pk (M : Mem) (h : M.ds.length = 64) (kept : List Int) (x : Int) (hx : 0 ≤ x) (hk : (x.fmod 64) ∈ kept) : (othM M kept).pk x = M.pk x := by
  have hl : (othM M kept).ds.length = 64 := by simp [othM, othL_len, h]
  rw [pk_at _ hx hl, pk_at M hx h]
  congr 1
  show ((othL kept M.ds 0)[x.toNat % 64]?).getD .none = _
  rw [othL_at]
  have e : Int.ofNat (0 + x.toNat % 64) = x.fmod 64 := by
    rw [Int.fmod_eq_emod_of_nonneg _ (by omega)]
    simp only [Int.ofNat_eq_natCast]
    omega
  rw [e]
  simp only [hk, if_true]
  simp
theorem dec_alone {pk pk' : Int → Int} (h : InR pk) (h' : InR pk') {a : Int} (ha : 0 ≤ a) (ha2 : a < 10000) (ag : Agr pk pk' 0 a (sz pk a)) (ag2 : (pk a = 221 ∨ pk a = 253) → Agr pk pk' 0 a 2) : decD pk' a = decD pk a := by
  obtain ⟨t, n, e, ok, h1, h2, keep⟩ := dec_keeps h ha ha2
  rw [(tx_res e).2] at ag
  have k1 := keep pk' 0 h' (by omega) (by omega) ag ag2
  have k2 := keep pk 0 h (by omega) (by omega) (fun x _ _ => by rw [Int.add_zero]) (fun _ x _ _ => by rw [Int.add_zero])
  rw [Int.add_zero] at k1 k2
  rw [k1, k2]
theorem dis_alone {pk pk' : Int → Int} (h : InR pk) (h' : InR pk') {a : Int} (ha : 0 ≤ a) (ha2 : a < 10000) (ag : Agr pk pk' 0 a (sz pk a)) (ag2 : (pk a = 221 ∨ pk a = 253) → Agr pk pk' 0 a 2) : disD pk' a = disD pk a := by
  have := dec_alone h h' ha ha2 ag ag2
  unfold disD tx sz
  rw [this]
theorem okD_dis {pk : Int → Int} (h : InR pk) {a : Int} (ha : 0 ≤ a) (ha2 : a < 10000) : okD (disD pk a) = true := by
  simp only [okD, disD, kqdOk, List.all_cons, List.all_nil, Bool.and_true]
  exact (tx_ok h ha ha2).2
theorem call_dis' {M : Mem} {a : Int} (h : small2 a = true) {σ : Sig} : GL "disassemble" [.d (.list M.ds), .d (.int a)] σ = some (disD M.pk a, σ) := by
  have hg := M.ok
  simp +decide [GL, memArg, h, hg]
theorem call_dis1 {M M' : Mem} {a : Int} (h : small2 a = true) : GL "disassemble" [.c 1, .d (.int a)] [.mem M, .lst M'.ds] = some (disD M'.pk a, [.mem M, .mem M']) := by
  have hg := M'.ok
  simp +decide [GL, memArg, h, hg]
noncomputable def keptI (a : Int) (m : Nat) : List Int := (List.range m).map fun i => (a + Int.ofNat i).fmod 64
theorem kept_mem {a x : Int} {m : Nat} (h1 : a ≤ x) (h2 : x < a + m) : x.fmod 64 ∈ keptI a m := by
  refine List.mem_map.mpr ⟨(x - a).toNat, List.mem_range.mpr (by omega), ?_⟩
  congr 1
  simp only [Int.ofNat_eq_natCast]
  omega
theorem memD_ints (x : Int) (l : List Int) : memD (.int x) (l.map .int) = some (decide (x ∈ l)) := by
  have h1 : okD (.int x) = true := rfl
  have h2 : (l.map Dat.int).all okD = true := by simp [List.all_eq_true, okD, kqdOk]
  simp only [memD, h1, h2, Bool.and_self, if_true, Option.some.injEq]
  induction l with
  | nil => rfl
  | cons y r ih =>
    simp only [List.map_cons, List.any_cons, beqD, List.mem_cons, Bool.decide_or]
    have h3 : (r.map Dat.int).all okD = true := by simp [List.all_eq_true, okD, kqdOk]
    rw [ih h3]
    congr 1
    exact decide_eq_decide.mpr eq_comm
theorem memD_pre (x : Int) : memD (.int x) [.int 221, .int 253] = some (decide (x = 221) || decide (x = 253)) := by
  have := memD_ints x [221, 253]
  simpa using this
theorem le_int (a b : Int) : cmpD .LtE (.int a) (.int b) = some (decide (a ≤ b)) := rfl
theorem eq_int (a b : Int) : cmpD .Eq (.int a) (.int b) = some (decide (a = b)) := rfl
theorem pk_get64 (M : Mem) (h : M.ds.length = 64) (a : Int) : idxD (.list M.ds) (.int (a.fmod 64)) = some (.int (M.pk a)) := by
  have := (pk_get M a).1
  rw [h] at this
  exact this
theorem alone_ex (M : Mem) (hl : M.ds.length = 64) (a : Int) (ha : 0 ≤ a) (ha2 : a < 5000) : runFn GL (fnI 32).2 60 [.c 0, .d (.int a)] [.mem M] = some (.bool true, [.mem M]) := by
  have sm : small2 a = true := by unfold small2; simp; omega
  have szr := sz_range (inR M) ha (by omega)
  obtain ⟨n, hn⟩ : ∃ n, sz M.pk a = n := ⟨_, rfl⟩
  rw [hn] at szr
  obtain ⟨m, hm⟩ : ∃ m : Nat, m = if n = 1 ∧ (M.pk a = 221 ∨ M.pk a = 253) then 2 else n := ⟨_, rfl⟩
  have dd : disD M.pk a = .tuple [.str (tx M.pk a), .int (Int.ofNat n)] := by unfold disD; rw [hn]
  have c1 : decide ((1 : Int) ≤ Int.ofNat n) = true := decide_eq_true (by simp only [Int.ofNat_eq_natCast]; omega)
  have c2 : decide (Int.ofNat n ≤ (4 : Int)) = true := decide_eq_true (by simp only [Int.ofNat_eq_natCast]; omega)
  have p1 := pk_get64 M hl a
  conv => lhs; arg 2; whnf
  simp +decide only [runFn, List.map, bindR, Option.map_some, Option.bind_some, ss_cons, ss_nil, s_ret, s_if, s_unp, s_asg_ife, e_name, e_call, e_int, e_bin, e_ife, t_not, t_cmp, t_bo, evBo, evCmp, evL, lk, valL, frz, frzL, if_true, if_false, call_dis sm, dd, tgt, namesOf, itemsD, List.length_cons, List.length_nil, setRs2, sr, sr0, le_int, eq_int, c1, c2, stepX, e_sub_bin, List.getElem?_cons_succ, List.getElem?_cons_zero, bin_ii, binI, p1, e_tup, cmp_in, memD_pre]
  have hmany : ((if decide (Int.ofNat n = 1) = true then if (decide (M.pk a = 221) || decide (M.pk a = 253)) = true then some (decide True, [Cell.mem M]) else some (false, [Cell.mem M]) else some (false, [Cell.mem M]) : Option (Bool × Sig)).bind
      fun p => if p.fst = true then some (LV.d (Dat.int 2), p.snd) else some (LV.d (Dat.int (Int.ofNat n)), p.snd)) = some (LV.d (.int (Int.ofNat m)), [Cell.mem M]) := by
    rw [hm]
    by_cases q1 : n = 1
    · by_cases q2 : M.pk a = 221 ∨ M.pk a = 253
      · simp [q1, q2]
      · have q2' := q2; simp only [not_or] at q2'; simp [q1, q2'.1, q2'.2]
    · have : ¬ (n : Int) = 1 := by omega
      simp [q1, this]
  rw [hmany]
  have hm4 : m ≤ 4 := by rw [hm]; split <;> omega
  have hml : (Int.ofNat m) ≤ 1000 := by simp only [Int.ofNat_eq_natCast]; omega
  have hms : small (Int.ofNat m) = true := small_of (by simp) (by simp only [Int.ofNat_eq_natCast]; omega)
  simp +decide only [s_swap, Option.map_some, Option.bind_some, namesOf, if_true, if_false, evXs, stepX, e_lc, f_lcc, freesOk, List.all_cons, List.all_nil, lk, i_call, e_name, hml, hms, restR, List.filter_cons, List.filter_nil]
  rw [stateMap_pure (g := fun d => .int ((a + vI d).fmod 64)) (by
    intro d hd σ'
    obtain ⟨i, _, rfl⟩ := List.mem_map.mp hd
    simp +decide only [e_bin, e_name, e_int, lk, Option.map_some, Option.bind_some, if_true, if_false, valL, bin_ii, binI, vI])]
  simp +decide only [Option.isSome_some, Bool.and_true, Bool.true_and, Bool.and_self, Bool.or_true, Bool.true_or, Bool.or_false, Option.map_some, Option.bind_some, if_true, if_false, decide_true, decide_false, f_list, evL, frzL, List.length_cons, List.length_nil, List.cons_append, List.nil_append, setRs2, sr, sr0, s_for, it_en, it_tn, it_nn, it_nc, i_name, e_name, lk, List.getElem?_cons_succ, List.getElem?_cons_zero]
  have hk : (rangeD (Int.ofNat m)).map (fun d => Dat.int ((a + vI d).fmod 64)) = (keptI a m).map .int := by
    simp [rangeD, keptI, vI]
  rw [hk, Option.bind_assoc]
  refine loop_bind (fun i ρ σ => ρ.lookup (Str.ofString "memory") = some (.c 0) ∧ ρ.lookup (Str.ofString "place") = some (.d (.int a)) ∧ ρ.lookup (Str.ofString "text") = some (.d (.str (tx M.pk a))) ∧ ρ.lookup (Str.ofString "size") = some (.d (.int (Int.ofNat n))) ∧
    ρ.lookup (Str.ofString "kept") = some (.d (.list ((keptI a m).map .int))) ∧ ρ.lookup (Str.ofString "other") = some (.c 1) ∧ σ = [.mem M, .lst ((othL (keptI a m) M.ds 0).take i)]) ?_ ?_ ?_
  · rintro i d ρ σ hd ⟨h1, h2, h3, h4, h5, h6, rfl⟩
    have hi : i < M.ds.length := by
      have := (List.getElem?_eq_some_iff.mp hd).1
      simpa [enumD] using this
    obtain ⟨v, hv, hv1, hv2⟩ := good_at M.ok hi
    have hde : d = .tuple [.int (i : Int), .int v] := by
      have : (enumD M.ds)[i]? = some (.tuple [.int (i : Int), .int v]) := by simp [enumD, hv]
      rw [this] at hd; exact (Option.some.inj hd).symm
    subst hde
    have hot : (othL (keptI a m) M.ds 0)[i]? = some (if (i : Int) ∈ keptI a m then .int v else .int (Builtin.bitXor v 255)) := by
      rw [othL_at, hv]; simp [vI]
    have htk : (othL (keptI a m) M.ds 0).take (i + 1) = (othL (keptI a m) M.ds 0).take i ++ [if (i : Int) ∈ keptI a m then .int v else .int (Builtin.bitXor v 255)] := by
      rw [List.take_add_one, hot]; rfl
    have rl : ((othL (keptI a m) M.ds 0).take i).length ≤ 1000 := by rw [List.length_take, othL_len]; omega
    have mk := memD_ints (i : Int) (keptI a m)
    refine ⟨setR (setR ρ (Str.ofString "at") (.d (.int (i : Int)))) (Str.ofString "octet") (.d (.int v)), setR (setR ρ (Str.ofString "at") (.d (.int (i : Int)))) (Str.ofString "octet") (.d (.int v)), _, ?_, ?_, ?_, ?_, ?_, ?_, ?_, ?_, rfl⟩
    · simp +decide only [tgt, namesOf, itemsD, Option.map_some, Option.bind_some, if_true, if_false, List.map, List.length_cons, List.length_nil, setRs2]
    · by_cases hin : (i : Int) ∈ keptI a m
      · simp +decide only [setR_lookup, if_true, if_false, h5, h6, Option.map_some, Option.bind_some, ss_cons, ss_nil, s_app, e_ife, t_cmp, evCmp, e_name, e_bin, e_int, valL, cmp_inl, mk, hin, frz, bin_ii, binI, List.getElem?_cons_succ, List.getElem?_cons_zero, rl, List.set_cons_succ, List.set_cons_zero, htk]
      · simp +decide only [setR_lookup, if_true, if_false, h5, h6, Option.map_some, Option.bind_some, ss_cons, ss_nil, s_app, e_ife, t_cmp, evCmp, e_name, e_bin, e_int, valL, cmp_inl, mk, hin, frz, bin_ii, binI, List.getElem?_cons_succ, List.getElem?_cons_zero, rl, List.set_cons_succ, List.set_cons_zero, htk]
    all_goals simp +decide only [setR_lookup, if_true, if_false, h1, h2, h3, h4, h5, h6]
  · simp +decide only [lk, if_true, if_false, List.take_zero]
  · rintro ρ' σ' ⟨h1, h2, h3, h4, h5, h6, rfl⟩
    have hll : (enumD M.ds).length = M.ds.length := by simp [enumD]
    have htk : (othL (keptI a m) M.ds 0).take (enumD M.ds).length = (othM M (keptI a m)).ds := by
      rw [hll]; exact List.take_of_length_le (by rw [othL_len]; omega)
    rw [htk]
    have agn : Agr M.pk (othM M (keptI a m)).pk 0 a m := fun x a1 a2 => by
      rw [Int.add_zero]; exact oth_pk M hl _ x (by omega) (kept_mem a1 a2)
    have nm : n ≤ m := by
      rw [hm]; split
      · rename_i q; omega
      · omega
    have d1 : disD (othM M (keptI a m)).pk a = disD M.pk a := dis_alone (inR M) (inR _) ha (by omega) (by rw [hn]; exact agn.sub (by omega) (by omega)) fun hp => by
      by_cases q1 : n = 1
      · have : m = 2 := by rw [hm, if_pos ⟨q1, hp⟩]
        exact agn.sub (by omega) (by omega)
      · exact agn.sub (by omega) (by omega)
    have d2 : disD (twoM M hl).pk a = disD M.pk a := dis_alone (inR M) (inR _) ha (by omega) (fun x a1 _ => by rw [Int.add_zero]; exact two_pk M hl x (by omega)) fun _ x a1 _ => by rw [Int.add_zero]; exact two_pk M hl x (by omega)
    have ce := call_dis1 (M := M) (M' := othM M (keptI a m)) sm
    rw [d1, dd] at ce
    have c2 := fun σ => call_dis' (M := twoM M hl) sm (σ := σ)
    rw [d2, dd] at c2
    have self := eq_self_d (okD_dis (inR M) ha (by omega)) (.inl ⟨_, rfl⟩)
    rw [dd] at self
    have hadd : binD .Add (.list M.ds) (.list M.ds) = some (.list (twoM M hl).ds) := by
      have : M.ds.length + M.ds.length ≤ 1000 := by omega
      simp only [binD, this, if_true]; rfl
    simp +decide only [e_bo, evBo, evBool, e_cmp, evCmp, e_call, evL, e_name, e_tup, e_bin, h1, h2, h3, h4, h6, Option.map_some, Option.bind_some, if_true, if_false, ce, c2, valL, frz, frzL, List.length_cons, List.length_nil, self, hadd, List.getElem?_cons_succ, List.getElem?_cons_zero]
    rfl
noncomputable def nextC (k : Nat) (many : Int) (σ : Sig) : Option (Dat × Sig) := match σ[k]? with
  | some (.lst [.list cells, .int t]) => if cells.all isI && decide (cells.length ≤ 100) && decide (0 ≤ t) && decide (t ≤ 1000) && decide (0 < many) then some (.int (nextV cells t many), σ.set k (.lst [.list cells, .int (t + 1)])) else none
  | _ => none
noncomputable def is64 (M : Mem) : Bool := decide (M.ds.length = 64)
noncomputable def GW : Ctr := fun f args σ => match args with
  | [mv, .d (.int a)] => if f = "_law_next" then (match mv with | .c k => nextC k a σ | _ => none)
    else if f = "disassemble" then (memArg σ mv).bind fun q => if small2 a then some (disD q.1.pk a, q.2) else none
    else if f = "_law_alone" then (memArg σ mv).bind fun q => if is64 q.1 && decide (0 ≤ a) && decide (a < 5000) then some (.bool true, q.2) else none
    else none
  | [mv, .d (.int a), .d (.int n)] => if f = "listing" then (memArg σ mv).bind fun q => if decide (0 ≤ a) && decide (0 ≤ n) && decide (n ≤ 100) && decide (a + 4 * n < 10000) then some (.tuple [.list (rowsN q.1.pk a n.toNat), .int (endN q.1.pk a n.toNat)], q.2) else none
    else if f = "_law_moved" then (memArg σ mv).bind fun q => if is64 q.1 && decide (0 ≤ a) && decide (a < 5000) && decide (0 ≤ n) && decide (n < 64) then some (.bool true, q.2) else none
    else none
  | _ => none
section
variable {prog : Program} {w : World} {p : Program} {loose : List Str} {mg mb : Str → Option Value} {σ : Sig}
theorem gok_t : GOK prog w (KH w) p loose mg mb 1 Gt := by
  intro f args σ r h
  unfold Gt at h
  split at h
  · rename_i d
    split at h
    · rename_i hf
      subst hf
      split at h
      · rename_i hd
        cases h
        exact run_ok (f := (fnI 26).1) gok_none (blt_K w) (fnAt_26 w.params) (t_ex _ d hd σ)
      · cases h
    · cases h
  · cases h
theorem gok_D : GOK prog w (KH w) p loose mg mb 9 GD := by
  intro f args σ r h
  unfold GD at h
  split at h
  · rename_i mv a
    split at h
    · rename_i hf
      subst hf
      simp only [Option.bind_eq_some_iff, Option.some.injEq] at h
      obtain ⟨⟨M, σ'⟩, h1, rfl⟩ := h
      exact dec_ok h1
    · cases h
  · rename_i x ops
    split at h
    · rename_i hf
      subst hf
      split at h
      · rename_i hd
        cases h
        exact (run_ok (f := (fnI 27).1) gok_t (blt_K w) (fnAt_27 w.params) (ord_ex x ops (okRb_iff.mp hd) σ).1).up 7
      · cases h
    · cases h
  · cases h
theorem dis_ok {mv : LV} {M : Mem} {σ' : Sig} {a : Int} (hm : memArg σ mv = some (M, σ')) (hs : small2 a = true) : CallOK prog w (KH w) p loose mg mb 10 "disassemble" [mv, .d (.int a)] σ (disD M.pk a, σ') := by
  simp only [small2, Bool.and_eq_true, decide_eq_true_eq] at hs
  exact lift_ok (args := [.int a]) (M' := M) (run_ok (f := (fnI 28).1) gok_D (blt_K w) (fnAt_28 w.params) (dis_ex M a hs.1 hs.2)) hm
theorem gok_L : GOK prog w (KH w) p loose mg mb 10 GL := by
  intro f args σ r h
  unfold GL at h
  split at h
  · rename_i mv a
    split at h
    · rename_i hf
      subst hf
      simp only [Option.bind_eq_some_iff] at h
      obtain ⟨⟨M, σ'⟩, h1, h2⟩ := h
      split at h2
      · rename_i hs
        cases h2
        exact dis_ok h1 hs
      · cases h2
    · cases h
  · cases h
theorem gok_W : GOK prog w (KH w) p loose mg mb 11 GW := by
  intro f args σ r h
  unfold GW at h
  split at h
  · rename_i mv a
    split at h
    · rename_i hf
      subst hf
      cases mv with
      | d x => cases h
      | c k =>
        simp only [nextC] at h
        split at h
        · rename_i cells t hq
          split at h
          · rename_i hc
            simp only [Bool.and_eq_true, decide_eq_true_eq] at hc
            cases h
            exact (run_ok (f := (fnI 31).1) gok_none (blt_K w) (fnAt_31 w.params) (next_ex _ k σ cells t a hq hc.1.1.1.1 hc.1.1.1.2 hc.1.1.2 hc.1.2 hc.2)).up 10
          · cases h
        · cases h
    · split at h
      · rename_i hf
        subst hf
        simp only [Option.bind_eq_some_iff] at h
        obtain ⟨⟨M, σ'⟩, h1, h2⟩ := h
        split at h2
        · rename_i hs
          cases h2
          exact (dis_ok h1 hs).up 1
        · cases h2
      · split at h
        · rename_i hf
          subst hf
          simp only [Option.bind_eq_some_iff] at h
          obtain ⟨⟨M, σ'⟩, h1, h2⟩ := h
          split at h2
          · rename_i hs
            simp only [Bool.and_eq_true, decide_eq_true_eq, is64] at hs
            cases h2
            exact lift_ok (args := [.int a]) (M' := M) (run_ok (f := (fnI 32).1) gok_L (blt_K w) (fnAt_32 w.params) (alone_ex M hs.1.1 a hs.1.2 hs.2)) h1
          · cases h2
        · cases h
  · rename_i mv a n
    split at h
    · rename_i hf
      subst hf
      simp only [Option.bind_eq_some_iff] at h
      obtain ⟨⟨M, σ'⟩, h1, h2⟩ := h
      split at h2
      · rename_i hs
        simp only [Bool.and_eq_true, decide_eq_true_eq] at hs
        cases h2
        have e := lst_ex M a n.toNat hs.1.1.1 (by omega) (by omega)
        rw [show Int.ofNat n.toNat = n by simp only [Int.ofNat_eq_natCast]; omega] at e
        exact lift_ok (args := [.int a, .int n]) (M' := M) (run_ok (f := (fnI 29).1) gok_L (blt_K w) (fnAt_29 w.params) e) h1
      · cases h2
    · split at h
      · rename_i hf
        subst hf
        simp only [Option.bind_eq_some_iff] at h
        obtain ⟨⟨M, σ'⟩, h1, h2⟩ := h
        split at h2
        · rename_i hs
          simp only [Bool.and_eq_true, decide_eq_true_eq, is64] at hs
          cases h2
          have e := moved_ex M hs.1.1.1.1 a hs.1.1.1.2 hs.1.1.2 n.toNat (by omega)
          rw [show ((n.toNat : Nat) : Int) = n by omega] at e
          exact (lift_ok (args := [.int a, .int n]) (M' := M) (run_ok (f := (fnI 33).1) gok_D (blt_K w) (fnAt_33 w.params) e) h1).up 1
        · cases h2
      · cases h
  · cases h
end
theorem call_next {cells : List Dat} (hc : cells.all isI = true) (hl : cells.length ≤ 100) {t many : Int} (h0 : 0 ≤ t) (h1 : t ≤ 1000) (hm : 0 < many) (σ : Sig) :
    GW "_law_next" [.c 0, .d (.int many)] (.lst [.list cells, .int t] :: σ) = some (.int (nextV cells t many), .lst [.list cells, .int (t + 1)] :: σ) := by
  simp +decide [GW, nextC, hc, hl, h0, h1, hm]
noncomputable def body34 : List Stmt := (fnI 34).2.body
noncomputable def f34 : Rho → Sig → Stmt → SRes := evS GW (fnI 34).2.mt.contains (fnI 34).2.scope 60
noncomputable def memL : List Dat := (List.range 64).map fun i => .int (Int.ofNat ((i * 73 + i * i / 3 + 6) % 256))
theorem memL_good : goodD memL = true ∧ memL.length = 64 := by decide +kernel
theorem loop_post {α : Type} {as : Rho → Dat → Option Rho} {f : Rho → Sig → SRes} {k : Fl × Rho × Sig → Option α} (Post : Option α → Prop) (Inv : Nat → Rho → Sig → Prop) {ds : List Dat} {ρ : Rho} {σ : Sig}
    (step : ∀ i d ρ σ, ds[i]? = some d → Inv i ρ σ → ∃ ρ₁ ρ₂ σ₂, as ρ d = some ρ₁ ∧ f ρ₁ σ = some (.next, ρ₂, σ₂) ∧ Inv (i + 1) ρ₂ σ₂) (h0 : Inv 0 ρ σ) (fin : ∀ ρ' σ', Inv ds.length ρ' σ' → Post (k (.next, ρ', σ'))) : Post ((evLoop as f ds ρ σ).bind k) := by
  have key : ∀ (l : List Dat) (i : Nat) (ρ : Rho) (σ : Sig), (∀ j d, l[j]? = some d → ds[i + j]? = some d) → i + l.length = ds.length → Inv i ρ σ → Post ((evLoop as f l ρ σ).bind k) := by
    intro l
    induction l with
    | nil =>
      intro i ρ σ _ hl hi
      simp only [List.length_nil, Nat.add_zero] at hl
      rw [hl] at hi
      exact fin ρ σ hi
    | cons d l ih =>
      intro i ρ σ hds hl hi
      obtain ⟨ρ₁, ρ₂, σ₂, a, b, c⟩ := step i d ρ σ (hds 0 d rfl) hi
      simp only [evLoop, a, b, Option.bind_some]
      refine ih (i + 1) ρ₂ σ₂ (fun j d' hj => ?_) (by simp only [List.length_cons] at hl; omega) c
      have := hds (j + 1) d' (by simpa using hj)
      rw [← this]; congr 1; omega
  exact key ds 0 ρ σ (fun j d hj => by simpa using hj) (by simp) h0
structure LK (ρ : Rho) (P N W Q K : Int) : Prop where
  feed : ρ.lookup (Str.ofString "feed") = some (.c 0)
  place : ρ.lookup (Str.ofString "place") = some (.d (.int P))
  many : ρ.lookup (Str.ofString "many") = some (.d (.int N))
  way : ρ.lookup (Str.ofString "way") = some (.d (.int W))
  further : ρ.lookup (Str.ofString "further") = some (.d (.int Q))
  cut : ρ.lookup (Str.ofString "cut") = some (.d (.int K))
  memory : ρ.lookup (Str.ofString "memory") = some (.c 1)
theorem good_set {l : List Dat} (h : goodD l = true) (j : Nat) {v : Int} (hv : 0 ≤ v ∧ v < 256) : goodD (l.set j (.int v)) = true := by
  simp only [goodD, Bool.and_eq_true, decide_eq_true_eq, List.all_eq_true, List.length_set] at h ⊢
  refine ⟨h.1, fun d hd => ?_⟩
  rcases List.mem_or_eq_of_mem_set hd with q | q
  · exact h.2 d q
  · rw [q]; simp only [octD, Bool.and_eq_true, decide_eq_true_eq]; exact hv
theorem setAt_fmod {l : List Dat} (h : l.length = 64) (x : Int) (v : Dat) : setAt l (x.fmod 64) v = some (l.set (x.fmod 64).toNat v) := by
  have h1 : 0 ≤ x.fmod 64 := Int.fmod_nonneg_of_pos _ (by omega)
  have h2 : x.fmod 64 < 64 := Int.fmod_lt_of_pos _ (by omega)
  have s := small_of h1 (by omega)
  have h3 : l.length ≤ 1000 := by omega
  have h4 : x.fmod 64 < (l.length : Int) := by omega
  simp only [setAt, s, h3, decide_true, Bool.and_self, if_true, atI, h1, h4, Option.map_some]
theorem law_c (cells : List Dat) (hc : cells.all isI = true) (hcl : cells.length ≤ 100) {ρ : Rho} {P N W Q K : Int} (h : LK ρ P N W Q K) (t₀ : Int) (ht : t₀ = 0 + 1 + 1 + 1 + 1 + 1) :
    ∃ ρ' l t, evSs f34 ((body34.drop 4).take 1) ρ [.lst [.list cells, .int t₀], .lst memL] = some (.next, ρ', [.lst [.list cells, .int t], .lst l]) ∧ LK ρ' P N W Q K ∧ goodD l = true ∧ l.length = 64 := by
  unfold f34
  conv => arg 1; intro ρ'; arg 1; intro l; arg 1; intro t; arg 1; lhs; arg 2; whnf
  simp +decide only [ss_cons, ss_nil, s_for, it_en, it_tn, it_nn, it_nc, i_call, e_int, Option.map_some, Option.bind_some, if_true, if_false, List.take_succ_cons, List.take_zero]
  refine loop_post (fun (o : SRes) => ∃ ρ' l t, o = some (.next, ρ', [.lst [.list cells, .int t], .lst l]) ∧ LK ρ' P N W Q K ∧ goodD l = true ∧ l.length = 64) (fun i ρ σ => LK ρ P N W Q K ∧ ∃ l, goodD l = true ∧ l.length = 64 ∧ σ = [.lst [.list cells, .int (t₀ + i)], .lst l]) ?_ ?_ ?_
  · rintro i d ρ σ hd ⟨h, l, hg, hl, rfl⟩
    have hi : i < 20 := by
      have := (List.getElem?_eq_some_iff.mp hd).1
      simpa [rangeD] using this
    obtain ⟨j, _, rfl⟩ : ∃ j : Nat, True ∧ d = .int (Int.ofNat j) := by
      obtain ⟨j, hj, e⟩ := List.mem_map.mp (List.mem_of_getElem? hd)
      exact ⟨j, trivial, e.symm⟩
    have nx := call_next hc hcl (t := t₀ + i) (many := 256) (by omega) (by omega) (by omega)
    have rg := nextV_range cells (t₀ + i) (many := 256) (by omega)
    have st := setAt_fmod hl (P + Int.ofNat j) (.int (nextV cells (t₀ + i) 256))
    refine ⟨setR ρ (Str.ofString "turn") (.d (.int (Int.ofNat j))), setR ρ (Str.ofString "turn") (.d (.int (Int.ofNat j))), [.lst [.list cells, .int (t₀ + i + 1)], .lst (l.set ((P + Int.ofNat j).fmod 64).toNat (.int (nextV cells (t₀ + i) 256)))], by simp +decide only [tgt, if_true], ?_, ?_, l.set ((P + Int.ofNat j).fmod 64).toNat (.int (nextV cells (t₀ + i) 256)), good_set hg _ rg, by simp [hl], ?_⟩
    · simp +decide only [ss_cons, ss_nil, s_set, e_call, evL, e_name, e_int, e_bin, bin_ii, binI, setR_lookup, h.feed, h.place, h.memory, Option.map_some, Option.bind_some, if_true, if_false, nx, frz, valL, List.getElem?_cons_succ, List.getElem?_cons_zero, st, List.set_cons_succ, List.set_cons_zero]
    · exact ⟨by simp +decide only [setR_lookup, if_false, h.feed], by simp +decide only [setR_lookup, if_false, h.place], by simp +decide only [setR_lookup, if_false, h.many], by simp +decide only [setR_lookup, if_false, h.way], by simp +decide only [setR_lookup, if_false, h.further], by simp +decide only [setR_lookup, if_false, h.cut], by simp +decide only [setR_lookup, if_false, h.memory]⟩
    · have : t₀ + (i : Int) + 1 = t₀ + ((i + 1 : Nat) : Int) := by omega
      rw [this]
  · exact ⟨h, memL, memL_good.1, memL_good.2, by simp⟩
  · rintro ρ' σ' ⟨h', l, hg, hl, rfl⟩
    exact ⟨ρ', l, _, rfl, h', hg, hl⟩
theorem rows_app (pk : Int → Int) : ∀ (k n : Nat) (a : Int), rowsN pk a (k + n) = rowsN pk a k ++ rowsN pk (endN pk a k) n
  | 0, n, a => by simp [rowsN, endN]
  | k + 1, n, a => by
    have e : k + 1 + n = (k + n) + 1 := by omega
    rw [e, rowsN, rows_app pk k n, rowsN, endN]; rfl
theorem end_app (pk : Int → Int) : ∀ (k n : Nat) (a : Int), endN pk a (k + n) = endN pk (endN pk a k) n
  | 0, n, a => by simp [endN]
  | k + 1, n, a => by
    have e : k + 1 + n = (k + n) + 1 := by omega
    rw [e, endN, end_app pk k n, endN]
theorem rows_at (pk : Int → Int) : ∀ (n : Nat) (a : Int) (i : Nat), i < n → (rowsN pk a n)[i]? = some (.tuple [.int (endN pk a i), .str (tx pk (endN pk a i))])
  | 0, _, _, h => by omega
  | n + 1, a, 0, _ => rfl
  | n + 1, a, i + 1, h => by
    rw [rowsN, List.getElem?_cons_succ, rows_at pk n _ i (by omega)]; rfl
theorem rows_okD {pk : Int → Int} (h : InR pk) {a : Int} (ha : 0 ≤ a) {n : Nat} (hn : a + 4 * n < 10000) : okD (.list (rowsN pk a n)) = true := by
  simp only [okD, kqdOk, List.all_eq_true]
  intro d hd
  obtain ⟨i, hi, e⟩ := List.getElem_of_mem hd
  rw [rows_len] at hi
  have q := rows_at pk n a i hi
  rw [List.getElem?_eq_getElem (by rw [rows_len]; exact hi), e] at q
  cases q
  have er := end_range h ha i (by omega)
  simp only [kqdOk, List.all_cons, List.all_nil, Bool.and_true, Bool.true_and]
  exact (tx_ok h (by omega) (by omega)).2
theorem call_lst {M : Mem} {a : Int} {n : Nat} {s₀ : Cell} (ha : 0 ≤ a) (hn : a + 4 * n < 10000) (hn2 : n ≤ 100) : GW "listing" [.c 1, .d (.int a), .d (.int (n : Int))] [s₀, .mem M] = some (.tuple [.list (rowsN M.pk a n), .int (endN M.pk a n)], [s₀, .mem M]) := by
  have h2 : (n : Int) ≤ 100 := by omega
  simp +decide [GW, memArg, ha, hn, h2]
theorem call_lst0 {M : Mem} {a : Int} {n : Nat} {s₀ : Cell} (ha : 0 ≤ a) (hn : a + 4 * n < 10000) (hn2 : n ≤ 100) : GW "listing" [.c 1, .d (.int a), .d (.int (n : Int))] [s₀, .lst M.ds] = some (.tuple [.list (rowsN M.pk a n), .int (endN M.pk a n)], [s₀, .mem M]) := by
  have h2 : (n : Int) ≤ 100 := by omega
  have hg := M.ok
  simp +decide [GW, memArg, ha, hn, h2, hg]
theorem call_disW {M : Mem} {a : Int} {s₀ : Cell} (h : small2 a = true) : GW "disassemble" [.c 1, .d (.int a)] [s₀, .mem M] = some (disD M.pk a, [s₀, .mem M]) := by
  simp +decide [GW, memArg, h]
theorem call_alone {M : Mem} {a : Int} {s₀ : Cell} (hl : M.ds.length = 64) (h : 0 ≤ a) (h2 : a < 5000) : GW "_law_alone" [.c 1, .d (.int a)] [s₀, .mem M] = some (.bool true, [s₀, .mem M]) := by
  simp +decide [GW, memArg, h, h2, is64, hl]
theorem call_moved {M : Mem} {a w : Int} {s₀ : Cell} (hl : M.ds.length = 64) (h : 0 ≤ a) (h2 : a < 5000) (h3 : 0 ≤ w) (h4 : w < 64) : GW "_law_moved" [.c 1, .d (.int a), .d (.int w)] [s₀, .mem M] = some (.bool true, [s₀, .mem M]) := by
  simp +decide [GW, memArg, h, h2, is64, hl, h3, h4]
/-- the law's rows from its first listing to its last -/
structure LM (ρ : Rho) (R O : List Dat) : Prop where
  rows : ρ.lookup (Str.ofString "rows") = some (.d (.list R))
  others : ρ.lookup (Str.ofString "others") = some (.d (.list O))
theorem law_d (M : Mem) (hl : M.ds.length = 64) {ρ : Rho} {P W Q : Int} {n k : Nat} (h : LK ρ P n W Q k) (s₀ : Cell) (hP : 0 ≤ P ∧ P < 64) (hn : n ≤ 8) (hk : k ≤ n) (hW : 0 ≤ W ∧ W < 64) (hQ : 0 ≤ Q ∧ Q < 100) :
    ∃ ρ', evSs f34 ((body34.drop 5).take 8) ρ [s₀, .lst M.ds] = some (.next, ρ', [s₀, .mem M]) ∧ LM ρ' (rowsN M.pk P n) (rowsN M.pk Q n) := by
  have ir := inR M
  have eK := end_range ir hP.1 k (by omega)
  have c1 := call_lst0 (M := M) (s₀ := s₀) (n := n) hP.1 (by omega) (by omega)
  have c2 := call_lst (M := M) (s₀ := s₀) (n := k) hP.1 (by omega) (by omega)
  have c3 := call_lst (M := M) (s₀ := s₀) (a := endN M.pk P k) (n := n - k) (by omega) (by omega) (by omega)
  have c4 := call_lst (M := M) (s₀ := s₀) (n := n) hQ.1 (by omega) (by omega)
  have e1 : ((n - k : Nat) : Int) = (n : Int) - (k : Int) := by omega
  rw [e1] at c3
  have hnk : k + (n - k) = n := by omega
  have ra := rows_app M.pk k (n - k) P
  have ea := end_app M.pk k (n - k) P
  rw [hnk] at ra ea
  have hadd : binD .Add (.list (rowsN M.pk P k)) (.list (rowsN M.pk (endN M.pk P k) (n - k))) = some (.list (rowsN M.pk P n)) := by
    have : (rowsN M.pk P k).length + (rowsN M.pk (endN M.pk P k) (n - k)).length ≤ 1000 := by rw [rows_len, rows_len]; omega
    simp only [binD, this, if_true, ra]
  have ok1 := rows_okD ir hP.1 (n := n) (by omega)
  have ne1 : cmpD .NotEq (.list (rowsN M.pk P n)) (.list (rowsN M.pk P n)) = some false := by
    have := eq_self_d ok1 (.inr ⟨_, rfl⟩)
    simp only [cmpD] at this ⊢
    rw [this]; rfl
  have ne2 : cmpD .NotEq (.int (endN M.pk P n)) (.int (endN (M.pk) (endN M.pk P k) (n - k))) = some false := by
    rw [← ea]; simp [cmpD, eqD]
  have rl : (rowsN M.pk P n).length ≤ 1000 := by rw [rows_len]; omega
  have hne : ∀ i : Int, cmpD .NotEq (.int i) (.int i) = some false := fun i => by simp [cmpD, eqD]
  unfold f34
  conv => arg 1; intro ρ'; arg 1; lhs; arg 2; whnf
  simp +decide only [List.take_succ_cons, List.take_zero, ss_cons, ss_nil, s_unp, e_call, evL, e_name, e_bin, bin_ii, binI, setR_lookup, h.feed, h.place, h.memory, h.many, h.way, h.further, h.cut, Option.map_some, Option.bind_some, if_true, if_false, c1, c2, c3, valL, tgt, namesOf, itemsD, List.map, List.length_cons, List.length_nil, setRs2]
  simp +decide only [ss_cons, ss_nil, s_if, t_bo, evBo, t_cmp, evCmp, e_name, e_bin, setR_lookup, h.feed, h.place, h.memory, h.many, h.way, h.further, h.cut, Option.map_some, Option.bind_some, if_true, if_false, valL, hadd, ne1, ne2, s_asg_name, stepX, s_for, it_en, it_tn, it_nn, it_nc, i_name, rl]
  refine loop_post (fun (o : SRes) => ∃ ρ', o = some (.next, ρ', [s₀, .mem M]) ∧ LM ρ' (rowsN M.pk P n) (rowsN M.pk Q n)) (fun i ρ σ => LK ρ P n W Q k ∧ ρ.lookup (Str.ofString "rows") = some (.d (.list (rowsN M.pk P n))) ∧ ρ.lookup (Str.ofString "end") = some (.d (.int (endN M.pk P n))) ∧ ρ.lookup (Str.ofString "at") = some (.d (.int (endN M.pk P i))) ∧ σ = [s₀, .mem M]) ?_ ?_ ?_
  · rintro i d ρ σ hd ⟨h, r1, r2, r3, rfl⟩
    have hi : i < n := by
      have := (List.getElem?_eq_some_iff.mp hd).1
      rwa [rows_len] at this
    have hde : d = .tuple [.int (endN M.pk P i), .str (tx M.pk (endN M.pk P i))] := by
      have := rows_at M.pk n P i hi
      rw [this] at hd; exact (Option.some.inj hd).symm
    subst hde
    have er := end_range ir hP.1 i (by omega)
    have sm : small2 (endN M.pk P i) = true := by unfold small2; simp; omega
    have cd := call_disW (M := M) (s₀ := s₀) sm
    have ca := call_alone (M := M) (s₀ := s₀) (a := endN M.pk P i) hl (by omega) (by omega)
    have cm := call_moved (M := M) (s₀ := s₀) (a := endN M.pk P i) (w := W) hl (by omega) (by omega) hW.1 hW.2
    have nes : ∀ x : Str, cmpD .NotEq (.str x) (.str x) = some false := fun x => by simp [cmpD, eqD]
    have es := end_snoc M.pk i P
    refine ⟨setR (setR ρ (Str.ofString "told") (.d (.int (endN M.pk P i)))) (Str.ofString "text") (.d (.str (tx M.pk (endN M.pk P i)))),
      setR (setR (setR (setR (setR ρ (Str.ofString "told") (.d (.int (endN M.pk P i)))) (Str.ofString "text") (.d (.str (tx M.pk (endN M.pk P i))))) (Str.ofString "shown") (.d (.str (tx M.pk (endN M.pk P i))))) (Str.ofString "size") (.d (.int (Int.ofNat (sz M.pk (endN M.pk P i)))))) (Str.ofString "at") (.d (.int (endN M.pk P (i + 1)))), [s₀, .mem M], ?_, ?_, ?_⟩
    · simp +decide only [tgt, namesOf, itemsD, Option.map_some, Option.bind_some, if_true, if_false, List.map, List.length_cons, List.length_nil, setRs2]
    · simp +decide only [ss_cons, ss_nil, s_unp, s_if, t_bo, evBo, t_cmp, t_not, t_call, evBool, evCmp, e_call, evL, e_name, e_bin, bin_ii, binI, setR_lookup, h.feed, h.place, h.memory, h.many, h.way, h.further, h.cut, r1, r2, r3, Option.map_some, Option.bind_some, if_true, if_false, valL, cd, ca, cm, disD, tgt, namesOf, itemsD, List.map, List.length_cons, List.length_nil, setRs2, hne, nes, s_asg_bin, stepX, es]
    · refine ⟨⟨?_, ?_, ?_, ?_, ?_, ?_, ?_⟩, ?_, ?_, ?_, rfl⟩
      all_goals simp +decide only [setR_lookup, if_true, if_false, h.feed, h.place, h.memory, h.many, h.way, h.further, h.cut, r1, r2]
  · refine ⟨⟨?_, ?_, ?_, ?_, ?_, ?_, ?_⟩, ?_, ?_, ?_, rfl⟩
    all_goals simp +decide only [setR_lookup, if_true, if_false, h.feed, h.place, h.memory, h.many, h.way, h.further, h.cut, endN]
  · rintro ρ' σ' ⟨h, r1, r2, r3, rfl⟩
    rw [rows_len] at r3
    simp +decide only [ss_cons, ss_nil, s_unp, s_if, t_cmp, evCmp, e_call, evL, e_name, r1, r2, r3, h.memory, h.further, h.many, hne, valL, Option.map_some, Option.bind_some, if_true, if_false, c4, tgt, namesOf, itemsD, List.map, List.length_cons, List.length_nil, setRs2]
    refine ⟨_, rfl, ⟨?_, ?_⟩⟩
    all_goals simp +decide only [setR_lookup, if_true, if_false, r1]
noncomputable def keysN (pk : Int → Int) : Int → Nat → List Int
  | _, 0 => []
  | a, n + 1 => a :: keysN pk (a + Int.ofNat (sz pk a)) n
theorem keys_len (pk : Int → Int) : ∀ (n : Nat) (a : Int), (keysN pk a n).length = n
  | 0, a => rfl
  | n + 1, a => by rw [keysN, List.length_cons, keys_len pk n]
theorem find_keys (pk : Int → Int) {x : Int} : ∀ {n : Nat} {a : Int}, x ∈ keysN pk a n → ∃ i, findI x (keysN pk a n) = some i ∧ i < n ∧ endN pk a i = x
  | 0, a, h => by cases h
  | n + 1, a, h => by
    by_cases e : a = x
    · exact ⟨0, by simp [keysN, findI, e], by omega, by simp [endN, e]⟩
    · have h' : x ∈ keysN pk (a + Int.ofNat (sz pk a)) n := by
        rcases List.mem_cons.mp h with q | q
        · exact absurd q.symm e
        · exact q
      obtain ⟨i, h1, h2, h3⟩ := find_keys pk h'
      exact ⟨i + 1, by simp only [keysN, findI, e, if_false, h1, Option.map_some], by omega, h3⟩
theorem rows_drop (pk : Int → Int) (a : Int) {n i : Nat} (h : i ≤ n) : (rowsN pk a n).drop i = rowsN pk (endN pk a i) (n - i) := by
  have e : i + (n - i) = n := by omega
  rw [← e, rows_app, e]
  have := rows_len pk i a
  rw [List.drop_append_of_le_length (by omega), List.drop_of_length_le (by omega)]
  rfl
theorem rows_take (pk : Int → Int) (a : Int) {n k : Nat} (h : k ≤ n) : (rowsN pk a n).take k = rowsN pk a k := by
  have e : k + (n - k) = n := by omega
  rw [← e, rows_app]
  have := rows_len pk k a
  rw [List.take_append_of_le_length (by omega), List.take_of_length_le (by omega)]
theorem lookup_filter' {β : Type} (g : Str → Bool) : ∀ (l : List (Str × β)) (x : Str), (l.filter fun q => g q.1).lookup x = if g x then l.lookup x else none
  | [], x => by simp
  | (a, b) :: l, x => by
    have ih := lookup_filter' g l x
    simp only [List.filter_cons, lk]
    by_cases hx : x = a
    · subst hx
      by_cases hg : g x = true
      · simp [hg, lk]
      · simp only [hg, Bool.false_eq_true, if_false, if_true] at ih ⊢
        simpa [hg] using ih
    · by_cases hg : g a = true
      · simp only [hg, if_true, lk, hx, if_false]; exact ih
      · simp only [hg, Bool.false_eq_true, if_false, hx]; exact ih
theorem restR_lookup (scope : Scope) (ρ : Rho) (x : Str) : (restR scope ρ).lookup x = if decide (scope.names.lookup x = some .free) then ρ.lookup x else none := lookup_filter' (fun n => decide (scope.names.lookup n = some .free)) ρ x
theorem intsD_map : ∀ l : List Int, intsD (l.map .int) = some l
  | [] => rfl
  | a :: l => by simp [intsD, intsD_map l]
theorem slice_lo {ds : List Dat} (h : ds.length ≤ 1000) {i : Nat} (hi : i ≤ ds.length) : sliceD (.list ds) (.int (Int.ofNat i)) .none .none = some (ds.drop i) := by
  have a1 : ¬ ((Int.ofNat i) < 0) := by simp only [Int.ofNat_eq_natCast]; omega
  have a2 : (Int.ofNat i).toNat = i := by simp
  have a3 : min i ds.length = i := by omega
  simp only [sliceD, h, decide_true, if_true, partD, Option.bind_some, Option.map_some, kmsD, kms_lo, kms_hi, a1, if_false, a2, a3]
  congr 1
  exact List.take_of_length_le (by simp)
theorem slice_hi {ds : List Dat} (h : ds.length ≤ 1000) {i : Nat} (hi : i ≤ ds.length) : sliceD (.list ds) .none (.int (i : Int)) .none = some (ds.take i) := by
  have a1 : ¬ ((i : Int) < 0) := by omega
  have a2 : ((i : Int)).toNat = i := by simp
  have a3 : min i ds.length = i := by omega
  simp only [sliceD, h, decide_true, if_true, partD, Option.bind_some, Option.map_some, kmsD, kms_lo, kms_hi, a1, if_false, a2, a3, List.drop_zero, Nat.sub_zero]
theorem blt_min (a b : Int) : bltD "min" [.int a, .int b] = some (.int (if b < a then b else a)) := by simp +decide [bltD]
theorem law_e (pk : Int → Int) (ir : InR pk) {P Q : Int} {n : Nat} (hP : 0 ≤ P ∧ P < 64) (hQ : 0 ≤ Q ∧ Q < 100) (hn : n ≤ 8) {ρ : Rho} {σ : Sig} (hm : LM ρ (rowsN pk P n) (rowsN pk Q n)) (hp : ρ.lookup (Str.ofString "places") = some (.d (.list ((keysN pk P n).map .int)))) (hs : ρ.lookup (Str.ofString "starts") = some (.d (.list ((keysN pk Q n).map .int)))) :
    ∃ ρ', evSs f34 (body34.drop 14) ρ σ = some (.ret (.bool true), ρ', σ) := by
  have sl : ((keysN pk Q n).map Dat.int).length ≤ 1000 := by rw [List.length_map, keys_len]; omega
  unfold f34
  conv => arg 1; intro ρ'; lhs; arg 1; arg 3; whnf
  conv => arg 1; intro ρ'; lhs; arg 2; whnf
  simp +decide only [ss_cons, ss_nil, s_asg_lc, f_lct, i_name, e_name, hs, hp, hm.rows, hm.others, Option.map_some, Option.bind_some, if_true, if_false, sl, freesOk, List.all_cons, List.all_nil, lk, Option.isSome_some, Bool.and_true, Bool.true_and, Bool.and_self, Bool.or_true, Bool.true_or, Bool.or_false, decide_true, decide_false]
  rw [stateMap_some (g := fun d => if decide (vI d ∈ keysN pk P n) then [d] else []) (by
    intro d hd
    obtain ⟨v, _, rfl⟩ := List.mem_map.mp hd
    have mk := memD_ints v (keysN pk P n)
    simp +decide only [t_cmp, evCmp, e_name, lk, restR_lookup, hp, Option.map_some, Option.bind_some, if_true, if_false, valL, cmp_inl, mk, vI]
    by_cases q : v ∈ keysN pk P n
    · simp only [q, decide_true, if_true]
    · simp only [q, decide_false, Bool.false_eq_true, if_false])]
  obtain ⟨L, hL⟩ : ∃ L : List Int, L = (keysN pk Q n).filter (fun v => decide (v ∈ keysN pk P n)) := ⟨_, rfl⟩
  have hmet : ((keysN pk Q n).map Dat.int).flatMap (fun d => if decide (vI d ∈ keysN pk P n) then [d] else []) = L.map .int := by
    rw [hL]
    generalize keysN pk Q n = l
    induction l with
    | nil => rfl
    | cons v r ih =>
      simp only [List.map_cons, List.flatMap_cons, List.filter_cons, ih, show vI (Dat.int v) = v from rfl]
      by_cases q : v ∈ keysN pk P n
      · simp only [q, decide_true, if_true, List.map_cons, List.cons_append, List.nil_append]
      · simp only [q, decide_false, Bool.false_eq_true, if_false, List.nil_append]
  rw [hmet]
  have okI : okD (.list (L.map .int)) = true := by simp [okD, kqdOk, List.all_eq_true]
  have cE : cmpD .Eq (.list (L.map .int)) (.list []) = some (beqDs (L.map .int) []) := by
    simp only [cmpD, eqD, okI, Bool.true_and]; rfl
  have hne : ∀ x : Str, x ≠ Str.ofString "met" → (setR ρ (Str.ofString "met") (.d (.list (L.map .int)))).lookup x = ρ.lookup x := fun x hx => by rw [setR_lookup, if_neg hx]
  cases L with
  | nil =>
    simp +decide only [ss_cons, ss_nil, s_if, s_ret, t_cmp, evCmp, e_name, e_list, e_bool, f_list, evL, frzL, setR_lookup, Option.map_some, Option.bind_some, if_true, if_false, valL, cE, List.map, beqDs, frz, List.length_nil]
    exact ⟨_, rfl⟩
  | cons x r =>
    have cE' : cmpD .Eq (.list ((x :: r).map .int)) (.list []) = some false := cE.trans rfl
    have hx : x ∈ keysN pk Q n ∧ x ∈ keysN pk P n := by
      have : x ∈ (keysN pk Q n).filter (fun v => decide (v ∈ keysN pk P n)) := by rw [← hL]; exact .head _
      have q := List.mem_filter.mp this
      exact ⟨q.1, by simpa using q.2⟩
    obtain ⟨i, hi1, hi2, hi3⟩ := find_keys pk hx.2
    obtain ⟨j, hj1, hj2, hj3⟩ := find_keys pk hx.1
    have il := intsD_map (keysN pk P n)
    have jl := intsD_map (keysN pk Q n)
    have lp : (keysN pk P n).length ≤ 1000 := by rw [keys_len]; omega
    have lq : (keysN pk Q n).length ≤ 1000 := by rw [keys_len]; omega
    have rp : (rowsN pk P n).length ≤ 1000 := by rw [rows_len]; omega
    have rq : (rowsN pk Q n).length ≤ 1000 := by rw [rows_len]; omega
    have s1 := slice_lo rp (i := i) (by rw [rows_len]; omega)
    have s2 := slice_lo rq (i := j) (by rw [rows_len]; omega)
    rw [rows_drop pk P (by omega), hi3] at s1
    rw [rows_drop pk Q (by omega), hj3] at s2
    have m0 : idxD (.list ((x :: r).map .int)) (.int 0) = some (.int x) := by
      have hll : ((x :: r).map Dat.int).length ≤ 1000 := by
        have : (x :: r).length ≤ (keysN pk Q n).length := by rw [hL]; exact List.length_filter_le _ _
        rw [List.length_map]; omega
      have s0 : small 0 = true := by decide
      simp only [idxD, s0, hll, decide_true, Bool.and_self, if_true]
      simp [atI]
    obtain ⟨mn, hmn⟩ : ∃ mn : Nat, mn = min (n - i) (n - j) := ⟨_, rfl⟩
    have c1 := blt_len (ds := rowsN pk x (n - i)) (by rw [rows_len]; omega)
    have c2 := blt_len (ds := rowsN pk x (n - j)) (by rw [rows_len]; omega)
    rw [rows_len] at c1 c2
    have c3 : bltD "min" [.int ((n - i : Nat) : Int), .int ((n - j : Nat) : Int)] = some (.int (mn : Int)) := by
      rw [blt_min]
      congr 2
      split <;> omega
    have t1 := slice_hi (ds := rowsN pk x (n - i)) (i := mn) (by rw [rows_len]; omega) (by rw [rows_len]; omega)
    have t2 := slice_hi (ds := rowsN pk x (n - j)) (i := mn) (by rw [rows_len]; omega) (by rw [rows_len]; omega)
    rw [rows_take pk x (by omega)] at t1 t2
    have eP := end_range ir hP.1 i (by omega)
    have okx := rows_okD ir (a := x) (by omega) (n := mn) (by omega)
    have self := eq_self_d okx (.inr ⟨_, rfl⟩)
    simp +decide only [ss_cons, ss_nil, s_if, s_ret, s_swap, s_asg_call, namesOf, evXs, stepX, t_cmp, evCmp, e_cmp, e_call, e_name, e_list, e_bool, e_slice, e_index, e_sub_con, e_int, evO, stepOk, f_list, evL, frzL, setR_lookup, Option.map_some, Option.bind_some, if_true, if_false, valL, valsL, cE', frz, List.length_nil, List.length_cons, hm.rows, hm.others, hp, hs, il, jl, lp, lq, hi1, hj1, s1, s2, m0, setRs2, c1, c2, c3, t1, t2, self]
    exact ⟨_, rfl⟩
section
variable {prog : Program} {w : World} {K : Frag} {p : Program} {loose : List Str} {mg mb : Str → Option Value} {rk : Nat}
  {A : Around} {env : Env} {h₀ : Heap} {L : Addr} {m : Str → Option Value} {fro : List (Addr × Obj)} {ca : List Addr} {led : List (Addr × Obj)} {s : Shared} {sc : Scope} {ρ : Rho} {σ : Sig}
theorem cell_pair {R : Evs} (Sd : Sound prog w K p loose mg mb rk R) {x y : Str} {px py tp p' pos : Pos} {k k' : Nat} {e₁ e₂ : Expr} {d₁ d₂ : Dat} {c : Addr} {o : Obj} {v₀ : Option Value} {Q : Flow → Shared → Prop}
    (hx : env.kindOf x = some .cell) (hxd : (x == ("__debug__" : Str)) = false) (hxc : env.cells.lookup x = some c) (ho : o.data = .cell v₀) (hy : isLoc sc y = true) (hxy : y ≠ x)
    (hw : swappedStores [.Tuple [.Name x px, .Name y py] k tp] (.Tuple [e₁, e₂] k' p') env = pure none)
    (h1 : R.e sc ρ e₁ σ = some (.d d₁, σ)) (h2 : R.e sc ρ e₂ σ = some (.d d₂, σ))
    (act : Act K p loose mg mb A h₀ L rk) (S : SI h₀ L m [(c, o)] fro ca σ led s.heap) (R' : EnvF env sc L m ([(c, o)] ++ fro) fro ca ρ)
    (P : ∀ h' tk m' fro' led', (∀ q ∈ fro, q ∈ fro') → SI h₀ L m' [] fro' ca σ led' h' → EnvF env sc L m' ([] ++ fro') fro' ca ((x, .d d₁) :: setR ρ y (.d d₂)) → Q .next { s with heap := h', toks := tk }) :
    wpAny (model prog w) A (exec (.Assign [.Tuple [.Name x px, .Name y py] k tp] (.Tuple [e₁, e₂] k' p') pos) env) Q NoE s := by
  have eL := R'.L
  subst eL
  refine Assign_Tuple ?_ (sw_sole rfl _) hw
  have hL : evL (R.e sc ρ) [e₁, e₂] σ = some ([.d d₁, .d d₂], σ) := by simp only [evL, h1, h2, Option.bind_some]
  refine Tuple_ (items_ok (fun e σ r => Sd.e sc ρ e σ r) (fun v q σ => Sd.star sc ρ v q σ) hL act S R'.R fun vs h' tk fro' led' sub S' lv => ?_)
  cases lv with
  | @cons v₁ _ _ _ l1 lr =>
    cases lr with
    | @cons v₂ _ _ _ l2 lr =>
      cases lr
      cases l1 with
      | d hd1 =>
        cases l2 with
        | d hd2 =>
          refine newTuple_N S'.F S'.N (fun h'' F N => ?_) (by have := sizeLine_big; simp; omega)
          have S2 := S'.alloc F N S'.lt
          refine unpackN_ S2.F S2.N (S2.N.isTup (S2.all _ (.head _))) act.hh rfl rfl fun g F N => ?_
          have S3 := S2.at F N
          show wpAny _ A (do holding _ (assign (.Name x px) env v₁); assignInOrder _ _) _ _ _
          refine wpAny_bind (wpAny_holding (wpAny_assign_Name ?_))
          have hne : ∀ q ∈ led', q.1 ≠ c := fun q hq => S3.ap q hq (c, o) (.head _)
          have hnf : ∀ q ∈ (h'.objs.size, _) :: fro', q.1 ≠ c := fun q hq e => S3.ap2 (c, o) (.head _) q hq e.symm
          have hc := S3.N (c, o) (S3.inext _ (.head _))
          refine wpAny_storeName_cell R'.R.kind hx hxc ⟨o, hc.1, ho⟩ fun g' hv hs => ?_
          obtain ⟨o', ho', hd'⟩ := hv
          have N' := S3.N.setAt hne hnf hs ho'
          have S4 := S3.turnX (S3.F.change hs hc.2.1 hc.2.2) N'
          show wpAny _ A (do holding _ (assign (.Name y py) env v₂); assignInOrder _ _) _ _ _
          refine wpAny_bind (wpAny_holding (wpAny_assign_Name ?_))
          have hk : env.kindOf y = some .local := by
            show env.scope.names.lookup y = _
            rw [R'.sc]; exact loc_lookup hy
          refine wpAny_storeName_local hk S4.F.ns (fun h₅ hn hs₅ => ?_) (by rw [R'.R.kind]; rfl)
          have S5 := (S4.at (S4.F.set hn hs₅) (S4.N.set hs₅)).toFro (fun q hq => nomatch hq)
          refine wpAny_pure ?_
          refine P h₅ _ _ _ led' (fun q hq => .tail _ (.tail _ (sub q hq))) S5 ?_
          have R0 := (EnvF.narrow (its := [(c, o)]) (ext := []) R' (fun q hq => by rw [List.mem_singleton.mp hq]; exact hc.2.1)).mono (ext := []) (fro' := (c, o') :: (h'.objs.size, ({ cls := .type "tuple", data := .seq [v₁, v₂].toArray } : Obj)) :: fro') fun q hq => .tail _ (.tail _ (sub q hq))
          have R1 := R0.put hy (v := v₂) (.d (hd2.mono fun q hq => .tail _ (.tail _ hq)))
          refine ⟨⟨fun z lv e => ?_, R1.R.kind, R1.R.gl, R1.R.bl, R1.R.glob, R1.R.cell⟩, rfl, R'.sc⟩
          rw [lk] at e
          split at e
          · rename_i hz
            subst hz
            cases e
            exact ⟨v₁, ⟨hxd, .inr (.inr ⟨hx, c, o', hxc, .head _, hd'⟩)⟩, .d (hd1.mono fun q hq => .tail _ (.tail _ hq))⟩
          · exact R1.R.look z lv e
end
theorem swap_none {env : Env} {x y : Str} {px py tp p' : Pos} {k k' : Nat} {es : List Expr} (hx : env.kindOf x = some .cell) : swappedStores [.Tuple [.Name x px, .Name y py] k tp] (.Tuple es k' p') env = pure none := by
  unfold swappedStores
  simp only [List.length_cons, List.length_nil, List.filterMap_cons, List.filterMap_nil, hx]
  split
  · rfl
  · split
    · rfl
    · have e : ((some NameKind.cell == some NameKind.local) && px.line == ((List.head? [Expr.Name x px, Expr.Name y py]).map (·.pos.line)).getD 0) = false := rfl
      simp only [e, Bool.false_eq_true, if_false]
      split <;> rfl
noncomputable def pairsOf (sts : List Stmt) : Option (Expr × Expr) := match sts with
  | .Assign [.Tuple [.Name _ _, .Name _ _] _ _] (.Tuple [a, b] _ _) _ :: _ => some (a, b)
  | _ => none
theorem keys_rows (pk : Int → Int) : ∀ (n : Nat) (a : Int), (rowsN pk a n).flatMap (fun d => match d with | .tuple [d₁, _] => [d₁] | _ => []) = (keysN pk a n).map .int
  | 0, a => rfl
  | n + 1, a => by
    rw [rowsN, keysN, List.flatMap_cons, keys_rows pk n]; rfl
theorem rows_shape (pk : Int → Int) {n : Nat} {a : Int} {d : Dat} (h : d ∈ rowsN pk a n) : ∃ (i : Int) (x : Str), d = .tuple [.int i, .str x] := by
  obtain ⟨i, hi, e⟩ := List.getElem_of_mem h
  rw [rows_len] at hi
  have q := rows_at pk n a i hi
  rw [List.getElem?_eq_getElem (by rw [rows_len]; exact hi), e] at q
  cases q
  exact ⟨_, _, rfl⟩
theorem law_13 : ∃ px py tp p' pos k k' e₁ e₂, body34.drop 13 = .Assign [.Tuple [.Name (Str.ofString "places") px, .Name (Str.ofString "starts") py] k tp] (.Tuple [e₁, e₂] k' p') pos :: body34.drop 14 ∧
    (∀ (pk : Int → Int) (P Q : Int) (n : Nat) (ρ : Rho) (σ : Sig), n ≤ 8 → LM ρ (rowsN pk P n) (rowsN pk Q n) →
      (evAll GW 20).e (fnI 34).2.scope ρ e₁ σ = some (.d (.list ((keysN pk P n).map .int)), σ) ∧ (evAll GW 20).e (fnI 34).2.scope ρ e₂ σ = some (.d (.list ((keysN pk Q n).map .int)), σ)) := by
  refine ⟨_, _, _, _, _, _, _, _, _, rfl, ?_⟩
  intro pk P Q n ρ σ hn hm
  have key : ∀ (a : Int) (f : Dat → Sig → Option (List Dat × Sig)), (∀ i x, f (.tuple [.int i, .str x]) σ = some ([.int i], σ)) → stateMap f (rowsN pk a n) σ = some ((keysN pk a n).map .int, σ) := fun a f hf => by
    rw [stateMap_some (g := fun d => match d with | .tuple [d₁, _] => [d₁] | _ => []), keys_rows]
    intro d hd
    obtain ⟨i, x, rfl⟩ := rows_shape pk hd
    exact hf i x
  have l1 : (rowsN pk P n).length ≤ 1000 := by rw [rows_len]; omega
  have l2 : (rowsN pk Q n).length ≤ 1000 := by rw [rows_len]; omega
  refine ⟨?_, ?_⟩
  · simp +decide only [e_lc, f_lcp, i_name, e_name, hm.rows, l1, freesOk, List.all_cons, List.all_nil, lk, Option.isSome_some, Bool.and_true, Bool.true_and, Bool.and_self, Bool.or_true, Bool.true_or, Bool.or_false, decide_true, decide_false, Option.map_some, Option.bind_some, if_true, if_false]
    rw [key P _ (fun i x => by simp +decide only [e_name, lk, Option.map_some, Option.bind_some, if_true, if_false])]
    rfl
  · simp +decide only [e_lc, f_lcp, i_name, e_name, hm.others, l2, freesOk, List.all_cons, List.all_nil, lk, Option.isSome_some, Bool.and_true, Bool.true_and, Bool.and_self, Bool.or_true, Bool.true_or, Bool.or_false, decide_true, decide_false, Option.map_some, Option.bind_some, if_true, if_false]
    rw [key Q _ (fun i x => by simp +decide only [e_name, lk, Option.map_some, Option.bind_some, if_true, if_false])]
    rfl
theorem law_a2 (cells : List Dat) (hc : cells.all isI = true) (hcl : cells.length ≤ 100) (P C W F K : Int) (hP : P = nextV cells 0 64) (hC : C = nextV cells (0 + 1) 8) (hW : W = nextV cells (0 + 1 + 1) 64) (hF : F = nextV cells (0 + 1 + 1 + 1) 3) (hK : K = nextV cells (0 + 1 + 1 + 1 + 1) (1 + C + 1)) :
    evSs f34 ((body34.drop 1).take 2) [(Str.ofString "feed", .c 0)] [.lst [.list cells, .int 0]] = some (.next, [(Str.ofString "feed", .c 0), (Str.ofString "place", .d (.int P)), (Str.ofString "many", .d (.int (1 + C))), (Str.ofString "way", .d (.int W)), (Str.ofString "further", .d (.int (P + 1 + F))), (Str.ofString "cut", .d (.int K))], [.lst [.list cells, .int (0 + 1 + 1 + 1 + 1 + 1)]]) := by
  have n0 := call_next hc hcl (t := 0) (many := 64) (by omega) (by omega) (by omega)
  have n1 := call_next hc hcl (t := 0 + 1) (many := 8) (by omega) (by omega) (by omega)
  have n2 := call_next hc hcl (t := 0 + 1 + 1) (many := 64) (by omega) (by omega) (by omega)
  have n3 := call_next hc hcl (t := 0 + 1 + 1 + 1) (many := 3) (by omega) (by omega) (by omega)
  have rC := nextV_range cells (0 + 1) (many := 8) (by omega)
  rw [← hC] at rC n1
  have n4 := call_next hc hcl (t := 0 + 1 + 1 + 1 + 1) (many := 1 + C + 1) (by omega) (by omega) (by omega)
  rw [← hP] at n0
  rw [← hW] at n2
  rw [← hF] at n3
  rw [← hK] at n4
  unfold f34
  conv => lhs; arg 2; whnf
  simp +decide only [ss_cons, ss_nil, s_swap, namesOf, Option.map_some, Option.bind_some, stepX, evL, e_name, e_int, lk, valL, frz, frzL, if_true, if_false, List.length_cons, List.length_nil, sr, sr0, evXs, e_call, e_bin, bin_ii, binI, n0, n1, n2, n3, n4, setRs, List.nil_append, List.cons_append, List.take_succ_cons, List.take_zero]
noncomputable def ro6 (P C W F K : Int) : Rho := [(Str.ofString "feed", .c 0), (Str.ofString "place", .d (.int P)), (Str.ofString "many", .d (.int (1 + C))), (Str.ofString "way", .d (.int W)), (Str.ofString "further", .d (.int (P + 1 + F))), (Str.ofString "cut", .d (.int K))]
theorem law_b2 (cells : List Dat) (P C W F K t : Int) : evSs f34 ((body34.drop 3).take 1) (ro6 P C W F K) [.lst [.list cells, .int t]] = some (.next, ro6 P C W F K ++ [(Str.ofString "memory", .c 1)], [.lst [.list cells, .int t], .lst memL]) := by kernel_rfl
theorem evSs_app {f : Rho → Sig → Stmt → SRes} {b : List Stmt} : ∀ {a : List Stmt} {ρ ρ₁ : Rho} {σ σ₁ : Sig}, evSs f a ρ σ = some (.next, ρ₁, σ₁) → evSs f (a ++ b) ρ σ = evSs f b ρ₁ σ₁
  | [], ρ, ρ₁, σ, σ₁, h => by
    simp only [evSs, Option.some.injEq, Prod.mk.injEq] at h
    obtain ⟨_, rfl, rfl⟩ := h
    rfl
  | s :: a, ρ, ρ₁, σ, σ₁, h => by
    simp only [evSs, Option.bind_eq_some_iff] at h
    obtain ⟨⟨fl, ρ₂, σ₂⟩, h1, h2⟩ := h
    simp only [List.cons_append, evSs, h1, Option.bind_some]
    cases fl with
    | next => exact evSs_app h2
    | ret x => simp at h2
theorem cut_take {α : Type} (l : List α) (i j k : Nat) : (l.drop i).take (j + k) = (l.drop i).take j ++ (l.drop (i + j)).take k := by
  rw [List.take_add, List.drop_drop]
theorem law_pre (cells : List Dat) (hc : cells.all isI = true) (hcl : cells.length ≤ 100) : ∃ (ρ' : Rho) (s₀ : Cell) (M : Mem) (P Q : Int) (n : Nat),
    evSs f34 ((body34.drop 1).take 12) [(Str.ofString "feed", .c 0)] [.lst [.list cells, .int 0]] = some (.next, ρ', [s₀, .mem M]) ∧ LM ρ' (rowsN M.pk P n) (rowsN M.pk Q n) ∧ (0 ≤ P ∧ P < 64) ∧ (0 ≤ Q ∧ Q < 100) ∧ n ≤ 8 := by
  obtain ⟨P, hP⟩ : ∃ P, P = nextV cells 0 64 := ⟨_, rfl⟩
  obtain ⟨C, hC⟩ : ∃ C, C = nextV cells (0 + 1) 8 := ⟨_, rfl⟩
  obtain ⟨W, hW⟩ : ∃ W, W = nextV cells (0 + 1 + 1) 64 := ⟨_, rfl⟩
  obtain ⟨F, hF⟩ : ∃ F, F = nextV cells (0 + 1 + 1 + 1) 3 := ⟨_, rfl⟩
  obtain ⟨K, hK⟩ : ∃ K, K = nextV cells (0 + 1 + 1 + 1 + 1) (1 + C + 1) := ⟨_, rfl⟩
  have rP := nextV_range cells 0 (many := 64) (by omega)
  have rC := nextV_range cells (0 + 1) (many := 8) (by omega)
  have rW := nextV_range cells (0 + 1 + 1) (many := 64) (by omega)
  have rF := nextV_range cells (0 + 1 + 1 + 1) (many := 3) (by omega)
  rw [← hP] at rP
  rw [← hC] at rC
  rw [← hW] at rW
  rw [← hF] at rF
  have rK := nextV_range cells (0 + 1 + 1 + 1 + 1) (many := 1 + C + 1) (by omega)
  rw [← hK] at rK
  obtain ⟨n, hn⟩ : ∃ n : Nat, (n : Int) = 1 + C := ⟨(1 + C).toNat, by omega⟩
  obtain ⟨k, hk⟩ : ∃ k : Nat, (k : Int) = K := ⟨K.toNat, by omega⟩
  have s1 := law_a2 cells hc hcl P C W F K hP hC hW hF hK
  have s2 := law_b2 cells P C W F K (0 + 1 + 1 + 1 + 1 + 1)
  have h0 : LK (ro6 P C W F K ++ [(Str.ofString "memory", .c 1)]) P n W (P + 1 + F) k := by
    rw [hn, hk]
    refine ⟨?_, ?_, ?_, ?_, ?_, ?_, ?_⟩
    all_goals simp +decide only [ro6, List.cons_append, List.nil_append, lk, if_true, if_false]
  obtain ⟨ρ₂, l, t, s3, h1, hg, hl⟩ := law_c cells hc hcl h0 _ rfl
  obtain ⟨ρ₃, s4, h2⟩ := law_d ⟨l, hg⟩ hl h1 (.lst [.list cells, .int t]) rP (by omega) (by omega) rW (by omega)
  refine ⟨ρ₃, .lst [.list cells, .int t], ⟨l, hg⟩, P, P + 1 + F, n, ?_, h2, rP, by omega, by omega⟩
  have c1 : (body34.drop 1).take 12 = (body34.drop 1).take 2 ++ ((body34.drop 3).take 1 ++ ((body34.drop 4).take 1 ++ (body34.drop 5).take 8)) := by
    rw [← cut_take body34 4 1 8, ← cut_take body34 3 1 9, ← cut_take body34 1 2 10]
  rw [c1]
  exact (evSs_app s1).trans ((evSs_app s2).trans ((evSs_app s3).trans s4))
section
variable {prog : Program} {w : World} {K : Frag} {p : Program} {loose : List Str} {mg mb : Str → Option Value} {rk : Nat}
  {A : Around} {env : Env} {h₀ : Heap} {L : Addr} {m : Str → Option Value} {ext fro : List (Addr × Obj)} {ca : List Addr} {led : List (Addr × Obj)} {s : Shared} {sc : Scope} {ρ : Rho} {σ : Sig}
theorem ss_pre {f : Rho → Sig → Stmt → SRes} (H : ∀ ρ σ st r, f ρ σ st = some r → SOK prog w K p loose mg mb rk sc ρ σ st r) {post : List Stmt} {Q : Flow → Shared → Prop} : ∀ (pre : List Stmt) {ρ ρ₁ : Rho} {σ σ₁ : Sig} {m : Str → Option Value} {fro : List (Addr × Obj)} {ca : List Addr} {led : List (Addr × Obj)} {s : Shared}, evSs f pre ρ σ = some (.next, ρ₁, σ₁) →
    Act K p loose mg mb A h₀ L rk → SI h₀ L m ext fro ca σ led s.heap → EnvF env sc L m (ext ++ fro) fro ca ρ →
    (∀ h' tk m' fro' more led', (∀ q ∈ fro, q ∈ fro') → SI h₀ L m' ext fro' (ca ++ more) σ₁ led' h' → EnvF env sc L m' (ext ++ fro') fro' (ca ++ more) ρ₁ → wpAny (model prog w) A (execs post env) Q NoE { s with heap := h', toks := tk }) →
    wpAny (model prog w) A (execs (pre ++ post) env) Q NoE s := by
  intro pre
  induction pre with
  | nil =>
    intro ρ ρ₁ σ σ₁ m fro ca led s e act S R P
    simp only [evSs, Option.some.injEq, Prod.mk.injEq] at e
    obtain ⟨_, rfl, rfl⟩ := e
    exact P s.heap s.toks m fro [] led sub_refl (by simpa using S) (by simpa using R)
  | cons st pre ih =>
    intro ρ ρ₁ σ σ₁ m fro ca led s e act S R P
    simp only [evSs, Option.bind_eq_some_iff] at e
    obtain ⟨⟨fl', ρ₂, σ₂⟩, e1, e2⟩ := e
    refine wpAny_execs_cons (H _ _ _ _ e1 act S R fun f h' tk m' fro' more led' sub S' R' hf => ?_)
    cases fl' with
    | next =>
      cases hf
      simp only at e2
      refine ih e2 act S' R' fun h'' tk' m'' fro'' more' led'' sub' S'' R'' => ?_
      rw [List.append_assoc] at S'' R''
      exact P h'' tk' m'' fro'' (more ++ more') led'' (fun q hq => sub' q (sub q hq)) S'' R''
    | ret x => simp at e2
theorem ints_dat {vs : List Value} {ns : List Int} (h : IntsAre vs ns) (fro : List (Addr × Obj)) : DatAll fro vs (ns.map .int) := by
  induction h with
  | nil => exact .nil
  | cons n t _ ih => exact .cons (.int n t) ih
end
theorem law_tail {w : World} {prog : Program} {p : Program} {loose : List Str} {mg mb : Str → Option Value} {A : Around} {env : Env} {h₀ : Heap} {L : Addr} {m : Str → Option Value} {c : Addr} {o : Obj} {v₀ : Option Value} {fro : List (Addr × Obj)} {ca : List Addr} {led : List (Addr × Obj)} {s : Shared} {Q : Flow → Shared → Prop} {ns : List Int}
    (hn : ns.length ≤ 100) (hx : env.kindOf (Str.ofString "places") = some .cell) (hxc : env.cells.lookup (Str.ofString "places") = some c) (ho : o.data = .cell v₀)
    (act : Act (KH w) p loose mg mb A h₀ L 11) (S : SI h₀ L m [(c, o)] fro ca [.lst [.list (ns.map .int), .int 0]] led s.heap) (R : EnvF env (fnI 34).2.scope L m ([(c, o)] ++ fro) fro ca [(Str.ofString "feed", .c 0)])
    (P : ∀ h' tk m', Fr h₀ L h' m' → Q (.ret (.bool true)) { s with heap := h', toks := tk }) :
    wpAny (model prog w) A (execs (body34.drop 1) env) Q NoE s := by
  have H : ∀ ρ σ st r, f34 ρ σ st = some r → SOK prog w (KH w) p loose mg mb 11 (fnI 34).2.scope ρ σ st r := evS_ok gok_W (blt_K w) 60
  have Sd : Sound prog w (KH w) p loose mg mb 11 (evAll GW 20) := evAll_ok gok_W (blt_K w) 20
  obtain ⟨ρ₁, s₀, M, P0, Q0, n, e1, hm, rP, rQ, hn8⟩ := law_pre (ns.map .int) (by simp [List.all_eq_true, isI]) (by simpa using hn)
  obtain ⟨px, py, tp, p', pos, k, k', e₁, e₂, hb, hv⟩ := law_13
  obtain ⟨hv1, hv2⟩ := hv M.pk P0 Q0 n ρ₁ [s₀, .mem M] hn8 hm
  have split : body34.drop 1 = (body34.drop 1).take 12 ++ body34.drop 13 := by
    rw [← List.drop_drop (i := 12) (j := 1), List.take_append_drop]
  rw [split]
  refine ss_pre H _ e1 act S R fun h' tk m' fro' more led' sub S' R' => ?_
  rw [hb]
  refine wpAny_execs_cons ?_
  refine cell_pair (s := { s with heap := h', toks := tk }) Sd hx rfl hxc ho (by kernel_rfl) (by decide) (swap_none hx) hv1 hv2 act S' R' fun h₂ tk₂ m₂ fro₂ led₂ sub₂ S₂ R₂ => ?_
  have look : ∀ x, x ≠ Str.ofString "places" → x ≠ Str.ofString "starts" → ((Str.ofString "places", LV.d (.list ((keysN M.pk P0 n).map .int))) :: setR ρ₁ (Str.ofString "starts") (.d (.list ((keysN M.pk Q0 n).map .int)))).lookup x = ρ₁.lookup x := fun x h1 h2 => by
    rw [lk, if_neg h1, setR_lookup, if_neg h2]
  obtain ⟨ρ₃, e3⟩ := law_e M.pk (inR M) rP rQ hn8 (ρ := (Str.ofString "places", LV.d (.list ((keysN M.pk P0 n).map .int))) :: setR ρ₁ (Str.ofString "starts") (.d (.list ((keysN M.pk Q0 n).map .int)))) (σ := [s₀, .mem M])
    ⟨by rw [look _ (by decide) (by decide)]; exact hm.rows, by rw [look _ (by decide) (by decide)]; exact hm.others⟩ (by rw [lk, if_pos rfl]) (by rw [lk, if_neg (by decide), setR_lookup, if_pos rfl])
  refine ss_ok H _ _ _ _ e3 act (s := { s with heap := h₂, toks := tk₂ }) S₂ R₂ fun f h₃ tk₃ m₃ fro₃ more₃ led₃ sub₃ S₃ R₃ hf => ?_
  cases hf with
  | ret hd => cases hd; exact P h₃ tk₃ m₃ S₃.F
theorem law_0 : ∃ fp sp k cp slp sbp k2 cp2 lp ap, body34 = .Assign [.Name (Str.ofString "feed") fp] (.List [.Subscript (.Name (Str.ofString "script") sp) (.Slice none (some (.Constant (.int 40) k cp)) none slp) sbp, .Constant (.int 0) k2 cp2] lp) ap :: body34.drop 1 :=
  ⟨_, _, _, _, _, _, _, _, _, _, rfl⟩
theorem pick40 (vs : List Value) : kms_pick vs none (some 40) = vs.take 40 := by
  have a1 : ¬ ((40 : Int) < 0) := by omega
  have a2 : (40 : Int).toNat = 40 := rfl
  simp only [kms_pick, kms_lo, kms_hi, a1, if_false, a2, List.drop_zero, Nat.sub_zero]
  by_cases q : vs.length ≤ 40
  · rw [Nat.min_eq_right q, List.take_of_length_le (Nat.le_refl _), List.take_of_length_le q]
  · rw [Nat.min_eq_left (by omega)]
theorem ints_take {vs : List Value} {ns : List Int} (h : IntsAre vs ns) : ∀ k, IntsAre (vs.take k) (ns.take k) := by
  induction h with
  | nil => intro k; cases k <;> exact .nil
  | cons n t _ ih => intro k; cases k with
    | zero => exact .nil
    | succ k => exact .cons n t (ih k)
theorem ints_len {vs : List Value} {ns : List Int} (h : IntsAre vs ns) : vs.length = ns.length := by
  induction h with
  | nil => rfl
  | cons n t _ ih => simp [ih]
theorem law_body {w : World} {prog : Program} {p : Program} {loose : List Str} {mg mb : Str → Option Value} {A : Around} {env : Env} {h₀ : Heap} {L : Addr} {m : Str → Option Value} {c : Addr} {o : Obj} {v₀ : Option Value} {s : Shared} {Q : Flow → Shared → Prop} {a : Addr} {vs : List Value} {ns : List Int}
    (hn : ns.length ≤ 63) (hL : h₀.IsList a vs.toArray) (hI : IntsAre vs ns) (hms : m (Str.ofString "script") = some (.ref a)) (hx : env.kindOf (Str.ofString "places") = some .cell) (hxc : env.cells.lookup (Str.ofString "places") = some c) (ho : o.data = .cell v₀)
    (act : Act (KH w) p loose mg mb A h₀ L 11) (S : SI h₀ L m [(c, o)] [] [] [] [] s.heap) (R : EnvF env (fnI 34).2.scope L m ([(c, o)] ++ []) [] [] [])
    (P : ∀ h' tk m', Fr h₀ L h' m' → Q (.ret (.bool true)) { s with heap := h', toks := tk }) :
    wpAny (model prog w) A (execs body34 env) Q NoE s := by
  obtain ⟨fp, sp, k, cp, slp, sbp, k2, cp2, lp, ap, hb⟩ := law_0
  rw [hb]
  have eL := R.L
  subst eL
  have hk : env.kindOf (Str.ofString "script") = some .local := by
    show env.scope.names.lookup _ = _
    rw [R.sc]; kernel_rfl
  have hf : isLoc (fnI 34).2.scope (Str.ofString "feed") = true := by kernel_rfl
  have len := ints_len hI
  refine wpAny_execs_cons (wpAny_Assign_Name (List_ (wpAny_items_cons (Subscript_ (wpAny_Name (wpAny_loadName_local R.R.kind hk S.F.ns hms (wpAny_Slice (wpAny_evalPart_none (wpAny_evalPart_some (wpAny_Constant_int (wpAny_evalPart_none ?_)))))) rfl)))) (by rfl))
  refine kms_slice_lit (s := { s with toks := _ }) S.F S.N (hL.at fun o e => S.F.keep _ _ e) .none (.int 40 _) (zs := vs.take 40) (pick40 vs) (fun D h' F N hlt => ?_) rfl (fun _ => rfl) (by simp only [List.size_toArray]; have := sizeLine_big; omega)
  have S1 := S.alloc F N hlt
  refine wpAny_items_cons (wpAny_Constant_int (wpAny_items_nil ?_))
  refine newList_N (s := { s with heap := h', toks := _ }) S1.F S1.N (fun h'' F N => ?_) (by have := sizeLine_big; simp; omega)
  have S2 := S1.fresh F N S1.lt
  have S3 := S2.toCell (vs := [.ref D, .int 0 _]) (ds := [.list ((ns.take 40).map .int), .int 0]) (.cons (.list (n := 0) (.head _) (ints_dat (ints_take hI 40) _)) (.cons (.int 0 _) .nil)) (fun q hq => by
    rw [List.mem_singleton.mp hq]; exact Nat.ne_of_lt (S1.lt (c, o) (S1.inext _ (.head _))))
  have R1 : EnvF env (fnI 34).2.scope env.locals m ([(c, o)] ++ [(D, W.listOf (vs.take 40).toArray 0)]) [(D, W.listOf (vs.take 40).toArray 0)] ([] ++ [h'.objs.size]) [] := (R.mono fun q hq => nomatch hq).grow
  refine store_ok (s := { s with heap := h'', toks := _ }) S3 R1 hf fun h₃ tk₃ S₄ => ?_
  exact law_tail (s := { s with heap := h₃, toks := tk₃ }) (ns := ns.take 40) (by rw [List.length_take]; omega) hx hxc ho act S₄ (R1.put hf (.c rfl)) P
theorem law_head {w : World} {prog p : Program} {loose : List Str} {mean : ExcName → Option Value} {mg mb : Str → Option Value} {name : Str} {fa : Addr} {cd : Value} {s₁ : Shared} {h₁ : Heap} {tk₁ : Nat} {m : Str → Option Value} {o : Obj} {v₀ : Option Value} {a : Addr} {vs : List Value} {ns : List Int} {Q : Flow → Shared → Prop} {E : Value → Shared → Prop}
    (KX : (KH w).In s₁.heap) (T : Top p loose mean mg mb s₁.heap) (F : Fr s₁.heap s₁.heap.objs.size h₁ m) (N : News s₁.heap s₁.heap.objs.size h₁ [(s₁.heap.objs.size + 1, o)]) (hms : m (Str.ofString "script") = some (.ref a)) (ho : o.data = .cell v₀)
    (hL : s₁.heap.IsList a vs.toArray) (hI : IntsAre vs ns) (hn : ns.length ≤ 63)
    (P : ∀ h' tk, (∀ b o, s₁.heap.get? b = some o → h'.get? b = some o) → Q (.ret (.bool true)) { heap := h', gens := s₁.gens, drawn := s₁.drawn, toks := tk, os := s₁.os }) :
    wpAny (model prog w) (callerA.deeper (envOfC name (fnI 34).2.scope s₁.heap.objs.size fa cd)) (execs body34 (envOfC name (fnI 34).2.scope s₁.heap.objs.size fa cd)) Q E { heap := h₁, gens := s₁.gens, drawn := s₁.drawn, toks := tk₁, os := s₁.os } := by
  have act : Act (KH w) p loose mg mb (callerA.deeper (envOfC name (fnI 34).2.scope s₁.heap.objs.size fa cd)) s₁.heap s₁.heap.objs.size 11 := by
    refine ⟨⟨callerA, s₁.heap, [], envOfC name (fnI 34).2.scope s₁.heap.objs.size fa cd, below_caller _, rfl, rfl, by kernel_rfl⟩, KX, topRead_of T, rfl, ?_, ?_, rfl⟩
    · show 1 + claimMargin + 1 + (11 + 2) ≤ 900
      decide +kernel
    · show 4 + _ + (5 * 11 + 200) ≤ 9000
      decide +kernel
  refine wpAny_mono (law_body (s := { heap := h₁, gens := s₁.gens, drawn := s₁.drawn, toks := tk₁, os := s₁.os }) (Q := Q) hn hL hI hms (c := s₁.heap.objs.size + 1) ?_ ?_ ho act ⟨F, N, .nil, List.nodup_nil, fun q hq => (nomatch hq), fun _ _ q hq => (nomatch hq)⟩ ⟨⟨fun x lv e => ?_, by kernel_rfl, rfl, rfl, fun x e => e, fun x e => e⟩, rfl, rfl⟩ fun h' tk m' F' => P h' tk F'.keep) (fun _ _ h => h) (fun _ _ h => h.elim)
  · show (fnI 34).2.scope.names.lookup _ = _
    kernel_rfl
  · show (cellsFrom (s₁.heap.objs.size + 1) (fnI 34).2.scope.names []).lookup _ = _
    kernel_rfl
  · cases e
end Mine
theorem PySem.Challenge.cw_sa0632_01_holds : PySem.Challenge.rw_sa0632_01.Holds := by
  w_on
  refine holds_law Mine.said fun said => ?_
  refine holds_open (q := Mine.vw) (loose := []) (Xt := fun s => xlAt Mine.vw [] s && recOk (RowW.records (OpenRow.toRowW PySem.Challenge.rw_sa0632_01.row)) s) (XP := XL Mine.vw []) (Yf := Hook.obs Mine.hk) (Ya := Hook.val Mine.hk) (YP := Hook.says Mine.hk) (N := 2192) Mine.leftT (Hook.of Mine.hk) (Hook.keeps Mine.hk) (fun s e => xl_of s (Bool.and_eq_true_iff.mp e).1) XL.keeps (by rfl) (by rfl) (by rfl) (fun s e => recFacts_of (Bool.and_eq_true_iff.mp e).2) (by rfl) said (by decide +kernel) ⟨rfl, rfl, rfl, rfl, rfl, by decide +kernel⟩ ?hw ?hc
  case hw => w_witness2
  intro w s₀ s₁ mg mb G Y fa o pm cd doc dV kV ho hd hcd hD hmg hg args vals as hpre hlay hrd hwl hlo
  have KX := kIn_of Y
  refine Ground.open G ?_
  intro T B D TE TW
  try (refine guard_noD D (by decide +kernel) ?_; clear D)
  obtain ⟨_, _, M⟩ := bmod_of_top T
  try (obtain ⟨_, _, he, B0⟩ := based_of_top T rfl hmg ho hd; have he' : cd = _ := he; subst he'; clear he)
  clear hmg
  wrow_args hpre hlay hrd hwl hlo
  all_goals
    refine enter_call ?_
    w_top on
    try refine codeAny_mono ?_ (fun _ _ g => GoodW.toG g)
    have K0 := below_caller (Top.heap T)
    w_call any ho hd hcd hD T F
    clear hd
    k_drop
  (all_goals try k_fold)
  rename Heap.IsList _ _ _ => hL
  rename IntsAre _ _ => hI
  rename Frag.In _ _ => KX
  rename Fr _ _ _ _ => F
  rename News _ _ _ _ => N
  rename Obj.data _ = _ => ho
  rename ¬ _ => hn
  refine Mine.law_head KX T F N ?_ ho hL hI (by omega) ?_
  · kernel_rfl
  · intro h' tk hk
    exact ⟨.inl ⟨_, .bool true, [], rfl, fun _ => rfl, .bool _, by kernel_rfl, fun _ => ⟨List.nodup_nil, fun _ h => nomatch h⟩⟩, hk, rfl, hg⟩

