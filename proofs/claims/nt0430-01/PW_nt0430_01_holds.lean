import PyProof.Rows.All
import Wide.All
import OpenK.AllK
import Wide.FinOn
import PySem.Challenge.RW_nt0430_01
open PySem PySem.W PyProof.Rows
set_option Elab.async false
set_option linter.all false
set_option maxRecDepth 100000
set_option maxHeartbeats 8000000
namespace Mine

/-- plain data -/
inductive D where
  | none | bool (b : Bool) | int (i : Int) | list (xs : List D) | tup (xs : List D) | range (a b : Int) | game | path

/-- the game: the addresses of the instance, its dict, its path list; its fields -/
structure Gm where
  ga : Addr
  pa : Addr
  flds : List (Str × D)

mutual
noncomputable def Rd (G : Option Gm) (μ : Addr → Prop) (h : Heap) : D → Value → Prop
  | .none, v => v = .none
  | .bool b, v => v = .bool b
  | .int i, v => ∃ t, v = .int i t
  | .list xs, v => ∃ a vs, v = .ref a ∧ ¬ μ a ∧ h.IsList a vs.toArray ∧ RdL G μ h xs vs
  | .tup xs, v => ∃ a vs, v = .ref a ∧ ¬ μ a ∧ IsTup h a vs.toArray ∧ RdL G μ h xs vs
  | .range x y, v => ∃ a t u w, v = .ref a ∧ ¬ μ a ∧ IsRange h a x y 1 t u w
  | .game, v => ∃ g, G = some g ∧ v = .ref g.ga
  | .path, v => ∃ g, G = some g ∧ v = .ref g.pa
noncomputable def RdL (G : Option Gm) (μ : Addr → Prop) (h : Heap) : List D → List Value → Prop
  | [], vs => vs = []
  | d :: ds, vs => ∃ v vs', vs = v :: vs' ∧ Rd G μ h d v ∧ RdL G μ h ds vs'
end

/-- nothing outside μ' changes from h to h', and what μ has of h, μ' has -/
noncomputable def Stay (μ μ' : Addr → Prop) (h h' : Heap) : Prop := ∀ a o, ¬ μ a → h.get? a = some o → ¬ μ' a ∧ h'.get? a = some o

mutual
theorem Rd.stay {G : Option Gm} {μ μ' : Addr → Prop} {h h' : Heap} (k : Stay μ μ' h h') : ∀ (d : D) (v : Value), Rd G μ h d v → Rd G μ' h' d v
  | .none, _, x => by simpa only [Rd] using x
  | .bool _, _, x => by simpa only [Rd] using x
  | .int _, _, x => by simpa only [Rd] using x
  | .list xs, v, x => by
    simp only [Rd] at x ⊢
    obtain ⟨a, vs, e, hm, ⟨o, ho, hc⟩, hr⟩ := x
    obtain ⟨hm', ho'⟩ := k a o hm ho
    exact ⟨a, vs, e, hm', ⟨o, ho', hc⟩, RdL.stay k xs vs hr⟩
  | .tup xs, v, x => by
    simp only [Rd] at x ⊢
    obtain ⟨a, vs, e, hm, ⟨o, ho, hc⟩, hr⟩ := x
    obtain ⟨hm', ho'⟩ := k a o hm ho
    exact ⟨a, vs, e, hm', ⟨o, ho', hc⟩, RdL.stay k xs vs hr⟩
  | .range y z, v, x => by
    simp only [Rd] at x ⊢
    obtain ⟨a, t, u, w, e, hm, ho⟩ := x
    obtain ⟨hm', ho'⟩ := k a _ hm ho
    exact ⟨a, t, u, w, e, hm', ho'⟩
  | .game, _, x => by simpa only [Rd] using x
  | .path, _, x => by simpa only [Rd] using x
theorem RdL.stay {G : Option Gm} {μ μ' : Addr → Prop} {h h' : Heap} (k : Stay μ μ' h h') : ∀ (ds : List D) (vs : List Value), RdL G μ h ds vs → RdL G μ' h' ds vs
  | [], _, x => by simpa only [RdL] using x
  | d :: ds, vs, x => by
    simp only [RdL] at x ⊢
    obtain ⟨v, vs', e, hv, hr⟩ := x
    exact ⟨v, vs', e, Rd.stay k d v hv, RdL.stay k ds vs' hr⟩
end

theorem RdL.length {G : Option Gm} {μ : Addr → Prop} {h : Heap} : ∀ {ds : List D} {vs : List Value}, RdL G μ h ds vs → vs.length = ds.length
  | [], _, x => by simp only [RdL] at x; rw [x]; rfl
  | d :: ds, vs, x => by
    simp only [RdL] at x
    obtain ⟨v, vs', rfl, _, hr⟩ := x
    simp [RdL.length hr]

theorem RdL.get {G : Option Gm} {μ : Addr → Prop} {h : Heap} : ∀ {ds : List D} {vs : List Value}, RdL G μ h ds vs → ∀ (i : Nat) (d : D), ds[i]? = some d → ∃ v, vs[i]? = some v ∧ Rd G μ h d v
  | [], _, _, i, d, e => by simp at e
  | d₀ :: ds, vs, x, i, d, e => by
    simp only [RdL] at x
    obtain ⟨v, vs', rfl, hv, hr⟩ := x
    cases i with
    | zero => simp at e; subst e; exact ⟨v, by simp, hv⟩
    | succ i => simp at e; obtain ⟨w, hw, hd⟩ := RdL.get hr i d e; exact ⟨w, by simpa using hw, hd⟩

theorem RdL.of_get {G : Option Gm} {μ : Addr → Prop} {h : Heap} : ∀ {ds : List D} {vs : List Value}, vs.length = ds.length → (∀ (i : Nat) (d : D) (v : Value), ds[i]? = some d → vs[i]? = some v → Rd G μ h d v) → RdL G μ h ds vs
  | [], vs, hl, _ => by simp at hl; simp [RdL, hl]
  | d :: ds, [], hl, _ => by simp at hl
  | d :: ds, v :: vs, hl, k => by
    simp only [RdL]
    exact ⟨v, vs, rfl, k 0 d v (by simp) (by simp), RdL.of_get (by simpa using hl) fun i d' v' e e' => k (i + 1) d' v' (by simpa using e) (by simpa using e')⟩

theorem RdL.append {G : Option Gm} {μ : Addr → Prop} {h : Heap} : ∀ {ds es : List D} {vs ws : List Value}, RdL G μ h ds vs → RdL G μ h es ws → RdL G μ h (ds ++ es) (vs ++ ws)
  | [], es, vs, ws, x, y => by simp only [RdL] at x; subst x; simpa using y
  | d :: ds, es, vs, ws, x, y => by
    simp only [RdL] at x
    obtain ⟨v, vs', rfl, hv, hr⟩ := x
    simp only [List.cons_append, RdL]
    exact ⟨v, vs' ++ ws, rfl, hv, RdL.append hr y⟩

/-! ## the interpreter -/

/-- a local: data that nothing changes any more, or a list that this frame alone holds and still appends to -/
inductive LV where
  | fz (d : D)
  | own (xs : List D)

noncomputable abbrev Rho := Str → Option LV
noncomputable def look (ρ : Rho) (x : Str) : Option D := match ρ x with
  | some (.fz d) => some d
  | _ => none
noncomputable def setV (ρ : Rho) (x : Str) (lv : LV) : Rho := fun y => if y = x then some lv else ρ y
noncomputable def freeze (ns : List Str) (ρ : Rho) : Rho := fun y => match ρ y with
  | some (.own xs) => if ns.contains y then some (.fz (.list xs)) else some (.own xs)
  | r => r
noncomputable def rho₀ (ps : List Str) (ds : List D) : Rho := fun y => ((ps.zip ds).lookup y).map .fz

inductive Fl where
  | next | brk | ret (d : D)

/-- the meaning of the text's defs: key, arguments, path ↦ value, path -/
noncomputable abbrev Mean := Str → List D → List Int → Option (D × List Int)

structure Cf where
  /-- a global that holds an int -/
  gint : Str → Option Int
  /-- a global that holds a def of the text: its key -/
  gfun : Str → Option Str
  /-- a method of the game's class: its key -/
  meth : Str → Option Str
  /-- a field of the game -/
  fld : Str → Option D

noncomputable def okName (x : Str) : Bool := !(x == Str.ofString "__debug__") && !(x == Str.ofString "__classdict__")
noncomputable def isVar (κ : Str → Option NameKind) (x : Str) : Bool := (match κ x with
  | some .local | some .cell | some .free => true
  | _ => false) && okName x
noncomputable def isGlob (κ : Str → Option NameKind) (x : Str) : Bool := (match κ x with
  | some .globalImplicit => true
  | _ => false) && okName x

/-- a name that this frame stores into -/
noncomputable def isSto (κ : Str → Option NameKind) (x : Str) : Bool := (match κ x with
  | some .local | some .cell => true
  | _ => false) && okName x
noncomputable def isFree (κ : Str → Option NameKind) (x : Str) : Bool := match κ x with
  | some .free => true
  | _ => false

noncomputable def idx (n : Nat) (i : Int) : Option Nat := if 0 ≤ i then (if i < n then some i.toNat else none) else (if 0 ≤ i + n then some (i + n).toNat else none)

noncomputable def small (i : Int) : Bool := decide (0 ≤ i) && decide (i ≤ 20)

noncomputable def binInt (op : Operator) (a b : Int) : Option D := match op with
  | .Add => some (.int (a + b))
  | .Sub => some (.int (a - b))
  | .FloorDiv => if 0 < b ∧ b ≤ 10 ^ 20 then some (.int (Int.fdiv a b)) else none
  | .Mod => if b = 0 then none else some (.int (Int.fmod a b))
  | .Pow => if a = 10 ∧ small b then some (.int (10 ^ b.toNat)) else none
  | .RShift => if small a && small b then some (.int (Int.fdiv a (2 ^ b.toNat))) else none
  | .BitAnd => if a = 0 ∧ b = 1 then some (.int 0) else none
  | _ => none
noncomputable def binList (op : Operator) (xs ys : List D) : Option D := match op with
  | .Add => if xs.length + ys.length ≤ 10000 then some (.list (xs ++ ys)) else none
  | _ => none
noncomputable def oneInt : List D → Option Int
  | [] => none
  | d :: r => match r with
    | [] => (match d with
      | .int x => some x
      | _ => none)
    | _ => none
noncomputable def binRep (op : Operator) (xs : List D) (n : Int) : Option D := match op with
  | .Mult => (match oneInt xs with
    | some x => if small n then some (.list (List.replicate n.toNat (.int x))) else none
    | none => none)
  | _ => none
noncomputable def binop (op : Operator) (a b : D) : Option D := match a with
  | .int a => (match b with
    | .int b => binInt op a b
    | _ => none)
  | .list xs => (match b with
    | .list ys => binList op xs ys
    | .int n => binRep op xs n
    | _ => none)
  | _ => none

noncomputable def intsD : List D → Option (List Int)
  | [] => some []
  | .int i :: r => (intsD r).map (i :: ·)
  | _ => none

noncomputable def pairD : List D → Option (Int × List Int)
  | [] => none
  | d :: r => match d with
    | .int a => (match r with
      | [] => none
      | e :: r => match r with
        | [] => (match e with
          | .list xs => (intsD xs).map fun m => (a, m)
          | _ => none)
        | _ => none)
    | _ => none
noncomputable def cmpEq (a b : D) : Option Bool := match a with
  | .int a => (match b with
    | .int b => some (decide (a = b))
    | _ => none)
  | .bool a => (match b with
    | .bool b => some (a == b)
    | _ => none)
  | .tup ds => (match b with
    | .tup es => (match pairD ds with
      | some p => (match pairD es with
        | some q => some (decide (p.1 = q.1) && decide (p.2 = q.2))
        | none => none)
      | none => none)
    | _ => none)
  | _ => none

noncomputable def twoInts : List D → Option (Int × Int)
  | [] => none
  | d :: r => match d with
    | .int a => (match r with
      | [] => none
      | e :: r => match r with
        | [] => (match e with
          | .int b => some (a, b)
          | _ => none)
        | _ => none)
    | _ => none
noncomputable def cmpInt (op : CmpOp) (a b : Int) : Option D := match op with
  | .Lt => some (.bool (decide (a < b)))
  | .LtE => some (.bool (decide (a ≤ b)))
  | .Gt => some (.bool (decide (a > b)))
  | .GtE => some (.bool (decide (a ≥ b)))
  | _ => none
noncomputable def bothInt (a b : D) : Option (Int × Int) := match a with
  | .int a => (match b with
    | .int b => some (a, b)
    | _ => none)
  | _ => none
noncomputable def isNone? (a : D) : Option Bool := match a with
  | .none => some true
  | .list _ => some false
  | _ => none
noncomputable def cmpIs (a b : D) : Option D := match b with
  | .none => (isNone? a).map .bool
  | _ => none
noncomputable def cmpIn (a b : D) : Option D := match a with
  | .int a => (match b with
    | .tup es => (twoInts es).map fun p => .bool (decide (a = p.1) || decide (a = p.2))
    | _ => none)
  | _ => none
noncomputable def cmpop (op : CmpOp) (a b : D) : Option D := match op with
  | .Eq => (cmpEq a b).map .bool
  | .NotEq => (cmpEq a b).map fun r => .bool (!r)
  | .Is => cmpIs a b
  | .In => cmpIn a b
  | op => (bothInt a b).bind fun p => cmpInt op p.1 p.2

noncomputable def truth : D → Option Bool
  | .bool b => some b
  | .list xs => if xs.length ≤ 10000 then some (!xs.isEmpty) else none
  | _ => none

noncomputable def itemsOf : D → Option (List D)
  | .list xs => if xs.length ≤ 10000 then some xs else none
  | .tup xs => if xs.length ≤ 10000 then some xs else none
  | .range a b => if b ≤ 10000 ∧ -10000 ≤ b ∧ -10000 ≤ a ∧ a ≤ 10000 ∧ b - a ≤ 10000 then some ((List.range (b - a).toNat).map fun (i : Nat) => .int (a + (i : Int))) else none
  | _ => none

noncomputable def maxL : List Int → Option Int
  | [] => none
  | x :: r => some (r.foldl (fun m y => if y > m then y else m) x)

noncomputable def builtin (f : Str) (args : List D) (π : List Int) : Option D :=
  if f = Str.ofString "len" then (match args with
    | [.list xs] => if xs.length ≤ 10000 then some (.int xs.length) else none
    | [.path] => if π.length ≤ 10000 then some (.int π.length) else none
    | _ => none)
  else if f = Str.ofString "min" then (match args with
    | [.int a, .int b] => some (.int (if b < a then b else a))
    | _ => none)
  else if f = Str.ofString "max" then (match args with
    | [.int a, .int b] => some (.int (if b > a then b else a))
    | [.list xs] => if xs.length ≤ 10000 then (intsD xs).bind fun ns => (maxL ns).map .int else none
    | _ => none)
  else if f = Str.ofString "range" then (match args with
    | [.int b] => some (.range 0 b)
    | [.int a, .int b] => some (.range a b)
    | _ => none)
  else if f = Str.ofString "list" then (match args with
    | [.range a b] => (itemsOf (.range a b)).map .list
    | _ => none)
  else none

/-- each item by f, then the one behind it: the path is handed on -/
noncomputable def evList (f : Expr → List Int → Option (D × List Int)) : List Expr → List Int → Option (List D × List Int)
  | [], π => some ([], π)
  | e :: r, π =>
    match f e π with
    | none => none
    | some (d, π₁) => match evList f r π₁ with
      | none => none
      | some (ds, π₂) => some (d :: ds, π₂)

noncomputable def evBools (f : Expr → List Int → Option (D × List Int)) (op : BoolOp) : List Expr → List Int → Option (D × List Int)
  | [], _ => none
  | [e], π => f e π
  | e :: r, π =>
    match f e π with
    | none => none
    | some (d, π₁) => match truth d, op with
      | none, _ => none
      | some false, .And => some (d, π₁)
      | some true, .Or => some (d, π₁)
      | _, _ => evBools f op r π₁

noncomputable def evAlls (f : Expr → List Int → Option (D × List Int)) (op : BoolOp) : List Expr → List Int → Option (D × List Int)
  | [], π => some (.bool (op == .And), π)
  | e :: r, π =>
    match f e π with
    | some (.bool b, π₁) => match op, b with
      | .And, false => some (.bool false, π₁)
      | .Or, true => some (.bool true, π₁)
      | _, _ => evAlls f op r π₁
    | _ => none

noncomputable def noStar : Expr → Bool
  | .Starred .. => false
  | _ => true
noncomputable def noSlice : Expr → Bool
  | .Slice .. => false
  | _ => true
noncomputable def plainTest : Expr → Bool
  | .Name .. | .Call .. | .Subscript .. | .Compare .. | .Constant .. => true
  | _ => false
noncomputable def noSet : Expr → Bool
  | .Set .. => false
  | _ => true

/-- a comprehension's turns -/
noncomputable def compGo (test : D → List Int → Option (Bool × List Int)) (elt : D → List Int → Option (D × List Int)) : List D → List Int → Option (List D × List Int)
  | [], π => some ([], π)
  | v :: r, π =>
    match test v π with
    | none => none
    | some (false, π₁) => compGo test elt r π₁
    | some (true, π₁) => match elt v π₁ with
      | none => none
      | some (d, π₂) => match compGo test elt r π₂ with
        | none => none
        | some (ds, π₃) => some (d :: ds, π₃)

/-- the tests of a comprehension: none or one -/
noncomputable def tests (f : Expr → List Int → Option (D × List Int)) : List Expr → List Int → Option (Bool × List Int)
  | [], π => some (true, π)
  | [c], π => match f c π with
    | some (.bool b, π₁) => some (b, π₁)
    | _ => none
  | _, _ => none

noncomputable def item : D → D → List Int → Option D
  | .list xs, .int i, _ => if xs.length ≤ 10000 then (idx xs.length i).bind fun j => xs[j]? else none
  | .tup xs, .int i, _ => if xs.length ≤ 10000 then (idx xs.length i).bind fun j => xs[j]? else none
  | .path, .int i, π => if π.length ≤ 10000 then (idx π.length i).bind fun j => (π[j]?).map .int else none
  | _, _, _ => none

noncomputable def scopeOk (κ : Str → Option NameKind) (x : Str) (scope : Scope) : Bool :=
  scope.kind == .function && scope.names.lookup x == some .local &&
  scope.names.all fun p => !(p.2 == .cell) && (!(p.2 == .local) || scope.names.lookup p.1 == some .local) && (!(p.2 == .free) || κ p.1 == some .cell || κ p.1 == some .free)

section
variable (cf : Cf) (Φ : Mean)

noncomputable abbrev Ev := Bool → (Str → Option NameKind) → (Str → Option D) → Expr → List Int → Option (D × List Int)

/-- one step: an expression as a test -/
noncomputable def evT (f : Ev) (κ : Str → Option NameKind) (ρ : Str → Option D) (e : Expr) (π : List Int) : Option (D × List Int) := match e with
  | .UnaryOp .Not x _ => match f true κ ρ x π with
    | some (.bool b, π₁) => some (.bool (!b), π₁)
    | _ => none
  | .BoolOp op es _ => evAlls (f true κ ρ) op es π
  | e => if plainTest e then (match f false κ ρ e π with
    | some (d, π₁) => (truth d).map fun b => (.bool b, π₁)
    | none => none) else none

noncomputable def evConst (c : Const) (π : List Int) : Option (D × List Int) := match c with
  | .int i => some (.int i, π)
  | .bool b => some (.bool b, π)
  | .none => some (.none, π)
  | _ => none
noncomputable def evUn (f : Ev) (κ : Str → Option NameKind) (ρ : Str → Option D) (op : UnaryOp) (x : Expr) (π : List Int) : Option (D × List Int) := match op with
  | .USub => (match f false κ ρ x π with
    | some (.int i, π₁) => some (.int (-i), π₁)
    | _ => none)
  | .Not => (match f false κ ρ x π with
    | some (a, π₁) => (truth a).map fun b => (.bool (!b), π₁)
    | none => none)
  | _ => none
noncomputable def evCmp (f : Ev) (κ : Str → Option NameKind) (ρ : Str → Option D) (l : Expr) (ops : List CmpOp) (rs : List Expr) (π : List Int) : Option (D × List Int) := match ops with
  | [op] => (match rs with
    | [r] => if behindInMarks op r then none else match f false κ ρ l π with
      | none => none
      | some (a, π₁) => match f false κ ρ r π₁ with
        | none => none
        | some (b, π₂) => (cmpop op a b).map (·, π₂)
    | _ => none)
  | _ => none
noncomputable def evName (f : Ev) (κ : Str → Option NameKind) (ρ : Str → Option D) (fn : Str) (args : List Expr) (π : List Int) : Option (D × List Int) :=
  if isGlob κ fn && args.all noStar && decide (args.length < 20) then (match evList (f false κ ρ) args π with
    | none => none
    | some (ds, π₁) => match cf.gfun fn with
      | some key => Φ key ds π₁
      | none => (builtin fn ds π₁).map (·, π₁))
  else none
noncomputable def evMeth (f : Ev) (κ : Str → Option NameKind) (ρ : Str → Option D) (x m : Str) (ap cp : Pos) (args : List Expr) (π : List Int) : Option (D × List Int) :=
  if isVar κ x && args.all noStar && decide (args.length < 20) && ap.endLine == cp.line then (match ρ x, cf.meth m with
    | some .game, some key => match evList (f false κ ρ) args π with
      | none => none
      | some (ds, π₁) => Φ key (.game :: ds) π₁
    | _, _ => none)
  else none
noncomputable def evCall (f : Ev) (κ : Str → Option NameKind) (ρ : Str → Option D) (fn : Expr) (args : List Expr) (kws : List Keyword) (cp : Pos) (π : List Int) : Option (D × List Int) := match kws with
  | [] => (match fn with
    | .Name fn _ => evName cf Φ f κ ρ fn args π
    | .Attribute o m ap => (match o with
      | .Name x _ => evMeth cf Φ f κ ρ x m ap cp args π
      | _ => none)
    | _ => none)
  | _ => none
noncomputable def evAttr (κ : Str → Option NameKind) (ρ : Str → Option D) (o : Expr) (m : Str) (π : List Int) : Option (D × List Int) := match o with
  | .Name x _ => if isVar κ x then (match ρ x with
    | some .game => (cf.fld m).map (·, π)
    | _ => none) else none
  | _ => none
noncomputable def evComp1 (f : Ev) (κ : Str → Option NameKind) (ρ : Str → Option D) (elt tgt iter : Expr) (ifs : List Expr) (isa : Int) (scope : Scope) (π : List Int) : Option (D × List Int) := match tgt with
  | .Name x _ => if isa = 0 then (if scopeOk κ x scope && noSet iter then (match f false κ ρ iter π with
      | none => none
      | some (d, π₁) => match itemsOf d with
        | none => none
        | some items =>
          let κ' := fun y => scope.names.lookup y
          let ρ' := fun v y => if y = x then some v else if isFree κ' y then ρ y else none
          match compGo (fun v => tests (f true κ' (ρ' v)) ifs) (fun v => f false κ' (ρ' v) elt) items π₁ with
          | none => none
          | some (ds, π₂) => some (.list ds, π₂))
    else none) else none
  | _ => none
noncomputable def evComp (f : Ev) (κ : Str → Option NameKind) (ρ : Str → Option D) (elt : Expr) (gens : List Comprehension) (scope : Scope) (π : List Int) : Option (D × List Int) := match gens with
  | [g] => evComp1 f κ ρ elt g.target g.iter g.ifs g.is_async scope π
  | _ => none
/-- one step: an expression's value -/
noncomputable def evV (f : Ev) (κ : Str → Option NameKind) (ρ : Str → Option D) (e : Expr) (π : List Int) : Option (D × List Int) := match e with
  | .Constant c _ _ => evConst c π
  | .Name x _ =>
    if isVar κ x then (ρ x).map (·, π)
    else if isGlob κ x then (cf.gint x).map fun i => (.int i, π) else none
  | .BinOp l op r _ => match f false κ ρ l π with
    | none => none
    | some (a, π₁) => match f false κ ρ r π₁ with
      | none => none
      | some (b, π₂) => (binop op a b).map (·, π₂)
  | .UnaryOp op x _ => evUn f κ ρ op x π
  | .BoolOp op es _ => evBools (f false κ ρ) op es π
  | .Compare l ops rs _ => evCmp f κ ρ l ops rs π
  | .IfExp t a b _ => match f true κ ρ t π with
    | some (.bool c, π₁) => if c then f false κ ρ a π₁ else f false κ ρ b π₁
    | _ => none
  | .Call fn args kws cp => evCall cf Φ f κ ρ fn args kws cp π
  | .Attribute o m _ => evAttr cf κ ρ o m π
  | .Subscript v s _ => if noSlice s then (match f false κ ρ v π with
    | none => none
    | some (a, π₁) => match f false κ ρ s π₁ with
      | none => none
      | some (b, π₂) => (item a b π₂).map (·, π₂)) else none
  | .List es _ => if es.all noStar && decide (es.length < 1000) then (match evList (f false κ ρ) es π with
    | none => none
    | some (ds, π₁) => some (.list ds, π₁)) else none
  | .Tuple es _ _ => if es.all noStar && decide (es.length < 1000) then (match evList (f false κ ρ) es π with
    | none => none
    | some (ds, π₁) => some (.tup ds, π₁)) else none
  | .ListComp elt gens scope _ => evComp f κ ρ elt gens scope π
  | _ => none

/-- an expression's value (t: as a test) -/
noncomputable def ev : Nat → Ev
  | 0 => fun _ _ _ _ _ => none
  | n + 1 => fun t κ ρ e π => match t with
    | true => evT (ev n) κ ρ e π
    | false => evV cf Φ (ev n) κ ρ e π

/-- the names that an expression reads -/
noncomputable def namesIn : Nat → Expr → List Str
  | 0, _ => []
  | n + 1, e => match e with
    | .Name x _ => [x]
    | .BinOp l _ r _ => namesIn n l ++ namesIn n r
    | .UnaryOp _ x _ => namesIn n x
    | .BoolOp _ es _ => es.flatMap (namesIn n)
    | .Compare l _ rs _ => namesIn n l ++ rs.flatMap (namesIn n)
    | .IfExp a b c _ => namesIn n a ++ namesIn n b ++ namesIn n c
    | .Call f args _ _ => namesIn n f ++ args.flatMap (namesIn n)
    | .Attribute o _ _ => namesIn n o
    | .Subscript v s _ => namesIn n v ++ namesIn n s
    | .List es _ => es.flatMap (namesIn n)
    | .Tuple es _ _ => es.flatMap (namesIn n)
    | .ListComp elt gens _ _ => namesIn n elt ++ gens.flatMap fun g => namesIn n g.iter ++ g.ifs.flatMap (namesIn n)
    | _ => []

noncomputable def loop (body : D → Rho → List Int → Option (Fl × Rho × List Int)) : List D → Rho → List Int → Option (Fl × Rho × List Int)
  | [], ρ, π => some (.next, ρ, π)
  | v :: r, ρ, π => match body v ρ π with
    | none => none
    | some (.next, ρ₁, π₁) => loop body r ρ₁ π₁
    | some (.brk, ρ₁, π₁) => some (.next, ρ₁, π₁)
    | some (.ret d, ρ₁, π₁) => some (.ret d, ρ₁, π₁)

noncomputable def seqS (f : Stmt → Rho → List Int → Option (Fl × Rho × List Int)) : List Stmt → Rho → List Int → Option (Fl × Rho × List Int)
  | [], ρ, π => some (.next, ρ, π)
  | c :: r, ρ, π => match f c ρ π with
    | some (.next, ρ₁, π₁) => seqS f r ρ₁ π₁
    | x => x

noncomputable def nameOf? : Expr → Option Str
  | .Name x _ => some x
  | _ => none
noncomputable def targets (κ : Str → Option NameKind) : List Expr → Option (List Str)
  | [] => some []
  | .Name x _ :: r => if isSto κ x then (targets κ r).map (x :: ·) else none
  | _ => none
noncomputable def isEmptyList : Expr → Bool
  | .List [] _ => true
  | _ => false
noncomputable def setAll (ρ : Rho) : List Str → List LV → Rho
  | x :: xs, v :: vs => setAll (setV ρ x v) xs vs
  | _, _ => ρ

noncomputable def isPath : Option D → Bool
  | some .path => true
  | _ => false
noncomputable abbrev Ex := (Str → Option NameKind) → Stmt → Rho → List Int → Option (Fl × Rho × List Int)
noncomputable def exRet (κ : Str → Option NameKind) (e : Expr) (ρ : Rho) (π : List Int) : Option (Fl × Rho × List Int) :=
  match ev cf Φ 20 false κ (look (freeze (namesIn 9 e) ρ)) e π with
  | none => none
  | some (d, π₁) => some (.ret d, freeze (namesIn 9 e) ρ, π₁)
noncomputable def exAs (κ : Str → Option NameKind) (x : Str) (e : Expr) (ρ : Rho) (π : List Int) : Option (Fl × Rho × List Int) :=
  if isSto κ x then (if isEmptyList e then some (.next, setV ρ x (.own []), π) else (
    match ev cf Φ 20 false κ (look (freeze (namesIn 9 e) ρ)) e π with
    | none => none
    | some (d, π₁) => some (.next, setV (freeze (namesIn 9 e) ρ) x (.fz d), π₁))) else none
noncomputable def exTup1 (κ : Str → Option NameKind) (xs : List Str) (es : List Expr) (ρ : Rho) (π : List Int) : Option (Fl × Rho × List Int) :=
  if xs.Nodup ∧ xs.length = es.length ∧ xs.length < 9 then (
    if es.all isEmptyList && decide (3 < xs.length) then some (.next, setAll ρ xs (xs.map fun _ => .own []), π)
    else if es.all noStar && !(es.all (constantsAlone 8)) && !(es.all (foldedForSure 8)) then (
      match evList (ev cf Φ 20 false κ (look (freeze (es.flatMap (namesIn 9)) ρ))) es π with
      | none => none
      | some (ds, π₁) => some (.next, setAll (freeze (es.flatMap (namesIn 9)) ρ) xs (ds.map .fz), π₁))
    else none) else none
noncomputable def exTup2 (κ : Str → Option NameKind) (xs : List Str) (e : Expr) (ρ : Rho) (π : List Int) : Option (Fl × Rho × List Int) :=
  if xs.Nodup ∧ xs.length < 9 then (
    match ev cf Φ 20 false κ (look (freeze (namesIn 9 e) ρ)) e π with
    | some (.tup ds, π₁) => if ds.length = xs.length then some (.next, setAll (freeze (namesIn 9 e) ρ) xs (ds.map .fz), π₁) else none
    | _ => none) else none
noncomputable def exTup (κ : Str → Option NameKind) (ts : List Expr) (e : Expr) (ρ : Rho) (π : List Int) : Option (Fl × Rho × List Int) :=
  match targets κ ts with
  | none => none
  | some xs => match e with
    | .Tuple es _ _ => exTup1 cf Φ κ xs es ρ π
    | e => exTup2 cf Φ κ xs e ρ π
noncomputable def exAug (κ : Str → Option NameKind) (x : Str) (op : Operator) (e : Expr) (ρ : Rho) (π : List Int) : Option (Fl × Rho × List Int) :=
  if isSto κ x then (
    match look (freeze (namesIn 9 e) ρ) x, ev cf Φ 20 false κ (look (freeze (namesIn 9 e) ρ)) e π with
    | some (.int a), some (.int b, π₁) => (match op with
      | .Add => some (.next, setV (freeze (namesIn 9 e) ρ) x (.fz (.int (a + b))), π₁)
      | .Sub => some (.next, setV (freeze (namesIn 9 e) ρ) x (.fz (.int (a - b))), π₁)
      | _ => none)
    | _, _ => none) else none
noncomputable def exMeth (κ : Str → Option NameKind) (x : Str) (xp : Pos) (m : Str) (ap : Pos) (args : List Expr) (cp : Pos) (ρ : Rho) (π : List Int) : Option (Fl × Rho × List Int) :=
  match ρ x, args with
  | some (.own _), [e] => if isVar κ x ∧ m = Str.ofString "append" ∧ noStar e ∧ ap.endLine = cp.line then (
    match freeze (namesIn 9 e) ρ x with
    | some (.own xs) => if xs.length < 10000 then (match ev cf Φ 20 false κ (look (freeze (namesIn 9 e) ρ)) e π with
      | none => none
      | some (d, π₁) => some (.next, setV (freeze (namesIn 9 e) ρ) x (.own (xs ++ [d])), π₁)) else none
    | _ => none) else none
  | _, _ => match ev cf Φ 20 false κ (look ρ) (.Call (.Attribute (.Name x xp) m ap) args [] cp) π with
    | some (.none, π₁) => some (.next, ρ, π₁)
    | _ => none
noncomputable def exPath (κ : Str → Option NameKind) (x a m : Str) (ap : Pos) (args : List Expr) (cp : Pos) (ρ : Rho) (π : List Int) : Option (Fl × Rho × List Int) :=
  if isVar κ x ∧ a = Str.ofString "path" ∧ isPath (cf.fld a) = true ∧ ap.endLine = cp.line then (match look ρ x with
    | some .game => match args with
      | [e] => if m = Str.ofString "append" ∧ noStar e ∧ π.length < 10000 then (match ev cf Φ 20 false κ (look ρ) e π with
          | some (.int i, π₁) => if π₁ = π then some (.next, ρ, π ++ [i]) else none
          | _ => none) else none
      | [] => if m = Str.ofString "pop" ∧ 0 < π.length ∧ π.length < 10000 then some (.next, ρ, π.dropLast) else none
      | _ => none
    | _ => none) else none
noncomputable def exExpr (κ : Str → Option NameKind) (e : Expr) (ρ : Rho) (π : List Int) : Option (Fl × Rho × List Int) := match e with
  | .Call fn args kws cp => (match kws with
    | [] => (match fn with
      | .Attribute o m ap => (match o with
        | .Name x xp => exMeth cf Φ κ x xp m ap args cp ρ π
        | .Attribute o2 a _ => (match o2 with
          | .Name x _ => exPath cf Φ κ x a m ap args cp ρ π
          | _ => none)
        | _ => none)
      | _ => none)
    | _ => none)
  | _ => none
noncomputable def exBase (κ : Str → Option NameKind) (c : Stmt) (ρ : Rho) (π : List Int) : Option (Fl × Rho × List Int) := match c with
  | .Return v _ => (match v with
    | some e => exRet cf Φ κ e ρ π
    | none => none)
  | .Assign ts e _ => (match ts with
    | [t] => (match t with
      | .Name x _ => exAs cf Φ κ x e ρ π
      | .Tuple ts _ _ => exTup cf Φ κ ts e ρ π
      | _ => none)
    | _ => none)
  | .AugAssign t op e _ => (match t with
    | .Name x _ => exAug cf Φ κ x op e ρ π
    | _ => none)
  | .Expr e _ => exExpr cf Φ κ e ρ π
  | .Break _ => some (.brk, ρ, π)
  | _ => none
noncomputable def exIf (f : Ex) (κ : Str → Option NameKind) (t : Expr) (b o : List Stmt) (ρ : Rho) (π : List Int) : Option (Fl × Rho × List Int) :=
  match ev cf Φ 20 true κ (look (freeze (namesIn 9 t) ρ)) t π with
  | some (.bool c, π₁) => if c then seqS (f κ) b (freeze (namesIn 9 t) ρ) π₁ else seqS (f κ) o (freeze (namesIn 9 t) ρ) π₁
  | _ => none
noncomputable def exFor (f : Ex) (κ : Str → Option NameKind) (x : Str) (iter : Expr) (body : List Stmt) (ρ : Rho) (π : List Int) : Option (Fl × Rho × List Int) :=
  if isSto κ x && noSet iter then (
    match ev cf Φ 20 false κ (look (freeze (namesIn 9 iter) ρ)) iter π with
    | none => none
    | some (d, π₁) => match itemsOf d with
      | none => none
      | some items => loop (fun v ρ π => seqS (f κ) body (setV ρ x (.fz v)) π) items (freeze (namesIn 9 iter) ρ) π₁) else none
/-- one step of a statement -/
noncomputable def exS (f : Ex) (κ : Str → Option NameKind) (c : Stmt) (ρ : Rho) (π : List Int) : Option (Fl × Rho × List Int) := match c with
  | .If t b o _ => exIf cf Φ f κ t b o ρ π
  | .For tgt iter body orelse _ => (match tgt with
    | .Name x _ => (match orelse with
      | [] => exFor cf Φ f κ x iter body ρ π
      | _ => none)
    | _ => none)
  | c => exBase cf Φ κ c ρ π

/-- a statement -/
noncomputable def ex : Nat → Ex
  | 0 => fun _ _ _ _ => none
  | n + 1 => fun κ c ρ π => exS cf Φ (ex n) κ c ρ π
end

structure Fn where
  params : List Str
  body : List Stmt
  scope : Scope

/-- a def called: fuel is the depth of calls -/
noncomputable def callF (cf : Cf) (fns : Str → Option Fn) : Nat → Mean
  | 0 => fun _ _ _ => none
  | n + 1 => fun key args π => match fns key with
    | none => none
    | some f => if args.length = f.params.length then (
      match seqS (ex cf (callF cf fns n) 20 (fun y => f.scope.names.lookup y)) f.body (rho₀ f.params args) π with
      | some (.ret d, _, π₁) => some (d, π₁)
      | some (.next, _, π₁) => some (.none, π₁)
      | _ => none) else none


/-- nothing is lost but at the places of P -/
noncomputable def Ext (P : Addr → Prop) (s s' : Shared) : Prop := ∃ h' tk, s' = { s with heap := h', toks := tk } ∧ ∀ a o, ¬ P a → s.heap.get? a = some o → h'.get? a = some o
noncomputable abbrev Non : Addr → Prop := fun _ => False

theorem Ext.refl {P : Addr → Prop} (s : Shared) : Ext P s s := ⟨s.heap, s.toks, rfl, fun _ _ _ e => e⟩
theorem Ext.trans {P : Addr → Prop} {s s₁ s₂ : Shared} (x : Ext P s s₁) (y : Ext P s₁ s₂) : Ext P s s₂ := by
  obtain ⟨h₁, t₁, rfl, k₁⟩ := x
  obtain ⟨h₂, t₂, rfl, k₂⟩ := y
  exact ⟨h₂, t₂, rfl, fun a o hp e => k₂ a o hp (k₁ a o hp e)⟩
theorem Ext.wide {P : Addr → Prop} {s s' : Shared} (x : Ext Non s s') : Ext P s s' := by
  obtain ⟨h₁, t₁, rfl, k₁⟩ := x
  exact ⟨h₁, t₁, rfl, fun a o _ e => k₁ a o (fun q => q) e⟩
theorem Ext.tok {P : Addr → Prop} {s : Shared} {t : Nat} : Ext P s { s with toks := t } := ⟨s.heap, t, rfl, fun _ _ _ e => e⟩
theorem Ext.mk' {P : Addr → Prop} {s : Shared} {h' : Heap} {t : Nat} (k : ∀ a o, s.heap.get? a = some o → h'.get? a = some o) : Ext P s { s with heap := h', toks := t } := ⟨h', t, rfl, fun a o _ e => k a o e⟩
theorem Ext.push {P : Addr → Prop} {s : Shared} {o : Obj} {t : Nat} : Ext P s { s with heap := s.heap.push o, toks := t } := Ext.mk' fun _ _ e => Heap.get?_push_of_some _ e
theorem Ext.keep {P : Addr → Prop} {s s' : Shared} (x : Ext P s s') {a : Addr} {o : Obj} (hp : ¬ P a) (e : s.heap.get? a = some o) : s'.heap.get? a = some o := by
  obtain ⟨h₁, t₁, rfl, k₁⟩ := x
  exact k₁ a o hp e
theorem Ext.stay {P μ : Addr → Prop} {s s' : Shared} (x : Ext P s s') (hp : ∀ a, P a → μ a) : Stay μ μ s.heap s'.heap := fun a o hm e => ⟨hm, x.keep (fun q => hm (hp a q)) e⟩
theorem Ext.keeps {s s' : Shared} (x : Ext Non s s') : Keeps s s' := by
  obtain ⟨h₁, t₁, rfl, k₁⟩ := x
  exact ⟨h₁, t₁, rfl, fun a o e => k₁ a o (fun q => q) e⟩

/-- μ speaks of what is there alone -/
noncomputable def Fin (μ : Addr → Prop) (h : Heap) : Prop := ∀ a, μ a → a < h.objs.size
theorem Fin.fresh {μ : Addr → Prop} {h : Heap} (x : Fin μ h) : ¬ μ h.objs.size := fun q => Nat.lt_irrefl _ (x _ q)
theorem size_le {P : Addr → Prop} {s s' : Shared} (x : Ext P s s') {a : Addr} (h : ∃ o, s.heap.get? a = some o) (hp : ¬ P a) : a < s'.heap.objs.size := by
  obtain ⟨o, e⟩ := h
  exact Heap.lt_size (x.keep hp e)
/-- μ speaks of objects alone -/
noncomputable def Live (μ : Addr → Prop) (h : Heap) : Prop := ∀ a, μ a → ∃ o, h.get? a = some o
theorem Live.fresh {μ : Addr → Prop} {h : Heap} (x : Live μ h) : ¬ μ h.objs.size := fun q => by obtain ⟨o, e⟩ := x _ q; exact Nat.lt_irrefl _ (Heap.lt_size e)
theorem Live.none {μ : Addr → Prop} {h : Heap} (x : Live μ h) {a : Addr} (e : h.get? a = Option.none) : ¬ μ a := fun q => by obtain ⟨o, e'⟩ := x _ q; rw [e] at e'; cases e'

section
variable {prog : Program} {w : World} {A : Around} {E : Value → Shared → Prop} {s : Shared} {G : Option Gm} {μ : Addr → Prop}

/-- what a step that makes data ends in -/
noncomputable def Made1 (G : Option Gm) (μ : Addr → Prop) (s : Shared) (d : D) : Value → Shared → Prop := fun v s' => Ext Non s s' ∧ Rd G μ s'.heap d v

theorem made_int {s : Shared} {i : Int} {t t' : Nat} : Made1 G μ s (.int i) (.int i t) { s with toks := t' } := ⟨Ext.tok, by simp [Rd]⟩
theorem made_bool {s : Shared} {b : Bool} : Made1 G μ s (.bool b) (.bool b) s := ⟨Ext.refl s, by simp [Rd]⟩

theorem rd_list_push {s : Shared} {ds : List D} {vs : List Value} {t : Nat} (L : Live μ s.heap) (r : RdL G μ s.heap ds vs) :
    Made1 G μ s (.list ds) (.ref s.heap.objs.size) { s with heap := s.heap.push { cls := .type "list", data := .seq vs.toArray }, toks := t } := by
  refine ⟨Ext.push, ?_⟩
  simp only [Rd]
  exact ⟨_, vs, rfl, L.fresh, ⟨_, Heap.get?_push_size _ rfl, rfl, 0, rfl⟩, RdL.stay (fun a o hm e => ⟨hm, Heap.get?_push_of_some _ e⟩) ds vs r⟩
theorem rd_tup_push {s : Shared} {ds : List D} {vs : List Value} {t : Nat} (L : Live μ s.heap) (r : RdL G μ s.heap ds vs) :
    Made1 G μ s (.tup ds) (.ref s.heap.objs.size) { s with heap := s.heap.push { cls := .type "tuple", data := .seq vs.toArray }, toks := t } := by
  refine ⟨Ext.push, ?_⟩
  simp only [Rd]
  exact ⟨_, vs, rfl, L.fresh, ⟨_, Heap.get?_push_size _ rfl, rfl, 0, rfl⟩, RdL.stay (fun a o hm e => ⟨hm, Heap.get?_push_of_some _ e⟩) ds vs r⟩

theorem rdL_ints {h : Heap} : ∀ {ds : List D} {vs : List Value} {ns : List Int}, RdL G μ h ds vs → intsD ds = some ns → IntsAre vs ns
  | [], vs, ns, x, e => by simp only [RdL] at x; subst x; simp only [intsD, Option.some.injEq] at e; subst e; exact .nil
  | d :: ds, vs, ns, x, e => by
    simp only [RdL] at x
    obtain ⟨v, vs', rfl, hv, hr⟩ := x
    cases d with
    | int i =>
      simp only [intsD, Option.map_eq_some_iff] at e
      obtain ⟨ms, hm, rfl⟩ := e
      simp only [Rd] at hv
      obtain ⟨t, rfl⟩ := hv
      exact .cons i t (rdL_ints hr hm)
    | _ => simp [intsD] at e

theorem rdL_of_ints {h : Heap} : ∀ {vs : List Value} {ns : List Int}, IntsAre vs ns → RdL G μ h (ns.map .int) vs
  | _, _, .nil => by simp [RdL]
  | _, _, .cons n t r => by
    simp only [List.map_cons, RdL]
    exact ⟨_, _, rfl, by simp [Rd], rdL_of_ints r⟩

/-! ## two operands -/
theorem rshift_ok {a b : Int} {t u : Tok} {Q : Value → Shared → Prop} (hn : 0 ≤ b) (h : Q (.int (a.fdiv (2 ^ b.toNat)) s.toks) { s with toks := s.toks + 1 }) :
    wpAny (model prog w) A (binaryOp .RShift (.int a t) (.int b u)) Q E s := rshift_int hn h

theorem add_lists' {l b : Addr} {vs ws : List Value} {Q : Value → Shared → Prop} (hl : s.heap.IsList l vs.toArray) (hb : s.heap.IsList b ws.toArray)
    (h : Q (.ref s.heap.objs.size) { s with heap := s.heap.push { cls := .type "list", data := .seq (vs ++ ws).toArray } })
    (hsz : vs.length + ws.length ≤ sizeLine) : wpAny (model prog w) A (binaryOp .Add (.ref l) (.ref b)) Q E s := by
  obtain ⟨⟨c₁, d₁, x₁, s₁⟩, g₁, rfl, n₁, rfl⟩ := hl
  obtain ⟨⟨c₂, d₂, x₂, s₂⟩, g₂, rfl, n₂, rfl⟩ := hb
  have m := list_addW l b vs.toArray ws.toArray n₁ n₂ d₁ d₂ s₁ s₂ (by simpa using hsz)
  refine concat_meets ⟨_, g₁, rfl⟩ ⟨_, g₂, rfl⟩ noFill_list_add seq_list_add PySem.F.slot_list_add PySem.F.entry_list_add (PySem.F.args_list_add_2 _ _) m ⟨g₁, g₂, ?_⟩
  rw [List.append_toArray]
  exact h
theorem mul_list' {l : Addr} {vs : List Value} {x : Int} {u : Tok} {Q : Value → Shared → Prop} (hl : s.heap.IsList l vs.toArray)
    (hlo : -(2 ^ 63 : Int) ≤ x) (hhi : x < 2 ^ 63) (hsz : vs.length * x.toNat ≤ 2 ^ 24)
    (h : ∀ h', (∀ a o, s.heap.get? a = some o → h'.get? a = some o) → h'.IsList s.heap.objs.size (List.replicate x.toNat vs).flatten.toArray → Q (.ref s.heap.objs.size) { s with heap := h' }) :
    wpAny (model prog w) A (binaryOp .Mult (.ref l) (.int x u)) Q E s := by
  obtain ⟨⟨c₁, d₁, x₁, s₁⟩, g₁, rfl, n₁, rfl⟩ := hl
  have hz : vs.toArray.size * x.toNat ≤ 2 ^ 24 := by simpa using hsz
  have m₁ := lm_int_rmul_list_any x u l vs.toArray n₁ d₁ s₁
  have m₂ := lm_list_mul_any l vs.toArray n₁ d₁ s₁ x u (by simp [Builtin.List.listFitsIndex]; omega) (by omega) (by simp [Builtin.List.listTooLong, sizeLine]; omega)
  have T : s.TypeIs (.ref l) "list" := ⟨_, g₁, rfl⟩
  refine wpAny_binaryOp_repeat_ref (T := "list") (U := "int") (by decide) T (fun s' => typeIs_int s' x u) noFill_list_mul F.fills_int_mul F.slot_int_rmul repeat_list F.slot_int_index.lookup
    (call_meets F.slot_int_rmul (typeIs_int s x u) F.entry_int_rmul (F.args_int_rmul_2 _ _) m₁ ⟨g₁, rfl, T, call_meets F.slot_list_mul T F.entry_list_mul (F.args_list_mul_2 _ _) m₂ ⟨g₁, ?_⟩⟩)
  refine h _ (fun _ _ e => Heap.get?_push_of_some _ e) ⟨_, Heap.get?_push_size _ rfl, rfl, 0, ?_⟩
  rw [listMul_foldl_if]

theorem oneInt_eq {xs : List D} {x : Int} (e : oneInt xs = some x) : xs = [.int x] := by
  unfold oneInt at e
  split at e
  · cases e
  · split at e
    · split at e
      · cases e; rfl
      · cases e
    · cases e
theorem binop_sound {op : Operator} {a b c : D} {va vb : Value} (L : Live μ s.heap) (e : binop op a b = some c) (ha : Rd G μ s.heap a va) (hb : Rd G μ s.heap b vb) :
    wpAny (model prog w) A (binaryOp op va vb) (Made1 G μ s c) E s := by
  unfold binop at e
  split at e
  · split at e
    · rename_i a b
      simp only [Rd] at ha hb
      obtain ⟨t, rfl⟩ := ha; obtain ⟨u, rfl⟩ := hb
      unfold binInt at e
      split at e
      · cases e
        exact P.add_int made_int
      · cases e
        exact P.sub_int made_int
      · split at e
        · rename_i hc
          cases e
          refine floordiv_int (by omega) made_int (.inl (PyProof.noPylong_of_log2 ?_))
          have h1 := Nat.log2_lt (n := ‹Int›.natAbs) (k := 67) (by omega)
          omega
        · cases e
      · split at e
        · cases e
        · cases e
          exact mod_int' (by assumption) made_int
      · split at e
        · rename_i hc
          obtain ⟨rfl, hb⟩ := hc
          simp only [small, Bool.and_eq_true, decide_eq_true_eq] at hb
          cases e
          refine pow_int hb.1 ?_ made_int
          have : Builtin.Int.intBits 10 = 4 := by decide +kernel
          rw [this]
          omega
        · cases e
      · split at e
        · rename_i hc
          simp only [small, Bool.and_eq_true, decide_eq_true_eq] at hc
          cases e
          exact rshift_ok hc.2.1 made_int
        · cases e
      · split at e
        · rename_i hc
          obtain ⟨rfl, rfl⟩ := hc
          cases e
          refine and_int ?_
          have : Builtin.bitAnd 0 1 = 0 := by decide +kernel
          rw [this]; exact made_int
        · cases e
      · cases e
    · cases e
  · split at e
    · rename_i xs _ ys
      simp only [Rd] at ha hb
      obtain ⟨l, vs, rfl, hm, hl, hr⟩ := ha
      obtain ⟨l', ws, rfl, hm', hl', hr'⟩ := hb
      unfold binList at e
      split at e
      · split at e
        · cases e
          refine add_lists' hl hl' (rd_list_push L (RdL.append hr hr')) ?_
          rw [hr.length, hr'.length, sizeLine_eq]; omega
        · cases e
      · cases e
    · rename_i xs _ n
      simp only [Rd] at ha hb
      obtain ⟨l, vs, rfl, hm, hl, hr⟩ := ha
      obtain ⟨u, rfl⟩ := hb
      unfold binRep at e
      split at e
      · split at e
        · rename_i x hx
          obtain rfl := oneInt_eq hx
          split at e
          · rename_i hc
            simp only [small, Bool.and_eq_true, decide_eq_true_eq] at hc
            cases e
            simp only [RdL, Rd] at hr
            obtain ⟨v, vs', rfl, ⟨t, rfl⟩, rfl⟩ := hr
            refine mul_list' hl (by omega) (by omega) (by simp; omega) fun h' hk hl' => ?_
            refine ⟨Ext.mk' hk, ?_⟩
            simp only [Rd]
            refine ⟨_, _, rfl, L.fresh, hl', ?_⟩
            have : (List.replicate n.toNat [Value.int x t]).flatten = List.replicate n.toNat (Value.int x t) := by
              generalize n.toNat = k
              induction k with
              | zero => rfl
              | succ k ih => rw [List.replicate_succ, List.replicate_succ, List.flatten_cons, ih]; rfl
            rw [this]
            refine RdL.of_get (by simp) fun i d v h1 h2 => ?_
            rw [List.getElem?_replicate] at h1 h2
            split at h1
            · rw [if_pos (by assumption)] at h2
              cases h1; cases h2; simp [Rd]
            · cases h1
          · cases e
        · cases e
      · cases e
    · cases e
  · cases e
end

section
variable {prog : Program} {w : World} {A : Around} {E : Value → Shared → Prop} {s : Shared} {G : Option Gm} {μ : Addr → Prop}

theorem reads_ints {h : Heap} : ∀ {ds : List D} {vs : List Value} {ns : List Int}, RdL G μ h ds vs → intsD ds = some ns → ReadsAll h vs (ns.map .int) []
  | [], vs, ns, x, e => by simp only [RdL] at x; subst x; simp only [intsD, Option.some.injEq] at e; subst e; exact .nil
  | d :: ds, vs, ns, x, e => by
    simp only [RdL] at x
    obtain ⟨v, vs', rfl, hv, hr⟩ := x
    cases d with
    | int i =>
      simp only [intsD, Option.map_eq_some_iff] at e
      obtain ⟨ms, hm, rfl⟩ := e
      simp only [Rd] at hv
      obtain ⟨t, rfl⟩ := hv
      exact .cons (as := []) (bs := []) (.int i t) (reads_ints hr hm)
    | _ => simp [intsD] at e

theorem canLay_ints : ∀ ns : List Int, PyData.canLayAll0 (ns.map .int) = true
  | [] => rfl
  | n :: ns => by rw [List.map_cons, PyData.canLayAll0, canLay_ints ns]; rfl
theorem depth_ints : ∀ ns : List Int, PyData.depthAll (ns.map .int) = 0
  | [] => rfl
  | n :: ns => by rw [List.map_cons, PyData.depthAll, depth_ints ns]; rfl
theorem eqv_ints : ∀ ms ns : List Int, PyData.eqvAll (ms.map .int) (ns.map .int) = decide (ms = ns)
  | [], [] => rfl
  | [], _ :: _ => by simp [PyData.eqvAll]
  | _ :: _, [] => by simp [PyData.eqvAll]
  | m :: ms, n :: ns => by
    simp only [List.map_cons, PyData.eqvAll, PyData.eqv, eqv_ints ms ns]
    rw [Bool.eq_iff_iff]; simp

/-- the data that == may compare, as the claim's data -/
noncomputable def toPy : D → Option PyData
  | .int a => some (.int a)
  | .bool b => some (.bool b)
  | .tup [.int a, .list xs] => (intsD xs).map fun ns => .tuple [.int a, .list (ns.map .int)]
  | _ => none

theorem reads_of {h : Heap} {d : D} {v : Value} {p : PyData} (r : Rd G μ h d v) (e : toPy d = some p) : (∃ as, Reads h v p as) ∧ p.canLay0 = true ∧ p.depth ≤ 2 := by
  unfold toPy at e
  split at e
  · cases e; simp only [Rd] at r; obtain ⟨t, rfl⟩ := r; exact ⟨⟨_, .int _ _⟩, rfl, by simp [PyData.depth]⟩
  · cases e; simp only [Rd] at r; subst r; exact ⟨⟨_, .bool _⟩, rfl, by simp [PyData.depth]⟩
  · rename_i a xs
    simp only [Option.map_eq_some_iff] at e
    obtain ⟨ns, hn, rfl⟩ := e
    simp only [Rd, RdL] at r
    obtain ⟨l, vs, rfl, hm, ⟨o, ho, hc, k, hd⟩, v, vs', rfl, ⟨t, rfl⟩, v2, vs2, rfl, ⟨l2, ws, rfl, hm2, ⟨o2, ho2, hc2, k2, hd2⟩, hr⟩, rfl⟩ := r
    refine ⟨⟨_, .tuple ho hc hd (.cons (.int a t) (.cons (.list ho2 hc2 hd2 (reads_ints hr hn)) .nil))⟩, ?_, ?_⟩
    · simp only [PyData.canLay0, PyData.canLayAll0, canLay_ints]; rfl
    · simp only [PyData.depth, PyData.depthAll, depth_ints]; decide
  · cases e

theorem pairD_eq {ds : List D} {p : Int × List Int} (e : pairD ds = some p) : ∃ xs, ds = [.int p.1, .list xs] ∧ intsD xs = some p.2 := by
  unfold pairD at e
  split at e
  · cases e
  · split at e
    · split at e
      · cases e
      · split at e
        · split at e
          · obtain ⟨m, hm, rfl⟩ := Option.map_eq_some_iff.mp e
            exact ⟨_, rfl, hm⟩
          · cases e
        · cases e
    · cases e
theorem twoInts_eq {ds : List D} {p : Int × Int} (e : twoInts ds = some p) : ds = [.int p.1, .int p.2] := by
  unfold twoInts at e
  split at e
  · cases e
  · split at e
    · split at e
      · cases e
      · split at e
        · split at e
          · cases e; rfl
          · cases e
        · cases e
    · cases e
theorem cmpEq_py {a b : D} {r : Bool} (e : cmpEq a b = some r) : ∃ p q, toPy a = some p ∧ toPy b = some q ∧ PyData.eqv p q = r := by
  unfold cmpEq at e
  split at e
  · split at e
    · cases e; exact ⟨_, _, rfl, rfl, by simp only [PyData.eqv]; rw [Bool.eq_iff_iff]; simp⟩
    · cases e
  · split at e
    · cases e; exact ⟨_, _, rfl, rfl, by simp only [PyData.eqv]⟩
    · cases e
  · split at e
    · split at e
      · rename_i p hp
        split at e
        · rename_i q hq
          cases e
          obtain ⟨xs, rfl, h1⟩ := pairD_eq hp
          obtain ⟨ys, rfl, h2⟩ := pairD_eq hq
          refine ⟨_, _, by simp only [toPy, h1]; rfl, by simp only [toPy, h2]; rfl, ?_⟩
          simp only [PyData.eqv, PyData.eqvAll, eqv_ints, Bool.and_true]
          rw [Bool.eq_iff_iff]; simp
        · cases e
      · cases e
    · cases e
  · cases e

theorem cmpop_sound {op : CmpOp} {a b c : D} {va vb : Value} (hu : A.units + 8 < cLine) (e : cmpop op a b = some c) (ha : Rd G μ s.heap a va) (hb : Rd G μ s.heap b vb) :
    wpAny (model prog w) A (compareOp op va vb) (Made1 G μ s c) E s := by
  unfold cmpop at e
  split at e
  · simp only [Option.map_eq_some_iff] at e
    obtain ⟨r, hr, rfl⟩ := e
    obtain ⟨p, q, hp, hq, rfl⟩ := cmpEq_py hr
    obtain ⟨⟨as, ra⟩, ca, da⟩ := reads_of ha hp
    obtain ⟨⟨bs, rb⟩, cb, db⟩ := reads_of hb hq
    exact SeqAt.compareEq_reads ra rb ca cb (by omega) made_bool
  · simp only [Option.map_eq_some_iff] at e
    obtain ⟨r, hr, rfl⟩ := e
    obtain ⟨p, q, hp, hq, rfl⟩ := cmpEq_py hr
    obtain ⟨⟨as, ra⟩, ca, da⟩ := reads_of ha hp
    obtain ⟨⟨bs, rb⟩, cb, db⟩ := reads_of hb hq
    exact SeqAt.compareNe_reads ra rb ca cb (by omega) made_bool
  · unfold cmpIs at e
    split at e
    · obtain ⟨q, hq, rfl⟩ := Option.map_eq_some_iff.mp e
      unfold isNone? at hq
      split at hq
      · cases hq; simp only [Rd] at ha hb; subst ha hb; exact is_none made_bool
      · cases hq; simp only [Rd] at ha hb; obtain ⟨l, vs, rfl, _⟩ := ha; subst hb; exact is_none made_bool
      · cases hq
    · cases e
  · unfold cmpIn at e
    split at e
    · split at e
      · rename_i x _ es
        obtain ⟨⟨y, z⟩, hq, rfl⟩ := Option.map_eq_some_iff.mp e
        obtain rfl := twoInts_eq hq
        simp only [Rd, RdL] at ha hb
        obtain ⟨t, rfl⟩ := ha
        obtain ⟨l, vs, rfl, hm, hl, v1, vs1, rfl, ⟨t1, rfl⟩, v2, vs2, rfl, ⟨t2, rfl⟩, rfl⟩ := hb
        refine in_tuple_ints hl (.cons _ _ (.cons _ _ .nil)) ?_
        have : ([y, z].any (· == x)) = (decide (x = y) || decide (x = z)) := by
          simp only [List.any_cons, List.any_nil, Bool.or_false]
          rw [Bool.eq_iff_iff]
          simp only [Bool.or_eq_true, beq_iff_eq, decide_eq_true_eq]
          constructor
          · rintro (h | h)
            · exact .inl h.symm
            · exact .inr h.symm
          · rintro (h | h)
            · exact .inl h.symm
            · exact .inr h.symm
        rw [this]
        exact made_bool
      · cases e
    · cases e
  · obtain ⟨⟨x, y⟩, h1, h2⟩ := Option.bind_eq_some_iff.mp e
    unfold bothInt at h1
    split at h1
    · split at h1
      · cases h1
        simp only [Rd] at ha hb; obtain ⟨t, rfl⟩ := ha; obtain ⟨u, rfl⟩ := hb
        dsimp only at h2
        unfold cmpInt at h2
        split at h2
        · cases h2; exact P.lt_int made_bool
        · cases h2; exact P.le_int made_bool
        · cases h2; exact P.gt_int made_bool
        · cases h2; exact P.ge_int made_bool
        · cases h2
      · cases h1
    · cases h1

theorem truth_sound {a : D} {b : Bool} {va : Value} (e : truth a = some b) (ha : Rd G μ s.heap a va) :
    wpAny (model prog w) A (truthy va) (fun c s' => c = b ∧ Ext Non s s') E s := by
  unfold truth at e
  split at e
  · cases e; simp only [Rd] at ha; subst ha; exact wpAny_truthy_bool ⟨rfl, Ext.refl s⟩
  · rename_i xs
    split at e
    · rename_i h1
      cases e
      simp only [Rd] at ha
      obtain ⟨l, vs, rfl, hm, hl, hr⟩ := ha
      have h2 := hr.length
      refine wpAny_truthy_list hl (by rw [List.size_toArray, h2]; omega) ⟨?_, Ext.tok⟩
      cases xs with
      | nil => simp only [RdL] at hr; subst hr; rfl
      | cons x r => cases vs with
        | nil => simp at h2
        | cons => rfl
    · cases e
  · cases e

theorem idx_seq {n : Nat} {i : Int} : idx n i = seqIndex? i n := by
  unfold idx seqIndex?
  by_cases h : 0 ≤ i
  · rw [if_pos h, if_neg (show ¬ i < 0 by omega)]
    by_cases h2 : i < n
    · simp [h, h2]
    · simp [h2]
  · rw [if_neg h, if_pos (show i < 0 by omega)]
    by_cases h2 : 0 ≤ i + n
    · have h3 : i + n < n := by omega
      simp [h2, h3]
    · simp [h2]

theorem idx_lt {n : Nat} {i : Int} {j : Nat} (e : idx n i = some j) : j < n ∧ -(n : Int) ≤ i ∧ i < n ∧ (0 ≤ i → j = i.toNat) ∧ (i < 0 → j = (i + n).toNat) := by
  unfold idx at e
  split at e
  · split at e
    · cases e; omega
    · cases e
  · split at e
    · cases e; omega
    · cases e

theorem getItem_list' {l : Addr} {vs : List Value} {k : Int} {t : Tok} {x : Value} {j : Nat} {Q : Value → Shared → Prop} (hl : s.heap.IsList l vs.toArray) (hsz : vs.length ≤ 10000)
    (hj : idx vs.length k = some j) (hx : vs[j]? = some x) (h : Q x s) : wpAny (model prog w) A (getItem (.ref l) (.int k t)) Q E s := by
  obtain ⟨h1, h2, h3, h4, h5⟩ := idx_lt hj
  by_cases h0 : 0 ≤ k
  · obtain rfl := h4 h0
    exact wpAny_getItem_list hl h0 (by omega) (by simpa using hx) h
  · obtain rfl := h5 (by omega)
    exact wpAny_getItem_list_neg hl (by omega) (by simpa using h2) (by omega) (by simpa using hx) h

theorem sub_eq {slice : Expr} {o i : Value} (h : noSlice slice = true) : subscripted slice false o i = operate [o, i] (getItem o i) := by
  cases slice <;> first | rfl | cases h

/-- the game as the heap bears it -/
noncomputable def PathAt (g : Gm) (h : Heap) (π : List Int) : Prop := ∃ vs n, h.get? g.pa = some { cls := .type "list", data := .seq vs.toArray n } ∧ IntsAre vs π

theorem item_sound {a b c : D} {va vb : Value} {value slice : Expr} {π : List Int} (hs : noSlice slice = true) (e : item a b π = some c) (ha : Rd G μ s.heap a va) (hb : Rd G μ s.heap b vb)
    (hp : ∀ g, G = some g → PathAt g s.heap π) : wpAny (model prog w) A (subscriptTail value slice va vb) (Made1 G μ s c) E s := by
  unfold item at e
  split at e
  · split at e
    · rename_i hz
      obtain ⟨j, hj, hx⟩ := Option.bind_eq_some_iff.mp e
      simp only [Rd] at ha hb
      obtain ⟨l, vs, rfl, hm, hl, hr⟩ := ha
      obtain ⟨t, rfl⟩ := hb
      obtain ⟨v, hv, hd⟩ := hr.get j c hx
      have hlen := hr.length
      exact tail_any hl.typeIs slot_list_getitem.lookup (getItem_list' hl (by omega) (by rw [hlen]; exact hj) hv ⟨Ext.refl s, hd⟩) (sub_eq hs)
    · cases e
  · split at e
    · rename_i hz
      obtain ⟨j, hj, hx⟩ := Option.bind_eq_some_iff.mp e
      simp only [Rd] at ha hb
      obtain ⟨l, vs, rfl, hm, hl, hr⟩ := ha
      obtain ⟨t, rfl⟩ := hb
      obtain ⟨v, hv, hd⟩ := hr.get j c hx
      have hlen := hr.length
      obtain ⟨h1, h2, h3, _, _⟩ := idx_lt hj
      refine tail_any hl.typeIs slot_tuple_getitem.lookup (getItem_tuple hl (by omega) (by omega) ?_ (by simpa using hv) ⟨Ext.refl s, hd⟩) (sub_eq hs)
      rw [← idx_seq, List.size_toArray, hlen]; exact hj
    · cases e
  · split at e
    · rename_i hz
      obtain ⟨j, hj, hx⟩ := Option.bind_eq_some_iff.mp e
      obtain ⟨i, hi, rfl⟩ := Option.map_eq_some_iff.mp hx
      simp only [Rd] at ha hb
      obtain ⟨g, hg, rfl⟩ := ha
      obtain ⟨t, rfl⟩ := hb
      obtain ⟨vs, n, ho, hv⟩ := hp g hg
      have hl : s.heap.IsList g.pa vs.toArray := ⟨_, ho, rfl, n, rfl⟩
      have hlen := hv.length
      obtain ⟨t', hv'⟩ := hv.get j i hi
      exact tail_any hl.typeIs slot_list_getitem.lookup (getItem_list' hl (by omega) (by rw [hlen]; exact hj) hv' ⟨Ext.refl s, by simp [Rd]⟩) (sub_eq hs)
    · cases e
  · cases e

/-! ## the built-in functions -/
noncomputable def biVal (f : Str) : Option Value :=
  if f = Str.ofString "len" then some (.builtin "len")
  else if f = Str.ofString "min" then some (.builtin "min")
  else if f = Str.ofString "max" then some (.builtin "max")
  else if f = Str.ofString "range" then some (.type "range")
  else if f = Str.ofString "list" then some (.type "list")
  else none

theorem intItems_of {vs : List Value} {ns : List Int} (h : IntsAre vs ns) : ∃ xs : Array (Int × Tok), vs.toArray = intItems xs ∧ xs.toList.map (·.1) = ns := by
  induction h with
  | nil => exact ⟨#[], by simp [intItems], rfl⟩
  | cons n t r ih =>
    obtain ⟨xs, e1, e2⟩ := ih
    refine ⟨(((n, t) :: xs.toList).toArray), ?_, by simp [e2]⟩
    have : ∀ {vs : List Value}, vs.toArray = intItems xs → vs = xs.toList.map fun p => Value.int p.1 p.2 := fun e => by
      have := congrArg Array.toList e
      simpa [intItems] using this
    rw [this e1]
    simp [intItems]

theorem foldl_max (ns : List Int) : ∀ x : Int, (∃ y ∈ x :: ns, ns.foldl (fun m y => if y > m then y else m) x = y) ∧ ∀ y ∈ x :: ns, y ≤ ns.foldl (fun m y => if y > m then y else m) x := by
  induction ns with
  | nil => intro x; simp
  | cons n r ih =>
    intro x
    have h1 : x ≤ (if n > x then n else x) ∧ n ≤ (if n > x then n else x) ∧ ((if n > x then n else x) = n ∨ (if n > x then n else x) = x) := by
      by_cases c : n > x
      · rw [if_pos c]; omega
      · rw [if_neg c]; omega
    simp only [List.foldl_cons]
    generalize (if n > x then n else x) = z at h1
    obtain ⟨⟨y, hy, e⟩, hle⟩ := ih z
    refine ⟨⟨y, ?_, e⟩, fun a ha => ?_⟩
    · rcases List.mem_cons.mp hy with rfl | hy
      · rcases h1.2.2 with rfl | rfl <;> simp
      · simp [hy]
    · have h0 := hle _ (List.mem_cons_self)
      rcases List.mem_cons.mp ha with rfl | ha
      · omega
      · rcases List.mem_cons.mp ha with rfl | ha
        · omega
        · exact hle a (List.mem_cons_of_mem _ ha)

theorem max_list' {l : Addr} {vs : List Value} {ns : List Int} {m : Int} {Q : Value → Shared → Prop} (hh : A.handled = none) (hl : s.heap.IsList l vs.toArray) (hi : IntsAre vs ns) (hm : maxL ns = some m)
    (h : ∀ h' t tk, (∀ b o, s.heap.get? b = some o → h'.get? b = some o) → Q (.int m t) { s with heap := h', toks := tk }) : wpAny (model prog w) A (call (.builtin "max") [.ref l]) Q E s := by
  obtain ⟨xs, e1, e2⟩ := intItems_of hi
  rw [e1] at hl
  cases ns with
  | nil => cases hm
  | cons n r =>
    have hlen : xs.size = r.length + 1 := by have := congrArg List.length e2; simpa using this
    refine max_intList hh hl (by omega) fun v h' tk hv hk => ?_
    obtain ⟨t, rfl⟩ := intItems_at hv
    obtain ⟨h1, h2⟩ := argBest_gt (numAt xs) (xs.size - 1)
    have : numAt xs (argBest (fun i j => decide (numAt xs i > numAt xs j)) (xs.size - 1)) = m := by
      simp only [maxL, Option.some.injEq] at hm
      obtain ⟨⟨y, hy, e⟩, hle⟩ := foldl_max r n
      rw [hm] at e hle
      have num : ∀ i, i < xs.size → ∃ y, (n :: r)[i]? = some y ∧ numAt xs i = y := fun i hi => by
        refine ⟨_, ?_, rfl⟩
        rw [← e2]; simp [numAt, hi]
      apply Int.le_antisymm
      · obtain ⟨z, hz, e'⟩ := num (argBest (fun i j => decide (numAt xs i > numAt xs j)) (xs.size - 1)) (by omega)
        rw [e']; exact hle z (List.mem_of_getElem? hz)
      · subst e
        obtain ⟨i, hi⟩ := List.getElem?_of_mem hy
        have hi' : i < xs.size := by
          have := (List.getElem?_eq_some_iff.mp hi).1
          simp at this; omega
        obtain ⟨z, hz, e'⟩ := num i hi'
        rw [hi] at hz; cases hz
        rw [← e']; exact h2 i (by omega)
    rw [this]
    exact h h' t tk hk

theorem builtin_sound {f : Str} {args : List D} {π : List Int} {d : D} {fv : Value} {vals : List Value} (L : Live μ s.heap) (hh : A.handled = none) (hf : biVal f = some fv) (e : builtin f args π = some d) (r : RdL G μ s.heap args vals)
    (hp : ∀ g, G = some g → PathAt g s.heap π) : wpAny (model prog w) A (call fv vals) (Made1 G μ s d) E s := by
  unfold builtin at e
  unfold biVal at hf
  split at e
  · rw [if_pos (by assumption)] at hf
    cases hf
    split at e
    · split at e
      · rename_i xs hz
        cases e
        simp only [RdL, Rd] at r
        obtain ⟨v, vs', rfl, ⟨l, vs, rfl, hm, hl, hr⟩, rfl⟩ := r
        have hlen := hr.length
        refine Calls.call_len_list hl (by rw [List.size_toArray]; omega) ?_
        rw [List.size_toArray, hlen]
        exact made_int
      · cases e
    · split at e
      · rename_i hz
        cases e
        simp only [RdL, Rd] at r
        obtain ⟨v, vs', rfl, ⟨g, hg, rfl⟩, rfl⟩ := r
        obtain ⟨vs, n, ho, hv⟩ := hp g hg
        have hl : s.heap.IsList g.pa vs.toArray := ⟨_, ho, rfl, n, rfl⟩
        have hlen := hv.length
        refine Calls.call_len_list hl (by rw [List.size_toArray]; omega) ?_
        rw [List.size_toArray, hlen]
        exact made_int
      · cases e
    · cases e
  · rename_i n1
    rw [if_neg n1] at hf
    split at e
    · rw [if_pos (by assumption)] at hf
      cases hf
      split at e
      · cases e
        simp only [RdL, Rd] at r
        obtain ⟨v, vs', rfl, ⟨t, rfl⟩, v2, vs2, rfl, ⟨t2, rfl⟩, rfl⟩ := r
        refine min_two_ints hh fun h' tk hk => ⟨Ext.mk' hk, ?_⟩
        split <;> simp [Rd]
      · cases e
    · rename_i n2
      rw [if_neg n2] at hf
      split at e
      · rw [if_pos (by assumption)] at hf
        cases hf
        split at e
        · cases e
          simp only [RdL, Rd] at r
          obtain ⟨v, vs', rfl, ⟨t, rfl⟩, v2, vs2, rfl, ⟨t2, rfl⟩, rfl⟩ := r
          refine max_two_ints hh fun h' tk hk => ⟨Ext.mk' hk, ?_⟩
          split <;> simp [Rd]
        · split at e
          · obtain ⟨ns, hn, h2⟩ := Option.bind_eq_some_iff.mp e
            obtain ⟨m, hm, rfl⟩ := Option.map_eq_some_iff.mp h2
            simp only [RdL, Rd] at r
            obtain ⟨v, vs', rfl, ⟨l, vs, rfl, hm', hl, hr⟩, rfl⟩ := r
            exact max_list' hh hl (rdL_ints hr hn) hm fun h' t tk hk => ⟨Ext.mk' hk, by simp [Rd]⟩
          · cases e
        · cases e
      · rename_i n3
        rw [if_neg n3] at hf
        split at e
        · rw [if_pos (by assumption)] at hf
          cases hf
          split at e
          · cases e
            simp only [RdL, Rd] at r
            obtain ⟨v, vs', rfl, ⟨t, rfl⟩, rfl⟩ := r
            refine call_range_1 ⟨Ext.push, ?_⟩
            simp only [Rd]
            exact ⟨_, _, _, _, rfl, L.fresh, IsRange.new ..⟩
          · cases e
            simp only [RdL, Rd] at r
            obtain ⟨v, vs', rfl, ⟨t, rfl⟩, v2, vs2, rfl, ⟨t2, rfl⟩, rfl⟩ := r
            refine call_range_2 ⟨Ext.push, ?_⟩
            simp only [Rd]
            exact ⟨_, _, _, _, rfl, L.fresh, IsRange.new ..⟩
          · cases e
        · rename_i n4
          rw [if_neg n4] at hf
          split at e
          · rw [if_pos (by assumption)] at hf
            cases hf
            split at e
            · rename_i a b
              obtain ⟨ys, hy, rfl⟩ := Option.map_eq_some_iff.mp e
              simp only [itemsOf] at hy
              split at hy
              · rename_i hz
                cases hy
                simp only [RdL, Rd] at r
                obtain ⟨v, vs', rfl, ⟨l, t, u, w', rfl, hm, hr⟩, rfl⟩ := r
                refine call_list_range (n := (b - a).toNat) hh hr (small_one (by omega) (by omega) (by omega) (by omega)) (by rw [rangeSize_one]; split <;> omega) (by omega) fun h' tk acc' c' hk hS hacc => ⟨Ext.mk' hk, ?_⟩
                simp only [Rd]
                refine ⟨_, acc'.toList, rfl, L.fresh, ⟨_, hS, rfl, c', rfl⟩, RdL.of_get (by simp [hacc.1]) fun i d v h1 h2 => ?_⟩
                obtain ⟨t', rfl⟩ := hacc.2 i v (by simpa using h2)
                simp only [List.getElem?_map, Option.map_eq_some_iff] at h1
                obtain ⟨j, hj, rfl⟩ := h1
                rw [List.getElem?_range] at hj
                · cases hj; simp [Rd]
                · have := (List.getElem?_eq_some_iff.mp h2).1
                  simp [hacc.1] at this; omega
              · cases hy
            · cases e
          · cases e
end


/-- what the run of the top has left: the ground under every call -/
structure Cx (cf : Cf) (fns : Str → Option Fn) where
  h₀ : Heap
  K : Frag
  C : Addr
  adr : Str → Option Addr
  mg : Str → Option Value
  mb : Str → Option Value
  X : K.In h₀
  nolimit : h₀.NoLimit
  g : h₀.Ns mainGlobals mg
  b : h₀.Ns builtinsNs mb
  gint : ∀ x i, cf.gint x = some i → ∃ t, mg x = some (.int i t)
  gfun : ∀ x key, cf.gfun x = some key → ∃ f, adr key = some f ∧ mg x = some (.ref f)
  gbi : ∀ x v, cf.gfun x = none → biVal x = some v → mg x = none ∧ mb x = some v
  meth : ∀ m key, cf.meth m = some key → ∃ f, adr key = some f ∧ findIn K (.ref C) m = some (some (.ref f)) ∧ isFn K (.ref f) = true ∧ plainGet K C m = true
  fld : ∀ m d, cf.fld m = some d → plainGet K C m = true ∧ hasDictIn K C = true ∧ ∃ a, findIn K (.ref C) m = some a ∧ noGet K a = true
  fn : ∀ key f, adr key = some f → ∃ (o : Obj) (fd : FuncData) (F : Fn), fns key = some F ∧ h₀.get? f = some o ∧ o.data = .func fd ∧ h₀.CodeRec fd.code fd.qualname ∧ fd.body = .stmts F.body ∧ fd.scope = F.scope ∧
    fd.globals = mainGlobals ∧ fd.builtins = builtinsNs ∧ fd.closure = [] ∧ F.scope.kind = .function ∧ F.scope.isCoroutine = false ∧ F.scope.isGenerator = false ∧
    (∀ vals : List Value, vals.length = F.params.length → bindArgs fd ⟨vals, []⟩ = pure (F.params.zip vals)) ∧ F.params.Nodup ∧
    (∀ x ∈ F.params, F.scope.names.lookup x = some .local ∨ F.scope.names.lookup x = some .cell) ∧ (F.scope.names.map (·.1)).Nodup ∧ (∀ x, F.scope.names.lookup x ≠ some .free)

section
variable {cf : Cf} {fns : Str → Option Fn} (cx : Cx cf fns) (G : Option Gm)

/-- the path's list alone may turn -/
noncomputable def PP (G : Option Gm) (a : Addr) : Prop := ∃ g, G = some g ∧ a = g.pa

/-- the game stands, the path is π -/
noncomputable def Inv (μ : Addr → Prop) (h : Heap) (π : List Int) : Prop := ∀ g, G = some g → ∃ (da : Addr) (es : List DictEntry) (n : Nat),
  h.get? g.ga = some (instObj cx.C da) ∧ h.get? da = some (dictOf es n) ∧ ¬ μ g.ga ∧ ¬ μ da ∧ μ g.pa ∧ PathAt g h π ∧
  (∀ m d, cf.fld m = some d → ∃ v, getL m es = some (some v) ∧ Rd G μ h d v) ∧ (∀ m key, cf.meth m = some key → getL m es = some none)

structure AOk (A : Around) (N : Nat) : Prop where
  handled : A.handled = none
  depth : A.depth + N < recursionLimit
  units : A.units + 16 * N + 16 < cLine

/-- a local's value -/
noncomputable def Bd (env : Env) (h : Heap) (x : Str) (v : Value) : Prop := match env.kindOf x with
  | some .local => ∃ m, h.Ns env.locals m ∧ m x = some v
  | some .cell | some .free => ∃ c, env.cells.lookup x = some c ∧ h.IsCell c (some v)
  | _ => False
/-- a frame's own places -/
noncomputable def fa (env : Env) (a : Addr) : Prop := a = env.locals ∨ ∃ x, env.cells.lookup x = some a

structure EvC (μ : Addr → Prop) (κ : Str → Option NameKind) (ρ : Str → Option D) (env : Env) (h : Heap) : Prop where
  kind : env.scope.kind = .function
  glob : env.globals = mainGlobals
  bi : env.builtins = builtinsNs
  kk : ∀ x, env.kindOf x = κ x ∨ (κ x = some .free ∧ env.kindOf x = some .cell)
  kc : ∀ x, (κ x = some .cell ∨ κ x = some .free) → ∃ c, env.cells.lookup x = some c
  base : ∀ a o, cx.h₀.get? a = some o → h.get? a = some o
  off : ∀ a o, cx.h₀.get? a = some o → ¬ PP G a
  live : Live μ h
  apart : ∀ a, fa env a → ¬ PP G a
  vars : ∀ x d, isVar κ x = true → ρ x = some d → ∃ v, Bd env h x v ∧ Rd G μ h d v

noncomputable def Post (μ : Addr → Prop) (s : Shared) (π : List Int) (d : D) : Value → Shared → Prop := fun v s' => Ext (PP G) s s' ∧ Inv cx G μ s'.heap π ∧ Rd G μ s'.heap d v
noncomputable def PostL (μ : Addr → Prop) (s : Shared) (π : List Int) (ds : List D) : List Value → Shared → Prop := fun vs s' => Ext (PP G) s s' ∧ Inv cx G μ s'.heap π ∧ RdL G μ s'.heap ds vs
noncomputable def PostB (μ : Addr → Prop) (s : Shared) (π : List Int) (d : D) : Bool → Shared → Prop := fun b s' => d = .bool b ∧ Ext (PP G) s s' ∧ Inv cx G μ s'.heap π

/-- the defs do what their meaning says -/
noncomputable def SoundM (N : Nat) (Φ : Mean) : Prop := ∀ key args π d π', Φ key args π = some (d, π') → ∀ f, cx.adr key = some f →
  ∀ (prog : Program) (w : World) (A : Around) (s : Shared) (μ : Addr → Prop) (vals : List Value) (E : Value → Shared → Prop), AOk A N →
    (∀ a o, cx.h₀.get? a = some o → s.heap.get? a = some o) → (∀ a o, cx.h₀.get? a = some o → ¬ PP G a) → Live μ s.heap → Inv cx G μ s.heap π → RdL G μ s.heap args vals →
    wpAny (model prog w) A (call (.ref f) vals) (Post cx G μ s π' d) E s
end

section
variable {cf : Cf} {fns : Str → Option Fn} {cx : Cx cf fns} {G : Option Gm} {μ : Addr → Prop} {κ : Str → Option NameKind} {ρ : Str → Option D} {env : Env}

theorem Inv.path {h : Heap} {π : List Int} (I : Inv cx G μ h π) : ∀ g, G = some g → PathAt g h π := fun g hg => by
  obtain ⟨da, es, n, _, _, _, _, _, p, _⟩ := I g hg
  exact p
theorem Inv.sub {h : Heap} {π : List Int} (I : Inv cx G μ h π) : ∀ a, PP G a → μ a := by
  rintro a ⟨g, hg, rfl⟩
  obtain ⟨da, es, n, _, _, _, _, q, _⟩ := I g hg
  exact q
theorem Inv.at {h : Heap} {π : List Int} (I : Inv cx G μ h π) : ∀ a, PP G a → ∃ o, h.get? a = some o := by
  rintro a ⟨g, hg, rfl⟩
  obtain ⟨vs, n, e, _⟩ := I.path g hg
  exact ⟨_, e⟩
/-- the game stands where all but the frames' own places stay -/
theorem Inv.stay {μ' : Addr → Prop} {h h' : Heap} {π : List Int} (I : Inv cx G μ h π) (k : Stay μ μ' h h') (hp : ∀ g, G = some g → h'.get? g.pa = h.get? g.pa ∧ μ' g.pa) : Inv cx G μ' h' π := by
  intro g hg
  obtain ⟨da, es, n, h1, h2, m1, m2, m3, p, f, t⟩ := I g hg
  obtain ⟨e, m3'⟩ := hp g hg
  obtain ⟨k1, k1'⟩ := k _ _ m1 h1
  obtain ⟨k2, k2'⟩ := k _ _ m2 h2
  refine ⟨da, es, n, k1', k2', k1, k2, m3', ?_, fun m d hd => ?_, t⟩
  · obtain ⟨vs, k, e', hv⟩ := p
    exact ⟨vs, k, e.trans e', hv⟩
  · obtain ⟨v, hv, hr⟩ := f m d hd
    exact ⟨v, hv, Rd.stay k d v hr⟩
theorem Inv.ext {s s' : Shared} {π : List Int} (I : Inv cx G μ s.heap π) (x : Ext Non s s') : Inv cx G μ s'.heap π :=
  I.stay (fun a o hm e => ⟨hm, x.keep id e⟩) fun g hg => by
    obtain ⟨vs, n, e, _⟩ := I.path g hg
    exact ⟨(x.keep id e).trans e.symm, I.sub _ ⟨g, hg, rfl⟩⟩

theorem Made1.post {s : Shared} {π : List Int} {d : D} {v : Value} {s' : Shared} (I : Inv cx G μ s.heap π) (x : Made1 G μ s d v s') : Post cx G μ s π d v s' := ⟨x.1.wide, I.ext x.1, x.2⟩

theorem Bd.ext {h h' : Heap} {x : Str} {v : Value} (b : Bd env h x v) (k : ∀ a o, fa env a → h.get? a = some o → h'.get? a = some o) : Bd env h' x v := by
  unfold Bd at b ⊢
  split at b
  · obtain ⟨m, ⟨o, es, ep, ho, r⟩, hv⟩ := b
    exact ⟨m, ⟨o, es, ep, k _ _ (.inl rfl) ho, r⟩, hv⟩
  · obtain ⟨c, hc, o, ho, hd⟩ := b
    exact ⟨c, hc, o, k _ _ (.inr ⟨x, hc⟩) ho, hd⟩
  · obtain ⟨c, hc, o, ho, hd⟩ := b
    exact ⟨c, hc, o, k _ _ (.inr ⟨x, hc⟩) ho, hd⟩
  · exact b.elim

theorem EvC.ext {s s' : Shared} {π : List Int} (c : EvC cx G μ κ ρ env s.heap) (x : Ext (PP G) s s') (I : Inv cx G μ s'.heap π) : EvC cx G μ κ ρ env s'.heap where
  kind := c.kind
  glob := c.glob
  bi := c.bi
  kk := c.kk
  kc := c.kc
  base := fun a o e => x.keep (c.off a o e) (c.base a o e)
  off := c.off
  live := fun a ha => by
    by_cases hp : PP G a
    · exact I.at a hp
    · obtain ⟨o, e⟩ := c.live a ha; exact ⟨o, x.keep hp e⟩
  apart := c.apart
  vars := fun y d hy hd => by
    obtain ⟨v, hb, hr⟩ := c.vars y d hy hd
    exact ⟨v, hb.ext fun a o ha e => x.keep (c.apart a ha) e, Rd.stay (x.stay I.sub) d v hr⟩

theorem isVar_ok {x : Str} (h : isVar κ x = true) : (x == ("__debug__" : Str)) = false ∧ (x == ("__classdict__" : Str)) = false := by
  unfold isVar okName at h
  simp only [Bool.and_eq_true, Bool.not_eq_true'] at h
  exact h.2
theorem isGlob_ok {x : Str} (h : isGlob κ x = true) : (x == ("__debug__" : Str)) = false := by
  unfold isGlob okName at h
  simp only [Bool.and_eq_true, Bool.not_eq_true'] at h
  exact h.2.1

section
variable {prog : Program} {w : World} {A : Around} {E : Value → Shared → Prop} {s : Shared}

theorem load_var {x : Str} {pos : Pos} {v : Value} {Q : Value → Shared → Prop} (hk : env.scope.kind = .function) (ho : (x == ("__debug__" : Str)) = false ∧ (x == ("__classdict__" : Str)) = false)
    (b : Bd env s.heap x v) (h : Q v s) : wpAny (model prog w) A (eval (.Name x pos) env) Q E s := by
  refine wpAny_Name ?_ ho.1
  unfold Bd at b
  split at b
  · obtain ⟨m, hn, hv⟩ := b
    exact wpAny_loadName_local hk (by assumption) hn hv h
  · obtain ⟨c, hc, hv⟩ := b
    exact wpAny_loadName_cell hk (by assumption) hc hv h
  · obtain ⟨c, hc, hv⟩ := b
    exact wpAny_loadName_free hk (by assumption) hc hv h ho.2
  · exact b.elim

theorem isGlob_kind {x : Str} (h : isGlob κ x = true) : κ x = some .globalImplicit := by
  unfold isGlob at h
  rw [Bool.and_eq_true] at h
  have h1 := h.1
  split at h1
  · assumption
  · cases h1
theorem EvC.kg (c : EvC cx G μ κ ρ env s.heap) {x : Str} (h : isGlob κ x = true) : env.kindOf x = some .globalImplicit := by
  have h1 := isGlob_kind h
  rcases c.kk x with e | ⟨e, _⟩
  · rw [e, h1]
  · rw [h1] at e; cases e
theorem load_glob {x : Str} {pos : Pos} {v : Value} {Q : Value → Shared → Prop} (c : EvC cx G μ κ ρ env s.heap) (hx : isGlob κ x = true) (hv : cx.mg x = some v) (h : Q v s) :
    wpAny (model prog w) A (eval (.Name x pos) env) Q E s :=
  Calls.Name_function_global c.kind (c.kg hx) (Calls.loadGlobal_global (mg := cx.mg) (by rw [c.glob]; exact cx.g.keeps c.base) hv h) (isGlob_ok hx)
theorem load_built {x : Str} {pos : Pos} {v : Value} {Q : Value → Shared → Prop} (c : EvC cx G μ κ ρ env s.heap) (hx : isGlob κ x = true) (hg : cx.mg x = none) (hv : cx.mb x = some v) (h : Q v s) :
    wpAny (model prog w) A (eval (.Name x pos) env) Q E s :=
  Calls.Name_function_global c.kind (c.kg hx) (Calls.loadGlobal_builtin (mg := cx.mg) (mb := cx.mb) (by rw [c.glob]; exact cx.g.keeps c.base) hg (by rw [c.bi]; exact cx.b.keeps c.base) hv h) (isGlob_ok hx)

/-- what an expression's meaning says of its tree -/
noncomputable def SndE (cx : Cx cf fns) (G : Option Gm) (N : Nat) (f : Expr → List Int → Option (D × List Int)) (κ : Str → Option NameKind) (ρ : Str → Option D) : Prop :=
  ∀ e π d π', f e π = some (d, π') → ∀ (prog : Program) (w : World) (A : Around) (env : Env) (s : Shared) (μ : Addr → Prop) (E : Value → Shared → Prop), AOk A N → EvC cx G μ κ ρ env s.heap → Inv cx G μ s.heap π →
    wpAny (model prog w) A (eval e env) (Post cx G μ s π' d) E s
noncomputable def SndT (cx : Cx cf fns) (G : Option Gm) (N : Nat) (f : Expr → List Int → Option (D × List Int)) (κ : Str → Option NameKind) (ρ : Str → Option D) : Prop :=
  ∀ e π d π', f e π = some (d, π') → ∀ (prog : Program) (w : World) (A : Around) (env : Env) (s : Shared) (μ : Addr → Prop) (E : Value → Shared → Prop), AOk A N → EvC cx G μ κ ρ env s.heap → Inv cx G μ s.heap π →
    wpAny (model prog w) A (isTrue e env (eval e env)) (PostB cx G μ s π' d) E s

theorem star_cons {e : Expr} {r : List Expr} {env : Env} (h : noStar e = true) : starEach (e :: r) env = (false, eval e env) :: starEach r env := by
  cases e <;> first | rfl | cases h

theorem star_any {es : List Expr} {env : Env} {pos : Pos} (h : es.all noStar = true) : (backTo pos (starEach es env)).any (·.1) = false := by
  induction es with
  | nil => rfl
  | cons e r ih =>
    simp only [List.all_cons, Bool.and_eq_true] at h
    rw [star_cons h.1]
    show (false || (backTo pos (starEach r env)).any (·.1)) = false
    rw [ih h.2]; rfl
theorem star_len {es : List Expr} {env : Env} {pos : Pos} (h : es.all noStar = true) : (backTo pos (starEach es env)).length = es.length := by
  induction es with
  | nil => rfl
  | cons e r ih =>
    simp only [List.all_cons, Bool.and_eq_true] at h
    rw [star_cons h.1]
    show (backTo pos (starEach r env)).length + 1 = r.length + 1
    rw [ih h.2]

theorem list_sound {N : Nat} {f : Expr → List Int → Option (D × List Int)} (S : SndE cx G N f κ ρ) (hA : AOk A N) {pos : Pos} : ∀ {es : List Expr} {π π' : List Int} {ds : List D} {s : Shared}, es.all noStar = true → evList f es π = some (ds, π') → EvC cx G μ κ ρ env s.heap → Inv cx G μ s.heap π →
    wpAny (model prog w) A (spliced (backTo pos (starEach es env))) (PostL cx G μ s π' ds) E s
  | [], π, π', ds, s, _, e, c, I => by
    simp only [evList, Option.some.injEq, Prod.mk.injEq] at e
    obtain ⟨rfl, rfl⟩ := e
    exact args_nil ⟨Ext.refl s, I, by simp [RdL]⟩
  | e₀ :: r, π, π', ds, s, hn, e, c, I => by
    simp only [List.all_cons, Bool.and_eq_true] at hn
    simp only [evList] at e
    split at e
    · cases e
    · rename_i d π₁ h1
      split at e
      · cases e
      · rename_i ds' π₂ h2
        cases e
        refine args_cons (wpAny_mono (S e₀ π d π₁ h1 prog w A env s μ E hA c I) (fun v s₁ x => ?_) fun _ _ e => e) (star_cons hn.1)
        obtain ⟨x1, I1, r1⟩ := x
        refine wpAny_mono (list_sound S hA (pos := pos) hn.2 h2 (c.ext x1 I1) I1) (fun vs s₂ y => ?_) fun _ _ e => e
        obtain ⟨x2, I2, r2⟩ := y
        refine ⟨x1.trans x2, I2, ?_⟩
        simp only [RdL]
        exact ⟨v, vs, rfl, Rd.stay (x2.stay I2.sub) d v r1, r2⟩
end
end

section
variable {cf : Cf} {fns : Str → Option Fn} {cx : Cx cf fns} {G : Option Gm} {μ : Addr → Prop} {κ : Str → Option NameKind} {ρ : Str → Option D} {env : Env}
variable {prog : Program} {w : World} {A : Around} {E : Value → Shared → Prop} {s : Shared} {N : Nat}

theorem bools_sound {f : Expr → List Int → Option (D × List Int)} (S : SndE cx G N f κ ρ) (hA : AOk A N) {op : BoolOp} {pos : Pos} : ∀ {es : List Expr} {π π' : List Int} {d : D} {s : Shared}, evBools f op es π = some (d, π') → EvC cx G μ κ ρ env s.heap → Inv cx G μ s.heap π →
    wpAny (model prog w) A (boolOp pos op (evalEach es env)) (Post cx G μ s π' d) E s
  | [], π, π', d, s, e, c, I => by simp [evBools] at e
  | [x], π, π', d, s, e, c, I => by
    simp only [evBools] at e
    exact S x π d π' e prog w A env s μ E hA c I
  | x :: y :: r, π, π', d, s, e, c, I => by
    rw [evBools] at e
    · split at e
      · cases e
      · rename_i d₁ π₁ h1
        show wpAny _ _ (do
          let v ← eval x env
          standAt pos
          let t ← holding [v] (truthy v)
          match op, t with
          | .And, false | .Or, true => pure v
          | _, _ => boolOp pos op (evalEach (y :: r) env)) _ _ _
        refine wpAny_bind (wpAny_mono (S x π d₁ π₁ h1 prog w A env s μ E hA c I) (fun v s₁ p => ?_) fun _ _ e => e)
        obtain ⟨x1, I1, r1⟩ := p
        have go : ∀ s₂, Ext Non s₁ s₂ → evBools f op (y :: r) π₁ = some (d, π') → wpAny (model prog w) A (boolOp pos op (evalEach (y :: r) env)) (Post cx G μ s π' d) E s₂ := fun s₂ x2 h2 => by
          have x3 := x1.trans (x2.wide (P := PP G))
          refine wpAny_mono (bools_sound S hA h2 (c.ext x3 (I1.ext x2)) (I1.ext x2)) (fun v' s₃ q => ?_) fun _ _ e => e
          exact ⟨x3.trans q.1, q.2⟩
        have stop : ∀ s₂, Ext Non s₁ s₂ → Post cx G μ s π₁ d₁ v s₂ := fun s₂ x2 => ⟨x1.trans x2.wide, I1.ext x2, Rd.stay (x2.stay (fun _ q => q.elim)) d₁ v r1⟩
        cases ht : truth d₁ with
        | none => rw [ht] at e; cases e
        | some t =>
          rw [ht] at e
          refine wpAny_bind (wpAny_standAt (wpAny_bind (wpAny_holding (wpAny_mono (truth_sound ht r1) (fun t' s₂ q => ?_) fun _ _ e => e))))
          obtain ⟨rfl, x2⟩ := q
          cases op <;> cases t'
          · cases e; exact wpAny_pure (stop s₂ x2)
          · exact go s₂ x2 e
          · exact go s₂ x2 e
          · cases e; exact wpAny_pure (stop s₂ x2)
    · simp

theorem alls_sound {f : Expr → List Int → Option (D × List Int)} (S : SndT cx G N f κ ρ) (hA : AOk A N) {op : BoolOp} : ∀ {es : List Expr} {π π' : List Int} {d : D} {s : Shared}, evAlls f op es π = some (d, π') → EvC cx G μ κ ρ env s.heap → Inv cx G μ s.heap π →
    wpAny (model prog w) A (allTrue op es env) (PostB cx G μ s π' d) E s
  | [], π, π', d, s, e, c, I => by
    simp only [evAlls, Option.some.injEq, Prod.mk.injEq] at e
    obtain ⟨rfl, rfl⟩ := e
    exact wpAny_pure ⟨rfl, Ext.refl s, I⟩
  | x :: r, π, π', d, s, e, c, I => by
    simp only [evAlls] at e
    split at e
    · rename_i b π₁ h1
      have go : ∀ s₁, Ext (PP G) s s₁ → Inv cx G μ s₁.heap π₁ → evAlls f op r π₁ = some (d, π') → wpAny (model prog w) A (allTrue op r env) (PostB cx G μ s π' d) E s₁ := fun s₁ x1 I1 h2 =>
        wpAny_mono (alls_sound S hA h2 (c.ext x1 I1) I1) (fun v' s₃ q => ⟨q.1, x1.trans q.2.1, q.2.2⟩) fun _ _ e => e
      have base := S x π _ π₁ h1 prog w A env s μ E hA c I
      cases op with
      | And =>
        refine wpAny_allTrue_And_cons (wpAny_mono base (fun b' s₁ p => ?_) fun _ _ e => e)
        obtain ⟨hb, x1, I1⟩ := p
        cases hb
        cases b with
        | false => cases e; exact ⟨rfl, x1, I1⟩
        | true => exact go s₁ x1 I1 e
      | Or =>
        refine wpAny_allTrue_Or_cons (wpAny_mono base (fun b' s₁ p => ?_) fun _ _ e => e)
        obtain ⟨hb, x1, I1⟩ := p
        cases hb
        cases b with
        | true => cases e; exact ⟨rfl, x1, I1⟩
        | false => exact go s₁ x1 I1 e
    · cases e

theorem evalArgs_spl {f : Value} {trees : List (Bool × Sem Value)} {Q : Args → Shared → Prop} (hs : trees.any (·.1) = false) (h : wpAny (model prog w) A (spliced trees) (fun vs s' => Q ⟨vs, []⟩ s') E s) :
    wpAny (model prog w) A (evalArgs f true trees []) Q E s := by
  cases trees with
  | nil =>
    unfold evalArgs
    refine wpAny_bind (wpAny_mono h (fun vs s' q => wpAny_bind (wpAny_pure ?_)) fun _ _ e => e)
    refine wpAny_holding ?_
    exact wpAny_bind (wpAny_pure (wpAny_bind (wpAny_pure (wpAny_pure q))))
  | cons t r =>
    obtain ⟨b, x⟩ := t
    simp only [List.any_cons, Bool.or_eq_false_iff] at hs
    obtain ⟨rfl, _⟩ := hs
    exact Calls.evalArgs_plain h

theorem base_of (c : EvC cx G μ κ ρ env s.heap) {key : Str} {f : Addr} (hk : cx.adr key = some f) : ∃ (o : Obj) (fd : FuncData), cx.h₀.get? f = some o ∧ o.data = .func fd := by
  obtain ⟨o, fd, F, _, h1, h2, _⟩ := cx.fn key f hk
  exact ⟨o, fd, h1, h2⟩

theorem call_sound {f : Expr → List Int → Option (D × List Int)} {Φ : Mean} (S : SndE cx G N f κ ρ) (SM : SoundM cx G N Φ) (hA : AOk A N) {key : Str} {fa : Addr} (hk : cx.adr key = some fa) {pos : Pos} {args : List Expr} {π π₁ π' : List Int} {pre ds : List D} {d : D} {first : List Value}
    (hn : args.all noStar = true) (e : evList f args π = some (ds, π₁)) (e' : Φ key (pre ++ ds) π₁ = some (d, π')) (c : EvC cx G μ κ ρ env s.heap) (I : Inv cx G μ s.heap π) (hp : RdL G μ s.heap pre first) :
    wpAny (model prog w) A (callWith pos (.ref fa) first (backTo pos (starEach args env)) []) (Post cx G μ s π' d) E s := by
  obtain ⟨o, fd, ho, hd⟩ := base_of c hk
  refine Calls.callWith_function (o := o) (fd := fd) (evalArgs_spl (star_any hn) (wpAny_mono (list_sound S hA hn e c I) (fun vs s₁ p => ?_) fun _ _ e => e))
  obtain ⟨x1, I1, r1⟩ := p
  have c1 := c.ext x1 I1
  refine ⟨⟨c1.base _ _ ho, hd⟩, wpAny_mono (SM key _ π₁ d π' e' fa hk prog w A s₁ μ _ E hA c1.base c1.off c1.live I1 (RdL.append (RdL.stay (x1.stay I1.sub) pre first hp) r1)) (fun v s₂ q => ?_) fun _ _ e => e⟩
  exact ⟨x1.trans q.1, q.2⟩

theorem meth_eq' {o : Expr} {m : Str} {ap pos : Pos} {args : List Expr} (ho : ∀ w, attributeBase o m env w = w) (hn : args.all noStar = true) (hl : args.length < 20) (hp : ap.endLine = pos.line) :
    eval (.Call (.Attribute o m ap) args [] pos) env = (do
      let ov ← eval o env
      standAt ap.atName
      let (f, first) ← holding [ov] (getMethod ov m (do return (← importBound o env).getD true))
      callWith pos f first (backTo pos (starEach args env)) []) := by
  have h1 : methodCallForm (args.length + 0) (backTo pos (starEach args env)) [] = true := by
    have ha := star_any (env := env) (pos := pos) hn
    unfold methodCallForm
    have : ((backTo pos (starEach args env)).all fun x => !x.1) = true := by
      rw [List.all_eq_true]
      intro y hy
      have := List.any_eq_false.mp ha y hy
      simpa using this
    rw [this]; simp; omega
  rw [arm_eval_Call, ho]
  show (do
    let ov ← eval o env
    standAt ap.atName
    methodCall o m ap pos env ov (args.length + 0) (backTo pos (starEach args env)) []) = _
  unfold methodCall methodCallPos calleeOf
  rw [h1]
  have h2 : (!true || ap.endLine == pos.line) = true := by simp [hp]
  simp only [h2, if_true]
  rfl
theorem meth_eq {x m : Str} {xp ap pos : Pos} {args : List Expr} (hn : args.all noStar = true) (hl : args.length < 20) (hp : ap.endLine = pos.line) (pl : Sem Bool) (hpl : pl = (do return (← importBound (.Name x xp) env).getD true)) :
    eval (.Call (.Attribute (.Name x xp) m ap) args [] pos) env = (do
      let ov ← eval (.Name x xp) env
      standAt ap.atName
      let (f, first) ← holding [ov] (getMethod ov m pl)
      callWith pos f first (backTo pos (starEach args env)) []) := by
  subst hpl
  exact meth_eq' (fun _ => rfl) hn hl hp
end

section
variable {cf : Cf} {fns : Str → Option Fn} {cx : Cx cf fns} {G : Option Gm} {μ : Addr → Prop} {κ : Str → Option NameKind} {ρ : Str → Option D} {env : Env}
variable {prog : Program} {w : World} {A : Around} {E : Value → Shared → Prop} {s : Shared} {N : Nat}

/-- an iterator over items that stand still -/
structure Iters (prog : Program) (w : World) (A : Around) (G : Option Gm) (μ : Addr → Prop) (s : Shared) (items : List D) (I : Addr) (s₂ : Shared) : Prop where
  ext : Ext Non s s₂
  new : s.heap.get? I = none
  here : ∃ o, s₂.heap.get? I = some o
  walks : ∃ fp Pw St, Walks prog w A I fp [I] items.length Pw St ∧ St 0 s₂.heap ∧ (∀ b ∈ fp, b = I ∨ (¬ μ b ∧ ∃ o, s.heap.get? b = some o)) ∧
    (∀ i x, i < items.length → Pw i x → ∃ d, items[i]? = some d ∧ Rd G μ s.heap d x) ∧ (∀ i h, St i h → ∃ o, h.get? I = some o)

theorem iter_sound {d : D} {v : Value} {items : List D} (hh : A.handled = none) (e : itemsOf d = some items) (r : Rd G μ s.heap d v) :
    wpAny (model prog w) A (pyIter v) (fun it s₂ => ∃ I, it = .ref I ∧ Iters prog w A G μ s items I s₂) E s := by
  have none' : s.heap.get? s.heap.objs.size = none := Heap.get?_none_of_le (Nat.le_refl _)
  unfold itemsOf at e
  split at e
  · split at e
    · cases e
      simp only [Rd] at r
      obtain ⟨l, vs, rfl, hm, hl, hr⟩ := r
      have hlen := hr.length
      have hlt : l < s.heap.objs.size := by obtain ⟨o, ho, _⟩ := hl; exact Heap.lt_size ho
      have hne : l ≠ s.heap.objs.size := Nat.ne_of_lt hlt
      refine wpAny_pyIter_list hl ?_
      refine ⟨_, rfl, Ext.push (t := s.toks), none', ⟨_, Heap.get?_push_size _ rfl⟩, [s.heap.objs.size, l], (fun i v => vs.toArray[i]? = some v), (fun i h => h.IsListIter s.heap.objs.size l i ∧ h.IsList l vs.toArray), ?_, ⟨⟨_, Heap.get?_push_size _ rfl, rfl, rfl⟩, hl.push _⟩, ?_, ?_, ?_⟩
      · have W := Walks.list (prog := prog) (w := w) hh s.heap.objs.size l hne vs.toArray
        have hz : vs.toArray.size = items.length := by simp [hlen]
        rw [hz] at W
        exact W
      · intro b hb
        simp only [List.mem_cons, List.not_mem_nil, or_false] at hb
        rcases hb with rfl | rfl
        · exact .inl rfl
        · obtain ⟨o, ho, _⟩ := hl; exact .inr ⟨hm, o, ho⟩
      · intro i x hi hx
        have hx' : vs[i]? = some x := by simpa using hx
        obtain ⟨v', h1, h2⟩ := hr.get i _ (List.getElem?_eq_getElem hi)
        rw [hx'] at h1; cases h1
        exact ⟨_, List.getElem?_eq_getElem hi, h2⟩
      · rintro i h ⟨⟨o, ho, _⟩, _⟩; exact ⟨o, ho⟩
    · cases e
  · split at e
    · cases e
      simp only [Rd] at r
      obtain ⟨l, vs, rfl, hm, hl, hr⟩ := r
      have hlen := hr.length
      have hlt : l < s.heap.objs.size := hl.lt
      have hne : l ≠ s.heap.objs.size := Nat.ne_of_lt hlt
      have hl' : s.heap.IsTuple l vs.toArray := hl
      refine wpAny_pyIter_tuple hl' ?_
      refine ⟨_, rfl, Ext.push (t := s.toks), none', ⟨_, Heap.get?_push_size _ rfl⟩, [s.heap.objs.size, l], (fun i v => vs.toArray[i]? = some v), (fun i h => h.IsTupleIter s.heap.objs.size l i ∧ h.IsTuple l vs.toArray), ?_, ⟨⟨_, Heap.get?_push_size _ rfl, rfl, rfl⟩, hl'.push _⟩, ?_, ?_, ?_⟩
      · have W := Walks.tuple (prog := prog) (w := w) hh s.heap.objs.size l hne vs.toArray
        have hz : vs.toArray.size = items.length := by simp [hlen]
        rw [hz] at W
        exact W
      · intro b hb
        simp only [List.mem_cons, List.not_mem_nil, or_false] at hb
        rcases hb with rfl | rfl
        · exact .inl rfl
        · obtain ⟨o, ho, _⟩ := hl; exact .inr ⟨hm, o, ho⟩
      · intro i x hi hx
        have hx' : vs[i]? = some x := by simpa using hx
        obtain ⟨v', h1, h2⟩ := hr.get i _ (List.getElem?_eq_getElem hi)
        rw [hx'] at h1; cases h1
        exact ⟨_, List.getElem?_eq_getElem hi, h2⟩
      · rintro i h ⟨⟨o, ho, _⟩, _⟩; exact ⟨o, ho⟩
    · cases e
  · split at e
    · rename_i a b hz
      cases e
      simp only [Rd] at r
      obtain ⟨l, t, u, w', rfl, hm, hr⟩ := r
      have hn : Builtin.Range.rangeSize a b 1 = ((b - a).toNat : Int) := by rw [rangeSize_one]; split <;> omega
      refine wpAny_pyIter_range hr (small_one (by omega) (by omega) (by omega) (by omega)) ?_
      refine ⟨_, rfl, Ext.push (t := s.toks), none', ⟨_, Heap.get?_push_size _ rfl⟩, [s.heap.objs.size], (fun i v => ∃ t, v = .int (a + i * 1) t), (fun i h => IsRangeIter h s.heap.objs.size (a + (i : Nat) * 1) (((b - a).toNat : Int) - (i : Nat)) 1), ?_, ?_, ?_, ?_, ?_⟩
      · have W := Walks.range (prog := prog) (w := w) hh s.heap.objs.size a 1 (b - a).toNat
        simp only [List.length_map, List.length_range]
        exact W
      · show IsRangeIter _ _ _ _ _
        rw [hn]
        simpa using Heap.get?_push_size _ rfl
      · intro b hb
        simp only [List.mem_cons, List.not_mem_nil, or_false] at hb
        exact .inl hb
      · rintro i x hi ⟨t', rfl⟩
        simp only [List.length_map, List.length_range] at hi
        refine ⟨.int (a + (i : Int)), ?_, by simp [Rd]⟩
        simp [hi]
      · intro i h hs; exact ⟨_, hs⟩
    · cases e
  · cases e

/-- the cells that a comprehension takes along -/
theorem closure_ok {scope : Scope} : (∀ p ∈ scope.names, p.2 = .free → ∃ c, env.cells.lookup p.1 = some c) →
    ∃ cl, closureFor scope env = pure cl ∧ (∀ x c, cl.lookup x = some c → env.cells.lookup x = some c) ∧ (∀ p ∈ scope.names, p.2 = .free → ∃ c, cl.lookup p.1 = some c) := by
  intro h
  have go : ∀ (names : List (Str × NameKind)) (acc : List (Str × Addr)), (∀ p ∈ names, p.2 = .free → ∃ c, env.cells.lookup p.1 = some c) → (∀ x c, acc.lookup x = some c → env.cells.lookup x = some c) →
      ∃ cl, (forIn names acc fun (p : Str × NameKind) (cs : List (Str × Addr)) => (if p.2 == .free then (do let c ← cellOf env p.1; pure (.yield ((p.1, c) :: cs))) else pure (.yield cs) : Sem (ForInStep (List (Str × Addr))))) = pure cl ∧
        (∀ x c, cl.lookup x = some c → env.cells.lookup x = some c) ∧ (∀ x c, acc.lookup x = some c → ∃ c', cl.lookup x = some c') ∧ (∀ p ∈ names, p.2 = .free → ∃ c, cl.lookup p.1 = some c) := by
    intro names
    induction names with
    | nil => intro acc _ ha; exact ⟨acc, rfl, ha, fun x c e => ⟨c, e⟩, fun p hp => nomatch hp⟩
    | cons p r ih =>
      intro acc hn ha
      rw [List.forIn_cons]
      obtain ⟨x, k⟩ := p
      cases hk : k == NameKind.free with
      | true =>
        have hk' : k = .free := by simpa using hk
        obtain ⟨c, hc⟩ := hn (x, k) List.mem_cons_self hk'
        have hc' : cellOf env x = pure c := by unfold cellOf; dsimp only at hc; rw [hc]
        obtain ⟨cl, e, h1, h2, h3⟩ := ih ((x, c) :: acc) (fun q hq => hn q (List.mem_cons_of_mem _ hq)) (fun y c' e => by
          rw [List.lookup_cons] at e
          cases hy : y == x with
          | true => rw [hy] at e; cases e; rw [beq_iff_eq.mp hy]; exact hc
          | false => rw [hy] at e; exact ha y c' e)
        refine ⟨cl, ?_, h1, fun y c' e' => ?_, fun q hq hf => ?_⟩
        · simp only [hk, if_true, hc', pure_bind]
          exact e
        · cases hy : y == x with
          | true => exact h2 y c (by rw [List.lookup_cons, hy])
          | false => exact h2 y c' (by rw [List.lookup_cons, hy]; exact e')
        · rcases List.mem_cons.mp hq with rfl | hq
          · exact h2 x c (by simp [List.lookup_cons])
          · exact h3 q hq hf
      | false =>
        obtain ⟨cl, e, h1, h2, h3⟩ := ih acc (fun q hq => hn q (List.mem_cons_of_mem _ hq)) ha
        refine ⟨cl, ?_, h1, h2, fun q hq hf => ?_⟩
        · simp only [hk, Bool.false_eq_true, if_false, pure_bind]
          exact e
        · rcases List.mem_cons.mp hq with rfl | hq
          · dsimp only at hf; rw [hf] at hk; cases hk
          · exact h3 q hq hf
  obtain ⟨cl, e, h1, _, h3⟩ := go scope.names [] h (fun x c e => by cases e)
  refine ⟨cl, ?_, h1, h3⟩
  have e0 : closureFor scope env = (forIn scope.names ([] : List (Str × Addr)) (fun (p : Str × NameKind) (cs : List (Str × Addr)) => (if p.2 == .free then (do let c ← cellOf env p.1; pure (.yield ((p.1, c) :: cs))) else pure (.yield cs) : Sem (ForInStep (List (Str × Addr)))))) >>= fun cs => pure cs := rfl
  rw [e0, e]
  rfl

theorem relabel_lookup {scope : Scope} {env : Env} (x : Str) : (relabel scope env).names.lookup x = scope.names.lookup x ∨ (scope.names.lookup x = some .free ∧ (relabel scope env).names.lookup x = some .cell) := by
  unfold relabel
  dsimp only
  induction scope.names with
  | nil => exact .inl rfl
  | cons p r ih =>
    obtain ⟨n, k⟩ := p
    rw [List.map_cons]
    cases hx : x == n with
    | true =>
      by_cases hc : (k == NameKind.free && env.scope.kind == .function && env.kindOf n == some .cell) = true
      · rw [if_pos hc]
        simp only [Bool.and_eq_true, beq_iff_eq] at hc
        refine .inr ⟨?_, ?_⟩
        · rw [List.lookup_cons, hx, hc.1.1]
        · rw [List.lookup_cons, hx]
      · rw [if_neg hc]
        exact .inl (by rw [List.lookup_cons, List.lookup_cons, hx])
    | false =>
      have e1 : ∀ (q : NameKind), ((n, q) :: r).lookup x = r.lookup x := fun q => by rw [List.lookup_cons, hx]
      rcases ih with h | ⟨h1, h2⟩
      · left
        rw [e1]
        by_cases hc : (k == NameKind.free && env.scope.kind == .function && env.kindOf n == some .cell) = true
        · rw [if_pos hc, List.lookup_cons, hx]; exact h
        · rw [if_neg hc, List.lookup_cons, hx]; exact h
      · right
        rw [e1]
        refine ⟨h1, ?_⟩
        by_cases hc : (k == NameKind.free && env.scope.kind == .function && env.kindOf n == some .cell) = true
        · rw [if_pos hc, List.lookup_cons, hx]; exact h2
        · rw [if_neg hc, List.lookup_cons, hx]; exact h2
end

section
variable {cf : Cf} {fns : Str → Option Fn} {cx : Cx cf fns} {G : Option Gm} {μ : Addr → Prop} {κ : Str → Option NameKind} {ρ : Str → Option D} {env : Env}
variable {prog : Program} {w : World} {A : Around} {E : Value → Shared → Prop} {s₁ s₂ : Shared} {N : Nat}

theorem ne_of_get {h : Heap} {a b : Addr} {o : Obj} (x : h.get? a = some o) (y : h.get? b = none) : a ≠ b := by rintro rfl; rw [x] at y; cases y

structure ScopeOk (κ : Str → Option NameKind) (x : Str) (scope : Scope) : Prop where
  kind : scope.kind = .function
  x : scope.names.lookup x = some .local
  nocell : ∀ p ∈ scope.names, p.2 ≠ .cell
  locs : ∀ p ∈ scope.names, p.2 = .local → scope.names.lookup p.1 = some .local
  free : ∀ p ∈ scope.names, p.2 = .free → κ p.1 = some .cell ∨ κ p.1 = some .free
theorem scopeOk_of {x : Str} {scope : Scope} (h : scopeOk κ x scope = true) : ScopeOk κ x scope := by
  unfold scopeOk at h
  simp only [Bool.and_eq_true, beq_iff_eq, List.all_eq_true, Bool.or_eq_true, Bool.not_eq_true', beq_eq_false_iff_ne] at h
  obtain ⟨⟨h1, h2⟩, h3⟩ := h
  refine ⟨h1, h2, fun p hp => (h3 p hp).1.1, fun p hp e => ?_, fun p hp e => ?_⟩
  · rcases (h3 p hp).1.2 with h | h
    · exact absurd e h
    · exact h
  · rcases (h3 p hp).2 with (h | h) | h
    · exact absurd e h
    · exact .inl h
    · exact .inr h

theorem inner_ctx {x : Str} {scope : Scope} {cl : List (Str × Addr)} {C : Addr} {h : Heap} {m' : Str → Option Value} {μ₃ : Addr → Prop} {d : D} {v : Value} (so : ScopeOk κ x scope) (c : EvC cx G μ κ ρ env s₁.heap) (I₁ : ∀ a, PP G a → ∃ o, s₁.heap.get? a = some o)
    (h1 : ∀ x c, cl.lookup x = some c → env.cells.lookup x = some c) (h2 : ∀ p ∈ scope.names, p.2 = .free → ∃ c, cl.lookup p.1 = some c)
    (k : ∀ a o, ¬ PP G a → s₁.heap.get? a = some o → h.get? a = some o) (st : Stay μ μ₃ s₁.heap h) (lv : Live μ₃ h) (hC : s₁.heap.get? C = none) (hn : h.Ns C m') (hx : m' x = some v) (hr : Rd G μ₃ h d v) :
    EvC cx G μ₃ (fun y => scope.names.lookup y) (fun y => if y = x then some d else if isFree (fun y => scope.names.lookup y) y then ρ y else none) (compEnvC scope cl C env) h where
  kind := by show (relabel scope env).kind = _; exact so.kind
  glob := c.glob
  bi := c.bi
  kk := fun y => relabel_lookup y
  kc := fun y hy => by
    have hm : ∃ p ∈ scope.names, p.1 = y ∧ (p.2 = .cell ∨ p.2 = .free) := by
      rcases hy with hy | hy
      · exact ⟨_, mem_of_lookup hy, rfl, .inl rfl⟩
      · exact ⟨_, mem_of_lookup hy, rfl, .inr rfl⟩
    obtain ⟨p, hp, rfl, hk⟩ := hm
    rcases hk with hk | hk
    · exact absurd hk (so.nocell p hp)
    · exact h2 p hp hk
  base := fun a o e => k a o (c.off a o e) (c.base a o e)
  off := c.off
  live := lv
  apart := fun a ha hp => by
    rcases ha with rfl | ⟨y, hy⟩
    · obtain ⟨o, e⟩ := I₁ _ hp
      exact ne_of_get e hC rfl
    · exact c.apart a (.inr ⟨y, h1 y a hy⟩) hp
  vars := fun y e hy he => by
    by_cases hyx : y = x
    · subst hyx
      rw [if_pos rfl] at he
      cases he
      refine ⟨v, ?_, hr⟩
      unfold Bd
      have : (compEnvC scope cl C env).kindOf y = some .local := by
        rcases relabel_lookup (scope := scope) (env := env) y with h | ⟨h, _⟩
        · exact h.trans so.x
        · rw [so.x] at h; cases h
      rw [this]
      exact ⟨m', hn, hx⟩
    · rw [if_neg hyx] at he
      split at he
      · rename_i hf
        have hf' : scope.names.lookup y = some .free := by
          unfold isFree at hf; split at hf
          · assumption
          · cases hf
        have hok : okName y = true := by unfold isVar at hy; exact (Bool.and_eq_true_iff.mp hy).2
        have hκ := so.free _ (mem_of_lookup hf') rfl
        have hv : isVar κ y = true := by
          unfold isVar; rw [hok]
          rcases hκ with h | h <;> rw [h] <;> rfl
        obtain ⟨u, hb, hu⟩ := c.vars y e hv he
        refine ⟨u, ?_, Rd.stay st e u hu⟩
        obtain ⟨cc, hcc⟩ := h2 _ (mem_of_lookup hf') rfl
        have hcell : s₁.heap.IsCell cc (some u) := by
          have hk : env.kindOf y = some .cell ∨ env.kindOf y = some .free := by
            rcases c.kk y with e1 | ⟨_, e1⟩
            · rw [e1]; exact hκ
            · exact .inl e1
          unfold Bd at hb
          rcases hk with hk | hk <;> rw [hk] at hb
          · obtain ⟨c', hc', hi⟩ := hb
            rw [h1 _ _ hcc] at hc'; cases hc'; exact hi
          · obtain ⟨c', hc', hi⟩ := hb
            rw [h1 _ _ hcc] at hc'; cases hc'; exact hi
        obtain ⟨o, ho, hd⟩ := hcell
        have hcell' : h.IsCell cc (some u) := ⟨o, k _ _ (c.apart cc (.inr ⟨y, h1 _ _ hcc⟩)) ho, hd⟩
        unfold Bd
        rcases relabel_lookup (scope := scope) (env := env) y with h | ⟨_, h⟩
        · rw [show (compEnvC scope cl C env).kindOf y = some .free from h.trans hf']
          exact ⟨cc, hcc, hcell'⟩
        · rw [show (compEnvC scope cl C env).kindOf y = some .cell from h]
          exact ⟨cc, hcc, hcell'⟩
      · cases he

theorem kind_store {scope : Scope} {cl : List (Str × Addr)} {C : Addr} (h : scope.kind = .function) : ((compEnvC scope cl C env).scope.kind == .class || ((compEnvC scope cl C env).scope.kind == .module && (compEnvC scope cl C env).locals != (compEnvC scope cl C env).globals)) = false := by
  have hk : (compEnvC scope cl C env).scope.kind = .function := h
  simp [hk]

theorem tests_sound {f : Expr → List Int → Option (D × List Int)} (S : SndT cx G N f κ ρ) (hA : AOk A N) {ifs : List Expr} {π π' : List Int} {b : Bool} {s : Shared} (e : tests f ifs π = some (b, π')) (c : EvC cx G μ κ ρ env s.heap) (I : Inv cx G μ s.heap π) :
    wpAny (model prog w) A (forIn ifs true fun c r => if r = true then do let ok ← isTrue c env (eval c env); pure (ForInStep.yield ok) else pure (ForInStep.yield r))
      (fun ok s' => ok = b ∧ Ext (PP G) s s' ∧ Inv cx G μ s'.heap π') E s := by
  unfold tests at e
  split at e
  · cases e; exact wpAny_tests_nil ⟨rfl, Ext.refl s, I⟩
  · rename_i t
    split at e
    · rename_i b' π₁ h
      cases e
      exact wpAny_tests_one (wpAny_mono (S t π _ _ h prog w A env s μ E hA c I) (fun ok s' q => by obtain ⟨q1, q2, q3⟩ := q; cases q1; exact ⟨rfl, q2, q3⟩) fun _ _ e => e)
    · cases e
  · cases e

theorem comp_core {elt iter : Expr} {x : Str} {px : Pos} {ifs : List Expr} {scope : Scope} {cl : List (Str × Addr)} {pos : Pos} {I : Addr} {items ds : List D} {π₁ π₂ : List Int} {fT fE : D → Expr → List Int → Option (D × List Int)}
    {RR : Value → Addr → Result → Shared → Prop} (hA : AOk A N) (so : ScopeOk κ x scope) (c : EvC cx G μ κ ρ env s₁.heap) (I₁ : Inv cx G μ s₁.heap π₁) (it : Iters prog w A G μ s₁ items I s₂) (hz : items.length ≤ 10000)
    (h1 : ∀ x c, cl.lookup x = some c → env.cells.lookup x = some c) (h2 : ∀ p ∈ scope.names, p.2 = .free → ∃ c, cl.lookup p.1 = some c)
    (hT : ∀ d, SndT cx G N (fT d) (fun y => scope.names.lookup y) (fun y => if y = x then some d else if isFree (fun y => scope.names.lookup y) y then ρ y else none))
    (hE : ∀ d, SndE cx G N (fE d) (fun y => scope.names.lookup y) (fun y => if y = x then some d else if isFree (fun y => scope.names.lookup y) y then ρ y else none))
    (e : compGo (fun v => tests (fT v) ifs) (fun v => fE v elt) items π₁ = some (ds, π₂))
    (hRR : ∀ D C h' tk m' ys, s₁.heap.get? D = none → s₁.heap.get? C = none → D ≠ C → h'.Ns C m' → h'.PlainList D ys → Ext (PP G) s₁ { s₁ with heap := h', toks := tk } → Inv cx G (fun a => μ a ∨ a = C) h' π₂ → RdL G (fun a => μ a ∨ a = C) h' ds ys.toList →
      RR (.ref D) C (.ok .next) { s₁ with heap := h', toks := tk }) :
    wpAny (model prog w) A (newList []) (fun acc s₃ => wpAny (model prog w) A (newFunctionEnv scope env.globals cl [] env.qual none .none (some env)) (fun cenv s₄ =>
      codeAny (model prog w) A (.compStart (.ListComp elt [⟨.Name x px, iter, ifs, 0⟩] scope pos) 0 (.ref I) acc { cenv with scope := relabel scope env }) (RR acc cenv.locals) s₄) E s₃) E s₂ := by
  obtain ⟨⟨H2, tk2, rfl, k12⟩, hInew, hIhere, fp, Pw, St, W, hst, hfp, hit, hStI⟩ := it
  have k12' : ∀ a o, s₁.heap.get? a = some o → H2.get? a = some o := fun a o e => k12 a o id e
  refine wpAny_newObj_type (wpAny_newFunctionEnv so.nocell (by intro y hy; simp at hy) (fun h₁ hns₁ hsb₁ => ?_) so.kind)
  dsimp only at hns₁ hsb₁ hIhere hst ⊢
  obtain ⟨oI, hoI⟩ := hIhere
  -- the new places
  have hDnew : H2.get? H2.objs.size = none := Heap.get?_none_of_le (Nat.le_refl _)
  generalize hH3 : H2.push { cls := .type "list", dict := none, data := .seq ([] : List Value).toArray } = H3 at hns₁ hsb₁ ⊢
  have hCeq : H3.objs.size = H2.objs.size + 1 := by rw [← hH3, Heap.size_push]
  have hCnew : H2.get? H3.objs.size = none := Heap.get?_none_of_le (by rw [hCeq]; exact Nat.le_succ _)
  have hDC : H2.objs.size ≠ H3.objs.size := by rw [hCeq]; exact Nat.ne_of_lt (Nat.lt_succ_self _)
  have k2 : ∀ a o, H2.get? a = some o → h₁.get? a = some o := fun a o e =>
    hsb₁.extBut a o (ne_of_get e hCnew) (Heap.get?_push_of_some _ (hH3 ▸ Heap.get?_push_of_some _ e))
  have hD1 : h₁.PlainList H2.objs.size #[] := ⟨0, hsb₁.extBut _ _ hDC (Heap.get?_push_of_some _ (hH3 ▸ Heap.get?_push_size _ rfl))⟩
  generalize H2.objs.size = D at *
  generalize H3.objs.size = C at *
  have down : ∀ a, H2.get? a = none → s₁.heap.get? a = none := fun a e => by
    cases q : s₁.heap.get? a with
    | none => rfl
    | some o => rw [k12' a o q] at e; cases e
  have hD0 := down D hDnew
  have hC0 := down C hCnew
  have hID : I ≠ D := ne_of_get hoI hDnew
  have hIC : I ≠ C := ne_of_get hoI hCnew
  have paAt := I₁.at
  have hPI : ∀ a, PP G a → a ≠ I := fun a ha => by obtain ⟨o, e⟩ := paAt a ha; exact ne_of_get e hInew
  have hPC : ∀ a, PP G a → a ≠ C := fun a ha => by obtain ⟨o, e⟩ := paAt a ha; exact ne_of_get e hC0
  have hPD : ∀ a, PP G a → a ≠ D := fun a ha => by obtain ⟨o, e⟩ := paAt a ha; exact ne_of_get e hD0
  have hfpC : C ∉ fp := fun hm => by rcases hfp C hm with e | ⟨_, o, e⟩; · exact hIC e.symm
                                     · rw [hC0] at e; cases e
  have hfpD : D ∉ fp := fun hm => by rcases hfp D hm with e | ⟨_, o, e⟩; · exact hID e.symm
                                     · rw [hD0] at e; cases e
  have hfpP : ∀ b ∈ fp, ¬ PP G b := fun b hb hp => by
    rcases hfp b hb with e | ⟨hm, _⟩
    · exact hPI b hp e
    · exact hm (I₁.sub b hp)
  let μ₃ : Addr → Prop := fun a => μ a ∨ a = I ∨ a = C ∨ a = D
  have up : ∀ h, (∀ a o, ¬ PP G a → s₁.heap.get? a = some o → h.get? a = some o) → Stay μ μ₃ s₁.heap h := fun h k a o hm e => by
    refine ⟨?_, k a o (fun hp => hm (I₁.sub a hp)) e⟩
    rintro (q | rfl | rfl | rfl)
    · exact hm q
    · rw [hInew] at e; cases e
    · rw [hC0] at e; cases e
    · rw [hD0] at e; cases e
  have live : ∀ h π, (∀ a o, ¬ PP G a → s₁.heap.get? a = some o → h.get? a = some o) → Inv cx G μ₃ h π → (∃ o, h.get? I = some o) → (∃ o, h.get? C = some o) → (∃ o, h.get? D = some o) → Live μ₃ h := fun h π k iv e1 e2 e3 a ha => by
    rcases ha with q | rfl | rfl | rfl
    · by_cases hp : PP G a
      · exact iv.at a hp
      · obtain ⟨o, e⟩ := c.live a q; exact ⟨o, k a o hp e⟩
    · exact e1
    · exact e2
    · exact e3
  -- a step on the frames' own places C, D and I alone
  have small : ∀ {h h' : Heap} {π : List Int}, Inv cx G μ₃ h π → (∀ a o, a ≠ C → a ≠ D → a ≠ I → h.get? a = some o → h'.get? a = some o) → Inv cx G μ₃ h' π ∧ Stay μ₃ μ₃ h h' := fun {h h' π} iv k => by
    have stay : Stay μ₃ μ₃ h h' := fun a o hm e => ⟨hm, k a o (fun q => hm (.inr (.inr (.inl q)))) (fun q => hm (.inr (.inr (.inr q)))) (fun q => hm (.inr (.inl q))) e⟩
    refine ⟨iv.stay stay fun g hg => ?_, stay⟩
    have hp : PP G g.pa := ⟨g, hg, rfl⟩
    obtain ⟨o, e⟩ := iv.at _ hp
    exact ⟨(k _ o (hPC _ hp) (hPD _ hp) (hPI _ hp) e).trans e.symm, .inl (I₁.sub _ hp)⟩
  have start : ∀ s₃ : Shared, s₃ = { s₁ with heap := h₁, toks := s₁.toks + ([] : List (Str × Value)).length } ∨ s₃ = { s₁ with heap := h₁, toks := tk2 + ([] : List (Str × Value)).length } →
      codeAny (model prog w) A (.compLoop (.ListComp elt [⟨.Name x px, iter, ifs, 0⟩] scope pos) 0 (.ref I) (.ref D) (compEnvC scope cl C env)) (RR (.ref D) C) s₃ := by
    intro s₃ hs₃
    have kk₁ : ∀ a o, ¬ PP G a → s₁.heap.get? a = some o → h₁.get? a = some o := fun a o _ e => k2 a o (k12' a o e)
    have inv₁ : Inv cx G μ₃ h₁ π₁ := I₁.stay (up h₁ kk₁) fun g hg => by
      have hp : PP G g.pa := ⟨g, hg, rfl⟩
      obtain ⟨o, e⟩ := paAt _ hp
      exact ⟨(k2 _ _ (k12' _ o e)).trans e.symm, .inl (I₁.sub _ hp)⟩
    refine codeAny_compLoop_tests (fun k s' => ∃ h' tk i π ys dsA dsB m', s' = { s₁ with heap := h', toks := tk } ∧ k = items.length + 1 - i ∧ i ≤ items.length ∧ St i h' ∧ h'.PlainList D ys ∧ h'.Ns C m' ∧
      (∀ a o, ¬ PP G a → s₁.heap.get? a = some o → h'.get? a = some o) ∧ Inv cx G μ₃ h' π ∧ RdL G μ₃ h' dsA ys.toList ∧ ys.size ≤ i ∧ compGo (fun v => tests (fT v) ifs) (fun v => fE v elt) (items.drop i) π = some (dsB, π₂) ∧ ds = dsA ++ dsB) ?_ (items.length + 1) ?_
    · rintro k s' ⟨h', tk, i, π, ys, dsA, dsB, m', rfl, rfl, hi, hSt, hD, hn, kk, iv, rA, hys, eB, rfl⟩
      by_cases hlt : i < items.length
      · refine W.item i _ _ _ hlt hSt fun v h₂ tk₂ hPv hSt₂ hk₂ => ?_
        obtain ⟨d, hd, rd⟩ := hit i v hlt hPv
        have hdrop : items.drop i = d :: items.drop (i + 1) := by
          rw [List.drop_eq_getElem_cons hlt]
          rw [List.getElem?_eq_getElem hlt] at hd; cases hd; rfl
        rw [hdrop] at eB
        have hk₂' : ∀ a o, a ≠ I → h'.get? a = some o → h₂.get? a = some o := fun a o hne e => hk₂ a o (by simpa using hne) e
        have hxl : (compEnvC scope cl C env).kindOf x = some .local := by
          rcases relabel_lookup (scope := scope) (env := env) x with h | ⟨h, _⟩
          · exact h.trans so.x
          · rw [so.x] at h; cases h
        refine wpAny_assign_Name (wpAny_storeName_local hxl (hn.at' fun o e => hk₂' _ o (Ne.symm hIC) e) (fun h₃ hn₃ hs₃ => ?_) (kind_store so.kind))
        have k3 : ∀ a o, a ≠ C → a ≠ D → a ≠ I → h'.get? a = some o → h₃.get? a = some o := fun a o hc _ hI e => hs₃.extBut a o hc (hk₂' a o hI e)
        obtain ⟨iv₃, st₃⟩ := small iv k3
        have kk₃ : ∀ a o, ¬ PP G a → s₁.heap.get? a = some o → h₃.get? a = some o := fun a o hp e => k3 a o (ne_of_get e hC0) (ne_of_get e hD0) (ne_of_get e hInew) (kk a o hp e)
        have hSt₃ : St (i + 1) h₃ := W.frame _ _ _ hSt₂ fun b hb o e => hs₃.extBut b o (fun q : b = C => hfpC (q ▸ hb)) e
        have hD₃ : h₃.PlainList D ys := hD.at fun o e => hs₃.extBut _ o hDC (hk₂' _ o (Ne.symm hID) e)
        have lv₃ := live h₃ π kk₃ iv₃ (hStI _ _ hSt₃) (by obtain ⟨o, _, _, ho, _⟩ := hn₃; exact ⟨o, ho⟩) (by obtain ⟨n, ho⟩ := hD₃; exact ⟨_, ho⟩)
        have ctx₃ := inner_ctx (s₁ := s₁) so c paAt h1 h2 kk₃ (up h₃ kk₃) lv₃ hC0 hn₃ (by simp) (Rd.stay (up h₃ kk₃) d v rd)
        rw [compGo] at eB
        split at eB
        · cases eB
        · rename_i π' ht
          refine wpAny_mono (tests_sound (hT d) hA (s := { s₁ with heap := h₃, toks := tk₂ + 1 }) ht ctx₃ iv₃) (fun ok s₄ q => ?_) fun _ _ e => e
          obtain ⟨rfl, ⟨h₄, tk₄, rfl, k₄⟩, iv₄⟩ := q
          simp only [Bool.false_eq_true, if_false]
          refine ⟨items.length + 1 - (i + 1), by omega, h₄, tk₄, i + 1, π', ys, dsA, dsB, _, rfl, rfl, hlt, W.frame _ _ _ hSt₃ fun b hb o e => k₄ b o (hfpP b hb) e, hD₃.at fun o e => k₄ _ o (fun hp => hPD _ hp rfl) e, hn₃.at' fun o e => k₄ _ o (fun hp => hPC _ hp rfl) e,
            fun a o hp e => k₄ a o hp (kk₃ a o hp e), iv₄, ?_, by omega, eB, rfl⟩
          exact RdL.stay (fun a o hm e => ⟨hm, k₄ a o (fun hp => hm (.inl (I₁.sub a hp))) (st₃ a o hm e).2⟩) dsA _ rA
        · rename_i π' ht
          split at eB
          · cases eB
          · rename_i d' π'' he
            split at eB
            · cases eB
            · rename_i dsC π₃ hgo
              cases eB
              refine wpAny_mono (tests_sound (hT d) hA (s := { s₁ with heap := h₃, toks := tk₂ + 1 }) ht ctx₃ iv₃) (fun ok s₄ q => ?_) fun _ _ e => e
              obtain ⟨rfl, x₄, iv₄⟩ := q
              have ctx₄ := ctx₃.ext x₄ iv₄
              obtain ⟨h₄, tk₄, rfl, k₄⟩ := x₄
              simp only [if_true]
              refine wpAny_mono (hE d elt π' d' π'' he prog w A _ _ μ₃ _ hA ctx₄ iv₄) (fun y s₅ q => ?_) fun _ _ e => e
              obtain ⟨⟨h₅, tk₅, rfl, k₅⟩, iv₅, r₅⟩ := q
              have k45 : ∀ a o, ¬ PP G a → h₃.get? a = some o → h₅.get? a = some o := fun a o hp e => k₅ a o hp (k₄ a o hp e)
              have hD₅ : h₅.PlainList D ys := hD₃.at fun o e => k45 _ o (fun hp => hPD _ hp rfl) e
              refine wpAny_list_append_plain (hsz := by rw [sizeLine_eq]; omega) hD₅ fun h₆ hD₆ hs₆ => ?_
              obtain ⟨iv₆, st₆⟩ := small iv₅ (fun a o _ hd _ e => hs₆.extBut a o hd e)
              refine ⟨items.length + 1 - (i + 1), by omega, h₆, tk₅, i + 1, π'', ys.push y, dsA ++ [d'], dsC, _, rfl, rfl, hlt, ?_, hD₆, (hn₃.at' fun o e => k45 _ o (fun hp => hPC _ hp rfl) e).sameBut hs₆ (Ne.symm hDC), ?_, iv₆, ?_, by simp; omega, hgo, by simp⟩
              · exact W.frame _ _ _ hSt₃ fun b hb o e => hs₆.extBut b o (fun q => hfpD (q ▸ hb)) (k45 b o (hfpP b hb) e)
              · exact fun a o hp e => hs₆.extBut a o (ne_of_get e hD0) (k45 a o hp (kk₃ a o hp e))
              · rw [Array.toList_push]
                refine RdL.append ?_ ?_
                · exact RdL.stay (fun a o hm e => ⟨hm, (st₆ a o hm (k45 a o (fun hp => hm (.inl (I₁.sub a hp))) (st₃ a o hm e).2)).2⟩) dsA _ rA
                · simp only [RdL]
                  exact ⟨y, [], rfl, Rd.stay st₆ d' y r₅, rfl⟩
      · have hin : i = items.length := by omega
        subst hin
        refine W.done _ _ _ hSt fun h₂ tk₂ hk₂ => ?_
        have hk₂' : ∀ a o, a ≠ I → h'.get? a = some o → h₂.get? a = some o := fun a o hne e => hk₂ a o (by simpa using hne) e
        rw [List.drop_length, compGo, Option.some.injEq, Prod.mk.injEq] at eB
        obtain ⟨rfl, rfl⟩ := eB
        obtain ⟨iv₃, st₃⟩ := small iv (fun a o _ _ hI e => hk₂' a o hI e)
        have stC : Stay μ₃ (fun a => μ a ∨ a = C) h₂ h₂ := fun a o hm e => ⟨fun q => q.elim (fun q => hm (.inl q)) fun q => hm (.inr (.inr (.inl q))), e⟩
        refine hRR D C h₂ tk₂ m' ys hD0 hC0 hDC (hn.at' fun o e => hk₂' _ o (Ne.symm hIC) e) (hD.at fun o e => hk₂' _ o (Ne.symm hID) e) ⟨h₂, tk₂, rfl, fun a o hp e => hk₂' a o (ne_of_get e hInew) (kk a o hp e)⟩ ?_ ?_
        · exact iv₃.stay stC fun g hg => ⟨rfl, .inl (I₁.sub _ ⟨g, hg, rfl⟩)⟩
        · rw [List.append_nil]
          exact RdL.stay stC _ _ (RdL.stay st₃ _ _ rA)
    · have base : ∀ t, ∃ h' tk i π ys dsA dsB m', ({ s₁ with heap := h₁, toks := t } : Shared) = { s₁ with heap := h', toks := tk } ∧ items.length + 1 = items.length + 1 - i ∧ i ≤ items.length ∧ St i h' ∧ h'.PlainList D ys ∧ h'.Ns C m' ∧
          (∀ a o, ¬ PP G a → s₁.heap.get? a = some o → h'.get? a = some o) ∧ Inv cx G μ₃ h' π ∧ RdL G μ₃ h' dsA ys.toList ∧ ys.size ≤ i ∧ compGo (fun v => tests (fT v) ifs) (fun v => fE v elt) (items.drop i) π = some (dsB, π₂) ∧ ds = dsA ++ dsB := fun t =>
        ⟨h₁, t, 0, π₁, #[], [], ds, _, rfl, rfl, Nat.zero_le _, W.frame _ _ _ hst fun b _ o e => k2 b o e, hD1, hns₁, kk₁, inv₁, by simp [RdL], by simp, by simpa using e, by simp⟩
      rcases hs₃ with rfl | rfl <;> exact base _
  have hSt₁ : St 0 h₁ := W.frame _ _ _ hst fun b _ o e => k2 b o e
  exact codeAny_compStart_list (start _ (.inr rfl)) (W.self 0 _ _ _ hSt₁ (start _ (.inr rfl)))
end

section
variable {cf : Cf} {fns : Str → Option Fn} {cx : Cx cf fns} {G : Option Gm} {μ : Addr → Prop} {κ : Str → Option NameKind} {ρ : Str → Option D} {env : Env}
variable {prog : Program} {w : World} {A : Around} {E : Value → Shared → Prop} {s : Shared} {N : Nat}

theorem rd_handed {h : Heap} {d : D} {v : Value} (r : Rd G μ h d v) : handedIn v = true := by
  cases d <;> simp only [Rd] at r
  · subst r; rfl
  · subst r; rfl
  · obtain ⟨t, rfl⟩ := r; rfl
  · obtain ⟨a, vs, rfl, _⟩ := r; rfl
  · obtain ⟨a, vs, rfl, _⟩ := r; rfl
  · obtain ⟨a, t, u, w, rfl, _⟩ := r; rfl
  · obtain ⟨g, _, rfl⟩ := r; rfl
  · obtain ⟨g, _, rfl⟩ := r; rfl

theorem game_meth {π : List Int} {g : Gm} {m key : Str} {pl : Sem Bool} {Q : Value × List Value → Shared → Prop} (c : EvC cx G μ κ ρ env s.heap) (I : Inv cx G μ s.heap π) (hg : G = some g) (hm : cf.meth m = some key)
    (h : ∀ f, cx.adr key = some f → Q (.ref f, [.ref g.ga]) s) : wpAny (model prog w) A (getMethod (.ref g.ga) m pl) Q E s := by
  obtain ⟨f, hf, h1, h2, h3⟩ := cx.meth m key hm
  obtain ⟨da, es, n, g1, g2, _, _, _, _, _, t⟩ := I g hg
  have IA : InstAt s.heap g.ga (instObj cx.C da) cx.C (some (dictOf es n)) := ⟨g1, rfl, rfl, g2⟩
  exact method_fn (cx.X.keeps c.base) IA (plainGet_of h3).1 (plainGet_of h3).2 h1 (beq_iff_eq.mp h2) (by show (lookIn m (dictOf es n)).map _ = _; rw [lookIn_dict, t m key hm]; rfl) (h f hf)

theorem game_attr {π : List Int} {g : Gm} {m : Str} {d : D} {expr : Bool} (c : EvC cx G μ κ ρ env s.heap) (I : Inv cx G μ s.heap π) (hg : G = some g) (hm : cf.fld m = some d) :
    wpAny (model prog w) A (getAttr (.ref g.ga) m expr) (Post cx G μ s π d) E s := by
  obtain ⟨h1, h2, a, h3, h4⟩ := cx.fld m d hm
  obtain ⟨da, es, n, g1, g2, _, _, _, _, f, _⟩ := id (I g hg)
  have IA : InstAt s.heap g.ga (instObj cx.C da) cx.C (some (dictOf es n)) := ⟨g1, rfl, rfl, g2⟩
  obtain ⟨v, hv, hr⟩ := f m d hm
  exact get_value (cx.X.keeps c.base) IA (plainGet_of h1).1 (findObj_own h2 h3 h4 hv) (rd_handed hr) ⟨Ext.tok, I, hr⟩

theorem evList_len {f : Expr → List Int → Option (D × List Int)} : ∀ {es : List Expr} {π : List Int} {ds : List D} {π₁ : List Int}, evList f es π = some (ds, π₁) → ds.length = es.length
  | [], _, _, _, h => by simp only [evList, Option.some.injEq, Prod.mk.injEq] at h; obtain ⟨rfl, rfl⟩ := h; rfl
  | e :: r, _, _, _, h => by
    simp only [evList] at h
    split at h
    · cases h
    · split at h
      · cases h
      · rename_i h2; cases h; simp [evList_len h2]

theorem swap_none {e : Expr} {t : Option Expr} {l : Nat} (h : ∀ a b c d, e ≠ .ListComp a b c d) (h2 : plainTest e = true) : swapsWith e t l env = pure false := by
  cases e <;> first | rfl | cases h2

theorem list_comp {elt iter : Expr} {x : Str} {px : Pos} {ifs : List Expr} {scope : Scope} {pos : Pos} {items ds : List D} {d : D} {π π₁ π₂ : List Int} {f : Expr → List Int → Option (D × List Int)} {fT fE : D → Expr → List Int → Option (D × List Int)}
    (S : SndE cx G N f κ ρ) (hA : AOk A N) (so : scopeOk κ x scope = true) (hs : noSet iter = true) (c : EvC cx G μ κ ρ env s.heap) (I : Inv cx G μ s.heap π) (ei : f iter π = some (d, π₁)) (ed : itemsOf d = some items)
    (hT : ∀ d, SndT cx G N (fT d) (fun y => scope.names.lookup y) (fun y => if y = x then some d else if isFree (fun y => scope.names.lookup y) y then ρ y else none))
    (hE : ∀ d, SndE cx G N (fE d) (fun y => scope.names.lookup y) (fun y => if y = x then some d else if isFree (fun y => scope.names.lookup y) y then ρ y else none))
    (e : compGo (fun v => tests (fT v) ifs) (fun v => fE v elt) items π₁ = some (ds, π₂)) {use : Option (Value → Sem Unit)} {p : Pos} {Q : Value → Shared → Prop}
    (hQ : ∀ D s' (m' : Str → Option Value) (C : Addr), s.heap.get? D = none → s.heap.get? C = none → Ext (PP G) s s' → Inv cx G (fun a => μ a ∨ a = C) s'.heap π₂ → Rd G (fun a => μ a ∨ a = C) s'.heap (.list ds) (.ref D) → s'.heap.Ns C m' →
      compPost (model prog w) A E use Q (.ref D) C (.ok .next) s') :
    wpAny (model prog w) A (comprehension (.ListComp elt [⟨.Name x px, iter, ifs, 0⟩] scope pos) scope env p (newList []) false (eval iter env) use) Q E s := by
  have so' := scopeOk_of so
  obtain ⟨cl, hcl, h1, h2⟩ := closure_ok (env := env) (scope := scope) (fun q hq hf => c.kc q.1 (so'.free q hq hf))
  refine wpAny_comprehension_free (g := ⟨.Name x px, iter, ifs, 0⟩) (gs := []) rfl (fun v => by cases iter <;> first | rfl | cases hs) hcl so'.kind so'.locs (wpAny_mono (S iter π d π₁ ei prog w A env s μ E hA c I) (fun v s₁ q => ?_) fun _ _ e => e)
  obtain ⟨x1, I1, r1⟩ := q
  have hz : items.length ≤ 10000 := by
    unfold itemsOf at ed
    split at ed
    · split at ed
      · cases ed; assumption
      · cases ed
    · split at ed
      · cases ed; assumption
      · cases ed
    · split at ed
      · cases ed; simp; omega
      · cases ed
    · cases ed
  refine wpAny_mono (iter_sound hA.handled ed r1) (fun it s₂ q => ?_) fun _ _ e => e
  obtain ⟨I', rfl, it⟩ := q
  refine comp_core (RR := fun acc C => compPost (model prog w) A E use Q acc C) hA so' (c.ext x1 I1) I1 it hz h1 h2 hT hE e ?_
  intro D C h' tk m' ys hD hC hDC hn hpl hx hi hr
  have dn : ∀ a, s₁.heap.get? a = none → s.heap.get? a = none := fun a e => by
    cases q : s.heap.get? a with
    | none => rfl
    | some o =>
      by_cases hp : PP G a
      · obtain ⟨o', e'⟩ := I1.at a hp; rw [e] at e'; cases e'
      · rw [x1.keep hp q] at e; cases e
  refine hQ D _ m' C (dn D hD) (dn C hC) (x1.trans hx) hi ?_ hn
  simp only [Rd]
  refine ⟨D, ys.toList, rfl, ?_, ?_, hr⟩
  · rintro (q | q)
    · obtain ⟨o, e⟩ := (c.ext x1 I1).live D q; rw [hD] at e; cases e
    · exact hDC q
  · have := hpl.isList; simpa using this

/-! ways back from an answer to what it was made of -/
theorem o_no {α : Type} {a : α} {P : Prop} (h : (none : Option α) = some a) : P := nomatch h
theorem o_ok {α β : Type} {a a' : α} {b b' : β} (h : some (a, b) = some (a', b')) : a' = a ∧ b' = b := by cases h; exact ⟨rfl, rfl⟩
theorem o_bnd {γ : Type} {x : Option (D × List Int)} {k : D → List Int → Option γ} {r : γ} {P : Prop} (h : (match x with | none => none | some (a, b) => k a b) = some r) (q : ∀ a b, x = some (a, b) → k a b = some r → P) : P := by
  cases x with
  | none => exact o_no h
  | some p => exact q p.1 p.2 rfl h
theorem o_bndL {γ : Type} {x : Option (List D × List Int)} {k : List D → List Int → Option γ} {r : γ} {P : Prop} (h : (match x with | none => none | some (a, b) => k a b) = some r) (q : ∀ a b, x = some (a, b) → k a b = some r → P) : P := by
  cases x with
  | none => exact o_no h
  | some p => exact q p.1 p.2 rfl h
theorem o_bnd' {γ : Type} {x : Option (D × List Int)} {k : D → List Int → Option γ} {r : γ} {P : Prop} (h : (match x with | some (a, b) => k a b | none => none) = some r) (q : ∀ a b, x = some (a, b) → k a b = some r → P) : P := by
  cases x with
  | none => exact o_no h
  | some p => exact q p.1 p.2 rfl h
theorem o_items {γ : Type} {x : Option (List D)} {k : List D → Option γ} {r : γ} {P : Prop} (h : (match x with | none => none | some a => k a) = some r) (q : ∀ a, x = some a → k a = some r → P) : P := by
  cases x with
  | none => exact o_no h
  | some p => exact q p rfl h
theorem o_map {α β γ : Type} {x : Option α} {g : α → β} {p : γ} {r : β × γ} {P : Prop} (h : (x.map fun a => (g a, p)) = some r) (q : ∀ a, x = some a → (g a, p) = r → P) : P := by
  cases x with
  | none => exact o_no h
  | some a => exact q a rfl (Option.some.inj h)
theorem o_if {α : Type} {c : Prop} [Decidable c] {x : Option α} {r : α} {P : Prop} (h : (if c then x else none) = some r) (q : c → x = some r → P) : P := by
  by_cases hc : c
  · rw [if_pos hc] at h; exact q hc h
  · rw [if_neg hc] at h; exact o_no h
theorem o_ite {α : Type} {c : Prop} [Decidable c] {x y : Option α} {r : α} {P : Prop} (h : (if c then x else y) = some r) (q : c → x = some r → P) (q' : ¬c → y = some r → P) : P := by
  by_cases hc : c
  · rw [if_pos hc] at h; exact q hc h
  · rw [if_neg hc] at h; exact q' hc h
theorem o_bool {γ : Type} {x : Option (D × List Int)} {k : Bool → List Int → Option γ} {r : γ} {P : Prop} (h : (match x with | some (.bool b, p) => k b p | _ => none) = some r) (q : ∀ b p, x = some (.bool b, p) → k b p = some r → P) : P := by
  cases x with
  | none => exact o_no h
  | some p =>
    obtain ⟨d, p⟩ := p
    cases d with
    | bool b => exact q b p rfl h
    | _ => exact o_no h
theorem o_int {γ : Type} {x : Option (D × List Int)} {k : Int → List Int → Option γ} {r : γ} {P : Prop} (h : (match x with | some (.int b, p) => k b p | _ => none) = some r) (q : ∀ b p, x = some (.int b, p) → k b p = some r → P) : P := by
  cases x with
  | none => exact o_no h
  | some p =>
    obtain ⟨d, p⟩ := p
    cases d with
    | int b => exact q b p rfl h
    | _ => exact o_no h
theorem o_pair {a a' : D} {b b' : List Int} (h : (a, b) = (a', b')) : a' = a ∧ b' = b := by cases h; exact ⟨rfl, rfl⟩

theorem rd_int {h : Heap} {i : Int} {v : Value} (r : Rd G μ h (.int i) v) : ∃ t, v = .int i t := by simpa only [Rd] using r
theorem rd_game {h : Heap} {v : Value} (r : Rd G μ h .game v) : ∃ g, G = some g ∧ v = .ref g.ga := by simpa only [Rd] using r

section
variable {f : Expr → List Int → Option (D × List Int)} {π π₁ π₂ : List Int}
theorem SndE.go (S : SndE cx G N f κ ρ) (hA : AOk A N) (c : EvC cx G μ κ ρ env s.heap) (I : Inv cx G μ s.heap π) {e : Expr} {d : D} (h : f e π = some (d, π₁)) {Q : Value → Shared → Prop}
    (k : ∀ v s₁, Ext (PP G) s s₁ → Inv cx G μ s₁.heap π₁ → EvC cx G μ κ ρ env s₁.heap → Rd G μ s₁.heap d v → Q v s₁) : wpAny (model prog w) A (eval e env) Q E s :=
  wpAny_mono (S e π d π₁ h prog w A env s μ E hA c I) (fun v s₁ q => k v s₁ q.1 q.2.1 (c.ext q.1 q.2.1) q.2.2) fun _ _ e => e
theorem SndT.go (S : SndT cx G N f κ ρ) (hA : AOk A N) (c : EvC cx G μ κ ρ env s.heap) (I : Inv cx G μ s.heap π) {e : Expr} {b : Bool} (h : f e π = some (.bool b, π₁)) {Q : Bool → Shared → Prop}
    (k : ∀ s₁, Ext (PP G) s s₁ → Inv cx G μ s₁.heap π₁ → EvC cx G μ κ ρ env s₁.heap → Q b s₁) : wpAny (model prog w) A (isTrue e env (eval e env)) Q E s :=
  wpAny_mono (S e π _ π₁ h prog w A env s μ E hA c I) (fun v s₁ q => by cases q.1; exact k s₁ q.2.1 q.2.2 (c.ext q.2.1 q.2.2)) fun _ _ e => e
theorem SndE.two (S : SndE cx G N f κ ρ) (hA : AOk A N) (c : EvC cx G μ κ ρ env s.heap) (I : Inv cx G μ s.heap π) {l r : Expr} {a b : D} (ha : f l π = some (a, π₁)) (hb : f r π₁ = some (b, π₂)) {Q : Value → Value → Shared → Prop}
    (k : ∀ va vb s₂, Ext (PP G) s s₂ → Inv cx G μ s₂.heap π₂ → Live μ s₂.heap → Rd G μ s₂.heap a va → Rd G μ s₂.heap b vb → Q va vb s₂) :
    wpAny (model prog w) A (eval l env) (fun va s₁ => wpAny (model prog w) A (eval r env) (fun vb s₂ => Q va vb s₂) E s₁) E s :=
  S.go hA c I ha fun va s₁ x1 I1 c1 r1 => S.go hA c1 I1 hb fun vb s₂ x2 I2 c2 r2 => k va vb s₂ (x1.trans x2) I2 c2.live (Rd.stay (x2.stay I2.sub) a va r1) r2
theorem made_end {α : Type} {s₂ : Shared} {code : Sem α} {d : D} {val : α → Value} (x : Ext (PP G) s s₂) (I : Inv cx G μ s₂.heap π) (h : wpAny (model prog w) A code (fun v => Made1 G μ s₂ d (val v)) E s₂) :
    wpAny (model prog w) A code (fun v => Post cx G μ s π d (val v)) E s₂ :=
  wpAny_mono h (fun v s₃ q => ⟨x.trans q.1.wide, I.ext q.1, q.2⟩) fun _ _ e => e
theorem SndE.on {s₁ : Shared} (S : SndE cx G N f κ ρ) (hA : AOk A N) (x : Ext (PP G) s s₁) (c : EvC cx G μ κ ρ env s₁.heap) (I : Inv cx G μ s₁.heap π) {e : Expr} {d : D} (h : f e π = some (d, π₁)) :
    wpAny (model prog w) A (eval e env) (Post cx G μ s π₁ d) E s₁ := S.go hA c I h fun _ _ x1 I1 _ r1 => ⟨x.trans x1, I1, r1⟩
end

theorem cmp_inv {f : Ev} {l : Expr} {ops : List CmpOp} {rs : List Expr} {π : List Int} {x : D × List Int} {P : Prop} (h : evCmp f κ ρ l ops rs π = some x)
    (q : ∀ op r a π₁ b π₂ d, ops = [op] → rs = [r] → behindInMarks op r = false → f false κ ρ l π = some (a, π₁) → f false κ ρ r π₁ = some (b, π₂) → cmpop op a b = some d → (d, π₂) = x → P) : P := by
  unfold evCmp at h
  split at h
  · split at h
    · split at h
      · exact o_no h
      · rename_i hm
        exact o_bnd h fun a π₁ ha h => o_bnd h fun b π₂ hb h => o_map h fun d hd e => q _ _ a π₁ b π₂ d rfl rfl (by simpa using hm) ha hb hd e
    · exact o_no h
  · exact o_no h
theorem call_inv {cf : Cf} {Φ : Mean} {f : Ev} {fn : Expr} {args : List Expr} {kws : List Keyword} {cp : Pos} {π : List Int} {x : D × List Int} {P : Prop} (h : evCall cf Φ f κ ρ fn args kws cp π = some x)
    (q1 : ∀ g p, kws = [] → fn = .Name g p → evName cf Φ f κ ρ g args π = some x → P)
    (q2 : ∀ y p m ap, kws = [] → fn = .Attribute (.Name y p) m ap → evMeth cf Φ f κ ρ y m ap cp args π = some x → P) : P := by
  cases kws with
  | cons => exact o_no h
  | nil => cases fn with
    | Name g p => exact q1 g p rfl rfl h
    | Attribute o m ap => cases o with
      | Name y p => exact q2 y p m ap rfl rfl h
      | _ => exact o_no h
    | _ => exact o_no h
theorem attr_inv {cf : Cf} {o : Expr} {m : Str} {π : List Int} {x : D × List Int} {P : Prop} (h : evAttr cf κ ρ o m π = some x) (q : ∀ y p d, o = .Name y p → isVar κ y = true → ρ y = some .game → cf.fld m = some d → (d, π) = x → P) : P := by
  cases o with
  | Name y p =>
    refine o_if h fun hv h => ?_
    cases hy : ρ y with
    | none => rw [hy] at h; exact o_no h
    | some d => cases d with
      | game => rw [hy] at h; exact o_map h fun d hd e => q y p d rfl hv hy hd e
      | _ => rw [hy] at h; exact o_no h
  | _ => exact o_no h
theorem comp_inv {f : Ev} {elt : Expr} {gens : List Comprehension} {scope : Scope} {π : List Int} {z : D × List Int} {P : Prop} (h : evComp f κ ρ elt gens scope π = some z)
    (q : ∀ x px iter ifs d₁ π₁ items ds π₂, gens = [⟨.Name x px, iter, ifs, 0⟩] → scopeOk κ x scope = true → noSet iter = true → f false κ ρ iter π = some (d₁, π₁) → itemsOf d₁ = some items →
      compGo (fun v => tests (f true (fun y => scope.names.lookup y) (fun y => if y = x then some v else if isFree (fun y => scope.names.lookup y) y then ρ y else none)) ifs)
        (fun v => f false (fun y => scope.names.lookup y) (fun y => if y = x then some v else if isFree (fun y => scope.names.lookup y) y then ρ y else none) elt) items π₁ = some (ds, π₂) → (.list ds, π₂) = z → P) : P := by
  cases gens with
  | nil => exact o_no h
  | cons g r => cases r with
    | cons => exact o_no h
    | nil =>
      obtain ⟨tgt, iter, ifs, isa⟩ := g
      cases tgt with
      | Name x px =>
        refine o_if (c := isa = 0) h fun hz h => ?_
        subst hz
        refine o_if h fun hg h => ?_
        simp only [Bool.and_eq_true] at hg
        exact o_bnd h fun d₁ π₁ hd h => o_items h fun items hi h => o_bndL h fun ds π₂ hgo h => q x px iter ifs d₁ π₁ items ds π₂ rfl hg.1 hg.2 hd hi hgo (Option.some.inj h)
      | _ => exact o_no h
theorem test_inv {f : Ev} {e : Expr} {π : List Int} {z : D × List Int} {P : Prop} (h : evT f κ ρ e π = some z)
    (q1 : ∀ x p b π₁, e = .UnaryOp .Not x p → f true κ ρ x π = some (.bool b, π₁) → (.bool (!b), π₁) = z → P) (q2 : ∀ op es p, e = .BoolOp op es p → evAlls (f true κ ρ) op es π = some z → P)
    (q3 : ∀ a π₁ b, plainTest e = true → f false κ ρ e π = some (a, π₁) → truth a = some b → (.bool b, π₁) = z → P) : P := by
  have dflt : (if plainTest e then (match f false κ ρ e π with | some (d, π₁) => (truth d).map fun b => ((D.bool b), π₁) | none => none) else none) = some z → P := fun h =>
    o_if h fun hp h => o_bnd' h fun a π₁ ha h => o_map h fun b hb e => q3 a π₁ b hp ha hb e
  cases e with
  | UnaryOp op x p => cases op with
    | Not => exact o_bool h fun b π₁ hb h => q1 x p b π₁ rfl hb (Option.some.inj h)
    | _ => exact dflt h
  | BoolOp op es p => exact q2 op es p rfl h
  | _ => exact dflt h

theorem bi_known {g : Str} {ds : List D} {π : List Int} {d : D} (hd : builtin g ds π = some d) : ∃ fv, biVal g = some fv := by
  unfold builtin at hd; unfold biVal
  refine o_ite hd (fun h _ => ⟨_, if_pos h⟩) fun h hd => ?_
  rw [if_neg h]
  refine o_ite hd (fun h _ => ⟨_, if_pos h⟩) fun h hd => ?_
  rw [if_neg h]
  refine o_ite hd (fun h _ => ⟨_, if_pos h⟩) fun h hd => ?_
  rw [if_neg h]
  refine o_ite hd (fun h _ => ⟨_, if_pos h⟩) fun h hd => ?_
  rw [if_neg h]
  exact o_if hd fun h _ => ⟨_, if_pos h⟩
theorem bi_kind {g : Str} {fv : Value} (h : biVal g = some fv) : (∃ id, fv = .builtin id) ∨ (∃ T, fv = .type T) := by
  unfold biVal at h
  repeat' split at h
  all_goals first | (cases h; exact .inl ⟨_, rfl⟩) | (cases h; exact .inr ⟨_, rfl⟩) | cases h

theorem name_sound {Φ : Mean} {f : Ev} {g : Str} {fp pos : Pos} {args : List Expr} {π π' : List Int} {d : D} (S : SndE cx G N (f false κ ρ) κ ρ) (SM : SoundM cx G N Φ) (hA : AOk A N) (c : EvC cx G μ κ ρ env s.heap) (I : Inv cx G μ s.heap π)
    (h : evName cf Φ f κ ρ g args π = some (d, π')) : wpAny (model prog w) A (eval (.Call (.Name g fp) args [] pos) env) (Post cx G μ s π' d) E s := by
  refine o_if h fun hg h => ?_
  simp only [Bool.and_eq_true, decide_eq_true_eq] at hg
  refine o_bndL h fun ds π₁ hds h => ?_
  cases hk : cf.gfun g with
  | some key =>
    rw [hk] at h
    obtain ⟨fa, h1, h2⟩ := cx.gfun g key hk
    exact Call_ (load_glob c hg.1.1 h2 (call_sound (pre := []) S SM hA h1 hg.1.2 hds h c I (by simp [RdL])))
  | none =>
    rw [hk] at h
    refine o_map h fun d' hd e => ?_
    obtain ⟨rfl, rfl⟩ := o_pair e
    obtain ⟨fv, hfv⟩ := bi_known hd
    obtain ⟨g1, g2⟩ := cx.gbi g fv hk hfv
    refine Call_ (load_built c hg.1.1 g1 g2 ?_)
    have fin : wpAny (model prog w) A (evalArgs fv true (backTo pos (starEach args env)) []) (fun a s₁ => wpAny (model prog w) A (call fv ([] ++ a.pos) a.kw) (Post cx G μ s π' d) E s₁) E s :=
      evalArgs_spl (star_any hg.1.2) (wpAny_mono (list_sound S hA hg.1.2 hds c I) (fun vs s₁ q => made_end (val := id) q.1 q.2.1 (builtin_sound (c.ext q.1 q.2.1).live hA.handled hfv hd q.2.2 q.2.1.path)) fun _ _ e => e)
    rcases bi_kind hfv with ⟨id, rfl⟩ | ⟨T, rfl⟩
    · exact Calls.callWith_builtin (star_any hg.1.2) fin
    · exact PyProof.Rows.callWith_type (star_any hg.1.2) fin

theorem meth_sound {Φ : Mean} {f : Ev} {x m : Str} {xp ap pos : Pos} {args : List Expr} {π π' : List Int} {d : D} (S : SndE cx G N (f false κ ρ) κ ρ) (SM : SoundM cx G N Φ) (hA : AOk A N) (c : EvC cx G μ κ ρ env s.heap) (I : Inv cx G μ s.heap π)
    (h : evMeth cf Φ f κ ρ x m ap pos args π = some (d, π')) : wpAny (model prog w) A (eval (.Call (.Attribute (.Name x xp) m ap) args [] pos) env) (Post cx G μ s π' d) E s := by
  refine o_if h fun hg h => ?_
  simp only [Bool.and_eq_true, decide_eq_true_eq, beq_iff_eq] at hg
  obtain ⟨⟨⟨hv, hn⟩, hl⟩, hp⟩ := hg
  split at h
  · rename_i key hx hm
    refine o_bndL h fun ds π₁ hds h => ?_
    rw [meth_eq hn hl hp _ rfl]
    obtain ⟨v, hb, hr⟩ := c.vars x _ hv hx
    obtain ⟨g, hg, rfl⟩ := rd_game hr
    refine wpAny_bind (load_var c.kind (isVar_ok hv) hb (wpAny_bind (wpAny_standAt (wpAny_bind (wpAny_holding (game_meth c I hg hm fun f hf => ?_))))))
    refine call_sound (pre := [.game]) S SM hA hf hn hds h c I ?_
    simp only [RdL, Rd]
    exact ⟨_, _, rfl, ⟨g, hg, rfl⟩, rfl⟩
  · exact o_no h

theorem comp_post {π₂ π₁ : List Int} {ds : List D} {L : Addr} {s' : Shared} {m' : Str → Option Value} {C : Addr} (I : Inv cx G μ s.heap π₁) (hC : s.heap.get? C = none) (hx : Ext (PP G) s s') (hi : Inv cx G (fun a => μ a ∨ a = C) s'.heap π₂) (hr : Rd G (fun a => μ a ∨ a = C) s'.heap (.list ds) (.ref L)) (hn : s'.heap.Ns C m') :
    compPost (model prog w) A E none (Post cx G μ s π₂ (.list ds)) (.ref L) C (.ok .next) s' := by
  refine ⟨m', hn, fun h' hs' => ?_⟩
  have st : Stay (fun a => μ a ∨ a = C) μ s'.heap h' := fun a o hm e => ⟨fun q => hm (.inl q), hs'.extBut a o (fun q => hm (.inr q)) e⟩
  have kC : ∀ a o, s.heap.get? a = some o → a ≠ C := fun a o e => ne_of_get e hC
  refine ⟨?_, ?_, Rd.stay st _ _ hr⟩
  · obtain ⟨h1, t1, rfl, k1⟩ := hx
    exact ⟨h', t1, rfl, fun a o hp e => hs'.extBut a o (kC a o e) (k1 a o hp e)⟩
  · refine hi.stay st fun g hg => ?_
    have hp : PP G g.pa := ⟨g, hg, rfl⟩
    obtain ⟨o, e⟩ := I.at _ hp
    obtain ⟨o', e'⟩ := hi.at _ hp
    exact ⟨(hs'.extBut _ o' (kC _ o e) e').trans e'.symm, I.sub _ hp⟩

theorem plain_kind {e : Expr} (h : plainTest e = true) : (∃ l ops rs pos, e = .Compare l ops rs pos) ∨ ∀ env whole, isTrue e env whole = (do let v ← whole; standAt e.pos; holding [v] (truthy v)) := by
  cases e with
  | Compare l ops rs pos => exact .inl ⟨_, _, _, _, rfl⟩
  | _ => first | exact .inr fun _ _ => rfl | cases h

theorem evV_sound {Φ : Mean} (SM : SoundM cx G N Φ) {f : Ev} (SE : ∀ κ ρ, SndE cx G N (f false κ ρ) κ ρ) (ST : ∀ κ ρ, SndT cx G N (f true κ ρ) κ ρ) : SndE cx G N (evV cf Φ f κ ρ) κ ρ := by
  intro e π d π' h prog w A env s μ E hA c I
  have S := SE κ ρ
  cases e with
  | Constant k n p => cases k with
    | int i => obtain ⟨rfl, rfl⟩ := o_ok h; exact wpAny_Constant_int (Made1.post I made_int)
    | bool b => obtain ⟨rfl, rfl⟩ := o_ok h; exact wpAny_Constant_bool (Made1.post I made_bool)
    | none => obtain ⟨rfl, rfl⟩ := o_ok h; exact wpAny_Constant_none ⟨Ext.refl s, I, by simp [Rd]⟩
    | _ => exact o_no h
  | Name x pos =>
    refine o_ite h (fun hv h => o_map h fun d' hd e => ?_) fun _ h => o_if h fun hg h => o_map h fun i hi e => ?_
    · obtain ⟨rfl, rfl⟩ := o_pair e
      obtain ⟨v, hb, hr⟩ := c.vars x d hv hd
      exact load_var c.kind (isVar_ok hv) hb ⟨Ext.refl s, I, hr⟩
    · obtain ⟨rfl, rfl⟩ := o_pair e
      obtain ⟨t, ht⟩ := cx.gint x i hi
      exact load_glob c hg ht ⟨Ext.refl s, I, by simp [Rd]⟩
  | BinOp l op r pos =>
    refine o_bnd h fun a π₁ ha h => o_bnd h fun b π₂ hb h => o_map h fun d' hd e => ?_
    obtain ⟨rfl, rfl⟩ := o_pair e
    exact wpAny_BinOp (S.two hA c I ha hb fun va vb s₂ x I2 L ra rb => made_end (val := id) x I2 (binop_sound L hd ra rb))
  | UnaryOp op x pos => cases op with
    | USub =>
      refine o_int h fun i π₁ hi h => ?_
      obtain ⟨rfl, rfl⟩ := o_ok h
      refine wpAny_UnaryOp (S.go hA c I hi fun v s₁ x1 I1 _ r1 => ?_)
      obtain ⟨t, rfl⟩ := rd_int r1
      refine P.neg_int ?_
      have p := Made1.post (cx := cx) (d := .int (-i)) I1 (made_int (t := s₁.toks) (t' := s₁.toks + 1))
      exact ⟨x1.trans p.1, p.2⟩
    | Not =>
      refine o_bnd' h fun a π₁ hi h => o_map h fun b hb e => ?_
      obtain ⟨rfl, rfl⟩ := o_pair e
      refine wpAny_UnaryOp (S.go hA c I hi fun v s₁ x1 I1 _ r1 => ?_)
      refine not_value (wpAny_mono (truth_sound hb r1) (fun t s₂ q => ?_) fun _ _ e => e)
      obtain ⟨rfl, x2⟩ := q
      exact ⟨x1.trans x2.wide, I1.ext x2, by simp [Rd]⟩
    | _ => exact o_no h
  | BoolOp op es pos =>
    rw [arm_eval_BoolOp]
    exact bools_sound S hA h c I
  | Compare l ops rs pos =>
    refine cmp_inv h fun op r a π₁ b π₂ d' h1 h2 hm ha hb hd e => ?_
    subst h1 h2
    obtain ⟨rfl, rfl⟩ := o_pair e
    exact wpAny_Compare1 (S.two hA c I ha hb fun va vb s₂ x I2 L ra rb => made_end (val := id) x I2 (cmpop_sound (by have := hA.units; omega) hd ra rb)) hm
  | IfExp t a b pos =>
    refine o_bool h fun cc π₁ hc h => wpAny_IfExp ((ST κ ρ).go hA c I hc fun s₁ x1 I1 c1 => ?_)
    cases cc with
    | true => exact S.on hA x1 c1 I1 h
    | false => exact S.on hA x1 c1 I1 h
  | Call fn args kws pos =>
    refine call_inv h (fun g p h1 h2 h => ?_) fun y p m ap h1 h2 h => ?_
    · subst h1 h2; exact name_sound S SM hA c I h
    · subst h1 h2; exact meth_sound S SM hA c I h
  | Attribute o m ap =>
    refine attr_inv h fun y p d' h1 hv hy hd e => ?_
    subst h1
    obtain ⟨rfl, rfl⟩ := o_pair e
    obtain ⟨v, hb, hr⟩ := c.vars y _ hv hy
    obtain ⟨g, hg, rfl⟩ := rd_game hr
    exact Attribute_Name_ (load_var c.kind (isVar_ok hv) hb (game_attr c I hg hd)) rfl
  | Subscript v sl pos =>
    refine o_if h fun hs h => o_bnd h fun a π₁ ha h => o_bnd h fun b π₂ hb h => o_map h fun d' hd e => ?_
    obtain ⟨rfl, rfl⟩ := o_pair e
    exact Subscript_ (S.two hA c I ha hb fun va vb s₂ x I2 L ra rb => made_end (val := id) x I2 (item_sound hs hd ra rb I2.path))
  | List es pos =>
    refine o_if h fun hg h => o_bndL h fun ds π₁ hds h => ?_
    simp only [Bool.and_eq_true, decide_eq_true_eq] at hg
    obtain ⟨rfl, rfl⟩ := o_ok h
    refine wpAny_List (wpAny_mono (list_sound S hA hg.1 hds c I) (fun vs s₁ q => ?_) fun _ _ e => e)
    refine ⟨by rw [q.2.2.length, evList_len hds, sizeLine_eq]; omega, ?_⟩
    have p := Made1.post q.2.1 (rd_list_push (t := s₁.toks) (c.ext q.1 q.2.1).live q.2.2)
    exact ⟨q.1.trans p.1, p.2⟩
  | Tuple es k pos =>
    refine o_if h fun hg h => o_bndL h fun ds π₁ hds h => ?_
    simp only [Bool.and_eq_true, decide_eq_true_eq] at hg
    obtain ⟨rfl, rfl⟩ := o_ok h
    refine wpAny_Tuple (wpAny_mono (list_sound S hA hg.1 hds c I) (fun vs s₁ q => ?_) fun _ _ e => e)
    refine ⟨by rw [q.2.2.length, evList_len hds, sizeLine_eq]; omega, ?_⟩
    have p := Made1.post q.2.1 (rd_tup_push (t := s₁.toks) (c.ext q.1 q.2.1).live q.2.2)
    exact ⟨q.1.trans p.1, p.2⟩
  | ListComp elt gens scope pos =>
    refine comp_inv h fun x px iter ifs d₁ π₁ items ds π₂ hgen hso hns hd hit hgo e => ?_
    subst hgen
    obtain ⟨rfl, rfl⟩ := o_pair e
    rw [eval_ListComp]
    exact list_comp S hA hso hns c I hd hit (fun v => ST _ _) (fun v => SE _ _) hgo fun D s' m' C hD hC hx hi hr hn => comp_post I hC hx hi hr hn
  | _ => exact o_no h

theorem cmpT_sound {f : Ev} {l : Expr} {ops : List CmpOp} {rs : List Expr} {pos : Pos} {a : D} {b : Bool} {π π₁ : List Int} (S : SndE cx G N (f false κ ρ) κ ρ) (hA : AOk A N) (c : EvC cx G μ κ ρ env s.heap) (I : Inv cx G μ s.heap π) (h : evCmp f κ ρ l ops rs π = some (a, π₁)) (hb : truth a = some b) :
    wpAny (model prog w) A (isTrue (.Compare l ops rs pos) env (eval (.Compare l ops rs pos) env)) (PostB cx G μ s π₁ (.bool b)) E s := by
  refine cmp_inv h fun op r a' π₂ b' π₃ d' h1 h2 hm ha hb' hd e => ?_
  subst h1 h2
  obtain ⟨rfl, rfl⟩ := o_pair e
  refine wpAny_isTrue_Compare1 (S.two hA c I ha hb' fun va vb s₂ x I2 L ra rb => ?_) hm
  refine wpAny_mono (cmpop_sound (by have := hA.units; omega) hd ra rb) (fun v s₃ q => ?_) fun _ _ e => e
  refine wpAny_mono (truth_sound hb q.2) (fun t s₄ q' => ?_) fun _ _ e => e
  obtain ⟨rfl, x4⟩ := q'
  have p := Made1.post I2 q
  exact ⟨rfl, x.trans (p.1.trans x4.wide), p.2.1.ext x4⟩

theorem evT_sound {f : Ev} (S : SndE cx G N (f false κ ρ) κ ρ) (ST : SndT cx G N (f true κ ρ) κ ρ)
    (hC : ∀ l ops rs pos π x, f false κ ρ (.Compare l ops rs pos) π = some x → ∃ f' : Ev, SndE cx G N (f' false κ ρ) κ ρ ∧ evCmp f' κ ρ l ops rs π = some x) : SndT cx G N (evT f κ ρ) κ ρ := by
  intro e π d π' h prog w A env s μ E hA c I
  refine test_inv h (fun x p b π₁ he hb e => ?_) (fun op es p he h => ?_) fun a π₁ b hp ha hb e => ?_
  · subst he
    obtain ⟨rfl, rfl⟩ := o_pair e
    exact wpAny_isTrue_Not (ST.go hA c I hb fun s₁ x1 I1 _ => ⟨rfl, x1, I1⟩)
  · subst he
    exact wpAny_isTrue_BoolOp (alls_sound ST hA h c I)
  · obtain ⟨rfl, rfl⟩ := o_pair e
    rcases plain_kind hp with ⟨l, ops, rs, pos, rfl⟩ | hv
    · obtain ⟨f', S', h'⟩ := hC _ _ _ _ _ _ ha
      exact cmpT_sound S' hA c I h' hb
    · refine wpAny_isTrue_value (S.go hA c I ha fun v s₁ x1 I1 _ r1 => wpAny_mono (truth_sound hb r1) (fun t s₂ q => ?_) fun _ _ e => e) (hv _ _)
      obtain ⟨rfl, x2⟩ := q
      exact ⟨rfl, x1.trans x2.wide, I1.ext x2⟩

theorem ev_sound {Φ : Mean} (SM : SoundM cx G N Φ) : ∀ n, (∀ κ ρ, SndE cx G N (ev cf Φ n false κ ρ) κ ρ) ∧ (∀ κ ρ, SndT cx G N (ev cf Φ n true κ ρ) κ ρ) := by
  intro n
  induction n using Nat.strongRecOn with
  | ind n ih =>
  cases n with
  | zero => exact ⟨fun κ ρ e π d π' h => o_no h, fun κ ρ e π d π' h => o_no h⟩
  | succ n =>
    have ih0 := ih n (Nat.lt_succ_self n)
    refine ⟨fun κ ρ => evV_sound SM ih0.1 ih0.2, fun κ ρ => evT_sound (ih0.1 κ ρ) (ih0.2 κ ρ) fun l ops rs pos π x h => ?_⟩
    cases n with
    | zero => exact o_no h
    | succ k => exact ⟨ev cf Φ k, (ih k (Nat.lt_succ_of_lt (Nat.lt_succ_self k))).1 κ ρ, h⟩
end

section
variable {cf : Cf} {fns : Str → Option Fn}

noncomputable def ownAt (κ : Str → Option NameKind) (ρ : Rho) (oa : Str → Addr) (a : Addr) : Prop := ∃ x xs, isVar κ x = true ∧ ρ x = some (.own xs) ∧ a = oa x
/-- the places that this frame may still turn, and those from without -/
noncomputable def muF (μ₀ pd : Addr → Prop) (κ : Str → Option NameKind) (env : Env) (ρ : Rho) (oa : Str → Addr) (a : Addr) : Prop := μ₀ a ∨ pd a ∨ fa env a ∨ ownAt κ ρ oa a

/-- a frame's state -/
structure FS (cx : Cx cf fns) (G : Option Gm) (s₀ : Shared) (μ₀ pd : Addr → Prop) (κ : Str → Option NameKind) (env : Env) (ρ : Rho) (oa : Str → Addr) (s : Shared) (π : List Int) : Prop where
  kind : env.scope.kind = .function
  glob : env.globals = mainGlobals
  bi : env.builtins = builtinsNs
  kk : ∀ x, env.kindOf x = κ x
  kc : ∀ x, (κ x = some .cell ∨ κ x = some .free) → ∃ c, env.cells.lookup x = some c
  base : ∀ a o, cx.h₀.get? a = some o → s₀.heap.get? a = some o
  off : ∀ a o, cx.h₀.get? a = some o → ¬ PP G a
  live0 : Live μ₀ s₀.heap
  pa0 : ∀ a, PP G a → μ₀ a
  ext : Ext (PP G) s₀ s
  ns : ∃ m, s.heap.Ns env.locals m
  cell : ∀ x c, env.cells.lookup x = some c → ∃ v, s.heap.IsCell c v
  inj : ∀ x y c, env.cells.lookup x = some c → env.cells.lookup y = some c → x = y
  cne : ∀ x c, env.cells.lookup x = some c → c ≠ env.locals
  new : ∀ a, fa env a → s₀.heap.get? a = none
  pend : ∀ a, pd a → s₀.heap.get? a = none ∧ ¬ fa env a ∧ ∃ o, s.heap.get? a = some o
  own : ∀ x xs, isVar κ x = true → ρ x = some (.own xs) → s₀.heap.get? (oa x) = none ∧ ¬ fa env (oa x) ∧ ¬ pd (oa x) ∧ Bd env s.heap x (.ref (oa x)) ∧
    (∃ vs : List Value, s.heap.PlainList (oa x) vs.toArray ∧ RdL G (muF μ₀ pd κ env ρ oa) s.heap xs vs) ∧ ∀ y ys, isVar κ y = true → ρ y = some (.own ys) → oa y = oa x → y = x
  vars : ∀ x d, isVar κ x = true → ρ x = some (.fz d) → ∃ v, Bd env s.heap x v ∧ Rd G (muF μ₀ pd κ env ρ oa) s.heap d v
  inv : Inv cx G (muF μ₀ pd κ env ρ oa) s.heap π

variable {cx : Cx cf fns} {G : Option Gm} {μ₀ pd : Addr → Prop} {κ : Str → Option NameKind} {env : Env} {ρ : Rho} {oa : Str → Addr} {s₀ s : Shared} {π : List Int}

theorem FS.pa (f : FS cx G s₀ μ₀ pd κ env ρ oa s π) : ∀ a, PP G a → (∃ o, s₀.heap.get? a = some o) := fun a ha => f.live0 a (f.pa0 a ha)
theorem FS.faP (f : FS cx G s₀ μ₀ pd κ env ρ oa s π) {a : Addr} (h : fa env a) : ¬ PP G a := fun hp => by
  obtain ⟨o, e⟩ := f.pa a hp
  rw [f.new a h] at e; cases e
theorem FS.fa_here (f : FS cx G s₀ μ₀ pd κ env ρ oa s π) {a : Addr} (h : fa env a) : ∃ o, s.heap.get? a = some o := by
  rcases h with rfl | ⟨x, hx⟩
  · obtain ⟨m, o, _, _, ho, _⟩ := f.ns; exact ⟨o, ho⟩
  · obtain ⟨v, o, ho, _⟩ := f.cell x a hx; exact ⟨o, ho⟩
theorem FS.live (f : FS cx G s₀ μ₀ pd κ env ρ oa s π) : Live (muF μ₀ pd κ env ρ oa) s.heap := fun a ha => by
  rcases ha with h | h | h | ⟨x, xs, hv, hx, rfl⟩
  · by_cases hp : PP G a
    · exact f.inv.at a hp
    · obtain ⟨o, e⟩ := f.live0 a h; exact ⟨o, f.ext.keep hp e⟩
  · exact (f.pend a h).2.2
  · exact f.fa_here h
  · obtain ⟨_, _, _, _, ⟨vs, ⟨n, e⟩, _⟩, _⟩ := f.own x xs hv hx; exact ⟨_, e⟩
theorem FS.evc (f : FS cx G s₀ μ₀ pd κ env ρ oa s π) : EvC cx G (muF μ₀ pd κ env ρ oa) κ (look ρ) env s.heap where
  kind := f.kind
  glob := f.glob
  bi := f.bi
  kk := fun x => .inl (f.kk x)
  kc := f.kc
  base := fun a o e => f.ext.keep (f.off a o e) (f.base a o e)
  off := f.off
  live := f.live
  apart := fun a h => f.faP h
  vars := fun x d hv hd => by
    refine f.vars x d hv ?_
    unfold look at hd
    split at hd
    · cases hd; assumption
    · cases hd

theorem FS.step {s' : Shared} {π' : List Int} (f : FS cx G s₀ μ₀ pd κ env ρ oa s π) (x : Ext (PP G) s s') (I : Inv cx G (muF μ₀ pd κ env ρ oa) s'.heap π') : FS cx G s₀ μ₀ pd κ env ρ oa s' π' where
  kind := f.kind
  glob := f.glob
  bi := f.bi
  kk := f.kk
  kc := f.kc
  base := f.base
  off := f.off
  live0 := f.live0
  pa0 := f.pa0
  ext := f.ext.trans x
  ns := by obtain ⟨m, o, es, ep, ho, r⟩ := f.ns; exact ⟨m, o, es, ep, x.keep (f.faP (.inl rfl)) ho, r⟩
  cell := fun y c h => by obtain ⟨v, o, ho, hd⟩ := f.cell y c h; exact ⟨v, o, x.keep (f.faP (.inr ⟨y, h⟩)) ho, hd⟩
  inj := f.inj
  cne := f.cne
  new := f.new
  pend := fun a h => by
    obtain ⟨h1, h2, o, e⟩ := f.pend a h
    refine ⟨h1, h2, o, x.keep (fun hp => ?_) e⟩
    obtain ⟨o', e'⟩ := f.pa a hp; rw [h1] at e'; cases e'
  own := fun y xs hv hy => by
    obtain ⟨h1, h2, h3, h4, ⟨vs, ⟨n, e⟩, r⟩, h6⟩ := f.own y xs hv hy
    have hp : ¬ PP G (oa y) := fun hp => by obtain ⟨o', e'⟩ := f.pa _ hp; rw [h1] at e'; cases e'
    exact ⟨h1, h2, h3, h4.ext fun a o ha e => x.keep (f.faP ha) e, ⟨vs, ⟨n, x.keep hp e⟩, RdL.stay (x.stay I.sub) xs vs r⟩, h6⟩
  vars := fun y d hv hy => by
    obtain ⟨v, hb, r⟩ := f.vars y d hv hy
    exact ⟨v, hb.ext fun a o ha e => x.keep (f.faP ha) e, Rd.stay (x.stay I.sub) d v r⟩
  inv := I

theorem freeze_own {ns : List Str} {x : Str} {xs : List D} (h : freeze ns ρ x = some (.own xs)) : ρ x = some (.own xs) ∧ ns.contains x = false := by
  unfold freeze at h
  split at h
  · split at h
    · cases h
    · rename_i hc; cases h; exact ⟨by assumption, eq_false_of_ne_true hc⟩
  · rename_i hn; exact absurd h (hn xs)

/-- from here on the lists of these names stand still -/
theorem FS.freeze (f : FS cx G s₀ μ₀ pd κ env ρ oa s π) (ns : List Str) : FS cx G s₀ μ₀ pd κ env (freeze ns ρ) oa s π := by
  have sub : ∀ a, muF μ₀ pd κ env (Mine.freeze ns ρ) oa a → muF μ₀ pd κ env ρ oa a := by
    rintro a (h | h | h | ⟨x, xs, hv, hx, rfl⟩)
    · exact .inl h
    · exact .inr (.inl h)
    · exact .inr (.inr (.inl h))
    · exact .inr (.inr (.inr ⟨x, xs, hv, (freeze_own hx).1, rfl⟩))
  have st : Stay (muF μ₀ pd κ env ρ oa) (muF μ₀ pd κ env (Mine.freeze ns ρ) oa) s.heap s.heap := fun a o hm e => ⟨fun h => hm (sub a h), e⟩
  refine { f with own := ?_, vars := ?_, inv := ?_ }
  · intro x xs hv hx
    obtain ⟨h1, h2, h3, h4, ⟨vs, hp, r⟩, h6⟩ := f.own x xs hv (freeze_own hx).1
    exact ⟨h1, h2, h3, h4, ⟨vs, hp, RdL.stay st xs vs r⟩, fun y ys hy hy' e => h6 y ys hy (freeze_own hy').1 e⟩
  · intro x d hv hx
    unfold Mine.freeze at hx
    split at hx
    · rename_i xs hxs
      split at hx
      · rename_i hc
        cases hx
        obtain ⟨h1, h2, h3, h4, ⟨vs, hp, r⟩, h6⟩ := f.own x xs hv hxs
        refine ⟨_, h4, ?_⟩
        simp only [Rd]
        refine ⟨_, vs, rfl, ?_, hp.isList, RdL.stay st xs vs r⟩
        rintro (h | h | h | ⟨y, ys, hy, hy', e⟩)
        · obtain ⟨o, e⟩ := f.live0 _ h; rw [h1] at e; cases e
        · exact h3 h
        · exact h2 h
        · obtain ⟨hy1, hy2⟩ := freeze_own hy'
          have := h6 y ys hy hy1 e.symm
          subst this
          rw [hc] at hy2; cases hy2
      · cases hx
    · obtain ⟨v, hb, r⟩ := f.vars x d hv hx
      exact ⟨v, hb, Rd.stay st d v r⟩
  · exact f.inv.stay st fun g hg => ⟨rfl, .inl (f.pa0 _ ⟨g, hg, rfl⟩)⟩

/-- places of no name are let go -/
theorem FS.drop (f : FS cx G s₀ μ₀ pd κ env ρ oa s π) {pd' : Addr → Prop} (h : ∀ a, pd' a → pd a) : FS cx G s₀ μ₀ pd' κ env ρ oa s π := by
  have sub : ∀ a, muF μ₀ pd' κ env ρ oa a → muF μ₀ pd κ env ρ oa a := by
    rintro a (q | q | q | q)
    · exact .inl q
    · exact .inr (.inl (h a q))
    · exact .inr (.inr (.inl q))
    · exact .inr (.inr (.inr q))
  have st : Stay (muF μ₀ pd κ env ρ oa) (muF μ₀ pd' κ env ρ oa) s.heap s.heap := fun a o hm e => ⟨fun q => hm (sub a q), e⟩
  refine { f with pend := fun a q => f.pend a (h a q), own := ?_, vars := ?_, inv := ?_ }
  · intro x xs hv hx
    obtain ⟨h1, h2, h3, h4, ⟨vs, hp, r⟩, h6⟩ := f.own x xs hv hx
    exact ⟨h1, h2, fun q => h3 (h _ q), h4, ⟨vs, hp, RdL.stay st xs vs r⟩, h6⟩
  · intro x d hv hx
    obtain ⟨v, hb, r⟩ := f.vars x d hv hx
    exact ⟨v, hb, Rd.stay st d v r⟩
  · exact f.inv.stay st fun g hg => ⟨rfl, .inl (f.pa0 _ ⟨g, hg, rfl⟩)⟩

/-- a new object that may turn -/
theorem FS.allocP (f : FS cx G s₀ μ₀ pd κ env ρ oa s π) {s' : Shared} {a₀ : Addr} {π' : List Int} (x : Ext (PP G) s s') (hn : s.heap.get? a₀ = none) (he : ∃ o, s'.heap.get? a₀ = some o) (I : Inv cx G (muF μ₀ (fun a => pd a ∨ a = a₀) κ env ρ oa) s'.heap π') :
    FS cx G s₀ μ₀ (fun a => pd a ∨ a = a₀) κ env ρ oa s' π' := by
  have hpa : ∀ {a o}, s.heap.get? a = some o → ¬ muF μ₀ pd κ env ρ oa a → s'.heap.get? a = some o := fun {a o} e hm => x.keep (fun hp => hm (.inl (f.pa0 _ hp))) e
  have st : Stay (muF μ₀ pd κ env ρ oa) (muF μ₀ (fun a => pd a ∨ a = a₀) κ env ρ oa) s.heap s'.heap := fun a o hm e => by
    refine ⟨?_, hpa e hm⟩
    rintro (q | (q | rfl) | q | q)
    · exact hm (.inl q)
    · exact hm (.inr (.inl q))
    · rw [hn] at e; cases e
    · exact hm (.inr (.inr (.inl q)))
    · exact hm (.inr (.inr (.inr q)))
  have hn0 : s₀.heap.get? a₀ = none := by
    cases q : s₀.heap.get? a₀ with
    | none => rfl
    | some o =>
      by_cases hp : PP G a₀
      · obtain ⟨o', e'⟩ := f.inv.at _ hp; rw [hn] at e'; cases e'
      · rw [f.ext.keep hp q] at hn; cases hn
  have hfa : ¬ fa env a₀ := fun h => by obtain ⟨o, e⟩ := f.fa_here h; rw [hn] at e; cases e
  have faK : ∀ a o, fa env a → s.heap.get? a = some o → s'.heap.get? a = some o := fun a o ha e => x.keep (f.faP ha) e
  have newK : ∀ a o, s₀.heap.get? a = none → s.heap.get? a = some o → s'.heap.get? a = some o := fun a o h1 e => x.keep (fun hp => by obtain ⟨o', e'⟩ := f.pa _ hp; rw [h1] at e'; cases e') e
  refine { f with ext := f.ext.trans x, ns := ?_, cell := ?_, pend := ?_, own := ?_, vars := ?_, inv := I }
  · obtain ⟨m, o, es, ep, ho, r⟩ := f.ns; exact ⟨m, o, es, ep, faK _ _ (.inl rfl) ho, r⟩
  · intro y c h
    obtain ⟨v, o, ho, hd⟩ := f.cell y c h; exact ⟨v, o, faK _ _ (.inr ⟨y, h⟩) ho, hd⟩
  · rintro a (q | rfl)
    · obtain ⟨h1, h2, o, e⟩ := f.pend a q; exact ⟨h1, h2, o, newK a o h1 e⟩
    · exact ⟨hn0, hfa, he⟩
  · intro y xs hv hy
    obtain ⟨h1, h2, h3, h4, ⟨vs, ⟨n, e⟩, r⟩, h6⟩ := f.own y xs hv hy
    refine ⟨h1, h2, ?_, h4.ext faK, ⟨vs, ⟨n, newK _ _ h1 e⟩, RdL.stay st xs vs r⟩, h6⟩
    rintro (q | q)
    · exact h3 q
    · rw [q, hn] at e; cases e
  · intro y d hv hy
    obtain ⟨v, hb, r⟩ := f.vars y d hv hy
    exact ⟨v, hb.ext faK, Rd.stay st d v r⟩

theorem FS.alloc (f : FS cx G s₀ μ₀ pd κ env ρ oa s π) {s' : Shared} {a₀ : Addr} (x : Ext Non s s') (hn : s.heap.get? a₀ = none) (he : ∃ o, s'.heap.get? a₀ = some o) : FS cx G s₀ μ₀ (fun a => pd a ∨ a = a₀) κ env ρ oa s' π := by
  refine f.allocP x.wide hn he (f.inv.stay (fun a o hm e => ⟨?_, x.keep id e⟩) fun g hg => ?_)
  · rintro (q | (q | rfl) | q | q)
    · exact hm (.inl q)
    · exact hm (.inr (.inl q))
    · rw [hn] at e; cases e
    · exact hm (.inr (.inr (.inl q)))
    · exact hm (.inr (.inr (.inr q)))
  · have hp : PP G g.pa := ⟨g, hg, rfl⟩
    obtain ⟨o, e⟩ := f.inv.at _ hp
    exact ⟨(x.keep id e).trans e.symm, .inl (f.pa0 _ hp)⟩

/-- places of no name turn; some are let go -/
theorem FS.turn (f : FS cx G s₀ μ₀ pd κ env ρ oa s π) {pd' T : Addr → Prop} {h' : Heap} {tk : Nat} (hT : ∀ a, T a → pd a) (hk : ∀ a o, ¬ T a → s.heap.get? a = some o → h'.get? a = some o) (hp : ∀ a, pd' a → pd a) (he : ∀ a, pd' a → ∃ o, h'.get? a = some o) :
    FS cx G s₀ μ₀ pd' κ env ρ oa { s with heap := h', toks := tk } π := by
  have sub : ∀ a, muF μ₀ pd' κ env ρ oa a → muF μ₀ pd κ env ρ oa a := by
    rintro a (q | q | q | q)
    · exact .inl q
    · exact .inr (.inl (hp a q))
    · exact .inr (.inr (.inl q))
    · exact .inr (.inr (.inr q))
  have st : Stay (muF μ₀ pd κ env ρ oa) (muF μ₀ pd' κ env ρ oa) s.heap h' := fun a o hm e => ⟨fun q => hm (sub a q), hk a o (fun q => hm (.inr (.inl (hT a q)))) e⟩
  have faK : ∀ a o, fa env a → s.heap.get? a = some o → h'.get? a = some o := fun a o ha e => hk a o (fun q => (f.pend a (hT a q)).2.1 ha) e
  have paK : ∀ a o, s₀.heap.get? a = some o → ¬ T a := fun a o e q => by rw [(f.pend a (hT a q)).1] at e; cases e
  have ext : Ext (PP G) s₀ { s with heap := h', toks := tk } := by
    obtain ⟨h₁, t₁, e₁, k₁⟩ := f.ext
    refine ⟨h', tk, by rw [e₁], fun a o hp' e => hk a o (paK a o e) ?_⟩
    have := k₁ a o hp' e; rw [e₁]; exact this
  refine { f with ext := ext, ns := ?_, cell := ?_, pend := fun a q => ?_, own := ?_, vars := ?_, inv := ?_ }
  · obtain ⟨m, o, es, ep, ho, r⟩ := f.ns; exact ⟨m, o, es, ep, faK _ _ (.inl rfl) ho, r⟩
  · intro y c h
    obtain ⟨v, o, ho, hd⟩ := f.cell y c h; exact ⟨v, o, faK _ _ (.inr ⟨y, h⟩) ho, hd⟩
  · obtain ⟨h1, h2, _⟩ := f.pend a (hp a q)
    exact ⟨h1, h2, he a q⟩
  · intro y xs hv hy
    obtain ⟨h1, h2, h3, h4, ⟨vs, ⟨n, e⟩, r⟩, h6⟩ := f.own y xs hv hy
    exact ⟨h1, h2, fun q => h3 (hp _ q), h4.ext faK, ⟨vs, ⟨n, hk _ _ (fun q => h3 (hT _ q)) e⟩, RdL.stay st xs vs r⟩, h6⟩
  · intro y d hv hy
    obtain ⟨v, hb, r⟩ := f.vars y d hv hy
    exact ⟨v, hb.ext faK, Rd.stay st d v r⟩
  · refine f.inv.stay st fun g hg => ?_
    have hpp : PP G g.pa := ⟨g, hg, rfl⟩
    obtain ⟨o, e⟩ := f.inv.at _ hpp
    obtain ⟨o', e'⟩ := f.pa _ hpp
    exact ⟨(hk _ o (paK _ o' e') e).trans e.symm, .inl (f.pa0 _ hpp)⟩

/-! ## a name is bound -/
theorem isSto_var {x : Str} (h : isSto κ x = true) : isVar κ x = true := by
  unfold isSto at h; unfold isVar
  rw [Bool.and_eq_true] at h ⊢
  refine ⟨?_, h.2⟩
  have h1 := h.1
  split at h1
  · rename_i e; rw [e]
  · rename_i e; rw [e]
  · cases h1

theorem bd_store {prog : Program} {w : World} {A : Around} {E : Value → Shared → Prop} {x : Str} {v : Value} {Q : Unit → Shared → Prop} (f : FS cx G s₀ μ₀ pd κ env ρ oa s π) (hv : isSto κ x = true)
    (h : ∀ h' tk, Bd env h' x v → (∀ y u, y ≠ x → Bd env s.heap y u → Bd env h' y u) → (∃ m, h'.Ns env.locals m) → (∀ y c, env.cells.lookup y = some c → ∃ v, h'.IsCell c v) → (∀ a o, ¬ fa env a → s.heap.get? a = some o → h'.get? a = some o) → Q () { s with heap := h', toks := tk }) :
    wpAny (model prog w) A (storeName env x v) Q E s := by
  obtain ⟨m, hm⟩ := f.ns
  have hk := hv
  unfold isSto at hk
  rw [Bool.and_eq_true] at hk
  have hk := hk.1
  split at hk
  · rename_i e
    have ek : env.kindOf x = some .local := (f.kk x).trans e
    refine wpAny_storeName_local ek hm (fun h' hn hs => ?_) (by simp [f.kind])
    refine h h' _ ?_ (fun y u hy b => ?_) ⟨_, hn⟩ (fun y c hc => ?_) fun a o ha e => hs.extBut a o (fun q => ha (.inl q)) e
    · unfold Bd; rw [ek]; exact ⟨_, hn, by simp⟩
    · unfold Bd at b ⊢
      split at b
      · obtain ⟨m', hm', hu⟩ := b
        refine ⟨_, hn, ?_⟩
        simp only [if_neg hy]
        obtain ⟨o, es, ep, ho, hd, hk1, hk2⟩ := hm
        obtain ⟨o', es', ep', ho', hd', hk1', hk2'⟩ := hm'
        rw [ho] at ho'; cases ho'
        rw [hd] at hd'; cases hd'
        rw [← hk2 y, hk2' y]; exact hu
      · obtain ⟨c, hc, o, ho, hd⟩ := b
        exact ⟨c, hc, o, hs.extBut c o (f.cne y c hc) ho, hd⟩
      · obtain ⟨c, hc, o, ho, hd⟩ := b
        exact ⟨c, hc, o, hs.extBut c o (f.cne y c hc) ho, hd⟩
      · exact b.elim
    · obtain ⟨u, o, ho, hd⟩ := f.cell y c hc
      exact ⟨u, o, hs.extBut c o (f.cne y c hc) ho, hd⟩
  · rename_i e
    have ek : env.kindOf x = some .cell := (f.kk x).trans e
    obtain ⟨c, hc⟩ := f.kc x (.inl e)
    obtain ⟨v₀, hv₀⟩ := f.cell x c hc
    refine wpAny_storeName_cell f.kind ek hc hv₀ fun h' hc' hs => ?_
    have hcL : env.locals ≠ c := Ne.symm (f.cne x c hc)
    refine h h' s.toks ?_ (fun y u hy b => ?_) ⟨m, hm.sameBut hs hcL⟩ (fun y c' hy => ?_) fun a o ha e => hs.extBut a o (fun q => ha (.inr ⟨x, q ▸ hc⟩)) e
    · unfold Bd; rw [ek]; exact ⟨c, hc, hc'⟩
    · unfold Bd at b ⊢
      split at b
      · obtain ⟨m', hm', hu⟩ := b
        exact ⟨m', hm'.sameBut hs hcL, hu⟩
      · obtain ⟨c₁, hc₁, hi⟩ := b
        exact ⟨c₁, hc₁, hi.sameBut hs fun q => hy (f.inj y x c (q ▸ hc₁) hc)⟩
      · obtain ⟨c₁, hc₁, hi⟩ := b
        exact ⟨c₁, hc₁, hi.sameBut hs fun q => hy (f.inj y x c (q ▸ hc₁) hc)⟩
      · exact b.elim
    · by_cases q : c' = c
      · subst q; exact ⟨_, hc'⟩
      · obtain ⟨u, hi⟩ := f.cell y c' hy
        exact ⟨u, hi.sameBut hs q⟩
  · cases hk

theorem setV_own {x y : Str} {lv : LV} {xs : List D} (h : setV ρ x lv y = some (.own xs)) : (y = x ∧ lv = .own xs) ∨ (y ≠ x ∧ ρ y = some (.own xs)) := by
  unfold setV at h
  split at h
  · rename_i e; cases h; exact .inl ⟨e, rfl⟩
  · rename_i e; exact .inr ⟨e, h⟩

/-- a name is given data -/
theorem FS.store {prog : Program} {w : World} {A : Around} {E : Value → Shared → Prop} {x : Str} {v : Value} {d : D} {Q : Unit → Shared → Prop} (f : FS cx G s₀ μ₀ pd κ env ρ oa s π) (hv : isSto κ x = true) (r : Rd G (muF μ₀ pd κ env ρ oa) s.heap d v)
    (h : ∀ s', FS cx G s₀ μ₀ pd κ env (setV ρ x (.fz d)) oa s' π → (∀ a o, ¬ fa env a → s.heap.get? a = some o → s'.heap.get? a = some o) → (∃ h' tk, s' = { s with heap := h', toks := tk }) → Q () s') :
    wpAny (model prog w) A (storeName env x v) Q E s := by
  refine bd_store f hv fun h' tk b1 b2 hns hcl hk => h _ ?_ hk ⟨h', tk, rfl⟩
  have sub : ∀ a, muF μ₀ pd κ env (setV ρ x (.fz d)) oa a → muF μ₀ pd κ env ρ oa a := by
    rintro a (q | q | q | ⟨y, ys, hy, hy', rfl⟩)
    · exact .inl q
    · exact .inr (.inl q)
    · exact .inr (.inr (.inl q))
    · rcases setV_own hy' with ⟨_, e⟩ | ⟨_, e⟩
      · cases e
      · exact .inr (.inr (.inr ⟨y, ys, hy, e, rfl⟩))
  have st : Stay (muF μ₀ pd κ env ρ oa) (muF μ₀ pd κ env (setV ρ x (.fz d)) oa) s.heap h' := fun a o hm e => ⟨fun q => hm (sub a q), hk a o (fun q => hm (.inr (.inr (.inl q)))) e⟩
  have ext : Ext (PP G) s₀ { s with heap := h', toks := tk } := by
    obtain ⟨h₁, t₁, e₁, k₁⟩ := f.ext
    refine ⟨h', tk, by rw [e₁], fun a o hp e => hk a o (fun q => ?_) (by have := k₁ a o hp e; rw [e₁]; exact this)⟩
    rw [f.new a q] at e; cases e
  refine { f with ext := ext, ns := hns, cell := hcl, pend := fun a q => ?_, own := ?_, vars := ?_, inv := ?_ }
  · obtain ⟨p1, p2, o, e⟩ := f.pend a q
    exact ⟨p1, p2, o, hk a o p2 e⟩
  · intro y ys hy hy'
    rcases setV_own hy' with ⟨_, e⟩ | ⟨hyx, e⟩
    · cases e
    · obtain ⟨h1, h2, h3, h4, ⟨vs, ⟨n, e'⟩, r'⟩, h6⟩ := f.own y ys hy e
      refine ⟨h1, h2, h3, b2 y _ hyx h4, ⟨vs, ⟨n, hk _ _ h2 e'⟩, RdL.stay st ys vs r'⟩, fun z zs hz hz' ez => ?_⟩
      rcases setV_own hz' with ⟨_, e2⟩ | ⟨_, e2⟩
      · cases e2
      · exact h6 z zs hz e2 ez
  · intro y d' hy hy'
    unfold setV at hy'
    split at hy'
    · rename_i e; subst e; cases hy'; exact ⟨v, b1, Rd.stay st _ _ r⟩
    · rename_i hyx
      obtain ⟨u, hb, r'⟩ := f.vars y d' hy hy'
      exact ⟨u, b2 y u hyx hb, Rd.stay st _ _ r'⟩
  · refine f.inv.stay st fun g hg => ?_
    have hp : PP G g.pa := ⟨g, hg, rfl⟩
    obtain ⟨o, e⟩ := f.inv.at _ hp
    exact ⟨(hk _ o (fun q => f.faP q hp) e).trans e.symm, .inl (f.pa0 _ hp)⟩

/-- a name is given a new list of this frame's own -/
theorem FS.storeOwn {prog : Program} {w : World} {A : Around} {E : Value → Shared → Prop} {x : Str} {a₀ : Addr} {Q : Unit → Shared → Prop} (f : FS cx G s₀ μ₀ pd κ env ρ oa s π) (hv : isSto κ x = true) (hp : pd a₀) (hl : s.heap.PlainList a₀ #[])
    (h : ∀ s', FS cx G s₀ μ₀ (fun a => pd a ∧ a ≠ a₀) κ env (setV ρ x (.own [])) (fun y => if y = x then a₀ else oa y) s' π → (∀ a o, ¬ fa env a → s.heap.get? a = some o → s'.heap.get? a = some o) → (∃ h' tk, s' = { s with heap := h', toks := tk }) → Q () s') :
    wpAny (model prog w) A (storeName env x (.ref a₀)) Q E s := by
  refine bd_store f hv fun h' tk b1 b2 hns hcl hk => h _ ?_ hk ⟨h', tk, rfl⟩
  obtain ⟨hn0, hfa, _⟩ := f.pend a₀ hp
  have sub : ∀ a, muF μ₀ (fun a => pd a ∧ a ≠ a₀) κ env (setV ρ x (.own [])) (fun y => if y = x then a₀ else oa y) a → muF μ₀ pd κ env ρ oa a := by
    rintro a (q | q | q | ⟨y, ys, hy, hy', rfl⟩)
    · exact .inl q
    · exact .inr (.inl q.1)
    · exact .inr (.inr (.inl q))
    · rcases setV_own hy' with ⟨e, _⟩ | ⟨e, e'⟩
      · simp only [e, if_true]; exact .inr (.inl hp)
      · simp only [if_neg e]; exact .inr (.inr (.inr ⟨y, ys, hy, e', rfl⟩))
  have st : Stay (muF μ₀ pd κ env ρ oa) (muF μ₀ (fun a => pd a ∧ a ≠ a₀) κ env (setV ρ x (.own [])) (fun y => if y = x then a₀ else oa y)) s.heap h' := fun a o hm e => ⟨fun q => hm (sub a q), hk a o (fun q => hm (.inr (.inr (.inl q)))) e⟩
  have ext : Ext (PP G) s₀ { s with heap := h', toks := tk } := by
    obtain ⟨h₁, t₁, e₁, k₁⟩ := f.ext
    refine ⟨h', tk, by rw [e₁], fun a o hp e => hk a o (fun q => ?_) (by have := k₁ a o hp e; rw [e₁]; exact this)⟩
    rw [f.new a q] at e; cases e
  refine { f with ext := ext, ns := hns, cell := hcl, pend := fun a q => ?_, own := ?_, vars := ?_, inv := ?_ }
  · obtain ⟨p1, p2, o, e⟩ := f.pend a q.1
    exact ⟨p1, p2, o, hk a o p2 e⟩
  · intro y ys hy hy'
    rcases setV_own hy' with ⟨e, e2⟩ | ⟨hyx, e⟩
    · cases e2
      subst e
      simp only [if_true]
      refine ⟨hn0, hfa, fun q => q.2 rfl, b1, ⟨[], hl.at fun o e => hk _ o hfa e, by simp [RdL]⟩, fun z zs hz hz' ez => ?_⟩
      rcases setV_own hz' with ⟨e2, _⟩ | ⟨e2, e3⟩
      · exact e2
      · rw [if_neg e2] at ez
        obtain ⟨_, _, h3, _⟩ := f.own z zs hz e3
        rw [ez] at h3; exact absurd hp h3
    · simp only [if_neg hyx]
      obtain ⟨h1, h2, h3, h4, ⟨vs, ⟨n, e'⟩, r'⟩, h6⟩ := f.own y ys hy e
      refine ⟨h1, h2, fun q => h3 q.1, b2 y _ hyx h4, ⟨vs, ⟨n, hk _ _ h2 e'⟩, RdL.stay st ys vs r'⟩, fun z zs hz hz' ez => ?_⟩
      rcases setV_own hz' with ⟨e2, _⟩ | ⟨e2, e3⟩
      · rw [if_pos e2] at ez
        rw [← ez] at h3; exact absurd hp h3
      · rw [if_neg e2] at ez
        exact h6 z zs hz e3 ez
  · intro y d' hy hy'
    unfold setV at hy'
    split at hy'
    · cases hy'
    · rename_i hyx
      obtain ⟨u, hb, r'⟩ := f.vars y d' hy hy'
      exact ⟨u, b2 y u hyx hb, Rd.stay st _ _ r'⟩
  · refine f.inv.stay st fun g hg => ?_
    have hp : PP G g.pa := ⟨g, hg, rfl⟩
    obtain ⟨o, e⟩ := f.inv.at _ hp
    exact ⟨(hk _ o (fun q => f.faP q hp) e).trans e.symm, .inl (f.pa0 _ hp)⟩

/-- a list of this frame's own gets one more item -/
theorem FS.append (f : FS cx G s₀ μ₀ pd κ env ρ oa s π) {x : Str} {xs : List D} {d : D} {v : Value} {h' : Heap} (hv : isVar κ x = true) (hx : ρ x = some (.own xs)) (r : Rd G (muF μ₀ pd κ env ρ oa) s.heap d v)
    {vs : List Value} (hr : RdL G (muF μ₀ pd κ env ρ oa) s.heap xs vs) (hl : h'.PlainList (oa x) (vs ++ [v]).toArray) (hs : Heap.SameBut (oa x) s.heap h') : FS cx G s₀ μ₀ pd κ env (setV ρ x (.own (xs ++ [d]))) oa { s with heap := h' } π := by
  obtain ⟨h1, h2, h3, h4, ⟨vs', hp', r0⟩, h6⟩ := f.own x xs hv hx
  have hown : muF μ₀ pd κ env ρ oa (oa x) := .inr (.inr (.inr ⟨x, xs, hv, hx, rfl⟩))
  have sub : ∀ a, muF μ₀ pd κ env (setV ρ x (.own (xs ++ [d]))) oa a → muF μ₀ pd κ env ρ oa a := by
    rintro a (q | q | q | ⟨y, ys, hy, hy', rfl⟩)
    · exact .inl q
    · exact .inr (.inl q)
    · exact .inr (.inr (.inl q))
    · rcases setV_own hy' with ⟨e, _⟩ | ⟨_, e⟩
      · subst e; exact hown
      · exact .inr (.inr (.inr ⟨y, ys, hy, e, rfl⟩))
  have st : Stay (muF μ₀ pd κ env ρ oa) (muF μ₀ pd κ env (setV ρ x (.own (xs ++ [d]))) oa) s.heap h' := fun a o hm e => ⟨fun q => hm (sub a q), hs.extBut a o (fun q => hm (q ▸ hown)) e⟩
  have off : ∀ a o, a ≠ oa x → s.heap.get? a = some o → h'.get? a = some o := fun a o hne e => hs.extBut a o hne e
  have faK : ∀ a o, fa env a → s.heap.get? a = some o → h'.get? a = some o := fun a o ha e => off a o (fun q => h2 (q ▸ ha)) e
  have ext : Ext (PP G) s₀ { s with heap := h' } := by
    obtain ⟨h₁, t₁, e₁, k₁⟩ := f.ext
    refine ⟨h', t₁, by rw [e₁], fun a o hp e => off a o (fun q => ?_) (by have := k₁ a o hp e; rw [e₁]; exact this)⟩
    rw [q, h1] at e; cases e
  refine { f with ext := ext, ns := ?_, cell := ?_, pend := fun a q => ?_, own := ?_, vars := ?_, inv := ?_ }
  · obtain ⟨m, o, es, ep, ho, rr⟩ := f.ns; exact ⟨m, o, es, ep, faK _ _ (.inl rfl) ho, rr⟩
  · intro y c hc
    obtain ⟨u, o, ho, hd⟩ := f.cell y c hc
    exact ⟨u, o, faK _ _ (.inr ⟨y, hc⟩) ho, hd⟩
  · obtain ⟨p1, p2, o, e⟩ := f.pend a q
    exact ⟨p1, p2, o, off a o (fun e' => h3 (e' ▸ q)) e⟩
  · intro y ys hy hy'
    rcases setV_own hy' with ⟨e, e2⟩ | ⟨hyx, e⟩
    · subst e
      cases e2
      refine ⟨h1, h2, h3, h4.ext faK, ⟨vs ++ [v], hl, RdL.append (RdL.stay st xs vs hr) (by simp only [RdL]; exact ⟨v, [], rfl, Rd.stay st d v r, rfl⟩)⟩, fun z zs hz hz' ez => ?_⟩
      rcases setV_own hz' with ⟨e2, _⟩ | ⟨e2, e3⟩
      · exact e2
      · exact h6 z zs hz e3 ez
    · obtain ⟨g1, g2, g3, g4, ⟨us, ⟨n, e'⟩, r'⟩, g6⟩ := f.own y ys hy e
      refine ⟨g1, g2, g3, g4.ext faK, ⟨us, ⟨n, off _ _ (fun q => hyx (h6 y ys hy e q)) e'⟩, RdL.stay st ys us r'⟩, fun z zs hz hz' ez => ?_⟩
      rcases setV_own hz' with ⟨e2, _⟩ | ⟨e2, e3⟩
      · subst e2; exact g6 _ xs hz hx ez
      · exact g6 z zs hz e3 ez
  · intro y d' hy hy'
    unfold setV at hy'
    split at hy'
    · cases hy'
    · obtain ⟨u, hb, r'⟩ := f.vars y d' hy hy'
      exact ⟨u, hb.ext faK, Rd.stay st _ _ r'⟩
  · refine f.inv.stay st fun g hg => ?_
    have hp : PP G g.pa := ⟨g, hg, rfl⟩
    obtain ⟨o, e⟩ := f.inv.at _ hp
    refine ⟨(off _ o (fun q => ?_) e).trans e.symm, .inl (f.pa0 _ hp)⟩
    obtain ⟨o', e'⟩ := f.pa _ hp
    rw [q, h1] at e'; cases e'
end

section
variable {cf : Cf} {fns : Str → Option Fn}

/-- what a run of statements leaves of the heap -/
structure Step (G : Option Gm) (κ : Str → Option NameKind) (env : Env) (ρ : Rho) (oa : Str → Addr) (s : Shared) (ρ' : Rho) (oa' : Str → Addr) (s' : Shared) : Prop where
  same : ∃ h' tk, s' = { s with heap := h', toks := tk }
  keep : ∀ a o, ¬ PP G a → ¬ fa env a → ¬ ownAt κ ρ oa a → s.heap.get? a = some o → s'.heap.get? a = some o
  own : ∀ a, ownAt κ ρ' oa' a → ownAt κ ρ oa a ∨ s.heap.get? a = none

variable {cx : Cx cf fns} {G : Option Gm} {μ₀ pd : Addr → Prop} {κ : Str → Option NameKind} {env : Env} {ρ ρ₁ ρ₂ : Rho} {oa oa₁ oa₂ : Str → Addr} {s₀ s s₁ s₂ : Shared} {π : List Int}

theorem Step.refl (s : Shared) : Step G κ env ρ oa s ρ oa s := ⟨⟨s.heap, s.toks, rfl⟩, fun _ _ _ _ _ e => e, fun _ h => .inl h⟩
theorem Step.trans (x : Step G κ env ρ oa s ρ₁ oa₁ s₁) (y : Step G κ env ρ₁ oa₁ s₁ ρ₂ oa₂ s₂) (hp : ∀ a, PP G a → ∃ o, s.heap.get? a = some o) (hf : ∀ a, fa env a → ∃ o, s.heap.get? a = some o)
    (ho : ∀ a, ownAt κ ρ oa a → ∃ o, s.heap.get? a = some o) (hp1 : ∀ a, PP G a → ∃ o, s₁.heap.get? a = some o) (hf1 : ∀ a, fa env a → ∃ o, s₁.heap.get? a = some o) (ho1 : ∀ a, ownAt κ ρ oa a → s₁.heap.get? a = none → ∃ o, s.heap.get? a = some o) : Step G κ env ρ oa s ρ₂ oa₂ s₂ := by
  refine ⟨?_, fun a o h1 h2 h3 e => y.keep a o h1 h2 (fun q => ?_) (x.keep a o h1 h2 h3 e), fun a h => ?_⟩
  · obtain ⟨h₁, t₁, rfl⟩ := x.same
    obtain ⟨h₂, t₂, rfl⟩ := y.same
    exact ⟨h₂, t₂, rfl⟩
  · rcases x.own a q with q | q
    · exact h3 q
    · rw [q] at e; cases e
  · rcases y.own a h with q | q
    · exact x.own a q
    · by_cases h3 : ownAt κ ρ oa a
      · exact .inl h3
      · right
        cases e : s.heap.get? a with
        | none => rfl
        | some o =>
          by_cases h1 : PP G a
          · obtain ⟨o', e'⟩ := hp1 a h1; rw [q] at e'; cases e'
          · by_cases h2 : fa env a
            · obtain ⟨o', e'⟩ := hf1 a h2; rw [q] at e'; cases e'
            · rw [x.keep a o h1 h2 h3 e] at q; cases q

theorem FS.tr (f : FS cx G s₀ μ₀ pd κ env ρ oa s π) {π₁ : List Int} {pd₁ : Addr → Prop} (f₁ : FS cx G s₀ μ₀ pd₁ κ env ρ₁ oa₁ s₁ π₁) (x : Step G κ env ρ oa s ρ₁ oa₁ s₁) (y : Step G κ env ρ₁ oa₁ s₁ ρ₂ oa₂ s₂) : Step G κ env ρ oa s ρ₂ oa₂ s₂ :=
  x.trans y f.inv.at (fun _ h => f.fa_here h) (fun a h => f.live a (.inr (.inr (.inr h)))) f₁.inv.at (fun _ h => f₁.fa_here h) (fun a h _ => f.live a (.inr (.inr (.inr h))))

theorem Step.ofExt (x : Ext (PP G) s s₁) : Step G κ env ρ oa s ρ oa s₁ := by
  obtain ⟨h', tk, rfl, k⟩ := x
  exact ⟨⟨h', tk, rfl⟩, fun a o hp _ _ e => k a o hp e, fun _ h => .inl h⟩
theorem Step.freeze (ns : List Str) : Step G κ env ρ oa s (Mine.freeze ns ρ) oa s := ⟨⟨s.heap, s.toks, rfl⟩, fun _ _ _ _ _ e => e, fun a ⟨x, xs, hv, hx, e⟩ => .inl ⟨x, xs, hv, (freeze_own hx).1, e⟩⟩
theorem Step.store {x : Str} {d : D} (k : ∀ a o, ¬ fa env a → s.heap.get? a = some o → s₁.heap.get? a = some o) (e : ∃ h' tk, s₁ = { s with heap := h', toks := tk }) : Step G κ env ρ oa s (setV ρ x (.fz d)) oa s₁ :=
  ⟨e, fun a o _ hf _ e => k a o hf e, fun a ⟨y, ys, hv, hy, e⟩ => by
    rcases setV_own hy with ⟨_, q⟩ | ⟨_, q⟩
    · cases q
    · exact .inl ⟨y, ys, hv, q, e⟩⟩

/-- the ways a statement ends -/
noncomputable def FlR (G : Option Gm) (μ : Addr → Prop) (h : Heap) : Fl → Flow → Prop
  | .next, f => f = .next
  | .brk, f => f = .brk
  | .ret d, f => ∃ v, f = .ret v ∧ Rd G μ h d v

noncomputable def PostX (cx : Cx cf fns) (G : Option Gm) (s₀ : Shared) (μ₀ pd : Addr → Prop) (κ : Str → Option NameKind) (env : Env) (ρ : Rho) (oa : Str → Addr) (s : Shared) (fl : Fl) (ρ' : Rho) (π' : List Int) : Flow → Shared → Prop :=
  fun f s' => ∃ oa', FS cx G s₀ μ₀ pd κ env ρ' oa' s' π' ∧ Step G κ env ρ oa s ρ' oa' s' ∧ FlR G (muF μ₀ pd κ env ρ' oa') s'.heap fl f

noncomputable def SndX (cx : Cx cf fns) (G : Option Gm) (N : Nat) (f : Stmt → Rho → List Int → Option (Fl × Rho × List Int)) (κ : Str → Option NameKind) : Prop :=
  ∀ c ρ π fl ρ' π', f c ρ π = some (fl, ρ', π') → ∀ (prog : Program) (w : World) (A : Around) (env : Env) (s₀ : Shared) (μ₀ pd : Addr → Prop) (oa : Str → Addr) (s : Shared) (E : Value → Shared → Prop), AOk A N → FS cx G s₀ μ₀ pd κ env ρ oa s π →
    wpAny (model prog w) A (exec c env) (PostX cx G s₀ μ₀ pd κ env ρ oa s fl ρ' π') E s

variable {prog : Program} {w : World} {A : Around} {E : Value → Shared → Prop} {N : Nat}

theorem seq_sound {f : Stmt → Rho → List Int → Option (Fl × Rho × List Int)} (S : SndX cx G N f κ) (hA : AOk A N) : ∀ {cs : List Stmt} {ρ : Rho} {π : List Int} {fl : Fl} {ρ' : Rho} {π' : List Int} {oa : Str → Addr} {s : Shared}, seqS f cs ρ π = some (fl, ρ', π') → FS cx G s₀ μ₀ pd κ env ρ oa s π →
    wpAny (model prog w) A (execs cs env) (PostX cx G s₀ μ₀ pd κ env ρ oa s fl ρ' π') E s
  | [], ρ, π, fl, ρ', π', oa, s, e, h => by
    simp only [seqS, Option.some.injEq, Prod.mk.injEq] at e
    obtain ⟨rfl, rfl, rfl⟩ := e
    exact wpAny_execs_nil ⟨oa, h, Step.refl s, rfl⟩
  | c :: r, ρ, π, fl, ρ', π', oa, s, e, h => by
    simp only [seqS] at e
    cases hc : f c ρ π with
    | none => rw [hc] at e; cases e
    | some q =>
      obtain ⟨fl₁, ρ₁, π₁⟩ := q
      rw [hc] at e
      refine wpAny_execs_cons (wpAny_mono (S c ρ π fl₁ ρ₁ π₁ hc prog w A env s₀ μ₀ pd oa s E hA h) (fun fw s₁ q => ?_) fun _ _ e => e)
      obtain ⟨oa₁, f₁, st₁, q⟩ := q
      cases fl₁ with
      | next =>
        simp only [FlR] at q
        subst q
        refine wpAny_mono (seq_sound S hA e f₁) (fun fw s₂ q => ?_) fun _ _ e => e
        obtain ⟨oa₂, f₂, st₂, q⟩ := q
        exact ⟨oa₂, f₂, h.tr f₁ st₁ st₂, q⟩
      | brk =>
        cases e
        simp only [FlR] at q
        subst q
        exact ⟨oa₁, f₁, st₁, rfl⟩
      | ret d =>
        cases e
        obtain ⟨v, rfl, r⟩ := q
        exact ⟨oa₁, f₁, st₁, v, rfl, r⟩

/-- an expression behind frozen names -/
theorem FS.evalE {Φ : Mean} (SM : SoundM cx G N Φ) (hA : AOk A N) {e : Expr} {ns : List Str} {d : D} {π' : List Int} (f : FS cx G s₀ μ₀ pd κ env ρ oa s π) (h : ev cf Φ 20 false κ (look (Mine.freeze ns ρ)) e π = some (d, π')) :
    wpAny (model prog w) A (eval e env) (fun v s' => FS cx G s₀ μ₀ pd κ env (Mine.freeze ns ρ) oa s' π' ∧ Step G κ env ρ oa s (Mine.freeze ns ρ) oa s' ∧ Rd G (muF μ₀ pd κ env (Mine.freeze ns ρ) oa) s'.heap d v) E s := by
  have f1 := f.freeze ns
  refine wpAny_mono ((ev_sound SM 20).1 κ _ e π d π' h prog w A env s _ E hA f1.evc f1.inv) (fun v s' q => ?_) fun _ _ e => e
  obtain ⟨x, I, r⟩ := q
  have f2 := f1.step x I
  exact ⟨f2, f.tr f1 (Step.freeze ns) (Step.ofExt x), r⟩
theorem FS.testE {Φ : Mean} (SM : SoundM cx G N Φ) (hA : AOk A N) {e : Expr} {ns : List Str} {b : Bool} {π' : List Int} (f : FS cx G s₀ μ₀ pd κ env ρ oa s π) (h : ev cf Φ 20 true κ (look (Mine.freeze ns ρ)) e π = some (.bool b, π')) :
    wpAny (model prog w) A (isTrue e env (eval e env)) (fun v s' => v = b ∧ FS cx G s₀ μ₀ pd κ env (Mine.freeze ns ρ) oa s' π' ∧ Step G κ env ρ oa s (Mine.freeze ns ρ) oa s') E s := by
  have f1 := f.freeze ns
  refine wpAny_mono ((ev_sound SM 20).2 κ _ e π _ π' h prog w A env s _ E hA f1.evc f1.inv) (fun v s' q => ?_) fun _ _ e => e
  obtain ⟨q, x, I⟩ := q
  cases q
  have f2 := f1.step x I
  exact ⟨rfl, f2, f.tr f1 (Step.freeze ns) (Step.ofExt x)⟩

theorem muF_drop {pd' : Addr → Prop} (h : ∀ a, pd' a → pd a) : ∀ a, muF μ₀ pd' κ env ρ oa a → muF μ₀ pd κ env ρ oa a := by
  rintro a (q | q | q | q)
  · exact .inl q
  · exact .inr (.inl (h a q))
  · exact .inr (.inr (.inl q))
  · exact .inr (.inr (.inr q))
theorem FlR.drop {pd' : Addr → Prop} {h : Heap} {fl : Fl} {f : Flow} (hp : ∀ a, pd' a → pd a) (x : FlR G (muF μ₀ pd κ env ρ oa) h fl f) : FlR G (muF μ₀ pd' κ env ρ oa) h fl f := by
  cases fl with
  | next => exact x
  | brk => exact x
  | ret d =>
    obtain ⟨v, e, r⟩ := x
    exact ⟨v, e, Rd.stay (fun a o hm e => ⟨fun q => hm (muF_drop hp a q), e⟩) d v r⟩

/-- a loop's body, turn by turn -/
theorem for_sound {f : Stmt → Rho → List Int → Option (Fl × Rho × List Int)} (S : SndX cx G N f κ) (hA : AOk A N) {x : Str} {px : Pos} {body : List Stmt} {items : List D} {fl : Fl} {ρ' : Rho} {π' : List Int} {d : D} {v : Value}
    (hv : isSto κ x = true) (fr : FS cx G s₀ μ₀ pd κ env ρ oa s π) (hx : itemsOf d = some items) (r : Rd G (muF μ₀ pd κ env ρ oa) s.heap d v)
    (e : loop (fun v ρ π => seqS f body (setV ρ x (.fz v)) π) items ρ π = some (fl, ρ', π')) {Q : Result → Shared → Prop}
    (hQ : ∀ fw s', PostX cx G s₀ μ₀ pd κ env ρ oa s fl ρ' π' fw s' → Q (.ok fw) s') :
    wpAny (model prog w) A (pyIter v) (fun it s₂ => codeAny (model prog w) A (.forLoop (.Name x px) it body [] env) Q s₂) E s := by
  refine wpAny_mono (iter_sound hA.handled hx r) (fun it s₂ q => ?_) fun _ _ e => e
  obtain ⟨I, rfl, it⟩ := q
  have f₂ := fr.alloc it.ext it.new it.here
  obtain ⟨x12, hInew, hIhere, fp, Pw, St, W, hst, hfp, hit, hStI⟩ := it
  have hIP : ¬ PP G I := fun hp => by obtain ⟨o, e⟩ := fr.inv.at _ hp; rw [hInew] at e; cases e
  have hIF : ¬ fa env I := fun hf => by obtain ⟨o, e⟩ := fr.fa_here hf; rw [hInew] at e; cases e
  refine codeAny_forLoop_any (fun k s' => ∃ i ρi oai πi, k = items.length + 1 - i ∧ i ≤ items.length ∧ FS cx G s₀ μ₀ (fun a => pd a ∨ a = I) κ env ρi oai s' πi ∧ St i s'.heap ∧ Step G κ env ρ oa s ρi oai s' ∧
    loop (fun v ρ π => seqS f body (setV ρ x (.fz v)) π) (items.drop i) ρi πi = some (fl, ρ', π')) ?_ (items.length + 1) ⟨0, ρ, oa, π, rfl, Nat.zero_le _, f₂, hst, Step.ofExt x12.wide, by simpa using e⟩
  rintro k s' ⟨i, ρi, oai, πi, rfl, hi, fi, hSt, si, eL⟩
  have offOwn : ∀ b o, s.heap.get? b = some o → ¬ muF μ₀ pd κ env ρ oa b → ¬ ownAt κ ρi oai b := fun b o e hm q => by
    rcases si.own b q with q | q
    · exact hm (.inr (.inr (.inr q)))
    · rw [q] at e; cases e
  by_cases hlt : i < items.length
  · refine W.item i _ _ _ hlt hSt fun v₁ h₁ tk₁ hPv hSt₁ hk₁ => ?_
    have hk₁' : ∀ a o, ¬ a = I → s'.heap.get? a = some o → h₁.get? a = some o := fun a o hne e => hk₁ a o (by simpa using hne) e
    have f₃ : FS cx G s₀ μ₀ (fun a => pd a ∨ a = I) κ env ρi oai { s' with heap := h₁, toks := tk₁ } πi := fi.turn (T := fun a => a = I) (fun a q => .inr q) hk₁' (fun a q => q) fun a q => by
      rcases q with q | rfl
      · have hne : ¬ a = I := fun h => by subst h; exact absurd (fr.pend _ q).2.2 (by rintro ⟨o, e⟩; rw [hInew] at e; cases e)
        obtain ⟨o, e⟩ := (fi.pend a (.inl q)).2.2
        exact ⟨o, hk₁' a o hne e⟩
      · exact hStI _ _ hSt₁
    have s₃ : Step G κ env ρ oa s ρi oai { s' with heap := h₁, toks := tk₁ } := by
      refine ⟨?_, fun a o h1 h2 h3 e => hk₁' a o (ne_of_get e hInew) (si.keep a o h1 h2 h3 e), si.own⟩
      obtain ⟨h', tk, rfl⟩ := si.same
      exact ⟨h₁, tk₁, rfl⟩
    refine wpAny_of_eq (a := ()) rfl ?_
    obtain ⟨dI, hd, rd⟩ := hit i v₁ hlt hPv
    have hdrop : items.drop i = dI :: items.drop (i + 1) := by
      rw [List.drop_eq_getElem_cons hlt]
      rw [List.getElem?_eq_getElem hlt] at hd; cases hd; rfl
    rw [hdrop] at eL
    simp only [loop] at eL
    have st : Stay (muF μ₀ pd κ env ρ oa) (muF μ₀ (fun a => pd a ∨ a = I) κ env ρi oai) s.heap h₁ := fun a o hm e => by
      refine ⟨?_, s₃.keep a o (fun q => hm (.inl (fr.pa0 a q))) (fun q => hm (.inr (.inr (.inl q)))) (fun q => hm (.inr (.inr (.inr q)))) e⟩
      rintro (q | (q | rfl) | q | q)
      · exact hm (.inl q)
      · exact hm (.inr (.inl q))
      · rw [hInew] at e; cases e
      · exact hm (.inr (.inr (.inl q)))
      · exact offOwn a o e hm q
    refine wpAny_assign_Name (f₃.store hv (Rd.stay st dI v₁ rd) fun s₄ f₄ k₄ e₄ => ?_)
    have st₄ : Step G κ env ρi oai { s' with heap := h₁, toks := tk₁ } (setV ρi x (.fz dI)) oai s₄ := Step.store k₄ e₄
    have s₄' := fr.tr f₃ s₃ st₄
    cases hb : seqS f body (setV ρi x (.fz dI)) πi with
    | none => rw [hb] at eL; cases eL
    | some q =>
      obtain ⟨fl₁, ρ₁, π₁⟩ := q
      rw [hb] at eL
      refine wpAny_mono (seq_sound S hA hb f₄) (fun fw s₅ q => ?_) fun _ _ e => e
      obtain ⟨oa₅, f₅, st₅, q⟩ := q
      have s₅' := fr.tr f₄ s₄' st₅
      have hSt₅ : St (i + 1) s₅.heap := by
        refine W.frame _ _ _ hSt₁ fun b hb o e => ?_
        have e4 : s₄.heap.get? b = some o := k₄ b o (fun z => ?_) e
        · refine st₅.keep b o (fun z => ?_) (fun z => ?_) (fun z => ?_) e4
          · rcases hfp b hb with e1 | ⟨hm, _⟩
            · exact hIP (e1 ▸ z)
            · exact hm (.inl (fr.pa0 b z))
          · rcases hfp b hb with e1 | ⟨hm, _⟩
            · exact hIF (e1 ▸ z)
            · exact hm (.inr (.inr (.inl z)))
          · obtain ⟨y, ys, hy, hy', rfl⟩ := z
            obtain ⟨_, _, h3, _⟩ := f₄.own y ys hy hy'
            rcases hfp _ hb with e1 | ⟨hm, o', e'⟩
            · exact h3 (.inr e1)
            · rcases setV_own hy' with ⟨_, q⟩ | ⟨_, q⟩
              · cases q
              · exact offOwn _ o' e' hm ⟨y, ys, hy, q, rfl⟩
        · rcases hfp b hb with e1 | ⟨hm, _⟩
          · exact hIF (e1 ▸ z)
          · exact hm (.inr (.inr (.inl z)))
      cases fl₁ with
      | next =>
        simp only [FlR] at q
        subst q
        exact ⟨items.length + 1 - (i + 1), by omega, i + 1, ρ₁, oa₅, π₁, rfl, hlt, f₅, hSt₅, s₅', eL⟩
      | brk =>
        cases eL
        simp only [FlR] at q
        subst q
        exact hQ _ _ ⟨oa₅, f₅.drop fun a q => .inl q, s₅', rfl⟩
      | ret d' =>
        cases eL
        obtain ⟨u, rfl, r⟩ := q
        exact hQ _ _ ⟨oa₅, f₅.drop fun a q => .inl q, s₅', FlR.drop (fl := .ret d') (fun a q => .inl q) ⟨u, rfl, r⟩⟩
  · have hin : i = items.length := by omega
    subst hin
    refine W.done _ _ _ hSt fun h₁ tk₁ hk₁ => ?_
    have hk₁' : ∀ a o, ¬ a = I → s'.heap.get? a = some o → h₁.get? a = some o := fun a o hne e => hk₁ a o (by simpa using hne) e
    rw [List.drop_length] at eL
    simp only [loop, Option.some.injEq, Prod.mk.injEq] at eL
    obtain ⟨rfl, rfl, rfl⟩ := eL
    have f₃ : FS cx G s₀ μ₀ pd κ env ρi oai { s' with heap := h₁, toks := tk₁ } πi := fi.turn (T := fun a => a = I) (fun a q => .inr q) hk₁' (fun a q => .inl q) fun a q => by
      have hne : ¬ a = I := fun h => by subst h; exact absurd (fr.pend _ q).2.2 (by rintro ⟨o, e⟩; rw [hInew] at e; cases e)
      obtain ⟨o, e⟩ := (fi.pend a (.inl q)).2.2
      exact ⟨o, hk₁' a o hne e⟩
    have s₃ : Step G κ env ρ oa s ρi oai { s' with heap := h₁, toks := tk₁ } := by
      refine ⟨?_, fun a o h1 h2 h3 e => hk₁' a o (ne_of_get e hInew) (si.keep a o h1 h2 h3 e), si.own⟩
      obtain ⟨h', tk, rfl⟩ := si.same
      exact ⟨h₁, tk₁, rfl⟩
    exact wpAny_execs_nil (hQ _ _ ⟨oai, f₃, s₃, rfl⟩)

theorem assignOrder {xs : List Str} {ts : List Expr} (h : targets κ ts = some xs) : (assignEach ts env).length = xs.length ∧ (assignEach ts env).findIdx? (·.1) = none ∧ xs.all (isSto κ) = true := by
  induction ts generalizing xs with
  | nil => simp only [targets, Option.some.injEq] at h; subst h; exact ⟨rfl, rfl, rfl⟩
  | cons t r ih =>
    cases t <;> try (simp [targets] at h; done)
    rename_i x p
    simp only [targets] at h
    split at h
    · rename_i hx
      obtain ⟨ys, hy, rfl⟩ := Option.map_eq_some_iff.mp h
      obtain ⟨h1, h2, h3⟩ := ih hy
      refine ⟨?_, ?_, by simp [hx, h3]⟩
      · show (assignEach r env).length + 1 = _; rw [h1]; rfl
      · show ((false, assign (.Name x p) env) :: assignEach r env).findIdx? (·.1) = none
        rw [List.findIdx?_cons]; simp [h2]
    · cases h
end

section
variable {cf : Cf} {fns : Str → Option Fn}
variable {cx : Cx cf fns} {G : Option Gm} {μ₀ pd : Addr → Prop} {κ : Str → Option NameKind} {env : Env} {ρ ρ₁ ρ₂ : Rho} {oa oa₁ oa₂ : Str → Addr} {s₀ s s₁ s₂ : Shared} {π : List Int}
variable {prog : Program} {w : World} {A : Around} {E : Value → Shared → Prop} {N : Nat}

theorem targets_cons {t : Expr} {r : List Expr} {xs : List Str} (h : targets κ (t :: r) = some xs) : ∃ x p ys, t = .Name x p ∧ isSto κ x = true ∧ targets κ r = some ys ∧ xs = x :: ys := by
  cases t <;> try (simp [targets] at h; done)
  rename_i x p
  simp only [targets] at h
  split at h
  · rename_i hx
    obtain ⟨ys, hy, rfl⟩ := Option.map_eq_some_iff.mp h
    exact ⟨x, p, ys, rfl, hx, hy, rfl⟩
  · cases h

/-- names are given data, in order -/
theorem names_store : ∀ {xs : List Str} {fs : List (Value → Sem Unit)} {ds : List D} {vs : List Value} {ρ : Rho} {s : Shared} {Q : Unit → Shared → Prop}, xs.all (isSto κ) = true → fs.length = xs.length → (∀ (i : Nat) (x : Str) (f : Value → Sem Unit), xs[i]? = some x → fs[i]? = some f → f = (fun v => bindName env x v) ∨ ∃ p, f = assign (.Name x p) env) →
    ds.length = xs.length → FS cx G s₀ μ₀ pd κ env ρ oa s π → RdL G (muF μ₀ pd κ env ρ oa) s.heap ds vs →
    (∀ s', FS cx G s₀ μ₀ pd κ env (setAll ρ xs (ds.map .fz)) oa s' π → Step G κ env ρ oa s (setAll ρ xs (ds.map .fz)) oa s' → Q () s') → wpAny (model prog w) A (assignInOrder fs vs) Q E s
  | [], fs, ds, vs, ρ, s, Q, _, hf, _, hd, f, r, h => by
    cases ds with
    | nil =>
      cases fs with
      | nil =>
        simp only [RdL] at r
        subst r
        exact wpAny_assignInOrder_none (h s f (Step.refl s))
      | cons => cases hf
    | cons => cases hd
  | x :: xs, fs, ds, vs, ρ, s, Q, hx, hf, hff, hd, f, r, h => by
    cases ds with
    | nil => cases hd
    | cons d ds =>
      cases fs with
      | nil => cases hf
      | cons g fs =>
        simp only [RdL] at r
        obtain ⟨v, vs, rfl, rv, rr⟩ := r
        simp only [List.all_cons, Bool.and_eq_true] at hx
        have one : wpAny (model prog w) A (storeName env x v) (fun _ s₁ => wpAny (model prog w) A (assignInOrder fs vs) Q E s₁) E s := by
          refine f.store hx.1 rv fun s₁ f₁ k₁ e₁ => ?_
          have st₁ : Step G κ env ρ oa s (setV ρ x (.fz d)) oa s₁ := Step.store k₁ e₁
          have stay : Stay (muF μ₀ pd κ env ρ oa) (muF μ₀ pd κ env (setV ρ x (.fz d)) oa) s.heap s₁.heap := fun a o hm e => by
            refine ⟨?_, k₁ a o (fun q => hm (.inr (.inr (.inl q)))) e⟩
            rintro (q | q | q | ⟨y, ys, hy, hy', rfl⟩)
            · exact hm (.inl q)
            · exact hm (.inr (.inl q))
            · exact hm (.inr (.inr (.inl q)))
            · rcases setV_own hy' with ⟨_, q⟩ | ⟨_, q⟩
              · cases q
              · exact hm (.inr (.inr (.inr ⟨y, ys, hy, q, rfl⟩)))
          exact names_store (ds := ds) hx.2 (by simpa using hf) (fun i y g' h1 h2 => hff (i + 1) y g' (by simpa using h1) (by simpa using h2)) (by simpa using hd) f₁ (RdL.stay stay ds vs rr) fun s₂ f₂ st₂ => h s₂ f₂ (f.tr f₁ st₁ st₂)
        refine wpAny_assignInOrder_more ?_
        rcases hff 0 x g rfl rfl with rfl | ⟨p, rfl⟩
        · exact wpAny_bindName one
        · exact wpAny_assign_Name one

theorem targets_fs : ∀ {ts : List Expr} {xs : List Str}, targets κ ts = some xs → ((assignEach ts env).map (·.2)).length = xs.length ∧ ∀ (i : Nat) (x : Str) (f : Value → Sem Unit), xs[i]? = some x → ((assignEach ts env).map (·.2))[i]? = some f → ∃ p, f = assign (.Name x p) env
  | [], xs, h => by
    simp only [targets, Option.some.injEq] at h
    subst h
    exact ⟨rfl, fun i x f h1 _ => by simp at h1⟩
  | t :: r, xs, h => by
    obtain ⟨x, p, ys, rfl, hx, hy, rfl⟩ := targets_cons h
    obtain ⟨h1, h2⟩ := targets_fs hy
    refine ⟨by show _ + 1 = _ + 1; rw [h1], fun i y f e1 e2 => ?_⟩
    cases i with
    | zero =>
      simp only [List.getElem?_cons_zero, Option.some.injEq] at e1
      have e2' : some (assign (.Name x p) env) = some f := e2
      cases e1; cases e2'
      exact ⟨p, rfl⟩
    | succ i => exact h2 i y f (by simpa using e1) e2

/-- names are given new lists, in order -/
theorem own_store : ∀ {xs : List Str} {fs : List (Value → Sem Unit)} {as : List Addr} {ρ : Rho} {oa : Str → Addr} {pd : Addr → Prop} {s : Shared} {Q : Unit → Shared → Prop}, xs.all (isSto κ) = true → fs.length = xs.length → (∀ (i : Nat) (x : Str) (f : Value → Sem Unit), xs[i]? = some x → fs[i]? = some f → ∃ p, f = assign (.Name x p) env) →
    as.length = xs.length → as.Nodup → FS cx G s₀ μ₀ pd κ env ρ oa s π → (∀ a ∈ as, pd a ∧ s.heap.PlainList a #[]) →
    (∀ s' oa' pd', FS cx G s₀ μ₀ pd' κ env (setAll ρ xs (xs.map fun _ => .own [])) oa' s' π → (∀ a, pd a → a ∉ as → pd' a) → (∃ h' tk, s' = { s with heap := h', toks := tk }) → (∀ a o, ¬ fa env a → s.heap.get? a = some o → s'.heap.get? a = some o) →
      (∀ a, ownAt κ (setAll ρ xs (xs.map fun _ => .own [])) oa' a → ownAt κ ρ oa a ∨ a ∈ as) → Q () s') → wpAny (model prog w) A (assignInOrder fs (as.map .ref)) Q E s
  | [], fs, as, ρ, oa, pd, s, Q, _, hf, _, ha, _, f, _, h => by
    cases as with
    | nil =>
      cases fs with
      | nil => exact wpAny_assignInOrder_none (h s oa pd f (fun a q _ => q) ⟨s.heap, s.toks, rfl⟩ (fun _ _ _ e => e) fun a q => .inl q)
      | cons => cases hf
    | cons => cases ha
  | x :: xs, fs, as, ρ, oa, pd, s, Q, hx, hf, hff, ha, hnd, f, hp, h => by
    cases as with
    | nil => cases ha
    | cons a as =>
      cases fs with
      | nil => cases hf
      | cons g fs =>
        simp only [List.all_cons, Bool.and_eq_true] at hx
        obtain ⟨p, rfl⟩ := hff 0 x g rfl rfl
        obtain ⟨hpa, hpl⟩ := hp a List.mem_cons_self
        have hnd' := List.nodup_cons.mp hnd
        refine wpAny_assignInOrder_more (wpAny_assign_Name (f.storeOwn hx.1 hpa hpl fun s₁ f₁ k₁ e₁ => ?_))
        refine own_store (as := as) hx.2 (by simpa using hf) (fun i y g' h1 h2 => hff (i + 1) y g' (by simpa using h1) (by simpa using h2)) (by simpa using ha) hnd'.2 f₁ (fun b hb => ?_) fun s₂ oa₂ pd₂ f₂ hpd e₂ k₂ hown => ?_
        · obtain ⟨q1, q2⟩ := hp b (List.mem_cons_of_mem _ hb)
          refine ⟨⟨q1, fun e => hnd'.1 (e ▸ hb)⟩, q2.at fun o e => k₁ b o (f.pend b q1).2.1 e⟩
        · refine h s₂ oa₂ pd₂ f₂ (fun b q hb => hpd b ⟨q, fun e => hb (e ▸ List.mem_cons_self)⟩ fun q' => hb (List.mem_cons_of_mem _ q')) ?_ (fun b o hb e => k₂ b o hb (k₁ b o hb e)) fun b hb => ?_
          · obtain ⟨h1, t1, rfl⟩ := e₁
            obtain ⟨h2, t2, rfl⟩ := e₂
            exact ⟨h2, t2, rfl⟩
          · rcases hown b hb with ⟨y, ys, hy, hy', rfl⟩ | q
            · rcases setV_own hy' with ⟨e1, _⟩ | ⟨e1, e2⟩
              · simp only [e1, if_true]; exact .inr List.mem_cons_self
              · simp only [if_neg e1]; exact .inl ⟨y, ys, hy, e2, rfl⟩
            · exact .inr (List.mem_cons_of_mem _ q)

/-- new empty lists -/
theorem own_lists (hA : AOk A N) {pos : Pos} : ∀ {es : List Expr} {pd : Addr → Prop} {s : Shared}, es.all isEmptyList = true → FS cx G s₀ μ₀ pd κ env ρ oa s π →
    wpAny (model prog w) A (spliced (backTo pos (starEach es env))) (fun vs s' => ∃ as : List Addr, vs = as.map .ref ∧ as.length = es.length ∧ as.Nodup ∧ FS cx G s₀ μ₀ (fun a => pd a ∨ a ∈ as) κ env ρ oa s' π ∧ (∀ a ∈ as, s.heap.get? a = none ∧ s'.heap.PlainList a #[]) ∧ Ext Non s s') E s
  | [], pd, s, _, f => args_nil ⟨[], rfl, rfl, .nil, f.drop (fun a q => q.elim id fun q => nomatch q), (fun a ha => nomatch ha), Ext.refl s⟩
  | e :: r, pd, s, h, f => by
    simp only [List.all_cons, Bool.and_eq_true] at h
    have he : ∃ p, e = .List [] p := by
      cases e <;> try (simp [isEmptyList] at h; done)
      rename_i es p
      cases es with
      | nil => exact ⟨p, rfl⟩
      | cons => simp [isEmptyList] at h
    obtain ⟨p, rfl⟩ := he
    refine args_cons (wpAny_List (args_nil ⟨by simp, ?_⟩)) rfl
    have x1 : Ext Non s { s with heap := s.heap.push { cls := .type "list", data := .seq ([] : List Value).toArray } } := Ext.push (t := s.toks)
    have hnew : s.heap.get? s.heap.objs.size = none := Heap.get?_none_of_le (Nat.le_refl _)
    have f1 := f.alloc x1 hnew ⟨_, Heap.get?_push_size _ rfl⟩
    refine wpAny_mono (own_lists hA h.2 f1) (fun vs s₂ q => ?_) fun _ _ e => e
    obtain ⟨as, rfl, hl, hnd, f2, hp, x2⟩ := q
    refine ⟨s.heap.objs.size :: as, rfl, by simp [hl], List.nodup_cons.mpr ⟨fun hm => ?_, hnd⟩, f2.drop ?_, ?_, x1.trans x2⟩
    · have := (hp _ hm).1
      rw [show Heap.get? (s.heap.push { cls := .type "list", data := .seq ([] : List Value).toArray }) s.heap.objs.size = some _ from Heap.get?_push_size _ rfl] at this
      cases this
    · rintro a (q | q)
      · exact .inl (.inl q)
      · rcases List.mem_cons.mp q with rfl | q
        · exact .inl (.inr rfl)
        · exact .inr q
    · intro a ha
      rcases List.mem_cons.mp ha with rfl | ha
      · exact ⟨hnew, 0, x2.keep id (Heap.get?_push_size _ rfl)⟩
      · refine ⟨?_, (hp a ha).2⟩
        cases q : s.heap.get? a with
        | none => rfl
        | some o =>
          have := (hp a ha).1
          rw [Heap.get?_push_of_some _ q] at this; cases this

theorem setAll_eq : ∀ {xs : List Str} {vs : List LV} {ρ : Rho}, xs.Nodup → ∀ y, setAll ρ xs vs y = match (xs.zip vs).lookup y with
    | some lv => some lv
    | none => ρ y
  | [], vs, ρ, _, y => by simp [setAll]
  | x :: xs, [], ρ, _, y => by simp [setAll]
  | x :: xs, v :: vs, ρ, hn, y => by
    have hn' := List.nodup_cons.mp hn
    simp only [setAll]
    rw [setAll_eq hn'.2 y]
    simp only [List.zip_cons_cons, List.lookup_cons]
    by_cases e : y = x
    · subst e
      simp only [beq_self_eq_true]
      have : (xs.zip vs).lookup y = none := by
        cases q : (xs.zip vs).lookup y with
        | none => rfl
        | some lv => exact absurd (List.of_mem_zip (mem_of_lookup q)).1 hn'.1
      rw [this]
      simp [setV]
    · have hb : (y == x) = false := by simpa using e
      rw [hb]
      cases (xs.zip vs).lookup y with
      | none => simp [setV, e]
      | some lv => rfl

theorem nodup_rev {α : Type} {l : List α} (h : l.Nodup) : l.reverse.Nodup := by
  unfold List.Nodup at *
  rw [List.pairwise_reverse]
  exact h.imp Ne.symm
theorem lookup_of_mem {l : List (Str × LV)} {y : Str} {lv : LV} (hn : (l.map (·.1)).Nodup) (h : (y, lv) ∈ l) : l.lookup y = some lv := by
  induction l with
  | nil => cases h
  | cons p r ih =>
    obtain ⟨k, v⟩ := p
    simp only [List.map_cons] at hn
    have hn' := List.nodup_cons.mp hn
    rw [List.lookup_cons]
    rcases List.mem_cons.mp h with e | h
    · cases e; simp
    · have : (y == k) = false := by
        simp only [beq_eq_false_iff_ne]
        exact fun e => hn'.1 (e ▸ List.mem_map.mpr ⟨(y, lv), h, rfl⟩)
      rw [this]; exact ih hn'.2 h
theorem lookup_perm {l l' : List (Str × LV)} (hn : (l.map (·.1)).Nodup) (hn' : (l'.map (·.1)).Nodup) (h : ∀ p, p ∈ l ↔ p ∈ l') (y : Str) : l.lookup y = l'.lookup y := by
  cases q : l.lookup y with
  | some lv => rw [lookup_of_mem hn' ((h _).mp (mem_of_lookup q))]
  | none =>
    cases q' : l'.lookup y with
    | none => rfl
    | some lv => rw [lookup_of_mem hn ((h _).mpr (mem_of_lookup q'))] at q; cases q

theorem setAll_rev {xs : List Str} {vs : List LV} {ρ : Rho} (hn : xs.Nodup) (hl : xs.length = vs.length) : setAll ρ xs.reverse vs.reverse = setAll ρ xs vs := by
  funext y
  rw [setAll_eq hn, setAll_eq (nodup_rev hn)]
  have hz : xs.reverse.zip vs.reverse = (xs.zip vs).reverse := by
    clear hn
    induction xs generalizing vs with
    | nil => cases vs with
      | nil => rfl
      | cons => cases hl
    | cons x xs ih => cases vs with
      | nil => cases hl
      | cons v vs =>
        simp only [List.length_cons, Nat.add_right_cancel_iff] at hl
        rw [List.reverse_cons, List.reverse_cons, List.zip_append (by simp [hl]), ih hl]
        simp
  have : (xs.reverse.zip vs.reverse).lookup y = (xs.zip vs).lookup y := by
    rw [hz]
    refine lookup_perm ?_ ?_ (fun p => List.mem_reverse) y
    · rw [List.map_reverse]
      have : (xs.zip vs).map (·.1) = xs := by rw [List.map_fst_zip]; omega
      rw [this]; exact nodup_rev hn
    · have : (xs.zip vs).map (·.1) = xs := by rw [List.map_fst_zip]; omega
      rw [this]; exact hn
  rw [this]
end

section
variable {cf : Cf} {fns : Str → Option Fn}
variable {cx : Cx cf fns} {G : Option Gm} {μ₀ pd : Addr → Prop} {κ : Str → Option NameKind} {env : Env} {ρ ρ₁ ρ₂ : Rho} {oa oa₁ oa₂ : Str → Addr} {s₀ s s₁ s₂ : Shared} {π : List Int}
variable {prog : Program} {w : World} {A : Around} {E : Value → Shared → Prop} {N : Nat} {Φ : Mean}
noncomputable def swapG (env : Env) (line : Nat) : Expr → Option Str := fun
    | .Name id pos => if env.kindOf id == some .local && pos.line == line then some id else none
    | _ => none
theorem swapG_names {line : Nat} : ∀ {ts : List Expr} {xs : List Str}, targets κ ts = some xs → (ts.filterMap (swapG env line)).length = ts.length → ts.filterMap (swapG env line) = xs
  | [], xs, h, _ => by simp only [targets, Option.some.injEq] at h; subst h; rfl
  | t :: r, xs, h, hl => by
    obtain ⟨x, p, ys, rfl, hx, hy, rfl⟩ := targets_cons h
    rw [List.filterMap_cons] at hl ⊢
    have hle := List.length_filterMap_le (swapG env line) r
    cases q : swapG env line (.Name x p) with
    | none => rw [q] at hl; simp only [List.length_cons] at hl; omega
    | some y =>
      rw [q] at hl
      simp only [List.length_cons, Nat.add_right_cancel_iff] at hl
      have : y = x := by
        simp only [swapG] at q
        split at q
        · cases q; rfl
        · cases q
      subst this
      simp only [swapG_names hy hl]
theorem swapped_or {ts es : List Expr} {xs : List Str} {k k' : Nat} {p p' : Pos} (ht : targets κ ts = some xs) (hc : es.all (constantsAlone 8) = false) (hc' : es.all (foldedForSure 8) = false) :
    swappedStores [.Tuple ts k p] (.Tuple es k' p') env = pure none ∨ swappedStores [.Tuple ts k p] (.Tuple es k' p') env = pure (some xs) := by
  have e0 : swappedStores [.Tuple ts k p] (.Tuple es k' p') env = (do
    if !(ts.length == 2 || ts.length == 3) || es.length != ts.length || env.blockKind != .function then return none
    if es.any fun | .Starred .. => true | _ => false then return none
    let names := ts.filterMap (swapG env ((ts.head?.map (·.pos.line)).getD 0))
    if names.length != ts.length || names.eraseDups.length != names.length then return none
    if es.all (foldedForSure 8) then return none
    if es.all (constantsAlone 8) then unsupported "assign.tuple-of-constant-expressions:order-of-the-stores"
    return some names) := rfl
  rw [e0, hc, hc']
  split
  · exact .inl rfl
  · split
    · exact .inl rfl
    · dsimp only
      split
      · exact .inl rfl
      · rename_i h1
        right
        have : (ts.filterMap (swapG env ((ts.head?.map (·.pos.line)).getD 0))).length = ts.length := by
          simp only [Bool.or_eq_true, bne_iff_ne, ne_eq, not_or, Decidable.not_not] at h1
          exact h1.1
        rw [swapG_names ht this]
        rfl

/-- the heap grows -/
theorem FS.grow {s' : Shared} (f : FS cx G s₀ μ₀ pd κ env ρ oa s π) (x : Ext Non s s') : FS cx G s₀ μ₀ pd κ env ρ oa s' π := f.step x.wide (f.inv.ext x)
theorem Ext.but {s : Shared} {h' : Heap} (x : Heap.ExtBut s.heap.objs.size s.heap h') : Ext Non s { s with heap := h' } :=
  ⟨h', s.toks, rfl, fun a o _ e => x a o (Nat.ne_of_lt (Heap.lt_size e)) e⟩
theorem RdL.grow {s' : Shared} {μ : Addr → Prop} {ds : List D} {vs : List Value} (x : Ext Non s s') (r : RdL G μ s.heap ds vs) : RdL G μ s'.heap ds vs := RdL.stay (x.stay fun _ q => q.elim) ds vs r
theorem RdL.reverse {μ : Addr → Prop} {h : Heap} : ∀ {ds : List D} {vs : List Value}, RdL G μ h ds vs → RdL G μ h ds.reverse vs.reverse
  | [], vs, r => by simp only [RdL] at r; subst r; simp [RdL]
  | d :: ds, vs, r => by
    simp only [RdL] at r
    obtain ⟨v, vs', rfl, rv, rr⟩ := r
    rw [List.reverse_cons, List.reverse_cons]
    exact RdL.append (RdL.reverse rr) (by simp only [RdL]; exact ⟨v, [], rfl, rv, rfl⟩)

/-- a tuple is unpacked into names -/
theorem tup_assign (hh : A.handled = none) {ts : List Expr} {xs : List Str} {k : Nat} {p : Pos} {ds : List D} {vs : List Value} {t : Addr} (ht : targets κ ts = some xs) (hl : ds.length = xs.length)
    (f : FS cx G s₀ μ₀ pd κ env ρ oa s π) (hT : IsTup s.heap t vs.toArray) (r : RdL G (muF μ₀ pd κ env ρ oa) s.heap ds vs) :
    wpAny (model prog w) A (assign (.Tuple ts k p) env (.ref t)) (fun _ s' => FS cx G s₀ μ₀ pd κ env (setAll ρ xs (ds.map .fz)) oa s' π ∧ Step G κ env ρ oa s (setAll ρ xs (ds.map .fz)) oa s') E s := by
  obtain ⟨h1, h2, h3⟩ := assignOrder (env := env) ht
  obtain ⟨h4, h5⟩ := targets_fs (env := env) ht
  refine assign_Tuple_tuple hh hT (by rw [h1, ← hl, ← r.length]; simp) h2 fun h' hb => ?_
  have x1 := Ext.but hb
  have f1 := f.grow x1
  exact names_store h3 h4 (fun i x g e1 e2 => .inr (h5 i x g e1 e2)) hl f1 (RdL.grow x1 r) fun s' f' st => ⟨f', f.tr f1 (Step.ofExt x1.wide) st⟩

theorem swap_assign (hh : A.handled = none) {ts : List Expr} {xs : List Str} {ds : List D} {vs : List Value} {t : Addr} (ht : targets κ ts = some xs) (hnd : xs.Nodup) (hl : ds.length = xs.length)
    (f : FS cx G s₀ μ₀ pd κ env ρ oa s π) (hT : IsTup s.heap t vs.toArray) (r : RdL G (muF μ₀ pd κ env ρ oa) s.heap ds vs) :
    wpAny (model prog w) A (unpackItems (.ref t) xs.length none) (fun items s₂ => wpAny (model prog w) A (assignInOrder (xs.reverse.map fun n => bindName env n) items.reverse)
      (fun _ s' => FS cx G s₀ μ₀ pd κ env (setAll ρ xs (ds.map .fz)) oa s' π ∧ Step G κ env ρ oa s (setAll ρ xs (ds.map .fz)) oa s') E s₂) E s := by
  obtain ⟨h1, h2, h3⟩ := assignOrder (env := env) ht
  have e : xs.length = vs.toArray.size := by rw [← hl, ← r.length]; simp
  rw [e]
  refine unpackItems_tuple hh hT fun h' hb => ?_
  have x1 := Ext.but hb
  have f1 := f.grow x1
  have he : setAll ρ xs (ds.map LV.fz) = setAll ρ xs.reverse (ds.reverse.map LV.fz) := by
    rw [List.map_reverse]; exact (setAll_rev hnd (by simp [hl])).symm
  rw [he]
  have r1 := (RdL.grow x1 r).reverse
  refine names_store (xs := xs.reverse) (by rw [List.all_reverse]; exact h3) (by simp) (fun i x g e1 e2 => .inl ?_) (by simp [hl]) f1 r1 fun s' f' st => ⟨f', f.tr f1 (Step.ofExt x1.wide) st⟩
  rw [List.getElem?_map, e1] at e2
  cases e2; rfl
end

section
variable {cf : Cf} {fns : Str → Option Fn}
variable {cx : Cx cf fns} {G : Option Gm} {μ₀ pd : Addr → Prop} {κ : Str → Option NameKind} {env : Env} {ρ ρ₁ ρ₂ : Rho} {oa oa₁ oa₂ : Str → Addr} {s₀ s s₁ s₂ : Shared} {π : List Int}
variable {prog : Program} {w : World} {A : Around} {E : Value → Shared → Prop} {N : Nat} {Φ : Mean}

theorem swaps_pure (value : Expr) (x : Str) (px : Pos) (l : Nat) : (∃ b, swapsWith value (some (.Name x px)) l env = pure b) := by
  cases value <;> exact ⟨_, rfl⟩

theorem swap_comp {e : Expr} {x : Str} {px : Pos} {l : Nat} {ρ : Str → Option D} {r : D × List Int} (hb : swapsWith e (some (.Name x px)) l env = pure true) (h : ev cf Φ 20 false κ ρ e π = some r) : ∃ elt gens scope p, e = .ListComp elt gens scope p := by
  cases e <;> first | exact ⟨_, _, _, _, rfl⟩ | exact o_no h | (have q : (pure false : Sem Bool) = pure true := hb; cases q)
theorem FS.goE (SM : SoundM cx G N Φ) (hA : AOk A N) {e : Expr} {ns : List Str} {d : D} {π' : List Int} (f : FS cx G s₀ μ₀ pd κ env ρ oa s π) (h : ev cf Φ 20 false κ (look (Mine.freeze ns ρ)) e π = some (d, π')) {Q : Value → Shared → Prop}
    (k : ∀ v s', FS cx G s₀ μ₀ pd κ env (Mine.freeze ns ρ) oa s' π' → Step G κ env ρ oa s (Mine.freeze ns ρ) oa s' → Rd G (muF μ₀ pd κ env (Mine.freeze ns ρ) oa) s'.heap d v → Q v s') : wpAny (model prog w) A (eval e env) Q E s :=
  wpAny_mono (f.evalE SM hA h) (fun v s' q => k v s' q.1 q.2.1 q.2.2) fun _ _ e => e

/-- x = e -/
theorem assign_sound (SM : SoundM cx G N Φ) (hA : AOk A N) {x : Str} {px pos : Pos} {e : Expr} {ns : List Str} {d : D} {π' : List Int} (hv : isSto κ x = true) (f : FS cx G s₀ μ₀ pd κ env ρ oa s π) (h : ev cf Φ 20 false κ (look (Mine.freeze ns ρ)) e π = some (d, π')) :
    wpAny (model prog w) A (exec (.Assign [.Name x px] e pos) env) (PostX cx G s₀ μ₀ pd κ env ρ oa s .next (setV (Mine.freeze ns ρ) x (.fz d)) π') E s := by
  obtain ⟨b, hb⟩ := swaps_pure (env := env) e x px pos.line
  cases b with
  | false =>
    exact wpAny_Assign_Name (f.goE SM hA h fun v s₁ f₁ st₁ r => f₁.store hv r fun s₂ f₂ k₂ e₂ => ⟨oa, f₂, f.tr f₁ st₁ (Step.store k₂ e₂), rfl⟩) hb
  | true =>
    obtain ⟨elt, gens, scope, p, he⟩ := swap_comp hb h
    subst he
    refine comp_inv (f := ev cf Φ 19) h fun y py iter ifs d₁ π₁ items ds π₂ hgen h1 h2 h3 h4 h5 he => ?_
    subst hgen
    obtain ⟨rfl, rfl⟩ := o_pair he
    rw [exec_Assign_Name_used _ _ _ _ hb]
    have f1 := f.freeze ns
    refine wpAny_bind (wpAny_standAt (wpAny_bind ?_))
    show wpAny _ A (do let _ ← comprehension (.ListComp elt [⟨.Name y py, iter, ifs, 0⟩] scope p) scope env _ (newList []) false (eval iter env) (some (assign (.Name x px) env))) _ _ s
    refine wpAny_bind (wpAny_mono (list_comp (Q := fun _ s' => PostX cx G s₀ μ₀ pd κ env ρ oa s .next (setV (Mine.freeze ns ρ) x (.fz (.list ds))) π' .next s') ((ev_sound SM 19).1 κ _) hA h1 h2 f1.evc f1.inv h3 h4 (fun v => (ev_sound SM 19).2 _ _) (fun v => (ev_sound SM 19).1 _ _) h5 ?_) (fun _ s' q => wpAny_pure (wpAny_pure q)) fun _ _ e => e)
    intro Dl s₁ m' C hD hC x1 hi hr hn
    have hCe : ∃ o, s₁.heap.get? C = some o := by obtain ⟨o, _, _, ho, _⟩ := hn; exact ⟨o, ho⟩
    have mu : ∀ a, muF μ₀ (fun a => pd a ∨ a = C) κ env (Mine.freeze ns ρ) oa a ↔ (muF μ₀ pd κ env (Mine.freeze ns ρ) oa a ∨ a = C) := fun a => by
      unfold muF
      constructor
      · rintro (q | (q | q) | q | q)
        · exact .inl (.inl q)
        · exact .inl (.inr (.inl q))
        · exact .inr q
        · exact .inl (.inr (.inr (.inl q)))
        · exact .inl (.inr (.inr (.inr q)))
      · rintro ((q | q | q | q) | q)
        · exact .inl q
        · exact .inr (.inl (.inl q))
        · exact .inr (.inr (.inl q))
        · exact .inr (.inr (.inr q))
        · exact .inr (.inl (.inr q))
    have st : Stay (fun a => muF μ₀ pd κ env (Mine.freeze ns ρ) oa a ∨ a = C) (muF μ₀ (fun a => pd a ∨ a = C) κ env (Mine.freeze ns ρ) oa) s₁.heap s₁.heap := fun a o hm e => ⟨fun q => hm ((mu a).mp q), e⟩
    have f₂ := f1.allocP x1 hC hCe (hi.stay st fun g hg => ⟨rfl, .inl (f.pa0 _ ⟨g, hg, rfl⟩)⟩)
    have st₁ : Step G κ env ρ oa s (Mine.freeze ns ρ) oa s₁ := f.tr f1 (Step.freeze ns) (Step.ofExt x1)
    show wpAny _ A (assign (.Name x px) env (.ref Dl)) _ _ _
    refine wpAny_assign_Name (f₂.store hv (Rd.stay st _ _ hr) fun s₃ f₃ k₃ e₃ => ?_)
    have hCf : ¬ fa env C := fun q => by obtain ⟨o, e⟩ := f1.fa_here q; rw [hC] at e; cases e
    refine ⟨m', ?_, fun h' hs' => ?_⟩
    · obtain ⟨o, es, ep, ho, r⟩ := hn
      exact ⟨o, es, ep, k₃ C o hCf ho, r⟩
    · have f₄ : FS cx G s₀ μ₀ pd κ env (setV (Mine.freeze ns ρ) x (.fz (.list ds))) oa { s₃ with heap := h' } π' := f₃.turn (T := fun a => a = C) (tk := s₃.toks) (fun a q => .inr q) (fun a o hne e => hs'.extBut a o hne e) (fun a q => .inl q) fun a q => by
        have hne : ¬ a = C := fun e => by subst e; exact absurd (f1.pend _ q).2.2 (by rintro ⟨o, e⟩; rw [hC] at e; cases e)
        obtain ⟨o, e⟩ := (f₃.pend a (.inl q)).2.2
        exact ⟨o, hs'.extBut a o hne e⟩
      refine ⟨oa, f₄, ?_, rfl⟩
      have s3 : Step G κ env ρ oa s (setV (Mine.freeze ns ρ) x (.fz (.list ds))) oa s₃ := f.tr f₂ st₁ (Step.store k₃ e₃)
      refine ⟨?_, fun a o h1 h2 h3 e => hs'.extBut a o (ne_of_get e hC) (s3.keep a o h1 h2 h3 e), s3.own⟩
      obtain ⟨h2, t2, e2⟩ := s3.same
      exact ⟨h', t2, by rw [e2]⟩

theorem loadN_var {x : Str} {v : Value} {Q : Value → Shared → Prop} (hk : env.scope.kind = .function) (ho : (x == ("__debug__" : Str)) = false ∧ (x == ("__classdict__" : Str)) = false)
    (b : Bd env s.heap x v) (h : Q v s) : wpAny (model prog w) A (loadName env x) Q E s := by
  unfold Bd at b
  split at b
  · obtain ⟨m, hn, hv⟩ := b
    exact wpAny_loadName_local hk (by assumption) hn hv h
  · obtain ⟨c, hc, hv⟩ := b
    exact wpAny_loadName_cell hk (by assumption) hc hv h
  · obtain ⟨c, hc, hv⟩ := b
    exact wpAny_loadName_free hk (by assumption) hc hv h ho.2
  · exact b.elim
theorem Inv.turnP {μ : Addr → Prop} {h h' : Heap} {π π' : List Int} {g : Gm} (I : Inv cx G μ h π) (hG : G = some g) (hs : Heap.SameBut g.pa h h') (hp : PathAt g h' π') : Inv cx G μ h' π' := by
  intro g' hg'
  rw [hG] at hg'; cases hg'
  obtain ⟨da, es, n, h1, h2, h3, h4, h5, h6, h7, h8⟩ := I g hG
  have k : ∀ a o, ¬ μ a → h.get? a = some o → h'.get? a = some o := fun a o hm e => (hs.2 a fun q => hm (q ▸ h5)).trans e
  refine ⟨da, es, n, k _ _ h3 h1, k _ _ h4 h2, h3, h4, h5, hp, fun m d hm => ?_, h8⟩
  obtain ⟨v, e, r⟩ := h7 m d hm
  exact ⟨v, e, Rd.stay (fun a o hm e => ⟨hm, k a o hm e⟩) d v r⟩
theorem ints_pop : ∀ {vs : List Value} {ns : List Int}, IntsAre vs ns → ns ≠ [] → ∃ i t, vs[vs.length - 1]? = some (.int i t) ∧ IntsAre vs.dropLast ns.dropLast
  | _, _, .nil, h => absurd rfl h
  | _, _, .cons n t .nil, _ => ⟨n, t, rfl, .nil⟩
  | _, _, .cons n t (.cons n' t' r), _ => by
    obtain ⟨i, u, h1, h2⟩ := ints_pop (.cons n' t' r) (by simp)
    exact ⟨i, u, by simpa using h1, .cons n t h2⟩
theorem sames {s s₁ s₂ : Shared} {P : Addr → Prop} (x : Ext P s s₁) (y : ∃ h' tk, s₂ = { s₁ with heap := h', toks := tk }) : ∃ h' tk, s₂ = { s with heap := h', toks := tk } := by
  obtain ⟨h1, t1, rfl, _⟩ := x
  obtain ⟨h2, t2, rfl⟩ := y
  exact ⟨h2, t2, rfl⟩
theorem targets_len : ∀ {ts : List Expr} {xs : List Str}, targets κ ts = some xs → ts.length = xs.length
  | [], xs, h => by simp only [targets, Option.some.injEq] at h; subst h; rfl
  | t :: r, xs, h => by
    obtain ⟨x, p, ys, rfl, hx, hy, rfl⟩ := targets_cons h
    simp [targets_len hy]

theorem emptyList_eq {e : Expr} (h : isEmptyList e = true) : ∃ p, e = .List [] p := by
  unfold isEmptyList at h
  split at h
  · exact ⟨_, rfl⟩
  · cases h
section
variable {fl : Fl} {ρ' : Rho} {π' : List Int}
theorem x_ok {a : Fl} {b : Rho} {c : List Int} {code : Sem Flow} (h : some (a, b, c) = some (fl, ρ', π')) (p : wpAny (model prog w) A code (PostX cx G s₀ μ₀ pd κ env ρ oa s a b c) E s) : wpAny (model prog w) A code (PostX cx G s₀ μ₀ pd κ env ρ oa s fl ρ' π') E s := by
  cases h; exact p
theorem FS.onX (f : FS cx G s₀ μ₀ pd κ env ρ oa s π) {π₁ : List Int} (f₁ : FS cx G s₀ μ₀ pd κ env ρ₁ oa s₁ π₁) (st : Step G κ env ρ oa s ρ₁ oa s₁) {fw : Flow} {s' : Shared} (q : PostX cx G s₀ μ₀ pd κ env ρ₁ oa s₁ fl ρ' π' fw s') :
    PostX cx G s₀ μ₀ pd κ env ρ oa s fl ρ' π' fw s' := by
  obtain ⟨oa₂, f₂, st₂, q⟩ := q
  exact ⟨oa₂, f₂, f.tr f₁ st st₂, q⟩
theorem if_x {g : Ex} (S : SndX cx G N (g κ) κ) (SM : SoundM cx G N Φ) (hA : AOk A N) {t : Expr} {b o : List Stmt} {pos : Pos} (f : FS cx G s₀ μ₀ pd κ env ρ oa s π) (h : exIf cf Φ g κ t b o ρ π = some (fl, ρ', π')) :
    wpAny (model prog w) A (exec (.If t b o pos) env) (PostX cx G s₀ μ₀ pd κ env ρ oa s fl ρ' π') E s := by
  refine o_bool h fun c π₁ hc h => wpAny_If (wpAny_mono (f.testE SM hA hc) (fun v s₁ q => ?_) fun _ _ e => e)
  obtain ⟨rfl, f₁, st₁⟩ := q
  cases v with
  | true => exact wpAny_mono (seq_sound S hA h f₁) (fun fw s₂ q => f.onX f₁ st₁ q) fun _ _ e => e
  | false => exact wpAny_mono (seq_sound S hA h f₁) (fun fw s₂ q => f.onX f₁ st₁ q) fun _ _ e => e
theorem for_x {g : Ex} (S : SndX cx G N (g κ) κ) (SM : SoundM cx G N Φ) (hA : AOk A N) {x : Str} {xp : Pos} {iter : Expr} {body : List Stmt} {pos : Pos} (f : FS cx G s₀ μ₀ pd κ env ρ oa s π) (h : exFor cf Φ g κ x iter body ρ π = some (fl, ρ', π')) :
    wpAny (model prog w) A (exec (.For (.Name x xp) iter body [] pos) env) (PostX cx G s₀ μ₀ pd κ env ρ oa s fl ρ' π') E s := by
  refine o_if h fun hg h => ?_
  simp only [Bool.and_eq_true] at hg
  refine o_bnd h fun d π₁ hd h => o_items h fun items hit h => wpAny_For (f.goE SM hA hd fun v s₁ f₁ st₁ r => for_sound S hA hg.1 f₁ hit r h fun fw s' q => f.onX f₁ st₁ q) ?_
  intro y
  have hi := hg.2
  cases iter <;> first | rfl | cases hi
theorem ret_x (SM : SoundM cx G N Φ) (hA : AOk A N) {e : Expr} {pos : Pos} (f : FS cx G s₀ μ₀ pd κ env ρ oa s π) (h : exRet cf Φ κ e ρ π = some (fl, ρ', π')) :
    wpAny (model prog w) A (exec (.Return (some e) pos) env) (PostX cx G s₀ μ₀ pd κ env ρ oa s fl ρ' π') E s :=
  o_bnd h fun _ _ he h => x_ok h (wpAny_Return_some (f.goE SM hA he fun v _ f₁ st₁ r => ⟨oa, f₁, st₁, v, rfl, r⟩))
theorem as_x (SM : SoundM cx G N Φ) (hA : AOk A N) {x : Str} {px : Pos} {e : Expr} {pos : Pos} (f : FS cx G s₀ μ₀ pd κ env ρ oa s π) (h : exAs cf Φ κ x e ρ π = some (fl, ρ', π')) :
    wpAny (model prog w) A (exec (.Assign [.Name x px] e pos) env) (PostX cx G s₀ μ₀ pd κ env ρ oa s fl ρ' π') E s := by
  refine o_if h fun hv h => o_ite h (fun hemp h => x_ok h ?_) fun _ h => o_bnd h fun d π₁ he h => x_ok h (assign_sound SM hA hv f he)
  obtain ⟨p, rfl⟩ := emptyList_eq hemp
  refine wpAny_Assign_Name (wpAny_List (args_nil ⟨by simp, ?_⟩)) rfl
  have x1 : Ext Non s { s with heap := s.heap.push { cls := .type "list", data := .seq ([] : List Value).toArray } } := Ext.push (t := s.toks)
  have hnew : s.heap.get? s.heap.objs.size = none := Heap.get?_none_of_le (Nat.le_refl _)
  have f1 := f.alloc x1 hnew ⟨_, Heap.get?_push_size _ rfl⟩
  refine f1.storeOwn hv (.inr rfl) ⟨0, Heap.get?_push_size _ rfl⟩ fun s₂ f₂ k₂ e₂ => ?_
  have hnf : ∀ a, pd a → a ≠ s.heap.objs.size := fun a q e => by obtain ⟨o, h'⟩ := (f.pend a q).2.2; rw [e, hnew] at h'; cases h'
  refine ⟨_, f₂.drop fun a q => ⟨.inl q, hnf a q⟩, ⟨?_, fun a o h1 h2 h3 e => k₂ a o h2 (Heap.get?_push_of_some _ e), fun a hown => ?_⟩, rfl⟩
  · obtain ⟨h', tk, rfl⟩ := e₂
    exact ⟨h', tk, rfl⟩
  · obtain ⟨y, ys, hy, hy', rfl⟩ := hown
    rcases setV_own hy' with ⟨e1, _⟩ | ⟨e1, e2⟩
    · simp only [e1, if_true]; exact .inr hnew
    · simp only [if_neg e1]; exact .inl ⟨y, ys, hy, e2, rfl⟩
theorem own_x (hA : AOk A N) {ts es : List Expr} {xs : List Str} {tk ek : Nat} {tp ep pos : Pos} (f : FS cx G s₀ μ₀ pd κ env ρ oa s π) (ht : targets κ ts = some xs) (hxe : xs.length = es.length) (hx9 : xs.length < 9) (h1 : es.all isEmptyList = true) (h3 : 3 < xs.length) :
    wpAny (model prog w) A (exec (.Assign [.Tuple ts tk tp] (.Tuple es ek ep) pos) env) (PostX cx G s₀ μ₀ pd κ env ρ oa s .next (setAll ρ xs (xs.map fun _ => .own [])) π) E s := by
  obtain ⟨a1, a2, a3⟩ := assignOrder (env := env) ht
  obtain ⟨a4, a5⟩ := targets_fs (env := env) ht
  have hw : swappedStores [.Tuple ts tk tp] (.Tuple es ek ep) env = pure none := by
    have hl := targets_len ht
    have e2 : (!(ts.length == 2 || ts.length == 3)) = true := by
      simp only [Bool.not_eq_true', Bool.or_eq_false_iff, beq_eq_false_iff_ne]; omega
    show (if (!(ts.length == 2 || ts.length == 3) || es.length != ts.length || env.blockKind != .function) = true then _ else _) = _
    rw [if_pos (by rw [e2]; rfl)]
  refine Assign_Tuple (wpAny_Tuple (wpAny_mono (own_lists hA h1 f) (fun vs s₁ q => ?_) fun _ _ e => e)) rfl hw
  obtain ⟨as, rfl, hl, hnd', f1, hp, x1⟩ := q
  refine ⟨by rw [List.length_map, hl, sizeLine_eq]; omega, ?_⟩
  have x2 : Ext Non s₁ { s₁ with heap := s₁.heap.push { cls := .type "tuple", data := .seq (as.map Value.ref).toArray } } := Ext.push (t := s₁.toks)
  have f2 := f1.grow x2
  refine assign_Tuple_tuple hA.handled (items := (as.map Value.ref).toArray) ⟨_, Heap.get?_push_size _ rfl, rfl, 0, rfl⟩ (by rw [a1]; simp [hl, hxe]) a2 fun h' hb => ?_
  have x3 := Ext.but hb
  have f3 := f2.grow x3
  have x13 := x1.trans (x2.trans x3)
  refine own_store (as := as) a3 a4 a5 (by omega) hnd' f3 (fun a ha => ⟨.inr ha, ?_⟩) fun s' oa' pd' f' hpd e' k' hown => ?_
  · exact (hp a ha).2.at fun o e => (x2.trans x3).keep id e
  · refine ⟨oa', f'.drop fun a q => hpd a (.inl q) fun hm => ?_, ⟨?_, fun a o q1 q2 q3 e => k' a o q2 (x13.keep id e), fun a q => ?_⟩, rfl⟩
    · obtain ⟨_, _, o, e⟩ := f.pend a q
      rw [(hp a hm).1] at e; cases e
    · exact sames x13 e'
    · rcases hown a q with q | q
      · exact .inl q
      · exact .inr (hp a q).1
theorem tupv_x (SM : SoundM cx G N Φ) (hA : AOk A N) {ts es : List Expr} {xs ns : List Str} {ds : List D} {tk ek : Nat} {tp ep pos : Pos} (f : FS cx G s₀ μ₀ pd κ env ρ oa s π) (ht : targets κ ts = some xs) (hnd : xs.Nodup) (hxe : xs.length = es.length) (hx9 : xs.length < 9)
    (h1 : es.all noStar = true) (h2 : es.all (constantsAlone 8) = false) (h3 : es.all (foldedForSure 8) = false) (hds : evList (ev cf Φ 20 false κ (look (Mine.freeze ns ρ))) es π = some (ds, π')) :
    wpAny (model prog w) A (exec (.Assign [.Tuple ts tk tp] (.Tuple es ek ep) pos) env) (PostX cx G s₀ μ₀ pd κ env ρ oa s .next (setAll (Mine.freeze ns ρ) xs (ds.map .fz)) π') E s := by
  have f1 := f.freeze ns
  have hdl : ds.length = xs.length := by rw [evList_len hds, hxe]
  have ev1 : ∀ {Q : Value → Shared → Prop}, (∀ t vs s', FS cx G s₀ μ₀ pd κ env (Mine.freeze ns ρ) oa s' π' → Step G κ env ρ oa s (Mine.freeze ns ρ) oa s' → IsTup s'.heap t (List.toArray vs) → RdL G (muF μ₀ pd κ env (Mine.freeze ns ρ) oa) s'.heap ds vs → Q (.ref t) s') →
      wpAny (model prog w) A (eval (.Tuple es ek ep) env) Q E s := fun {Q} k => by
    refine wpAny_Tuple (wpAny_mono (list_sound ((ev_sound SM 20).1 κ _) hA h1 hds f1.evc f1.inv) (fun vs s₁ q => ?_) fun _ _ e => e)
    refine ⟨by rw [q.2.2.length, hdl, sizeLine_eq]; omega, ?_⟩
    have x2 : Ext Non s₁ { s₁ with heap := s₁.heap.push { cls := .type "tuple", data := .seq vs.toArray } } := Ext.push (t := s₁.toks)
    exact k _ vs _ ((f1.step q.1 q.2.1).grow x2) (f.tr f1 (Step.freeze _) (Step.ofExt (q.1.trans x2.wide))) ⟨_, Heap.get?_push_size _ rfl, rfl, 0, rfl⟩ (RdL.grow x2 q.2.2)
  rcases swapped_or (env := env) (k := tk) (k' := ek) (p := tp) (p' := ep) ht h2 h3 with hw | hw
  · refine Assign_Tuple (ev1 fun t vs s₁ f₁ st₁ hT r => wpAny_mono (tup_assign hA.handled ht hdl f₁ hT r) (fun _ s₂ q => ?_) fun _ _ e => e) rfl hw
    exact ⟨oa, q.1, f.tr f₁ st₁ q.2, rfl⟩
  · refine Assign_Tuple_swapped (ev1 fun t vs s₁ f₁ st₁ hT r => wpAny_mono (swap_assign hA.handled ht hnd hdl f₁ hT r) (fun items s₂ q => wpAny_mono q (fun _ s₃ q => ?_) fun _ _ e => e) fun _ _ e => e) rfl hw
    exact ⟨oa, q.1, f.tr f₁ st₁ q.2, rfl⟩
theorem tup1_x (SM : SoundM cx G N Φ) (hA : AOk A N) {ts es : List Expr} {xs : List Str} {tk ek : Nat} {tp ep pos : Pos} (f : FS cx G s₀ μ₀ pd κ env ρ oa s π) (ht : targets κ ts = some xs) (h : exTup1 cf Φ κ xs es ρ π = some (fl, ρ', π')) :
    wpAny (model prog w) A (exec (.Assign [.Tuple ts tk tp] (.Tuple es ek ep) pos) env) (PostX cx G s₀ μ₀ pd κ env ρ oa s fl ρ' π') E s := by
  refine o_if h fun hc h => o_ite h (fun hg h => x_ok h ?_) fun _ h => o_if h fun hg h => o_bndL h fun ds π₁ hds h => x_ok h ?_
  · simp only [Bool.and_eq_true, decide_eq_true_eq] at hg
    exact own_x hA f ht hc.2.1 hc.2.2 hg.1 hg.2
  · simp only [Bool.and_eq_true, Bool.not_eq_true'] at hg
    exact tupv_x SM hA f ht hc.1 hc.2.1 hc.2.2 hg.1.1 hg.1.2 hg.2 hds
theorem o_tup {γ : Type} {x : Option (D × List Int)} {k : List D → List Int → Option γ} {r : γ} {P : Prop} (h : (match x with | some (.tup b, p) => k b p | _ => none) = some r) (q : ∀ b p, x = some (.tup b, p) → k b p = some r → P) : P := by
  cases x with
  | none => exact o_no h
  | some p =>
    obtain ⟨d, p⟩ := p
    cases d with
    | tup b => exact q b p rfl h
    | _ => exact o_no h
theorem no_tup {e : Expr} {ts : List Expr} {tk l : Nat} {tp : Pos} (hne : ∀ es k p, e ≠ .Tuple es k p) : swappedStores [.Tuple ts tk tp] e env = pure none ∧ swapsWithSole [.Tuple ts tk tp] e l env = pure false := by
  cases e <;> first | exact ⟨rfl, rfl⟩ | exact absurd rfl (hne _ _ _)
theorem tup2_x (SM : SoundM cx G N Φ) (hA : AOk A N) {ts : List Expr} {e : Expr} {xs : List Str} {tk : Nat} {tp pos : Pos} (f : FS cx G s₀ μ₀ pd κ env ρ oa s π) (ht : targets κ ts = some xs) (hne : ∀ es k p, e ≠ .Tuple es k p) (h : exTup2 cf Φ κ xs e ρ π = some (fl, ρ', π')) :
    wpAny (model prog w) A (exec (.Assign [.Tuple ts tk tp] e pos) env) (PostX cx G s₀ μ₀ pd κ env ρ oa s fl ρ' π') E s := by
  refine o_if h fun _ h => o_tup h fun ds π₁ he h => o_if h fun hdl h => x_ok h (Assign_Tuple (f.goE SM hA he fun v s₁ f₁ st₁ r => ?_) (no_tup (l := pos.line) hne).2 (no_tup (l := pos.line) hne).1)
  simp only [Rd] at r
  obtain ⟨t, vs, rfl, hm, hT, r⟩ := r
  refine wpAny_mono (tup_assign hA.handled ht hdl f₁ hT r) (fun _ s₂ q => ?_) fun _ _ e => e
  exact ⟨oa, q.1, f.tr f₁ st₁ q.2, rfl⟩
theorem tup_x (SM : SoundM cx G N Φ) (hA : AOk A N) {ts : List Expr} {e : Expr} {tk : Nat} {tp pos : Pos} (f : FS cx G s₀ μ₀ pd κ env ρ oa s π) (h : exTup cf Φ κ ts e ρ π = some (fl, ρ', π')) :
    wpAny (model prog w) A (exec (.Assign [.Tuple ts tk tp] e pos) env) (PostX cx G s₀ μ₀ pd κ env ρ oa s fl ρ' π') E s := by
  unfold exTup at h
  cases ht : targets κ ts with
  | none => rw [ht] at h; exact o_no h
  | some xs =>
    rw [ht] at h
    by_cases hne : ∃ es k p, e = .Tuple es k p
    · obtain ⟨es, k, p, rfl⟩ := hne
      exact tup1_x SM hA f ht h
    · have hne' : ∀ es k p, e ≠ .Tuple es k p := fun es k p q => hne ⟨es, k, p, q⟩
      refine tup2_x SM hA f ht hne' ?_
      rw [← h]
      cases e <;> first | rfl | exact absurd rfl (hne' _ _ _)
theorem aug_x (SM : SoundM cx G N Φ) (hA : AOk A N) {x : Str} {xp : Pos} {op : Operator} {e : Expr} {pos : Pos} (f : FS cx G s₀ μ₀ pd κ env ρ oa s π) (h : exAug cf Φ κ x op e ρ π = some (fl, ρ', π')) :
    wpAny (model prog w) A (exec (.AugAssign (.Name x xp) op e pos) env) (PostX cx G s₀ μ₀ pd κ env ρ oa s fl ρ' π') E s := by
  refine o_if h fun hv h => ?_
  split at h
  · rename_i a b π₁ hx he
    have f1 := f.freeze (namesIn 9 e)
    obtain ⟨va, hb, ra⟩ := f1.evc.vars x _ (isSto_var hv) hx
    obtain ⟨ta, rfl⟩ := rd_int ra
    have fin : ∀ (i : Int), (∀ (t u : Tok) (s' : Shared) (Q : Value → Shared → Prop), Q (.int i s'.toks) { s' with toks := s'.toks + 1 } → wpAny (model prog w) A (inplaceOp op (.int a t) (.int b u)) Q E s') →
        wpAny (model prog w) A (exec (.AugAssign (.Name x xp) op e pos) env) (PostX cx G s₀ μ₀ pd κ env ρ oa s .next (setV (Mine.freeze (namesIn 9 e) ρ) x (.fz (.int i))) π₁) E s := fun i hop => by
      refine wpAny_AugAssign_Name (loadN_var f1.evc.kind (isVar_ok (isSto_var hv)) hb (f.goE SM hA he fun v s₁ f₁ st₁ r => ?_))
      obtain ⟨tb, rfl⟩ := rd_int r
      refine hop _ _ _ _ ?_
      have x2 : Ext Non s₁ { s₁ with toks := s₁.toks + 1 } := Ext.tok
      have f2 := f₁.grow x2
      refine f2.store hv (d := .int i) (by simp [Rd]) fun s₂ f₃ k₂ e₂ => ?_
      exact ⟨oa, f₃, f.tr f2 (f.tr f₁ st₁ (Step.ofExt x2.wide)) (Step.store k₂ e₂), rfl⟩
    cases op with
    | Add => exact x_ok h (fin (a + b) (fun t u s' Q k => P.iadd_int k))
    | Sub => exact x_ok h (fin (a - b) (fun t u s' Q k => P.isub_int k))
    | _ => exact o_no h
  · exact o_no h
theorem meth_inv {x m : Str} {xp ap cp : Pos} {args : List Expr} {z : Fl × Rho × List Int} {P : Prop} (h : exMeth cf Φ κ x xp m ap args cp ρ π = some z)
    (q1 : ∀ e xs d π₁, args = [e] → isVar κ x = true → m = Str.ofString "append" → noStar e = true → ap.endLine = cp.line → Mine.freeze (namesIn 9 e) ρ x = some (.own xs) → xs.length < 10000 → ev cf Φ 20 false κ (look (Mine.freeze (namesIn 9 e) ρ)) e π = some (d, π₁) →
      some (.next, setV (Mine.freeze (namesIn 9 e) ρ) x (.own (xs ++ [d])), π₁) = some z → P)
    (q2 : ∀ π₁, ev cf Φ 20 false κ (look ρ) (.Call (.Attribute (.Name x xp) m ap) args [] cp) π = some (.none, π₁) → some (.next, ρ, π₁) = some z → P) : P := by
  unfold exMeth at h
  split at h
  · refine o_if h fun hg h => ?_
    split at h
    · rename_i xs hx
      exact o_if h fun hz h => o_bnd h fun d π₁ he h => q1 _ xs d π₁ rfl hg.1 hg.2.1 hg.2.2.1 hg.2.2.2 hx hz he h
    · exact o_no h
  · split at h
    · exact q2 _ (by assumption) h
    · exact o_no h
theorem app_x (SM : SoundM cx G N Φ) (hA : AOk A N) {x : Str} {xp ap cp pos : Pos} {e : Expr} {ns : List Str} {xs : List D} {d : D} (f : FS cx G s₀ μ₀ pd κ env ρ oa s π) (hv : isVar κ x = true) (hn : noStar e = true) (hp : ap.endLine = cp.line) (hx : Mine.freeze ns ρ x = some (.own xs)) (hsz : xs.length < 10000)
    (he : ev cf Φ 20 false κ (look (Mine.freeze ns ρ)) e π = some (d, π')) :
    wpAny (model prog w) A (exec (.Expr (.Call (.Attribute (.Name x xp) (Str.ofString "append") ap) [e] [] cp) pos) env) (PostX cx G s₀ μ₀ pd κ env ρ oa s .next (setV (Mine.freeze ns ρ) x (.own (xs ++ [d]))) π') E s := by
  have f1 := f.freeze ns
  obtain ⟨o1, o2, o3, hb, ⟨vs, ⟨n, hg⟩, hr⟩, o6⟩ := f1.own x xs hv hx
  have hs : [e].all noStar = true := by simp [hn]
  refine wpAny_Expr ?_ (by simp [interactive, f.kind]) rfl
  rw [meth_eq (args := [e]) hs (by simp) hp _ rfl]
  refine wpAny_bind (load_var f1.evc.kind (isVar_ok hv) hb (wpAny_bind (wpAny_standAt (wpAny_bind (wpAny_holding (Calls.getMethod_list_append hg rfl rfl ?_))))))
  refine Calls.callWith_builtin (star_any hs) (evalArgs_spl (star_any hs) (args_cons (f.goE SM hA he fun v s₁ f₁ st₁ r => args_nil ?_) (star_cons hn)))
  obtain ⟨p1, p2, p3, pb, ⟨vs', hl, hr'⟩, p6⟩ := f₁.own x xs hv hx
  refine wpAny_list_append_plain hl (fun h' hl' hs' => ?_) (by rw [sizeLine_eq]; have := hr'.length; simp; omega)
  have f₂ := f₁.append hv hx r hr' (by simpa using hl') hs'
  have hown : ownAt κ (Mine.freeze ns ρ) oa (oa x) := ⟨x, xs, hv, hx, rfl⟩
  refine ⟨oa, f₂, f.tr f₁ st₁ ⟨⟨h', s₁.toks, rfl⟩, fun a o q1 q2 q3 e => (hs'.2 a fun q => q3 (q ▸ hown)).trans e, fun a q => ?_⟩, rfl⟩
  obtain ⟨y, ys, hy, hy', rfl⟩ := q
  rcases setV_own hy' with ⟨e1, _⟩ | ⟨_, e2⟩
  · subst e1; exact .inl hown
  · exact .inl ⟨y, ys, hy, e2, rfl⟩
theorem meth_x (SM : SoundM cx G N Φ) (hA : AOk A N) {x m : Str} {xp ap cp pos : Pos} {args : List Expr} (f : FS cx G s₀ μ₀ pd κ env ρ oa s π) (h : exMeth cf Φ κ x xp m ap args cp ρ π = some (fl, ρ', π')) :
    wpAny (model prog w) A (exec (.Expr (.Call (.Attribute (.Name x xp) m ap) args [] cp) pos) env) (PostX cx G s₀ μ₀ pd κ env ρ oa s fl ρ' π') E s := by
  refine meth_inv h (fun e xs d π₁ ha hv hm hn hp hx hz he h' => ?_) fun π₁ he h => x_ok h ?_
  · clear h
    subst ha hm
    exact x_ok h' (app_x SM hA f hv hn hp hx hz he)
  · refine wpAny_Expr (((ev_sound SM 20).1 κ _).go hA f.evc f.inv he fun v s' x I _ r => ?_) (by simp [interactive, f.kind]) rfl
    simp only [Rd] at r
    subst r
    exact ⟨oa, f.step x I, Step.ofExt x, rfl⟩
theorem path_inv {x a m : Str} {ap cp : Pos} {args : List Expr} {z : Fl × Rho × List Int} {P : Prop} (h : exPath cf Φ κ x a m ap args cp ρ π = some z)
    (q : isVar κ x = true → cf.fld a = some .path → ap.endLine = cp.line → look ρ x = some .game →
      ((∃ e i, args = [e] ∧ m = Str.ofString "append" ∧ noStar e = true ∧ π.length < 10000 ∧ ev cf Φ 20 false κ (look ρ) e π = some (.int i, π) ∧ some (.next, ρ, π ++ [i]) = some z) ∨
        (args = [] ∧ m = Str.ofString "pop" ∧ 0 < π.length ∧ π.length < 10000 ∧ some (.next, ρ, π.dropLast) = some z)) → P) : P := by
  refine o_if h fun hg h => ?_
  have hfd : cf.fld a = some .path := by
    have hf := hg.2.2.1
    cases q : cf.fld a with
    | none => rw [q] at hf; cases hf
    | some d => rw [q] at hf; cases d <;> first | rfl | cases hf
  split at h
  · rename_i hx
    refine q hg.1 hfd hg.2.2.2 hx ?_
    split at h
    · refine o_if h fun hg2 h => o_int h fun i π₁ he h => o_if h fun hpp h => ?_
      subst hpp
      exact .inl ⟨_, i, rfl, hg2.1, hg2.2.1, hg2.2.2, he, h⟩
    · exact o_if h fun hg2 h => .inr ⟨rfl, hg2.1, hg2.2.1, hg2.2.2, h⟩
    · exact o_no h
  · exact o_no h
theorem path_x (SM : SoundM cx G N Φ) (hA : AOk A N) {x a m : Str} {xp aap ap cp pos : Pos} {args : List Expr} (f : FS cx G s₀ μ₀ pd κ env ρ oa s π) (h : exPath cf Φ κ x a m ap args cp ρ π = some (fl, ρ', π')) :
    wpAny (model prog w) A (exec (.Expr (.Call (.Attribute (.Attribute (.Name x xp) a aap) m ap) args [] cp) pos) env) (PostX cx G s₀ μ₀ pd κ env ρ oa s fl ρ' π') E s := by
  refine path_inv h fun hv hfd hp hx h => ?_
  obtain ⟨v, hb, hr⟩ := f.evc.vars x _ hv hx
  obtain ⟨g, hG, rfl⟩ := rd_game hr
  have hP : PP G g.pa := ⟨g, hG, rfl⟩
  have hev : ∀ {Q : Value → Shared → Prop}, (∀ s₁, Ext (PP G) s s₁ → Inv cx G (muF μ₀ pd κ env ρ oa) s₁.heap π → FS cx G s₀ μ₀ pd κ env ρ oa s₁ π → Q (.ref g.pa) s₁) → wpAny (model prog w) A (eval (.Attribute (.Name x xp) a aap) env) Q E s := fun k =>
    Attribute_Name_ (load_var f.evc.kind (isVar_ok hv) hb (wpAny_mono (game_attr f.evc f.inv hG hfd) (fun v s₁ q => by
      obtain ⟨x1, I1, r1⟩ := q
      simp only [Rd] at r1
      obtain ⟨g', hG', rfl⟩ := r1
      rw [hG] at hG'; cases hG'
      exact k s₁ x1 I1 (f.step x1 I1)) fun _ _ e => e)) rfl
  rcases h with ⟨e, i, rfl, rfl, hn, hsz, he, h⟩ | ⟨rfl, rfl, hne, hsz, h⟩
  · have hs : [e].all noStar = true := by simp [hn]
    refine x_ok h (wpAny_Expr ?_ (by simp [interactive, f.kind]) rfl)
    rw [meth_eq' (args := [e]) (fun _ => rfl) hs (by simp) hp]
    refine wpAny_bind (hev fun s₁ x1 I1 fa1 => ?_)
    obtain ⟨vs, n, hpo, _⟩ := I1.path g hG
    refine wpAny_bind (wpAny_standAt (wpAny_bind (wpAny_holding (Calls.getMethod_list_append hpo rfl rfl ?_))))
    refine Calls.callWith_builtin (star_any hs) (evalArgs_spl (star_any hs) (args_cons (((ev_sound SM 20).1 κ _).go hA fa1.evc fa1.inv he fun v s₂ x2 I2 _ r => args_nil ?_) (star_cons hn)))
    have f₂ := fa1.step x2 I2
    obtain ⟨ti, rfl⟩ := rd_int r
    obtain ⟨vs', n', hpo', hI'⟩ := f₂.inv.path g hG
    refine wpAny_list_append_plain (items := vs'.toArray) ⟨n', hpo'⟩ (fun h' hl' hs' => ?_) (by rw [sizeLine_eq]; have := hI'.length; simp; omega)
    have I3 := f₂.inv.turnP hG hs' (π' := _ ++ [i]) (by obtain ⟨n3, e3⟩ := hl'; exact ⟨vs' ++ [.int i ti], n3, by simpa using e3, hI'.append (.cons i ti .nil)⟩)
    have x3 : Ext (PP G) s₂ { s₂ with heap := h' } := ⟨h', s₂.toks, rfl, fun a o hna e => (hs'.2 a fun q => hna (q ▸ hP)).trans e⟩
    exact ⟨oa, f₂.step x3 I3, Step.ofExt (x1.trans (x2.trans x3)), rfl⟩
  · refine x_ok h (wpAny_Expr ?_ (by simp [interactive, f.kind]) rfl)
    rw [meth_eq' (args := []) (fun _ => rfl) rfl (by simp) hp]
    refine wpAny_bind (hev fun s₁ x1 I1 f₁ => ?_)
    obtain ⟨vs, n, hpo, hI⟩ := I1.path g hG
    refine wpAny_bind (wpAny_standAt (wpAny_bind (wpAny_holding (getMethod_builtin ⟨_, hpo, rfl⟩ PySem.F.plainAttrs_list PySem.F.slot_list_pop PySem.F.type_list_pop (fun a e => by cases e; exact ⟨_, hpo, rfl⟩) ?_))))
    obtain ⟨y, ty, hy, hI'⟩ := ints_pop hI (by intro q; subst q; simp at hne)
    refine Calls.callWith_builtin rfl (evalArgs_spl rfl (args_nil ?_))
    have hlen := hI.length
    refine PyProof.Rows.Copied.pop_at (its := vs.toArray) (y := .int y ty) hpo (by simpa using hy) (fun h' hs' hl' => ?_) (by rw [sizeLine_eq]; simp; omega)
    have I3 := f₁.inv.turnP hG hs' (π' := π.dropLast) ⟨vs.dropLast, n + 1, by simpa using hl', hI'⟩
    have x3 : Ext (PP G) s₁ { s₁ with heap := h' } := ⟨h', s₁.toks, rfl, fun a o hna e => (hs'.2 a fun q => hna (q ▸ hP)).trans e⟩
    exact ⟨oa, f₁.step x3 I3, Step.ofExt (x1.trans x3), rfl⟩
theorem expr_inv {e : Expr} {z : Fl × Rho × List Int} {P : Prop} (h : exExpr cf Φ κ e ρ π = some z) (q1 : ∀ x xp m ap args cp, e = .Call (.Attribute (.Name x xp) m ap) args [] cp → exMeth cf Φ κ x xp m ap args cp ρ π = some z → P)
    (q2 : ∀ x xp a aap m ap args cp, e = .Call (.Attribute (.Attribute (.Name x xp) a aap) m ap) args [] cp → exPath cf Φ κ x a m ap args cp ρ π = some z → P) : P := by
  cases e with
  | Call fn args kws cp => cases kws with
    | cons => exact o_no h
    | nil => cases fn with
      | Attribute o m ap => cases o with
        | Name x xp => exact q1 x xp m ap args cp rfl h
        | Attribute o2 a aap => cases o2 with
          | Name x xp => exact q2 x xp a aap m ap args cp rfl h
          | _ => exact o_no h
        | _ => exact o_no h
      | _ => exact o_no h
  | _ => exact o_no h
theorem name_inv {α : Type} {t : Expr} {k : Str → Pos → Option α} {z : α} {P : Prop} (h : (match t with | .Name x p => k x p | _ => none) = some z) (q : ∀ x p, t = .Name x p → k x p = some z → P) : P := by
  cases t with
  | Name x p => exact q x p rfl h
  | _ => exact o_no h
end
theorem ex_sound (SM : SoundM cx G N Φ) : ∀ n κ, SndX cx G N (ex cf Φ n κ) κ := by
  intro n
  induction n with
  | zero => intro κ c ρ π fl ρ' π' h; exact o_no h
  | succ n ih =>
  intro κ c ρ π fl ρ' π' h prog w A env s₀ μ₀ pd oa s E hA f
  cases c with
  | If t b o pos => exact if_x (ih κ) SM hA f h
  | For tgt iter body orelse pos => cases tgt with
    | Name x xp => cases orelse with
      | nil => exact for_x (ih κ) SM hA f h
      | cons => exact o_no h
    | _ => exact o_no h
  | Return v pos => cases v with
    | some e => exact ret_x SM hA f h
    | none => exact o_no h
  | Assign ts e pos => cases ts with
    | nil => exact o_no h
    | cons t r => cases r with
      | cons => exact o_no h
      | nil => cases t with
        | Name x px => exact as_x SM hA f h
        | Tuple ts tk tp => exact tup_x SM hA f h
        | _ => exact o_no h
  | AugAssign t op e pos => cases t with
    | Name x xp => exact aug_x SM hA f h
    | _ => exact o_no h
  | Expr e pos => exact expr_inv h (fun x xp m ap args cp he h => by subst he; exact meth_x SM hA f h) fun x xp a aap m ap args cp he h => by subst he; exact path_x SM hA f h
  | Break pos => exact x_ok h (wpAny_Break ⟨oa, f, Step.refl s, rfl⟩)
  | _ => exact o_no h
end

theorem bindL_other {kd : Str → Option NameKind} {x : Str} : ∀ {ps : List Str} {vs : List Value} {m : Str → Option Value}, x ∉ ps → bindL kd (ps.zip vs) m x = m x
  | [], _, m, _ => by simp [bindL]
  | _ :: _, [], m, _ => by simp [bindL]
  | p :: ps, v :: vs, m, h => by
    simp only [List.zip_cons_cons, bindL]
    rw [bindL_other (fun q => h (List.mem_cons_of_mem _ q))]
    split
    · exact if_neg fun (e : x = p) => h (e ▸ List.mem_cons_self)
    · rfl
theorem bindC_other {kd : Str → Option NameKind} {x : Str} : ∀ {ps : List Str} {vs : List Value} {m : Str → Option Value}, x ∉ ps → bindC kd (ps.zip vs) m x = m x
  | [], _, m, _ => by simp [bindC]
  | _ :: _, [], m, _ => by simp [bindC]
  | p :: ps, v :: vs, m, h => by
    simp only [List.zip_cons_cons, bindC]
    rw [bindC_other (fun q => h (List.mem_cons_of_mem _ q))]
    split
    · rfl
    · exact if_neg fun (e : x = p) => h (e ▸ List.mem_cons_self)
theorem bindL_get {kd : Str → Option NameKind} {x : Str} {v : Value} (hk : kd x = some .local) : ∀ {ps : List Str} {vs : List Value} {m : Str → Option Value}, ps.Nodup → (ps.zip vs).lookup x = some v → bindL kd (ps.zip vs) m x = some v
  | [], _, m, _, h => by simp at h
  | _ :: _, [], m, _, h => by simp at h
  | p :: ps, w :: vs, m, hn, h => by
    have hn' := List.nodup_cons.mp hn
    simp only [List.zip_cons_cons, bindL]
    simp only [List.zip_cons_cons, List.lookup_cons] at h
    split at h
    · rename_i e
      have e := beq_iff_eq.mp e
      cases h; subst e
      rw [bindL_other hn'.1, if_pos hk, if_pos rfl]
    · exact bindL_get hk hn'.2 h
theorem bindC_get {kd : Str → Option NameKind} {x : Str} {v : Value} (hk : kd x = some .cell) : ∀ {ps : List Str} {vs : List Value} {m : Str → Option Value}, ps.Nodup → (ps.zip vs).lookup x = some v → bindC kd (ps.zip vs) m x = some v
  | [], _, m, _, h => by simp at h
  | _ :: _, [], m, _, h => by simp at h
  | p :: ps, w :: vs, m, hn, h => by
    have hn' := List.nodup_cons.mp hn
    simp only [List.zip_cons_cons, bindC]
    simp only [List.zip_cons_cons, List.lookup_cons] at h
    split at h
    · rename_i e
      have e := beq_iff_eq.mp e
      cases h; subst e
      rw [bindC_other hn'.1, if_neg (by rw [hk]; simp), if_pos rfl]
    · exact bindC_get hk hn'.2 h
theorem cellsFrom_acc {x : Str} : ∀ {names : List (Str × NameKind)} {n : Nat} {acc : List (Str × Addr)}, (acc.lookup x).isSome = true → ((cellsFrom n names acc).lookup x).isSome = true
  | [], _, _, h => h
  | (nm, kd) :: r, n, acc, h => by
    unfold cellsFrom
    split
    · refine cellsFrom_acc ?_
      rw [List.lookup_cons]
      split
      · rfl
      · exact h
    · exact cellsFrom_acc h
theorem cellsFrom_some {x : Str} : ∀ {names : List (Str × NameKind)} {n : Nat} {acc : List (Str × Addr)}, names.lookup x = some .cell → ((cellsFrom n names acc).lookup x).isSome = true
  | [], _, _, h => by simp at h
  | (nm, kd) :: r, n, acc, h => by
    unfold cellsFrom
    rw [List.lookup_cons] at h
    split at h
    · rename_i e
      cases h
      simp only [beq_self_eq_true, if_true]
      refine cellsFrom_acc ?_
      rw [List.lookup_cons, e]; rfl
    · split
      · exact cellsFrom_some h
      · exact cellsFrom_some h
theorem zip_look {G : Option Gm} {μ : Addr → Prop} {h : Heap} {x : Str} {d : D} : ∀ {ps : List Str} {ds : List D} {vs : List Value}, RdL G μ h ds vs → (ps.zip ds).lookup x = some d → ∃ v, (ps.zip vs).lookup x = some v ∧ Rd G μ h d v
  | [], _, _, _, e => by simp at e
  | _ :: _, [], _, _, e => by simp at e
  | p :: ps, d₀ :: ds, vs, r, e => by
    simp only [RdL] at r
    obtain ⟨v, vs', rfl, rv, rr⟩ := r
    simp only [List.zip_cons_cons, List.lookup_cons] at e ⊢
    split at e
    · cases e; exact ⟨v, rfl, rv⟩
    · exact zip_look rr e
theorem zip_key {α : Type} {x : Str} {d : α} : ∀ {ps : List Str} {ds : List α}, (ps.zip ds).lookup x = some d → x ∈ ps := fun {ps ds} h => (List.of_mem_zip (mem_of_lookup h)).1

section
variable {cf : Cf} {fns : Str → Option Fn}
variable {cx : Cx cf fns} {G : Option Gm}

theorem callF_sound : ∀ n, SoundM cx G n (callF cf fns n) := by
  intro n
  induction n with
  | zero => intro key args π d π' h; simp [callF] at h
  | succ n ih =>
    intro key args π d π' h a ha prog w A s μ vals E hA hbase hoff hlive hI hr
    obtain ⟨o, fd, F, hF, h1, h2, h3, h4, h5, h6, h7, h8, h9, h10, h11, h12, h13, h14, h15, h16⟩ := cx.fn key a ha
    simp only [callF, hF] at h
    split at h
    · rename_i hlen
      have hvl : vals.length = F.params.length := by rw [hr.length, hlen]
      refine wpAny_call (codeAny_call_cells (by have := hA.depth; omega) (hbase _ _ h1) h2 (cx.nolimit.keeps hbase) (h3.keeps hbase) h4 (h12 vals hvl) h8 (fun x hx => ?_) (fun s₁ ic => ?_) (by rw [h5]; exact h10) (by rw [h5]; exact h11) (by rw [h5]; exact h9))
      · have hm : x.1 ∈ F.params := (List.of_mem_zip (a := x.1) (b := x.2) hx).1
        rw [h5]
        rcases h14 _ hm with e | e
        · exact .inl e
        · exact .inr ⟨e, cellsFrom_some e⟩
      · generalize henv : callEnvC fd s.heap.objs.size a = env at ic ⊢
        have hAn : AOk (A.deeper env) n := ⟨hA.handled, by have := hA.depth; show A.depth + 1 + n < _; omega, by have := hA.units; show A.units + 3 + 16 * n + 16 < _; omega⟩
        have hloc : env.locals = s.heap.objs.size := by rw [← henv]; rfl
        have hkd : env.kindOf = fun y => F.scope.names.lookup y := by rw [← henv, ← h5]; rfl
        have hcells : env.cells = cellsFrom (s.heap.objs.size + 1) F.scope.names [] := by rw [← henv, ← h5]; rfl
        have hlen' : s.heap.objs.size ≤ env.locals := Nat.le_of_eq hloc.symm
        have hfresh : ∀ b, fa env b → s.heap.get? b = none := by
          rintro b (rfl | ⟨x, hx⟩)
          · exact Heap.get?_none_of_le hlen'
          · exact Heap.get?_none_of_le (Nat.le_of_lt (Nat.lt_of_le_of_lt hlen' (ic.above _ _ (mem_of_lookup hx))))
        have st : Stay μ (muF μ (fun _ => False) (fun y => F.scope.names.lookup y) env (rho₀ F.params args) (fun _ => 0)) s.heap s₁.heap := fun b o hm e => by
          refine ⟨?_, ic.toInCall.keep b o e⟩
          rintro (q | q | q | ⟨y, ys, _, hy, _⟩)
          · exact hm q
          · exact q
          · rw [hfresh b q] at e; cases e
          · unfold rho₀ at hy
            cases hz : (F.params.zip args).lookup y with
            | none => rw [hz] at hy; cases hy
            | some d => rw [hz] at hy; cases hy
        have hx : Ext Non s s₁ := by
          obtain ⟨h', tk, e⟩ := ic.toInCall.same
          refine ⟨h', tk, e, fun b o _ e' => ?_⟩
          have := ic.toInCall.keep b o e'
          rw [e] at this; exact this
        have fs : FS cx G s μ (fun _ => False) (fun y => F.scope.names.lookup y) env (rho₀ F.params args) (fun _ => 0) s₁ π := {
          kind := by rw [← henv]; show fd.scope.kind = _; rw [h5]; exact h9
          glob := by rw [← henv]; exact h6
          bi := by rw [← henv]; exact h7
          kk := fun x => by rw [hkd]
          kc := fun x q => by
            rcases q with q | q
            · rw [hcells]; exact Option.isSome_iff_exists.mp (cellsFrom_some q)
            · exact absurd q (h16 x)
          base := hbase
          off := hoff
          live0 := hlive
          pa0 := hI.sub
          ext := hx.wide
          ns := ⟨_, ic.toInCall.ns⟩
          cell := fun x c q => ⟨_, ic.cell x c q⟩
          inj := fun x y c q q' => name_of_addr ic.apart (mem_of_lookup q) (mem_of_lookup q')
          cne := fun x c q => Nat.ne_of_gt (ic.above _ _ (mem_of_lookup q))
          new := hfresh
          pend := fun a q => q.elim
          own := fun x xs _ hy => by
            unfold rho₀ at hy
            cases hz : (F.params.zip args).lookup x with
            | none => rw [hz] at hy; cases hy
            | some d => rw [hz] at hy; cases hy
          vars := fun x d hv hy => by
            unfold rho₀ at hy
            cases hz : (F.params.zip args).lookup x with
            | none => rw [hz] at hy; cases hy
            | some d' =>
              rw [hz] at hy; cases hy
              obtain ⟨v, hv', rv⟩ := zip_look hr hz
              refine ⟨v, ?_, Rd.stay st _ _ rv⟩
              unfold Bd
              rcases h14 x (zip_key hz) with e | e
              · have e' : env.kindOf x = some .local := by rw [hkd]; exact e
                rw [e']
                exact ⟨_, ic.toInCall.ns, bindL_get e' h13 hv'⟩
              · have e' : env.kindOf x = some .cell := by rw [hkd]; exact e
                rw [e']
                obtain ⟨c, hc⟩ := Option.isSome_iff_exists.mp (cellsFrom_some (n := s.heap.objs.size + 1) (acc := []) e)
                rw [← hcells] at hc
                exact ⟨c, hc, by have := ic.cell x c hc; rwa [bindC_get e' h13 hv'] at this⟩
          inv := hI.stay st fun g hg => by
            have hp : PP G g.pa := ⟨g, hg, rfl⟩
            obtain ⟨o, e⟩ := hI.at _ hp
            exact ⟨(hx.keep id e).trans e.symm, .inl (hI.sub _ hp)⟩ }
        have back : ∀ {ρ' oa' s' π'}, FS cx G s μ (fun _ => False) (fun y => F.scope.names.lookup y) env ρ' oa' s' π' → Ext (PP G) s s' ∧ Inv cx G μ s'.heap π' ∧ ∀ d v, Rd G (muF μ (fun _ => False) (fun y => F.scope.names.lookup y) env ρ' oa') s'.heap d v → Rd G μ s'.heap d v := by
          intro ρ' oa' s' π' f
          have st' : Stay (muF μ (fun _ => False) (fun y => F.scope.names.lookup y) env ρ' oa') μ s'.heap s'.heap := fun a o hm e => ⟨fun q => hm (.inl q), e⟩
          exact ⟨f.ext, f.inv.stay st' fun g hg => ⟨rfl, f.pa0 _ ⟨g, hg, rfl⟩⟩, fun d v r => Rd.stay st' d v r⟩
        split at h
        · rename_i d' ρ' π₁ hs
          cases h
          refine wpAny_mono (seq_sound (ex_sound ih 20 _) hAn hs fs) (fun fw s' q => ?_) fun _ _ e => e
          obtain ⟨oa', f', _, v, rfl, rv⟩ := q
          obtain ⟨b1, b2, b3⟩ := back f'
          exact ⟨b1, b2, b3 _ _ rv⟩
        · rename_i ρ' π₁ hs
          cases h
          refine wpAny_mono (seq_sound (ex_sound ih 20 _) hAn hs fs) (fun fw s' q => ?_) fun _ _ e => e
          obtain ⟨oa', f', _, q⟩ := q
          simp only [FlR] at q
          subst q
          obtain ⟨b1, b2, b3⟩ := back f'
          exact ⟨b1, b2, by simp [Rd]⟩
        · cases h
    · cases h
end

noncomputable def defOf : Stmt → List (Str × Fn)
  | .FunctionDef name args body _ _ _ scope _ _ _ => [(name, ⟨args.args.map (·.arg), body, scope⟩)]
  | .ClassDef name _ _ body _ _ _ _ _ _ _ => body.flatMap fun s => match s with
    | .FunctionDef nm args body _ _ _ scope _ _ _ => [(name ++ "." ++ nm, ⟨args.args.map (·.arg), body, scope⟩)]
    | _ => []
  | _ => []
noncomputable def tbl : List (Str × Fn) := PySem.Challenge.pw_nt0430_01.main.body.flatMap defOf
noncomputable def consts : List (Str × Int) := [("MATE", 32000), ("DRAW", 0), ("INFINITE", 32001), ("BOUND_UPPER", 1), ("BOUND_LOWER", 2), ("BOUND_EXACT", 3)]
noncomputable def keys : List Str := ["mated_in", "quiesce_window", "alpha_beta", "within", "alpha_beta_hard", "cutoff", "plain_quiesce", "end_value", "negamax", "negamax_line", "best_moves",
  "_law_START", "_law_at", "_law_digit", "_law_tree", "_law_up", "_law_node", "_law_levels", "_law_window", "_law_is_bound", "_law_cuts", "_law_first", "_law_root"]
noncomputable def meths : List Str := ["moves", "noisy", "make", "undo", "value", "key", "in_check", "is_draw", "is_noisy", "side"]
noncomputable def cfT (f : List (Str × D)) : Cf where
  gint := fun x => consts.lookup x
  gfun := fun x => if keys.contains x then some x else none
  meth := fun m => if meths.contains m then some ("TreeGame." ++ m) else none
  fld := fun x => if x = Str.ofString "path" then some .path else f.lookup x
noncomputable def fns : Str → Option Fn := fun k => tbl.lookup k
noncomputable def fn (k : Nat) : Fn := (tbl[k]?.map (·.2)).getD ⟨[], [], default⟩
noncomputable def kap (k : Nat) : Str → Option NameKind := fun y => (fn k).scope.names.lookup y

section
variable {cf : Cf} {Φ : Mean} {κ : Str → Option NameKind}
theorem ex_succ {n c ρ π} : ex cf Φ (n + 1) κ c ρ π = exS cf Φ (ex cf Φ n) κ c ρ π := rfl
theorem seqS_mono {f f' : Stmt → Rho → List Int → Option (Fl × Rho × List Int)} (h : ∀ c ρ π r, f c ρ π = some r → f' c ρ π = some r) : ∀ {cs ρ π r}, seqS f cs ρ π = some r → seqS f' cs ρ π = some r
  | [], _, _, _, e => e
  | c :: cs, ρ, π, r, e => by
    simp only [seqS] at e ⊢
    cases q : f c ρ π with
    | none => rw [q] at e; cases e
    | some t =>
      rw [q] at e
      rw [h _ _ _ _ q]
      obtain ⟨fl, ρ₁, π₁⟩ := t
      cases fl with
      | next => exact seqS_mono h e
      | brk => exact e
      | ret d => exact e
theorem loop_mono {f f' : D → Rho → List Int → Option (Fl × Rho × List Int)} (h : ∀ c ρ π r, f c ρ π = some r → f' c ρ π = some r) : ∀ {cs ρ π r}, loop f cs ρ π = some r → loop f' cs ρ π = some r
  | [], _, _, _, e => e
  | c :: cs, ρ, π, r, e => by
    simp only [loop] at e ⊢
    cases q : f c ρ π with
    | none => rw [q] at e; cases e
    | some t =>
      rw [q] at e
      rw [h _ _ _ _ q]
      obtain ⟨fl, ρ₁, π₁⟩ := t
      cases fl with
      | next => exact loop_mono h e
      | brk => exact e
      | ret d => exact e
theorem exS_mono {f f' : Ex} (h : ∀ κ c ρ π r, f κ c ρ π = some r → f' κ c ρ π = some r) {c : Stmt} {ρ : Rho} {π : List Int} {r} (e : exS cf Φ f κ c ρ π = some r) : exS cf Φ f' κ c ρ π = some r := by
  cases c
  case If t b o p =>
    change exIf cf Φ f κ t b o ρ π = some r at e
    change exIf cf Φ f' κ t b o ρ π = some r
    unfold exIf at e ⊢
    split at e
    · split at e
      · rename_i hc; simp only [hc, if_true]; exact seqS_mono (h κ) e
      · rename_i hc; simp only [hc]; exact seqS_mono (h κ) e
    · cases e
  case For tgt iter body orelse p =>
    cases tgt
    case Name x q =>
      cases orelse with
      | cons => cases e
      | nil =>
        change exFor cf Φ f κ x iter body ρ π = some r at e
        change exFor cf Φ f' κ x iter body ρ π = some r
        unfold exFor at e ⊢
        split at e
        · rename_i hc
          rw [if_pos hc]
          split at e
          · cases e
          · split at e
            · cases e
            · exact loop_mono (fun _ _ _ _ q => seqS_mono (h κ) q) e
        · cases e
    all_goals (change none = some _ at e; cases e)
  all_goals exact e
theorem ex_mono : ∀ {n : Nat} {κ c ρ π r}, ex cf Φ n κ c ρ π = some r → ex cf Φ (n + 1) κ c ρ π = some r
  | 0, _, _, _, _, _, e => by simp [ex] at e
  | n + 1, κ, c, ρ, π, r, e => exS_mono (f := ex cf Φ n) (f' := ex cf Φ (n + 1)) (fun _ _ _ _ _ q => ex_mono q) e

theorem seqS_append {f : Stmt → Rho → List Int → Option (Fl × Rho × List Int)} : ∀ {a b : List Stmt} {ρ π}, seqS f (a ++ b) ρ π = match seqS f a ρ π with
    | some (.next, ρ₁, π₁) => seqS f b ρ₁ π₁
    | x => x
  | [], b, ρ, π => rfl
  | c :: a, b, ρ, π => by
    simp only [List.cons_append, seqS]
    cases q : f c ρ π with
    | none => rfl
    | some t =>
      obtain ⟨fl, ρ₁, π₁⟩ := t
      cases fl with
      | next => exact seqS_append
      | brk => rfl
      | ret d => rfl

noncomputable abbrev Kp := Fl → Rho → List Int → Prop
/-- the run of cs ends, in K -/
noncomputable def W (cf : Cf) (Φ : Mean) (κ : Str → Option NameKind) (n : Nat) (cs : List Stmt) (K : Kp) (ρ : Rho) (π : List Int) : Prop :=
  ∃ fl ρ' π', seqS (ex cf Φ n κ) cs ρ π = some (fl, ρ', π') ∧ K fl ρ' π'

theorem W.mono {n cs K K' ρ π} (h : W cf Φ κ n cs K ρ π) (k : ∀ fl ρ π, K fl ρ π → K' fl ρ π) : W cf Φ κ n cs K' ρ π := by
  obtain ⟨fl, ρ', π', e, q⟩ := h
  exact ⟨fl, ρ', π', e, k _ _ _ q⟩
theorem W.up {n cs K ρ π} (h : W cf Φ κ n cs K ρ π) : W cf Φ κ (n + 1) cs K ρ π := by
  obtain ⟨fl, ρ', π', e, q⟩ := h
  exact ⟨fl, ρ', π', seqS_mono (fun _ _ _ _ q => ex_mono q) e, q⟩
theorem W_nil {n K ρ π} (h : K .next ρ π) : W cf Φ κ n [] K ρ π := ⟨_, _, _, rfl, h⟩
/-- one statement that goes on -/
theorem W_step {n c cs K ρ π ρ₁ π₁} (e : exS cf Φ (ex cf Φ n) κ c ρ π = some (.next, ρ₁, π₁)) (h : W cf Φ κ (n + 1) cs K ρ₁ π₁) : W cf Φ κ (n + 1) (c :: cs) K ρ π := by
  obtain ⟨fl, ρ', π', e', q⟩ := h
  refine ⟨fl, ρ', π', ?_, q⟩
  simp only [seqS]
  rw [show ex cf Φ (n + 1) κ c ρ π = some (.next, ρ₁, π₁) from e]
  exact e'
theorem W_ret {n e p cs K ρ π d π₁} (h : ev cf Φ 20 false κ (look (freeze (namesIn 9 e) ρ)) e π = some (d, π₁)) (k : K (.ret d) (freeze (namesIn 9 e) ρ) π₁) : W cf Φ κ (n + 1) (.Return (some e) p :: cs) K ρ π := by
  refine ⟨_, _, _, ?_, k⟩
  simp only [seqS]
  have : ex cf Φ (n + 1) κ (.Return (some e) p) ρ π = some (.ret d, freeze (namesIn 9 e) ρ, π₁) := by
    rw [ex_succ]
    show exRet cf Φ κ e ρ π = _
    unfold exRet
    rw [h]
  rw [this]
theorem W_brk {n p cs K ρ π} (k : K .brk ρ π) : W cf Φ κ (n + 1) (.Break p :: cs) K ρ π := ⟨_, _, _, rfl, k⟩
theorem W_if {n t b o p cs K ρ π c π₁} (e : ev cf Φ 20 true κ (look (freeze (namesIn 9 t) ρ)) t π = some (.bool c, π₁))
    (h1 : c = true → W cf Φ κ n (b ++ cs) K (freeze (namesIn 9 t) ρ) π₁) (h2 : c = false → W cf Φ κ n (o ++ cs) K (freeze (namesIn 9 t) ρ) π₁) : W cf Φ κ (n + 1) (.If t b o p :: cs) K ρ π := by
  have main : ∀ bb, W cf Φ κ n (bb ++ cs) K (freeze (namesIn 9 t) ρ) π₁ → ex cf Φ (n + 1) κ (.If t b o p) ρ π = seqS (ex cf Φ n κ) bb (freeze (namesIn 9 t) ρ) π₁ → W cf Φ κ (n + 1) (.If t b o p :: cs) K ρ π := by
    rintro bb ⟨fl, ρ', π', e', q⟩ hx
    refine ⟨fl, ρ', π', ?_, q⟩
    simp only [seqS]
    rw [hx]
    rw [seqS_append] at e'
    cases z : seqS (ex cf Φ n κ) bb (freeze (namesIn 9 t) ρ) π₁ with
    | none => rw [z] at e'; cases e'
    | some r =>
      obtain ⟨fl₁, ρ₁, π₂⟩ := r
      rw [z] at e'
      cases fl₁ with
      | next => exact seqS_mono (fun _ _ _ _ q => ex_mono q) e'
      | brk => exact e'
      | ret d => exact e'
  have hx : ex cf Φ (n + 1) κ (.If t b o p) ρ π = if c then seqS (ex cf Φ n κ) b (freeze (namesIn 9 t) ρ) π₁ else seqS (ex cf Φ n κ) o (freeze (namesIn 9 t) ρ) π₁ := by
    rw [ex_succ]
    show exIf cf Φ _ κ t b o ρ π = _
    unfold exIf
    rw [e]
  cases c with
  | true => exact main b (h1 rfl) (by rw [hx]; rfl)
  | false => exact main o (h2 rfl) (by rw [hx]; rfl)
theorem W_as {n x px e p cs K ρ π d π₁} (hx : isSto κ x = true) (hne : isEmptyList e = false) (h : ev cf Φ 20 false κ (look (freeze (namesIn 9 e) ρ)) e π = some (d, π₁))
    (k : W cf Φ κ (n + 1) cs K (setV (freeze (namesIn 9 e) ρ) x (.fz d)) π₁) : W cf Φ κ (n + 1) (.Assign [.Name x px] e p :: cs) K ρ π := by
  refine W_step (ρ₁ := setV (freeze (namesIn 9 e) ρ) x (.fz d)) (π₁ := π₁) ?_ k
  show exAs cf Φ κ x e ρ π = _
  unfold exAs
  rw [if_pos hx, if_neg (by rw [hne]; simp), h]
theorem W_new {n x px q p cs K ρ π} (hx : isSto κ x = true) (k : W cf Φ κ (n + 1) cs K (setV ρ x (.own [])) π) : W cf Φ κ (n + 1) (.Assign [.Name x px] (.List [] q) p :: cs) K ρ π := by
  refine W_step ?_ k
  show exAs cf Φ κ x (.List [] q) ρ π = _
  unfold exAs
  rw [if_pos hx]; rfl
theorem W_aug {n x px op e p cs K ρ π a b r π₁} (hx : isSto κ x = true) (ha : look (freeze (namesIn 9 e) ρ) x = some (.int a)) (h : ev cf Φ 20 false κ (look (freeze (namesIn 9 e) ρ)) e π = some (.int b, π₁))
    (hr : binop op (.int a) (.int b) = some (.int r)) (ho : op = .Add ∨ op = .Sub) (k : W cf Φ κ (n + 1) cs K (setV (freeze (namesIn 9 e) ρ) x (.fz (.int r))) π₁) : W cf Φ κ (n + 1) (.AugAssign (.Name x px) op e p :: cs) K ρ π := by
  refine W_step ?_ k
  rcases ho with rfl | rfl
  · cases hr; show exAug cf Φ κ x .Add e ρ π = _; unfold exAug; rw [if_pos hx, ha, h]
  · cases hr; show exAug cf Φ κ x .Sub e ρ π = _; unfold exAug; rw [if_pos hx, ha, h]
theorem W_app {n x xp ap cp e p cs K ρ π xs d π₁} (hx : freeze (namesIn 9 e) ρ x = some (.own xs)) (hv : isVar κ x = true) (hn : noStar e = true) (hp : ap.endLine = cp.line) (hl : xs.length < 10000)
    (h : ev cf Φ 20 false κ (look (freeze (namesIn 9 e) ρ)) e π = some (d, π₁)) (k : W cf Φ κ (n + 1) cs K (setV (freeze (namesIn 9 e) ρ) x (.own (xs ++ [d]))) π₁) :
    W cf Φ κ (n + 1) (.Expr (.Call (.Attribute (.Name x xp) (Str.ofString "append") ap) [e] [] cp) p :: cs) K ρ π := by
  refine W_step ?_ k
  have h0 : ρ x = some (.own xs) := (freeze_own hx).1
  show exMeth cf Φ κ x xp (Str.ofString "append") ap [e] cp ρ π = _
  unfold exMeth
  simp only [h0, hv, hn, hp, hx, h, hl, and_self, if_true]
theorem W_call {n x xp m ap cp args p cs K ρ π π₁} (hx : ∀ xs, ρ x ≠ some (.own xs)) (h : ev cf Φ 20 false κ (look ρ) (.Call (.Attribute (.Name x xp) m ap) args [] cp) π = some (.none, π₁)) (k : W cf Φ κ (n + 1) cs K ρ π₁) :
    W cf Φ κ (n + 1) (.Expr (.Call (.Attribute (.Name x xp) m ap) args [] cp) p :: cs) K ρ π := by
  refine W_step ?_ k
  show exMeth cf Φ κ x xp m ap args cp ρ π = _
  unfold exMeth
  split
  · rename_i h1; exact absurd h1 (hx _)
  · rw [h]
theorem W_for {n x px iter body p cs K ρ π d π₁ items} (hx : (isSto κ x && noSet iter) = true) (he : ev cf Φ 20 false κ (look (freeze (namesIn 9 iter) ρ)) iter π = some (d, π₁)) (hi : itemsOf d = some items)
    (I : List D → Rho → List Int → Prop) (h0 : I items (freeze (namesIn 9 iter) ρ) π₁)
    (hs : ∀ v rest ρ π, I (v :: rest) ρ π → W cf Φ κ n body (fun fl ρ' π' => match fl with
      | .next => I rest ρ' π'
      | .brk => W cf Φ κ (n + 1) cs K ρ' π'
      | .ret d => K (.ret d) ρ' π') (setV ρ x (.fz v)) π)
    (hend : ∀ ρ π, I [] ρ π → W cf Φ κ (n + 1) cs K ρ π) : W cf Φ κ (n + 1) (.For (.Name x px) iter body [] p :: cs) K ρ π := by
  have main : ∀ items ρ π, I items ρ π → ∃ fl ρ' π', loop (fun v ρ π => seqS (ex cf Φ n κ) body (setV ρ x (.fz v)) π) items ρ π = some (fl, ρ', π') ∧
      ((fl = .next ∧ W cf Φ κ (n + 1) cs K ρ' π') ∨ ∃ d, fl = .ret d ∧ K (.ret d) ρ' π') := by
    intro items
    induction items with
    | nil => intro ρ π h; exact ⟨_, _, _, rfl, .inl ⟨rfl, hend _ _ h⟩⟩
    | cons v rest ih =>
      intro ρ π h
      obtain ⟨fl, ρ', π', e, q⟩ := hs v rest ρ π h
      simp only [loop]
      rw [e]
      cases fl with
      | next => exact ih ρ' π' q
      | brk => exact ⟨_, _, _, rfl, .inl ⟨rfl, q⟩⟩
      | ret d => exact ⟨_, _, _, rfl, .inr ⟨d, rfl, q⟩⟩
  obtain ⟨fl, ρ', π', e, q⟩ := main items _ _ h0
  have hx' : ex cf Φ (n + 1) κ (.For (.Name x px) iter body [] p) ρ π = some (fl, ρ', π') := by
    rw [ex_succ]
    show exFor cf Φ _ κ x iter body ρ π = _
    unfold exFor
    rw [if_pos hx, he]
    dsimp only
    rw [hi]
    exact e
  rcases q with ⟨rfl, q⟩ | ⟨d, rfl, q⟩
  · exact W_step hx' q
  · refine ⟨_, _, _, ?_, q⟩
    simp only [seqS]
    rw [hx']
theorem call_W {fns : Str → Option Fn} {n key F args π d π'} (hk : fns key = some F) (hl : args.length = F.params.length)
    (h : W cf (callF cf fns n) (fun y => F.scope.names.lookup y) 20 F.body (fun fl _ π₁ => π₁ = π' ∧ ((fl = .ret d) ∨ (fl = .next ∧ d = .none))) (rho₀ F.params args) π) : callF cf fns (n + 1) key args π = some (d, π') := by
  obtain ⟨fl, ρ', π₁, e, rfl, q⟩ := h
  simp only [callF, hk, if_pos hl]
  rw [e]
  rcases q with rfl | ⟨rfl, rfl⟩ <;> rfl
end

section
variable {cf : Cf} {Φ : Mean} {κ : Str → Option NameKind} {ρ : Str → Option D} {n : Nat} {π : List Int}
theorem ev_succ {e} : ev cf Φ (n + 1) false κ ρ e π = evV cf Φ (ev cf Φ n) κ ρ e π := rfl
theorem e_int {i k p} : ev cf Φ (n + 1) false κ ρ (.Constant (.int i) k p) π = some (.int i, π) := rfl
theorem e_bool {i k p} : ev cf Φ (n + 1) false κ ρ (.Constant (.bool i) k p) π = some (.bool i, π) := rfl
theorem e_none {k p} : ev cf Φ (n + 1) false κ ρ (.Constant .none k p) π = some (.none, π) := rfl
theorem e_var {x p} (h : isVar κ x = true) : ev cf Φ (n + 1) false κ ρ (.Name x p) π = (ρ x).map (·, π) := by
  show (if isVar κ x = true then (ρ x).map (·, π) else if isGlob κ x = true then (cf.gint x).map fun i => (D.int i, π) else none) = _
  rw [if_pos h]
theorem e_glob {x p} (h : isVar κ x = false) (h' : isGlob κ x = true) : ev cf Φ (n + 1) false κ ρ (.Name x p) π = (cf.gint x).map fun i => (.int i, π) := by
  show (if isVar κ x = true then (ρ x).map (·, π) else if isGlob κ x = true then (cf.gint x).map fun i => (D.int i, π) else none) = _
  rw [if_neg (by rw [h]; simp), if_pos h']
theorem e_bin {l op r p} : ev cf Φ (n + 1) false κ ρ (.BinOp l op r p) π = (match ev cf Φ n false κ ρ l π with
    | none => none
    | some (a, π₁) => match ev cf Φ n false κ ρ r π₁ with
      | none => none
      | some (b, π₂) => (binop op a b).map (·, π₂)) := rfl
theorem e_usub {x p} : ev cf Φ (n + 1) false κ ρ (.UnaryOp .USub x p) π = (match ev cf Φ n false κ ρ x π with
    | some (.int i, π₁) => some (.int (-i), π₁)
    | _ => none) := rfl
theorem e_not {x p} : ev cf Φ (n + 1) false κ ρ (.UnaryOp .Not x p) π = (match ev cf Φ n false κ ρ x π with
    | some (a, π₁) => (truth a).map fun b => (.bool (!b), π₁)
    | none => none) := rfl
theorem e_boolop {op es p} : ev cf Φ (n + 1) false κ ρ (.BoolOp op es p) π = evBools (ev cf Φ n false κ ρ) op es π := rfl
theorem e_cmp {l op r p} (h : behindInMarks op r = false) : ev cf Φ (n + 1) false κ ρ (.Compare l [op] [r] p) π = (match ev cf Φ n false κ ρ l π with
    | none => none
    | some (a, π₁) => match ev cf Φ n false κ ρ r π₁ with
      | none => none
      | some (b, π₂) => (cmpop op a b).map (·, π₂)) := by
  show evCmp (ev cf Φ n) κ ρ l [op] [r] π = _
  unfold evCmp
  show (if behindInMarks op r = true then _ else _) = _
  rw [if_neg (by rw [h]; simp)] <;> rfl
theorem e_ife {t a b p} : ev cf Φ (n + 1) false κ ρ (.IfExp t a b p) π = (match ev cf Φ n true κ ρ t π with
    | some (.bool c, π₁) => if c then ev cf Φ n false κ ρ a π₁ else ev cf Φ n false κ ρ b π₁
    | _ => none) := rfl
theorem e_call {f fp args p} (h : (isGlob κ f && args.all noStar && decide (args.length < 20)) = true) : ev cf Φ (n + 1) false κ ρ (.Call (.Name f fp) args [] p) π = (match evList (ev cf Φ n false κ ρ) args π with
      | none => none
      | some (ds, π₁) => match cf.gfun f with
        | some key => Φ key ds π₁
        | none => (builtin f ds π₁).map (·, π₁)) := by
  show evName cf Φ (ev cf Φ n) κ ρ f args π = _
  unfold evName
  rw [if_pos h] <;> rfl
theorem e_meth {x xp m ap args cp} (h : (isVar κ x && args.all noStar && decide (args.length < 20) && ap.endLine == cp.line) = true) : ev cf Φ (n + 1) false κ ρ (.Call (.Attribute (.Name x xp) m ap) args [] cp) π =
    (match ρ x, cf.meth m with
      | some .game, some key => match evList (ev cf Φ n false κ ρ) args π with
        | none => none
        | some (ds, π₁) => Φ key (.game :: ds) π₁
      | _, _ => none) := by
  show evMeth cf Φ (ev cf Φ n) κ ρ x m ap cp args π = _
  unfold evMeth
  rw [if_pos h] <;> rfl
theorem e_attr {x xp m ap} (h : isVar κ x = true) : ev cf Φ (n + 1) false κ ρ (.Attribute (.Name x xp) m ap) π = (match ρ x with
    | some .game => (cf.fld m).map (·, π)
    | _ => none) := by
  show (if isVar κ x = true then _ else _) = _
  rw [if_pos h] <;> rfl
theorem e_sub {v s p} (h : noSlice s = true) : ev cf Φ (n + 1) false κ ρ (.Subscript v s p) π = (match ev cf Φ n false κ ρ v π with
    | none => none
    | some (a, π₁) => match ev cf Φ n false κ ρ s π₁ with
      | none => none
      | some (b, π₂) => (item a b π₂).map (·, π₂)) := by
  show (if noSlice s = true then _ else _) = _
  rw [if_pos h] <;> rfl
theorem e_list {es p} (h : (es.all noStar && decide (es.length < 1000)) = true) : ev cf Φ (n + 1) false κ ρ (.List es p) π = (match evList (ev cf Φ n false κ ρ) es π with
    | none => none
    | some (ds, π₁) => some (.list ds, π₁)) := by
  show (if (es.all noStar && decide (es.length < 1000)) = true then _ else _) = _
  rw [if_pos h] <;> rfl
theorem e_tup {es k p} (h : (es.all noStar && decide (es.length < 1000)) = true) : ev cf Φ (n + 1) false κ ρ (.Tuple es k p) π = (match evList (ev cf Φ n false κ ρ) es π with
    | none => none
    | some (ds, π₁) => some (.tup ds, π₁)) := by
  show (if (es.all noStar && decide (es.length < 1000)) = true then _ else _) = _
  rw [if_pos h] <;> rfl
theorem t_not {x p} : ev cf Φ (n + 1) true κ ρ (.UnaryOp .Not x p) π = (match ev cf Φ n true κ ρ x π with
    | some (.bool b, π₁) => some (.bool (!b), π₁)
    | _ => none) := rfl
theorem t_boolop {op es p} : ev cf Φ (n + 1) true κ ρ (.BoolOp op es p) π = evAlls (ev cf Φ n true κ ρ) op es π := rfl
theorem t_plain {e} (h : plainTest e = true) : ev cf Φ (n + 1) true κ ρ e π = (match ev cf Φ n false κ ρ e π with
    | some (d, π₁) => (truth d).map fun b => (.bool b, π₁)
    | none => none) := by
  show evT (ev cf Φ n) κ ρ e π = _
  cases e <;> first | rfl | cases h
theorem alls_nil {f : Expr → List Int → Option (D × List Int)} : evAlls f .And [] π = some (.bool true, π) := rfl
theorem alls_nil' {f : Expr → List Int → Option (D × List Int)} : evAlls f .Or [] π = some (.bool false, π) := rfl
theorem alls_and {f : Expr → List Int → Option (D × List Int)} {e r} : evAlls f .And (e :: r) π = (match f e π with
    | some (.bool b, π₁) => if b = true then evAlls f .And r π₁ else some (.bool false, π₁)
    | _ => none) := by
  simp only [evAlls]
  cases f e π with
  | none => rfl
  | some q =>
    obtain ⟨d, π₁⟩ := q
    cases d <;> first | rfl | (rename_i b; cases b <;> rfl)
theorem alls_or {f : Expr → List Int → Option (D × List Int)} {e r} : evAlls f .Or (e :: r) π = (match f e π with
    | some (.bool b, π₁) => if b = true then some (.bool true, π₁) else evAlls f .Or r π₁
    | _ => none) := by
  simp only [evAlls]
  cases f e π with
  | none => rfl
  | some q =>
    obtain ⟨d, π₁⟩ := q
    cases d <;> first | rfl | (rename_i b; cases b <;> rfl)
theorem bools_one {f : Expr → List Int → Option (D × List Int)} {op e} : evBools f op [e] π = f e π := rfl
theorem bools_and {f : Expr → List Int → Option (D × List Int)} {e e' r} : evBools f .And (e :: e' :: r) π = (match f e π with
    | none => none
    | some (d, π₁) => match truth d with
      | none => none
      | some b => if b = true then evBools f .And (e' :: r) π₁ else some (d, π₁)) := by
  simp only [evBools]
  cases f e π with
  | none => rfl
  | some q => 
    obtain ⟨d, π₁⟩ := q
    dsimp only
    cases truth d with
    | none => rfl
    | some b => cases b <;> rfl
theorem bools_or {f : Expr → List Int → Option (D × List Int)} {e e' r} : evBools f .Or (e :: e' :: r) π = (match f e π with
    | none => none
    | some (d, π₁) => match truth d with
      | none => none
      | some b => if b = true then some (d, π₁) else evBools f .Or (e' :: r) π₁) := by
  simp only [evBools]
  cases f e π with
  | none => rfl
  | some q => 
    obtain ⟨d, π₁⟩ := q
    dsimp only
    cases truth d with
    | none => rfl
    | some b => cases b <;> rfl
theorem ite_and {b c : Bool} : (if b = true then some (D.bool c, π) else some (D.bool false, π)) = some (.bool (b && c), π) := by cases b <;> rfl
theorem ite_or {b c : Bool} : (if b = true then some (D.bool true, π) else some (D.bool c, π)) = some (.bool (b || c), π) := by cases b <;> rfl
theorem ite_and' {b c : Bool} : (if b = true then some (D.bool c, π) else some (D.bool b, π)) = some (.bool (b && c), π) := by cases b <;> rfl
theorem ite_or' {b c : Bool} : (if b = true then some (D.bool b, π) else some (D.bool c, π)) = some (.bool (b || c), π) := by cases b <;> rfl
theorem map_some {α β : Type} {f : α → β} {a : α} : (some a).map f = some (f a) := rfl
theorem tr_bool {b : Bool} : truth (.bool b) = some b := rfl
theorem look_eq {ρ : Rho} {x : Str} : look ρ x = (match ρ x with
  | some (.fz d) => some d
  | _ => none) := rfl
theorem freeze_eq {ρ : Rho} {ns : List Str} {y : Str} : freeze ns ρ y = (match ρ y with
  | some (.own xs) => if ns.contains y then some (.fz (.list xs)) else some (.own xs)
  | r => r) := rfl
theorem setV_eq {ρ : Rho} {x y : Str} {lv : LV} : setV ρ x lv y = if y = x then some lv else ρ y := rfl
theorem b_add {a b : Int} : binop .Add (.int a) (.int b) = some (.int (a + b)) := rfl
theorem b_sub {a b : Int} : binop .Sub (.int a) (.int b) = some (.int (a - b)) := rfl
theorem b_fdiv {a b : Int} (h : 0 < b ∧ b ≤ 10 ^ 20) : binop .FloorDiv (.int a) (.int b) = some (.int (Int.fdiv a b)) := by
  show (if _ then _ else _) = _
  rw [if_pos h]
theorem b_mod {a b : Int} (h : ¬ b = 0) : binop .Mod (.int a) (.int b) = some (.int (Int.fmod a b)) := by
  show (if _ then _ else _) = _
  rw [if_neg h]
theorem c_in {a b c : Int} : cmpop .In (.int a) (.tup [.int b, .int c]) = some (.bool (decide (a = b) || decide (a = c))) := rfl
theorem c_eqb {a b : Bool} : cmpop .Eq (.bool a) (.bool b) = some (.bool (a == b)) := rfl
theorem ite_bool {b x y : Bool} : (if b = true then some (D.bool x, π) else some (D.bool y, π)) = some (.bool (if b = true then x else y), π) := by cases b <;> rfl
theorem ite_int {b : Bool} {x y : Int} : (if b = true then some (D.int x, π) else some (D.int y, π)) = some (.int (if b = true then x else y), π) := by cases b <;> rfl
theorem c_lt {a b : Int} : cmpop .Lt (.int a) (.int b) = some (.bool (decide (a < b))) := rfl
theorem c_le {a b : Int} : cmpop .LtE (.int a) (.int b) = some (.bool (decide (a ≤ b))) := rfl
theorem c_gt {a b : Int} : cmpop .Gt (.int a) (.int b) = some (.bool (decide (a > b))) := rfl
theorem c_ge {a b : Int} : cmpop .GtE (.int a) (.int b) = some (.bool (decide (a ≥ b))) := rfl
theorem c_eq {a b : Int} : cmpop .Eq (.int a) (.int b) = some (.bool (decide (a = b))) := rfl
theorem c_ne {a b : Int} : cmpop .NotEq (.int a) (.int b) = some (.bool (!decide (a = b))) := rfl
theorem g_mate {f} : (cfT f).gint (Str.ofString "MATE") = some 32000 := rfl
theorem g_draw {f} : (cfT f).gint (Str.ofString "DRAW") = some 0 := rfl
theorem g_inf {f} : (cfT f).gint (Str.ofString "INFINITE") = some 32001 := rfl
theorem g_up {f} : (cfT f).gint (Str.ofString "BOUND_UPPER") = some 1 := rfl
theorem g_lo {f} : (cfT f).gint (Str.ofString "BOUND_LOWER") = some 2 := rfl
theorem g_ex {f} : (cfT f).gint (Str.ofString "BOUND_EXACT") = some 3 := rfl
theorem e_comp {elt iter ifs x xp scope p d π₁ π₂ items ds} (h : (scopeOk κ x scope && noSet iter) = true) (hi : ev cf Φ n false κ ρ iter π = some (d, π₁)) (hit : itemsOf d = some items)
    (hgo : compGo (fun v => tests (ev cf Φ n true (fun y => scope.names.lookup y) (fun y => if y = x then some v else if isFree (fun y => scope.names.lookup y) y then ρ y else none)) ifs)
      (fun v => ev cf Φ n false (fun y => scope.names.lookup y) (fun y => if y = x then some v else if isFree (fun y => scope.names.lookup y) y then ρ y else none) elt) items π₁ = some (ds, π₂)) :
    ev cf Φ (n + 1) false κ ρ (.ListComp elt [⟨.Name x xp, iter, ifs, 0⟩] scope p) π = some (.list ds, π₂) := by
  show evComp1 (ev cf Φ n) κ ρ elt (.Name x xp) iter ifs 0 scope π = _
  unfold evComp1
  dsimp only
  rw [if_pos rfl, if_pos h, hi]
  dsimp only
  rw [hit]
  dsimp only
  rw [hgo]
theorem go_map {α : Type} {test : D → List Int → Option (Bool × List Int)} {elt : D → List Int → Option (D × List Int)} (F : α → D) (tb : α → Bool) (g : α → D) : ∀ (l : List α), (∀ a ∈ l, test (F a) π = some (tb a, π)) → (∀ a ∈ l, tb a = true → elt (F a) π = some (g a, π)) →
    compGo test elt (l.map F) π = some ((l.filter tb).map g, π)
  | [], _, _ => rfl
  | a :: l, h1, h2 => by
    have ih := go_map (test := test) (elt := elt) F tb g l (fun b hb => h1 b (List.mem_cons_of_mem _ hb)) (fun b hb => h2 b (List.mem_cons_of_mem _ hb))
    simp only [List.map_cons, compGo]
    rw [h1 a List.mem_cons_self]
    cases q : tb a with
    | false => simp only [List.filter_cons, q]; exact ih
    | true =>
      simp only [List.filter_cons, q]
      rw [h2 a List.mem_cons_self q]
      simp only [ih]; rfl
theorem te_nil {f : Expr → List Int → Option (D × List Int)} : tests f [] π = some (true, π) := rfl
theorem te_one {f : Expr → List Int → Option (D × List Int)} {c} : tests f [c] π = (match f c π with
    | some (.bool b, π₁) => some (b, π₁)
    | _ => none) := rfl
theorem list_nil {f : Expr → List Int → Option (D × List Int)} : evList f [] π = some ([], π) := rfl
theorem list_cons {f : Expr → List Int → Option (D × List Int)} {e r} : evList f (e :: r) π = (match f e π with
    | none => none
    | some (d, π₁) => match evList f r π₁ with
      | none => none
      | some (ds, π₂) => some (d :: ds, π₂)) := rfl
end

/-! ## the tree -/
structure Tr where
  ch : List (List Nat)
  val : List Int
  chk : List Bool
  drw : List Bool
  noi : List (List Bool)
namespace Tr
noncomputable def n (T : Tr) : Nat := T.ch.length
noncomputable def kids (T : Tr) (v : Nat) : List Nat := T.ch[v]?.getD []
noncomputable def v (T : Tr) (i : Nat) : Int := T.val[i]?.getD 0
noncomputable def k (T : Tr) (i : Nat) : Bool := T.chk[i]?.getD false
noncomputable def d (T : Tr) (i : Nat) : Bool := T.drw[i]?.getD false
noncomputable def o (T : Tr) (i : Nat) : List Bool := T.noi[i]?.getD []
noncomputable def chD (T : Tr) : D := .list (T.ch.map fun l => .list (l.map fun (k : Nat) => .int (k : Int)))
noncomputable def valD (T : Tr) : D := .list (T.val.map .int)
noncomputable def chkD (T : Tr) : D := .list (T.chk.map .bool)
noncomputable def drwD (T : Tr) : D := .list (T.drw.map .bool)
noncomputable def noiD (T : Tr) : D := .list (T.noi.map fun l => .list (l.map .bool))
noncomputable def gainD (T : Tr) : D := .list (T.ch.map fun l => .list (List.replicate l.length (.int 0)))
noncomputable def D (T : Tr) : D := .tup [T.chD, T.valD, T.chkD, T.drwD, T.noiD]
noncomputable def flds (T : Tr) : List (Str × Mine.D) := [("children", T.chD), ("values", T.valD), ("checks", T.chkD), ("draws", T.drwD), ("noisy_rows", T.noiD), ("gain_rows", T.gainD)]
structure WF (T : Tr) : Prop where
  le : T.n ≤ 12
  pos : 0 < T.n
  lv : T.val.length = T.n
  lk : T.chk.length = T.n
  ld : T.drw.length = T.n
  lo : T.noi.length = T.n
  kid : ∀ v, v < T.n → ∀ k ∈ T.kids v, v < k ∧ k < T.n
  few : ∀ v, v < T.n → (T.kids v).length ≤ 3
  noi : ∀ v, v < T.n → (T.o v).length = (T.kids v).length
  small : ∀ v, v < T.n → -50 ≤ T.v v ∧ T.v v ≤ 50
/-- the path ends at v -/
noncomputable def At (T : Tr) (π : List Int) (v : Nat) : Prop := π.getLast? = some (v : Int) ∧ v < T.n ∧ π.length ≤ v + 1 ∧ T.n ≤ 12
end Tr
noncomputable abbrev C (T : Tr) (n : Nat) : Mean := callF (cfT T.flds) fns n

theorem fk {k : Nat} {key : Str} {F : Fn} (h : tbl[k]? = some (key, F)) (h2 : fns key = some F) : fns key = some (fn k) := by
  rw [h2]; simp only [fn, h]; rfl

section
variable {T : Tr} {π : List Int} {v n : Nat}
theorem idx_last {l : List Int} {x : Int} (h : l.getLast? = some x) : (idx l.length (-1)).bind (fun j => (l[j]?).map D.int) = some (.int x) := by
  rw [List.getLast?_eq_getElem?] at h
  have hl : 0 < l.length := by
    cases l with
    | nil => simp at h
    | cons => simp
  have : idx l.length (-1) = some (l.length - 1) := by
    unfold idx
    rw [if_neg (by omega), if_pos (by omega)]
    congr 1; omega
  rw [this]
  show (l[l.length - 1]?).map D.int = _
  rw [h]; rfl
theorem it_path (h : T.At π v) : item .path (.int (-1)) π = some (.int v) := by
  show (if π.length ≤ 10000 then _ else none) = _
  obtain ⟨h1, h2, h3, h4⟩ := h
  rw [if_pos (by omega)]
  exact idx_last h1
theorem it_list {xs : List D} {i : Nat} {d : D} (hl : xs.length ≤ 10000) (h : xs[i]? = some d) : item (.list xs) (.int (i : Int)) π = some d := by
  show (if xs.length ≤ 10000 then _ else none) = _
  rw [if_pos hl]
  have hi : i < xs.length := by
    rcases Nat.lt_or_ge i xs.length with q | q
    · exact q
    · rw [List.getElem?_eq_none q] at h; cases h
  have : idx xs.length (i : Int) = some i := by
    unfold idx
    rw [if_pos (by omega), if_pos (by omega)]
    rfl
  rw [this]; exact h
end

section
variable {cf : Cf} {Φ : Mean} {κ : Str → Option NameKind} {ρ : Str → Option D} {n : Nat} {π π₁ π₂ : List Int}
theorem E_var {x p d} (h : isVar κ x = true) (r : ρ x = some d) : ev cf Φ (n + 1) false κ ρ (.Name x p) π = some (d, π) := by rw [e_var h, r]; rfl
theorem E_glob {x p i} (h : isVar κ x = false) (h' : isGlob κ x = true) (g : cf.gint x = some i) : ev cf Φ (n + 1) false κ ρ (.Name x p) π = some (.int i, π) := by rw [e_glob h h', g]; rfl
theorem E_bin {l op r p a b c} (h1 : ev cf Φ n false κ ρ l π = some (a, π₁)) (h2 : ev cf Φ n false κ ρ r π₁ = some (b, π₂)) (h3 : binop op a b = some c) : ev cf Φ (n + 1) false κ ρ (.BinOp l op r p) π = some (c, π₂) := by
  rw [e_bin, h1]; dsimp only; rw [h2]; dsimp only; rw [h3]; rfl
theorem E_usub {x p i} (h : ev cf Φ n false κ ρ x π = some (.int i, π₁)) : ev cf Φ (n + 1) false κ ρ (.UnaryOp .USub x p) π = some (.int (-i), π₁) := by rw [e_usub, h]
theorem E_not {x p a b} (h : ev cf Φ n false κ ρ x π = some (a, π₁)) (t : truth a = some b) : ev cf Φ (n + 1) false κ ρ (.UnaryOp .Not x p) π = some (.bool (!b), π₁) := by rw [e_not, h]; dsimp only; rw [t]; rfl
theorem E_cmp {l op r p a b c} (h : behindInMarks op r = false) (h1 : ev cf Φ n false κ ρ l π = some (a, π₁)) (h2 : ev cf Φ n false κ ρ r π₁ = some (b, π₂)) (h3 : cmpop op a b = some c) : ev cf Φ (n + 1) false κ ρ (.Compare l [op] [r] p) π = some (c, π₂) := by
  rw [e_cmp h, h1]; dsimp only; rw [h2]; dsimp only; rw [h3]; rfl
theorem E_ifi {t a b p c x y} (h : ev cf Φ n true κ ρ t π = some (.bool c, π₁)) (h1 : ev cf Φ n false κ ρ a π₁ = some (.int x, π₂)) (h2 : ev cf Φ n false κ ρ b π₁ = some (.int y, π₂)) : ev cf Φ (n + 1) false κ ρ (.IfExp t a b p) π = some (.int (if c = true then x else y), π₂) := by
  rw [e_ife, h]; dsimp only; rw [h1, h2]; exact ite_int
theorem E_ift {t a b p x} (h : ev cf Φ n true κ ρ t π = some (.bool true, π₁)) (h1 : ev cf Φ n false κ ρ a π₁ = some (x, π₂)) : ev cf Φ (n + 1) false κ ρ (.IfExp t a b p) π = some (x, π₂) := by
  rw [e_ife, h]; exact h1
theorem E_iff {t a b p x} (h : ev cf Φ n true κ ρ t π = some (.bool false, π₁)) (h1 : ev cf Φ n false κ ρ b π₁ = some (x, π₂)) : ev cf Φ (n + 1) false κ ρ (.IfExp t a b p) π = some (x, π₂) := by
  rw [e_ife, h]; exact h1
theorem E_call {f fp args p ds key d} (h : (isGlob κ f && args.all noStar && decide (args.length < 20)) = true) (hf : cf.gfun f = some key) (h1 : evList (ev cf Φ n false κ ρ) args π = some (ds, π₁)) (h2 : Φ key ds π₁ = some (d, π₂)) : ev cf Φ (n + 1) false κ ρ (.Call (.Name f fp) args [] p) π = some (d, π₂) := by
  rw [e_call h, h1]; dsimp only; rw [hf]; exact h2
theorem E_bi {f fp args p ds d} (h : (isGlob κ f && args.all noStar && decide (args.length < 20)) = true) (hf : cf.gfun f = none) (h1 : evList (ev cf Φ n false κ ρ) args π = some (ds, π₁)) (h2 : builtin f ds π₁ = some d) : ev cf Φ (n + 1) false κ ρ (.Call (.Name f fp) args [] p) π = some (d, π₁) := by
  rw [e_call h, h1]; dsimp only; rw [hf]; dsimp only; rw [h2]; rfl
theorem E_meth {x xp m ap args cp key ds d} (h : (isVar κ x && args.all noStar && decide (args.length < 20) && ap.endLine == cp.line) = true) (r : ρ x = some .game) (hm : cf.meth m = some key) (h1 : evList (ev cf Φ n false κ ρ) args π = some (ds, π₁)) (h2 : Φ key (.game :: ds) π₁ = some (d, π₂)) :
    ev cf Φ (n + 1) false κ ρ (.Call (.Attribute (.Name x xp) m ap) args [] cp) π = some (d, π₂) := by
  rw [e_meth h, r, hm]; dsimp only; rw [h1]; exact h2
theorem E_attr {x xp m ap d} (h : isVar κ x = true) (r : ρ x = some .game) (hf : cf.fld m = some d) : ev cf Φ (n + 1) false κ ρ (.Attribute (.Name x xp) m ap) π = some (d, π) := by
  rw [e_attr h, r]; dsimp only; rw [hf]; rfl
theorem E_sub {v s p a b c} (h : noSlice s = true) (h1 : ev cf Φ n false κ ρ v π = some (a, π₁)) (h2 : ev cf Φ n false κ ρ s π₁ = some (b, π₂)) (h3 : item a b π₂ = some c) : ev cf Φ (n + 1) false κ ρ (.Subscript v s p) π = some (c, π₂) := by
  rw [e_sub h, h1]; dsimp only; rw [h2]; dsimp only; rw [h3]; rfl
theorem E_list {es p ds} (h : (es.all noStar && decide (es.length < 1000)) = true) (h1 : evList (ev cf Φ n false κ ρ) es π = some (ds, π₁)) : ev cf Φ (n + 1) false κ ρ (.List es p) π = some (.list ds, π₁) := by rw [e_list h, h1]
theorem E_tup {es k p ds} (h : (es.all noStar && decide (es.length < 1000)) = true) (h1 : evList (ev cf Φ n false κ ρ) es π = some (ds, π₁)) : ev cf Φ (n + 1) false κ ρ (.Tuple es k p) π = some (.tup ds, π₁) := by rw [e_tup h, h1]
theorem El_cons {f : Expr → List Int → Option (D × List Int)} {e r d ds} (h1 : f e π = some (d, π₁)) (h2 : evList f r π₁ = some (ds, π₂)) : evList f (e :: r) π = some (d :: ds, π₂) := by rw [list_cons, h1]; dsimp only; rw [h2]
theorem T_not {x p b} (h : ev cf Φ n true κ ρ x π = some (.bool b, π₁)) : ev cf Φ (n + 1) true κ ρ (.UnaryOp .Not x p) π = some (.bool (!b), π₁) := by rw [t_not, h]
theorem T_plain {e d b} (h : plainTest e = true) (h1 : ev cf Φ n false κ ρ e π = some (d, π₁)) (t : truth d = some b) : ev cf Φ (n + 1) true κ ρ e π = some (.bool b, π₁) := by
  rw [t_plain h, h1]; dsimp only; rw [t]; rfl
theorem T_and {e₁ e₂ p a b} (h1 : ev cf Φ n true κ ρ e₁ π = some (.bool a, π)) (h2 : ev cf Φ n true κ ρ e₂ π = some (.bool b, π)) : ev cf Φ (n + 1) true κ ρ (.BoolOp .And [e₁, e₂] p) π = some (.bool (a && b), π) := by
  rw [t_boolop, alls_and, h1]; dsimp only; rw [alls_and, h2]; dsimp only; rw [alls_nil]; cases a <;> cases b <;> rfl
theorem T_or {e₁ e₂ p a b} (h1 : ev cf Φ n true κ ρ e₁ π = some (.bool a, π)) (h2 : ev cf Φ n true κ ρ e₂ π = some (.bool b, π)) : ev cf Φ (n + 1) true κ ρ (.BoolOp .Or [e₁, e₂] p) π = some (.bool (a || b), π) := by
  rw [t_boolop, alls_or, h1]; dsimp only; rw [alls_or, h2]; dsimp only; rw [alls_nil']; cases a <;> cases b <;> rfl
theorem T_andF {e₁ e₂ p} (h1 : ev cf Φ n true κ ρ e₁ π = some (.bool false, π)) : ev cf Φ (n + 1) true κ ρ (.BoolOp .And [e₁, e₂] p) π = some (.bool false, π) := by
  rw [t_boolop, alls_and, h1]; rfl
theorem B_and {e₁ e₂ p a b} (h1 : ev cf Φ n false κ ρ e₁ π = some (.bool a, π)) (h2 : ev cf Φ n false κ ρ e₂ π = some (.bool b, π)) : ev cf Φ (n + 1) false κ ρ (.BoolOp .And [e₁, e₂] p) π = some (.bool (a && b), π) := by
  rw [e_boolop, bools_and, h1]; dsimp only; rw [tr_bool]; dsimp only; rw [bools_one, h2]; exact ite_and'
theorem B_or {e₁ e₂ p a b} (h1 : ev cf Φ n false κ ρ e₁ π = some (.bool a, π)) (h2 : ev cf Φ n false κ ρ e₂ π = some (.bool b, π)) : ev cf Φ (n + 1) false κ ρ (.BoolOp .Or [e₁, e₂] p) π = some (.bool (a || b), π) := by
  rw [e_boolop, bools_or, h1]; dsimp only; rw [tr_bool]; dsimp only; rw [bools_one, h2]; exact ite_or'
theorem B_or3 {e₁ e₂ e₃ p a b c} (h1 : ev cf Φ n false κ ρ e₁ π = some (.bool a, π)) (h2 : ev cf Φ n false κ ρ e₂ π = some (.bool b, π)) (h3 : ev cf Φ n false κ ρ e₃ π = some (.bool c, π)) : ev cf Φ (n + 1) false κ ρ (.BoolOp .Or [e₁, e₂, e₃] p) π = some (.bool (a || (b || c)), π) := by
  rw [e_boolop, bools_or, h1]; dsimp only; rw [tr_bool]; dsimp only; rw [bools_or, h2]; dsimp only; rw [tr_bool]; dsimp only; rw [bools_one, h3]; cases a <;> cases b <;> rfl
theorem E_ifb {t a b p c x y} (h : ev cf Φ n true κ ρ t π = some (.bool c, π₁)) (h1 : ev cf Φ n false κ ρ a π₁ = some (.bool x, π₂)) (h2 : ev cf Φ n false κ ρ b π₁ = some (.bool y, π₂)) : ev cf Φ (n + 1) false κ ρ (.IfExp t a b p) π = some (.bool (if c = true then x else y), π₂) := by
  rw [e_ife, h]; dsimp only; rw [h1, h2]; exact ite_bool
theorem Te_one {f : Expr → List Int → Option (D × List Int)} {c b} (h : f c π = some (.bool b, π₁)) : tests f [c] π = some (b, π₁) := by rw [te_one, h]
end
theorem L_fz {ρ : Rho} {x : Str} {d : D} (h : ρ x = some (.fz d)) : look ρ x = some d := by unfold look; rw [h]
theorem F_fz {ρ : Rho} {ns : List Str} {x : Str} {d : D} (h : ρ x = some (.fz d)) : freeze ns ρ x = some (.fz d) := by rw [freeze_eq, h]
theorem F_own {ρ : Rho} {ns : List Str} {x : Str} {xs : List D} (h : ρ x = some (.own xs)) (hn : ns.contains x = false) : freeze ns ρ x = some (.own xs) := by rw [freeze_eq, h]; dsimp only; rw [hn]; rfl
theorem F_ownf {ρ : Rho} {ns : List Str} {x : Str} {xs : List D} (h : ρ x = some (.own xs)) (hn : ns.contains x = true) : freeze ns ρ x = some (.fz (.list xs)) := by rw [freeze_eq, h]; dsimp only; rw [hn]; rfl
theorem V_here {ρ : Rho} {x : Str} {lv : LV} : setV ρ x lv x = some lv := if_pos rfl
theorem V_else {ρ : Rho} {x y : Str} {lv : LV} {r : Option LV} (hn : (y == x) = false) (h : ρ y = r) : setV ρ x lv y = r := (if_neg (by simpa using hn)).trans h
theorem C_here {x : Str} {v : D} {r : Option D} : (if x = x then some v else r) = some v := if_pos rfl
theorem C_else {x y : Str} {v w : D} {c : Prop} [Decidable c] {o : Option D} (hn : (y == x) = false) (hc : c) (h : o = some w) : (if y = x then some v else if c then o else none) = some w := by
  rw [if_neg (by simpa using hn), if_pos hc]; exact h
theorem W_gen {cf : Cf} {Φ : Mean} {κ : Str → Option NameKind} {n : Nat} {cs : List Stmt} {K : Kp} {ρ : Rho} {π : List Int} (h : ∀ K', (∀ fl ρ π, K fl ρ π → K' fl ρ π) → W cf Φ κ n cs K' ρ π) : W cf Φ κ n cs K ρ π := h K fun _ _ _ x => x
theorem E_fin {α : Type} {x : Option α} {a b : α} (h : x = some a) (e : a = b) : x = some b := e ▸ h
theorem bi_listr {a b : Int} {xs : List D} {π : List Int} (h : itemsOf (.range a b) = some xs) : builtin (Str.ofString "list") [.range a b] π = some (.list xs) := by
  show (itemsOf (.range a b)).map D.list = _
  rw [h]; rfl
theorem W_callM {cf : Cf} {Φ : Mean} {κ : Str → Option NameKind} {n x xp m ap cp args p cs K ρ π π₁ d} (hx : ρ x = some (.fz d)) (h : ev cf Φ 20 false κ (look ρ) (.Call (.Attribute (.Name x xp) m ap) args [] cp) π = some (.none, π₁)) (k : W cf Φ κ (n + 1) cs K ρ π₁) :
    W cf Φ κ (n + 1) (.Expr (.Call (.Attribute (.Name x xp) m ap) args [] cp) p :: cs) K ρ π := W_call (fun xs e => by rw [hx] at e; cases e) h k

/-! ## what the run of the top leaves, by questions -/
/-- a def of the text: its key, its place, its number -/
noncomputable def adrT : List (Str × Addr × Nat) := [(Str.ofString "mated_in", (28 : Addr), (1 : Nat)), (Str.ofString "quiesce_window", (35 : Addr), (2 : Nat)), (Str.ofString "alpha_beta", (42 : Addr), (3 : Nat)), (Str.ofString "within", (49 : Addr), (4 : Nat)), (Str.ofString "alpha_beta_hard", (56 : Addr), (5 : Nat)), (Str.ofString "cutoff", (63 : Addr), (6 : Nat)), (Str.ofString "plain_quiesce", (70 : Addr), (7 : Nat)), (Str.ofString "end_value", (77 : Addr), (8 : Nat)), (Str.ofString "negamax", (84 : Addr), (9 : Nat)), (Str.ofString "negamax_line", (91 : Addr), (10 : Nat)), (Str.ofString "best_moves", (98 : Addr), (11 : Nat)), (Str.ofString "_law_START", (233 : Addr), (25 : Nat)), (Str.ofString "_law_at", (240 : Addr), (26 : Nat)), (Str.ofString "_law_digit", (247 : Addr), (27 : Nat)), (Str.ofString "_law_tree", (252 : Addr), (28 : Nat)), (Str.ofString "_law_up", (259 : Addr), (29 : Nat)), (Str.ofString "_law_node", (264 : Addr), (30 : Nat)), (Str.ofString "_law_levels", (271 : Addr), (31 : Nat)), (Str.ofString "_law_window", (278 : Addr), (32 : Nat)), (Str.ofString "_law_is_bound", (285 : Addr), (33 : Nat))] ++ [(Str.ofString "_law_cuts", (292 : Addr), (34 : Nat)), (Str.ofString "_law_first", (297 : Addr), (35 : Nat)), (Str.ofString "_law_root", (302 : Addr), (36 : Nat)), (Str.ofString "TreeGame.moves", (151 : Addr), (14 : Nat)), (Str.ofString "TreeGame.noisy", (156 : Addr), (15 : Nat)), (Str.ofString "TreeGame.make", (163 : Addr), (16 : Nat)), (Str.ofString "TreeGame.undo", (170 : Addr), (17 : Nat)), (Str.ofString "TreeGame.value", (177 : Addr), (18 : Nat)), (Str.ofString "TreeGame.key", (184 : Addr), (19 : Nat)), (Str.ofString "TreeGame.in_check", (191 : Addr), (20 : Nat)), (Str.ofString "TreeGame.is_draw", (198 : Addr), (21 : Nat)), (Str.ofString "TreeGame.is_noisy", (205 : Addr), (22 : Nat)), (Str.ofString "TreeGame.side", (219 : Addr), (24 : Nat))]
noncomputable def adrOf (key : Str) : Option Addr := (adrT.lookup key).map (·.1)
noncomputable def fragOf (h : Heap) : Frag := (List.range 400).filterMap fun a => (h.get? a).map fun o => (a, o)
noncomputable def argsIn : Stmt → List Arguments
  | .FunctionDef _ args _ _ _ _ _ _ _ _ => [args]
  | .ClassDef _ _ _ body _ _ _ _ _ _ _ => body.flatMap fun s => match s with
    | .FunctionDef _ args _ _ _ _ _ _ _ _ => [args]
    | _ => []
  | _ => []
noncomputable def argT (k : Nat) : Arguments := ((PySem.Challenge.pw_nt0430_01.main.body.flatMap argsIn)[k]?).getD ⟨[], [], none, [], [], none, []⟩
noncomputable def fdOf (K : Frag) (f : Addr) : FuncData := match K.lookup f with
  | some ⟨_, _, .func fd, _⟩ => fd
  | _ => default
noncomputable def hasFd (K : Frag) (f : Addr) : Bool := match K.lookup f with
  | some ⟨_, _, .func _, _⟩ => true
  | _ => false
noncomputable def fdOk (K : Frag) (f : Addr) : Bool := hasFd K f && codeIn K (fdOf K f).code (fdOf K f).qualname && (fdOf K f).globals == mainGlobals && (fdOf K f).builtins == builtinsNs && (fdOf K f).closure.isEmpty
noncomputable def fldNames : List Str := ["children", "values", "checks", "draws", "noisy_rows", "gain_rows"]
noncomputable def allFld : List Str := "path" :: fldNames
noncomputable def biNames : List Str := ["len", "min", "max", "range", "list"]
noncomputable def chk1 (K : Frag) : Bool := (consts.all fun p => match nsIn K mainGlobals p.1 with
    | some (some (.int j _)) => j == p.2
    | _ => false) &&
  (keys.all fun k => match nsIn K mainGlobals k with
    | some (some (.ref f)) => adrOf k == some f
    | _ => false) &&
  (meths.all fun m => match findIn K (.ref 222) m with
    | some (some (.ref f)) => adrOf ("TreeGame." ++ m) == some f && isFn K (.ref f) && plainGet K 222 m
    | _ => false) &&
  (allFld.all fun m => (match findIn K (.ref 222) m with
    | some a => a.isNone
    | _ => false) && plainGet K 222 m && (match takerIn K 222 m with
    | some a => a.isNone
    | _ => false)) &&
  (biNames.all fun x => match nsIn K mainGlobals x with
    | some a => a.isNone
    | _ => false) && (adrT.all fun p => fdOk K p.2.1)
noncomputable def chk2 (K : Frag) : Bool := hasDictIn K 222 && nsIn K mainGlobals "TreeGame" == some (some (.ref 222)) && keepIn K (.ref 222) && makesIn K 222 && findIn K (.ref 222) "__init__" == some (some (.ref 144)) && isFn K (.ref 144) && fdOk K 144 &&
  findIn K (.ref 222) "__setattr__" == some (some (.builtin "object.__setattr__")) && plainOver K 222 && (fdOf K 144).qualname == "TreeGame.__init__"
noncomputable def FnData := Arguments × Value × Value × FuncBody × Scope
noncomputable def dataOf (fd : FuncData) : FnData := (fd.params, fd.defaults, fd.kwdefaults, fd.body, fd.scope)
noncomputable def dataT (k : Nat) : FnData := (argT k, .none, .none, .stmts (fn k).body, (fn k).scope)
noncomputable def seenF (s : Shared) : (Bool × Bool) × FnData × List FnData := ((chk1 (fragOf s.heap), chk2 (fragOf s.heap)), dataOf (fdOf (fragOf s.heap) 144), adrT.map fun p => dataOf (fdOf (fragOf s.heap) p.2.1))
noncomputable def wantF (_ : World) : (Bool × Bool) × FnData × List FnData := ((true, true), dataT 13, adrT.map fun p => dataT p.2.2)
noncomputable def saysF (_ : World) (h : Heap) : Prop := ∃ K : Frag, K.In h ∧ chk1 K = true ∧ chk2 K = true ∧ dataOf (fdOf K 144) = dataT 13 ∧ ∀ p ∈ adrT, dataOf (fdOf K p.2.1) = dataT p.2.2
theorem frag_lookup {h : Heap} {a : Addr} {o : Obj} : ∀ l : List Addr, (l.filterMap fun a => (h.get? a).map fun o => (a, o)).lookup a = some o → h.get? a = some o
  | [], e => by cases e
  | b :: l, e => by
    rw [List.filterMap_cons] at e
    cases q : h.get? b with
    | none => rw [q] at e; exact frag_lookup l e
    | some o' =>
      rw [q] at e
      have e : ((b, o') :: l.filterMap fun a => (h.get? a).map fun o => (a, o)).lookup a = some o := e
      rw [List.lookup_cons] at e
      split at e
      · rename_i hab; cases e; rw [beq_iff_eq.mp hab]; exact q
      · exact frag_lookup l e
theorem fragOf_in (h : Heap) : (fragOf h).In h := fun a o e => frag_lookup _ e
theorem saysF_of (w : World) (s : Shared) (e : seenF s = wantF w) : saysF w s.heap := by
  simp only [seenF, wantF, Prod.mk.injEq] at e
  obtain ⟨⟨e1, e2⟩, e3, e4⟩ := e
  exact ⟨_, fragOf_in s.heap, e1, e2, e3, List.map_inj_left.mp e4⟩
theorem saysF_keeps (w : World) (h h' : Heap) (x : saysF w h) (k : ∀ b o, h.get? b = some o → h'.get? b = some o) : saysF w h' := by
  obtain ⟨K, X, r⟩ := x
  exact ⟨K, X.keeps k, r⟩

noncomputable def looseA : List Str := ["_wall", "BOUND_UPPER", "BOUND_LOWER", "BOUND_EXACT", "MATE", "DRAW", "INFINITE", "mated_in", "quiesce_window", "alpha_beta", "within", "alpha_beta_hard", "cutoff", "plain_quiesce", "end_value", "negamax", "negamax_line", "best_moves"]
noncomputable def looseB : List Str := ["ChessError", "BadMove", "TreeGame", "_law_START", "_law_at", "_law_digit", "_law_tree", "_law_up", "_law_node", "_law_levels", "_law_window", "_law_is_bound", "_law_cuts", "_law_first", "_law_root"]
noncomputable def looseL : List Str := looseA ++ looseB
noncomputable def vw : Program := view PySem.Challenge.pw_nt0430_01 [39]
noncomputable def looks (s : Shared) := (openSeen vw looseL (importedModules PySem.Challenge.pw_nt0430_01.main.body) (fun s => xlAt vw [] s && recOk (RowW.records (OpenRow.toRowW PySem.Challenge.rw_nt0430_01.row)) s) true s, seenF s)
theorem left0 : LeftO PySem.Challenge.pw_nt0430_01 vw looseL (fun s => xlAt vw [] s && recOk (RowW.records (OpenRow.toRowW PySem.Challenge.rw_nt0430_01.row)) s) seenF wantF 3966 := fun w => by
  unfold openEnds topFrom
  rw [PySem.W.Fast.te14082659384304107361]
  kernel_rfl

noncomputable def scOk (F : Fn) : Bool := (F.scope.kind == .function) && !F.scope.isCoroutine && !F.scope.isGenerator && decide F.params.Nodup && (F.params.all fun x => F.scope.names.lookup x == some .local || F.scope.names.lookup x == some .cell) &&
  decide (F.scope.names.map (·.1)).Nodup && (F.scope.names.all fun p => !(p.2 == .free))
theorem len0 {l : List Value} (h : l.length = 0) : l = [] := List.eq_nil_of_length_eq_zero h
theorem lenS {l : List Value} {n : Nat} (h : l.length = n + 1) : ∃ a r, l = a :: r ∧ r.length = n := by
  cases l with
  | nil => cases h
  | cons a r => exact ⟨a, r, rfl, by simpa using h⟩
noncomputable def BindOk (t : Nat) : Prop := ∀ (nm qn : Str) (bd : FuncBody) (sc : Scope) (g : Addr) (cl : List (Str × Addr)) (doc pm : Value) (an : Option Addr) (cd ct : Value) (b : Addr) (vals : List Value), vals.length = (fn t).params.length →
  bindArgs ⟨nm, qn, argT t, bd, sc, g, cl, .none, .none, doc, pm, an, cd, ct, b⟩ ⟨vals, []⟩ = pure ((fn t).params.zip vals)
theorem bnd0 : BindOk 1 := by
  intro nm qn bd sc g cl doc pm an cd ct b t0 h0
  replace h0 : t0.length = 1 := h0
  obtain ⟨v0, t1, rfl, h1⟩ := lenS h0
  obtain rfl := len0 h1
  kernel_rfl
theorem bnd1 : BindOk 2 := by
  intro nm qn bd sc g cl doc pm an cd ct b t0 h0
  replace h0 : t0.length = 5 := h0
  obtain ⟨v0, t1, rfl, h1⟩ := lenS h0
  obtain ⟨v1, t2, rfl, h2⟩ := lenS h1
  obtain ⟨v2, t3, rfl, h3⟩ := lenS h2
  obtain ⟨v3, t4, rfl, h4⟩ := lenS h3
  obtain ⟨v4, t5, rfl, h5⟩ := lenS h4
  obtain rfl := len0 h5
  kernel_rfl
theorem bnd2 : BindOk 3 := by
  intro nm qn bd sc g cl doc pm an cd ct b t0 h0
  replace h0 : t0.length = 6 := h0
  obtain ⟨v0, t1, rfl, h1⟩ := lenS h0
  obtain ⟨v1, t2, rfl, h2⟩ := lenS h1
  obtain ⟨v2, t3, rfl, h3⟩ := lenS h2
  obtain ⟨v3, t4, rfl, h4⟩ := lenS h3
  obtain ⟨v4, t5, rfl, h5⟩ := lenS h4
  obtain ⟨v5, t6, rfl, h6⟩ := lenS h5
  obtain rfl := len0 h6
  kernel_rfl
theorem bnd3 : BindOk 4 := by
  intro nm qn bd sc g cl doc pm an cd ct b t0 h0
  replace h0 : t0.length = 3 := h0
  obtain ⟨v0, t1, rfl, h1⟩ := lenS h0
  obtain ⟨v1, t2, rfl, h2⟩ := lenS h1
  obtain ⟨v2, t3, rfl, h3⟩ := lenS h2
  obtain rfl := len0 h3
  kernel_rfl
theorem bnd4 : BindOk 5 := by
  intro nm qn bd sc g cl doc pm an cd ct b t0 h0
  replace h0 : t0.length = 6 := h0
  obtain ⟨v0, t1, rfl, h1⟩ := lenS h0
  obtain ⟨v1, t2, rfl, h2⟩ := lenS h1
  obtain ⟨v2, t3, rfl, h3⟩ := lenS h2
  obtain ⟨v3, t4, rfl, h4⟩ := lenS h3
  obtain ⟨v4, t5, rfl, h5⟩ := lenS h4
  obtain ⟨v5, t6, rfl, h6⟩ := lenS h5
  obtain rfl := len0 h6
  kernel_rfl
theorem bnd5 : BindOk 6 := by
  intro nm qn bd sc g cl doc pm an cd ct b t0 h0
  replace h0 : t0.length = 7 := h0
  obtain ⟨v0, t1, rfl, h1⟩ := lenS h0
  obtain ⟨v1, t2, rfl, h2⟩ := lenS h1
  obtain ⟨v2, t3, rfl, h3⟩ := lenS h2
  obtain ⟨v3, t4, rfl, h4⟩ := lenS h3
  obtain ⟨v4, t5, rfl, h5⟩ := lenS h4
  obtain ⟨v5, t6, rfl, h6⟩ := lenS h5
  obtain ⟨v6, t7, rfl, h7⟩ := lenS h6
  obtain rfl := len0 h7
  kernel_rfl
theorem bnd6 : BindOk 7 := by
  intro nm qn bd sc g cl doc pm an cd ct b t0 h0
  replace h0 : t0.length = 3 := h0
  obtain ⟨v0, t1, rfl, h1⟩ := lenS h0
  obtain ⟨v1, t2, rfl, h2⟩ := lenS h1
  obtain ⟨v2, t3, rfl, h3⟩ := lenS h2
  obtain rfl := len0 h3
  kernel_rfl
theorem bnd7 : BindOk 8 := by
  intro nm qn bd sc g cl doc pm an cd ct b t0 h0
  replace h0 : t0.length = 2 := h0
  obtain ⟨v0, t1, rfl, h1⟩ := lenS h0
  obtain ⟨v1, t2, rfl, h2⟩ := lenS h1
  obtain rfl := len0 h2
  kernel_rfl
theorem bnd8 : BindOk 9 := by
  intro nm qn bd sc g cl doc pm an cd ct b t0 h0
  replace h0 : t0.length = 4 := h0
  obtain ⟨v0, t1, rfl, h1⟩ := lenS h0
  obtain ⟨v1, t2, rfl, h2⟩ := lenS h1
  obtain ⟨v2, t3, rfl, h3⟩ := lenS h2
  obtain ⟨v3, t4, rfl, h4⟩ := lenS h3
  obtain rfl := len0 h4
  kernel_rfl
theorem bnd9 : BindOk 10 := by
  intro nm qn bd sc g cl doc pm an cd ct b t0 h0
  replace h0 : t0.length = 4 := h0
  obtain ⟨v0, t1, rfl, h1⟩ := lenS h0
  obtain ⟨v1, t2, rfl, h2⟩ := lenS h1
  obtain ⟨v2, t3, rfl, h3⟩ := lenS h2
  obtain ⟨v3, t4, rfl, h4⟩ := lenS h3
  obtain rfl := len0 h4
  kernel_rfl
theorem bnd10 : BindOk 11 := by
  intro nm qn bd sc g cl doc pm an cd ct b t0 h0
  replace h0 : t0.length = 3 := h0
  obtain ⟨v0, t1, rfl, h1⟩ := lenS h0
  obtain ⟨v1, t2, rfl, h2⟩ := lenS h1
  obtain ⟨v2, t3, rfl, h3⟩ := lenS h2
  obtain rfl := len0 h3
  kernel_rfl
theorem bnd11 : BindOk 25 := by
  intro nm qn bd sc g cl doc pm an cd ct b t0 h0
  replace h0 : t0.length = 0 := h0
  obtain rfl := len0 h0
  kernel_rfl
theorem bnd12 : BindOk 26 := by
  intro nm qn bd sc g cl doc pm an cd ct b t0 h0
  replace h0 : t0.length = 2 := h0
  obtain ⟨v0, t1, rfl, h1⟩ := lenS h0
  obtain ⟨v1, t2, rfl, h2⟩ := lenS h1
  obtain rfl := len0 h2
  kernel_rfl
theorem bnd13 : BindOk 27 := by
  intro nm qn bd sc g cl doc pm an cd ct b t0 h0
  replace h0 : t0.length = 2 := h0
  obtain ⟨v0, t1, rfl, h1⟩ := lenS h0
  obtain ⟨v1, t2, rfl, h2⟩ := lenS h1
  obtain rfl := len0 h2
  kernel_rfl
theorem bnd14 : BindOk 28 := by
  intro nm qn bd sc g cl doc pm an cd ct b t0 h0
  replace h0 : t0.length = 1 := h0
  obtain ⟨v0, t1, rfl, h1⟩ := lenS h0
  obtain rfl := len0 h1
  kernel_rfl
theorem bnd15 : BindOk 29 := by
  intro nm qn bd sc g cl doc pm an cd ct b t0 h0
  replace h0 : t0.length = 1 := h0
  obtain ⟨v0, t1, rfl, h1⟩ := lenS h0
  obtain rfl := len0 h1
  kernel_rfl
theorem bnd16 : BindOk 30 := by
  intro nm qn bd sc g cl doc pm an cd ct b t0 h0
  replace h0 : t0.length = 5 := h0
  obtain ⟨v0, t1, rfl, h1⟩ := lenS h0
  obtain ⟨v1, t2, rfl, h2⟩ := lenS h1
  obtain ⟨v2, t3, rfl, h3⟩ := lenS h2
  obtain ⟨v3, t4, rfl, h4⟩ := lenS h3
  obtain ⟨v4, t5, rfl, h5⟩ := lenS h4
  obtain rfl := len0 h5
  kernel_rfl
theorem bnd17 : BindOk 31 := by
  intro nm qn bd sc g cl doc pm an cd ct b t0 h0
  replace h0 : t0.length = 4 := h0
  obtain ⟨v0, t1, rfl, h1⟩ := lenS h0
  obtain ⟨v1, t2, rfl, h2⟩ := lenS h1
  obtain ⟨v2, t3, rfl, h3⟩ := lenS h2
  obtain ⟨v3, t4, rfl, h4⟩ := lenS h3
  obtain rfl := len0 h4
  kernel_rfl
theorem bnd18 : BindOk 32 := by
  intro nm qn bd sc g cl doc pm an cd ct b t0 h0
  replace h0 : t0.length = 2 := h0
  obtain ⟨v0, t1, rfl, h1⟩ := lenS h0
  obtain ⟨v1, t2, rfl, h2⟩ := lenS h1
  obtain rfl := len0 h2
  kernel_rfl
theorem bnd19 : BindOk 33 := by
  intro nm qn bd sc g cl doc pm an cd ct b t0 h0
  replace h0 : t0.length = 4 := h0
  obtain ⟨v0, t1, rfl, h1⟩ := lenS h0
  obtain ⟨v1, t2, rfl, h2⟩ := lenS h1
  obtain ⟨v2, t3, rfl, h3⟩ := lenS h2
  obtain ⟨v3, t4, rfl, h4⟩ := lenS h3
  obtain rfl := len0 h4
  kernel_rfl
theorem bnd20 : BindOk 34 := by
  intro nm qn bd sc g cl doc pm an cd ct b t0 h0
  replace h0 : t0.length = 3 := h0
  obtain ⟨v0, t1, rfl, h1⟩ := lenS h0
  obtain ⟨v1, t2, rfl, h2⟩ := lenS h1
  obtain ⟨v2, t3, rfl, h3⟩ := lenS h2
  obtain rfl := len0 h3
  kernel_rfl
theorem bnd21 : BindOk 35 := by
  intro nm qn bd sc g cl doc pm an cd ct b t0 h0
  replace h0 : t0.length = 3 := h0
  obtain ⟨v0, t1, rfl, h1⟩ := lenS h0
  obtain ⟨v1, t2, rfl, h2⟩ := lenS h1
  obtain ⟨v2, t3, rfl, h3⟩ := lenS h2
  obtain rfl := len0 h3
  kernel_rfl
theorem bnd22 : BindOk 36 := by
  intro nm qn bd sc g cl doc pm an cd ct b t0 h0
  replace h0 : t0.length = 5 := h0
  obtain ⟨v0, t1, rfl, h1⟩ := lenS h0
  obtain ⟨v1, t2, rfl, h2⟩ := lenS h1
  obtain ⟨v2, t3, rfl, h3⟩ := lenS h2
  obtain ⟨v3, t4, rfl, h4⟩ := lenS h3
  obtain ⟨v4, t5, rfl, h5⟩ := lenS h4
  obtain rfl := len0 h5
  kernel_rfl
theorem bnd23 : BindOk 14 := by
  intro nm qn bd sc g cl doc pm an cd ct b t0 h0
  replace h0 : t0.length = 1 := h0
  obtain ⟨v0, t1, rfl, h1⟩ := lenS h0
  obtain rfl := len0 h1
  kernel_rfl
theorem bnd24 : BindOk 15 := by
  intro nm qn bd sc g cl doc pm an cd ct b t0 h0
  replace h0 : t0.length = 1 := h0
  obtain ⟨v0, t1, rfl, h1⟩ := lenS h0
  obtain rfl := len0 h1
  kernel_rfl
theorem bnd25 : BindOk 16 := by
  intro nm qn bd sc g cl doc pm an cd ct b t0 h0
  replace h0 : t0.length = 2 := h0
  obtain ⟨v0, t1, rfl, h1⟩ := lenS h0
  obtain ⟨v1, t2, rfl, h2⟩ := lenS h1
  obtain rfl := len0 h2
  kernel_rfl
theorem bnd26 : BindOk 17 := by
  intro nm qn bd sc g cl doc pm an cd ct b t0 h0
  replace h0 : t0.length = 1 := h0
  obtain ⟨v0, t1, rfl, h1⟩ := lenS h0
  obtain rfl := len0 h1
  kernel_rfl
theorem bnd27 : BindOk 18 := by
  intro nm qn bd sc g cl doc pm an cd ct b t0 h0
  replace h0 : t0.length = 1 := h0
  obtain ⟨v0, t1, rfl, h1⟩ := lenS h0
  obtain rfl := len0 h1
  kernel_rfl
theorem bnd28 : BindOk 19 := by
  intro nm qn bd sc g cl doc pm an cd ct b t0 h0
  replace h0 : t0.length = 1 := h0
  obtain ⟨v0, t1, rfl, h1⟩ := lenS h0
  obtain rfl := len0 h1
  kernel_rfl
theorem bnd29 : BindOk 20 := by
  intro nm qn bd sc g cl doc pm an cd ct b t0 h0
  replace h0 : t0.length = 1 := h0
  obtain ⟨v0, t1, rfl, h1⟩ := lenS h0
  obtain rfl := len0 h1
  kernel_rfl
theorem bnd30 : BindOk 21 := by
  intro nm qn bd sc g cl doc pm an cd ct b t0 h0
  replace h0 : t0.length = 1 := h0
  obtain ⟨v0, t1, rfl, h1⟩ := lenS h0
  obtain rfl := len0 h1
  kernel_rfl
theorem bnd31 : BindOk 22 := by
  intro nm qn bd sc g cl doc pm an cd ct b t0 h0
  replace h0 : t0.length = 2 := h0
  obtain ⟨v0, t1, rfl, h1⟩ := lenS h0
  obtain ⟨v1, t2, rfl, h2⟩ := lenS h1
  obtain rfl := len0 h2
  kernel_rfl
theorem bnd32 : BindOk 24 := by
  intro nm qn bd sc g cl doc pm an cd ct b t0 h0
  replace h0 : t0.length = 1 := h0
  obtain ⟨v0, t1, rfl, h1⟩ := lenS h0
  obtain rfl := len0 h1
  kernel_rfl
theorem fns_all : adrT.map (fun p => fns p.1) = adrT.map (fun p => some (fn p.2.2)) := by rfl
theorem sc_all : (adrT.all fun p => scOk (fn p.2.2)) = true := by kernel_rfl
theorem bnd_all : ∀ p ∈ adrT, BindOk p.2.2 := by
  intro p hp
  have hp : p ∈ _ ++ _ := hp
  rcases List.mem_append.mp hp with hp | hp
  · simp only [List.mem_cons, List.not_mem_nil, or_false] at hp
    rcases hp with rfl | rfl | rfl | rfl | rfl | rfl | rfl | rfl | rfl | rfl | rfl | rfl | rfl | rfl | rfl | rfl | rfl | rfl | rfl | rfl
    · exact bnd0
    · exact bnd1
    · exact bnd2
    · exact bnd3
    · exact bnd4
    · exact bnd5
    · exact bnd6
    · exact bnd7
    · exact bnd8
    · exact bnd9
    · exact bnd10
    · exact bnd11
    · exact bnd12
    · exact bnd13
    · exact bnd14
    · exact bnd15
    · exact bnd16
    · exact bnd17
    · exact bnd18
    · exact bnd19
  · simp only [List.mem_cons, List.not_mem_nil, or_false] at hp
    rcases hp with rfl | rfl | rfl | rfl | rfl | rfl | rfl | rfl | rfl | rfl | rfl | rfl | rfl
    · exact bnd20
    · exact bnd21
    · exact bnd22
    · exact bnd23
    · exact bnd24
    · exact bnd25
    · exact bnd26
    · exact bnd27
    · exact bnd28
    · exact bnd29
    · exact bnd30
    · exact bnd31
    · exact bnd32
theorem fdOf_at {K : Frag} {h : Heap} (X : K.In h) {f : Addr} (e : hasFd K f = true) : ∃ o, h.get? f = some o ∧ o.data = .func (fdOf K f) := by
  unfold hasFd at e
  unfold fdOf
  split at e
  · rename_i q; exact ⟨_, X _ _ q, rfl⟩
  · cases e
theorem scOk_of {F : Fn} (h : scOk F = true) : F.scope.kind = .function ∧ F.scope.isCoroutine = false ∧ F.scope.isGenerator = false ∧ F.params.Nodup ∧ (∀ x ∈ F.params, F.scope.names.lookup x = some .local ∨ F.scope.names.lookup x = some .cell) ∧ (F.scope.names.map (·.1)).Nodup ∧ ∀ x, F.scope.names.lookup x ≠ some .free := by
  simp only [scOk, Bool.and_eq_true, beq_iff_eq, decide_eq_true_eq, Bool.not_eq_true', List.all_eq_true, Bool.or_eq_true, Bool.not_eq_true] at h
  obtain ⟨⟨⟨⟨⟨⟨a, b⟩, c⟩, d⟩, e⟩, f⟩, g⟩ := h
  refine ⟨a, b, c, d, e, f, fun x hx => ?_⟩
  have := g _ (mem_of_lookup hx)
  simp at this
theorem isNone_eq {α : Type} {o : Option α} (h : o.isNone = true) : o = none := by cases o with
  | none => rfl
  | some => cases h
theorem bi_of {K : Frag} (c : chk1 K = true) {x : Str} (hx : x ∈ biNames) : nsIn K mainGlobals x = some none := by
  simp only [chk1, Bool.and_eq_true] at c
  have := List.all_eq_true.mp c.1.2 x hx
  split at this
  · rename_i a e; rw [e, isNone_eq this]
  · cases this
theorem adrOf_some {key : Str} {f : Addr} (h : adrOf key = some f) : ∃ t, (key, f, t) ∈ adrT := by
  obtain ⟨⟨a, t⟩, e1, rfl⟩ := Option.map_eq_some_iff.mp h
  exact ⟨t, mem_of_lookup e1⟩
noncomputable def mkCx {K : Frag} {h₀ : Heap} {mg mb : Str → Option Value} (X : K.In h₀) (c1 : chk1 K = true) (c2 : chk2 K = true) (dT : ∀ p ∈ adrT, dataOf (fdOf K p.2.1) = dataT p.2.2) (g : h₀.Ns mainGlobals mg) (b : h₀.Ns builtinsNs mb) (nolimit : h₀.NoLimit) (bb : ∀ x : Str, x ≠ "__name__" → mb x = bootBuiltins x)
    (f : List (Str × D)) (hf : ∀ x d, f.lookup x = some d → x ∈ fldNames) : Cx (cfT f) fns where
  h₀ := h₀
  K := K
  C := 222
  adr := adrOf
  mg := mg
  mb := mb
  X := X
  nolimit := nolimit
  g := g
  b := b
  gint := fun x i h => by
    simp only [chk1, Bool.and_eq_true] at c1
    have := List.all_eq_true.mp c1.1.1.1.1.1 _ (mem_of_lookup h)
    dsimp only at this
    split at this
    · rename_i j t e
      obtain rfl := beq_iff_eq.mp this
      exact ⟨t, mg_of X g e⟩
    · cases this
  gfun := fun x key h => by
    have h : (if keys.contains x then some x else none) = some key := h
    split at h
    · rename_i hc
      cases h
      simp only [chk1, Bool.and_eq_true] at c1
      have := List.all_eq_true.mp c1.1.1.1.1.2 x (by simpa using hc)
      split at this
      · rename_i f e
        exact ⟨f, beq_iff_eq.mp this, mg_of X g e⟩
      · cases this
    · cases h
  gbi := fun x v _ h => by
    unfold biVal at h
    split at h
    · cases h; subst x; exact ⟨mg_none_of X g (bi_of c1 (by decide)), (bb _ (by decide)).trans (by rfl)⟩
    split at h
    · cases h; subst x; exact ⟨mg_none_of X g (bi_of c1 (by decide)), (bb _ (by decide)).trans (by rfl)⟩
    split at h
    · cases h; subst x; exact ⟨mg_none_of X g (bi_of c1 (by decide)), (bb _ (by decide)).trans (by rfl)⟩
    split at h
    · cases h; subst x; exact ⟨mg_none_of X g (bi_of c1 (by decide)), (bb _ (by decide)).trans (by rfl)⟩
    split at h
    · cases h; subst x; exact ⟨mg_none_of X g (bi_of c1 (by decide)), (bb _ (by decide)).trans (by rfl)⟩
    · cases h
  meth := fun m key h => by
    have h : (if meths.contains m then some ("TreeGame." ++ m) else none) = some key := h
    split at h
    · rename_i hc
      cases h
      simp only [chk1, Bool.and_eq_true] at c1
      have := List.all_eq_true.mp c1.1.1.1.2 m (by simpa using hc)
      split at this
      · rename_i f e
        simp only [Bool.and_eq_true, beq_iff_eq] at this
        exact ⟨f, this.1.1, e, this.1.2, this.2⟩
      · cases this
    · cases h
  fld := fun m d h => by
    have hm : m ∈ allFld := by
      have h : (if m = Str.ofString "path" then some D.path else f.lookup m) = some d := h
      split at h
      · subst m; exact List.mem_cons_self
      · exact List.mem_cons_of_mem _ (hf _ _ h)
    simp only [chk1, Bool.and_eq_true] at c1
    have := List.all_eq_true.mp c1.1.1.2 m hm
    simp only [Bool.and_eq_true] at this
    obtain ⟨⟨a, b⟩, _⟩ := this
    simp only [chk2, Bool.and_eq_true] at c2
    split at a
    · rename_i q e
      obtain rfl := isNone_eq a
      exact ⟨b, c2.1.1.1.1.1.1.1.1.1, none, e, rfl⟩
    · cases a
  fn := fun key f h => by
    obtain ⟨t, hp⟩ := adrOf_some h
    have e1 : fns key = some (fn t) := List.map_inj_left.mp fns_all _ hp
    have e4 := List.all_eq_true.mp sc_all _ hp
    have e5 := bnd_all _ hp
    have e2 := dT _ hp
    simp only [chk1, Bool.and_eq_true] at c1
    have q := List.all_eq_true.mp c1.2 _ hp
    dsimp only at e2 e4 e5 q
    simp only [fdOk, Bool.and_eq_true, beq_iff_eq] at q
    obtain ⟨⟨⟨⟨q1, q2⟩, q3⟩, q4⟩, q5⟩ := q
    obtain ⟨o, ho, hd⟩ := fdOf_at X q1
    obtain ⟨s1, s2, s3, s4, s5, s6, s7⟩ := scOk_of e4
    have q2 := codeRec_of X q2
    generalize fdOf K f = fd at *
    obtain ⟨nm, qn, ps, bd, sc, gl, cl, df, kd, doc, pm, an, cd, ct, bn⟩ := fd
    simp only [dataOf, dataT, Prod.mk.injEq] at e2
    obtain ⟨rfl, rfl, rfl, rfl, rfl⟩ := e2
    exact ⟨o, _, fn t, e1, ho, hd, q2, rfl, rfl, q3, q4, by simpa using q5, s1, s2, s3, fun vals hv => e5 _ _ _ _ _ _ _ _ _ _ _ _ vals hv, s4, s5, s6, s7⟩

theorem ne_of_all {nw : List (Addr × Obj)} {d : Addr} (h : ∀ p ∈ nw, p.1 < d) : ∀ p ∈ nw, p.1 ≠ d := fun p hp => Nat.ne_of_lt (h p hp)
set_option hygiene false
set_option compiler.extract_closed false
local macro_rules | `(tactic| k_all) => `(tactic| exact ne_of_all (by assumption))
local macro_rules | `(tactic| k_is) => `(tactic| assumption)
noncomputable abbrev lawEnv (L fa : Addr) (cd : Value) : Env := envOf "law" (fn 37).scope L fa cd
noncomputable abbrev lawA (L fa : Addr) (cd : Value) : Around := callerA.deeper (lawEnv L fa cd)
theorem make_game : ∀ (K : Frag) (w : World) (h₀ : Heap) (mean : ExcName → Option Value) (mg mb : Str → Option Value) (q : Program) (lo : List Str) (L fa : Addr) (cd : Value) (m : Str → Option Value) (s : Shared) (v1 v2 v3 v4 v5 v6 : Value) (Q E : Value → Shared → Prop) (nw : List (Addr × Obj)),
    K.In h₀ → Top q lo mean mg mb h₀ → Below callerA h₀ [] h₀ → Fr h₀ L s.heap m → News h₀ L s.heap nw →
    chk1 K = true → chk2 K = true → dataOf (fdOf K 144) = dataT 13 →
    (∀ (ga da pa : Addr) (es : List DictEntry) (n : Nat) (h' : Heap) (tk t : Nat), Fr h₀ L h' m → News h₀ L h' ((pa, W.listOf #[Value.int 0 t] 0) :: (ga, instObj 222 da) :: (da, dictOf es n) :: nw) → (∀ p ∈ nw, p.1 < da) → da < ga → ga < pa →
      (getL "children" es = some (some v1) ∧ getL "values" es = some (some v2) ∧ getL "checks" es = some (some v3) ∧ getL "draws" es = some (some v4) ∧ getL "noisy_rows" es = some (some v5) ∧ getL "gain_rows" es = some (some v6) ∧ getL "path" es = some (some (.ref pa))) →
      (meths.all fun x => getL x es matches some none) = true →
      Q (.ref ga) { s with heap := h', toks := tk }) →
    wpAny (model PySem.Challenge.rw_nt0430_01.row.prog w) (lawA L fa cd) (call (.ref 222) [v1, v2, v3, v4, v5, v6] []) Q E s := by
  intro K w h₀ mean mg mb q lo L fa cd m s v1 v2 v3 v4 v5 v6 Q E nw KX T B F N c1 c2 dd fin
  simp only [chk2, Bool.and_eq_true, beq_iff_eq] at c2
  obtain ⟨⟨⟨⟨⟨⟨⟨⟨⟨k1, k2⟩, k3⟩, k4⟩, k5⟩, k6⟩, k7⟩, k8⟩, k9⟩, k10⟩ := c2
  simp only [fdOk, Bool.and_eq_true, beq_iff_eq] at k7
  obtain ⟨⟨⟨⟨q1, q2⟩, q3⟩, q4⟩, q5⟩ := k7
  simp only [chk1, Bool.and_eq_true] at c1
  have tk : ∀ x ∈ allFld, takerIn K 222 x = some none := fun x hx => by
    have := List.all_eq_true.mp c1.1.1.2 x hx
    simp only [Bool.and_eq_true] at this
    have := this.2
    split at this
    · rename_i a e; rw [e, isNone_eq this]
    · cases this
  have t1 := tk "children" (by decide)
  have t2 := tk "values" (by decide)
  have t3 := tk "checks" (by decide)
  have t4 := tk "draws" (by decide)
  have t5 := tk "noisy_rows" (by decide)
  have t6 := tk "gain_rows" (by decide)
  have t7 := tk "path" (by decide)
  clear tk c1
  unfold hasFd at q1
  unfold fdOf at dd q2 q3 q4 q5 k10
  split at q1
  · rename_i oc od fd osl hF
    rw [hF] at dd q2 q3 q4 q5 k10
    dsimp only at dd q2 q3 q4 q5 k10
    obtain ⟨nm, qn, ps, bd, sc, gl, cl, df, kd, doc, pm, an, cdv, ct, bn⟩ := fd
    simp only [dataOf, dataT, Prod.mk.injEq] at dd
    obtain ⟨rfl, rfl, rfl, rfl, rfl⟩ := dd
    dsimp only at q2 q3 q4 q5 k10
    have q5 : cl = [] := by simpa using q5
    subst q3 q4 q5 k10
    generalize hb : (fn 13).body = b at hF
    conv at hb => lhs; whnf
    subst hb
    generalize hb : (fn 13).scope = b at hF
    conv at hb => lhs; whnf
    subst hb
    generalize hb : argT 13 = b at hF
    conv at hb => lhs; whnf
    subst hb
    k_steps
    rename Fr h₀ L _ m => kF
    rename News h₀ L _ _ => kN
    refine fin _ _ _ _ _ _ _ _ kF kN (by assumption) (by assumption) (by refine ltN ?_; omega) ?_ ?_
    · refine ⟨?_, ?_, ?_, ?_, ?_, ?_, ?_⟩ <;> rfl
    · rfl
  · cases q1

set_option hygiene false
set_option compiler.extract_closed false
local macro_rules | `(tactic| k_clsL) => `(tactic| first
  | with_reducible first | assumption | exact V_here
  | ((with_reducible apply V_else); decide; k_clsL)
  | ((with_reducible apply F_fz); k_clsL)
  | ((with_reducible first | apply F_own | apply F_ownf); k_clsL; decide))
local macro_rules | `(tactic| k_subL) => `(tactic| first
  | with_reducible exact C_here
  | ((with_reducible apply C_else); decide; exact rfl; k_subL)
  | ((with_reducible apply L_fz); k_clsL))
local macro_rules | `(tactic| w_left) => `(tactic| first
  | with_reducible first | exact e_int | exact e_bool | exact e_none | apply E_bin | apply E_usub | apply E_not | exact list_nil | apply El_cons | apply T_not | apply T_and | apply T_or | apply B_and | apply B_or | apply B_or3 | apply E_ifb | apply E_ifi | exact b_add | exact b_sub | exact c_lt | exact c_le | exact c_gt | exact c_ge | exact c_eq | exact c_eqb | exact c_ne | exact c_in | exact tr_bool | exact g_mate | exact g_draw | exact g_inf | exact g_up | exact g_lo | exact g_ex
  | ((with_reducible first | apply E_var | apply E_cmp | apply E_attr | apply E_sub | apply E_list | apply E_tup); exact rfl)
  | ((with_reducible first | apply E_glob | apply E_call); exact rfl; exact rfl)
  | ((with_reducible apply E_bi); exact rfl; exact rfl)
  | ((with_reducible apply E_meth); exact rfl; k_subL; exact rfl)
  | ((with_reducible apply T_plain); exact rfl)
  | k_subL
  | with_reducible apply Te_one
  | k_clsL
  | ((with_reducible first | apply b_fdiv | apply b_mod); decide))
section
variable {cf : Cf} {Φ : Mean} {κ : Str → Option NameKind}
theorem W_papp {n x xp a ap m mp cp e p cs K ρ π i} (hx : look ρ x = some .game) (hv : isVar κ x = true) (ha : a = Str.ofString "path") (hm : m = Str.ofString "append") (hf : isPath (cf.fld a) = true) (hp : mp.endLine = cp.line) (hn : noStar e = true) (hl : π.length < 10000)
    (h : ev cf Φ 20 false κ (look ρ) e π = some (.int i, π)) (k : W cf Φ κ (n + 1) cs K ρ (π ++ [i])) :
    W cf Φ κ (n + 1) (.Expr (.Call (.Attribute (.Attribute (.Name x xp) a ap) m mp) [e] [] cp) p :: cs) K ρ π := by
  refine W_step ?_ k
  subst ha hm
  show exPath cf Φ κ x (Str.ofString "path") (Str.ofString "append") mp [e] cp ρ π = _
  unfold exPath
  simp only [hx, hv, hp, hn, hl, hf, h, and_self, if_true]
theorem W_ppop {n x xp a ap m mp cp p cs K ρ π} (hx : look ρ x = some .game) (hv : isVar κ x = true) (ha : a = Str.ofString "path") (hm : m = Str.ofString "pop") (hf : isPath (cf.fld a) = true) (hp : mp.endLine = cp.line) (h0 : 0 < π.length) (hl : π.length < 10000)
    (k : W cf Φ κ (n + 1) cs K ρ π.dropLast) :
    W cf Φ κ (n + 1) (.Expr (.Call (.Attribute (.Attribute (.Name x xp) a ap) m mp) [] [] cp) p :: cs) K ρ π := by
  refine W_step ?_ k
  subst ha hm
  show exPath cf Φ κ x (Str.ofString "path") (Str.ofString "pop") mp [] cp ρ π = _
  unfold exPath
  simp only [hx, hv, hp, hl, hf, h0, and_self, if_true]
end
theorem f_draws {T : Tr} : (cfT T.flds).fld (Str.ofString "draws") = some T.drwD := rfl
theorem f_checks {T : Tr} : (cfT T.flds).fld (Str.ofString "checks") = some T.chkD := rfl
theorem f_values {T : Tr} : (cfT T.flds).fld (Str.ofString "values") = some T.valD := rfl
theorem f_children {T : Tr} : (cfT T.flds).fld (Str.ofString "children") = some T.chD := rfl
theorem f_noisy {T : Tr} : (cfT T.flds).fld (Str.ofString "noisy_rows") = some T.noiD := rfl
theorem f_path {T : Tr} : (cfT T.flds).fld (Str.ofString "path") = some .path := rfl
section
variable {T : Tr} {π : List Int} {v n : Nat}
noncomputable def kd (T : Tr) (v j : Nat) : Nat := (T.kids v)[j]?.getD 0
noncomputable def allJ (T : Tr) (v : Nat) : List Nat := List.range (T.kids v).length
noncomputable def noiJ (T : Tr) (v : Nat) : List Nat := (List.range (T.kids v).length).filter fun j => (T.o v)[j]?.getD false
noncomputable def mvD (js : List Nat) : List D := js.map fun (j : Nat) => .int (1 + (j : Int))

theorem i_drw (w : T.WF) (h : v < T.n) : item T.drwD (.int v) π = some (.bool (T.d v)) := by
  have := w.ld
  have := w.le
  exact it_list (by simp; omega) (by have hv : v < T.drw.length := by omega
                                     simp [Tr.d, hv])
theorem i_chk (w : T.WF) (h : v < T.n) : item T.chkD (.int v) π = some (.bool (T.k v)) := by
  have := w.lk
  have := w.le
  exact it_list (by simp; omega) (by have hv : v < T.chk.length := by omega
                                     simp [Tr.k, hv])
theorem i_val (w : T.WF) (h : v < T.n) : item T.valD (.int v) π = some (.int (T.v v)) := by
  have := w.lv
  have := w.le
  exact it_list (by simp; omega) (by have hv : v < T.val.length := by omega
                                     simp [Tr.v, hv])
noncomputable def kidsD (T : Tr) (v : Nat) : D := .list ((T.kids v).map fun (k : Nat) => .int (k : Int))
noncomputable def noiD (T : Tr) (v : Nat) : D := .list ((T.o v).map .bool)
theorem i_ch (w : T.WF) (h : v < T.n) : item T.chD (.int v) π = some (kidsD T v) := by
  have := w.le
  have hv : v < T.ch.length := h
  have hl : T.ch.length = T.n := rfl
  exact it_list (by simp; omega) (by simp [Tr.kids, kidsD, hv])
theorem i_noi (w : T.WF) (h : v < T.n) : item T.noiD (.int v) π = some (noiD T v) := by
  have := w.le
  have := w.lo
  have hv : v < T.noi.length := by omega
  exact it_list (by simp; omega) (by simp [Tr.o, noiD, hv])
theorem i_kid (w : T.WF) (h : v < T.n) {j : Nat} (hj : j < (T.kids v).length) : item (kidsD T v) (.int (1 + (j : Int) - 1)) π = some (.int (kd T v j)) := by
  have := w.few v h
  rw [show (1 + (j : Int) - 1) = (j : Int) by omega]
  exact it_list (by simp; omega) (by simp [kd, hj])
theorem i_kid0 (w : T.WF) (h : v < T.n) {j : Nat} (hj : j < (T.kids v).length) : item (kidsD T v) (.int (j : Int)) π = some (.int (kd T v j)) := by
  have := w.few v h
  exact it_list (by simp; omega) (by simp [kd, hj])
theorem i_noij (w : T.WF) (h : v < T.n) {j : Nat} (hj : j < (T.kids v).length) : item (noiD T v) (.int (1 + (j : Int) - 1)) π = some (.bool ((T.o v)[j]?.getD false)) := by
  have := w.few v h
  have hn := w.noi v h
  rw [show (1 + (j : Int) - 1) = (j : Int) by omega]
  have hj' : j < (T.o v).length := by omega
  exact it_list (by simp; omega) (by simp [hj'])
theorem i_noij0 (w : T.WF) (h : v < T.n) {j : Nat} (hj : j < (T.kids v).length) : item (noiD T v) (.int (j : Int)) π = some (.bool ((T.o v)[j]?.getD false)) := by
  have := w.few v h
  have hn := w.noi v h
  have hj' : j < (T.o v).length := by omega
  exact it_list (by simp; omega) (by simp [hj'])
theorem gf_len {f} : (cfT f).gfun (Str.ofString "len") = none := rfl
theorem gf_range {f} : (cfT f).gfun (Str.ofString "range") = none := rfl
theorem gf_list {f} : (cfT f).gfun (Str.ofString "list") = none := rfl
theorem gf_min {f} : (cfT f).gfun (Str.ofString "min") = none := rfl
theorem gf_max {f} : (cfT f).gfun (Str.ofString "max") = none := rfl
theorem bi_len {xs : List D} (h : xs.length ≤ 10000) : builtin (Str.ofString "len") [.list xs] π = some (.int xs.length) := by
  unfold builtin; rw [if_pos rfl]; simp only [h, if_true]
theorem bi_lenp (h : π.length ≤ 10000) : builtin (Str.ofString "len") [.path] π = some (.int π.length) := by
  unfold builtin; rw [if_pos rfl]; simp only [h, if_true]
theorem bi_range {a b : Int} : builtin (Str.ofString "range") [.int a, .int b] π = some (.range a b) := rfl
theorem bi_range1 {b : Int} : builtin (Str.ofString "range") [.int b] π = some (.range 0 b) := rfl
theorem bi_list {a b : Int} : builtin (Str.ofString "list") [.range a b] π = (itemsOf (.range a b)).map .list := rfl
theorem bi_min {a b : Int} : builtin (Str.ofString "min") [.int a, .int b] π = some (.int (if b < a then b else a)) := rfl
theorem bi_max {a b : Int} : builtin (Str.ofString "max") [.int a, .int b] π = some (.int (if b > a then b else a)) := rfl
theorem bi_kids (w : T.WF) (h : v < T.n) : builtin (Str.ofString "len") [kidsD T v] π = some (.int (T.kids v).length) := by
  have := w.few v h
  have := bi_len (π := π) (xs := (T.kids v).map fun (k : Nat) => D.int (k : Int)) (by simp; omega)
  simpa [kidsD] using this

theorem m_draw (w : T.WF) (h : T.At π v) : C T (n + 1) (Str.ofString "TreeGame.is_draw") [.game] π = some (.bool (T.d v), π) := by
  refine call_W (F := fn 21) rfl rfl ?_
  generalize hb : (fn 21).body = b
  conv at hb => lhs; whnf
  subst hb
  refine W_gen fun K0 hK0 => ?_
  have r_self : rho₀ (fn 21).params [(.game : D)] (Str.ofString "self") = some (.fz (.game)) := rfl
  generalize rho₀ (fn 21).params _ = ρ at *
  refine W_ret (d := .bool (T.d v)) (π₁ := π) ?_ (hK0 _ _ _ ⟨rfl, .inl rfl⟩)
  repeat (first | with_reducible exact f_draws | with_reducible exact f_path | with_reducible exact it_path h | with_reducible exact i_drw w h.2.1 | w_left | exact f_draws | exact f_path | exact it_path h | exact i_drw w h.2.1 | exact rfl)
theorem m_check (w : T.WF) (h : T.At π v) : C T (n + 1) (Str.ofString "TreeGame.in_check") [.game] π = some (.bool (T.k v), π) := by
  refine call_W (F := fn 20) rfl rfl ?_
  generalize hb : (fn 20).body = b
  conv at hb => lhs; whnf
  subst hb
  refine W_gen fun K0 hK0 => ?_
  have r_self : rho₀ (fn 20).params [(.game : D)] (Str.ofString "self") = some (.fz (.game)) := rfl
  generalize rho₀ (fn 20).params _ = ρ at *
  refine W_ret (d := .bool (T.k v)) (π₁ := π) ?_ (hK0 _ _ _ ⟨rfl, .inl rfl⟩)
  repeat (first | with_reducible exact f_checks | with_reducible exact f_path | with_reducible exact it_path h | with_reducible exact i_chk w h.2.1 | w_left | exact f_checks | exact f_path | exact it_path h | exact i_chk w h.2.1 | exact rfl)
theorem m_value (w : T.WF) (h : T.At π v) : C T (n + 1) (Str.ofString "TreeGame.value") [.game] π = some (.int (T.v v), π) := by
  refine call_W (F := fn 18) rfl rfl ?_
  generalize hb : (fn 18).body = b
  conv at hb => lhs; whnf
  subst hb
  refine W_gen fun K0 hK0 => ?_
  have r_self : rho₀ (fn 18).params [(.game : D)] (Str.ofString "self") = some (.fz (.game)) := rfl
  generalize rho₀ (fn 18).params _ = ρ at *
  refine W_ret (d := .int (T.v v)) (π₁ := π) ?_ (hK0 _ _ _ ⟨rfl, .inl rfl⟩)
  repeat (first | with_reducible exact f_values | with_reducible exact f_path | with_reducible exact it_path h | with_reducible exact i_val w h.2.1 | w_left | exact f_values | exact f_path | exact it_path h | exact i_val w h.2.1 | exact rfl)
theorem m_key (h : T.At π v) : C T (n + 1) (Str.ofString "TreeGame.key") [.game] π = some (.int (v + 1), π) := by
  refine call_W (F := fn 19) rfl rfl ?_
  generalize hb : (fn 19).body = b
  conv at hb => lhs; whnf
  subst hb
  refine W_gen fun K0 hK0 => ?_
  have r_self : rho₀ (fn 19).params [(.game : D)] (Str.ofString "self") = some (.fz (.game)) := rfl
  generalize rho₀ (fn 19).params _ = ρ at *
  refine W_ret (d := .int (v + 1)) (π₁ := π) ?_ (hK0 _ _ _ ⟨rfl, .inl rfl⟩)
  repeat (first | with_reducible exact f_path | with_reducible exact it_path h | w_left | exact f_path | exact it_path h | exact rfl)
theorem m_side : C T (n + 1) (Str.ofString "TreeGame.side") [.game] [0] = some (.int 0, [0]) := by
  refine call_W (F := fn 24) rfl rfl ?_
  generalize hb : (fn 24).body = b
  conv at hb => lhs; whnf
  subst hb
  refine W_gen fun K0 hK0 => ?_
  have r_self : rho₀ (fn 24).params [(.game : D)] (Str.ofString "self") = some (.fz (.game)) := rfl
  generalize rho₀ (fn 24).params _ = ρ at *
  refine W_ret (d := .int 0) (π₁ := [0]) ?_ (hK0 _ _ _ ⟨rfl, .inl rfl⟩)
  apply E_fin; repeat (first | with_reducible exact f_path | with_reducible exact bi_lenp (π := [0]) (by simp) | w_left | exact f_path | exact bi_lenp (π := [0]) (by simp) | exact rfl)
theorem m_isn (w : T.WF) (h : T.At π v) {j : Nat} (hj : j < (T.kids v).length) : C T (n + 1) (Str.ofString "TreeGame.is_noisy") [.game, .int (1 + (j : Int))] π = some (.bool ((T.o v)[j]?.getD false), π) := by
  refine call_W (F := fn 22) rfl rfl ?_
  generalize hb : (fn 22).body = b
  conv at hb => lhs; whnf
  subst hb
  refine W_gen fun K0 hK0 => ?_
  have r_self : rho₀ (fn 22).params [(.game : D), (.int (1 + (j : Int)) : D)] (Str.ofString "self") = some (.fz (.game)) := rfl
  have r_move : rho₀ (fn 22).params [(.game : D), (.int (1 + (j : Int)) : D)] (Str.ofString "move") = some (.fz (.int (1 + (j : Int)))) := rfl
  generalize rho₀ (fn 22).params _ = ρ at *
  refine W_ret (d := .bool _) (π₁ := π) ?_ (hK0 _ _ _ ⟨rfl, .inl rfl⟩)
  repeat (first | with_reducible exact f_path | with_reducible exact f_noisy | with_reducible exact it_path h | with_reducible exact i_noi w h.2.1 | with_reducible exact i_noij w h.2.1 hj | w_left | exact f_path | exact f_noisy | exact it_path h | exact i_noi w h.2.1 | exact i_noij w h.2.1 hj | exact rfl)
theorem it_range {k : Nat} (hk : k ≤ 1000) : itemsOf (.range 1 ((k : Int) + 1)) = some (mvD (List.range k)) := by
  show (if _ then _ else _) = _
  rw [if_pos (by omega)]
  rw [show ((k : Int) + 1 - 1).toNat = k by omega]
  rfl
theorem m_moves (w : T.WF) (h : T.At π v) : C T (n + 1) (Str.ofString "TreeGame.moves") [.game] π = some (.list (mvD (allJ T v)), π) := by
  refine call_W (F := fn 14) rfl rfl ?_
  generalize hb : (fn 14).body = b
  conv at hb => lhs; whnf
  subst hb
  refine W_gen fun K0 hK0 => ?_
  have r_self : rho₀ (fn 14).params [(.game : D)] (Str.ofString "self") = some (.fz (.game)) := rfl
  generalize rho₀ (fn 14).params _ = ρ at *
  have hf := w.few v h.2.1
  refine W_ret (d := .list (mvD (allJ T v))) (π₁ := π) ?_ (hK0 _ _ _ ⟨rfl, .inl rfl⟩)
  apply E_fin; repeat (first | with_reducible exact f_path | with_reducible exact f_children | with_reducible exact it_path h | with_reducible exact i_ch w h.2.1 | with_reducible exact bi_kids w h.2.1 | with_reducible exact bi_range | with_reducible exact bi_listr (it_range (show (T.kids v).length ≤ 1000 by omega)) | w_left | exact f_path | exact f_children | exact it_path h | exact i_ch w h.2.1 | exact bi_kids w h.2.1 | exact bi_range | exact bi_listr (it_range (show (T.kids v).length ≤ 1000 by omega)) | exact rfl)
theorem mv_len (w : T.WF) (h : v < T.n) : (mvD (allJ T v)).length ≤ 10000 := by
  have := w.few v h
  simp [mvD, allJ]; omega
theorem m_noisy (w : T.WF) (h : T.At π v) : C T (n + 2) (Str.ofString "TreeGame.noisy") [.game] π = some (.list (mvD (noiJ T v)), π) := by
  refine call_W (F := fn 15) rfl rfl ?_
  generalize hb : (fn 15).body = b
  conv at hb => lhs; whnf
  subst hb
  refine W_gen fun K0 hK0 => ?_
  have r_self : rho₀ (fn 15).params [(.game : D)] (Str.ofString "self") = some (.fz (.game)) := rfl
  generalize rho₀ (fn 15).params _ = ρ at *
  have hf := w.few v h.2.1
  refine W_ret (d := .list (mvD (noiJ T v))) (π₁ := π) ?_ (hK0 _ _ _ ⟨rfl, .inl rfl⟩)
  refine e_comp (d := .list (mvD (allJ T v))) (π₁ := π) (items := mvD (allJ T v)) (by rfl) ?_ ?_ ?_
  · repeat (first | w_left | exact rfl)
    exact m_moves w h
  · show (if _ then _ else _) = _
    rw [if_pos (mv_len w h.2.1)]
  · refine go_map (fun (j : Nat) => D.int (1 + (j : Int))) (fun j => (T.o v)[j]?.getD false) (fun (j : Nat) => D.int (1 + (j : Int))) (List.range (T.kids v).length) (fun j hj => ?_) (fun j hj hb => ?_)
    · have := m_isn (n := n) w h (List.mem_range.mp hj)
      have hm : (cfT T.flds).meth (Str.ofString "is_noisy") = some (Str.ofString "TreeGame.is_noisy") := rfl
      repeat (first | with_reducible exact hm | with_reducible exact this | w_left | exact hm | exact this | exact rfl)
    · repeat (first | w_left | exact rfl)
theorem Tr.At.kid (w : T.WF) (h : T.At π v) {j : Nat} (hj : j < (T.kids v).length) : T.At (π ++ [(kd T v j : Int)]) (kd T v j) := by
  obtain ⟨h1, h2, h3, h4⟩ := h
  have hm : kd T v j ∈ T.kids v := by
    have : kd T v j = (T.kids v)[j] := by simp [kd, hj]
    rw [this]; exact List.getElem_mem hj
  obtain ⟨q1, q2⟩ := w.kid v h2 _ hm
  exact ⟨by simp, q2, by simp; omega, h4⟩
theorem m_make (w : T.WF) (h : T.At π v) {j : Nat} (hj : j < (T.kids v).length) : C T (n + 1) (Str.ofString "TreeGame.make") [.game, .int (1 + (j : Int))] π = some (.none, π ++ [(kd T v j : Int)]) := by
  refine call_W (F := fn 16) rfl rfl ?_
  generalize hb : (fn 16).body = b
  conv at hb => lhs; whnf
  subst hb
  refine W_gen fun K0 hK0 => ?_
  have r_self : rho₀ (fn 16).params [(.game : D), (.int (1 + (j : Int)) : D)] (Str.ofString "self") = some (.fz (.game)) := rfl
  have r_move : rho₀ (fn 16).params [(.game : D), (.int (1 + (j : Int)) : D)] (Str.ofString "move") = some (.fz (.int (1 + (j : Int)))) := rfl
  generalize rho₀ (fn 16).params _ = ρ at *
  have hf := w.few v h.2.1
  refine W_as (d := kidsD T v) (π₁ := π) rfl rfl ?_ ?_
  · repeat (first | with_reducible exact f_path | with_reducible exact f_children | with_reducible exact it_path h | with_reducible exact i_ch w h.2.1 | w_left | exact f_path | exact f_children | exact it_path h | exact i_ch w h.2.1 | exact rfl)
  refine W_if (c := decide (1 + (j : Int) < 1) || decide (1 + (j : Int) > (T.kids v).length)) (π₁ := π) ?_ (fun q => ?_) (fun q => ?_)
  · repeat (first | with_reducible exact bi_kids w h.2.1 | w_left | exact bi_kids w h.2.1 | exact rfl)
  · exfalso; simp only [Bool.or_eq_true, decide_eq_true_eq] at q; omega
  · refine W_papp (i := (kd T v j : Int)) ?_ rfl rfl rfl rfl rfl rfl ?_ ?_ ?_
    · repeat (first | w_left | exact rfl)
    · have := h.2.2.1; have := h.2.1; have := w.le; omega
    · repeat (first | with_reducible exact i_kid w h.2.1 hj | w_left | exact i_kid w h.2.1 hj | exact rfl)
    · exact W_nil (hK0 _ _ _ ⟨rfl, .inr ⟨rfl, rfl⟩⟩)
theorem m_undo {x : Int} (h0 : π ≠ []) (hl : π.length < 100) : C T (n + 1) (Str.ofString "TreeGame.undo") [.game] (π ++ [x]) = some (.none, π) := by
  refine call_W (F := fn 17) rfl rfl ?_
  generalize hb : (fn 17).body = b
  conv at hb => lhs; whnf
  subst hb
  refine W_gen fun K0 hK0 => ?_
  have r_self : rho₀ (fn 17).params [(.game : D)] (Str.ofString "self") = some (.fz (.game)) := rfl
  generalize rho₀ (fn 17).params _ = ρ at *
  have h1 : (π ++ [x]).length ≤ 10000 := by simp; omega
  have h2 : 0 < π.length := by cases π with
    | nil => exact absurd rfl h0
    | cons => simp
  refine W_if (c := decide (((π ++ [x]).length : Int) = 1)) (π₁ := π ++ [x]) ?_ (fun q => ?_) (fun q => ?_)
  · repeat (first | with_reducible exact f_path | with_reducible exact bi_lenp h1 | w_left | exact f_path | exact bi_lenp h1 | exact rfl)
  · exfalso; simp at q; omega
  · refine W_ppop ?_ rfl rfl rfl rfl rfl (by simp) (by simp; omega) ?_
    · repeat (first | w_left | exact rfl)
    · rw [List.dropLast_concat]
      exact W_nil (hK0 _ _ _ ⟨rfl, .inr ⟨rfl, rfl⟩⟩)
end

section
variable {f : List (Str × D)}
theorem gf_mated : (cfT f).gfun (Str.ofString "mated_in") = some (Str.ofString "mated_in") := rfl
theorem gf_qw : (cfT f).gfun (Str.ofString "quiesce_window") = some (Str.ofString "quiesce_window") := rfl
theorem gf_ab : (cfT f).gfun (Str.ofString "alpha_beta") = some (Str.ofString "alpha_beta") := rfl
theorem gf_within : (cfT f).gfun (Str.ofString "within") = some (Str.ofString "within") := rfl
theorem gf_hard : (cfT f).gfun (Str.ofString "alpha_beta_hard") = some (Str.ofString "alpha_beta_hard") := rfl
theorem gf_cutoff : (cfT f).gfun (Str.ofString "cutoff") = some (Str.ofString "cutoff") := rfl
theorem gf_pq : (cfT f).gfun (Str.ofString "plain_quiesce") = some (Str.ofString "plain_quiesce") := rfl
theorem gf_end : (cfT f).gfun (Str.ofString "end_value") = some (Str.ofString "end_value") := rfl
theorem gf_ng : (cfT f).gfun (Str.ofString "negamax") = some (Str.ofString "negamax") := rfl
theorem gf_line : (cfT f).gfun (Str.ofString "negamax_line") = some (Str.ofString "negamax_line") := rfl
theorem gf_best : (cfT f).gfun (Str.ofString "best_moves") = some (Str.ofString "best_moves") := rfl
theorem mm_moves : (cfT f).meth (Str.ofString "moves") = some (Str.ofString "TreeGame.moves") := rfl
theorem mm_noisy : (cfT f).meth (Str.ofString "noisy") = some (Str.ofString "TreeGame.noisy") := rfl
theorem mm_make : (cfT f).meth (Str.ofString "make") = some (Str.ofString "TreeGame.make") := rfl
theorem mm_undo : (cfT f).meth (Str.ofString "undo") = some (Str.ofString "TreeGame.undo") := rfl
theorem mm_value : (cfT f).meth (Str.ofString "value") = some (Str.ofString "TreeGame.value") := rfl
theorem mm_key : (cfT f).meth (Str.ofString "key") = some (Str.ofString "TreeGame.key") := rfl
theorem mm_check : (cfT f).meth (Str.ofString "in_check") = some (Str.ofString "TreeGame.in_check") := rfl
theorem mm_draw : (cfT f).meth (Str.ofString "is_draw") = some (Str.ofString "TreeGame.is_draw") := rfl
theorem mm_side : (cfT f).meth (Str.ofString "side") = some (Str.ofString "TreeGame.side") := rfl
end
section
variable {T : Tr} {π : List Int} {v n : Nat}
/-- the best of the ways -/
noncomputable def loopP (g : Nat → Int) : List Nat → Int → Int
  | [], b => b
  | j :: r, b => loopP g r (if -(g j) > b then -(g j) else b)
noncomputable def pq (T : Tr) : Nat → Int → Nat → Int
  | 0, p, v => if 0 < p ∧ T.d v = true then 0 else if T.k v = true ∧ (T.kids v).length = 0 then p - 32000 else T.v v
  | q + 1, p, v => if 0 < p ∧ T.d v = true then 0 else if T.k v = true then (if (T.kids v).length = 0 then p - 32000 else loopP (fun j => pq T q (p + 1) (kd T v j)) (allJ T v) (-32001))
    else loopP (fun j => pq T q (p + 1) (kd T v j)) (noiJ T v) (T.v v)
theorem m_mated {p : Int} : C T (n + 1) (Str.ofString "mated_in") [.int p] π = some (.int (p - 32000), π) := by
  refine call_W (F := fn 1) rfl rfl ?_
  generalize hb : (fn 1).body = b
  conv at hb => lhs; whnf
  subst hb
  refine W_gen fun K0 hK0 => ?_
  have r_ply : rho₀ (fn 1).params [(.int p : D)] (Str.ofString "ply") = some (.fz (.int p)) := rfl
  generalize rho₀ (fn 1).params _ = ρ at *
  refine W_ret (d := .int (p - 32000)) (π₁ := π) ?_ (hK0 _ _ _ ⟨rfl, .inl rfl⟩)
  repeat (first | w_left | exact rfl)
noncomputable def endV (T : Tr) (p : Int) (v : Nat) : Int := if T.k v = true then p - 32000 else 0
theorem m_end (w : T.WF) (h : T.At π v) {p : Int} : C T (n + 2) (Str.ofString "end_value") [.game, .int p] π = some (.int (endV T p v), π) := by
  refine call_W (F := fn 8) rfl rfl ?_
  generalize hb : (fn 8).body = b
  conv at hb => lhs; whnf
  subst hb
  refine W_gen fun K0 hK0 => ?_
  have r_game : rho₀ (fn 8).params [(.game : D), (.int p : D)] (Str.ofString "game") = some (.fz (.game)) := rfl
  have r_ply : rho₀ (fn 8).params [(.game : D), (.int p : D)] (Str.ofString "ply") = some (.fz (.int p)) := rfl
  generalize rho₀ (fn 8).params _ = ρ at *
  refine W_if (c := T.k v) (π₁ := π) ?_ (fun q => ?_) (fun q => ?_)
  · repeat (first | with_reducible exact m_check w h | w_left | exact m_check w h | exact rfl)
  · refine W_ret (d := .int (p - 32000)) (π₁ := π) ?_ (hK0 _ _ _ ⟨rfl, .inl (by rw [endV, if_pos q])⟩)
    repeat (first | with_reducible exact m_mated | w_left | exact m_mated | exact rfl)
  · refine W_ret (d := .int 0) (π₁ := π) ?_ (hK0 _ _ _ ⟨rfl, .inl (by rw [endV, if_neg (by simp [q])])⟩)
    repeat (first | w_left | exact rfl)
noncomputable def clamp (x a b : Int) : Int := if x < a then a else if x > b then b else x
theorem m_within {x a b : Int} : C T (n + 1) (Str.ofString "within") [.int x, .int a, .int b] π = some (.int (clamp x a b), π) := by
  refine call_W (F := fn 4) rfl rfl ?_
  generalize hb : (fn 4).body = b
  conv at hb => lhs; whnf
  subst hb
  refine W_gen fun K0 hK0 => ?_
  have r_value : rho₀ (fn 4).params [(.int x : D), (.int a : D), (.int b : D)] (Str.ofString "value") = some (.fz (.int x)) := rfl
  have r_alpha : rho₀ (fn 4).params [(.int x : D), (.int a : D), (.int b : D)] (Str.ofString "alpha") = some (.fz (.int a)) := rfl
  have r_beta : rho₀ (fn 4).params [(.int x : D), (.int a : D), (.int b : D)] (Str.ofString "beta") = some (.fz (.int b)) := rfl
  generalize rho₀ (fn 4).params _ = ρ at *
  refine W_if (c := decide (x < a)) (π₁ := π) ?_ (fun q => ?_) (fun q => ?_)
  · repeat (first | w_left | exact rfl)
  · refine W_ret (d := .int a) (π₁ := π) ?_ (hK0 _ _ _ ⟨rfl, .inl (by rw [clamp, if_pos (by simpa using q)])⟩)
    repeat (first | w_left | exact rfl)
  refine W_if (c := decide (x > b)) (π₁ := π) ?_ (fun q' => ?_) (fun q' => ?_)
  · repeat (first | w_left | exact rfl)
  · refine W_ret (d := .int b) (π₁ := π) ?_ (hK0 _ _ _ ⟨rfl, .inl (by rw [clamp, if_neg (by simpa using q), if_pos (by simpa using q')])⟩)
    repeat (first | w_left | exact rfl)
  · refine W_ret (d := .int x) (π₁ := π) ?_ (hK0 _ _ _ ⟨rfl, .inl (by rw [clamp, if_neg (by simpa using q), if_neg (by simpa using q')])⟩)
    repeat (first | w_left | exact rfl)
theorem tr_mv {js : List Nat} (h : js.length ≤ 10000) : truth (.list (mvD js)) = some (!js.isEmpty) := by
  show (if _ then _ else _) = _
  rw [if_pos (by simpa [mvD] using h)]
  cases js <;> rfl
theorem it_mv {js : List Nat} (h : js.length ≤ 10000) : itemsOf (.list (mvD js)) = some (mvD js) := by
  show (if _ then _ else _) = _
  rw [if_pos (by simpa [mvD] using h)]
theorem allJ_len (w : T.WF) (h : v < T.n) : (allJ T v).length ≤ 10000 := by have := w.few v h; simp [allJ]; omega
theorem noiJ_len (w : T.WF) (h : v < T.n) : (noiJ T v).length ≤ 10000 := by
  have := w.few v h
  have := List.length_filter_le (fun j => (T.o v)[j]?.getD false) (List.range (T.kids v).length)
  simp only [noiJ]; simp at this ⊢; omega
theorem allJ_lt {j : Nat} (h : j ∈ allJ T v) : j < (T.kids v).length := List.mem_range.mp h
theorem noiJ_lt {j : Nat} (h : j ∈ noiJ T v) : j < (T.kids v).length := List.mem_range.mp (List.mem_filter.mp h).1
theorem allJ_nil : (allJ T v).isEmpty = true ↔ (T.kids v).length = 0 := by
  simp [allJ]


/-- the turns of the loop: make, call, undo -/
noncomputable abbrev KV (k : Nat) : Str → Option NameKind := fun y => (fn k).scope.names.lookup y
theorem pq_tail (w : T.WF) {q : Nat} {p : Int} (h : T.At π v) (ih : ∀ (v : Nat) (p : Int) (π : List Int), T.At π v → C T (n + q + 3) (Str.ofString "plain_quiesce") [.game, .int p, .int (q : Int)] π = some (.int (pq T q p v), π))
    {m : Nat} {K : Kp} {js : List Nat} {b : Int} {ρ : Rho} (hj : ∀ j ∈ js, j < (T.kids v).length) (hl : js.length ≤ 10000) (r_game : ρ (Str.ofString "game") = some (.fz .game)) (r_ply : ρ (Str.ofString "ply") = some (.fz (.int p)))
    (r_qdepth : ρ (Str.ofString "qdepth") = some (.fz (.int ((q + 1 : Nat) : Int)))) (r_moves : ρ (Str.ofString "moves") = some (.fz (.list (mvD js)))) (r_best : ρ (Str.ofString "best") = some (.fz (.int b)))
    (hK : ∀ ρ', K (.ret (.int (loopP (fun j => pq T q (p + 1) (kd T v j)) js b))) ρ' π) : W (cfT T.flds) (C T (n + q + 3)) (KV 7) (m + 4) ((fn 7).body.drop 2) K ρ π := by
  generalize hb : (fn 7).body.drop 2 = b
  conv at hb => lhs; whnf
  subst hb
  have hq : ((q + 1 : Nat) : Int) - 1 = (q : Int) := by omega
  have h0 : π ≠ [] := by intro e; subst e; simp [Tr.At] at h
  have hlen : π.length < 100 := by have := h.2.2.1; have := h.2.1; have := w.le; omega
  refine W_for (d := .list (mvD js)) (π₁ := π) rfl ?_ (it_mv hl) (fun items ρ' π' => ∃ js' b', items = mvD js' ∧ (∀ j ∈ js', j < (T.kids v).length) ∧ π' = π ∧ ρ' (Str.ofString "game") = some (.fz .game) ∧ ρ' (Str.ofString "ply") = some (.fz (.int p)) ∧
    ρ' (Str.ofString "qdepth") = some (.fz (.int ((q + 1 : Nat) : Int))) ∧ ρ' (Str.ofString "best") = some (.fz (.int b')) ∧ loopP (fun j => pq T q (p + 1) (kd T v j)) js' b' = loopP (fun j => pq T q (p + 1) (kd T v j)) js b) ?_ ?_ ?_
  · repeat (first | w_left | exact rfl)
  · refine ⟨js, b, rfl, hj, rfl, ?_, ?_, ?_, ?_, rfl⟩
    · repeat (first | w_left | exact rfl)
    · repeat (first | w_left | exact rfl)
    · repeat (first | w_left | exact rfl)
    · repeat (first | w_left | exact rfl)
  · intro d rest ρ' π' hI
    refine W_gen fun KL0 hL0 => ?_
    obtain ⟨js', b', he, hj', rfl, r_game, r_ply, r_qdepth, r_best, hR⟩ := hI
    cases js' with
    | nil => cases he
    | cons j js' =>
      cases he
      have hjl := hj' j List.mem_cons_self
      refine W_callM (d := .game) (π₁ := π' ++ [(kd T v j : Int)]) ?_ ?_ ?_
      · repeat (first | w_left | exact rfl)
      · repeat (first | with_reducible exact m_make w h hjl | w_left | exact m_make w h hjl | exact rfl)
      refine W_as (d := .int (-(pq T q (p + 1) (kd T v j)))) (π₁ := π' ++ [(kd T v j : Int)]) rfl rfl ?_ ?_
      · repeat (first | with_reducible exact ih _ (p + 1) _ (h.kid w hjl) | w_left | rw [hq] | exact ih _ (p + 1) _ (h.kid w hjl) | exact rfl)
      refine W_callM (d := .game) (π₁ := π') ?_ ?_ ?_
      · repeat (first | w_left | exact rfl)
      · repeat (first | with_reducible exact m_undo h0 hlen | w_left | exact m_undo h0 hlen | exact rfl)
      refine W_if (c := decide (-(pq T q (p + 1) (kd T v j)) > b')) (π₁ := π') ?_ (fun q1 => ?_) (fun q1 => ?_)
      · repeat (first | w_left | exact rfl)
      · refine W_as (d := .int (-(pq T q (p + 1) (kd T v j)))) (π₁ := π') rfl rfl ?_ ?_
        · repeat (first | w_left | exact rfl)
        refine W_nil (hL0 _ _ _ ⟨js', -(pq T q (p + 1) (kd T v j)), rfl, fun j hj => hj' j (List.mem_cons_of_mem _ hj), rfl, ?_, ?_, ?_, ?_, ?_⟩)
        · repeat (first | w_left | exact rfl)
        · repeat (first | w_left | exact rfl)
        · repeat (first | w_left | exact rfl)
        · repeat (first | w_left | exact rfl)
        · rw [← hR, loopP, if_pos (by simpa using q1)]
      · refine W_nil (hL0 _ _ _ ⟨js', b', rfl, fun j hj => hj' j (List.mem_cons_of_mem _ hj), rfl, ?_, ?_, ?_, ?_, ?_⟩)
        · repeat (first | w_left | exact rfl)
        · repeat (first | w_left | exact rfl)
        · repeat (first | w_left | exact rfl)
        · repeat (first | w_left | exact rfl)
        · rw [← hR, loopP, if_neg (by simpa using q1)]
  · rintro ρ' π' ⟨js', b', he, hj', rfl, r_game, r_ply, r_qdepth, r_best, hR⟩
    cases js' with
    | cons => cases he
    | nil =>
      refine W_ret (d := .int b') (π₁ := π') ?_ ?_
      · repeat (first | w_left | exact rfl)
      · have e : b' = loopP (fun j => pq T q (p + 1) (kd T v j)) js b := hR
        rw [e]; exact hK _
theorem m_pq (w : T.WF) : ∀ (q v : Nat) (p : Int) (π : List Int), T.At π v → C T (n + q + 3) (Str.ofString "plain_quiesce") [.game, .int p, .int (q : Int)] π = some (.int (pq T q p v), π) := by
  intro q
  induction q with
  | zero =>
    intro v p π h
    refine call_W (F := fn 7) rfl rfl ?_
    generalize hb : (fn 7).body = b
    conv at hb => lhs; whnf
    subst hb
    refine W_gen fun K0 hK0 => ?_
    have r_game : rho₀ (fn 7).params [(.game : D), (.int p : D), (.int ((0 : Nat) : Int) : D)] (Str.ofString "game") = some (.fz (.game)) := rfl
    have r_ply : rho₀ (fn 7).params [(.game : D), (.int p : D), (.int ((0 : Nat) : Int) : D)] (Str.ofString "ply") = some (.fz (.int p)) := rfl
    have r_qdepth : rho₀ (fn 7).params [(.game : D), (.int p : D), (.int ((0 : Nat) : Int) : D)] (Str.ofString "qdepth") = some (.fz (.int ((0 : Nat) : Int))) := rfl
    generalize rho₀ (fn 7).params _ = ρ at *
    refine W_if (c := decide (p > 0) && T.d v) (π₁ := π) ?_ (fun qd => ?_) (fun qd => ?_)
    · repeat (first | with_reducible exact m_draw w h | w_left | exact m_draw w h | exact rfl)
    · refine W_ret (d := .int 0) (π₁ := π) ?_ (hK0 _ _ _ ⟨rfl, .inl (by simp only [Bool.and_eq_true, decide_eq_true_eq] at qd; rw [pq, if_pos qd])⟩)
      repeat (first | w_left | exact rfl)
    have q0 : ¬ (0 < p ∧ T.d v = true) := by simpa using qd
    refine W_if (c := T.k v) (π₁ := π) ?_ (fun q1 => ?_) (fun q1 => ?_)
    · repeat (first | with_reducible exact m_check w h | w_left | exact m_check w h | exact rfl)
    · refine W_as (d := .list (mvD (allJ T v))) (π₁ := π) rfl rfl ?_ ?_
      · repeat (first | with_reducible exact m_moves w h | w_left | exact m_moves w h | exact rfl)
      refine W_if (c := !(!(allJ T v).isEmpty)) (π₁ := π) ?_ (fun q2 => ?_) (fun q2 => ?_)
      · repeat (first | with_reducible exact tr_mv (allJ_len w h.2.1) | w_left | exact tr_mv (allJ_len w h.2.1) | exact rfl)
      · have q2 : (T.kids v).length = 0 := allJ_nil.mp (by simpa using q2)
        refine W_ret (d := .int (p - 32000)) (π₁ := π) ?_ (hK0 _ _ _ ⟨rfl, .inl (by rw [pq, if_neg q0, if_pos ⟨q1, q2⟩])⟩)
        repeat (first | with_reducible exact m_mated | w_left | exact m_mated | exact rfl)
      · have q2 : ¬ (T.kids v).length = 0 := fun e => by have := allJ_nil.mpr e; simp [this] at q2
        refine W_if (c := decide (((0 : Nat) : Int) ≤ 0)) (π₁ := π) ?_ (fun q3 => ?_) (fun q3 => ?_)
        · repeat (first | w_left | exact rfl)
        · refine W_ret (d := .int (T.v v)) (π₁ := π) ?_ (hK0 _ _ _ ⟨rfl, .inl (by rw [pq, if_neg q0, if_neg fun e => q2 e.2])⟩)
          repeat (first | with_reducible exact m_value w h | w_left | exact m_value w h | exact rfl)
        · simp at q3
    · refine W_as (d := .int (T.v v)) (π₁ := π) rfl rfl ?_ ?_
      · repeat (first | with_reducible exact m_value w h | w_left | exact m_value w h | exact rfl)
      refine W_if (c := decide (((0 : Nat) : Int) ≤ 0)) (π₁ := π) ?_ (fun q3 => ?_) (fun q3 => ?_)
      · repeat (first | w_left | exact rfl)
      · refine W_ret (d := .int (T.v v)) (π₁ := π) ?_ (hK0 _ _ _ ⟨rfl, .inl (by rw [pq, if_neg q0, if_neg fun e => by rw [q1] at e; exact absurd e.1 (by simp)])⟩)
        repeat (first | w_left | exact rfl)
      · simp at q3
  | succ q ih =>
    intro v p π h
    refine call_W (F := fn 7) rfl rfl ?_
    generalize hb : (fn 7).body = b
    conv at hb => lhs; whnf
    subst hb
    refine W_gen fun K0 hK0 => ?_
    have r_game : rho₀ (fn 7).params [(.game : D), (.int p : D), (.int ((q + 1 : Nat) : Int) : D)] (Str.ofString "game") = some (.fz (.game)) := rfl
    have r_ply : rho₀ (fn 7).params [(.game : D), (.int p : D), (.int ((q + 1 : Nat) : Int) : D)] (Str.ofString "ply") = some (.fz (.int p)) := rfl
    have r_qdepth : rho₀ (fn 7).params [(.game : D), (.int p : D), (.int ((q + 1 : Nat) : Int) : D)] (Str.ofString "qdepth") = some (.fz (.int ((q + 1 : Nat) : Int))) := rfl
    generalize rho₀ (fn 7).params _ = ρ at *
    refine W_if (c := decide (p > 0) && T.d v) (π₁ := π) ?_ (fun qd => ?_) (fun qd => ?_)
    · repeat (first | with_reducible exact m_draw w h | w_left | exact m_draw w h | exact rfl)
    · refine W_ret (d := .int 0) (π₁ := π) ?_ (hK0 _ _ _ ⟨rfl, .inl (by simp only [Bool.and_eq_true, decide_eq_true_eq] at qd; rw [pq, if_pos qd])⟩)
      repeat (first | w_left | exact rfl)
    have q0 : ¬ (0 < p ∧ T.d v = true) := by simpa using qd
    have hq : ((q + 1 : Nat) : Int) - 1 = (q : Int) := by omega
    refine W_if (c := T.k v) (π₁ := π) ?_ (fun q1 => ?_) (fun q1 => ?_)
    · repeat (first | with_reducible exact m_check w h | w_left | exact m_check w h | exact rfl)
    · refine W_as (d := .list (mvD (allJ T v))) (π₁ := π) rfl rfl ?_ ?_
      · repeat (first | with_reducible exact m_moves w h | w_left | exact m_moves w h | exact rfl)
      refine W_if (c := !(!(allJ T v).isEmpty)) (π₁ := π) ?_ (fun q2 => ?_) (fun q2 => ?_)
      · repeat (first | with_reducible exact tr_mv (allJ_len w h.2.1) | w_left | exact tr_mv (allJ_len w h.2.1) | exact rfl)
      · have q2 : (T.kids v).length = 0 := allJ_nil.mp (by simpa using q2)
        refine W_ret (d := .int (p - 32000)) (π₁ := π) ?_ (hK0 _ _ _ ⟨rfl, .inl (by rw [pq, if_neg q0, if_pos q1, if_pos q2])⟩)
        repeat (first | with_reducible exact m_mated | w_left | exact m_mated | exact rfl)
      · have q2 : ¬ (T.kids v).length = 0 := fun e => by have := allJ_nil.mpr e; simp [this] at q2
        refine W_if (c := decide (((q + 1 : Nat) : Int) ≤ 0)) (π₁ := π) ?_ (fun q3 => ?_) (fun q3 => ?_)
        · repeat (first | w_left | exact rfl)
        · simp at q3; omega
        refine W_as (d := .int (-32001)) (π₁ := π) rfl rfl ?_ ?_
        · repeat (first | w_left | exact rfl)
        refine pq_tail w h ih (js := allJ T v) (b := -32001) (fun _ => allJ_lt) (allJ_len w h.2.1) ?_ ?_ ?_ ?_ ?_ (fun ρ' => hK0 _ _ _ ⟨rfl, .inl (by rw [pq, if_neg q0, if_pos q1, if_neg q2])⟩)
        · repeat (first | w_left | exact rfl)
        · repeat (first | w_left | exact rfl)
        · repeat (first | w_left | exact rfl)
        · repeat (first | w_left | exact rfl)
        · repeat (first | w_left | exact rfl)
    · have q1' : ¬ T.k v = true := by simp [q1]
      refine W_as (d := .int (T.v v)) (π₁ := π) rfl rfl ?_ ?_
      · repeat (first | with_reducible exact m_value w h | w_left | exact m_value w h | exact rfl)
      refine W_if (c := decide (((q + 1 : Nat) : Int) ≤ 0)) (π₁ := π) ?_ (fun q3 => ?_) (fun q3 => ?_)
      · repeat (first | w_left | exact rfl)
      · simp at q3; omega
      refine W_as (d := .list (mvD (noiJ T v))) (π₁ := π) rfl rfl ?_ ?_
      · repeat (first | with_reducible exact m_noisy w h | w_left | exact m_noisy w h | exact rfl)
      refine pq_tail w h ih (js := noiJ T v) (b := T.v v) (fun _ => noiJ_lt) (noiJ_len w h.2.1) ?_ ?_ ?_ ?_ ?_ (fun ρ' => hK0 _ _ _ ⟨rfl, .inl (by rw [pq, if_neg q0, if_neg q1'])⟩)
      · repeat (first | w_left | exact rfl)
      · repeat (first | w_left | exact rfl)
      · repeat (first | w_left | exact rfl)
      · repeat (first | w_left | exact rfl)
      · repeat (first | w_left | exact rfl)
end

section
variable {T : Tr} {π : List Int} {v n : Nat}

noncomputable def loopW (g : Nat → Int → Int → Int) : List Nat → Int → Int → Int → Int
  | [], _, _, b => b
  | j :: r, a, e, b => if -(g j (-e) (-a)) > b then (if -(g j (-e) (-a)) ≥ e then -(g j (-e) (-a)) else loopW g r (if -(g j (-e) (-a)) > a then -(g j (-e) (-a)) else a) e (-(g j (-e) (-a)))) else loopW g r a e b
noncomputable def qw (T : Tr) : Nat → Int → Int → Int → Nat → Int
  | 0, _, _, p, v => if 0 < p ∧ T.d v = true then 0 else if T.k v = true ∧ (T.kids v).length = 0 then p - 32000 else T.v v
  | q + 1, a, e, p, v => if 0 < p ∧ T.d v = true then 0 else if T.k v = true then (if (T.kids v).length = 0 then p - 32000 else loopW (fun j a e => qw T q a e (p + 1) (kd T v j)) (allJ T v) a e (-32001))
    else if T.v v ≥ e then T.v v else loopW (fun j a e => qw T q a e (p + 1) (kd T v j)) (noiJ T v) (if T.v v > a then T.v v else a) e (T.v v)
theorem qw_tail (w : T.WF) {q : Nat} {p : Int} (h : T.At π v) (ih : ∀ (v : Nat) (a e p : Int) (π : List Int), T.At π v → C T (n + q + 3) (Str.ofString "quiesce_window") [.game, .int a, .int e, .int p, .int (q : Int)] π = some (.int (qw T q a e p v), π))
    {m : Nat} {K : Kp} {js : List Nat} {a e b : Int} {ρ : Rho} (hj : ∀ j ∈ js, j < (T.kids v).length) (hl : js.length ≤ 10000) (r_game : ρ (Str.ofString "game") = some (.fz .game)) (r_ply : ρ (Str.ofString "ply") = some (.fz (.int p)))
    (r_qdepth : ρ (Str.ofString "qdepth") = some (.fz (.int ((q + 1 : Nat) : Int)))) (r_alpha : ρ (Str.ofString "alpha") = some (.fz (.int a))) (r_beta : ρ (Str.ofString "beta") = some (.fz (.int e))) (r_moves : ρ (Str.ofString "moves") = some (.fz (.list (mvD js)))) (r_best : ρ (Str.ofString "best") = some (.fz (.int b)))
    (hK : ∀ ρ', K (.ret (.int (loopW (fun j a e => qw T q a e (p + 1) (kd T v j)) js a e b))) ρ' π) : W (cfT T.flds) (C T (n + q + 3)) (KV 2) (m + 6) ((fn 2).body.drop 2) K ρ π := by
  generalize hb : (fn 2).body.drop 2 = b
  conv at hb => lhs; whnf
  subst hb
  have hq : ((q + 1 : Nat) : Int) - 1 = (q : Int) := by omega
  have h0 : π ≠ [] := by intro e; subst e; simp [Tr.At] at h
  have hlen : π.length < 100 := by have := h.2.2.1; have := h.2.1; have := w.le; omega
  refine W_for (d := .list (mvD js)) (π₁ := π) rfl ?_ (it_mv hl) (fun items ρ' π' => ∃ js' a' b', items = mvD js' ∧ (∀ j ∈ js', j < (T.kids v).length) ∧ π' = π ∧ ρ' (Str.ofString "game") = some (.fz (.game)) ∧ ρ' (Str.ofString "ply") = some (.fz (.int p)) ∧ ρ' (Str.ofString "qdepth") = some (.fz (.int ((q + 1 : Nat) : Int))) ∧ ρ' (Str.ofString "alpha") = some (.fz (.int a')) ∧ ρ' (Str.ofString "beta") = some (.fz (.int (e))) ∧ ρ' (Str.ofString "best") = some (.fz (.int b')) ∧ loopW (fun j a e => qw T q a e (p + 1) (kd T v j)) js' a' (e) b' = loopW (fun j a e => qw T q a e (p + 1) (kd T v j)) js (a) (e) (b)) ?_ ?_ ?_
  · repeat (first | w_left | exact rfl)
  · refine ⟨js, a, b, rfl, hj, rfl, ?_, ?_, ?_, ?_, ?_, ?_, rfl⟩
    · repeat (first | w_left | exact rfl)
    · repeat (first | w_left | exact rfl)
    · repeat (first | w_left | exact rfl)
    · repeat (first | w_left | exact rfl)
    · repeat (first | w_left | exact rfl)
    · repeat (first | w_left | exact rfl)
  · intro d rest ρ' π' hI
    refine W_gen fun KL0 hL0 => ?_
    obtain ⟨js', a', b', he, hj', rfl, r_game, r_ply, r_qdepth, r_alpha, r_beta, r_best, hR⟩ := hI
    cases js' with
    | nil => cases he
    | cons j js' =>
      cases he
      have hjl := hj' j List.mem_cons_self
      refine W_callM (d := .game) (π₁ := π' ++ [(kd T v j : Int)]) ?_ ?_ ?_
      · repeat (first | w_left | exact rfl)
      · repeat (first | with_reducible exact m_make w h hjl | w_left | exact m_make w h hjl | exact rfl)
      refine W_as (d := .int (-((fun j a e => qw T q a e (p + 1) (kd T v j)) j (-(e)) (-a')))) (π₁ := π' ++ [(kd T v j : Int)]) rfl rfl ?_ ?_
      · repeat (first | with_reducible exact ih _ _ _ (p + 1) _ (h.kid w hjl) | w_left | rw [hq] | exact ih _ _ _ (p + 1) _ (h.kid w hjl) | exact rfl)
      refine W_callM (d := .game) (π₁ := π') ?_ ?_ ?_
      · repeat (first | w_left | exact rfl)
      · repeat (first | with_reducible exact m_undo h0 hlen | w_left | exact m_undo h0 hlen | exact rfl)
      generalize hX : (-((fun j a e => qw T q a e (p + 1) (kd T v j)) j (-(e)) (-a'))) = X
      refine W_if (c := decide (X > b')) (π₁ := π') ?_ (fun q1 => ?_) (fun q1 => ?_)
      · repeat (first | w_left | exact rfl)
      · have q1 : X > b' := by simpa using q1
        refine W_as (d := .int X) (π₁ := π') rfl rfl ?_ ?_
        · repeat (first | w_left | exact rfl)
        refine W_if (c := decide (X > a')) (π₁ := π') ?_ (fun q2 => ?_) (fun q2 => ?_)
        · repeat (first | w_left | exact rfl)
        · have q2 : X > a' := by simpa using q2
          refine W_as (d := .int X) (π₁ := π') rfl rfl ?_ ?_
          · repeat (first | w_left | exact rfl)
          refine W_if (c := decide (X ≥ e)) (π₁ := π') ?_ (fun q3 => ?_) (fun q3 => ?_)
          · repeat (first | w_left | exact rfl)
          · refine W_brk (hL0 _ _ _ ?_)
            refine W_ret (d := .int X) (π₁ := π') ?_ ?_
            · repeat (first | w_left | exact rfl)
            · have e : X = loopW (fun j a e => qw T q a e (p + 1) (kd T v j)) js (a) (e) (b) := by
                rw [← hR, loopW, hX, if_pos q1, if_pos (by simpa using q3)]
              rw [e]; exact hK _
          · refine W_nil (hL0 _ _ _ ⟨js', X, X, rfl, fun j hj => hj' j (List.mem_cons_of_mem _ hj), rfl, ?_, ?_, ?_, ?_, ?_, ?_, ?_⟩)
            · repeat (first | w_left | exact rfl)
            · repeat (first | w_left | exact rfl)
            · repeat (first | w_left | exact rfl)
            · repeat (first | w_left | exact rfl)
            · repeat (first | w_left | exact rfl)
            · repeat (first | w_left | exact rfl)
            · rw [← hR, loopW, hX, if_pos q1, if_neg (by simpa using q3), if_pos q2]
        · have q2 : ¬ X > a' := by simpa using q2
          refine W_if (c := decide (X ≥ e)) (π₁ := π') ?_ (fun q3 => ?_) (fun q3 => ?_)
          · repeat (first | w_left | exact rfl)
          · refine W_brk (hL0 _ _ _ ?_)
            refine W_ret (d := .int X) (π₁ := π') ?_ ?_
            · repeat (first | w_left | exact rfl)
            · have e : X = loopW (fun j a e => qw T q a e (p + 1) (kd T v j)) js (a) (e) (b) := by
                rw [← hR, loopW, hX, if_pos q1, if_pos (by simpa using q3)]
              rw [e]; exact hK _
          · refine W_nil (hL0 _ _ _ ⟨js', a', X, rfl, fun j hj => hj' j (List.mem_cons_of_mem _ hj), rfl, ?_, ?_, ?_, ?_, ?_, ?_, ?_⟩)
            · repeat (first | w_left | exact rfl)
            · repeat (first | w_left | exact rfl)
            · repeat (first | w_left | exact rfl)
            · repeat (first | w_left | exact rfl)
            · repeat (first | w_left | exact rfl)
            · repeat (first | w_left | exact rfl)
            · rw [← hR, loopW, hX, if_pos q1, if_neg (by simpa using q3), if_neg q2]
      · have q1 : ¬ X > b' := by simpa using q1
        refine W_nil (hL0 _ _ _ ⟨js', a', b', rfl, fun j hj => hj' j (List.mem_cons_of_mem _ hj), rfl, ?_, ?_, ?_, ?_, ?_, ?_, ?_⟩)
        · repeat (first | w_left | exact rfl)
        · repeat (first | w_left | exact rfl)
        · repeat (first | w_left | exact rfl)
        · repeat (first | w_left | exact rfl)
        · repeat (first | w_left | exact rfl)
        · repeat (first | w_left | exact rfl)
        · rw [← hR, loopW, hX, if_neg q1]
  · rintro ρ' π' ⟨js', a', b', he, hj', rfl, r_game, r_ply, r_qdepth, r_alpha, r_beta, r_best, hR⟩
    cases js' with
    | cons => cases he
    | nil =>
      refine W_ret (d := .int b') (π₁ := π') ?_ ?_
      · repeat (first | w_left | exact rfl)
      · have e : b' = loopW (fun j a e => qw T q a e (p + 1) (kd T v j)) js (a) (e) (b) := hR
        rw [e]; exact hK _
theorem m_qw (w : T.WF) : ∀ (q v : Nat) (a e p : Int) (π : List Int), T.At π v → C T (n + q + 3) (Str.ofString "quiesce_window") [.game, .int a, .int e, .int p, .int (q : Int)] π = some (.int (qw T q a e p v), π) := by
  intro q
  induction q with
  | zero =>
    intro v a e p π h
    refine call_W (F := fn 2) rfl rfl ?_
    generalize hb : (fn 2).body = b
    conv at hb => lhs; whnf
    subst hb
    refine W_gen fun K0 hK0 => ?_
    have r_game : rho₀ (fn 2).params [(.game : D), (.int a : D), (.int e : D), (.int p : D), (.int ((0 : Nat) : Int) : D)] (Str.ofString "game") = some (.fz (.game)) := rfl
    have r_alpha : rho₀ (fn 2).params [(.game : D), (.int a : D), (.int e : D), (.int p : D), (.int ((0 : Nat) : Int) : D)] (Str.ofString "alpha") = some (.fz (.int a)) := rfl
    have r_beta : rho₀ (fn 2).params [(.game : D), (.int a : D), (.int e : D), (.int p : D), (.int ((0 : Nat) : Int) : D)] (Str.ofString "beta") = some (.fz (.int e)) := rfl
    have r_ply : rho₀ (fn 2).params [(.game : D), (.int a : D), (.int e : D), (.int p : D), (.int ((0 : Nat) : Int) : D)] (Str.ofString "ply") = some (.fz (.int p)) := rfl
    have r_qdepth : rho₀ (fn 2).params [(.game : D), (.int a : D), (.int e : D), (.int p : D), (.int ((0 : Nat) : Int) : D)] (Str.ofString "qdepth") = some (.fz (.int ((0 : Nat) : Int))) := rfl
    generalize rho₀ (fn 2).params _ = ρ at *
    refine W_if (c := decide (p > 0) && T.d v) (π₁ := π) ?_ (fun qd => ?_) (fun qd => ?_)
    · repeat (first | with_reducible exact m_draw w h | w_left | exact m_draw w h | exact rfl)
    · refine W_ret (d := .int 0) (π₁ := π) ?_ (hK0 _ _ _ ⟨rfl, .inl (by simp only [Bool.and_eq_true, decide_eq_true_eq] at qd; rw [qw, if_pos qd])⟩)
      repeat (first | w_left | exact rfl)
    have q0 : ¬ (0 < p ∧ T.d v = true) := by simpa using qd
    refine W_if (c := T.k v) (π₁ := π) ?_ (fun q1 => ?_) (fun q1 => ?_)
    · repeat (first | with_reducible exact m_check w h | w_left | exact m_check w h | exact rfl)
    · refine W_as (d := .list (mvD (allJ T v))) (π₁ := π) rfl rfl ?_ ?_
      · repeat (first | with_reducible exact m_moves w h | w_left | exact m_moves w h | exact rfl)
      refine W_if (c := !(!(allJ T v).isEmpty)) (π₁ := π) ?_ (fun q2 => ?_) (fun q2 => ?_)
      · repeat (first | with_reducible exact tr_mv (allJ_len w h.2.1) | w_left | exact tr_mv (allJ_len w h.2.1) | exact rfl)
      · have q2 : (T.kids v).length = 0 := allJ_nil.mp (by simpa using q2)
        refine W_ret (d := .int (p - 32000)) (π₁ := π) ?_ (hK0 _ _ _ ⟨rfl, .inl (by rw [qw, if_neg q0, if_pos ⟨q1, q2⟩])⟩)
        repeat (first | with_reducible exact m_mated | w_left | exact m_mated | exact rfl)
      · have q2 : ¬ (T.kids v).length = 0 := fun e => by have := allJ_nil.mpr e; simp [this] at q2
        refine W_if (c := decide (((0 : Nat) : Int) ≤ 0)) (π₁ := π) ?_ (fun q3 => ?_) (fun q3 => ?_)
        · repeat (first | w_left | exact rfl)
        · refine W_ret (d := .int (T.v v)) (π₁ := π) ?_ (hK0 _ _ _ ⟨rfl, .inl (by rw [qw, if_neg q0, if_neg fun e => q2 e.2])⟩)
          repeat (first | with_reducible exact m_value w h | w_left | exact m_value w h | exact rfl)
        · simp at q3
    · refine W_as (d := .int (T.v v)) (π₁ := π) rfl rfl ?_ ?_
      · repeat (first | with_reducible exact m_value w h | w_left | exact m_value w h | exact rfl)
      refine W_if (c := decide (((0 : Nat) : Int) ≤ 0) || decide (T.v v ≥ e)) (π₁ := π) ?_ (fun q3 => ?_) (fun q3 => ?_)
      · apply E_fin; repeat (first | w_left | exact rfl)
      · refine W_ret (d := .int (T.v v)) (π₁ := π) ?_ (hK0 _ _ _ ⟨rfl, .inl (by rw [qw, if_neg q0, if_neg fun e => by rw [q1] at e; exact absurd e.1 (by simp)])⟩)
        repeat (first | w_left | exact rfl)
      · simp at q3
  | succ q ih =>
    intro v a e p π h
    refine call_W (F := fn 2) rfl rfl ?_
    generalize hb : (fn 2).body = b
    conv at hb => lhs; whnf
    subst hb
    refine W_gen fun K0 hK0 => ?_
    have r_game : rho₀ (fn 2).params [(.game : D), (.int a : D), (.int e : D), (.int p : D), (.int ((q + 1 : Nat) : Int) : D)] (Str.ofString "game") = some (.fz (.game)) := rfl
    have r_alpha : rho₀ (fn 2).params [(.game : D), (.int a : D), (.int e : D), (.int p : D), (.int ((q + 1 : Nat) : Int) : D)] (Str.ofString "alpha") = some (.fz (.int a)) := rfl
    have r_beta : rho₀ (fn 2).params [(.game : D), (.int a : D), (.int e : D), (.int p : D), (.int ((q + 1 : Nat) : Int) : D)] (Str.ofString "beta") = some (.fz (.int e)) := rfl
    have r_ply : rho₀ (fn 2).params [(.game : D), (.int a : D), (.int e : D), (.int p : D), (.int ((q + 1 : Nat) : Int) : D)] (Str.ofString "ply") = some (.fz (.int p)) := rfl
    have r_qdepth : rho₀ (fn 2).params [(.game : D), (.int a : D), (.int e : D), (.int p : D), (.int ((q + 1 : Nat) : Int) : D)] (Str.ofString "qdepth") = some (.fz (.int ((q + 1 : Nat) : Int))) := rfl
    generalize rho₀ (fn 2).params _ = ρ at *
    refine W_if (c := decide (p > 0) && T.d v) (π₁ := π) ?_ (fun qd => ?_) (fun qd => ?_)
    · repeat (first | with_reducible exact m_draw w h | w_left | exact m_draw w h | exact rfl)
    · refine W_ret (d := .int 0) (π₁ := π) ?_ (hK0 _ _ _ ⟨rfl, .inl (by simp only [Bool.and_eq_true, decide_eq_true_eq] at qd; rw [qw, if_pos qd])⟩)
      repeat (first | w_left | exact rfl)
    have q0 : ¬ (0 < p ∧ T.d v = true) := by simpa using qd
    have hq : ((q + 1 : Nat) : Int) - 1 = (q : Int) := by omega
    refine W_if (c := T.k v) (π₁ := π) ?_ (fun q1 => ?_) (fun q1 => ?_)
    · repeat (first | with_reducible exact m_check w h | w_left | exact m_check w h | exact rfl)
    · refine W_as (d := .list (mvD (allJ T v))) (π₁ := π) rfl rfl ?_ ?_
      · repeat (first | with_reducible exact m_moves w h | w_left | exact m_moves w h | exact rfl)
      refine W_if (c := !(!(allJ T v).isEmpty)) (π₁ := π) ?_ (fun q2 => ?_) (fun q2 => ?_)
      · repeat (first | with_reducible exact tr_mv (allJ_len w h.2.1) | w_left | exact tr_mv (allJ_len w h.2.1) | exact rfl)
      · have q2 : (T.kids v).length = 0 := allJ_nil.mp (by simpa using q2)
        refine W_ret (d := .int (p - 32000)) (π₁ := π) ?_ (hK0 _ _ _ ⟨rfl, .inl (by rw [qw, if_neg q0, if_pos q1, if_pos q2])⟩)
        repeat (first | with_reducible exact m_mated | w_left | exact m_mated | exact rfl)
      · have q2 : ¬ (T.kids v).length = 0 := fun e => by have := allJ_nil.mpr e; simp [this] at q2
        refine W_if (c := decide (((q + 1 : Nat) : Int) ≤ 0)) (π₁ := π) ?_ (fun q3 => ?_) (fun q3 => ?_)
        · repeat (first | w_left | exact rfl)
        · simp at q3; omega
        refine W_as (d := .int (-32001)) (π₁ := π) rfl rfl ?_ ?_
        · repeat (first | w_left | exact rfl)
        refine qw_tail w h ih (js := allJ T v) (a := a) (e := e) (b := -32001) (fun _ => allJ_lt) (allJ_len w h.2.1) ?_ ?_ ?_ ?_ ?_ ?_ ?_ (fun ρ' => hK0 _ _ _ ⟨rfl, .inl (by rw [qw, if_neg q0, if_pos q1, if_neg q2])⟩)
        · repeat (first | w_left | exact rfl)
        · repeat (first | w_left | exact rfl)
        · repeat (first | w_left | exact rfl)
        · repeat (first | w_left | exact rfl)
        · repeat (first | w_left | exact rfl)
        · repeat (first | w_left | exact rfl)
        · repeat (first | w_left | exact rfl)
    · have q1' : ¬ T.k v = true := by simp [q1]
      refine W_as (d := .int (T.v v)) (π₁ := π) rfl rfl ?_ ?_
      · repeat (first | with_reducible exact m_value w h | w_left | exact m_value w h | exact rfl)
      refine W_if (c := decide (((q + 1 : Nat) : Int) ≤ 0) || decide (T.v v ≥ e)) (π₁ := π) ?_ (fun q3 => ?_) (fun q3 => ?_)
      · repeat (first | w_left | exact rfl)
      · have q3 : T.v v ≥ e := by
          simp only [Bool.or_eq_true, decide_eq_true_eq] at q3
          rcases q3 with q3 | q3
          · omega
          · exact q3
        refine W_ret (d := .int (T.v v)) (π₁ := π) ?_ (hK0 _ _ _ ⟨rfl, .inl (by rw [qw, if_neg q0, if_neg q1', if_pos q3])⟩)
        repeat (first | w_left | exact rfl)
      have q3 : ¬ T.v v ≥ e := by
        simp only [Bool.or_eq_false_iff, decide_eq_false_iff_not] at q3
        exact q3.2
      refine W_as (d := .list (mvD (noiJ T v))) (π₁ := π) rfl rfl ?_ ?_
      · repeat (first | with_reducible exact m_noisy w h | w_left | exact m_noisy w h | exact rfl)
      refine W_if (c := decide (T.v v > a)) (π₁ := π) ?_ (fun q4 => ?_) (fun q4 => ?_)
      · repeat (first | w_left | exact rfl)
      · have q4 : T.v v > a := by simpa using q4
        refine W_as (d := .int (T.v v)) (π₁ := π) rfl rfl ?_ ?_
        · repeat (first | w_left | exact rfl)
        refine qw_tail w h ih (js := noiJ T v) (a := T.v v) (e := e) (b := T.v v) (fun _ => noiJ_lt) (noiJ_len w h.2.1) ?_ ?_ ?_ ?_ ?_ ?_ ?_ (fun ρ' => hK0 _ _ _ ⟨rfl, .inl (by rw [qw, if_neg q0, if_neg q1', if_neg q3, if_pos q4])⟩)
        · repeat (first | w_left | exact rfl)
        · repeat (first | w_left | exact rfl)
        · repeat (first | w_left | exact rfl)
        · repeat (first | w_left | exact rfl)
        · repeat (first | w_left | exact rfl)
        · repeat (first | w_left | exact rfl)
        · repeat (first | w_left | exact rfl)
      · have q4 : ¬ T.v v > a := by simpa using q4
        refine qw_tail w h ih (js := noiJ T v) (a := a) (e := e) (b := T.v v) (fun _ => noiJ_lt) (noiJ_len w h.2.1) ?_ ?_ ?_ ?_ ?_ ?_ ?_ (fun ρ' => hK0 _ _ _ ⟨rfl, .inl (by rw [qw, if_neg q0, if_neg q1', if_neg q3, if_neg q4])⟩)
        · repeat (first | w_left | exact rfl)
        · repeat (first | w_left | exact rfl)
        · repeat (first | w_left | exact rfl)
        · repeat (first | w_left | exact rfl)
        · repeat (first | w_left | exact rfl)
        · repeat (first | w_left | exact rfl)
        · repeat (first | w_left | exact rfl)

noncomputable def ab (T : Tr) (q : Nat) : Nat → Int → Int → Int → Nat → Int
  | 0, a, e, p, v => if 0 < p ∧ T.d v = true then 0 else qw T q a e p v
  | d + 1, a, e, p, v => if 0 < p ∧ T.d v = true then 0 else if (T.kids v).length = 0 then endV T p v else loopW (fun j a e => ab T q d a e (p + 1) (kd T v j)) (allJ T v) a e (-32001)
theorem m_ab (w : T.WF) (q : Nat) : ∀ (d v : Nat) (a e p : Int) (π : List Int), T.At π v → C T (n + q + d + 4) (Str.ofString "alpha_beta") [.game, .int a, .int e, .int (d : Int), .int p, .int (q : Int)] π = some (.int (ab T q d a e p v), π) := by
  intro d
  induction d with
  | zero =>
    intro v a e p π h
    refine call_W (F := fn 3) (n := n + q + 3) rfl rfl ?_
    generalize hb : (fn 3).body = b
    conv at hb => lhs; whnf
    subst hb
    refine W_gen fun K0 hK0 => ?_
    have r_game : rho₀ (fn 3).params [(.game : D), (.int a : D), (.int e : D), (.int ((0 : Nat) : Int) : D), (.int p : D), (.int (q : Int) : D)] (Str.ofString "game") = some (.fz (.game)) := rfl
    have r_alpha : rho₀ (fn 3).params [(.game : D), (.int a : D), (.int e : D), (.int ((0 : Nat) : Int) : D), (.int p : D), (.int (q : Int) : D)] (Str.ofString "alpha") = some (.fz (.int a)) := rfl
    have r_beta : rho₀ (fn 3).params [(.game : D), (.int a : D), (.int e : D), (.int ((0 : Nat) : Int) : D), (.int p : D), (.int (q : Int) : D)] (Str.ofString "beta") = some (.fz (.int e)) := rfl
    have r_depth : rho₀ (fn 3).params [(.game : D), (.int a : D), (.int e : D), (.int ((0 : Nat) : Int) : D), (.int p : D), (.int (q : Int) : D)] (Str.ofString "depth") = some (.fz (.int ((0 : Nat) : Int))) := rfl
    have r_ply : rho₀ (fn 3).params [(.game : D), (.int a : D), (.int e : D), (.int ((0 : Nat) : Int) : D), (.int p : D), (.int (q : Int) : D)] (Str.ofString "ply") = some (.fz (.int p)) := rfl
    have r_qdepth : rho₀ (fn 3).params [(.game : D), (.int a : D), (.int e : D), (.int ((0 : Nat) : Int) : D), (.int p : D), (.int (q : Int) : D)] (Str.ofString "qdepth") = some (.fz (.int (q : Int))) := rfl
    generalize rho₀ (fn 3).params _ = ρ at *
    refine W_if (c := decide (p > 0) && T.d v) (π₁ := π) ?_ (fun qd => ?_) (fun qd => ?_)
    · repeat (first | with_reducible exact m_draw w h | w_left | exact m_draw w h | exact rfl)
    · refine W_ret (d := .int 0) (π₁ := π) ?_ (hK0 _ _ _ ⟨rfl, .inl (by simp only [Bool.and_eq_true, decide_eq_true_eq] at qd; rw [ab, if_pos qd])⟩)
      repeat (first | w_left | exact rfl)
    have q0 : ¬ (0 < p ∧ T.d v = true) := by simpa using qd
    refine W_if (c := decide (((0 : Nat) : Int) ≤ 0)) (π₁ := π) ?_ (fun q3 => ?_) (fun q3 => ?_)
    · repeat (first | w_left | exact rfl)
    · refine W_ret (d := .int (qw T q a e p v)) (π₁ := π) ?_ (hK0 _ _ _ ⟨rfl, .inl (by rw [ab, if_neg q0])⟩)
      repeat (first | with_reducible exact m_qw w q v a e p π h | w_left | exact m_qw w q v a e p π h | exact rfl)
    · simp at q3
  | succ d ih =>
    intro v a e p π h
    refine call_W (F := fn 3) (n := n + q + d + 4) rfl rfl ?_
    generalize hb : (fn 3).body = b
    conv at hb => lhs; whnf
    subst hb
    refine W_gen fun K0 hK0 => ?_
    have r_game : rho₀ (fn 3).params [(.game : D), (.int a : D), (.int e : D), (.int ((d + 1 : Nat) : Int) : D), (.int p : D), (.int (q : Int) : D)] (Str.ofString "game") = some (.fz (.game)) := rfl
    have r_alpha : rho₀ (fn 3).params [(.game : D), (.int a : D), (.int e : D), (.int ((d + 1 : Nat) : Int) : D), (.int p : D), (.int (q : Int) : D)] (Str.ofString "alpha") = some (.fz (.int a)) := rfl
    have r_beta : rho₀ (fn 3).params [(.game : D), (.int a : D), (.int e : D), (.int ((d + 1 : Nat) : Int) : D), (.int p : D), (.int (q : Int) : D)] (Str.ofString "beta") = some (.fz (.int e)) := rfl
    have r_depth : rho₀ (fn 3).params [(.game : D), (.int a : D), (.int e : D), (.int ((d + 1 : Nat) : Int) : D), (.int p : D), (.int (q : Int) : D)] (Str.ofString "depth") = some (.fz (.int ((d + 1 : Nat) : Int))) := rfl
    have r_ply : rho₀ (fn 3).params [(.game : D), (.int a : D), (.int e : D), (.int ((d + 1 : Nat) : Int) : D), (.int p : D), (.int (q : Int) : D)] (Str.ofString "ply") = some (.fz (.int p)) := rfl
    have r_qdepth : rho₀ (fn 3).params [(.game : D), (.int a : D), (.int e : D), (.int ((d + 1 : Nat) : Int) : D), (.int p : D), (.int (q : Int) : D)] (Str.ofString "qdepth") = some (.fz (.int (q : Int))) := rfl
    generalize rho₀ (fn 3).params _ = ρ at *
    have hd : ((d + 1 : Nat) : Int) - 1 = (d : Int) := by omega
    have h0 : π ≠ [] := by intro e; subst e; simp [Tr.At] at h
    have hlen : π.length < 100 := by have := h.2.2.1; have := h.2.1; have := w.le; omega
    refine W_if (c := decide (p > 0) && T.d v) (π₁ := π) ?_ (fun qd => ?_) (fun qd => ?_)
    · repeat (first | with_reducible exact m_draw w h | w_left | exact m_draw w h | exact rfl)
    · refine W_ret (d := .int 0) (π₁ := π) ?_ (hK0 _ _ _ ⟨rfl, .inl (by simp only [Bool.and_eq_true, decide_eq_true_eq] at qd; rw [ab, if_pos qd])⟩)
      repeat (first | w_left | exact rfl)
    have q0 : ¬ (0 < p ∧ T.d v = true) := by simpa using qd
    refine W_if (c := decide (((d + 1 : Nat) : Int) ≤ 0)) (π₁ := π) ?_ (fun q3 => ?_) (fun q3 => ?_)
    · repeat (first | w_left | exact rfl)
    · simp at q3; omega
    refine W_as (d := .list (mvD (allJ T v))) (π₁ := π) rfl rfl ?_ ?_
    · repeat (first | with_reducible exact m_moves w h | w_left | exact m_moves w h | exact rfl)
    refine W_if (c := !(!(allJ T v).isEmpty)) (π₁ := π) ?_ (fun q2 => ?_) (fun q2 => ?_)
    · repeat (first | with_reducible exact tr_mv (allJ_len w h.2.1) | w_left | exact tr_mv (allJ_len w h.2.1) | exact rfl)
    · have q2 : (T.kids v).length = 0 := allJ_nil.mp (by simpa using q2)
      refine W_if (c := T.k v) (π₁ := π) ?_ (fun q1 => ?_) (fun q1 => ?_)
      · repeat (first | with_reducible exact m_check w h | w_left | exact m_check w h | exact rfl)
      · refine W_ret (d := .int (p - 32000)) (π₁ := π) ?_ (hK0 _ _ _ ⟨rfl, .inl (by rw [ab, if_neg q0, if_pos q2, endV, if_pos q1])⟩)
        repeat (first | with_reducible exact m_mated | w_left | exact m_mated | exact rfl)
      · refine W_ret (d := .int 0) (π₁ := π) ?_ (hK0 _ _ _ ⟨rfl, .inl (by rw [ab, if_neg q0, if_pos q2, endV, if_neg (by simp [q1])])⟩)
        repeat (first | w_left | exact rfl)
    have q2 : ¬ (T.kids v).length = 0 := fun e => by have := allJ_nil.mpr e; simp [this] at q2
    refine W_as (d := .int (-32001)) (π₁ := π) rfl rfl ?_ ?_
    · repeat (first | w_left | exact rfl)
    have hj : ∀ j ∈ allJ T v, j < (T.kids v).length := fun _ => allJ_lt
    have hl := allJ_len w h.2.1
    have hK : ∀ ρ' : Rho, π = π ∧ ((Fl.ret (.int (loopW (fun j a e => ab T q d a e (p + 1) (kd T v j)) (allJ T v) a e (-32001))) = .ret (.int (ab T q (d + 1) a e p v))) ∨ ((Fl.ret (.int (loopW (fun j a e => ab T q d a e (p + 1) (kd T v j)) (allJ T v) a e (-32001)))) = Fl.next ∧ D.int (ab T q (d + 1) a e p v) = .none)) := fun _ => ⟨rfl, .inl (by rw [ab, if_neg q0, if_neg q2])⟩
    refine W_for (d := .list (mvD (allJ T v))) (π₁ := π) rfl ?_ (it_mv hl) (fun items ρ' π' => ∃ js' a' b', items = mvD js' ∧ (∀ j ∈ js', j < (T.kids v).length) ∧ π' = π ∧ ρ' (Str.ofString "game") = some (.fz (.game)) ∧ ρ' (Str.ofString "depth") = some (.fz (.int ((d + 1 : Nat) : Int))) ∧ ρ' (Str.ofString "ply") = some (.fz (.int p)) ∧ ρ' (Str.ofString "qdepth") = some (.fz (.int (q : Int))) ∧ ρ' (Str.ofString "alpha") = some (.fz (.int a')) ∧ ρ' (Str.ofString "beta") = some (.fz (.int (e))) ∧ ρ' (Str.ofString "best") = some (.fz (.int b')) ∧ loopW (fun j a e => ab T q d a e (p + 1) (kd T v j)) js' a' (e) b' = loopW (fun j a e => ab T q d a e (p + 1) (kd T v j)) (allJ T v) (a) (e) (-32001)) ?_ ?_ ?_
    · repeat (first | w_left | exact rfl)
    · refine ⟨(allJ T v), a, -32001, rfl, hj, rfl, ?_, ?_, ?_, ?_, ?_, ?_, ?_, rfl⟩
      · repeat (first | w_left | exact rfl)
      · repeat (first | w_left | exact rfl)
      · repeat (first | w_left | exact rfl)
      · repeat (first | w_left | exact rfl)
      · repeat (first | w_left | exact rfl)
      · repeat (first | w_left | exact rfl)
      · repeat (first | w_left | exact rfl)
    · intro d rest ρ' π' hI
      refine W_gen fun KL0 hL0 => ?_
      obtain ⟨js', a', b', he, hj', rfl, r_game, r_depth, r_ply, r_qdepth, r_alpha, r_beta, r_best, hR⟩ := hI
      cases js' with
      | nil => cases he
      | cons j js' =>
        cases he
        have hjl := hj' j List.mem_cons_self
        refine W_callM (d := .game) (π₁ := π' ++ [(kd T v j : Int)]) ?_ ?_ ?_
        · repeat (first | w_left | exact rfl)
        · repeat (first | with_reducible exact m_make w h hjl | w_left | exact m_make w h hjl | exact rfl)
        refine W_as (d := .int (-((fun j a e => ab T q d a e (p + 1) (kd T v j)) j (-(e)) (-a')))) (π₁ := π' ++ [(kd T v j : Int)]) rfl rfl ?_ ?_
        · repeat (first | with_reducible exact ih _ _ _ (p + 1) _ (h.kid w hjl) | w_left | rw [hd] | exact ih _ _ _ (p + 1) _ (h.kid w hjl) | exact rfl)
        refine W_callM (d := .game) (π₁ := π') ?_ ?_ ?_
        · repeat (first | w_left | exact rfl)
        · repeat (first | with_reducible exact m_undo h0 hlen | w_left | exact m_undo h0 hlen | exact rfl)
        generalize hX : (-((fun j a e => ab T q d a e (p + 1) (kd T v j)) j (-(e)) (-a'))) = X
        refine W_if (c := decide (X > b')) (π₁ := π') ?_ (fun q1 => ?_) (fun q1 => ?_)
        · repeat (first | w_left | exact rfl)
        · have q1 : X > b' := by simpa using q1
          refine W_as (d := .int X) (π₁ := π') rfl rfl ?_ ?_
          · repeat (first | w_left | exact rfl)
          refine W_if (c := decide (X > a')) (π₁ := π') ?_ (fun q2 => ?_) (fun q2 => ?_)
          · repeat (first | w_left | exact rfl)
          · have q2 : X > a' := by simpa using q2
            refine W_as (d := .int X) (π₁ := π') rfl rfl ?_ ?_
            · repeat (first | w_left | exact rfl)
            refine W_if (c := decide (X ≥ e)) (π₁ := π') ?_ (fun q3 => ?_) (fun q3 => ?_)
            · repeat (first | w_left | exact rfl)
            · refine W_brk (hL0 _ _ _ ?_)
              refine W_ret (d := .int X) (π₁ := π') ?_ ?_
              · repeat (first | w_left | exact rfl)
              · have e : X = loopW (fun j a e => ab T q d a e (p + 1) (kd T v j)) (allJ T v) (a) (e) (-32001) := by
                  rw [← hR, loopW, hX, if_pos q1, if_pos (by simpa using q3)]
                rw [e]; exact hK0 _ _ _ (hK ρ)
            · refine W_nil (hL0 _ _ _ ⟨js', X, X, rfl, fun j hj => hj' j (List.mem_cons_of_mem _ hj), rfl, ?_, ?_, ?_, ?_, ?_, ?_, ?_, ?_⟩)
              · repeat (first | w_left | exact rfl)
              · repeat (first | w_left | exact rfl)
              · repeat (first | w_left | exact rfl)
              · repeat (first | w_left | exact rfl)
              · repeat (first | w_left | exact rfl)
              · repeat (first | w_left | exact rfl)
              · repeat (first | w_left | exact rfl)
              · rw [← hR, loopW, hX, if_pos q1, if_neg (by simpa using q3), if_pos q2]
          · have q2 : ¬ X > a' := by simpa using q2
            refine W_if (c := decide (X ≥ e)) (π₁ := π') ?_ (fun q3 => ?_) (fun q3 => ?_)
            · repeat (first | w_left | exact rfl)
            · refine W_brk (hL0 _ _ _ ?_)
              refine W_ret (d := .int X) (π₁ := π') ?_ ?_
              · repeat (first | w_left | exact rfl)
              · have e : X = loopW (fun j a e => ab T q d a e (p + 1) (kd T v j)) (allJ T v) (a) (e) (-32001) := by
                  rw [← hR, loopW, hX, if_pos q1, if_pos (by simpa using q3)]
                rw [e]; exact hK0 _ _ _ (hK ρ)
            · refine W_nil (hL0 _ _ _ ⟨js', a', X, rfl, fun j hj => hj' j (List.mem_cons_of_mem _ hj), rfl, ?_, ?_, ?_, ?_, ?_, ?_, ?_, ?_⟩)
              · repeat (first | w_left | exact rfl)
              · repeat (first | w_left | exact rfl)
              · repeat (first | w_left | exact rfl)
              · repeat (first | w_left | exact rfl)
              · repeat (first | w_left | exact rfl)
              · repeat (first | w_left | exact rfl)
              · repeat (first | w_left | exact rfl)
              · rw [← hR, loopW, hX, if_pos q1, if_neg (by simpa using q3), if_neg q2]
        · have q1 : ¬ X > b' := by simpa using q1
          refine W_nil (hL0 _ _ _ ⟨js', a', b', rfl, fun j hj => hj' j (List.mem_cons_of_mem _ hj), rfl, ?_, ?_, ?_, ?_, ?_, ?_, ?_, ?_⟩)
          · repeat (first | w_left | exact rfl)
          · repeat (first | w_left | exact rfl)
          · repeat (first | w_left | exact rfl)
          · repeat (first | w_left | exact rfl)
          · repeat (first | w_left | exact rfl)
          · repeat (first | w_left | exact rfl)
          · repeat (first | w_left | exact rfl)
          · rw [← hR, loopW, hX, if_neg q1]
    · rintro ρ' π' ⟨js', a', b', he, hj', rfl, r_game, r_depth, r_ply, r_qdepth, r_alpha, r_beta, r_best, hR⟩
      cases js' with
      | cons => cases he
      | nil =>
        refine W_ret (d := .int b') (π₁ := π') ?_ ?_
        · repeat (first | w_left | exact rfl)
        · have e : b' = loopW (fun j a e => ab T q d a e (p + 1) (kd T v j)) (allJ T v) (a) (e) (-32001) := hR
          rw [e]; exact hK0 _ _ _ (hK ρ)
end

section
variable {cf : Cf} {Φ : Mean} {κ : Str → Option NameKind}
theorem W_tuple {n ts tk tp e p cs K ρ π xs ds π₁} (ht : targets κ ts = some xs) (hc : xs.Nodup ∧ xs.length < 9) (hne : ∀ es k q, e ≠ .Tuple es k q) (h : ev cf Φ 20 false κ (look (freeze (namesIn 9 e) ρ)) e π = some (.tup ds, π₁)) (hl : ds.length = xs.length)
    (k : W cf Φ κ (n + 1) cs K (setAll (freeze (namesIn 9 e) ρ) xs (ds.map .fz)) π₁) : W cf Φ κ (n + 1) (.Assign [.Tuple ts tk tp] e p :: cs) K ρ π := by
  refine W_step ?_ k
  show exTup cf Φ κ ts e ρ π = _
  unfold exTup
  rw [ht]
  dsimp only
  split
  · exact absurd rfl (hne _ _ _)
  · unfold exTup2
    rw [if_pos hc, h]
    dsimp only
    rw [if_pos hl]
theorem sA_nil {ρ : Rho} {vs} : setAll ρ [] vs = ρ := by cases vs <;> rfl
theorem sA_cons {ρ : Rho} {x v xs vs} : setAll ρ (x :: xs) (v :: vs) = setAll (setV ρ x v) xs vs := rfl
theorem b_addl {xs ys : List D} (h : xs.length + ys.length ≤ 10000) : binop .Add (.list xs) (.list ys) = some (.list (xs ++ ys)) := by
  show (if _ then _ else _) = _
  rw [if_pos h]
end
section
variable {T : Tr} {π : List Int} {v n : Nat}
noncomputable def ng (T : Tr) (q : Nat) : Nat → Int → Nat → Int
  | 0, p, v => if 0 < p ∧ T.d v = true then 0 else pq T q p v
  | d + 1, p, v => if 0 < p ∧ T.d v = true then 0 else if (T.kids v).length = 0 then endV T p v else loopP (fun j => ng T q d (p + 1) (kd T v j)) (allJ T v) (-32001)
theorem m_ng (w : T.WF) (q : Nat) : ∀ (d v : Nat) (p : Int) (π : List Int), T.At π v → C T (n + q + d + 4) (Str.ofString "negamax") [.game, .int (d : Int), .int p, .int (q : Int)] π = some (.int (ng T q d p v), π) := by
  intro d
  induction d with
  | zero =>
    intro v p π h
    refine call_W (F := fn 9) (n := n + q + 3) rfl rfl ?_
    generalize hb : (fn 9).body = b
    conv at hb => lhs; whnf
    subst hb
    refine W_gen fun K0 hK0 => ?_
    have r_game : rho₀ (fn 9).params [(.game : D), (.int ((0 : Nat) : Int) : D), (.int p : D), (.int (q : Int) : D)] (Str.ofString "game") = some (.fz (.game)) := rfl
    have r_depth : rho₀ (fn 9).params [(.game : D), (.int ((0 : Nat) : Int) : D), (.int p : D), (.int (q : Int) : D)] (Str.ofString "depth") = some (.fz (.int ((0 : Nat) : Int))) := rfl
    have r_ply : rho₀ (fn 9).params [(.game : D), (.int ((0 : Nat) : Int) : D), (.int p : D), (.int (q : Int) : D)] (Str.ofString "ply") = some (.fz (.int p)) := rfl
    have r_qdepth : rho₀ (fn 9).params [(.game : D), (.int ((0 : Nat) : Int) : D), (.int p : D), (.int (q : Int) : D)] (Str.ofString "qdepth") = some (.fz (.int (q : Int))) := rfl
    generalize rho₀ (fn 9).params _ = ρ at *
    refine W_if (c := decide (p > 0) && T.d v) (π₁ := π) ?_ (fun qd => ?_) (fun qd => ?_)
    · repeat (first | with_reducible exact m_draw w h | w_left | exact m_draw w h | exact rfl)
    · refine W_ret (d := .int 0) (π₁ := π) ?_ (hK0 _ _ _ ⟨rfl, .inl (by simp only [Bool.and_eq_true, decide_eq_true_eq] at qd; rw [ng, if_pos qd])⟩)
      repeat (first | w_left | exact rfl)
    have q0 : ¬ (0 < p ∧ T.d v = true) := by simpa using qd
    refine W_if (c := decide (((0 : Nat) : Int) ≤ 0)) (π₁ := π) ?_ (fun q3 => ?_) (fun q3 => ?_)
    · repeat (first | w_left | exact rfl)
    · refine W_ret (d := .int (pq T q p v)) (π₁ := π) ?_ (hK0 _ _ _ ⟨rfl, .inl (by rw [ng, if_neg q0])⟩)
      repeat (first | with_reducible exact m_pq w q v p π h | w_left | exact m_pq w q v p π h | exact rfl)
    · simp at q3
  | succ d ih =>
    intro v p π h
    refine call_W (F := fn 9) (n := n + q + d + 4) rfl rfl ?_
    generalize hb : (fn 9).body = b
    conv at hb => lhs; whnf
    subst hb
    refine W_gen fun K0 hK0 => ?_
    have r_game : rho₀ (fn 9).params [(.game : D), (.int ((d + 1 : Nat) : Int) : D), (.int p : D), (.int (q : Int) : D)] (Str.ofString "game") = some (.fz (.game)) := rfl
    have r_depth : rho₀ (fn 9).params [(.game : D), (.int ((d + 1 : Nat) : Int) : D), (.int p : D), (.int (q : Int) : D)] (Str.ofString "depth") = some (.fz (.int ((d + 1 : Nat) : Int))) := rfl
    have r_ply : rho₀ (fn 9).params [(.game : D), (.int ((d + 1 : Nat) : Int) : D), (.int p : D), (.int (q : Int) : D)] (Str.ofString "ply") = some (.fz (.int p)) := rfl
    have r_qdepth : rho₀ (fn 9).params [(.game : D), (.int ((d + 1 : Nat) : Int) : D), (.int p : D), (.int (q : Int) : D)] (Str.ofString "qdepth") = some (.fz (.int (q : Int))) := rfl
    generalize rho₀ (fn 9).params _ = ρ at *
    have hd : ((d + 1 : Nat) : Int) - 1 = (d : Int) := by omega
    have h0 : π ≠ [] := by intro e; subst e; simp [Tr.At] at h
    have hlen : π.length < 100 := by have := h.2.2.1; have := h.2.1; have := w.le; omega
    refine W_if (c := decide (p > 0) && T.d v) (π₁ := π) ?_ (fun qd => ?_) (fun qd => ?_)
    · repeat (first | with_reducible exact m_draw w h | w_left | exact m_draw w h | exact rfl)
    · refine W_ret (d := .int 0) (π₁ := π) ?_ (hK0 _ _ _ ⟨rfl, .inl (by simp only [Bool.and_eq_true, decide_eq_true_eq] at qd; rw [ng, if_pos qd])⟩)
      repeat (first | w_left | exact rfl)
    have q0 : ¬ (0 < p ∧ T.d v = true) := by simpa using qd
    refine W_if (c := decide (((d + 1 : Nat) : Int) ≤ 0)) (π₁ := π) ?_ (fun q3 => ?_) (fun q3 => ?_)
    · repeat (first | w_left | exact rfl)
    · simp at q3; omega
    refine W_as (d := .list (mvD (allJ T v))) (π₁ := π) rfl rfl ?_ ?_
    · repeat (first | with_reducible exact m_moves w h | w_left | exact m_moves w h | exact rfl)
    refine W_if (c := !(!(allJ T v).isEmpty)) (π₁ := π) ?_ (fun q2 => ?_) (fun q2 => ?_)
    · repeat (first | with_reducible exact tr_mv (allJ_len w h.2.1) | w_left | exact tr_mv (allJ_len w h.2.1) | exact rfl)
    · have q2 : (T.kids v).length = 0 := allJ_nil.mp (by simpa using q2)
      refine W_ret (d := .int (endV T p v)) (π₁ := π) ?_ (hK0 _ _ _ ⟨rfl, .inl (by rw [ng, if_neg q0, if_pos q2])⟩)
      repeat (first | with_reducible exact m_end w h | w_left | exact m_end w h | exact rfl)
    have q2 : ¬ (T.kids v).length = 0 := fun e => by have := allJ_nil.mpr e; simp [this] at q2
    refine W_as (d := .int (-32001)) (π₁ := π) rfl rfl ?_ ?_
    · repeat (first | w_left | exact rfl)
    refine W_for (d := .list (mvD (allJ T v))) (π₁ := π) rfl ?_ (it_mv (allJ_len w h.2.1)) (fun items ρ' π' => ∃ js' b', items = mvD js' ∧ (∀ j ∈ js', j < (T.kids v).length) ∧ π' = π ∧ ρ' (Str.ofString "game") = some (.fz .game) ∧ ρ' (Str.ofString "ply") = some (.fz (.int p)) ∧
      ρ' (Str.ofString "depth") = some (.fz (.int ((d + 1 : Nat) : Int))) ∧ ρ' (Str.ofString "qdepth") = some (.fz (.int (q : Int))) ∧ ρ' (Str.ofString "best") = some (.fz (.int b')) ∧ loopP (fun j => ng T q d (p + 1) (kd T v j)) js' b' = ng T q (d + 1) p v) ?_ ?_ ?_
    · repeat (first | w_left | exact rfl)
    · refine ⟨allJ T v, -32001, rfl, fun _ => allJ_lt, rfl, ?_, ?_, ?_, ?_, ?_, by rw [ng, if_neg q0, if_neg q2]⟩
      · repeat (first | w_left | exact rfl)
      · repeat (first | w_left | exact rfl)
      · repeat (first | w_left | exact rfl)
      · repeat (first | w_left | exact rfl)
      · repeat (first | w_left | exact rfl)
    · intro d' rest ρ' π' hI
      refine W_gen fun KL0 hL0 => ?_
      obtain ⟨js', b', he, hj', rfl, r_game, r_ply, r_depth, r_qdepth, r_best, hR⟩ := hI
      cases js' with
      | nil => cases he
      | cons j js' =>
        cases he
        have hjl := hj' j List.mem_cons_self
        refine W_callM (d := .game) (π₁ := π' ++ [(kd T v j : Int)]) ?_ ?_ ?_
        · repeat (first | w_left | exact rfl)
        · repeat (first | with_reducible exact m_make w h hjl | w_left | exact m_make w h hjl | exact rfl)
        refine W_as (d := .int (-(ng T q d (p + 1) (kd T v j)))) (π₁ := π' ++ [(kd T v j : Int)]) rfl rfl ?_ ?_
        · repeat (first | with_reducible exact ih _ (p + 1) _ (h.kid w hjl) | w_left | rw [hd] | exact ih _ (p + 1) _ (h.kid w hjl) | exact rfl)
        refine W_callM (d := .game) (π₁ := π') ?_ ?_ ?_
        · repeat (first | w_left | exact rfl)
        · repeat (first | with_reducible exact m_undo h0 hlen | w_left | exact m_undo h0 hlen | exact rfl)
        refine W_if (c := decide (-(ng T q d (p + 1) (kd T v j)) > b')) (π₁ := π') ?_ (fun q1 => ?_) (fun q1 => ?_)
        · repeat (first | w_left | exact rfl)
        · refine W_as (d := .int (-(ng T q d (p + 1) (kd T v j)))) (π₁ := π') rfl rfl ?_ ?_
          · repeat (first | w_left | exact rfl)
          refine W_nil (hL0 _ _ _ ⟨js', -(ng T q d (p + 1) (kd T v j)), rfl, fun j hj => hj' j (List.mem_cons_of_mem _ hj), rfl, ?_, ?_, ?_, ?_, ?_, ?_⟩)
          · repeat (first | w_left | exact rfl)
          · repeat (first | w_left | exact rfl)
          · repeat (first | w_left | exact rfl)
          · repeat (first | w_left | exact rfl)
          · repeat (first | w_left | exact rfl)
          · rw [← hR, loopP, if_pos (by simpa using q1)]
        · refine W_nil (hL0 _ _ _ ⟨js', b', rfl, fun j hj => hj' j (List.mem_cons_of_mem _ hj), rfl, ?_, ?_, ?_, ?_, ?_, ?_⟩)
          · repeat (first | w_left | exact rfl)
          · repeat (first | w_left | exact rfl)
          · repeat (first | w_left | exact rfl)
          · repeat (first | w_left | exact rfl)
          · repeat (first | w_left | exact rfl)
          · rw [← hR, loopP, if_neg (by simpa using q1)]
    · rintro ρ' π' ⟨js', b', he, hj', rfl, r_game, r_ply, r_depth, r_qdepth, r_best, hR⟩
      cases js' with
      | cons => cases he
      | nil =>
        refine W_ret (d := .int b') (π₁ := π') ?_ (hK0 _ _ _ ⟨rfl, .inl (by rw [← hR]; rfl)⟩)
        repeat (first | w_left | exact rfl)

noncomputable def loopH (g : Nat → Int → Int → Int) : List Nat → Int → Int → Int
  | [], a, _ => a
  | j :: r, a, e => if -(g j (-e) (-a)) ≥ e then e else loopH g r (if -(g j (-e) (-a)) > a then -(g j (-e) (-a)) else a) e
noncomputable def hb (T : Tr) (q : Nat) : Nat → Int → Int → Int → Nat → Int
  | 0, a, e, p, v => if 0 < p ∧ T.d v = true then clamp 0 a e else clamp (qw T q a e p v) a e
  | d + 1, a, e, p, v => if 0 < p ∧ T.d v = true then clamp 0 a e else if (T.kids v).length = 0 then clamp (endV T p v) a e else loopH (fun j a e => hb T q d a e (p + 1) (kd T v j)) (allJ T v) a e
theorem m_hb (w : T.WF) (q : Nat) : ∀ (d v : Nat) (a e p : Int) (π : List Int), T.At π v → C T (n + q + d + 4) (Str.ofString "alpha_beta_hard") [.game, .int a, .int e, .int (d : Int), .int p, .int (q : Int)] π = some (.int (hb T q d a e p v), π) := by
  intro d
  induction d with
  | zero =>
    intro v a e p π h
    refine call_W (F := fn 5) (n := n + q + 3) rfl rfl ?_
    generalize hb : (fn 5).body = b
    conv at hb => lhs; whnf
    subst hb
    refine W_gen fun K0 hK0 => ?_
    have r_game : rho₀ (fn 5).params [(.game : D), (.int a : D), (.int e : D), (.int ((0 : Nat) : Int) : D), (.int p : D), (.int (q : Int) : D)] (Str.ofString "game") = some (.fz (.game)) := rfl
    have r_alpha : rho₀ (fn 5).params [(.game : D), (.int a : D), (.int e : D), (.int ((0 : Nat) : Int) : D), (.int p : D), (.int (q : Int) : D)] (Str.ofString "alpha") = some (.fz (.int a)) := rfl
    have r_beta : rho₀ (fn 5).params [(.game : D), (.int a : D), (.int e : D), (.int ((0 : Nat) : Int) : D), (.int p : D), (.int (q : Int) : D)] (Str.ofString "beta") = some (.fz (.int e)) := rfl
    have r_depth : rho₀ (fn 5).params [(.game : D), (.int a : D), (.int e : D), (.int ((0 : Nat) : Int) : D), (.int p : D), (.int (q : Int) : D)] (Str.ofString "depth") = some (.fz (.int ((0 : Nat) : Int))) := rfl
    have r_ply : rho₀ (fn 5).params [(.game : D), (.int a : D), (.int e : D), (.int ((0 : Nat) : Int) : D), (.int p : D), (.int (q : Int) : D)] (Str.ofString "ply") = some (.fz (.int p)) := rfl
    have r_qdepth : rho₀ (fn 5).params [(.game : D), (.int a : D), (.int e : D), (.int ((0 : Nat) : Int) : D), (.int p : D), (.int (q : Int) : D)] (Str.ofString "qdepth") = some (.fz (.int (q : Int))) := rfl
    generalize rho₀ (fn 5).params _ = ρ at *
    refine W_if (c := decide (p > 0) && T.d v) (π₁ := π) ?_ (fun qd => ?_) (fun qd => ?_)
    · repeat (first | with_reducible exact m_draw w h | w_left | exact m_draw w h | exact rfl)
    · refine W_ret (d := .int (clamp 0 a e)) (π₁ := π) ?_ (hK0 _ _ _ ⟨rfl, .inl (by simp only [Bool.and_eq_true, decide_eq_true_eq] at qd; rw [hb, if_pos qd])⟩)
      repeat (first | with_reducible exact m_within | w_left | exact m_within | exact rfl)
    have q0 : ¬ (0 < p ∧ T.d v = true) := by simpa using qd
    refine W_if (c := decide (((0 : Nat) : Int) ≤ 0)) (π₁ := π) ?_ (fun q3 => ?_) (fun q3 => ?_)
    · repeat (first | w_left | exact rfl)
    · refine W_ret (d := .int (clamp (qw T q a e p v) a e)) (π₁ := π) ?_ (hK0 _ _ _ ⟨rfl, .inl (by rw [hb, if_neg q0])⟩)
      repeat (first | with_reducible exact m_within | with_reducible exact m_qw w q v a e p π h | w_left | exact m_within | exact m_qw w q v a e p π h | exact rfl)
    · simp at q3
  | succ d ih =>
    intro v a e p π h
    refine call_W (F := fn 5) (n := n + q + d + 4) rfl rfl ?_
    generalize hb : (fn 5).body = b
    conv at hb => lhs; whnf
    subst hb
    refine W_gen fun K0 hK0 => ?_
    have r_game : rho₀ (fn 5).params [(.game : D), (.int a : D), (.int e : D), (.int ((d + 1 : Nat) : Int) : D), (.int p : D), (.int (q : Int) : D)] (Str.ofString "game") = some (.fz (.game)) := rfl
    have r_alpha : rho₀ (fn 5).params [(.game : D), (.int a : D), (.int e : D), (.int ((d + 1 : Nat) : Int) : D), (.int p : D), (.int (q : Int) : D)] (Str.ofString "alpha") = some (.fz (.int a)) := rfl
    have r_beta : rho₀ (fn 5).params [(.game : D), (.int a : D), (.int e : D), (.int ((d + 1 : Nat) : Int) : D), (.int p : D), (.int (q : Int) : D)] (Str.ofString "beta") = some (.fz (.int e)) := rfl
    have r_depth : rho₀ (fn 5).params [(.game : D), (.int a : D), (.int e : D), (.int ((d + 1 : Nat) : Int) : D), (.int p : D), (.int (q : Int) : D)] (Str.ofString "depth") = some (.fz (.int ((d + 1 : Nat) : Int))) := rfl
    have r_ply : rho₀ (fn 5).params [(.game : D), (.int a : D), (.int e : D), (.int ((d + 1 : Nat) : Int) : D), (.int p : D), (.int (q : Int) : D)] (Str.ofString "ply") = some (.fz (.int p)) := rfl
    have r_qdepth : rho₀ (fn 5).params [(.game : D), (.int a : D), (.int e : D), (.int ((d + 1 : Nat) : Int) : D), (.int p : D), (.int (q : Int) : D)] (Str.ofString "qdepth") = some (.fz (.int (q : Int))) := rfl
    generalize rho₀ (fn 5).params _ = ρ at *
    have hd : ((d + 1 : Nat) : Int) - 1 = (d : Int) := by omega
    have h0 : π ≠ [] := by intro e; subst e; simp [Tr.At] at h
    have hlen : π.length < 100 := by have := h.2.2.1; have := h.2.1; have := w.le; omega
    refine W_if (c := decide (p > 0) && T.d v) (π₁ := π) ?_ (fun qd => ?_) (fun qd => ?_)
    · repeat (first | with_reducible exact m_draw w h | w_left | exact m_draw w h | exact rfl)
    · refine W_ret (d := .int (clamp 0 a e)) (π₁ := π) ?_ (hK0 _ _ _ ⟨rfl, .inl (by simp only [Bool.and_eq_true, decide_eq_true_eq] at qd; rw [hb, if_pos qd])⟩)
      repeat (first | with_reducible exact m_within | w_left | exact m_within | exact rfl)
    have q0 : ¬ (0 < p ∧ T.d v = true) := by simpa using qd
    refine W_if (c := decide (((d + 1 : Nat) : Int) ≤ 0)) (π₁ := π) ?_ (fun q3 => ?_) (fun q3 => ?_)
    · repeat (first | w_left | exact rfl)
    · simp at q3; omega
    refine W_as (d := .list (mvD (allJ T v))) (π₁ := π) rfl rfl ?_ ?_
    · repeat (first | with_reducible exact m_moves w h | w_left | exact m_moves w h | exact rfl)
    refine W_if (c := !(!(allJ T v).isEmpty)) (π₁ := π) ?_ (fun q2 => ?_) (fun q2 => ?_)
    · repeat (first | with_reducible exact tr_mv (allJ_len w h.2.1) | w_left | exact tr_mv (allJ_len w h.2.1) | exact rfl)
    · have q2 : (T.kids v).length = 0 := allJ_nil.mp (by simpa using q2)
      refine W_if (c := T.k v) (π₁ := π) ?_ (fun q1 => ?_) (fun q1 => ?_)
      · repeat (first | with_reducible exact m_check w h | w_left | exact m_check w h | exact rfl)
      · refine W_ret (d := .int (clamp (p - 32000) a e)) (π₁ := π) ?_ (hK0 _ _ _ ⟨rfl, .inl (by rw [hb, if_neg q0, if_pos q2, endV, if_pos q1])⟩)
        repeat (first | with_reducible exact m_mated | with_reducible exact m_within | w_left | exact m_mated | exact m_within | exact rfl)
      · refine W_ret (d := .int (clamp 0 a e)) (π₁ := π) ?_ (hK0 _ _ _ ⟨rfl, .inl (by rw [hb, if_neg q0, if_pos q2, endV, if_neg (by simp [q1])])⟩)
        repeat (first | with_reducible exact m_within | w_left | exact m_within | exact rfl)
    have q2 : ¬ (T.kids v).length = 0 := fun e => by have := allJ_nil.mpr e; simp [this] at q2
    refine W_for (d := .list (mvD (allJ T v))) (π₁ := π) rfl ?_ (it_mv (allJ_len w h.2.1)) (fun items ρ' π' => ∃ js' a', items = mvD js' ∧ (∀ j ∈ js', j < (T.kids v).length) ∧ π' = π ∧ ρ' (Str.ofString "game") = some (.fz .game) ∧ ρ' (Str.ofString "ply") = some (.fz (.int p)) ∧
      ρ' (Str.ofString "depth") = some (.fz (.int ((d + 1 : Nat) : Int))) ∧ ρ' (Str.ofString "qdepth") = some (.fz (.int (q : Int))) ∧ ρ' (Str.ofString "alpha") = some (.fz (.int a')) ∧ ρ' (Str.ofString "beta") = some (.fz (.int e)) ∧ loopH (fun j a e => hb T q d a e (p + 1) (kd T v j)) js' a' e = hb T q (d + 1) a e p v) ?_ ?_ ?_
    · repeat (first | w_left | exact rfl)
    · refine ⟨allJ T v, a, rfl, fun _ => allJ_lt, rfl, ?_, ?_, ?_, ?_, ?_, ?_, by rw [hb, if_neg q0, if_neg q2]⟩
      · repeat (first | w_left | exact rfl)
      · repeat (first | w_left | exact rfl)
      · repeat (first | w_left | exact rfl)
      · repeat (first | w_left | exact rfl)
      · repeat (first | w_left | exact rfl)
      · repeat (first | w_left | exact rfl)
    · intro d' rest ρ' π' hI
      refine W_gen fun KL0 hL0 => ?_
      obtain ⟨js', a', he, hj', rfl, r_game, r_ply, r_depth, r_qdepth, r_alpha, r_beta, hR⟩ := hI
      cases js' with
      | nil => cases he
      | cons j js' =>
        cases he
        have hjl := hj' j List.mem_cons_self
        refine W_callM (d := .game) (π₁ := π' ++ [(kd T v j : Int)]) ?_ ?_ ?_
        · repeat (first | w_left | exact rfl)
        · repeat (first | with_reducible exact m_make w h hjl | w_left | exact m_make w h hjl | exact rfl)
        refine W_as (d := .int (-(hb T q d (-e) (-a') (p + 1) (kd T v j)))) (π₁ := π' ++ [(kd T v j : Int)]) rfl rfl ?_ ?_
        · repeat (first | with_reducible exact ih _ _ _ (p + 1) _ (h.kid w hjl) | w_left | rw [hd] | exact ih _ _ _ (p + 1) _ (h.kid w hjl) | exact rfl)
        refine W_callM (d := .game) (π₁ := π') ?_ ?_ ?_
        · repeat (first | w_left | exact rfl)
        · repeat (first | with_reducible exact m_undo h0 hlen | w_left | exact m_undo h0 hlen | exact rfl)
        generalize hX : -(hb T q d (-e) (-a') (p + 1) (kd T v j)) = X
        refine W_if (c := decide (X ≥ e)) (π₁ := π') ?_ (fun q1 => ?_) (fun q1 => ?_)
        · repeat (first | w_left | exact rfl)
        · refine W_ret (d := .int e) (π₁ := π') ?_ (hL0 _ _ _ (hK0 _ _ _ ⟨rfl, .inl (by rw [← hR, loopH, hX, if_pos (by simpa using q1)])⟩))
          repeat (first | w_left | exact rfl)
        have q1 : ¬ X ≥ e := by simpa using q1
        refine W_if (c := decide (X > a')) (π₁ := π') ?_ (fun q2 => ?_) (fun q2 => ?_)
        · repeat (first | w_left | exact rfl)
        · refine W_as (d := .int X) (π₁ := π') rfl rfl ?_ ?_
          · repeat (first | w_left | exact rfl)
          refine W_nil (hL0 _ _ _ ⟨js', X, rfl, fun j hj => hj' j (List.mem_cons_of_mem _ hj), rfl, ?_, ?_, ?_, ?_, ?_, ?_, ?_⟩)
          · repeat (first | w_left | exact rfl)
          · repeat (first | w_left | exact rfl)
          · repeat (first | w_left | exact rfl)
          · repeat (first | w_left | exact rfl)
          · repeat (first | w_left | exact rfl)
          · repeat (first | w_left | exact rfl)
          · rw [← hR, loopH, hX, if_neg q1, if_pos (by simpa using q2)]
        · refine W_nil (hL0 _ _ _ ⟨js', a', rfl, fun j hj => hj' j (List.mem_cons_of_mem _ hj), rfl, ?_, ?_, ?_, ?_, ?_, ?_, ?_⟩)
          · repeat (first | w_left | exact rfl)
          · repeat (first | w_left | exact rfl)
          · repeat (first | w_left | exact rfl)
          · repeat (first | w_left | exact rfl)
          · repeat (first | w_left | exact rfl)
          · repeat (first | w_left | exact rfl)
          · rw [← hR, loopH, hX, if_neg q1, if_neg (by simpa using q2)]
    · rintro ρ' π' ⟨js', a', he, hj', rfl, r_game, r_ply, r_depth, r_qdepth, r_alpha, r_beta, hR⟩
      cases js' with
      | cons => cases he
      | nil =>
        refine W_ret (d := .int a') (π₁ := π') ?_ (hK0 _ _ _ ⟨rfl, .inl (by rw [← hR]; rfl)⟩)
        repeat (first | w_left | exact rfl)

noncomputable def cutV (x d bd wt : Int) (ex : Bool) (a e : Int) : Bool :=
  if ex = true ∧ d ≠ wt then false else if d < wt then false else if bd = 3 then true else if bd = 2 then decide (x ≥ e) else if bd = 1 then decide (x ≤ a) else false
theorem m_cutoff {x d bd wt a e : Int} {ex : Bool} : C T (n + 1) (Str.ofString "cutoff") [.int x, .int d, .int bd, .int wt, .bool ex, .int a, .int e] π = some (.bool (cutV x d bd wt ex a e), π) := by
  refine call_W (F := fn 6) rfl rfl ?_
  generalize hb : (fn 6).body = b
  conv at hb => lhs; whnf
  subst hb
  refine W_gen fun K0 hK0 => ?_
  have r_value : rho₀ (fn 6).params [(.int x : D), (.int d : D), (.int bd : D), (.int wt : D), (.bool ex : D), (.int a : D), (.int e : D)] (Str.ofString "value") = some (.fz (.int x)) := rfl
  have r_depth : rho₀ (fn 6).params [(.int x : D), (.int d : D), (.int bd : D), (.int wt : D), (.bool ex : D), (.int a : D), (.int e : D)] (Str.ofString "depth") = some (.fz (.int d)) := rfl
  have r_bound : rho₀ (fn 6).params [(.int x : D), (.int d : D), (.int bd : D), (.int wt : D), (.bool ex : D), (.int a : D), (.int e : D)] (Str.ofString "bound") = some (.fz (.int bd)) := rfl
  have r_want : rho₀ (fn 6).params [(.int x : D), (.int d : D), (.int bd : D), (.int wt : D), (.bool ex : D), (.int a : D), (.int e : D)] (Str.ofString "want") = some (.fz (.int wt)) := rfl
  have r_is_exact : rho₀ (fn 6).params [(.int x : D), (.int d : D), (.int bd : D), (.int wt : D), (.bool ex : D), (.int a : D), (.int e : D)] (Str.ofString "is_exact") = some (.fz (.bool ex)) := rfl
  have r_alpha : rho₀ (fn 6).params [(.int x : D), (.int d : D), (.int bd : D), (.int wt : D), (.bool ex : D), (.int a : D), (.int e : D)] (Str.ofString "alpha") = some (.fz (.int a)) := rfl
  have r_beta : rho₀ (fn 6).params [(.int x : D), (.int d : D), (.int bd : D), (.int wt : D), (.bool ex : D), (.int a : D), (.int e : D)] (Str.ofString "beta") = some (.fz (.int e)) := rfl
  generalize rho₀ (fn 6).params _ = ρ at *
  refine W_if (c := ex && !decide (d = wt)) (π₁ := π) ?_ (fun q1 => ?_) (fun q1 => ?_)
  · repeat (first | w_left | exact rfl)
  · refine W_ret (d := .bool false) (π₁ := π) ?_ (hK0 _ _ _ ⟨rfl, .inl (by rw [cutV, if_pos (by simpa using q1)])⟩)
    repeat (first | w_left | exact rfl)
  have q1 : ¬ (ex = true ∧ d ≠ wt) := by intro ⟨e1, e2⟩; simp [e1, e2] at q1
  refine W_if (c := decide (d < wt)) (π₁ := π) ?_ (fun q2 => ?_) (fun q2 => ?_)
  · repeat (first | w_left | exact rfl)
  · refine W_ret (d := .bool false) (π₁ := π) ?_ (hK0 _ _ _ ⟨rfl, .inl (by rw [cutV, if_neg q1, if_pos (by simpa using q2)])⟩)
    repeat (first | w_left | exact rfl)
  refine W_if (c := decide (bd = 3)) (π₁ := π) ?_ (fun q3 => ?_) (fun q3 => ?_)
  · repeat (first | w_left | exact rfl)
  · refine W_ret (d := .bool true) (π₁ := π) ?_ (hK0 _ _ _ ⟨rfl, .inl (by rw [cutV, if_neg q1, if_neg (by simpa using q2), if_pos (by simpa using q3)])⟩)
    repeat (first | w_left | exact rfl)
  refine W_if (c := decide (bd = 2)) (π₁ := π) ?_ (fun q4 => ?_) (fun q4 => ?_)
  · repeat (first | w_left | exact rfl)
  · refine W_ret (d := .bool (decide (x ≥ e))) (π₁ := π) ?_ (hK0 _ _ _ ⟨rfl, .inl (by rw [cutV, if_neg q1, if_neg (by simpa using q2), if_neg (by simpa using q3), if_pos (by simpa using q4)])⟩)
    repeat (first | w_left | exact rfl)
  refine W_if (c := decide (bd = 1)) (π₁ := π) ?_ (fun q5 => ?_) (fun q5 => ?_)
  · repeat (first | w_left | exact rfl)
  · refine W_ret (d := .bool (decide (x ≤ a))) (π₁ := π) ?_ (hK0 _ _ _ ⟨rfl, .inl (by rw [cutV, if_neg q1, if_neg (by simpa using q2), if_neg (by simpa using q3), if_neg (by simpa using q4), if_pos (by simpa using q5)])⟩)
    repeat (first | w_left | exact rfl)
  · refine W_ret (d := .bool false) (π₁ := π) ?_ (hK0 _ _ _ ⟨rfl, .inl (by rw [cutV, if_neg q1, if_neg (by simpa using q2), if_neg (by simpa using q3), if_neg (by simpa using q4), if_neg (by simpa using q5)])⟩)
    repeat (first | w_left | exact rfl)
end

section
variable {T : Tr} {π : List Int} {v n : Nat}
noncomputable def intsL (l : List Int) : D := .list (l.map .int)
noncomputable def loopL (g : Nat → Int × List Int) : List Nat → Int → List Int → Int × List Int
  | [], b, l => (b, l)
  | j :: r, b, l => if -(g j).1 > b then loopL g r (-(g j).1) ((1 + (j : Int)) :: (g j).2) else loopL g r b l
noncomputable def ln (T : Tr) (q : Nat) : Nat → Int → Nat → Int × List Int
  | 0, p, v => if 0 < p ∧ T.d v = true then (0, []) else (pq T q p v, [])
  | d + 1, p, v => if 0 < p ∧ T.d v = true then (0, []) else if (T.kids v).length = 0 then (endV T p v, []) else loopL (fun j => ln T q d (p + 1) (kd T v j)) (allJ T v) (-32001) []
theorem loopL_len {g : Nat → Int × List Int} {d : Nat} (hg : ∀ j, (g j).2.length ≤ d) : ∀ (js : List Nat) (b : Int) (l : List Int), l.length ≤ d + 1 → (loopL g js b l).2.length ≤ d + 1
  | [], b, l, h => h
  | j :: r, b, l, h => by
    rw [loopL]
    split
    · exact loopL_len hg r _ _ (by simpa using hg j)
    · exact loopL_len hg r _ _ h
theorem ln_len (T : Tr) (q : Nat) : ∀ (d : Nat) (p : Int) (v : Nat), (ln T q d p v).2.length ≤ d
  | 0, p, v => by rw [ln]; split <;> simp
  | d + 1, p, v => by
    rw [ln]
    split
    · simp
    · split
      · simp
      · exact loopL_len (fun j => ln_len T q d _ _) _ _ _ (by simp)
theorem m_line (w : T.WF) (q : Nat) : ∀ (d v : Nat) (p : Int) (π : List Int), d ≤ 100 → T.At π v → C T (n + q + d + 4) (Str.ofString "negamax_line") [.game, .int (d : Int), .int p, .int (q : Int)] π = some (.tup [.int (ln T q d p v).1, intsL (ln T q d p v).2], π) := by
  intro d
  induction d with
  | zero =>
    intro v p π hd100 h
    refine call_W (F := fn 10) (n := n + q + 3) rfl rfl ?_
    generalize hb : (fn 10).body = b
    conv at hb => lhs; whnf
    subst hb
    refine W_gen fun K0 hK0 => ?_
    have r_game : rho₀ (fn 10).params [(.game : D), (.int ((0 : Nat) : Int) : D), (.int p : D), (.int (q : Int) : D)] (Str.ofString "game") = some (.fz (.game)) := rfl
    have r_depth : rho₀ (fn 10).params [(.game : D), (.int ((0 : Nat) : Int) : D), (.int p : D), (.int (q : Int) : D)] (Str.ofString "depth") = some (.fz (.int ((0 : Nat) : Int))) := rfl
    have r_ply : rho₀ (fn 10).params [(.game : D), (.int ((0 : Nat) : Int) : D), (.int p : D), (.int (q : Int) : D)] (Str.ofString "ply") = some (.fz (.int p)) := rfl
    have r_qdepth : rho₀ (fn 10).params [(.game : D), (.int ((0 : Nat) : Int) : D), (.int p : D), (.int (q : Int) : D)] (Str.ofString "qdepth") = some (.fz (.int (q : Int))) := rfl
    generalize rho₀ (fn 10).params _ = ρ at *
    refine W_if (c := decide (p > 0) && T.d v) (π₁ := π) ?_ (fun qd => ?_) (fun qd => ?_)
    · repeat (first | with_reducible exact m_draw w h | w_left | exact m_draw w h | exact rfl)
    · refine W_ret (d := .tup [.int 0, .list []]) (π₁ := π) ?_ (hK0 _ _ _ ⟨rfl, .inl (by simp only [Bool.and_eq_true, decide_eq_true_eq] at qd; rw [ln, if_pos qd]; rfl)⟩)
      repeat (first | w_left | exact rfl)
    have q0 : ¬ (0 < p ∧ T.d v = true) := by simpa using qd
    refine W_if (c := decide (((0 : Nat) : Int) ≤ 0)) (π₁ := π) ?_ (fun q3 => ?_) (fun q3 => ?_)
    · repeat (first | w_left | exact rfl)
    · refine W_ret (d := .tup [.int (pq T q p v), .list []]) (π₁ := π) ?_ (hK0 _ _ _ ⟨rfl, .inl (by rw [ln, if_neg q0]; rfl)⟩)
      repeat (first | with_reducible exact m_pq w q v p π h | w_left | exact m_pq w q v p π h | exact rfl)
    · simp at q3
  | succ d ih =>
    intro v p π hd100 h
    refine call_W (F := fn 10) (n := n + q + d + 4) rfl rfl ?_
    generalize hb : (fn 10).body = b
    conv at hb => lhs; whnf
    subst hb
    refine W_gen fun K0 hK0 => ?_
    have r_game : rho₀ (fn 10).params [(.game : D), (.int ((d + 1 : Nat) : Int) : D), (.int p : D), (.int (q : Int) : D)] (Str.ofString "game") = some (.fz (.game)) := rfl
    have r_depth : rho₀ (fn 10).params [(.game : D), (.int ((d + 1 : Nat) : Int) : D), (.int p : D), (.int (q : Int) : D)] (Str.ofString "depth") = some (.fz (.int ((d + 1 : Nat) : Int))) := rfl
    have r_ply : rho₀ (fn 10).params [(.game : D), (.int ((d + 1 : Nat) : Int) : D), (.int p : D), (.int (q : Int) : D)] (Str.ofString "ply") = some (.fz (.int p)) := rfl
    have r_qdepth : rho₀ (fn 10).params [(.game : D), (.int ((d + 1 : Nat) : Int) : D), (.int p : D), (.int (q : Int) : D)] (Str.ofString "qdepth") = some (.fz (.int (q : Int))) := rfl
    generalize rho₀ (fn 10).params _ = ρ at *
    have hd : ((d + 1 : Nat) : Int) - 1 = (d : Int) := by omega
    have h0 : π ≠ [] := by intro e; subst e; simp [Tr.At] at h
    have hlen : π.length < 100 := by have := h.2.2.1; have := h.2.1; have := w.le; omega
    refine W_if (c := decide (p > 0) && T.d v) (π₁ := π) ?_ (fun qd => ?_) (fun qd => ?_)
    · repeat (first | with_reducible exact m_draw w h | w_left | exact m_draw w h | exact rfl)
    · refine W_ret (d := .tup [.int 0, .list []]) (π₁ := π) ?_ (hK0 _ _ _ ⟨rfl, .inl (by simp only [Bool.and_eq_true, decide_eq_true_eq] at qd; rw [ln, if_pos qd]; rfl)⟩)
      repeat (first | w_left | exact rfl)
    have q0 : ¬ (0 < p ∧ T.d v = true) := by simpa using qd
    refine W_if (c := decide (((d + 1 : Nat) : Int) ≤ 0)) (π₁ := π) ?_ (fun q3 => ?_) (fun q3 => ?_)
    · repeat (first | w_left | exact rfl)
    · simp at q3; omega
    refine W_as (d := .list (mvD (allJ T v))) (π₁ := π) rfl rfl ?_ ?_
    · repeat (first | with_reducible exact m_moves w h | w_left | exact m_moves w h | exact rfl)
    refine W_if (c := !(!(allJ T v).isEmpty)) (π₁ := π) ?_ (fun q2 => ?_) (fun q2 => ?_)
    · repeat (first | with_reducible exact tr_mv (allJ_len w h.2.1) | w_left | exact tr_mv (allJ_len w h.2.1) | exact rfl)
    · have q2 : (T.kids v).length = 0 := allJ_nil.mp (by simpa using q2)
      refine W_ret (d := .tup [.int (endV T p v), .list []]) (π₁ := π) ?_ (hK0 _ _ _ ⟨rfl, .inl (by rw [ln, if_neg q0, if_pos q2]; rfl)⟩)
      repeat (first | with_reducible exact m_end w h | w_left | exact m_end w h | exact rfl)
    have q2 : ¬ (T.kids v).length = 0 := fun e => by have := allJ_nil.mpr e; simp [this] at q2
    refine W_as (d := .int (-32001)) (π₁ := π) rfl rfl ?_ ?_
    · repeat (first | w_left | exact rfl)
    refine W_new rfl ?_
    have hR0 : loopL (fun j => ln T q d (p + 1) (kd T v j)) (allJ T v) (-32001) [] = ln T q (d + 1) p v := by rw [ln, if_neg q0, if_neg q2]
    refine W_for (d := .list (mvD (allJ T v))) (π₁ := π) rfl ?_ (it_mv (allJ_len w h.2.1)) (fun items ρ' π' => ∃ js' b' l', items = mvD js' ∧ (∀ j ∈ js', j < (T.kids v).length) ∧ π' = π ∧ ρ' (Str.ofString "game") = some (.fz .game) ∧ ρ' (Str.ofString "ply") = some (.fz (.int p)) ∧
      ρ' (Str.ofString "depth") = some (.fz (.int ((d + 1 : Nat) : Int))) ∧ ρ' (Str.ofString "qdepth") = some (.fz (.int (q : Int))) ∧ ρ' (Str.ofString "best") = some (.fz (.int b')) ∧
      ((ρ' (Str.ofString "line") = some (.own []) ∧ l' = []) ∨ ρ' (Str.ofString "line") = some (.fz (intsL l'))) ∧ loopL (fun j => ln T q d (p + 1) (kd T v j)) js' b' l' = ln T q (d + 1) p v) ?_ ?_ ?_
    · repeat (first | w_left | exact rfl)
    · refine ⟨allJ T v, -32001, [], rfl, fun _ => allJ_lt, rfl, ?_, ?_, ?_, ?_, ?_, .inl ⟨?_, rfl⟩, hR0⟩
      · repeat (first | w_left | exact rfl)
      · repeat (first | w_left | exact rfl)
      · repeat (first | w_left | exact rfl)
      · repeat (first | w_left | exact rfl)
      · repeat (first | w_left | exact rfl)
      · repeat (first | w_left | exact rfl)
    · intro d' rest ρ' π' hI
      refine W_gen fun KL0 hL0 => ?_
      obtain ⟨js', b', l', he, hj', rfl, r_game, r_ply, r_depth, r_qdepth, r_best, r_line, hR⟩ := hI
      cases js' with
      | nil => cases he
      | cons j js' =>
        cases he
        have hjl := hj' j List.mem_cons_self
        refine W_callM (d := .game) (π₁ := π' ++ [(kd T v j : Int)]) ?_ ?_ ?_
        · repeat (first | w_left | exact rfl)
        · repeat (first | with_reducible exact m_make w h hjl | w_left | exact m_make w h hjl | exact rfl)
        refine W_tuple (ds := [.int (ln T q d (p + 1) (kd T v j)).1, intsL (ln T q d (p + 1) (kd T v j)).2]) (π₁ := π' ++ [(kd T v j : Int)]) rfl (by decide) (fun _ _ _ h => by cases h) ?_ rfl ?_
        · repeat (first | with_reducible exact ih _ (p + 1) _ (by omega) (h.kid w hjl) | w_left | rw [hd] | exact ih _ (p + 1) _ (by omega) (h.kid w hjl) | exact rfl)
        simp only [List.map_cons, List.map_nil, sA_cons, sA_nil]
        refine W_callM (d := .game) (π₁ := π') ?_ ?_ ?_
        · repeat (first | w_left | exact rfl)
        · repeat (first | with_reducible exact m_undo h0 hlen | w_left | exact m_undo h0 hlen | exact rfl)
        have hll := ln_len T q d (p + 1) (kd T v j)
        generalize hX : ln T q d (p + 1) (kd T v j) = X at *
        refine W_if (c := decide (-X.1 > b')) (π₁ := π') ?_ (fun q1 => ?_) (fun q1 => ?_)
        · repeat (first | w_left | exact rfl)
        · refine W_as (d := .int (-X.1)) (π₁ := π') rfl rfl ?_ ?_
          · repeat (first | w_left | exact rfl)
          refine W_as (d := intsL ((1 + (j : Int)) :: X.2)) (π₁ := π') rfl rfl ?_ ?_
          · repeat (first | w_left | exact rfl)
            exact b_addl (xs := [.int (1 + (j : Int))]) (ys := X.2.map .int) (by simp; omega)
          refine W_nil (hL0 _ _ _ ⟨js', -X.1, (1 + (j : Int)) :: X.2, rfl, fun j hj => hj' j (List.mem_cons_of_mem _ hj), rfl, ?_, ?_, ?_, ?_, ?_, .inr ?_, ?_⟩)
          · repeat (first | w_left | exact rfl)
          · repeat (first | w_left | exact rfl)
          · repeat (first | w_left | exact rfl)
          · repeat (first | w_left | exact rfl)
          · repeat (first | w_left | exact rfl)
          · repeat (first | w_left | exact rfl)
          · rw [← hR, loopL]; simp only [hX]; rw [if_pos (by simpa using q1)]
        · refine W_nil (hL0 _ _ _ ⟨js', b', l', rfl, fun j hj => hj' j (List.mem_cons_of_mem _ hj), rfl, ?_, ?_, ?_, ?_, ?_, ?_, ?_⟩)
          · repeat (first | w_left | exact rfl)
          · repeat (first | w_left | exact rfl)
          · repeat (first | w_left | exact rfl)
          · repeat (first | w_left | exact rfl)
          · repeat (first | w_left | exact rfl)
          · rcases r_line with ⟨r_line, hl⟩ | r_line
            · refine .inl ⟨?_, hl⟩
              repeat (first | w_left | exact rfl)
            · refine .inr ?_
              repeat (first | w_left | exact rfl)
          · rw [← hR, loopL]; simp only [hX]; rw [if_neg (by simpa using q1)]
    · rintro ρ' π' ⟨js', b', l', he, hj', rfl, r_game, r_ply, r_depth, r_qdepth, r_best, r_line, hR⟩
      cases js' with
      | cons => cases he
      | nil =>
        have hR : (b', l') = ln T q (d + 1) p v := hR
        refine W_ret (d := .tup [.int b', intsL l']) (π₁ := π') ?_ (hK0 _ _ _ ⟨rfl, .inl (by rw [← hR])⟩)
        rcases r_line with ⟨r_line, hl⟩ | r_line
        · subst hl
          apply E_fin; repeat (first | w_left | exact rfl)
        · repeat (first | w_left | exact rfl)

noncomputable def loopB (g : Nat → Int) : List Nat → Int → List Int → Int × List Int
  | [], b, l => (b, l)
  | j :: r, b, l => if -(g j) > b then loopB g r (-(g j)) [1 + (j : Int)] else if -(g j) = b then loopB g r b (l ++ [1 + (j : Int)]) else loopB g r b l
noncomputable def bm (T : Tr) (q d : Nat) (v : Nat) : Int × List Int := loopB (fun j => ng T q d 1 (kd T v j)) (allJ T v) (-32001) []
noncomputable def bmR (T : Tr) (q d : Nat) (v : Nat) : Int × List Int := if (bm T q d v).2 = [] then (endV T 0 v, []) else bm T q d v
theorem loopB_len (g : Nat → Int) : ∀ (js : List Nat) (b : Int) (l : List Int), (loopB g js b l).2.length ≤ l.length + js.length + 1
  | [], b, l => by simp only [loopB, List.length_nil]; omega
  | j :: r, b, l => by
    rw [loopB]
    split
    · have := loopB_len g r (-(g j)) [1 + (j : Int)]; simp at this ⊢; omega
    · split
      · have := loopB_len g r b (l ++ [1 + (j : Int)]); simp at this ⊢; omega
      · have := loopB_len g r b l; simp at this ⊢; omega
theorem m_best (w : T.WF) (q d v : Nat) (π : List Int) (h : T.At π v) : C T (n + q + d + 5) (Str.ofString "best_moves") [.game, .int ((d + 1 : Nat) : Int), .int (q : Int)] π = some (.tup [.int (bmR T q d v).1, intsL (bmR T q d v).2], π) := by
  refine call_W (F := fn 11) (n := n + q + d + 4) rfl rfl ?_
  generalize hb : (fn 11).body = b
  conv at hb => lhs; whnf
  subst hb
  refine W_gen fun K0 hK0 => ?_
  have r_game : rho₀ (fn 11).params [(.game : D), (.int ((d + 1 : Nat) : Int) : D), (.int (q : Int) : D)] (Str.ofString "game") = some (.fz (.game)) := rfl
  have r_depth : rho₀ (fn 11).params [(.game : D), (.int ((d + 1 : Nat) : Int) : D), (.int (q : Int) : D)] (Str.ofString "depth") = some (.fz (.int ((d + 1 : Nat) : Int))) := rfl
  have r_qdepth : rho₀ (fn 11).params [(.game : D), (.int ((d + 1 : Nat) : Int) : D), (.int (q : Int) : D)] (Str.ofString "qdepth") = some (.fz (.int (q : Int))) := rfl
  generalize rho₀ (fn 11).params _ = ρ at *
  have hd : ((d + 1 : Nat) : Int) - 1 = (d : Int) := by omega
  have h0 : π ≠ [] := by intro e; subst e; simp [Tr.At] at h
  have hlen : π.length < 100 := by have := h.2.2.1; have := h.2.1; have := w.le; omega
  refine W_as (d := .int (-32001)) (π₁ := π) rfl rfl ?_ ?_
  · repeat (first | w_left | exact rfl)
  refine W_new rfl ?_
  have few := w.few v h.2.1
  have hjl : (allJ T v).length ≤ 3 := by simpa [allJ] using few
  refine W_for (d := .list (mvD (allJ T v))) (π₁ := π) rfl ?_ (it_mv (allJ_len w h.2.1)) (fun items ρ' π' => ∃ js' b' l', items = mvD js' ∧ (∀ j ∈ js', j < (T.kids v).length) ∧ π' = π ∧ l'.length + js'.length ≤ 5 ∧ ρ' (Str.ofString "game") = some (.fz .game) ∧
    ρ' (Str.ofString "depth") = some (.fz (.int ((d + 1 : Nat) : Int))) ∧ ρ' (Str.ofString "qdepth") = some (.fz (.int (q : Int))) ∧ ρ' (Str.ofString "best") = some (.fz (.int b')) ∧
    ρ' (Str.ofString "found") = some (.own (l'.map .int)) ∧ loopB (fun j => ng T q d 1 (kd T v j)) js' b' l' = bm T q d v) ?_ ?_ ?_
  · repeat (first | with_reducible exact m_moves w h | w_left | exact m_moves w h | exact rfl)
  · refine ⟨allJ T v, -32001, [], rfl, fun _ => allJ_lt, rfl, by simp; omega, ?_, ?_, ?_, ?_, ?_, rfl⟩
    · repeat (first | w_left | exact rfl)
    · repeat (first | w_left | exact rfl)
    · repeat (first | w_left | exact rfl)
    · repeat (first | w_left | exact rfl)
    · apply E_fin; repeat (first | w_left | exact rfl)
  · intro d' rest ρ' π' hI
    refine W_gen fun KL0 hL0 => ?_
    obtain ⟨js', b', l', he, hj', rfl, hlj, r_game, r_depth, r_qdepth, r_best, r_found, hR⟩ := hI
    cases js' with
    | nil => cases he
    | cons j js' =>
      cases he
      have hjl := hj' j List.mem_cons_self
      simp only [List.length_cons] at hlj
      refine W_callM (d := .game) (π₁ := π' ++ [(kd T v j : Int)]) ?_ ?_ ?_
      · repeat (first | w_left | exact rfl)
      · repeat (first | with_reducible exact m_make w h hjl | w_left | exact m_make w h hjl | exact rfl)
      refine W_as (d := .int (-(ng T q d 1 (kd T v j)))) (π₁ := π' ++ [(kd T v j : Int)]) rfl rfl ?_ ?_
      · repeat (first | with_reducible exact m_ng (n := n) w q d _ 1 _ (h.kid w hjl) | w_left | rw [hd] | exact m_ng (n := n) w q d _ 1 _ (h.kid w hjl) | exact rfl)
      refine W_callM (d := .game) (π₁ := π') ?_ ?_ ?_
      · repeat (first | w_left | exact rfl)
      · repeat (first | with_reducible exact m_undo h0 hlen | w_left | exact m_undo h0 hlen | exact rfl)
      generalize hX : -(ng T q d 1 (kd T v j)) = X
      refine W_if (c := decide (X > b')) (π₁ := π') ?_ (fun q1 => ?_) (fun q1 => ?_)
      · repeat (first | w_left | exact rfl)
      · refine W_as (d := .int X) (π₁ := π') rfl rfl ?_ ?_
        · repeat (first | w_left | exact rfl)
        refine W_new rfl ?_
        refine W_if (c := decide (X = X)) (π₁ := π') ?_ (fun q2 => ?_) (fun q2 => ?_)
        · repeat (first | w_left | exact rfl)
        · refine W_app (xs := []) (d := .int (1 + (j : Int))) (π₁ := π') ?_ rfl rfl rfl (by simp) ?_ ?_
          · repeat (first | w_left | exact rfl)
          · repeat (first | w_left | exact rfl)
          refine W_nil (hL0 _ _ _ ⟨js', X, [1 + (j : Int)], rfl, fun j hj => hj' j (List.mem_cons_of_mem _ hj), rfl, by simp; omega, ?_, ?_, ?_, ?_, ?_, ?_⟩)
          · repeat (first | w_left | exact rfl)
          · repeat (first | w_left | exact rfl)
          · repeat (first | w_left | exact rfl)
          · repeat (first | w_left | exact rfl)
          · apply E_fin; repeat (first | w_left | exact rfl)
          · rw [← hR, loopB, hX, if_pos (by simpa using q1)]
        · simp at q2
      · have q1 : ¬ X > b' := by simpa using q1
        refine W_if (c := decide (X = b')) (π₁ := π') ?_ (fun q2 => ?_) (fun q2 => ?_)
        · repeat (first | w_left | exact rfl)
        · refine W_app (xs := l'.map .int) (d := .int (1 + (j : Int))) (π₁ := π') ?_ rfl rfl rfl (by simp; omega) ?_ ?_
          · repeat (first | w_left | exact rfl)
          · repeat (first | w_left | exact rfl)
          refine W_nil (hL0 _ _ _ ⟨js', b', l' ++ [1 + (j : Int)], rfl, fun j hj => hj' j (List.mem_cons_of_mem _ hj), rfl, by simp; omega, ?_, ?_, ?_, ?_, ?_, ?_⟩)
          · repeat (first | w_left | exact rfl)
          · repeat (first | w_left | exact rfl)
          · repeat (first | w_left | exact rfl)
          · repeat (first | w_left | exact rfl)
          · rw [List.map_append]
            apply E_fin; repeat (first | w_left | exact rfl)
          · rw [← hR, loopB, hX, if_neg q1, if_pos (by simpa using q2)]
        · refine W_nil (hL0 _ _ _ ⟨js', b', l', rfl, fun j hj => hj' j (List.mem_cons_of_mem _ hj), rfl, by omega, ?_, ?_, ?_, ?_, ?_, ?_⟩)
          · repeat (first | w_left | exact rfl)
          · repeat (first | w_left | exact rfl)
          · repeat (first | w_left | exact rfl)
          · repeat (first | w_left | exact rfl)
          · repeat (first | w_left | exact rfl)
          · rw [← hR, loopB, hX, if_neg q1, if_neg (by simpa using q2)]
  · rintro ρ' π' ⟨js', b', l', he, hj', rfl, hlj, r_game, r_depth, r_qdepth, r_best, r_found, hR⟩
    cases js' with
    | cons => cases he
    | nil =>
      have hR : (b', l') = bm T q d v := hR
      have ht : truth (.list (l'.map .int)) = some (!l'.isEmpty) := by
        show (if _ then _ else _) = _
        rw [if_pos (by simp; omega)]
        cases l' <;> rfl
      refine W_if (c := !(!l'.isEmpty)) (π₁ := π') ?_ (fun q2 => ?_) (fun q2 => ?_)
      · repeat (first | with_reducible exact ht | w_left | exact ht | exact rfl)
      · have q2 : l' = [] := by simpa using q2
        refine W_as (d := .int (endV T 0 v)) (π₁ := π') rfl rfl ?_ ?_
        · repeat (first | with_reducible exact m_end w h | w_left | exact m_end w h | exact rfl)
        refine W_ret (d := .tup [.int (endV T 0 v), .list (l'.map .int)]) (π₁ := π') ?_ (hK0 _ _ _ ⟨rfl, .inl (by rw [bmR, ← hR, if_pos q2, q2]; rfl)⟩)
        repeat (first | w_left | exact rfl)
      · have q2 : ¬ l' = [] := by simpa using q2
        refine W_ret (d := .tup [.int b', .list (l'.map .int)]) (π₁ := π') ?_ (hK0 _ _ _ ⟨rfl, .inl (by rw [bmR, ← hR, if_neg q2]; rfl)⟩)
        repeat (first | w_left | exact rfl)
end

section
variable {f : List (Str × D)}
theorem gf_START : (cfT f).gfun (Str.ofString "_law_START") = some (Str.ofString "_law_START") := rfl
theorem gf_at : (cfT f).gfun (Str.ofString "_law_at") = some (Str.ofString "_law_at") := rfl
theorem gf_digit : (cfT f).gfun (Str.ofString "_law_digit") = some (Str.ofString "_law_digit") := rfl
theorem gf_tree : (cfT f).gfun (Str.ofString "_law_tree") = some (Str.ofString "_law_tree") := rfl
theorem gf_lup : (cfT f).gfun (Str.ofString "_law_up") = some (Str.ofString "_law_up") := rfl
theorem gf_node : (cfT f).gfun (Str.ofString "_law_node") = some (Str.ofString "_law_node") := rfl
theorem gf_levels : (cfT f).gfun (Str.ofString "_law_levels") = some (Str.ofString "_law_levels") := rfl
theorem gf_window : (cfT f).gfun (Str.ofString "_law_window") = some (Str.ofString "_law_window") := rfl
theorem gf_isb : (cfT f).gfun (Str.ofString "_law_is_bound") = some (Str.ofString "_law_is_bound") := rfl
theorem gf_cuts : (cfT f).gfun (Str.ofString "_law_cuts") = some (Str.ofString "_law_cuts") := rfl
theorem gf_first : (cfT f).gfun (Str.ofString "_law_first") = some (Str.ofString "_law_first") := rfl
theorem gf_root : (cfT f).gfun (Str.ofString "_law_root") = some (Str.ofString "_law_root") := rfl
end
section
variable {cf : Cf} {Φ : Mean} {κ : Str → Option NameKind}
theorem W_tuplit {n ts tk tp es ek ep p cs K ρ π xs ds π₁} (ht : targets κ ts = some xs) (hc : xs.Nodup ∧ xs.length = es.length ∧ xs.length < 9) (hn : (es.all isEmptyList && decide (3 < xs.length)) = false)
    (hs : (es.all noStar && !(es.all (constantsAlone 8)) && !(es.all (foldedForSure 8))) = true) (h : evList (ev cf Φ 20 false κ (look (freeze (es.flatMap (namesIn 9)) ρ))) es π = some (ds, π₁))
    (k : W cf Φ κ (n + 1) cs K (setAll (freeze (es.flatMap (namesIn 9)) ρ) xs (ds.map .fz)) π₁) : W cf Φ κ (n + 1) (.Assign [.Tuple ts tk tp] (.Tuple es ek ep) p :: cs) K ρ π := by
  refine W_step ?_ k
  show exTup cf Φ κ ts (.Tuple es ek ep) ρ π = _
  unfold exTup
  rw [ht]
  show exTup1 cf Φ κ xs es ρ π = _
  unfold exTup1
  rw [if_pos hc, if_neg (by rw [hn]; simp), if_pos hs, h]
theorem W_news {n ts tk tp es ek ep p cs K ρ π xs} (ht : targets κ ts = some xs) (hc : xs.Nodup ∧ xs.length = es.length ∧ xs.length < 9) (hn : (es.all isEmptyList && decide (3 < xs.length)) = true)
    (k : W cf Φ κ (n + 1) cs K (setAll ρ xs (xs.map fun _ => .own [])) π) : W cf Φ κ (n + 1) (.Assign [.Tuple ts tk tp] (.Tuple es ek ep) p :: cs) K ρ π := by
  refine W_step ?_ k
  show exTup cf Φ κ ts (.Tuple es ek ep) ρ π = _
  unfold exTup
  rw [ht]
  show exTup1 cf Φ κ xs es ρ π = _
  unfold exTup1
  rw [if_pos hc, if_pos hn]
end
/-! ## digits -/
noncomputable def startL : List Int := match (fn 25).body with
  | [.Return (some (.List es _)) _] => es.filterMap fun e => match e with
    | .Constant (.int i) _ _ => some i
    | _ => none
  | _ => []
theorem startL_len : startL.length = 11 := rfl
noncomputable def atV (s : List Int) (i : Nat) : Int := if i < s.length then s[i]?.getD 0 else startL[i]?.getD 0
noncomputable def dg (x k : Int) : Int := Int.fmod (Int.fdiv x (10 ^ k.toNat)) 10
theorem dg_range (x k : Int) : 0 ≤ dg x k ∧ dg x k < 10 := by
  unfold dg
  exact ⟨Int.fmod_nonneg_of_pos _ (by omega), Int.fmod_lt_of_pos _ (by omega)⟩
section
variable {T : Tr} {π : List Int} {v n : Nat}
theorem m_START : C T (n + 1) (Str.ofString "_law_START") [] π = some (intsL startL, π) := by
  refine call_W (F := fn 25) rfl rfl ?_
  generalize hb : (fn 25).body = b
  conv at hb => lhs; whnf
  subst hb
  refine W_gen fun K0 hK0 => ?_
  generalize rho₀ (fn 25).params _ = ρ at *
  refine W_ret (d := intsL startL) (π₁ := π) ?_ (hK0 _ _ _ ⟨rfl, .inl rfl⟩)
  apply E_fin; repeat (first | w_left | exact rfl)
theorem ints_item {l : List Int} {i : Nat} (hl : l.length ≤ 10000) (h : i < l.length) : item (intsL l) (.int (i : Int)) π = some (.int (l[i]?.getD 0)) := by
  exact it_list (by simpa using hl) (by simp [h])
theorem bi_ints {l : List Int} (hl : l.length ≤ 10000) : builtin (Str.ofString "len") [intsL l] π = some (.int l.length) := by
  have := bi_len (π := π) (xs := l.map D.int) (by simpa using hl)
  simpa [intsL] using this
theorem m_at {s : List Int} {i : Nat} (hs : s.length ≤ 10000) (hi : i < max 11 s.length) : C T (n + 2) (Str.ofString "_law_at") [intsL s, .int (i : Int)] π = some (.int (atV s i), π) := by
  refine call_W (F := fn 26) rfl rfl ?_
  generalize hb : (fn 26).body = b
  conv at hb => lhs; whnf
  subst hb
  refine W_gen fun K0 hK0 => ?_
  have r_script : rho₀ (fn 26).params [(intsL s : D), (.int (i : Int) : D)] (Str.ofString "script") = some (.fz (intsL s)) := rfl
  have r_i : rho₀ (fn 26).params [(intsL s : D), (.int (i : Int) : D)] (Str.ofString "i") = some (.fz (.int (i : Int))) := rfl
  generalize rho₀ (fn 26).params _ = ρ at *
  refine W_ret (d := .int (atV s i)) (π₁ := π) ?_ (hK0 _ _ _ ⟨rfl, .inl rfl⟩)
  by_cases h : i < s.length
  · have h1 : decide ((i : Int) < (s.length : Int)) = true := by simpa using h
    have e : atV s i = s[i]?.getD 0 := by unfold atV; rw [if_pos h]
    rw [e]
    apply E_ift (π₁ := π)
    · refine E_fin (a := (D.bool (decide ((i : Int) < (s.length : Int))), π)) ?_ (by rw [h1])
      repeat (first | with_reducible exact bi_ints hs | w_left | exact bi_ints hs | exact rfl)
    · repeat (first | with_reducible exact ints_item hs h | w_left | exact ints_item hs h | exact rfl)
  · have h1 : decide ((i : Int) < (s.length : Int)) = false := by simpa using h
    have h2 : i < startL.length := by rw [startL_len]; omega
    have e : atV s i = startL[i]?.getD 0 := by unfold atV; rw [if_neg h]
    rw [e]
    apply E_iff (π₁ := π)
    · refine E_fin (a := (D.bool (decide ((i : Int) < (s.length : Int))), π)) ?_ (by rw [h1])
      repeat (first | with_reducible exact bi_ints hs | w_left | exact bi_ints hs | exact rfl)
    · repeat (first | with_reducible exact m_START | with_reducible exact ints_item (show startL.length ≤ 10000 by rw [startL_len]; omega) h2 | w_left | exact m_START | exact ints_item (show startL.length ≤ 10000 by rw [startL_len]; omega) h2 | exact rfl)
theorem b_pow {k : Int} (h : 0 ≤ k ∧ k ≤ 20) : binop .Pow (.int 10) (.int k) = some (.int (10 ^ k.toNat)) := by
  show (if _ then _ else _) = _
  rw [if_pos ⟨rfl, by simp [small, h]⟩]
theorem m_digit {x k : Int} (h : 0 ≤ k ∧ k ≤ 20) : C T (n + 1) (Str.ofString "_law_digit") [.int x, .int k] π = some (.int (dg x k), π) := by
  refine call_W (F := fn 27) rfl rfl ?_
  generalize hb : (fn 27).body = b
  conv at hb => lhs; whnf
  subst hb
  refine W_gen fun K0 hK0 => ?_
  have r_x : rho₀ (fn 27).params [(.int x : D), (.int k : D)] (Str.ofString "x") = some (.fz (.int x)) := rfl
  have r_i : rho₀ (fn 27).params [(.int x : D), (.int k : D)] (Str.ofString "i") = some (.fz (.int k)) := rfl
  generalize rho₀ (fn 27).params _ = ρ at *
  refine W_ret (d := .int (dg x k)) (π₁ := π) ?_ (hK0 _ _ _ ⟨rfl, .inl rfl⟩)
  have hp : (0 : Int) < 10 ^ k.toNat ∧ (10 : Int) ^ k.toNat ≤ 10 ^ 20 := by
    refine ⟨Int.pow_pos (by omega), ?_⟩
    have : (10 : Nat) ^ k.toNat ≤ 10 ^ 20 := Nat.pow_le_pow_right (by omega) (by omega)
    exact_mod_cast this
  apply E_fin; repeat (first | with_reducible exact b_pow h | with_reducible exact b_fdiv hp | w_left | exact b_pow h | exact b_fdiv hp | exact rfl)
noncomputable def up (s : Int) : Int := if s > 31000 then 1 - s else if s < -31000 then -1 - s else -s
theorem m_up {s : Int} : C T (n + 1) (Str.ofString "_law_up") [.int s] π = some (.int (up s), π) := by
  refine call_W (F := fn 29) rfl rfl ?_
  generalize hb : (fn 29).body = b
  conv at hb => lhs; whnf
  subst hb
  refine W_gen fun K0 hK0 => ?_
  have r_score : rho₀ (fn 29).params [(.int s : D)] (Str.ofString "score") = some (.fz (.int s)) := rfl
  generalize rho₀ (fn 29).params _ = ρ at *
  refine W_if (c := decide (s > 31000)) (π₁ := π) ?_ (fun q => ?_) (fun q => ?_)
  · repeat (first | w_left | exact rfl)
  · refine W_ret (d := .int (1 - s)) (π₁ := π) ?_ (hK0 _ _ _ ⟨rfl, .inl (by rw [up, if_pos (by simpa using q)])⟩)
    repeat (first | w_left | exact rfl)
  refine W_if (c := decide (s < -31000)) (π₁ := π) ?_ (fun q' => ?_) (fun q' => ?_)
  · repeat (first | w_left | exact rfl)
  · refine W_ret (d := .int (-1 - s)) (π₁ := π) ?_ (hK0 _ _ _ ⟨rfl, .inl (by rw [up, if_neg (by simpa using q), if_pos (by simpa using q')])⟩)
    repeat (first | w_left | exact rfl)
  · refine W_ret (d := .int (-s)) (π₁ := π) ?_ (hK0 _ _ _ ⟨rfl, .inl (by rw [up, if_neg (by simpa using q), if_neg (by simpa using q')])⟩)
    repeat (first | w_left | exact rfl)

noncomputable def isb (t x a e : Int) : Bool := if t ≤ a then decide (x ≤ t) else if t ≥ e then decide (x ≥ t) else decide (t = x)
theorem m_isb {t x a e : Int} : C T (n + 1) (Str.ofString "_law_is_bound") [.int t, .int x, .int a, .int e] π = some (.bool (isb t x a e), π) := by
  refine call_W (F := fn 33) rfl rfl ?_
  generalize hb : (fn 33).body = b
  conv at hb => lhs; whnf
  subst hb
  refine W_gen fun K0 hK0 => ?_
  have r_told : rho₀ (fn 33).params [(.int t : D), (.int x : D), (.int a : D), (.int e : D)] (Str.ofString "told") = some (.fz (.int t)) := rfl
  have r_true : rho₀ (fn 33).params [(.int t : D), (.int x : D), (.int a : D), (.int e : D)] (Str.ofString "true") = some (.fz (.int x)) := rfl
  have r_alpha : rho₀ (fn 33).params [(.int t : D), (.int x : D), (.int a : D), (.int e : D)] (Str.ofString "alpha") = some (.fz (.int a)) := rfl
  have r_beta : rho₀ (fn 33).params [(.int t : D), (.int x : D), (.int a : D), (.int e : D)] (Str.ofString "beta") = some (.fz (.int e)) := rfl
  generalize rho₀ (fn 33).params _ = ρ at *
  refine W_if (c := decide (t ≤ a)) (π₁ := π) ?_ (fun q => ?_) (fun q => ?_)
  · repeat (first | w_left | exact rfl)
  · refine W_ret (d := .bool (decide (x ≤ t))) (π₁ := π) ?_ (hK0 _ _ _ ⟨rfl, .inl (by rw [isb, if_pos (by simpa using q)])⟩)
    repeat (first | w_left | exact rfl)
  refine W_if (c := decide (t ≥ e)) (π₁ := π) ?_ (fun q' => ?_) (fun q' => ?_)
  · repeat (first | w_left | exact rfl)
  · refine W_ret (d := .bool (decide (x ≥ t))) (π₁ := π) ?_ (hK0 _ _ _ ⟨rfl, .inl (by rw [isb, if_neg (by simpa using q), if_pos (by simpa using q')])⟩)
    repeat (first | w_left | exact rfl)
  · refine W_ret (d := .bool (decide (t = x))) (π₁ := π) ?_ (hK0 _ _ _ ⟨rfl, .inl (by rw [isb, if_neg (by simpa using q), if_neg (by simpa using q')])⟩)
    repeat (first | w_left | exact rfl)

noncomputable def minI (a b : Int) : Int := if b < a then b else a
noncomputable def maxI (a b : Int) : Int := if b > a then b else a
noncomputable def winV (x t : Int) : Int × Int :=
  if Int.fmod x 10 < 5 then
    let a := minI (maxI (t + Int.fmod (Int.fmod (Int.fdiv x 10) 100) 15 - 10) (-32001)) 32000
    (a, minI (a + 1 + dg x 3) 32001)
  else
    let a := Int.fmod (Int.fdiv x 10) 64002 - 32001
    (a, a + 1 + Int.fmod (Int.fdiv x (10 ^ 6)) (32001 - a))
theorem win_ok (x t : Int) : -32001 ≤ (winV x t).1 ∧ (winV x t).1 < (winV x t).2 ∧ (winV x t).2 ≤ 32001 := by
  unfold winV
  have h := dg_range x 3
  split
  · simp only [minI, maxI]
    refine ⟨?_, ?_, ?_⟩ <;> (repeat' split) <;> omega
  · have h1 := Int.fmod_nonneg_of_pos (Int.fdiv x 10) (b := 64002) (by omega)
    have h2 := Int.fmod_lt_of_pos (Int.fdiv x 10) (b := 64002) (by omega)
    have h3 := Int.fmod_nonneg_of_pos (Int.fdiv x (10 ^ 6)) (b := 32001 - (Int.fmod (Int.fdiv x 10) 64002 - 32001)) (by omega)
    have h4 := Int.fmod_lt_of_pos (Int.fdiv x (10 ^ 6)) (b := 32001 - (Int.fmod (Int.fdiv x 10) 64002 - 32001)) (by omega)
    simp only
    omega
theorem b_pow6 : binop .Pow (.int 10) (.int 6) = some (.int (10 ^ 6)) := rfl
theorem m_window {x t : Int} : C T (n + 2) (Str.ofString "_law_window") [.int x, .int t] π = some (.tup [.int (winV x t).1, .int (winV x t).2], π) := by
  refine call_W (F := fn 32) rfl rfl ?_
  generalize hb : (fn 32).body = b
  conv at hb => lhs; whnf
  subst hb
  refine W_gen fun K0 hK0 => ?_
  have r_x : rho₀ (fn 32).params [(.int x : D), (.int t : D)] (Str.ofString "x") = some (.fz (.int x)) := rfl
  have r_true : rho₀ (fn 32).params [(.int x : D), (.int t : D)] (Str.ofString "true") = some (.fz (.int t)) := rfl
  generalize rho₀ (fn 32).params _ = ρ at *
  refine W_if (c := decide (Int.fmod x 10 < 5)) (π₁ := π) ?_ (fun q => ?_) (fun q => ?_)
  · repeat (first | w_left | exact rfl)
  · refine W_as (d := .int (minI (maxI (t + Int.fmod (Int.fmod (Int.fdiv x 10) 100) 15 - 10) (-32001)) 32000)) (π₁ := π) rfl rfl ?_ ?_
    · apply E_fin; repeat (first | with_reducible exact bi_min | with_reducible exact bi_max | w_left | exact bi_min | exact bi_max | exact rfl)
    · refine W_ret (d := .tup [.int (winV x t).1, .int (winV x t).2]) (π₁ := π) ?_ (hK0 _ _ _ ⟨rfl, .inl rfl⟩)
      rw [winV, if_pos (by simpa using q)]
      apply E_fin; repeat (first | with_reducible exact bi_min | with_reducible exact m_digit (x := x) (k := 3) (by omega) | w_left | exact bi_min | exact m_digit (x := x) (k := 3) (by omega) | exact rfl)
  · refine W_as (d := .int (Int.fmod (Int.fdiv x 10) 64002 - 32001)) (π₁ := π) rfl rfl ?_ ?_
    · repeat (first | w_left | exact rfl)
    · have h2 := Int.fmod_lt_of_pos (Int.fdiv x 10) (b := 64002) (by omega)
      refine W_ret (d := .tup [.int (winV x t).1, .int (winV x t).2]) (π₁ := π) ?_ (hK0 _ _ _ ⟨rfl, .inl rfl⟩)
      rw [winV, if_neg (by simpa using q)]
      repeat (first | with_reducible exact b_pow6 | with_reducible exact b_mod (show ¬ (32001 - (Int.fmod (Int.fdiv x 10) 64002 - 32001)) = 0 by omega) | w_left | exact b_pow6 | exact b_mod (show ¬ (32001 - (Int.fmod (Int.fdiv x 10) 64002 - 32001)) = 0 by omega) | exact rfl)
noncomputable def cutX (x a e : Int) : Int := ([a - 1, a, a + 1, e - 1, e, e + 1] : List Int)[(Int.fmod (dg x 12) 6).toNat]?.getD 0
theorem m_cuts {x a e : Int} : C T (n + 2) (Str.ofString "_law_cuts") [.int x, .int a, .int e] π = some (.bool true, π) := by
  refine call_W (F := fn 34) rfl rfl ?_
  generalize hb : (fn 34).body = b
  conv at hb => lhs; whnf
  subst hb
  refine W_gen fun K0 hK0 => ?_
  have r_x : rho₀ (fn 34).params [(.int x : D), (.int a : D), (.int e : D)] (Str.ofString "x") = some (.fz (.int x)) := rfl
  have r_alpha : rho₀ (fn 34).params [(.int x : D), (.int a : D), (.int e : D)] (Str.ofString "alpha") = some (.fz (.int a)) := rfl
  have r_beta : rho₀ (fn 34).params [(.int x : D), (.int a : D), (.int e : D)] (Str.ofString "beta") = some (.fz (.int e)) := rfl
  generalize rho₀ (fn 34).params _ = ρ at *
  refine W_tuplit (ds := [.int (Int.fmod (dg x 8) 4), .int (Int.fmod (dg x 9) 4), .int (Int.fmod (dg x 10) 4)]) (π₁ := π) rfl (by decide) (by rfl) (by rfl) ?_ ?_
  · repeat (first | with_reducible exact m_digit (x := x) (k := 8) (by omega) | with_reducible exact m_digit (x := x) (k := 9) (by omega) | with_reducible exact m_digit (x := x) (k := 10) (by omega) | w_left | exact m_digit (x := x) (k := 8) (by omega) | exact m_digit (x := x) (k := 9) (by omega) | exact m_digit (x := x) (k := 10) (by omega) | exact rfl)
  simp only [List.map_cons, List.map_nil, sA_cons, sA_nil]
  generalize Int.fmod (dg x 8) 4 = dp
  generalize Int.fmod (dg x 9) 4 = wt
  generalize Int.fmod (dg x 10) 4 = bd
  refine W_as (d := .bool (decide (Int.fmod (dg x 11) 2 = 0))) (π₁ := π) rfl rfl ?_ ?_
  · repeat (first | with_reducible exact m_digit (x := x) (k := 11) (by omega) | w_left | exact m_digit (x := x) (k := 11) (by omega) | exact rfl)
  generalize decide (Int.fmod (dg x 11) 2 = 0) = ie
  have hr := dg_range x 12
  have h1 := Int.fmod_nonneg_of_pos (dg x 12) (b := 6) (by omega)
  have h2 := Int.fmod_lt_of_pos (dg x 12) (b := 6) (by omega)
  have hit : item (.list [.int (a - 1), .int a, .int (a + 1), .int (e - 1), .int e, .int (e + 1)]) (.int (Int.fmod (dg x 12) 6)) π = some (.int (cutX x a e)) := by
    have := ints_item (π := π) (l := [a - 1, a, a + 1, e - 1, e, e + 1]) (i := (Int.fmod (dg x 12) 6).toNat) (by simp) (by simp; omega)
    rw [show (((Int.fmod (dg x 12) 6).toNat : Nat) : Int) = Int.fmod (dg x 12) 6 by omega] at this
    exact this
  refine W_as (d := .int (cutX x a e)) (π₁ := π) rfl rfl ?_ ?_
  · repeat (first | with_reducible exact m_digit (x := x) (k := 12) (by omega) | with_reducible exact hit | w_left | exact m_digit (x := x) (k := 12) (by omega) | exact hit | exact rfl)
  generalize cutX x a e = X
  refine W_as (d := .bool (if ie = true then decide (dp = wt) else decide (dp ≥ wt))) (π₁ := π) rfl rfl ?_ ?_
  · repeat (first | w_left | exact rfl)
  refine W_as (d := .bool (decide (bd = 3) || (decide (bd = 2) && decide (X ≥ e) || decide (bd = 1) && decide (X ≤ a)))) (π₁ := π) rfl rfl ?_ ?_
  · repeat (first | w_left | exact rfl)
  refine W_ret (d := .bool true) (π₁ := π) ?_ (hK0 _ _ _ ⟨rfl, .inl rfl⟩)
  repeat (first | with_reducible exact m_cutoff | w_left | exact m_cutoff | exact rfl)
  have key : (cutV X dp bd wt ie a e == ((if ie = true then decide (dp = wt) else decide (dp ≥ wt)) && (decide (bd = 3) || (decide (bd = 2) && decide (X ≥ e) || decide (bd = 1) && decide (X ≤ a))))) = true := by
    rw [beq_iff_eq]
    unfold cutV
    cases ie
    · simp only [Bool.false_eq_true, false_and, if_false]
      by_cases h1 : dp < wt
      · have : ¬ dp ≥ wt := by omega
        simp [h1, this]
      · have : dp ≥ wt := by omega
        rw [if_neg h1]
        simp only [this, decide_true, Bool.true_and]
        by_cases h3 : bd = 3
        · simp [h3]
        · by_cases h4 : bd = 2
          · subst h4; simp
          · by_cases h5 : bd = 1
            · subst h5; simp
            · simp [h3, h4, h5]
    · by_cases h0 : dp = wt
      · subst h0
        simp only [ne_eq, not_true, and_false, if_false, Int.lt_irrefl, if_true, decide_true, Bool.true_and]
        by_cases h3 : bd = 3
        · simp [h3]
        · by_cases h4 : bd = 2
          · subst h4; simp
          · by_cases h5 : bd = 1
            · subst h5; simp
            · simp [h3, h4, h5]
      · simp [h0]
  rw [c_eqb, key]
end

/-! ## the tree of a script -/
noncomputable def szI (s : List Int) : Int := minI (maxI 8 ((s.length : Int) - 3)) 12
noncomputable def sz (s : List Int) : Nat := (szI s).toNat
theorem szI_range (s : List Int) : 8 ≤ szI s ∧ szI s ≤ 12 := by
  unfold szI minI maxI
  split <;> split <;> omega
theorem sz_cast (s : List Int) : ((sz s : Nat) : Int) = szI s := by
  have := szI_range s
  unfold sz; omega
theorem sz_range (s : List Int) : 8 ≤ sz s ∧ sz s ≤ 12 := by
  have := szI_range s
  have := sz_cast s
  omega
theorem sz_at (s : List Int) {v : Nat} (h : v < sz s) : 3 + v < max 11 s.length := by
  have h1 := sz_cast s
  have : szI s = 8 ∨ szI s ≤ (s.length : Int) - 3 := by
    unfold szI minI maxI
    split <;> split <;> omega
  have := sz_range s
  omega
noncomputable def nx (s : List Int) (v : Nat) : Int := atV s (3 + v)
noncomputable def cnt0 : List Int := [1, 2, 3, 1, 2, 3, 1, 2, 3, 0]
noncomputable def roomV (s : List Int) (v : Nat) : Int := szI s - 1 - v
noncomputable def cntI (s : List Int) (v : Nat) : Int := if roomV s v = 0 then 0 else if (v : Int) = 0 then cnt0[(dg (nx s v) 3).toNat]?.getD 0 else Int.fmod (dg (nx s v) 3) 4
noncomputable def cnt (s : List Int) (v : Nat) : Nat := (cntI s v).toNat
theorem cnt0_range (i : Nat) : 0 ≤ cnt0[i]?.getD 0 ∧ cnt0[i]?.getD 0 ≤ 3 := by
  rcases Nat.lt_or_ge i 10 with h | h
  · exact (by decide : ∀ j : Nat, j < 10 → 0 ≤ cnt0[j]?.getD 0 ∧ cnt0[j]?.getD 0 ≤ 3) i h
  · rw [List.getElem?_eq_none (by simpa [cnt0] using h)]; decide
theorem cntI_range (s : List Int) (v : Nat) : 0 ≤ cntI s v ∧ cntI s v ≤ 3 := by
  unfold cntI
  split
  · omega
  · split
    · exact cnt0_range _
    · have h1 := Int.fmod_nonneg_of_pos (dg (nx s v) 3) (b := 4) (by omega)
      have h2 := Int.fmod_lt_of_pos (dg (nx s v) 3) (b := 4) (by omega)
      omega
theorem cnt_cast (s : List Int) (v : Nat) : ((cnt s v : Nat) : Int) = cntI s v := by
  have := cntI_range s v
  unfold cnt; omega
theorem cnt_room (s : List Int) {v : Nat} (h : v < sz s) (hc : 0 < cnt s v) : 0 < roomV s v := by
  have h1 := sz_cast s
  have : roomV s v ≠ 0 := fun e => by
    have := cnt_cast s v
    unfold cntI at this
    rw [if_pos e] at this
    omega
  unfold roomV at this ⊢
  omega
noncomputable def kidI (s : List Int) (v j : Nat) : Int := (v : Int) + 1 + Int.fmod (dg (nx s v) (4 + (j : Int))) (roomV s v)
noncomputable def treeOf (s : List Int) : Tr where
  ch := (List.range (sz s)).map fun v => (List.range (cnt s v)).map fun j => (kidI s v j).toNat
  val := (List.range (sz s)).map fun v => Int.fmod (nx s v) 100 - 50
  chk := (List.range (sz s)).map fun v => decide (dg (nx s v) 2 ≥ 7)
  drw := (List.range (sz s)).map fun v => decide (dg (nx s v) 2 = 6) || decide (dg (nx s v) 2 = 9)
  noi := (List.range (sz s)).map fun v => (List.range (cnt s v)).map fun (j : Nat) => decide (Int.fmod (Int.fdiv (dg (nx s v) 7) (2 ^ j)) 2 = 1)
theorem kidI_range (s : List Int) {v j : Nat} (h : v < sz s) (hj : j < cnt s v) : (v : Int) < kidI s v j ∧ kidI s v j < sz s := by
  have hr := cnt_room s h (by omega)
  have h1 := Int.fmod_nonneg_of_pos (dg (nx s v) (4 + (j : Int))) hr
  have h2 := Int.fmod_lt_of_pos (dg (nx s v) (4 + (j : Int))) hr
  have := sz_cast s
  unfold kidI
  unfold roomV at *
  omega
theorem treeOf_n (s : List Int) : (treeOf s).n = sz s := by simp [treeOf, Tr.n]
theorem treeOf_kids (s : List Int) {v : Nat} (h : v < sz s) : (treeOf s).kids v = (List.range (cnt s v)).map fun j => (kidI s v j).toNat := by
  simp [treeOf, Tr.kids, h]
theorem treeOf_wf (s : List Int) : (treeOf s).WF where
  le := by rw [treeOf_n]; exact (sz_range s).2
  pos := by rw [treeOf_n]; have := sz_range s; omega
  lv := by simp [treeOf, Tr.n]
  lk := by simp [treeOf, Tr.n]
  ld := by simp [treeOf, Tr.n]
  lo := by simp [treeOf, Tr.n]
  kid := fun v hv k hk => by
    rw [treeOf_n] at hv ⊢
    rw [treeOf_kids s hv] at hk
    obtain ⟨j, hj, rfl⟩ := List.mem_map.mp hk
    have := kidI_range s hv (List.mem_range.mp hj)
    omega
  few := fun v hv => by
    rw [treeOf_n] at hv
    rw [treeOf_kids s hv]
    have := cnt_cast s v
    have := cntI_range s v
    simp; omega
  noi := fun v hv => by
    rw [treeOf_n] at hv
    rw [treeOf_kids s hv]
    simp [treeOf, Tr.o, hv]
  small := fun v hv => by
    rw [treeOf_n] at hv
    have h1 := Int.fmod_nonneg_of_pos (nx s v) (b := 100) (by omega)
    have h2 := Int.fmod_lt_of_pos (nx s v) (b := 100) (by omega)
    have : (treeOf s).v v = Int.fmod (nx s v) 100 - 50 := by simp [treeOf, Tr.v, hv]
    rw [this]; omega

noncomputable def forB (c : Stmt) : List Stmt := match c with
  | .For _ _ b _ _ => b
  | _ => []
noncomputable def treeTail : List Stmt := (forB ((fn 28).body[2]?.getD default)).drop 5
section
variable {T : Tr} {π : List Int} {v n : Nat} {s : List Int}
theorem b_shr {a b : Int} (ha : 0 ≤ a ∧ a ≤ 20) (hb : 0 ≤ b ∧ b ≤ 20) : binop .RShift (.int a) (.int b) = some (.int (Int.fdiv a (2 ^ b.toNat))) := by
  show (if _ then _ else _) = _
  rw [if_pos (by simp [small, ha, hb])]
theorem it_range0 {k : Nat} (hk : k ≤ 1000) : itemsOf (.range 0 (k : Int)) = some ((List.range k).map fun (i : Nat) => D.int (i : Int)) := by
  show (if _ then _ else _) = _
  rw [if_pos (by omega)]
  rw [show ((k : Int) - 0).toNat = k by omega]
  simp
theorem go_all {α : Type} {f : D → Expr → List Int → Option (D × List Int)} {elt : D → List Int → Option (D × List Int)} (F : α → D) (g : α → D) (l : List α) (h2 : ∀ a ∈ l, elt (F a) π = some (g a, π)) :
    compGo (fun w => tests (f w) []) elt (l.map F) π = some (l.map g, π) := by
  have := go_map (test := fun w => tests (f w) []) (elt := elt) F (fun _ => true) g l (fun _ _ => te_nil) (fun a ha _ => h2 a ha)
  rwa [List.filter_eq_self.mpr (fun _ _ => rfl)] at this
noncomputable def rowC (s : List Int) (v : Nat) : D := .list ((List.range (cnt s v)).map fun j => .int (kidI s v j))
noncomputable def rowN (s : List Int) (v : Nat) : D := .list ((List.range (cnt s v)).map fun (j : Nat) => .bool (decide (Int.fmod (Int.fdiv (dg (nx s v) 7) (2 ^ j)) 2 = 1)))
noncomputable def rowV (s : List Int) (v : Nat) : D := .int (Int.fmod (nx s v) 100 - 50)
noncomputable def rowK (s : List Int) (v : Nat) : D := .bool (decide (dg (nx s v) 2 ≥ 7))
noncomputable def rowD (s : List Int) (v : Nat) : D := .bool (decide (dg (nx s v) 2 = 6) || decide (dg (nx s v) 2 = 9))
theorem tree_tail {m : Nat} {K : Kp} {ρ : Rho} {A1 A2 A3 A4 A5 : List D} (hv : v < sz s) (l1 : A1.length < 100) (l2 : A2.length < 100) (l3 : A3.length < 100) (l4 : A4.length < 100) (l5 : A5.length < 100)
    (r_x : ρ (Str.ofString "x") = some (.fz (.int (nx s v)))) (r_room : ρ (Str.ofString "room") = some (.fz (.int (roomV s v)))) (r_node : ρ (Str.ofString "node") = some (.fz (.int (v : Int)))) (r_count : ρ (Str.ofString "count") = some (.fz (.int ((cnt s v : Nat) : Int))))
    (r_script : ρ (Str.ofString "script") = some (.fz (intsL s))) (r_size : ρ (Str.ofString "size") = some (.fz (.int (szI s))))
    (r_children : ρ (Str.ofString "children") = some (.own A1)) (r_values : ρ (Str.ofString "values") = some (.own A2)) (r_checks : ρ (Str.ofString "checks") = some (.own A3)) (r_draws : ρ (Str.ofString "draws") = some (.own A4)) (r_noisy : ρ (Str.ofString "noisy") = some (.own A5))
    (hK : ∀ ρ' : Rho, ρ' (Str.ofString "script") = some (.fz (intsL s)) → ρ' (Str.ofString "size") = some (.fz (.int (szI s))) → ρ' (Str.ofString "children") = some (.own (A1 ++ [rowC s v])) → ρ' (Str.ofString "values") = some (.own (A2 ++ [rowV s v])) →
      ρ' (Str.ofString "checks") = some (.own (A3 ++ [rowK s v])) → ρ' (Str.ofString "draws") = some (.own (A4 ++ [rowD s v])) → ρ' (Str.ofString "noisy") = some (.own (A5 ++ [rowN s v])) → K .next ρ' π) :
    W (cfT T.flds) (C T (n + 2)) (KV 28) (m + 3) treeTail K ρ π := by
  have hc : cnt s v ≤ 3 := by have := cnt_cast s v; have := cntI_range s v; omega
  have hd2 := dg_range (nx s v) 2
  have hd7 := dg_range (nx s v) 7
  generalize hb : treeTail = b
  conv at hb => lhs; whnf
  subst hb
  refine W_app (xs := A1) (d := rowC s v) (π₁ := π) ?_ rfl rfl rfl (by omega) ?_ ?_
  · repeat (first | w_left | exact rfl)
  · refine e_comp (d := .range 0 ((cnt s v : Nat) : Int)) (π₁ := π) (items := (List.range (cnt s v)).map fun (i : Nat) => D.int (i : Int)) (by rfl) ?_ (it_range0 (by omega)) ?_
    · repeat (first | with_reducible exact bi_range1 | w_left | exact bi_range1 | exact rfl)
    · refine go_all (fun (j : Nat) => D.int (j : Int)) (fun (j : Nat) => D.int (kidI s v j)) (List.range (cnt s v)) (fun j hj => ?_)
      · have hj := List.mem_range.mp hj
        have hr := cnt_room s hv (by omega)
        have hm : ¬ roomV s v = 0 := by omega
        apply E_fin; repeat (first | with_reducible exact m_digit (T := T) (π := π) (n := n + 1) (x := nx s v) (k := 4 + (j : Int)) (by omega) | with_reducible exact b_mod hm | w_left | exact m_digit (T := T) (π := π) (n := n + 1) (x := nx s v) (k := 4 + (j : Int)) (by omega) | exact b_mod hm | exact rfl)
  refine W_app (xs := A5) (d := rowN s v) (π₁ := π) ?_ rfl rfl rfl (by omega) ?_ ?_
  · repeat (first | w_left | exact rfl)
  · refine e_comp (d := .range 0 ((cnt s v : Nat) : Int)) (π₁ := π) (items := (List.range (cnt s v)).map fun (i : Nat) => D.int (i : Int)) (by rfl) ?_ (it_range0 (by omega)) ?_
    · repeat (first | with_reducible exact bi_range1 | w_left | exact bi_range1 | exact rfl)
    · refine go_all (fun (j : Nat) => D.int (j : Int)) (fun (j : Nat) => D.bool (decide (Int.fmod (Int.fdiv (dg (nx s v) 7) (2 ^ j)) 2 = 1))) (List.range (cnt s v)) (fun j hj => ?_)
      · have hj := List.mem_range.mp hj
        apply E_fin; repeat (first | with_reducible exact m_digit (T := T) (π := π) (n := n + 1) (x := nx s v) (k := 7) (by omega) | with_reducible exact b_shr (a := dg (nx s v) 7) (b := (j : Int)) (by omega) (by omega) | w_left | exact m_digit (T := T) (π := π) (n := n + 1) (x := nx s v) (k := 7) (by omega) | exact b_shr (a := dg (nx s v) 7) (b := (j : Int)) (by omega) (by omega) | exact rfl)
  refine W_app (xs := A2) (d := rowV s v) (π₁ := π) ?_ rfl rfl rfl (by omega) ?_ ?_
  · repeat (first | w_left | exact rfl)
  · apply E_fin; repeat (first | w_left | exact rfl)
  refine W_app (xs := A3) (d := rowK s v) (π₁ := π) ?_ rfl rfl rfl (by omega) ?_ ?_
  · repeat (first | w_left | exact rfl)
  · apply E_fin; repeat (first | with_reducible exact m_digit (T := T) (π := π) (n := n + 1) (x := nx s v) (k := 2) (by omega) | w_left | exact m_digit (T := T) (π := π) (n := n + 1) (x := nx s v) (k := 2) (by omega) | exact rfl)
  refine W_app (xs := A4) (d := rowD s v) (π₁ := π) ?_ rfl rfl rfl (by omega) ?_ ?_
  · repeat (first | w_left | exact rfl)
  · apply E_fin; repeat (first | with_reducible exact m_digit (T := T) (π := π) (n := n + 1) (x := nx s v) (k := 2) (by omega) | w_left | exact m_digit (T := T) (π := π) (n := n + 1) (x := nx s v) (k := 2) (by omega) | exact rfl)
  refine W_nil (hK _ ?_ ?_ ?_ ?_ ?_ ?_ ?_)
  · repeat (first | w_left | exact rfl)
  · repeat (first | w_left | exact rfl)
  · repeat (first | w_left | exact rfl)
  · repeat (first | w_left | exact rfl)
  · repeat (first | w_left | exact rfl)
  · repeat (first | w_left | exact rfl)
  · repeat (first | w_left | exact rfl)
end

section
variable {T : Tr} {π : List Int} {v n : Nat} {s : List Int}
theorem tree_D (s : List Int) : (treeOf s).D = .tup [.list ((List.range (sz s)).map (rowC s)), .list ((List.range (sz s)).map (rowV s)), .list ((List.range (sz s)).map (rowK s)), .list ((List.range (sz s)).map (rowD s)), .list ((List.range (sz s)).map (rowN s))] := by
  have h1 : (treeOf s).chD = .list ((List.range (sz s)).map (rowC s)) := by
    show D.list _ = _
    congr 1
    show List.map _ ((List.range (sz s)).map _) = _
    rw [List.map_map]
    refine List.map_congr_left fun v hv => ?_
    have hv := List.mem_range.mp hv
    show D.list _ = D.list _
    congr 1
    rw [List.map_map]
    refine List.map_congr_left fun j hj => ?_
    have := kidI_range s hv (List.mem_range.mp hj)
    show D.int (((kidI s v j).toNat : Nat) : Int) = D.int (kidI s v j)
    congr 1
    omega
  have h2 : (treeOf s).valD = .list ((List.range (sz s)).map (rowV s)) := by
    show D.list _ = _
    congr 1
    show List.map _ ((List.range (sz s)).map _) = _
    rw [List.map_map]; rfl
  have h3 : (treeOf s).chkD = .list ((List.range (sz s)).map (rowK s)) := by
    show D.list _ = _
    congr 1
    show List.map _ ((List.range (sz s)).map _) = _
    rw [List.map_map]; rfl
  have h4 : (treeOf s).drwD = .list ((List.range (sz s)).map (rowD s)) := by
    show D.list _ = _
    congr 1
    show List.map _ ((List.range (sz s)).map _) = _
    rw [List.map_map]; rfl
  have h5 : (treeOf s).noiD = .list ((List.range (sz s)).map (rowN s)) := by
    show D.list _ = _
    congr 1
    show List.map _ ((List.range (sz s)).map _) = _
    rw [List.map_map]
    refine List.map_congr_left fun v hv => ?_
    show D.list _ = D.list _
    congr 1
    rw [List.map_map]; rfl
  rw [Tr.D, h1, h2, h3, h4, h5]
theorem intItem {l : List Int} {k : Int} (h0 : 0 ≤ k) (h : k < l.length) (hl : l.length ≤ 10000) : item (intsL l) (.int k) π = some (.int (l[k.toNat]?.getD 0)) := by
  have := ints_item (π := π) (l := l) (i := k.toNat) hl (by omega)
  rwa [show ((k.toNat : Nat) : Int) = k by omega] at this
theorem m_tree (hs : s.length ≤ 63) : C T (n + 3) (Str.ofString "_law_tree") [intsL s] π = some ((treeOf s).D, π) := by
  have hsz := sz_range s
  have hszc := sz_cast s
  have hsr := szI_range s
  refine call_W (F := fn 28) (n := n + 2) rfl rfl ?_
  generalize hb : (fn 28).body = b
  conv at hb => lhs; whnf
  subst hb
  refine W_gen fun K0 hK0 => ?_
  have r_script : rho₀ (fn 28).params [(intsL s : D)] (Str.ofString "script") = some (.fz (intsL s)) := rfl
  generalize rho₀ (fn 28).params _ = ρ at *
  refine W_as (d := .int (szI s)) (π₁ := π) rfl rfl ?_ ?_
  · apply E_fin; repeat (first | with_reducible exact bi_ints (show s.length ≤ 10000 by omega) | with_reducible exact bi_min | with_reducible exact bi_max | w_left | exact bi_ints (show s.length ≤ 10000 by omega) | exact bi_min | exact bi_max | exact rfl)
  refine W_news rfl (by decide) (by rfl) ?_
  simp only [List.map_cons, List.map_nil, sA_cons, sA_nil]
  refine W_for (d := .range 0 (szI s)) (π₁ := π) (items := (List.range' 0 (sz s)).map fun (i : Nat) => D.int (i : Int)) rfl ?_ ?_
    (fun items ρ' π' => ∃ k, k ≤ sz s ∧ items = (List.range' k (sz s - k)).map (fun (i : Nat) => D.int (i : Int)) ∧ π' = π ∧ ρ' (Str.ofString "script") = some (.fz (intsL s)) ∧ ρ' (Str.ofString "size") = some (.fz (.int (szI s))) ∧
      ρ' (Str.ofString "children") = some (.own ((List.range k).map (rowC s))) ∧ ρ' (Str.ofString "values") = some (.own ((List.range k).map (rowV s))) ∧ ρ' (Str.ofString "checks") = some (.own ((List.range k).map (rowK s))) ∧ ρ' (Str.ofString "draws") = some (.own ((List.range k).map (rowD s))) ∧ ρ' (Str.ofString "noisy") = some (.own ((List.range k).map (rowN s)))) ?_ ?_ ?_
  · repeat (first | with_reducible exact bi_range1 | w_left | exact bi_range1 | exact rfl)
  · rw [← hszc, ← List.range_eq_range']
    exact it_range0 (by omega)
  · refine ⟨0, by omega, rfl, rfl, ?_, ?_, ?_, ?_, ?_, ?_, ?_⟩
    · repeat (first | w_left | exact rfl)
    · repeat (first | w_left | exact rfl)
    · apply E_fin; repeat (first | w_left | exact rfl)
    · apply E_fin; repeat (first | w_left | exact rfl)
    · apply E_fin; repeat (first | w_left | exact rfl)
    · apply E_fin; repeat (first | w_left | exact rfl)
    · apply E_fin; repeat (first | w_left | exact rfl)
  · intro d rest ρ' π' hI
    refine W_gen fun KL0 hL0 => ?_
    obtain ⟨v, hv, he, rfl, r_script, r_size, r_children, r_values, r_checks, r_draws, r_noisy⟩ := hI
    have hlt : v < sz s := by
      rcases Nat.lt_or_ge v (sz s) with q | q
      · exact q
      · rw [show sz s - v = 0 by omega] at he; cases he
    rw [show sz s - v = (sz s - (v + 1)) + 1 by omega, List.range'_succ, List.map_cons] at he
    cases he
    have hcast : (3 : Int) + (v : Int) = ((3 + v : Nat) : Int) := by push_cast; omega
    have hat := m_at (T := T) (π := π') (n := n) (s := s) (i := 3 + v) (by omega) (sz_at s hlt)
    refine W_as (d := .int (nx s v)) (π₁ := π') rfl rfl ?_ ?_
    · apply E_fin; repeat (first | with_reducible exact hat | w_left | rw [hcast] | exact hat | exact rfl)
    refine W_as (d := .int (roomV s v)) (π₁ := π') rfl rfl ?_ ?_
    · apply E_fin; repeat (first | w_left | exact rfl)
    have hd := m_digit (T := T) (π := π') (n := n + 1) (x := nx s v) (k := 3) (by omega)
    have hdr := dg_range (nx s v) 3
    refine W_as (d := .int (Int.fmod (dg (nx s v) 3) 4)) (π₁ := π') rfl rfl ?_ ?_
    · repeat (first | w_left | rw [hd] | exact rfl)
    have fin : ∀ {m : Nat} {ρ : Rho}, ρ (Str.ofString "x") = some (.fz (.int (nx s v))) → ρ (Str.ofString "room") = some (.fz (.int (roomV s v))) → ρ (Str.ofString "node") = some (.fz (.int (v : Int))) → ρ (Str.ofString "count") = some (.fz (.int (cntI s v))) →
        ρ (Str.ofString "script") = some (.fz (intsL s)) → ρ (Str.ofString "size") = some (.fz (.int (szI s))) → ρ (Str.ofString "children") = some (.own ((List.range v).map (rowC s))) → ρ (Str.ofString "values") = some (.own ((List.range v).map (rowV s))) →
        ρ (Str.ofString "checks") = some (.own ((List.range v).map (rowK s))) → ρ (Str.ofString "draws") = some (.own ((List.range v).map (rowD s))) → ρ (Str.ofString "noisy") = some (.own ((List.range v).map (rowN s))) →
        W (cfT T.flds) (C T (n + 2)) (KV 28) (m + 3) treeTail (fun fl ρ' π'' => match fl with
          | .next => ∃ k, k ≤ sz s ∧ ((List.range' (v + 1) (sz s - (v + 1))).map fun (i : Nat) => D.int (i : Int)) = (List.range' k (sz s - k)).map (fun (i : Nat) => D.int (i : Int)) ∧ π'' = π' ∧ ρ' (Str.ofString "script") = some (.fz (intsL s)) ∧ ρ' (Str.ofString "size") = some (.fz (.int (szI s))) ∧
            ρ' (Str.ofString "children") = some (.own ((List.range k).map (rowC s))) ∧ ρ' (Str.ofString "values") = some (.own ((List.range k).map (rowV s))) ∧ ρ' (Str.ofString "checks") = some (.own ((List.range k).map (rowK s))) ∧ ρ' (Str.ofString "draws") = some (.own ((List.range k).map (rowD s))) ∧ ρ' (Str.ofString "noisy") = some (.own ((List.range k).map (rowN s)))
          | _ => False) ρ π' := by
      intro m ρ h1 h2 h3 h4 h5 h6 h7 h8 h9 h10 h11
      refine tree_tail hlt (by simp; omega) (by simp; omega) (by simp; omega) (by simp; omega) (by simp; omega) h1 h2 h3 (by rw [cnt_cast]; exact h4) h5 h6 h7 h8 h9 h10 h11 ?_
      intro ρ'' k1 k2 k3 k4 k5 k6 k7
      refine ⟨v + 1, by omega, rfl, rfl, k1, k2, ?_, ?_, ?_, ?_, ?_⟩
      · rw [List.range_succ, List.map_append]; exact k3
      · rw [List.range_succ, List.map_append]; exact k4
      · rw [List.range_succ, List.map_append]; exact k5
      · rw [List.range_succ, List.map_append]; exact k6
      · rw [List.range_succ, List.map_append]; exact k7
    refine W_if (c := decide ((v : Int) = 0)) (π₁ := π') ?_ (fun q1 => ?_) (fun q1 => ?_)
    · repeat (first | w_left | exact rfl)
    · have q1 : (v : Int) = 0 := by simpa using q1
      have hit := intItem (π := π') (l := cnt0) (k := dg (nx s v) 3) hdr.1 (by simpa [cnt0] using hdr.2) (by decide)
      refine W_as (d := .int (cnt0[(dg (nx s v) 3).toNat]?.getD 0)) (π₁ := π') rfl rfl ?_ ?_
      · repeat (first | w_left | rw [hd] | exact rfl)
        exact hit
      refine W_if (c := decide (roomV s v = 0)) (π₁ := π') ?_ (fun q2 => ?_) (fun q2 => ?_)
      · repeat (first | w_left | exact rfl)
      · have q2 : roomV s v = 0 := by simpa using q2
        refine W_as (d := .int 0) (π₁ := π') rfl rfl ?_ ?_
        · repeat (first | w_left | exact rfl)
        refine W.mono (fin ?_ ?_ ?_ ?_ ?_ ?_ ?_ ?_ ?_ ?_ ?_) ?_
        · repeat (first | w_left | exact rfl)
        · repeat (first | w_left | exact rfl)
        · repeat (first | w_left | exact rfl)
        · rw [cntI, if_pos q2]
          repeat (first | w_left | exact rfl)
        · repeat (first | w_left | exact rfl)
        · repeat (first | w_left | exact rfl)
        · repeat (first | w_left | exact rfl)
        · repeat (first | w_left | exact rfl)
        · repeat (first | w_left | exact rfl)
        · repeat (first | w_left | exact rfl)
        · repeat (first | w_left | exact rfl)
        · rintro fl ρ'' π'' h
          cases fl with
          | next => exact hL0 _ _ _ h
          | brk => exact h.elim
          | ret d => exact h.elim
      · have q2 : ¬ roomV s v = 0 := by simpa using q2
        refine W.mono (fin ?_ ?_ ?_ ?_ ?_ ?_ ?_ ?_ ?_ ?_ ?_) ?_
        · repeat (first | w_left | exact rfl)
        · repeat (first | w_left | exact rfl)
        · repeat (first | w_left | exact rfl)
        · rw [cntI, if_neg q2, if_pos q1]
          repeat (first | w_left | exact rfl)
        · repeat (first | w_left | exact rfl)
        · repeat (first | w_left | exact rfl)
        · repeat (first | w_left | exact rfl)
        · repeat (first | w_left | exact rfl)
        · repeat (first | w_left | exact rfl)
        · repeat (first | w_left | exact rfl)
        · repeat (first | w_left | exact rfl)
        · rintro fl ρ'' π'' h
          cases fl with
          | next => exact hL0 _ _ _ h
          | brk => exact h.elim
          | ret d => exact h.elim
    · have q1 : ¬ (v : Int) = 0 := by simpa using q1
      refine W_if (c := decide (roomV s v = 0)) (π₁ := π') ?_ (fun q2 => ?_) (fun q2 => ?_)
      · repeat (first | w_left | exact rfl)
      · have q2 : roomV s v = 0 := by simpa using q2
        refine W_as (d := .int 0) (π₁ := π') rfl rfl ?_ ?_
        · repeat (first | w_left | exact rfl)
        refine W.mono (fin ?_ ?_ ?_ ?_ ?_ ?_ ?_ ?_ ?_ ?_ ?_) ?_
        · repeat (first | w_left | exact rfl)
        · repeat (first | w_left | exact rfl)
        · repeat (first | w_left | exact rfl)
        · rw [cntI, if_pos q2]
          repeat (first | w_left | exact rfl)
        · repeat (first | w_left | exact rfl)
        · repeat (first | w_left | exact rfl)
        · repeat (first | w_left | exact rfl)
        · repeat (first | w_left | exact rfl)
        · repeat (first | w_left | exact rfl)
        · repeat (first | w_left | exact rfl)
        · repeat (first | w_left | exact rfl)
        · rintro fl ρ'' π'' h
          cases fl with
          | next => exact hL0 _ _ _ h
          | brk => exact h.elim
          | ret d => exact h.elim
      · have q2 : ¬ roomV s v = 0 := by simpa using q2
        refine W.mono (fin ?_ ?_ ?_ ?_ ?_ ?_ ?_ ?_ ?_ ?_ ?_) ?_
        · repeat (first | w_left | exact rfl)
        · repeat (first | w_left | exact rfl)
        · repeat (first | w_left | exact rfl)
        · rw [cntI, if_neg q2, if_neg q1]
          repeat (first | w_left | exact rfl)
        · repeat (first | w_left | exact rfl)
        · repeat (first | w_left | exact rfl)
        · repeat (first | w_left | exact rfl)
        · repeat (first | w_left | exact rfl)
        · repeat (first | w_left | exact rfl)
        · repeat (first | w_left | exact rfl)
        · repeat (first | w_left | exact rfl)
        · rintro fl ρ'' π'' h
          cases fl with
          | next => exact hL0 _ _ _ h
          | brk => exact h.elim
          | ret d => exact h.elim
  · rintro ρ' π' ⟨k, hk, he, rfl, r_script, r_size, r_children, r_values, r_checks, r_draws, r_noisy⟩
    have hk' : k = sz s := by
      rcases Nat.lt_or_ge k (sz s) with q | q
      · rw [show sz s - k = (sz s - k - 1) + 1 by omega, List.range'_succ] at he; cases he
      · omega
    subst hk'
    refine W_ret (d := (treeOf s).D) (π₁ := π') ?_ (hK0 _ _ _ ⟨rfl, .inl rfl⟩)
    rw [tree_D]
    repeat (first | w_left | exact rfl)
end

section
variable {T : Tr} {π : List Int} {v n : Nat} {s : List Int}
noncomputable def lowD : Option (List Int) → D
  | none => .none
  | some l => intsL l
noncomputable def lowV (l : List Int) (k : Nat) : Int := l[k]?.getD 0
noncomputable def mxL (l : List Int) : Int := (maxL l).getD 0
noncomputable def nodeV (T : Tr) (lower : Option (List Int)) (full drawn : Bool) (v : Nat) : Int :=
  if drawn = true then 0 else if (full || T.k v) = true then (if (T.kids v).length = 0 then (if T.k v = true then -32000 else 0) else match lower with
    | none => T.v v
    | some l => mxL ((T.kids v).map fun k => up (lowV l k)))
  else match lower with
    | none => T.v v
    | some l => mxL (T.v v :: (noiJ T v).map fun j => up (lowV l (kd T v j)))
theorem c_is1 : cmpop .Is .none .none = some (.bool true) := rfl
theorem c_is2 {l : List Int} : cmpop .Is (intsL l) .none = some (.bool false) := rfl
theorem intsD_map : ∀ l : List Int, intsD (l.map .int) = some l
  | [] => rfl
  | x :: r => by simp only [List.map_cons, intsD, intsD_map r]; rfl
theorem bi_maxl {l : List Int} (h : l ≠ []) (hl : l.length ≤ 10000) : builtin (Str.ofString "max") [.list (l.map .int)] π = some (.int (mxL l)) := by
  unfold builtin
  rw [if_neg (by decide), if_neg (by decide), if_pos rfl]
  show (if (l.map D.int).length ≤ 10000 then _ else none) = _
  rw [if_pos (by simpa using hl), intsD_map]
  cases l with
  | nil => exact absurd rfl h
  | cons x r => rfl
theorem it_list' {xs : List D} (h : xs.length ≤ 10000) : itemsOf (.list xs) = some xs := by
  show (if _ then _ else _) = _
  rw [if_pos h]
theorem kids_tr (w : T.WF) (h : v < T.n) : truth (kidsD T v) = some (!((T.kids v).isEmpty)) := by
  have := w.few v h
  show (if _ then _ else _) = _
  rw [if_pos (by simp; omega)]
  cases T.kids v <;> rfl
theorem kid_lt (w : T.WF) (h : v < T.n) {j : Nat} (hj : j < (T.kids v).length) : v < kd T v j ∧ kd T v j < T.n := by
  refine w.kid v h _ ?_
  have : kd T v j = (T.kids v)[j] := by simp [kd, hj]
  rw [this]; exact List.getElem_mem hj
theorem m_node (w : T.WF) (h : v < T.n) {lower : Option (List Int)} (hl : ∀ l, lower = some l → l.length = T.n) {full drawn : Bool} : C T (n + 2) (Str.ofString "_law_node") [T.D, .int (v : Int), lowD lower, .bool full, .bool drawn] π = some (.int (nodeV T lower full drawn v), π) := by
  have hn := w.le
  have few := w.few v h
  refine call_W (F := fn 30) (n := n + 1) rfl rfl ?_
  generalize hb : (fn 30).body = b
  conv at hb => lhs; whnf
  subst hb
  refine W_gen fun K0 hK0 => ?_
  have r_tree : rho₀ (fn 30).params [(T.D : D), (.int (v : Int) : D), (lowD lower : D), (.bool full : D), (.bool drawn : D)] (Str.ofString "tree") = some (.fz (T.D)) := rfl
  have r_node : rho₀ (fn 30).params [(T.D : D), (.int (v : Int) : D), (lowD lower : D), (.bool full : D), (.bool drawn : D)] (Str.ofString "node") = some (.fz (.int (v : Int))) := rfl
  have r_lower : rho₀ (fn 30).params [(T.D : D), (.int (v : Int) : D), (lowD lower : D), (.bool full : D), (.bool drawn : D)] (Str.ofString "lower") = some (.fz (lowD lower)) := rfl
  have r_is_full : rho₀ (fn 30).params [(T.D : D), (.int (v : Int) : D), (lowD lower : D), (.bool full : D), (.bool drawn : D)] (Str.ofString "is_full") = some (.fz (.bool full)) := rfl
  have r_is_drawn : rho₀ (fn 30).params [(T.D : D), (.int (v : Int) : D), (lowD lower : D), (.bool full : D), (.bool drawn : D)] (Str.ofString "is_drawn") = some (.fz (.bool drawn)) := rfl
  generalize rho₀ (fn 30).params _ = ρ at *
  refine W_tuple (ds := [T.chD, T.valD, T.chkD, T.drwD, T.noiD]) (π₁ := π) rfl (by decide) (fun _ _ _ h => by cases h) ?_ rfl ?_
  · apply E_fin; repeat (first | w_left | exact rfl)
  simp only [List.map_cons, List.map_nil, sA_cons, sA_nil]
  refine W_if (c := drawn) (π₁ := π) ?_ (fun q1 => ?_) (fun q1 => ?_)
  · repeat (first | w_left | exact rfl)
  · refine W_ret (d := .int 0) (π₁ := π) ?_ (hK0 _ _ _ ⟨rfl, .inl (by unfold nodeV; rw [if_pos q1])⟩)
    repeat (first | w_left | exact rfl)
  have q1' : ¬ drawn = true := by simp [q1]
  refine W_as (d := kidsD T v) (π₁ := π) rfl rfl ?_ ?_
  · repeat (first | with_reducible exact i_ch w h | w_left | exact i_ch w h | exact rfl)
  refine W_if (c := full || T.k v) (π₁ := π) ?_ (fun q2 => ?_) (fun q2 => ?_)
  · repeat (first | with_reducible exact i_chk w h | w_left | exact i_chk w h | exact rfl)
  · refine W_if (c := !(!((T.kids v).isEmpty))) (π₁ := π) ?_ (fun q3 => ?_) (fun q3 => ?_)
    · repeat (first | with_reducible exact kids_tr w h | w_left | exact kids_tr w h | exact rfl)
    · have q3 : (T.kids v).length = 0 := by simpa using q3
      refine W_ret (d := .int (if T.k v = true then -32000 else 0)) (π₁ := π) ?_ (hK0 _ _ _ ⟨rfl, .inl (by unfold nodeV; rw [if_neg q1', if_pos q2, if_pos q3])⟩)
      repeat (first | with_reducible exact i_chk w h | w_left | exact i_chk w h | exact rfl)
    have q3' : ¬ (T.kids v).length = 0 := fun e => by rw [List.length_eq_zero_iff.mp e] at q3; cases q3
    cases lower with
    | none =>
      refine W_if (c := true) (π₁ := π) ?_ (fun q4 => ?_) (fun q4 => by cases q4)
      · repeat (first | with_reducible exact lowD | with_reducible exact c_is1 | w_left | exact lowD | exact c_is1 | exact rfl)
      · refine W_ret (d := .int (T.v v)) (π₁ := π) ?_ (hK0 _ _ _ ⟨rfl, .inl (by unfold nodeV; rw [if_neg q1', if_pos q2, if_neg q3'])⟩)
        repeat (first | with_reducible exact i_val w h | w_left | exact i_val w h | exact rfl)
    | some l =>
      have hll := hl l rfl
      refine W_if (c := false) (π₁ := π) ?_ (fun q4 => by cases q4) (fun q4 => ?_)
      · repeat (first | with_reducible exact lowD | with_reducible exact c_is2 | w_left | exact lowD | exact c_is2 | exact rfl)
      · refine W_ret (d := .int (mxL ((T.kids v).map fun k => up (lowV l k)))) (π₁ := π) ?_ (hK0 _ _ _ ⟨rfl, .inl (by unfold nodeV; rw [if_neg q1', if_pos q2, if_neg q3'])⟩)
        refine E_bi (ds := [.list (((T.kids v).map fun k => up (lowV l k)).map .int)]) (π₁ := π) (by rfl) (by rfl) (El_cons (π₁ := π) ?_ list_nil) (bi_maxl (by intro e; simp at e; exact q3' (by simp [e])) (by simp; omega))
        · refine e_comp (d := kidsD T v) (π₁ := π) (items := (T.kids v).map fun (k : Nat) => D.int (k : Int)) (by rfl) ?_ (it_list' (by simp; omega)) ?_
          · repeat (first | w_left | exact rfl)
          · rw [List.map_map]
            refine go_all (fun (k : Nat) => D.int (k : Int)) (D.int ∘ fun k => up (lowV l k)) (T.kids v) (fun k hk => ?_)
            have hk' := (w.kid v h k hk).2
            apply E_fin; repeat (first | with_reducible exact lowD | with_reducible exact ints_item (π := π) (l := l) (i := k) (by omega) (by omega) | with_reducible exact m_up | w_left | exact lowD | exact ints_item (π := π) (l := l) (i := k) (by omega) (by omega) | exact m_up | exact rfl)
  · have q2' : ¬ (full || T.k v) = true := by simp [q2]
    cases lower with
    | none =>
      refine W_if (c := true) (π₁ := π) ?_ (fun q4 => ?_) (fun q4 => by cases q4)
      · repeat (first | with_reducible exact lowD | with_reducible exact c_is1 | w_left | exact lowD | exact c_is1 | exact rfl)
      · refine W_ret (d := .int (T.v v)) (π₁ := π) ?_ (hK0 _ _ _ ⟨rfl, .inl (by unfold nodeV; rw [if_neg q1', if_neg q2'])⟩)
        repeat (first | with_reducible exact i_val w h | w_left | exact i_val w h | exact rfl)
    | some l =>
      have hll := hl l rfl
      refine W_if (c := false) (π₁ := π) ?_ (fun q4 => by cases q4) (fun q4 => ?_)
      · repeat (first | with_reducible exact lowD | with_reducible exact c_is2 | w_left | exact lowD | exact c_is2 | exact rfl)
      · refine W_ret (d := .int (mxL (T.v v :: (noiJ T v).map fun j => up (lowV l (kd T v j))))) (π₁ := π) ?_ (hK0 _ _ _ ⟨rfl, .inl (by unfold nodeV; rw [if_neg q1', if_neg q2'])⟩)
        have nlen : (noiJ T v).length ≤ 3 := by
          have := List.length_filter_le (fun j => (T.o v)[j]?.getD false) (List.range (T.kids v).length)
          simp only [noiJ]; simp at this ⊢; omega
        refine E_bi (ds := [.list ((T.v v :: (noiJ T v).map fun j => up (lowV l (kd T v j))).map .int)]) (π₁ := π) (by rfl) (by rfl) (El_cons (π₁ := π) (E_bin (a := .list [.int (T.v v)]) (b := .list (((noiJ T v).map fun j => up (lowV l (kd T v j))).map .int)) (π₁ := π) (π₂ := π) ?_ ?_ (b_addl (by simp; omega))) list_nil) (bi_maxl (by simp) (by simp; omega))
        · repeat (first | with_reducible exact i_val w h | w_left | exact i_val w h | exact rfl)
        · refine e_comp (d := .range 0 (((T.kids v).length : Nat) : Int)) (π₁ := π) (items := (List.range (T.kids v).length).map fun (k : Nat) => D.int (k : Int)) (by rfl) ?_ (it_range0 (by omega)) ?_
          · repeat (first | with_reducible exact bi_kids w h | with_reducible exact bi_range1 | w_left | exact bi_kids w h | exact bi_range1 | exact rfl)
          · rw [List.map_map]
            refine go_map (fun (j : Nat) => D.int (j : Int)) (fun j => (T.o v)[j]?.getD false) (D.int ∘ fun j => up (lowV l (kd T v j))) (List.range (T.kids v).length) (fun j hj => ?_) (fun j hj _ => ?_)
            · have hj := List.mem_range.mp hj
              repeat (first | with_reducible exact i_noi w h | with_reducible exact i_noij0 w h hj | w_left | exact i_noi w h | exact i_noij0 w h hj | exact rfl)
            · have hj := List.mem_range.mp hj
              have hk' := (kid_lt w h hj).2
              apply E_fin; repeat (first | with_reducible exact lowD | with_reducible exact i_kid0 w h hj | with_reducible exact ints_item (π := π) (l := l) (i := kd T v j) (by omega) (by omega) | with_reducible exact m_up | w_left | exact lowD | exact i_kid0 w h hj | exact ints_item (π := π) (l := l) (i := kd T v j) (by omega) (by omega) | exact m_up | exact rfl)
end

section
variable {T : Tr} {π : List Int} {v n : Nat} {s : List Int}
noncomputable def drV (T : Tr) (p : Int) (v : Nat) : Bool := T.d v && (decide ((v : Int) > 0) || decide (p > 0))
noncomputable def lev (T : Tr) (q : Nat) (p : Int) : Nat → List Int
  | 0 => (List.range T.n).map fun v => nodeV T none (decide (((0 : Nat) : Int) > (q : Int))) (drV T p v) v
  | i + 1 => (List.range T.n).map fun v => nodeV T (some (lev T q p i)) (decide (((i + 1 : Nat) : Int) > (q : Int))) (drV T p v) v
noncomputable def lowOf (T : Tr) (q : Nat) (p : Int) : Nat → Option (List Int)
  | 0 => none
  | i + 1 => some (lev T q p i)
theorem lev_eq (T : Tr) (q : Nat) (p : Int) (i : Nat) : lev T q p i = (List.range T.n).map fun v => nodeV T (lowOf T q p i) (decide ((i : Int) > (q : Int))) (drV T p v) v := by
  cases i <;> rfl
theorem lev_len (T : Tr) (q : Nat) (p : Int) (i : Nat) : (lev T q p i).length = T.n := by rw [lev_eq]; simp
theorem low_len (T : Tr) (q : Nat) (p : Int) (i : Nat) : ∀ l, lowOf T q p i = some l → l.length = T.n := by
  intro l h
  cases i with
  | zero => cases h
  | succ i => cases h; exact lev_len ..
theorem it_D0 : item T.D (.int 0) π = some T.chD := rfl
theorem it_D3 : item T.D (.int 3) π = some T.drwD := rfl
theorem bi_ch (w : T.WF) : builtin (Str.ofString "len") [T.chD] π = some (.int (T.n : Int)) := by
  have := w.le
  have hl : T.ch.length = T.n := rfl
  have := bi_len (π := π) (xs := T.ch.map fun l => D.list (l.map fun (k : Nat) => D.int (k : Int))) (by simp; omega)
  rw [List.length_map] at this
  exact this
theorem m_levels (w : T.WF) {q d : Nat} {p : Int} (hqd : q + d ≤ 100) : C T (n + 3) (Str.ofString "_law_levels") [T.D, .int (d : Int), .int (q : Int), .int p] π = some (.list ((List.range (q + d + 1)).map fun i => intsL (lev T q p i)), π) := by
  have hn := w.le
  refine call_W (F := fn 31) (n := n + 2) rfl rfl ?_
  generalize hb : (fn 31).body = b
  conv at hb => lhs; whnf
  subst hb
  refine W_gen fun K0 hK0 => ?_
  have r_tree : rho₀ (fn 31).params [(T.D : D), (.int (d : Int) : D), (.int (q : Int) : D), (.int p : D)] (Str.ofString "tree") = some (.fz (T.D)) := rfl
  have r_depth : rho₀ (fn 31).params [(T.D : D), (.int (d : Int) : D), (.int (q : Int) : D), (.int p : D)] (Str.ofString "depth") = some (.fz (.int (d : Int))) := rfl
  have r_qdepth : rho₀ (fn 31).params [(T.D : D), (.int (d : Int) : D), (.int (q : Int) : D), (.int p : D)] (Str.ofString "qdepth") = some (.fz (.int (q : Int))) := rfl
  have r_ply : rho₀ (fn 31).params [(T.D : D), (.int (d : Int) : D), (.int (q : Int) : D), (.int p : D)] (Str.ofString "ply") = some (.fz (.int p)) := rfl
  generalize rho₀ (fn 31).params _ = ρ at *
  refine W_new rfl ?_
  refine W_as (d := .none) (π₁ := π) rfl rfl ?_ ?_
  · repeat (first | w_left | exact rfl)
  refine W_for (d := .range 0 (((q + d + 1 : Nat) : Int))) (π₁ := π) (items := (List.range' 0 (q + d + 1)).map fun (i : Nat) => D.int (i : Int)) rfl ?_ ?_
    (fun items ρ' π' => ∃ k, k ≤ q + d + 1 ∧ items = (List.range' k (q + d + 1 - k)).map (fun (i : Nat) => D.int (i : Int)) ∧ π' = π ∧ ρ' (Str.ofString "tree") = some (.fz T.D) ∧ ρ' (Str.ofString "qdepth") = some (.fz (.int (q : Int))) ∧ ρ' (Str.ofString "ply") = some (.fz (.int p)) ∧
      ρ' (Str.ofString "levels") = some (.own ((List.range k).map fun i => intsL (lev T q p i))) ∧ ρ' (Str.ofString "lower") = some (.fz (lowD (lowOf T q p k)))) ?_ ?_ ?_
  · have hc : (q : Int) + (d : Int) + 1 = ((q + d + 1 : Nat) : Int) := by push_cast; rfl
    repeat (first | with_reducible exact bi_range1 | w_left | rw [hc] | exact bi_range1 | exact rfl)
  · rw [← List.range_eq_range']
    exact it_range0 (by omega)
  · refine ⟨0, by omega, rfl, rfl, ?_, ?_, ?_, ?_, ?_⟩
    · repeat (first | w_left | exact rfl)
    · repeat (first | w_left | exact rfl)
    · repeat (first | w_left | exact rfl)
    · apply E_fin; repeat (first | w_left | exact rfl)
    · apply E_fin; repeat (first | w_left | exact rfl)
  · intro d' rest ρ' π' hI
    refine W_gen fun KL0 hL0 => ?_
    obtain ⟨k, hk, he, rfl, r_tree, r_qdepth, r_ply, r_levels, r_lower⟩ := hI
    have hlt : k < q + d + 1 := by
      rcases Nat.lt_or_ge k (q + d + 1) with h | h
      · exact h
      · rw [show q + d + 1 - k = 0 by omega] at he; cases he
    rw [show q + d + 1 - k = (q + d + 1 - (k + 1)) + 1 by omega, List.range'_succ, List.map_cons] at he
    cases he
    refine W_new rfl ?_
    refine W_for (d := .range 0 (T.n : Int)) (π₁ := π') (items := (List.range' 0 T.n).map fun (i : Nat) => D.int (i : Int)) rfl ?_ ?_
      (fun items ρ' π'' => ∃ j, j ≤ T.n ∧ items = (List.range' j (T.n - j)).map (fun (i : Nat) => D.int (i : Int)) ∧ π'' = π' ∧ ρ' (Str.ofString "tree") = some (.fz T.D) ∧ ρ' (Str.ofString "qdepth") = some (.fz (.int (q : Int))) ∧ ρ' (Str.ofString "ply") = some (.fz (.int p)) ∧
        ρ' (Str.ofString "levels") = some (.own ((List.range k).map fun i => intsL (lev T q p i))) ∧ ρ' (Str.ofString "lower") = some (.fz (lowD (lowOf T q p k))) ∧ ρ' (Str.ofString "level") = some (.fz (.int (k : Int))) ∧
        ρ' (Str.ofString "row") = some (.own ((List.range j).map fun v => .int (nodeV T (lowOf T q p k) (decide ((k : Int) > (q : Int))) (drV T p v) v)))) ?_ ?_ ?_
    · repeat (first | with_reducible exact it_D0 | with_reducible exact bi_ch w | with_reducible exact bi_range1 | w_left | exact it_D0 | exact bi_ch w | exact bi_range1 | exact rfl)
    · rw [← List.range_eq_range']
      exact it_range0 (by omega)
    · refine ⟨0, by omega, rfl, rfl, ?_, ?_, ?_, ?_, ?_, ?_, ?_⟩
      · repeat (first | w_left | exact rfl)
      · repeat (first | w_left | exact rfl)
      · repeat (first | w_left | exact rfl)
      · repeat (first | w_left | exact rfl)
      · repeat (first | w_left | exact rfl)
      · repeat (first | w_left | exact rfl)
      · apply E_fin; repeat (first | w_left | exact rfl)
    · intro d' rest ρ' π'' hI
      refine W_gen fun KL1 hL1 => ?_
      obtain ⟨v, hv, he, rfl, r_tree, r_qdepth, r_ply, r_levels, r_lower, r_level, r_row⟩ := hI
      have hvl : v < T.n := by
        rcases Nat.lt_or_ge v T.n with h | h
        · exact h
        · rw [show T.n - v = 0 by omega] at he; cases he
      rw [show T.n - v = (T.n - (v + 1)) + 1 by omega, List.range'_succ, List.map_cons] at he
      cases he
      refine W_as (d := .bool (drV T p v)) (π₁ := π'') rfl rfl ?_ ?_
      · apply E_fin; repeat (first | with_reducible exact it_D3 | with_reducible exact i_drw w hvl | w_left | exact it_D3 | exact i_drw w hvl | exact rfl)
      refine W_app (xs := (List.range v).map fun v => .int (nodeV T (lowOf T q p k) (decide ((k : Int) > (q : Int))) (drV T p v) v)) (d := .int (nodeV T (lowOf T q p k) (decide ((k : Int) > (q : Int))) (drV T p v) v)) (π₁ := π'') ?_ rfl rfl rfl (by simp; omega) ?_ ?_
      · repeat (first | w_left | exact rfl)
      · repeat (first | with_reducible exact m_node (π := π'') (n := n) w hvl (low_len T q p k) | w_left | exact m_node (π := π'') (n := n) w hvl (low_len T q p k) | exact rfl)
      refine W_nil (hL1 _ _ _ ⟨v + 1, by omega, rfl, rfl, ?_, ?_, ?_, ?_, ?_, ?_, ?_⟩)
      · repeat (first | w_left | exact rfl)
      · repeat (first | w_left | exact rfl)
      · repeat (first | w_left | exact rfl)
      · repeat (first | w_left | exact rfl)
      · repeat (first | w_left | exact rfl)
      · repeat (first | w_left | exact rfl)
      · rw [List.range_succ, List.map_append]
        apply E_fin; repeat (first | w_left | exact rfl)
    · rintro ρ' π'' ⟨j, hj, he, rfl, r_tree, r_qdepth, r_ply, r_levels, r_lower, r_level, r_row⟩
      have hj' : j = T.n := by
        rcases Nat.lt_or_ge j T.n with h | h
        · rw [show T.n - j = (T.n - j - 1) + 1 by omega, List.range'_succ] at he; cases he
        · omega
      subst hj'
      have hlev : D.list ((List.range T.n).map fun v => .int (nodeV T (lowOf T q p k) (decide ((k : Int) > (q : Int))) (drV T p v) v)) = intsL (lev T q p k) := by
        rw [lev_eq, intsL, List.map_map]; rfl
      refine W_app (xs := (List.range k).map fun i => intsL (lev T q p i)) (d := intsL (lev T q p k)) (π₁ := π'') ?_ rfl rfl rfl (by simp; omega) ?_ ?_
      · repeat (first | w_left | exact rfl)
      · rw [← hlev]
        repeat (first | w_left | exact rfl)
      refine W_as (d := intsL (lev T q p k)) (π₁ := π'') rfl rfl ?_ ?_
      · rw [← hlev]
        repeat (first | w_left | exact rfl)
      refine W_nil (hL0 _ _ _ ⟨k + 1, by omega, rfl, rfl, ?_, ?_, ?_, ?_, ?_⟩)
      · repeat (first | w_left | exact rfl)
      · repeat (first | w_left | exact rfl)
      · repeat (first | w_left | exact rfl)
      · rw [List.range_succ, List.map_append]
        apply E_fin; repeat (first | w_left | exact rfl)
      · apply E_fin; repeat (first | w_left | exact rfl)
  · rintro ρ' π' ⟨k, hk, he, rfl, r_tree, r_qdepth, r_ply, r_levels, r_lower⟩
    have hk' : k = q + d + 1 := by
      rcases Nat.lt_or_ge k (q + d + 1) with h | h
      · rw [show q + d + 1 - k = (q + d + 1 - k - 1) + 1 by omega, List.range'_succ] at he; cases he
      · omega
    subst hk'
    refine W_ret (d := .list ((List.range (q + d + 1)).map fun i => intsL (lev T q p i))) (π₁ := π') ?_ (hK0 _ _ _ ⟨rfl, .inl rfl⟩)
    repeat (first | w_left | exact rfl)
end

/-! ## maxima -/
theorem mxL_spec {l : List Int} (h : l ≠ []) : mxL l ∈ l ∧ ∀ y ∈ l, y ≤ mxL l := by
  cases l with
  | nil => exact absurd rfl h
  | cons x r =>
    obtain ⟨⟨y, hy, e⟩, hle⟩ := foldl_max r x
    have : mxL (x :: r) = r.foldl (fun m y => if y > m then y else m) x := rfl
    rw [this]
    refine ⟨?_, hle⟩
    rw [e]; exact hy
theorem loopP_spec (g : Nat → Int) : ∀ (js : List Nat) (b : Int), (loopP g js b = b ∨ ∃ j ∈ js, loopP g js b = -(g j)) ∧ b ≤ loopP g js b ∧ ∀ j ∈ js, -(g j) ≤ loopP g js b
  | [], b => ⟨.inl rfl, Int.le_refl b, fun j h => by cases h⟩
  | j :: r, b => by
    rw [loopP]
    obtain ⟨h1, h2, h3⟩ := loopP_spec g r (if -(g j) > b then -(g j) else b)
    have hb : b ≤ (if -(g j) > b then -(g j) else b) ∧ -(g j) ≤ (if -(g j) > b then -(g j) else b) ∧ ((if -(g j) > b then -(g j) else b) = b ∨ (if -(g j) > b then -(g j) else b) = -(g j)) := by
      by_cases c : -(g j) > b
      · rw [if_pos c]; omega
      · rw [if_neg c]; omega
    generalize (if -(g j) > b then -(g j) else b) = z at *
    refine ⟨?_, by omega, fun i hi => ?_⟩
    · rcases h1 with h1 | ⟨i, hi, h1⟩
      · rcases hb.2.2 with e | e
        · left; omega
        · right; exact ⟨j, List.mem_cons_self, by omega⟩
      · right; exact ⟨i, List.mem_cons_of_mem _ hi, h1⟩
    · rcases List.mem_cons.mp hi with rfl | hi
      · omega
      · exact h3 i hi
/-! ## scores -/
noncomputable def R (i : Nat) (s : Int) : Prop := (-50 ≤ s ∧ s ≤ 50) ∨ (32000 - (i : Int) ≤ s ∧ s ≤ 32000) ∨ (-32000 ≤ s ∧ s ≤ (i : Int) - 32000)
noncomputable def adj (p s : Int) : Int := if s > 31000 then s - p else if s < -31000 then s + p else s
theorem R_up {i : Nat} {s : Int} (hi : i ≤ 100) (h : R i s) : R (i + 1) (up s) := by
  unfold R at *
  unfold up
  split
  · omega
  · split <;> omega
theorem R_mono {i k : Nat} {s : Int} (hk : i ≤ k) (h : R i s) : R k s := by
  unfold R at *; omega
theorem adj_up {i : Nat} {s p : Int} (hi : i ≤ 100) (hp : 0 ≤ p ∧ p ≤ 100) (h : R i s) : adj p (up s) = -(adj (p + 1) s) := by
  unfold R at h
  unfold adj up
  repeat' split
  all_goals omega
theorem adj_le {i : Nat} {a b p : Int} (hi : i ≤ 100) (hp : 0 ≤ p ∧ p ≤ 100) (ha : R i a) (hb : R i b) (h : a ≤ b) : adj p a ≤ adj p b := by
  unfold R at ha hb
  unfold adj
  repeat' split
  all_goals omega
theorem adj_inj {i : Nat} {a b p : Int} (hi : i ≤ 100) (hp : 0 ≤ p ∧ p ≤ 100) (ha : R i a) (hb : R i b) (h : adj p a = adj p b) : a = b := by
  unfold R at ha hb
  unfold adj at h
  revert h
  repeat' split
  all_goals omega
theorem adj_range {i : Nat} {a p : Int} (hi : i ≤ 100) (hp : 0 ≤ p ∧ p ≤ 100) (ha : R i a) : -32000 ≤ adj p a ∧ adj p a ≤ 32000 := by
  unfold R at ha
  unfold adj
  repeat' split
  all_goals omega
theorem adj_small {a p : Int} (h : -50 ≤ a ∧ a ≤ 50) : adj p a = a := by
  unfold adj
  rw [if_neg (by omega), if_neg (by omega)]
theorem adj_zero (a : Int) : adj 0 a = a := by
  unfold adj
  repeat' split
  all_goals omega
theorem adj_mate (p : Int) : adj p (-32000) = p - 32000 := by
  unfold adj
  rw [if_neg (by omega), if_pos (by omega)]; omega
/-- the best of the ways, told by ply or from the node -/
theorem loop_max1 {g : Nat → Int} {U : Nat → Int} {js : List Nat} {p : Int} {m : Nat} (hm : m ≤ 100) (hp : 0 ≤ p ∧ p ≤ 100) (h0 : js ≠ []) (hg : ∀ j ∈ js, -(g j) = adj p (U j)) (hR : ∀ j ∈ js, R m (U j)) :
    loopP g js (-32001) = adj p (mxL (js.map U)) := by
  obtain ⟨h1, h2, h3⟩ := loopP_spec g js (-32001)
  obtain ⟨m1, m2⟩ := mxL_spec (l := js.map U) (by simpa using h0)
  obtain ⟨k, hk, ek⟩ := List.mem_map.mp m1
  have le1 : adj p (mxL (js.map U)) ≤ loopP g js (-32001) := by
    rw [← ek, ← hg k hk]; exact h3 k hk
  have hb := adj_range hm hp (hR k hk)
  rw [ek] at hb
  apply Int.le_antisymm _ le1
  rcases h1 with h1 | ⟨j, hj, h1⟩
  · omega
  · rw [h1, hg j hj]
    refine adj_le hm hp (hR j hj) (ek ▸ hR k hk) (m2 _ (List.mem_map_of_mem hj))
theorem loop_max2 {g : Nat → Int} {U : Nat → Int} {js : List Nat} {p x b : Int} {m : Nat} (hm : m ≤ 100) (hp : 0 ≤ p ∧ p ≤ 100) (hb : b = adj p x) (hx : R m x) (hg : ∀ j ∈ js, -(g j) = adj p (U j)) (hR : ∀ j ∈ js, R m (U j)) :
    loopP g js b = adj p (mxL (x :: js.map U)) := by
  subst hb
  obtain ⟨h1, h2, h3⟩ := loopP_spec g js (adj p x)
  obtain ⟨m1, m2⟩ := mxL_spec (l := x :: js.map U) (by simp)
  have hRm : R m (mxL (x :: js.map U)) := by
    rcases List.mem_cons.mp m1 with e | e
    · rw [e]; exact hx
    · obtain ⟨k, hk, ek⟩ := List.mem_map.mp e
      rw [← ek]; exact hR k hk
  apply Int.le_antisymm
  · rcases h1 with h1 | ⟨j, hj, h1⟩
    · rw [h1]; exact adj_le hm hp hx hRm (m2 _ List.mem_cons_self)
    · rw [h1, hg j hj]; exact adj_le hm hp (hR j hj) hRm (m2 _ (List.mem_cons_of_mem _ (List.mem_map_of_mem hj)))
  · rcases List.mem_cons.mp m1 with e | e
    · rw [e]; exact h2
    · obtain ⟨k, hk, ek⟩ := List.mem_map.mp e
      rw [← ek, ← hg k hk]; exact h3 k hk
/-! ## the levels -/
section
variable {T : Tr} {q : Nat} {p₀ : Int}
noncomputable def S (T : Tr) (q : Nat) (p₀ : Int) (i v : Nat) : Int := nodeV T (lowOf T q p₀ i) (decide ((i : Int) > (q : Int))) (drV T p₀ v) v
theorem lowV_lev {i v : Nat} (h : v < T.n) : lowV (lev T q p₀ i) v = S T q p₀ i v := by
  unfold lowV S
  rw [lev_eq]
  simp [h]
theorem kids_map {α : Type} (f : Nat → α) (v : Nat) : (T.kids v).map f = (allJ T v).map fun j => f (kd T v j) := by
  unfold allJ kd
  apply List.ext_getElem
  · simp
  · intro i h1 h2
    simp at h1 h2
    simp [h1]
theorem S_R (w : T.WF) : ∀ i v, i ≤ 99 → v < T.n → R i (S T q p₀ i v) := by
  intro i
  induction i with
  | zero =>
    intro v _ hv
    have := w.small v hv
    unfold S nodeV
    simp only [lowOf]
    unfold R
    repeat' split
    all_goals omega
  | succ i ih =>
    intro v hi hv
    have hs := w.small v hv
    unfold S nodeV
    simp only [lowOf]
    split
    · unfold R; omega
    · split
      · split
        · split <;> (unfold R; omega)
        · rename_i h0
          have hne : (T.kids v).map (fun k => up (lowV (lev T q p₀ i) k)) ≠ [] := by
            intro e; exact h0 (by simpa using e)
          obtain ⟨k, hk, ek⟩ := List.mem_map.mp (mxL_spec hne).1
          rw [← ek, lowV_lev (w.kid v hv k hk).2]
          exact R_up (by omega) (ih k (by omega) (w.kid v hv k hk).2)
      · rcases List.mem_cons.mp (mxL_spec (l := T.v v :: (noiJ T v).map fun j => up (lowV (lev T q p₀ i) (kd T v j))) (by simp)).1 with e | e
        · rw [e]; unfold R; omega
        · obtain ⟨j, hj, ej⟩ := List.mem_map.mp e
          have hk := (kid_lt w hv (noiJ_lt hj)).2
          rw [← ej, lowV_lev hk]
          exact R_up (by omega) (ih _ (by omega) hk)
theorem drV_iff {v : Nat} {p : Int} (hc : 0 < p ↔ (0 < v ∨ 0 < p₀)) : drV T p₀ v = true ↔ (0 < p ∧ T.d v = true) := by
  unfold drV
  simp only [Bool.and_eq_true, Bool.or_eq_true, decide_eq_true_eq]
  constructor
  · rintro ⟨h1, h2⟩; exact ⟨hc.mpr (by omega), h1⟩
  · rintro ⟨h1, h2⟩; exact ⟨h2, by have := hc.mp h1; omega⟩
theorem pq_S (w : T.WF) (hq : q ≤ 50) : ∀ (i v : Nat) (p : Int), i ≤ q → v < T.n → 0 ≤ p → p + (i : Int) ≤ 90 → (0 < p ↔ (0 < v ∨ 0 < p₀)) → pq T i p v = adj p (S T q p₀ i v) := by
  intro i
  induction i with
  | zero =>
    intro v p hiq hv hp hpi hc
    have hd := drV_iff (T := T) hc
    have hs := w.small v hv
    have hf : decide (((0 : Nat) : Int) > (q : Int)) = false := by simp
    unfold S nodeV
    rw [pq, hf]
    simp only [lowOf]
    by_cases h1 : 0 < p ∧ T.d v = true
    · rw [if_pos h1, if_pos (hd.mpr h1), adj_small (by omega)]
    · rw [if_neg h1, if_neg fun e => h1 (hd.mp e)]
      by_cases h2 : T.k v = true
      · rw [h2]
        simp only [Bool.or_true, if_true, true_and]
        by_cases h3 : (T.kids v).length = 0
        · rw [if_pos h3, if_pos h3, adj_mate]
        · rw [if_neg h3, if_neg h3, adj_small (by omega)]
      · rw [if_neg fun e => h2 e.1]
        rw [if_neg (by simp [h2]), adj_small (by omega)]
  | succ i ih =>
    intro v p hiq hv hp hpi hc
    have hd := drV_iff (T := T) hc
    have hs := w.small v hv
    have hf : decide (((i + 1 : Nat) : Int) > (q : Int)) = false := by simp; omega
    have kid : ∀ j, j < (T.kids v).length → -(pq T i (p + 1) (kd T v j)) = adj p (up (lowV (lev T q p₀ i) (kd T v j))) ∧ R (i + 1) (up (lowV (lev T q p₀ i) (kd T v j))) := fun j hj => by
      obtain ⟨k1, k2⟩ := kid_lt w hv hj
      have hR := S_R (q := q) (p₀ := p₀) w i (kd T v j) (by omega) k2
      rw [lowV_lev k2]
      refine ⟨?_, R_up (by omega) hR⟩
      rw [ih (kd T v j) (p + 1) (by omega) k2 (by omega) (by push_cast at hpi; omega) ⟨fun _ => .inl (by omega), fun _ => by omega⟩, adj_up (i := i) (by omega) (by push_cast at hpi; omega) hR]
    unfold S nodeV
    rw [pq, hf]
    simp only [lowOf]
    by_cases h1 : 0 < p ∧ T.d v = true
    · rw [if_pos h1, if_pos (hd.mpr h1), adj_small (by omega)]
    · rw [if_neg h1, if_neg fun e => h1 (hd.mp e)]
      by_cases h2 : T.k v = true
      · rw [h2]
        simp only [Bool.or_true, if_true]
        by_cases h3 : (T.kids v).length = 0
        · rw [if_pos h3, if_pos h3, adj_mate]
        · rw [if_neg h3, if_neg h3, kids_map]
          exact loop_max1 (m := i + 1) (by omega) (by push_cast at hpi; omega) (by intro e; exact h3 (by simpa [allJ] using e)) (fun j hj => (kid j (allJ_lt hj)).1) fun j hj => (kid j (allJ_lt hj)).2
      · rw [if_neg h2, if_neg (by simp [h2])]
        exact loop_max2 (m := i + 1) (by omega) (by push_cast at hpi; omega) (adj_small (by omega)).symm (.inl (by omega)) (fun j hj => (kid j (noiJ_lt hj)).1) fun j hj => (kid j (noiJ_lt hj)).2
theorem ng_S (w : T.WF) (hq : q ≤ 10) : ∀ (d v : Nat) (p : Int), d ≤ 10 → v < T.n → 0 ≤ p → p + (d : Int) ≤ 30 → (0 < p ↔ (0 < v ∨ 0 < p₀)) → ng T q d p v = adj p (S T q p₀ (q + d) v) := by
  intro d
  induction d with
  | zero =>
    intro v p hd10 hv hp hpd hc
    have hd := drV_iff (T := T) hc
    rw [ng]
    have := pq_S (p₀ := p₀) w (by omega) q v p (Nat.le_refl q) hv hp (by push_cast at hpd; omega) hc
    by_cases h1 : 0 < p ∧ T.d v = true
    · rw [if_pos h1]
      show 0 = adj p (S T q p₀ q v)
      unfold S nodeV
      rw [if_pos (hd.mpr h1), adj_small (by omega)]
    · rw [if_neg h1]; exact this
  | succ d ih =>
    intro v p hd10 hv hp hpd hc
    have hd := drV_iff (T := T) hc
    have hs := w.small v hv
    have hf : decide (((q + (d + 1) : Nat) : Int) > (q : Int)) = true := by simp; omega
    have kid : ∀ j, j < (T.kids v).length → -(ng T q d (p + 1) (kd T v j)) = adj p (up (lowV (lev T q p₀ (q + d)) (kd T v j))) ∧ R (q + d + 1) (up (lowV (lev T q p₀ (q + d)) (kd T v j))) := fun j hj => by
      obtain ⟨k1, k2⟩ := kid_lt w hv hj
      have hR := S_R (q := q) (p₀ := p₀) w (q + d) (kd T v j) (by omega) k2
      rw [lowV_lev k2]
      refine ⟨?_, R_up (by omega) hR⟩
      rw [ih (kd T v j) (p + 1) (by omega) k2 (by omega) (by push_cast at hpd; omega) ⟨fun _ => .inl (by omega), fun _ => by omega⟩, adj_up (i := q + d) (by omega) (by push_cast at hpd; omega) hR]
    unfold S nodeV
    rw [ng, hf]
    show _ = adj p (if drV T p₀ v = true then 0 else if (true || T.k v) = true then (if (T.kids v).length = 0 then (if T.k v = true then -32000 else 0) else mxL ((T.kids v).map fun k => up (lowV (lev T q p₀ (q + d)) k))) else _)
    by_cases h1 : 0 < p ∧ T.d v = true
    · rw [if_pos h1, if_pos (hd.mpr h1), adj_small (by omega)]
    · have ht : (true || T.k v) = true := rfl
      rw [if_neg h1, if_neg fun e => h1 (hd.mp e), if_pos ht]
      by_cases h3 : (T.kids v).length = 0
      · rw [if_pos h3, if_pos h3, endV]
        by_cases h2 : T.k v = true
        · rw [if_pos h2, if_pos h2, adj_mate]
        · rw [if_neg h2, if_neg h2, adj_small (by omega)]
      · rw [if_neg h3, if_neg h3, kids_map]
        exact loop_max1 (m := q + d + 1) (by omega) (by push_cast at hpd; omega) (by intro e; exact h3 (by simpa [allJ] using e)) (fun j hj => (kid j (allJ_lt hj)).1) fun j hj => (kid j (allJ_lt hj)).2
end

/-! ## windows -/
/-- t is told of x in the window a, e -/
noncomputable def B (t x a e : Int) : Prop := (t ≤ a → x ≤ t) ∧ (t ≥ e → x ≥ t) ∧ (a < t → t < e → t = x)
noncomputable def Win (a e : Int) : Prop := -32001 ≤ a ∧ a < e ∧ e ≤ 32001
theorem isb_B {t x a e : Int} (h : B t x a e) : isb t x a e = true := by
  obtain ⟨h1, h2, h3⟩ := h
  unfold isb
  split
  · simpa using h1 ‹_›
  · split
    · simpa using h2 ‹_›
    · simpa using h3 (by omega) (by omega)
theorem B_refl (x a e : Int) : B x x a e := ⟨fun _ => Int.le_refl x, fun _ => Int.le_refl x, fun _ _ => rfl⟩
theorem loopW_B {g : Nat → Int → Int → Int} {G : Nat → Int} {a₀ e : Int} (h0 : Win a₀ e) : ∀ (js : List Nat) (a b tb : Int), (∀ j ∈ js, ∀ a e, Win a e → B (g j a e) (G j) a e) → b < e → ((a = a₀ ∧ b ≤ a₀ ∧ tb ≤ b) ∨ (a = b ∧ a₀ < b ∧ tb = b)) →
    B (loopW g js a e b) (loopP G js tb) a₀ e
  | [], a, b, tb, _, hb, hi => by
    rw [loopW, loopP]
    unfold B
    omega
  | j :: r, a, b, tb, hg, hb, hi => by
    have h0' := h0
    unfold Win at h0'
    have hae : a < e := by omega
    obtain ⟨k1, k2, k3⟩ := hg j List.mem_cons_self (-e) (-a) (by unfold Win; omega)
    rw [loopW, loopP]
    generalize hv : g j (-e) (-a) = y at *
    have ih := loopW_B (g := g) (G := G) h0 r
    have hg' : ∀ j ∈ r, ∀ a e, Win a e → B (g j a e) (G j) a e := fun j hj => hg j (List.mem_cons_of_mem _ hj)
    have htb : tb ≤ (if -(G j) > tb then -(G j) else tb) ∧ -(G j) ≤ (if -(G j) > tb then -(G j) else tb) ∧ ((if -(G j) > tb then -(G j) else tb) = tb ∨ (if -(G j) > tb then -(G j) else tb) = -(G j)) := by
      by_cases c : -(G j) > tb
      · rw [if_pos c]; omega
      · rw [if_neg c]; omega
    generalize (if -(G j) > tb then -(G j) else tb) = tb' at *
    by_cases c1 : -y > b
    · rw [if_pos c1]
      by_cases c2 : -y ≥ e
      · rw [if_pos c2]
        have hle := (loopP_spec G r tb').2.1
        unfold B
        have := k1 (by omega)
        omega
      · rw [if_neg c2]
        by_cases c3 : -y > a
        · rw [if_pos c3]
          have := k3 (by omega) (by omega)
          exact ih _ _ _ hg' (by omega) (.inr (by omega))
        · rw [if_neg c3]
          have := k2 (by omega)
          exact ih _ _ _ hg' (by omega) (.inl (by omega))
    · rw [if_neg c1]
      have := k2 (by omega)
      exact ih _ _ _ hg' hb (by omega)
section
variable {T : Tr}
theorem qw_B : ∀ (q : Nat) (a e p : Int) (v : Nat), Win a e → B (qw T q a e p v) (pq T q p v) a e
  | 0, a, e, p, v, h => by rw [qw, pq]; exact B_refl _ _ _
  | q + 1, a, e, p, v, h => by
    have h' := h
    unfold Win at h'
    rw [qw, pq]
    by_cases h1 : 0 < p ∧ T.d v = true
    · rw [if_pos h1, if_pos h1]; exact B_refl _ _ _
    · rw [if_neg h1, if_neg h1]
      by_cases h2 : T.k v = true
      · rw [if_pos h2, if_pos h2]
        by_cases h3 : (T.kids v).length = 0
        · rw [if_pos h3, if_pos h3]; exact B_refl _ _ _
        · rw [if_neg h3, if_neg h3]
          exact loopW_B h _ _ _ _ (fun j _ a e hae => qw_B q a e (p + 1) _ hae) (by omega) (.inl (by omega))
      · rw [if_neg h2, if_neg h2]
        by_cases h4 : T.v v ≥ e
        · rw [if_pos h4]
          have := (loopP_spec (fun j => pq T q (p + 1) (kd T v j)) (noiJ T v) (T.v v)).2.1
          unfold B
          omega
        · rw [if_neg h4]
          by_cases h5 : T.v v > a
          · rw [if_pos h5]
            exact loopW_B h _ _ _ _ (fun j _ a e hae => qw_B q a e (p + 1) _ hae) (by omega) (.inr (by omega))
          · rw [if_neg h5]
            exact loopW_B h _ _ _ _ (fun j _ a e hae => qw_B q a e (p + 1) _ hae) (by omega) (.inl (by omega))
theorem ab_B (q : Nat) : ∀ (d : Nat) (a e p : Int) (v : Nat), Win a e → B (ab T q d a e p v) (ng T q d p v) a e
  | 0, a, e, p, v, h => by
    rw [ab, ng]
    by_cases h1 : 0 < p ∧ T.d v = true
    · rw [if_pos h1, if_pos h1]; exact B_refl _ _ _
    · rw [if_neg h1, if_neg h1]; exact qw_B q a e p v h
  | d + 1, a, e, p, v, h => by
    have h' := h
    unfold Win at h'
    rw [ab, ng]
    by_cases h1 : 0 < p ∧ T.d v = true
    · rw [if_pos h1, if_pos h1]; exact B_refl _ _ _
    · rw [if_neg h1, if_neg h1]
      by_cases h3 : (T.kids v).length = 0
      · rw [if_pos h3, if_pos h3]; exact B_refl _ _ _
      · rw [if_neg h3, if_neg h3]
        exact loopW_B h _ _ _ _ (fun j _ a e hae => ab_B q d a e (p + 1) _ hae) (by omega) (.inl (by omega))
theorem B_clamp {t x a e : Int} (h : Win a e) (hB : B t x a e) : clamp t a e = clamp x a e := by
  unfold B at hB
  unfold Win at h
  unfold clamp
  repeat' split
  all_goals omega
theorem loopH_ok {g : Nat → Int → Int → Int} {G : Nat → Int} {a₀ e : Int} (h0 : Win a₀ e) : ∀ (js : List Nat) (a tb : Int), (∀ j ∈ js, ∀ a e, Win a e → g j a e = clamp (G j) a e) → a < e → ((a = a₀ ∧ tb ≤ a₀) ∨ (a = tb ∧ a₀ < tb)) →
    loopH g js a e = clamp (loopP G js tb) a₀ e
  | [], a, tb, _, hb, hi => by
    rw [loopH, loopP]
    unfold clamp
    repeat' split
    all_goals omega
  | j :: r, a, tb, hg, hb, hi => by
    have h0' := h0
    unfold Win at h0'
    have k := hg j List.mem_cons_self (-e) (-a) (by unfold Win; omega)
    rw [loopH, loopP, k]
    have hg' : ∀ j ∈ r, ∀ a e, Win a e → g j a e = clamp (G j) a e := fun j hj => hg j (List.mem_cons_of_mem _ hj)
    have ih := loopH_ok (g := g) (G := G) h0 r
    have hc : -(clamp (G j) (-e) (-a)) = clamp (-(G j)) a e := by
      unfold clamp
      repeat' split
      all_goals omega
    rw [hc]
    generalize -(G j) = y at *
    have hle := (loopP_spec G r (if y > tb then y else tb)).2.1
    by_cases c : y > tb
    · rw [if_pos c] at hle ⊢
      by_cases c2 : y ≥ e
      · rw [if_pos (by unfold clamp; repeat' split; all_goals omega)]
        unfold clamp
        repeat' split
        all_goals omega
      · rw [if_neg (by unfold clamp; repeat' split; all_goals omega)]
        by_cases c3 : y > a
        · have e1 : clamp y a e = y := by unfold clamp; rw [if_neg (by omega), if_neg (by omega)]
          rw [e1, if_pos c3]
          exact ih _ _ hg' (by omega) (by omega)
        · have e1 : clamp y a e = a := by
            unfold clamp
            by_cases c4 : y < a
            · rw [if_pos c4]
            · rw [if_neg c4, if_neg (by omega)]; omega
          rw [e1, if_neg (by omega)]
          exact ih _ _ hg' hb (by omega)
    · rw [if_neg c] at hle ⊢
      have e1 : clamp y a e = a := by
        unfold clamp
        by_cases c4 : y < a
        · rw [if_pos c4]
        · rw [if_neg c4, if_neg (by omega)]; omega
      rw [e1, if_neg (by omega), if_neg (by omega)]
      exact ih _ _ hg' hb hi
theorem hb_ok (q : Nat) : ∀ (d : Nat) (a e p : Int) (v : Nat), Win a e → hb T q d a e p v = clamp (ng T q d p v) a e
  | 0, a, e, p, v, h => by
    rw [hb, ng]
    by_cases h1 : 0 < p ∧ T.d v = true
    · rw [if_pos h1, if_pos h1]
    · rw [if_neg h1, if_neg h1]; exact B_clamp h (qw_B q a e p v h)
  | d + 1, a, e, p, v, h => by
    have h' := h
    unfold Win at h'
    rw [hb, ng]
    by_cases h1 : 0 < p ∧ T.d v = true
    · rw [if_pos h1, if_pos h1]
    · rw [if_neg h1, if_neg h1]
      by_cases h3 : (T.kids v).length = 0
      · rw [if_pos h3, if_pos h3]
      · rw [if_neg h3, if_neg h3]
        exact loopH_ok h _ _ _ (fun j _ a e hae => hb_ok q d a e (p + 1) _ hae) (by omega) (.inl (by omega))
theorem clamp_min {x a e : Int} (h : a < e) : clamp x a e = minI (maxI x a) e := by
  unfold clamp minI maxI
  repeat' split
  all_goals omega
theorem full_eq {t x : Int} (hx : -32000 ≤ x ∧ x ≤ 32000) (h : B t x (-32001) 32001) : t = x := by
  unfold B at h
  omega
/-! ## lines -/
theorem loopL_ok (g : Nat → Int × List Int) : ∀ (js : List Nat) (b : Int) (l : List Int), (loopL g js b l).1 = loopP (fun j => (g j).1) js b ∧
    ((loopP (fun j => (g j).1) js b = b ∧ (loopL g js b l).2 = l) ∨ (loopP (fun j => (g j).1) js b > b ∧ ∃ j ∈ js, js.find? (fun j => decide (-(g j).1 = loopP (fun j => (g j).1) js b)) = some j ∧ (loopL g js b l).2 = (1 + (j : Int)) :: (g j).2))
  | [], b, l => ⟨rfl, .inl ⟨rfl, rfl⟩⟩
  | j :: r, b, l => by
    rw [loopL, loopP]
    by_cases c : -(g j).1 > b
    · rw [if_pos c, if_pos c]
      obtain ⟨i1, i2⟩ := loopL_ok g r (-(g j).1) ((1 + (j : Int)) :: (g j).2)
      refine ⟨i1, .inr ?_⟩
      have hle := (loopP_spec (fun j => (g j).1) r (-(g j).1)).2.1
      rcases i2 with ⟨e1, e2⟩ | ⟨e1, k, hk, e2, e3⟩
      · refine ⟨by omega, j, List.mem_cons_self, ?_, e2⟩
        rw [List.find?_cons, e1]; simp
      · refine ⟨by omega, k, List.mem_cons_of_mem _ hk, ?_, e3⟩
        rw [List.find?_cons]
        have : decide (-(g j).1 = loopP (fun j => (g j).1) r (-(g j).1)) = false := by simp; omega
        rw [this]; exact e2
    · rw [if_neg c, if_neg c]
      obtain ⟨i1, i2⟩ := loopL_ok g r b l
      refine ⟨i1, ?_⟩
      rcases i2 with ⟨e1, e2⟩ | ⟨e1, k, hk, e2, e3⟩
      · exact .inl ⟨e1, e2⟩
      · refine .inr ⟨e1, k, List.mem_cons_of_mem _ hk, ?_, e3⟩
        rw [List.find?_cons]
        have : decide (-(g j).1 = loopP (fun j => (g j).1) r b) = false := by simp; omega
        rw [this]; exact e2
theorem ln_ng (q : Nat) : ∀ (d : Nat) (p : Int) (v : Nat), (ln T q d p v).1 = ng T q d p v
  | 0, p, v => by rw [ln, ng]; split <;> rfl
  | d + 1, p, v => by
    rw [ln, ng]
    split
    · rfl
    · split
      · rfl
      · rw [(loopL_ok _ _ _ _).1]
        congr 1
        funext j
        exact ln_ng q d (p + 1) _
noncomputable def bestJ (T : Tr) (q : Nat) (p₀ : Int) (i v : Nat) : List Nat := (allJ T v).filter fun j => decide (up (lowV (lev T q p₀ i) (kd T v j)) = S T q p₀ (i + 1) v)
noncomputable def fstL (T : Tr) (q : Nat) (p₀ : Int) : Nat → Int → Nat → List Int
  | 0, _, _ => []
  | d + 1, p, v => if (T.kids v).length = 0 then [] else if 0 < p ∧ T.d v = true then [] else
      (1 + (((bestJ T q p₀ (q + d) v)[0]?.getD 0 : Nat) : Int)) :: fstL T q p₀ d (p + 1) (kd T v ((bestJ T q p₀ (q + d) v)[0]?.getD 0))
/-- the ways that are best, told by ply or from the node -/
theorem best_iff {q : Nat} {p₀ : Int} (w : T.WF) (hq : q ≤ 10) {d v : Nat} {p : Int} (hd : d + 1 ≤ 10) (hv : v < T.n) (hp : 0 ≤ p) (hpd : p + ((d + 1 : Nat) : Int) ≤ 30) (hc : 0 < p ↔ (0 < v ∨ 0 < p₀)) {j : Nat} (hj : j < (T.kids v).length) :
    decide (-(ng T q d (p + 1) (kd T v j)) = ng T q (d + 1) p v) = decide (up (lowV (lev T q p₀ (q + d)) (kd T v j)) = S T q p₀ (q + d + 1) v) := by
  obtain ⟨k1, k2⟩ := kid_lt w hv hj
  have hR := S_R (q := q) (p₀ := p₀) w (q + d) (kd T v j) (by omega) k2
  have hR' := S_R (q := q) (p₀ := p₀) w (q + d + 1) v (by omega) hv
  rw [ng_S (p₀ := p₀) w hq (d + 1) v p hd hv hp hpd hc, ng_S (p₀ := p₀) w hq d (kd T v j) (p + 1) (by omega) k2 (by omega) (by push_cast at hpd; omega) ⟨fun _ => .inl (by omega), fun _ => by omega⟩, lowV_lev k2]
  rw [← adj_up (i := q + d) (by omega) (by push_cast at hpd; omega) hR]
  rw [decide_eq_decide]
  constructor
  · intro h
    exact adj_inj (i := q + d + 1) (p := p) (by omega) (by push_cast at hpd; omega) (R_up (by omega) hR) hR' h
  · intro h
    rw [h]; rfl
theorem ng_big {q : Nat} {p₀ : Int} (w : T.WF) (hq : q ≤ 10) {d v : Nat} {p : Int} (hd : d ≤ 10) (hv : v < T.n) (hp : 0 ≤ p) (hpd : p + (d : Int) ≤ 30) (hc : 0 < p ↔ (0 < v ∨ 0 < p₀)) : -32000 ≤ ng T q d p v ∧ ng T q d p v ≤ 32000 := by
  rw [ng_S (p₀ := p₀) w hq d v p hd hv hp hpd hc]
  exact adj_range (i := q + d) (by omega) (by omega) (S_R w _ v (by omega) hv)
theorem ln_fst {q : Nat} {p₀ : Int} (w : T.WF) (hq : q ≤ 10) : ∀ (d : Nat) (p : Int) (v : Nat), d ≤ 10 → v < T.n → 0 ≤ p → p + (d : Int) ≤ 30 → (0 < p ↔ (0 < v ∨ 0 < p₀)) → (ln T q d p v).2 = fstL T q p₀ d p v
  | 0, p, v, _, _, _, _, _ => by rw [ln, fstL]; split <;> rfl
  | d + 1, p, v, hd, hv, hp, hpd, hc => by
    rw [ln, fstL]
    by_cases h1 : 0 < p ∧ T.d v = true
    · rw [if_pos h1, if_pos h1, ite_self]
    · rw [if_neg h1, if_neg h1]
      by_cases h3 : (T.kids v).length = 0
      · rw [if_pos h3, if_pos h3]
      · rw [if_neg h3, if_neg h3]
        have hng : loopP (fun j => (ln T q d (p + 1) (kd T v j)).1) (allJ T v) (-32001) = ng T q (d + 1) p v := by
          rw [ng, if_neg h1, if_neg h3]
          congr 1
          funext j
          exact ln_ng q d (p + 1) _
        have hbig := ng_big (p₀ := p₀) w hq hd hv hp hpd hc
        rcases (loopL_ok (fun j => ln T q d (p + 1) (kd T v j)) (allJ T v) (-32001) []).2 with ⟨e1, _⟩ | ⟨_, j, hj, e2, e3⟩
        · rw [hng] at e1; omega
        · rw [e3]
          have hjl := allJ_lt hj
          have hb : bestJ T q p₀ (q + d) v = (allJ T v).filter fun j => decide (-(ln T q d (p + 1) (kd T v j)).1 = loopP (fun j => (ln T q d (p + 1) (kd T v j)).1) (allJ T v) (-32001)) := by
            unfold bestJ
            refine List.filter_congr fun i hi => ?_
            rw [hng, ln_ng, best_iff (p₀ := p₀) w hq hd hv hp hpd hc (allJ_lt hi)]
          have h0 : (bestJ T q p₀ (q + d) v)[0]? = some j := by
            rw [hb, ← List.head?_eq_getElem?, List.head?_filter]
            exact e2
          rw [h0]
          obtain ⟨k1, k2⟩ := kid_lt w hv hjl
          show _ :: _ = _ :: _
          rw [ln_fst w hq d (p + 1) (kd T v j) (by omega) k2 (by omega) (by push_cast at hpd; omega) ⟨fun _ => .inl (by omega), fun _ => by omega⟩]
          rfl
/-- where there is a way, there is a best one -/
theorem best_some {q : Nat} {p₀ : Int} (w : T.WF) (hq : q ≤ 10) {d v : Nat} {p : Int} (hd : d + 1 ≤ 10) (hv : v < T.n) (hp : 0 ≤ p) (hpd : p + ((d + 1 : Nat) : Int) ≤ 30) (hc : 0 < p ↔ (0 < v ∨ 0 < p₀)) (h1 : ¬ (0 < p ∧ T.d v = true)) (h3 : ¬ (T.kids v).length = 0) :
    ∃ j, (bestJ T q p₀ (q + d) v)[0]? = some j ∧ j < (T.kids v).length := by
  have hbig := ng_big (p₀ := p₀) w hq hd hv hp hpd hc
  have hng : loopP (fun j => ng T q d (p + 1) (kd T v j)) (allJ T v) (-32001) = ng T q (d + 1) p v := by rw [ng, if_neg h1, if_neg h3]
  rcases (loopP_spec (fun j => ng T q d (p + 1) (kd T v j)) (allJ T v) (-32001)).1 with e | ⟨j, hj, e⟩
  · rw [hng] at e; omega
  · rw [hng] at e
    have hm : j ∈ bestJ T q p₀ (q + d) v := by
      unfold bestJ
      refine List.mem_filter.mpr ⟨hj, ?_⟩
      rw [← best_iff (p₀ := p₀) w hq hd hv hp hpd hc (allJ_lt hj)]
      simpa using e.symm
    cases hb : bestJ T q p₀ (q + d) v with
    | nil => rw [hb] at hm; cases hm
    | cons i r =>
      refine ⟨i, rfl, ?_⟩
      have : i ∈ bestJ T q p₀ (q + d) v := by rw [hb]; exact List.mem_cons_self
      exact allJ_lt (List.mem_filter.mp this).1
theorem loopB_ok (g : Nat → Int) : ∀ (js : List Nat) (b : Int) (l : List Int), (loopB g js b l).1 = loopP g js b ∧
    (loopB g js b l).2 = (if loopP g js b = b then l else []) ++ (js.filter fun j => decide (-(g j) = loopP g js b)).map fun (j : Nat) => 1 + (j : Int)
  | [], b, l => by simp [loopB, loopP]
  | j :: r, b, l => by
    rw [loopB, loopP]
    by_cases c : -(g j) > b
    · rw [if_pos c, if_pos c]
      obtain ⟨i1, i2⟩ := loopB_ok g r (-(g j)) [1 + (j : Int)]
      have hle := (loopP_spec g r (-(g j))).2.1
      refine ⟨i1, ?_⟩
      rw [i2, if_neg (show ¬ loopP g r (-(g j)) = b by omega), List.filter_cons]
      by_cases c2 : loopP g r (-(g j)) = -(g j)
      · rw [if_pos c2, if_pos (by simp [c2])]; rfl
      · rw [if_neg c2, if_neg (by simp; omega)]
    · rw [if_neg c, if_neg c]
      have hle := (loopP_spec g r b).2.1
      by_cases c1 : -(g j) = b
      · rw [if_pos c1]
        obtain ⟨i1, i2⟩ := loopB_ok g r b (l ++ [1 + (j : Int)])
        refine ⟨i1, ?_⟩
        rw [i2, List.filter_cons]
        by_cases c2 : loopP g r b = b
        · rw [if_pos c2, if_pos c2, if_pos (by simp; omega)]; simp
        · rw [if_neg c2, if_neg c2, if_neg (by simp; omega)]
      · rw [if_neg c1]
        obtain ⟨i1, i2⟩ := loopB_ok g r b l
        refine ⟨i1, ?_⟩
        rw [i2, List.filter_cons, if_neg (show ¬ decide (-(g j) = loopP g r b) = true by simp; omega)]
theorem bm_ok {q : Nat} (w : T.WF) (hq : q ≤ 10) {d : Nat} (hd : d + 1 ≤ 10) : bmR T q d 0 = (S T q 0 (q + d + 1) 0, (bestJ T q 0 (q + d) 0).map fun (j : Nat) => 1 + (j : Int)) := by
  have hv := w.pos
  have hc : (0 : Int) < 0 ↔ (0 < 0 ∨ (0 : Int) < 0) := by omega
  have h1 : ¬ ((0 : Int) < 0 ∧ T.d 0 = true) := fun e => by have := e.1; omega
  have hS := ng_S (p₀ := 0) w hq (d + 1) 0 0 hd hv (by omega) (by push_cast; omega) hc
  rw [adj_zero] at hS
  obtain ⟨b1, b2⟩ := loopB_ok (fun j => ng T q d 1 (kd T 0 j)) (allJ T 0) (-32001) []
  unfold bmR bm
  by_cases h3 : (T.kids 0).length = 0
  · have ha : allJ T 0 = [] := by simpa [allJ] using h3
    have hbj : bestJ T q 0 (q + d) 0 = [] := by unfold bestJ; rw [ha]; rfl
    rw [ha, loopB, if_pos rfl, hbj]
    rw [ng, if_neg h1, if_pos h3] at hS
    rw [hS]; rfl
  · have hng : loopP (fun j => ng T q d 1 (kd T 0 j)) (allJ T 0) (-32001) = ng T q (d + 1) 0 0 := by rw [ng, if_neg h1, if_neg h3]; rfl
    have hbig := ng_big (p₀ := 0) w hq hd hv (by omega) (by push_cast; omega) hc
    have hbj : bestJ T q 0 (q + d) 0 = (allJ T 0).filter fun j => decide (-(ng T q d 1 (kd T 0 j)) = ng T q (d + 1) 0 0) := by
      unfold bestJ
      refine List.filter_congr fun i hi => ?_
      rw [← best_iff (p₀ := 0) (p := 0) w hq hd hv (by omega) (by push_cast; omega) hc (allJ_lt hi)]
      rfl
    rw [hng] at b1 b2
    rw [if_neg (show ¬ ng T q (d + 1) 0 0 = -32001 by omega), List.nil_append, ← hbj] at b2
    obtain ⟨j, hj, _⟩ := best_some (p₀ := 0) (p := 0) w hq hd hv (by omega) (by push_cast; omega) hc h1 h3
    have hne : ¬ (loopB (fun j => ng T q d 1 (kd T 0 j)) (allJ T 0) (-32001) []).2 = [] := by
      rw [b2]
      intro e
      have : bestJ T q 0 (q + d) 0 = [] := by simpa using e
      rw [this] at hj; cases hj
    rw [if_neg hne]
    refine Prod.ext ?_ b2
    rw [b1, hS]; rfl
end

section
variable {T : Tr} {π : List Int} {v n : Nat} {s : List Int}
noncomputable def levD (T : Tr) (q : Nat) (p : Int) (m : Nat) : D := .list ((List.range m).map fun i => intsL (lev T q p i))
theorem levD_item {q m i : Nat} {p : Int} (hm : m ≤ 1000) (h : i < m) : item (levD T q p m) (.int (i : Int)) π = some (intsL (lev T q p i)) :=
  it_list (by simp; omega) (by simp [h])
theorem levD_neg {q m i : Nat} {p k : Int} (hm : m ≤ 1000) (h : i < m) (hk : k < 0) (hi : k + (m : Int) = (i : Int)) : item (levD T q p m) (.int k) π = some (intsL (lev T q p i)) := by
  show (if _ then _ else _) = _
  rw [if_pos (by simp; omega)]
  have : idx ((List.range m).map fun i => intsL (lev T q p i)).length k = some i := by
    unfold idx
    rw [if_neg (by omega), if_pos (by simp; omega)]
    congr 1
    simp; omega
  rw [this]
  simp [h]
theorem levD_len {q m : Nat} {p : Int} (hm : m ≤ 1000) : builtin (Str.ofString "len") [levD T q p m] π = some (.int (m : Int)) := by
  have := bi_len (π := π) (xs := (List.range m).map fun i => intsL (lev T q p i)) (by simp; omega)
  simpa [levD] using this
theorem lev_item (w : T.WF) {q i v : Nat} {p : Int} (h : v < T.n) : item (intsL (lev T q p i)) (.int (v : Int)) π = some (.int (lowV (lev T q p i) v)) := by
  have := w.le
  have hl := lev_len T q p i
  exact ints_item (by omega) (by omega)
theorem pairD_ints {a : Int} {l : List Int} : pairD [.int a, intsL l] = some (a, l) := by
  show (intsD (l.map .int)).map (fun m => (a, m)) = _
  rw [intsD_map]; rfl
theorem cmpEq_t {a b : Int} {l m : List Int} : cmpEq (.tup [.int a, intsL l]) (.tup [.int b, intsL m]) = some (decide (a = b) && decide (l = m)) := by
  unfold cmpEq
  dsimp only
  rw [pairD_ints, pairD_ints]
theorem c_net {a b : Int} {l m : List Int} : cmpop .NotEq (.tup [.int a, intsL l]) (.tup [.int b, intsL m]) = some (.bool (!(decide (a = b) && decide (l = m)))) := by
  show (cmpEq _ _).map (fun r => D.bool (!r)) = _
  rw [cmpEq_t]; rfl
theorem c_eqt {a b : Int} {l m : List Int} : cmpop .Eq (.tup [.int a, intsL l]) (.tup [.int b, intsL m]) = some (.bool (decide (a = b) && decide (l = m))) := by
  show (cmpEq _ _).map D.bool = _
  rw [cmpEq_t]; rfl
theorem bestJ_len (w : T.WF) (h : v < T.n) {q i : Nat} {p : Int} : (bestJ T q p i v).length ≤ 3 := by
  have few := w.few v h
  have := List.length_filter_le (fun j => decide (up (lowV (lev T q p i) (kd T v j)) = S T q p (i + 1) v)) (allJ T v)
  have hl : (allJ T v).length = (T.kids v).length := by simp [allJ]
  unfold bestJ
  omega
theorem m_first (w : T.WF) {q d : Nat} (hq : q ≤ 10) (hd : d ≤ 10) : C T (n + 3) (Str.ofString "_law_first") [T.D, levD T q 0 (q + d + 1), .int (d : Int)] π = some (intsL (fstL T q 0 d 0 0), π) := by
  have hn := w.le
  have hn0 := w.pos
  refine call_W (F := fn 35) (n := n + 2) rfl rfl ?_
  generalize hb : (fn 35).body = b
  conv at hb => lhs; whnf
  subst hb
  refine W_gen fun K0 hK0 => ?_
  have r_tree : rho₀ (fn 35).params [(T.D : D), (levD T q 0 (q + d + 1) : D), (.int (d : Int) : D)] (Str.ofString "tree") = some (.fz (T.D)) := rfl
  have r_levels : rho₀ (fn 35).params [(T.D : D), (levD T q 0 (q + d + 1) : D), (.int (d : Int) : D)] (Str.ofString "levels") = some (.fz (levD T q 0 (q + d + 1))) := rfl
  have r_depth : rho₀ (fn 35).params [(T.D : D), (levD T q 0 (q + d + 1) : D), (.int (d : Int) : D)] (Str.ofString "depth") = some (.fz (.int (d : Int))) := rfl
  generalize rho₀ (fn 35).params _ = ρ at *
  refine W_as (d := .int 0) (π₁ := π) rfl rfl ?_ ?_
  · repeat (first | w_left | exact rfl)
  refine W_new rfl ?_
  have ends : ∀ {m : Nat} {ρ : Rho} {K : Kp} {p : Pos} {mv : List Int} {e : Expr}, mv = fstL T q 0 d 0 0 → (∀ ρ', K (.ret (intsL (fstL T q 0 d 0 0))) ρ' π) → ev (cfT T.flds) (C T (n + 2)) 20 false (KV 35) (look (freeze (namesIn 9 e) ρ)) e π = some (intsL mv, π) → W (cfT T.flds) (C T (n + 2)) (KV 35) (m + 1) [.Return (some e) p] K ρ π := by
    intro m ρ K p mv e h hK h'
    subst h
    exact W_ret h' (hK _)
  refine W_for (d := .range 0 (d : Int)) (π₁ := π) (items := (List.range' 0 d).map fun (i : Nat) => D.int (i : Int)) rfl ?_ ?_
    (fun items ρ' π' => ∃ k v mv, k ≤ d ∧ v < T.n ∧ items = (List.range' k (d - k)).map (fun (i : Nat) => D.int (i : Int)) ∧ π' = π ∧ mv.length ≤ k ∧ (0 < (k : Int) ↔ (0 < v ∨ (0 : Int) < 0)) ∧ mv ++ fstL T q 0 (d - k) (k : Int) v = fstL T q 0 d 0 0 ∧
      ρ' (Str.ofString "tree") = some (.fz T.D) ∧ ρ' (Str.ofString "levels") = some (.fz (levD T q 0 (q + d + 1))) ∧ ρ' (Str.ofString "node") = some (.fz (.int (v : Int))) ∧ ρ' (Str.ofString "moves") = some (.own (mv.map .int))) ?_ ?_ ?_
  · repeat (first | with_reducible exact bi_range1 | w_left | exact bi_range1 | exact rfl)
  · rw [← List.range_eq_range']
    exact it_range0 (by omega)
  · refine ⟨0, 0, [], by omega, hn0, rfl, rfl, by simp, by omega, rfl, ?_, ?_, ?_, ?_⟩
    · repeat (first | w_left | exact rfl)
    · repeat (first | w_left | exact rfl)
    · apply E_fin; repeat (first | w_left | exact rfl)
    · apply E_fin; repeat (first | w_left | exact rfl)
  · intro d' rest ρ' π' hI
    refine W_gen fun KL0 hL0 => ?_
    obtain ⟨k, v, mv, hk, hv, he, rfl, hml, hc, hR, r_tree, r_levels, r_node, r_moves⟩ := hI
    have hlt : k < d := by
      rcases Nat.lt_or_ge k d with h | h
      · exact h
      · rw [show d - k = 0 by omega] at he; cases he
    obtain ⟨m, hm⟩ : ∃ m, d - k = m + 1 := ⟨d - k - 1, by omega⟩
    rw [hm, List.range'_succ, List.map_cons] at he
    cases he
    rw [hm, fstL] at hR
    refine W_as (d := kidsD T v) (π₁ := π') rfl rfl ?_ ?_
    · repeat (first | with_reducible exact it_D0 | with_reducible exact i_ch w hv | w_left | exact it_D0 | exact i_ch w hv | exact rfl)
    refine W_if (c := (!(!((T.kids v).isEmpty))) || (decide ((k : Int) > 0) && T.d v)) (π₁ := π') ?_ (fun q1 => ?_) (fun q1 => ?_)
    · repeat (first | with_reducible exact kids_tr w hv | with_reducible exact it_D3 | with_reducible exact i_drw w hv | w_left | exact kids_tr w hv | exact it_D3 | exact i_drw w hv | exact rfl)
    · refine W_brk (hL0 _ _ _ ?_)
      have hmv : mv = fstL T q 0 d 0 0 := by
        rw [← hR]
        by_cases h3 : (T.kids v).length = 0
        · rw [if_pos h3, List.append_nil]
        · rw [if_neg h3]
          have h1 : 0 < (k : Int) ∧ T.d v = true := by
            simp only [Bool.not_not, Bool.or_eq_true, Bool.and_eq_true, decide_eq_true_eq] at q1
            rcases q1 with q1 | q1
            · exact absurd (by simpa using q1) h3
            · exact q1
          rw [if_pos h1, List.append_nil]
      refine ends hmv (fun ρ' => hK0 _ _ _ ⟨rfl, .inl rfl⟩) ?_
      apply E_fin; repeat (first | w_left | exact rfl)
    · have h3 : ¬ (T.kids v).length = 0 := by
        intro e
        rw [List.length_eq_zero_iff.mp e] at q1
        simp at q1
      have h1 : ¬ (0 < (k : Int) ∧ T.d v = true) := by
        intro ⟨e1, e2⟩
        simp [e2] at q1
        omega
      rw [if_neg h3, if_neg h1] at hR
      obtain ⟨j, hj, hjl⟩ := best_some (q := q) (p₀ := 0) (d := m) (v := v) (p := (k : Int)) w hq (by omega) hv (by omega) (by omega) hc h1 h3
      rw [hj] at hR
      simp only [Option.getD_some] at hR
      obtain ⟨k1, k2⟩ := kid_lt w hv hjl
      have few := w.few v hv
      refine W_as (d := .int ((q + m + 1 : Nat) : Int)) (π₁ := π') rfl rfl ?_ ?_
      · have hcst : ((q + d + 1 : Nat) : Int) - 1 - (k : Int) = ((q + m + 1 : Nat) : Int) := by omega
        rw [← hcst]
        repeat (first | with_reducible exact levD_len (T := T) (π := π') (q := q) (p := 0) (m := q + d + 1) (by omega) | w_left | exact levD_len (T := T) (π := π') (q := q) (p := 0) (m := q + d + 1) (by omega) | exact rfl)
      refine W_as (d := .list ((bestJ T q 0 (q + m) v).map fun (j : Nat) => D.int (j : Int))) (π₁ := π') rfl rfl ?_ ?_
      · refine e_comp (d := .range 0 (((T.kids v).length : Nat) : Int)) (π₁ := π') (items := (List.range (T.kids v).length).map fun (k : Nat) => D.int (k : Int)) (by rfl) ?_ (it_range0 (by omega)) ?_
        · repeat (first | with_reducible exact bi_kids w hv | with_reducible exact bi_range1 | w_left | exact bi_kids w hv | exact bi_range1 | exact rfl)
        · refine go_map (fun (j : Nat) => D.int (j : Int)) (fun j => decide (up (lowV (lev T q 0 (q + m)) (kd T v j)) = S T q 0 (q + m + 1) v)) (fun (j : Nat) => D.int (j : Int)) (List.range (T.kids v).length) (fun i hi => ?_) (fun i hi _ => ?_)
          · have hi := List.mem_range.mp hi
            have hk' := (kid_lt w hv hi).2
            have hcst : ((q + m + 1 : Nat) : Int) - 1 = ((q + m : Nat) : Int) := by omega
            repeat (first | with_reducible exact i_kid0 w hv hi | with_reducible exact levD_item (T := T) (π := π') (q := q) (p := 0) (m := q + d + 1) (i := q + m) (by omega) (by omega) | with_reducible exact levD_item (T := T) (π := π') (q := q) (p := 0) (m := q + d + 1) (i := q + m + 1) (by omega) (by omega) | with_reducible exact lev_item w hk' | with_reducible exact lev_item w hv | with_reducible exact m_up | w_left | rw [hcst] | rw [lowV_lev hv] | exact i_kid0 w hv hi | exact levD_item (T := T) (π := π') (q := q) (p := 0) (m := q + d + 1) (i := q + m) (by omega) (by omega) | exact levD_item (T := T) (π := π') (q := q) (p := 0) (m := q + d + 1) (i := q + m + 1) (by omega) (by omega) | exact lev_item w hk' | exact lev_item w hv | exact m_up | exact rfl)
          · repeat (first | w_left | exact rfl)
      have hbl := bestJ_len (T := T) w hv (q := q) (i := q + m) (p := 0)
      have hb0 : item (.list ((bestJ T q 0 (q + m) v).map fun (j : Nat) => D.int (j : Int))) (.int 0) π' = some (.int (j : Int)) := by
        have := it_list (π := π') (xs := (bestJ T q 0 (q + m) v).map fun (j : Nat) => D.int (j : Int)) (i := 0) (d := .int (j : Int)) (by simp; omega) (by rw [List.getElem?_map, hj]; rfl)
        exact this
      refine W_app (xs := mv.map .int) (d := .int ((j : Int) + 1)) (π₁ := π') ?_ rfl rfl rfl (by simp; omega) ?_ ?_
      · repeat (first | w_left | exact rfl)
      · repeat (first | with_reducible exact hb0 | w_left | exact hb0 | exact rfl)
      refine W_as (d := .int (kd T v j : Int)) (π₁ := π') rfl rfl ?_ ?_
      · repeat (first | with_reducible exact hb0 | with_reducible exact i_kid0 w hv hjl | w_left | exact hb0 | exact i_kid0 w hv hjl | exact rfl)
      refine W_nil (hL0 _ _ _ ⟨k + 1, kd T v j, mv ++ [1 + (j : Int)], by omega, k2, ?_, rfl, by simp; omega, by omega, ?_, ?_, ?_, ?_, ?_⟩)
      · rw [show d - (k + 1) = m by omega]
      · rw [← hR, show d - (k + 1) = m by omega, List.append_assoc]
        push_cast
        rfl
      · repeat (first | w_left | exact rfl)
      · repeat (first | w_left | exact rfl)
      · repeat (first | w_left | exact rfl)
      · rw [List.map_append, Int.add_comm 1 (j : Int)]
        apply E_fin; repeat (first | w_left | exact rfl)
  · rintro ρ' π' ⟨k, v, mv, hk, hv, he, rfl, hml, hc, hR, r_tree, r_levels, r_node, r_moves⟩
    have hk' : d - k = 0 := by
      rcases Nat.eq_zero_or_pos (d - k) with h | h
      · exact h
      · rw [show d - k = (d - k - 1) + 1 by omega, List.range'_succ] at he; cases he
    rw [hk', fstL, List.append_nil] at hR
    refine ends hR (fun ρ' => hK0 _ _ _ ⟨rfl, .inl rfl⟩) ?_
    apply E_fin; repeat (first | w_left | exact rfl)
end

section
variable {T : Tr} {π : List Int} {v n : Nat} {s : List Int}
theorem m_root (w : T.WF) {q d : Nat} (hq : q ≤ 4) (hd : d ≤ 4) (hA : T.At π 0) : C T (n + q + d + 6) (Str.ofString "_law_root") [.game, T.D, levD T q 0 (q + d + 1), .int (d : Int), .int (q : Int)] π = some (.bool true, π) := by
  have hn := w.le
  have hv := w.pos
  have few := w.few 0 hv
  have hc : (0 : Int) < 0 ↔ (0 < 0 ∨ (0 : Int) < 0) := by omega
  refine call_W (F := fn 36) (n := n + q + d + 5) rfl rfl ?_
  generalize hb : (fn 36).body = b
  conv at hb => lhs; whnf
  subst hb
  refine W_gen fun K0 hK0 => ?_
  have r_game : rho₀ (fn 36).params [(.game : D), (T.D : D), (levD T q 0 (q + d + 1) : D), (.int (d : Int) : D), (.int (q : Int) : D)] (Str.ofString "game") = some (.fz (.game)) := rfl
  have r_tree : rho₀ (fn 36).params [(.game : D), (T.D : D), (levD T q 0 (q + d + 1) : D), (.int (d : Int) : D), (.int (q : Int) : D)] (Str.ofString "tree") = some (.fz (T.D)) := rfl
  have r_levels : rho₀ (fn 36).params [(.game : D), (T.D : D), (levD T q 0 (q + d + 1) : D), (.int (d : Int) : D), (.int (q : Int) : D)] (Str.ofString "levels") = some (.fz (levD T q 0 (q + d + 1))) := rfl
  have r_depth : rho₀ (fn 36).params [(.game : D), (T.D : D), (levD T q 0 (q + d + 1) : D), (.int (d : Int) : D), (.int (q : Int) : D)] (Str.ofString "depth") = some (.fz (.int (d : Int))) := rfl
  have r_qdepth : rho₀ (fn 36).params [(.game : D), (T.D : D), (levD T q 0 (q + d + 1) : D), (.int (d : Int) : D), (.int (q : Int) : D)] (Str.ofString "qdepth") = some (.fz (.int (q : Int))) := rfl
  generalize rho₀ (fn 36).params _ = ρ at *
  have hS := ng_S (q := q) (p₀ := 0) w (by omega) d 0 0 (by omega) hv (by omega) (by omega) hc
  rw [adj_zero] at hS
  have i0 : item (intsL (lev T q 0 (q + d))) (.int 0) π = some (.int (S T q 0 (q + d) 0)) := by
    have := lev_item (π := π) w (q := q) (i := q + d) (v := 0) (p := 0) hv
    rw [lowV_lev hv] at this
    exact this
  refine W_as (d := .int (S T q 0 (q + d) 0)) (π₁ := π) rfl rfl ?_ ?_
  · repeat (first | with_reducible exact levD_neg (T := T) (π := π) (q := q) (p := 0) (m := q + d + 1) (i := q + d) (k := -1) (by omega) (by omega) (by omega) (by omega) | with_reducible exact i0 | w_left | exact levD_neg (T := T) (π := π) (q := q) (p := 0) (m := q + d + 1) (i := q + d) (k := -1) (by omega) (by omega) (by omega) (by omega) | exact i0 | exact rfl)
  have c0 : item T.chD (.int 0) π = some (kidsD T 0) := i_ch (π := π) w hv
  refine W_as (d := kidsD T 0) (π₁ := π) rfl rfl ?_ ?_
  · repeat (first | with_reducible exact it_D0 | with_reducible exact c0 | w_left | exact it_D0 | exact c0 | exact rfl)
  have hline := m_line (T := T) (n := n + 1) w q d 0 0 π (by omega) hA
  rw [show n + 1 + q + d + 4 = n + q + d + 5 by omega, ln_fst (p₀ := 0) w (by omega) d 0 0 (by omega) hv (by omega) (by omega) hc, ln_ng, hS] at hline
  have hfst := m_first (T := T) (π := π) (n := n + q + d + 2) w (q := q) (d := d) (by omega) (by omega)
  refine W_if (c := false) (π₁ := π) ?_ (fun q1 => by cases q1) (fun _ => ?_)
  · refine E_fin (a := (D.bool (!(decide (S T q 0 (q + d) 0 = S T q 0 (q + d) 0) && decide (fstL T q 0 d 0 0 = fstL T q 0 d 0 0))), π)) ?_ (by simp)
    repeat (first | with_reducible exact hline | with_reducible exact hfst | with_reducible exact c_net | w_left | exact hline | exact hfst | exact c_net | exact rfl)
  refine W_if (c := decide ((d : Int) = 0)) (π₁ := π) ?_ (fun q1 => ?_) (fun q1 => ?_)
  · repeat (first | w_left | exact rfl)
  · refine W_ret (d := .bool true) (π₁ := π) ?_ (hK0 _ _ _ ⟨rfl, .inl rfl⟩)
    repeat (first | w_left | exact rfl)
  · obtain ⟨d', rfl⟩ : ∃ d', d = d' + 1 := ⟨d - 1, by
      have : ¬ (d : Int) = 0 := by simpa using q1
      omega⟩
    refine W_as (d := .list ((bestJ T q 0 (q + d') 0).map fun (j : Nat) => D.int ((j : Int) + 1))) (π₁ := π) rfl rfl ?_ ?_
    · refine e_comp (d := .range 0 (((T.kids 0).length : Nat) : Int)) (π₁ := π) (items := (List.range (T.kids 0).length).map fun (k : Nat) => D.int (k : Int)) (by rfl) ?_ (it_range0 (by omega)) ?_
      · repeat (first | with_reducible exact bi_kids w hv | with_reducible exact bi_range1 | w_left | exact bi_kids w hv | exact bi_range1 | exact rfl)
      · refine go_map (fun (j : Nat) => D.int (j : Int)) (fun j => decide (up (lowV (lev T q 0 (q + d')) (kd T 0 j)) = S T q 0 (q + d' + 1) 0)) (fun (j : Nat) => D.int ((j : Int) + 1)) (List.range (T.kids 0).length) (fun i hi => ?_) (fun i hi _ => ?_)
        · have hi := List.mem_range.mp hi
          have hk' := (kid_lt w hv hi).2
          apply E_fin; repeat (first | with_reducible exact i_kid0 w hv hi | with_reducible exact levD_neg (T := T) (π := π) (q := q) (p := 0) (m := q + (d' + 1) + 1) (i := q + d') (k := -2) (by omega) (by omega) (by omega) (by omega) | with_reducible exact lev_item w hk' | with_reducible exact m_up | w_left | exact i_kid0 w hv hi | exact levD_neg (T := T) (π := π) (q := q) (p := 0) (m := q + (d' + 1) + 1) (i := q + d') (k := -2) (by omega) (by omega) (by omega) (by omega) | exact lev_item w hk' | exact m_up | exact rfl)
        · repeat (first | w_left | exact rfl)
    have hbest := m_best (T := T) (n := n + 1) w q d' 0 π hA
    rw [show n + 1 + q + d' + 5 = n + q + (d' + 1) + 5 by omega, bm_ok w (by omega) (by omega)] at hbest
    have hl : D.list ((bestJ T q 0 (q + d') 0).map fun (j : Nat) => D.int ((j : Int) + 1)) = intsL ((bestJ T q 0 (q + d') 0).map fun (j : Nat) => 1 + (j : Int)) := by
      rw [intsL, List.map_map]
      congr 1
      refine List.map_congr_left fun j _ => ?_
      show D.int ((j : Int) + 1) = D.int (1 + (j : Int))
      congr 1
      omega
    refine W_ret (d := .bool true) (π₁ := π) ?_ (hK0 _ _ _ ⟨rfl, .inl rfl⟩)
    rw [hl]
    refine E_fin (a := (D.bool (decide (S T q 0 (q + d' + 1) 0 = S T q 0 (q + (d' + 1)) 0) && decide ((bestJ T q 0 (q + d') 0).map (fun (j : Nat) => 1 + (j : Int)) = (bestJ T q 0 (q + d') 0).map fun (j : Nat) => 1 + (j : Int))), π)) ?_ (by rw [show S T q 0 (q + (d' + 1)) 0 = S T q 0 (q + d' + 1) 0 from rfl]; simp)
    repeat (first | with_reducible exact hbest | with_reducible exact c_eqt | w_left | exact hbest | exact c_eqt | exact rfl)
end

section
variable {T : Tr} {π : List Int} {v n : Nat} {s : List Int}
theorem root_at (w : T.WF) : T.At [0] 0 := ⟨rfl, w.pos, by simp, w.le⟩
/-- law's body behind the true value -/
theorem law_tail (w : T.WF) (hs : s.length ≤ 63) {q d : Nat} {p : Int} (hq : q ≤ 4) (hd : d ≤ 4) (hp : 0 ≤ p ∧ p ≤ 4) {m : Nat} {ρ : Rho}
    (r_script : ρ (Str.ofString "script") = some (.fz (intsL s))) (r_game : ρ (Str.ofString "game") = some (.fz .game)) (r_tree : ρ (Str.ofString "tree") = some (.fz T.D)) (r_depth : ρ (Str.ofString "depth") = some (.fz (.int (d : Int)))) (r_qdepth : ρ (Str.ofString "qdepth") = some (.fz (.int (q : Int))))
    (r_ply : ρ (Str.ofString "ply") = some (.fz (.int p))) (r_levels : ρ (Str.ofString "levels") = some (.fz (levD T q p (q + d + 1)))) (r_true : ρ (Str.ofString "true") = some (.fz (.int (ng T q d p 0)))) :
    W (cfT T.flds) (C T 30) (KV 37) (m + 6) ((fn 37).body.drop 10) (fun fl _ π' => fl = .ret (.bool true)) ρ [0] := by
  have hA := root_at w
  have hv := w.pos
  have hc : 0 < p ↔ (0 < 0 ∨ 0 < p) := by omega
  have hbig := ng_big (T := T) (q := q) (p₀ := p) (d := d) (v := 0) (p := p) w (by omega) (by omega) hv hp.1 (by omega) hc
  have hng : C T 30 (Str.ofString "negamax") [.game, .int (d : Int), .int p, .int (q : Int)] [0] = some (.int (ng T q d p 0), [0]) := by
    have := m_ng (T := T) (n := 30 - q - d - 4) w q d 0 p [0] hA
    rwa [show 30 - q - d - 4 + q + d + 4 = 30 by omega] at this
  have hab : ∀ a e : Int, C T 30 (Str.ofString "alpha_beta") [.game, .int a, .int e, .int (d : Int), .int p, .int (q : Int)] [0] = some (.int (ab T q d a e p 0), [0]) := fun a e => by
    have := m_ab (T := T) (n := 30 - q - d - 4) w q d 0 a e p [0] hA
    rwa [show 30 - q - d - 4 + q + d + 4 = 30 by omega] at this
  have hhb : ∀ a e : Int, C T 30 (Str.ofString "alpha_beta_hard") [.game, .int a, .int e, .int (d : Int), .int p, .int (q : Int)] [0] = some (.int (hb T q d a e p 0), [0]) := fun a e => by
    have := m_hb (T := T) (n := 30 - q - d - 4) w q d 0 a e p [0] hA
    rwa [show 30 - q - d - 4 + q + d + 4 = 30 by omega] at this
  have hfull : ab T q d (-32001) 32001 p 0 = ng T q d p 0 := full_eq hbig (ab_B q d _ _ p 0 (by unfold Win; omega))
  generalize hb : (fn 37).body.drop 10 = b
  conv at hb => lhs; whnf
  subst hb
  refine W_if (c := !decide (ng T q d p 0 = ng T q d p 0)) (π₁ := [0]) ?_ (fun q1 => by simp at q1) (fun _ => ?_)
  · repeat (first | with_reducible exact hng | w_left | exact hng | exact rfl)
  refine W_if (c := !decide (ab T q d (-32001) 32001 p 0 = ng T q d p 0)) (π₁ := [0]) ?_ (fun q1 => by simp [hfull] at q1) (fun _ => ?_)
  · repeat (first | with_reducible exact hab _ _ | w_left | exact hab _ _ | exact rfl)
  refine W_for (d := .tup [.int 1, .int 2]) (π₁ := [0]) (items := [.int 1, .int 2]) rfl ?_ rfl
    (fun items ρ' π' => ∃ l : List Int, items = l.map .int ∧ (∀ i ∈ l, i = 1 ∨ i = 2) ∧ π' = [0] ∧ ρ' (Str.ofString "script") = some (.fz (intsL s)) ∧ ρ' (Str.ofString "game") = some (.fz .game) ∧ ρ' (Str.ofString "tree") = some (.fz T.D) ∧ ρ' (Str.ofString "depth") = some (.fz (.int (d : Int))) ∧
      ρ' (Str.ofString "qdepth") = some (.fz (.int (q : Int))) ∧ ρ' (Str.ofString "ply") = some (.fz (.int p)) ∧ ρ' (Str.ofString "levels") = some (.fz (levD T q p (q + d + 1))) ∧ ρ' (Str.ofString "true") = some (.fz (.int (ng T q d p 0)))) ?_ ?_ ?_
  · repeat (first | w_left | exact rfl)
  · refine ⟨[1, 2], rfl, by simp, rfl, ?_, ?_, ?_, ?_, ?_, ?_, ?_, ?_⟩
    · repeat (first | w_left | exact rfl)
    · repeat (first | w_left | exact rfl)
    · repeat (first | w_left | exact rfl)
    · repeat (first | w_left | exact rfl)
    · repeat (first | w_left | exact rfl)
    · repeat (first | w_left | exact rfl)
    · repeat (first | w_left | exact rfl)
    · repeat (first | w_left | exact rfl)
  · intro d' rest ρ' π' hI
    refine W_gen fun KL0 hL0 => ?_
    obtain ⟨l, he, hl, rfl, r_script, r_game, r_tree, r_depth, r_qdepth, r_ply, r_levels, r_true⟩ := hI
    cases l with
    | nil => cases he
    | cons i l =>
      cases he
      obtain ⟨X, hat⟩ : ∃ X, C T 30 (Str.ofString "_law_at") [intsL s, .int i] [0] = some (.int X, [0]) := by
        rcases hl i List.mem_cons_self with rfl | rfl
        · exact ⟨_, m_at (T := T) (π := [0]) (n := 28) (s := s) (i := 1) (by omega) (by omega)⟩
        · exact ⟨_, m_at (T := T) (π := [0]) (n := 28) (s := s) (i := 2) (by omega) (by omega)⟩
      have hwin := win_ok X (ng T q d p 0)
      have hwn := m_window (T := T) (π := [0]) (n := 28) (x := X) (t := ng T q d p 0)
      generalize (winV X (ng T q d p 0)).1 = a at hwin hwn
      generalize (winV X (ng T q d p 0)).2 = e at hwin hwn
      have hW : Win a e := hwin
      have hisb := isb_B (ab_B (T := T) q d a e p 0 hW)
      have hhard : hb T q d a e p 0 = minI (maxI (ng T q d p 0) a) e := by rw [hb_ok q d a e p 0 hW, clamp_min hwin.2.1]
      refine W_tuple (ds := [.int a, .int e]) (π₁ := [0]) rfl (by decide) (fun _ _ _ h => by cases h) ?_ rfl ?_
      · repeat (first | with_reducible exact hat | with_reducible exact hwn | w_left | exact hat | exact hwn | exact rfl)
      simp only [List.map_cons, List.map_nil, sA_cons, sA_nil]
      refine W_if (c := !(isb (ab T q d a e p 0) (ng T q d p 0) a e)) (π₁ := [0]) ?_ (fun q1 => by simp [hisb] at q1) (fun _ => ?_)
      · repeat (first | with_reducible exact hab _ _ | with_reducible exact m_isb | w_left | exact hab _ _ | exact m_isb | exact rfl)
      refine W_if (c := !decide (hb T q d a e p 0 = minI (maxI (ng T q d p 0) a) e)) (π₁ := [0]) ?_ (fun q1 => by simp [hhard] at q1) (fun _ => ?_)
      · apply E_fin; repeat (first | with_reducible exact bi_min | with_reducible exact bi_max | with_reducible exact hhb _ _ | w_left | exact bi_min | exact bi_max | exact hhb _ _ | exact rfl)
      refine W_if (c := false) (π₁ := [0]) ?_ (fun q1 => by cases q1) (fun _ => ?_)
      · apply E_fin; repeat (first | with_reducible exact hat | with_reducible exact m_cuts (T := T) (π := [0]) (n := 28) (x := X) (a := a) (e := e) | w_left | exact hat | exact m_cuts (T := T) (π := [0]) (n := 28) (x := X) (a := a) (e := e) | exact rfl)
      refine W_nil (hL0 _ _ _ ⟨l, rfl, fun i hi => hl i (List.mem_cons_of_mem _ hi), rfl, ?_, ?_, ?_, ?_, ?_, ?_, ?_, ?_⟩)
      · repeat (first | w_left | exact rfl)
      · repeat (first | w_left | exact rfl)
      · repeat (first | w_left | exact rfl)
      · repeat (first | w_left | exact rfl)
      · repeat (first | w_left | exact rfl)
      · repeat (first | w_left | exact rfl)
      · repeat (first | w_left | exact rfl)
      · repeat (first | w_left | exact rfl)
  · rintro ρ' π' ⟨l, he, hl, rfl, r_script, r_game, r_tree, r_depth, r_qdepth, r_ply, r_levels, r_true⟩
    have hkey := m_key (T := T) (π := [0]) (v := 0) (n := 29) hA
    have hside := m_side (T := T) (n := 29)
    refine W_if (c := false) (π₁ := [0]) ?_ (fun q1 => by cases q1) (fun _ => ?_)
    · by_cases hp0 : p = 0
      · subst hp0
        have hroot := m_root (T := T) (π := [0]) (n := 30 - q - d - 6) w hq hd hA
        rw [show 30 - q - d - 6 + q + d + 6 = 30 by omega] at hroot
        refine E_fin (a := (D.bool (decide ((0 : Int) = 0) && !true), [0])) ?_ (by rfl)
        repeat (first | with_reducible exact hroot | w_left | exact hroot | exact rfl)
      · have : decide (p = 0) = false := by simpa using hp0
        apply T_andF
        refine E_fin (a := (D.bool (decide (p = 0)), [0])) ?_ (by rw [this])
        repeat (first | w_left | exact rfl)
    · refine W_ret (d := .bool true) (π₁ := [0]) ?_ rfl
      apply E_fin; repeat (first | with_reducible exact hkey | with_reducible exact hside | w_left | exact hkey | exact hside | exact rfl)
end

noncomputable def onlyFz (ρ : Rho) : Rho := fun y => (look ρ y).map .fz
noncomputable def gameS : Stmt := (fn 37).body[6]?.getD default
noncomputable def gameArgs : List Expr := match gameS with
  | .Assign _ (.Call _ as _ _) _ => as
  | _ => []
theorem onlyFz_at {ρ : Rho} {x : Str} {d : D} (h : ρ x = some (.fz d)) : onlyFz ρ x = some (.fz d) := by
  unfold onlyFz look
  rw [h]; rfl
noncomputable def NoOwn (ρ : Rho) : Prop := ∀ x xs, ρ x ≠ some (.own xs)
theorem noOwn_rho {ps : List Str} {ds : List D} : NoOwn (rho₀ ps ds) := fun x xs h => by
  unfold rho₀ at h
  obtain ⟨d, _, e⟩ := Option.map_eq_some_iff.mp h
  cases e
theorem noOwn_setV {ρ : Rho} {x : Str} {d : D} (h : NoOwn ρ) : NoOwn (setV ρ x (.fz d)) := fun y xs e => by
  unfold setV at e
  split at e
  · cases e
  · exact h _ _ e
theorem noOwn_freeze {ρ : Rho} {ns : List Str} (h : NoOwn ρ) : NoOwn (freeze ns ρ) := fun y xs e => h _ _ (freeze_own e).1
section
variable {T : Tr} {π : List Int} {v n : Nat} {s : List Int}
noncomputable def dI (s : List Int) : Nat := (3 - Int.fmod (dg (atV s 0) 0) 4).toNat
noncomputable def qI (s : List Int) : Nat := (minI (2 - Int.fmod (dg (atV s 0) 1) 3) (4 - (dI s : Int))).toNat
noncomputable def pI (s : List Int) : Int := Int.fmod (dg (atV s 0) 2) 3
theorem dI_ok (s : List Int) : ((dI s : Nat) : Int) = 3 - Int.fmod (dg (atV s 0) 0) 4 ∧ dI s ≤ 3 := by
  have h1 := Int.fmod_nonneg_of_pos (dg (atV s 0) 0) (b := 4) (by omega)
  have h2 := Int.fmod_lt_of_pos (dg (atV s 0) 0) (b := 4) (by omega)
  unfold dI; omega
theorem qI_ok (s : List Int) : ((qI s : Nat) : Int) = minI (2 - Int.fmod (dg (atV s 0) 1) 3) (4 - (dI s : Int)) ∧ qI s ≤ 2 := by
  have h1 := Int.fmod_nonneg_of_pos (dg (atV s 0) 1) (b := 3) (by omega)
  have h2 := Int.fmod_lt_of_pos (dg (atV s 0) 1) (b := 3) (by omega)
  have h3 := dI_ok s
  unfold qI minI
  split <;> omega
theorem pI_ok (s : List Int) : 0 ≤ pI s ∧ pI s ≤ 2 := by
  have h1 := Int.fmod_nonneg_of_pos (dg (atV s 0) 2) (b := 3) (by omega)
  have h2 := Int.fmod_lt_of_pos (dg (atV s 0) 2) (b := 3) (by omega)
  unfold pI; omega
theorem b_mul {k : Nat} (h : k ≤ 20) : binop .Mult (.list [.int 0]) (.int (k : Int)) = some (.list (List.replicate k (.int 0))) := by
  show (if _ then _ else _) = _
  rw [if_pos (by simp [small]; omega)]
  simp
theorem segA (w : (treeOf s).WF) (hs : s.length ≤ 63) : W (cfT (treeOf s).flds) (C (treeOf s) 30) (KV 37) 20 ((fn 37).body.take 6) (fun fl ρ π' => fl = .next ∧ π' = [] ∧ NoOwn ρ ∧ ρ (Str.ofString "script") = some (.fz (intsL s)) ∧ ρ (Str.ofString "tree") = some (.fz (treeOf s).D) ∧
    ρ (Str.ofString "depth") = some (.fz (.int (dI s : Int))) ∧ ρ (Str.ofString "qdepth") = some (.fz (.int (qI s : Int))) ∧ ρ (Str.ofString "ply") = some (.fz (.int (pI s))) ∧ ρ (Str.ofString "gains") = some (.fz (treeOf s).gainD)) (rho₀ (fn 37).params [intsL s]) [] := by
  have hno : NoOwn (rho₀ (fn 37).params [(intsL s : D)]) := noOwn_rho
  have r_script : rho₀ (fn 37).params [(intsL s : D)] (Str.ofString "script") = some (.fz (intsL s)) := rfl
  generalize rho₀ (fn 37).params _ = ρ at *
  generalize hb : (fn 37).body.take 6 = b
  conv at hb => lhs; whnf
  subst hb
  have ht := m_tree (T := treeOf s) (π := []) (n := 27) hs
  have hat := m_at (T := treeOf s) (π := []) (n := 28) (s := s) (i := 0) (by omega) (by omega)
  have hat : C (treeOf s) 30 (Str.ofString "_law_at") [intsL s, .int 0] [] = some (.int (atV s 0), []) := hat
  have hd := dI_ok s
  have hq := qI_ok s
  refine W_as (d := (treeOf s).D) (π₁ := []) rfl rfl ?_ ?_
  · repeat (first | with_reducible exact ht | w_left | exact ht | exact rfl)
  refine W_as (d := .int (atV s 0)) (π₁ := []) rfl rfl ?_ ?_
  · repeat (first | with_reducible exact hat | w_left | exact hat | exact rfl)
  refine W_as (d := .int (dI s : Int)) (π₁ := []) rfl rfl ?_ ?_
  · rw [hd.1]
    repeat (first | with_reducible exact m_digit (T := treeOf s) (π := []) (n := 29) (x := atV s 0) (k := 0) (by omega) | w_left | exact m_digit (T := treeOf s) (π := []) (n := 29) (x := atV s 0) (k := 0) (by omega) | exact rfl)
  refine W_as (d := .int (qI s : Int)) (π₁ := []) rfl rfl ?_ ?_
  · rw [hq.1]
    apply E_fin; repeat (first | with_reducible exact bi_min | with_reducible exact m_digit (T := treeOf s) (π := []) (n := 29) (x := atV s 0) (k := 1) (by omega) | w_left | exact bi_min | exact m_digit (T := treeOf s) (π := []) (n := 29) (x := atV s 0) (k := 1) (by omega) | exact rfl)
  refine W_as (d := .int (pI s)) (π₁ := []) rfl rfl ?_ ?_
  · apply E_fin; repeat (first | with_reducible exact m_digit (T := treeOf s) (π := []) (n := 29) (x := atV s 0) (k := 2) (by omega) | w_left | exact m_digit (T := treeOf s) (π := []) (n := 29) (x := atV s 0) (k := 2) (by omega) | exact rfl)
  refine W_as (d := (treeOf s).gainD) (π₁ := []) rfl rfl ?_ ?_
  · have hl : (treeOf s).ch.length ≤ 12 := w.le
    have hit : itemsOf (treeOf s).chD = some ((treeOf s).ch.map fun l => D.list (l.map fun (k : Nat) => D.int (k : Int))) := by
      unfold Tr.chD
      exact it_list' (by rw [List.length_map]; omega)
    refine e_comp (d := (treeOf s).chD) (π₁ := []) (by rfl) ?_ hit ?_
    · repeat (first | with_reducible exact it_D0 | w_left | exact it_D0 | exact rfl)
    · refine go_all (fun (l : List Nat) => D.list (l.map fun (k : Nat) => D.int (k : Int))) (fun l => D.list (List.replicate l.length (.int 0))) (treeOf s).ch (fun l hl' => ?_)
      obtain ⟨v, hv, e⟩ := List.mem_iff_getElem.mp hl'
      have few := w.few v hv
      have hk : (treeOf s).kids v = l := by unfold Tr.kids; rw [← e]; simp [hv]
      rw [hk] at few
      have hlen := bi_len (π := []) (xs := l.map fun (k : Nat) => D.int (k : Int)) (by simp; omega)
      rw [List.length_map] at hlen
      repeat (first | with_reducible exact hlen | with_reducible exact b_mul (show l.length ≤ 20 by omega) | w_left | exact hlen | exact b_mul (show l.length ≤ 20 by omega) | exact rfl)
  refine W_nil ⟨rfl, rfl, ?_, ?_, ?_, ?_, ?_, ?_, ?_⟩
  · repeat (first | exact hno | apply noOwn_setV | apply noOwn_freeze)
  · repeat (first | w_left | exact rfl)
  · repeat (first | w_left | exact rfl)
  · repeat (first | w_left | exact rfl)
  · repeat (first | w_left | exact rfl)
  · repeat (first | w_left | exact rfl)
  · repeat (first | w_left | exact rfl)
theorem it_D1 : item T.D (.int 1) π = some T.valD := rfl
theorem it_D2 : item T.D (.int 2) π = some T.chkD := rfl
theorem it_D4 : item T.D (.int 4) π = some T.noiD := rfl
theorem game_args {ρ : Rho} (r_tree : ρ (Str.ofString "tree") = some (.fz T.D)) (r_gains : ρ (Str.ofString "gains") = some (.fz T.gainD)) :
    evList (ev (cfT T.flds) (C T 30) 20 false (KV 37) (look ρ)) gameArgs [] = some ([T.chD, T.valD, T.chkD, T.drwD, T.noiD, T.gainD], []) := by
  generalize hb : gameArgs = b
  conv at hb => lhs; whnf
  subst hb
  repeat (first | with_reducible exact it_D0 | with_reducible exact it_D1 | with_reducible exact it_D2 | with_reducible exact it_D3 | with_reducible exact it_D4 | w_left | exact it_D0 | exact it_D1 | exact it_D2 | exact it_D3 | exact it_D4 | exact rfl)
theorem segB (w : T.WF) (hs : s.length ≤ 63) {q d : Nat} {p : Int} (hq : q ≤ 4) (hd : d ≤ 4) (hp : 0 ≤ p ∧ p ≤ 4) {ρ : Rho}
    (r_script : ρ (Str.ofString "script") = some (.fz (intsL s))) (r_game : ρ (Str.ofString "game") = some (.fz .game)) (r_tree : ρ (Str.ofString "tree") = some (.fz T.D)) (r_depth : ρ (Str.ofString "depth") = some (.fz (.int (d : Int)))) (r_qdepth : ρ (Str.ofString "qdepth") = some (.fz (.int (q : Int))))
    (r_ply : ρ (Str.ofString "ply") = some (.fz (.int p))) : W (cfT T.flds) (C T 30) (KV 37) 20 ((fn 37).body.drop 7) (fun fl _ π' => fl = .ret (.bool true)) ρ [0] := by
  have hv := w.pos
  have hc : 0 < p ↔ (0 < 0 ∨ 0 < p) := by omega
  have hS := ng_S (q := q) (p₀ := p) w (by omega) d 0 p (by omega) hv hp.1 (by omega) hc
  have hlev := m_levels (T := T) (π := [0]) (n := 27) w (q := q) (d := d) (p := p) (by omega)
  have hlev : C T 30 (Str.ofString "_law_levels") [T.D, .int (d : Int), .int (q : Int), .int p] [0] = some (levD T q p (q + d + 1), [0]) := hlev
  have i0 : item (intsL (lev T q p (q + d))) (.int 0) [0] = some (.int (S T q p (q + d) 0)) := by
    have := lev_item (π := [0]) w (q := q) (i := q + d) (v := 0) (p := p) hv
    rw [lowV_lev hv] at this
    exact this
  generalize hb : (fn 37).body.drop 7 = b
  conv at hb => lhs; whnf
  subst hb
  refine W_as (d := levD T q p (q + d + 1)) (π₁ := [0]) rfl rfl ?_ ?_
  · repeat (first | w_left | rw [hlev] | exact rfl)
  refine W_as (d := .int (S T q p (q + d) 0)) (π₁ := [0]) rfl rfl ?_ ?_
  · repeat (first | with_reducible exact levD_neg (T := T) (π := [0]) (q := q) (p := p) (m := q + d + 1) (i := q + d) (k := -1) (by omega) (by omega) (by omega) (by omega) | with_reducible exact i0 | w_left | exact levD_neg (T := T) (π := [0]) (q := q) (p := p) (m := q + d + 1) (i := q + d) (k := -1) (by omega) (by omega) (by omega) (by omega) | exact i0 | exact rfl)
  generalize S T q p (q + d) 0 = X at *
  refine W_if (c := decide (X > 31000)) (π₁ := [0]) ?_ (fun q1 => ?_) (fun q1 => ?_)
  · repeat (first | w_left | exact rfl)
  · have e : X - p = ng T q d p 0 := by
      have q1 : X > 31000 := by simpa using q1
      rw [hS, adj, if_pos q1]
    refine W_aug (a := X) (b := p) (r := X - p) (π₁ := [0]) rfl ?_ ?_ rfl (.inr rfl) ?_
    · repeat (first | w_left | exact rfl)
    · repeat (first | w_left | exact rfl)
    rw [e]
    refine law_tail w hs hq hd hp ?_ ?_ ?_ ?_ ?_ ?_ ?_ ?_
    · repeat (first | w_left | exact rfl)
    · repeat (first | w_left | exact rfl)
    · repeat (first | w_left | exact rfl)
    · repeat (first | w_left | exact rfl)
    · repeat (first | w_left | exact rfl)
    · repeat (first | w_left | exact rfl)
    · repeat (first | w_left | exact rfl)
    · repeat (first | w_left | exact rfl)
  have q1 : ¬ X > 31000 := by simpa using q1
  refine W_if (c := decide (X < -31000)) (π₁ := [0]) ?_ (fun q2 => ?_) (fun q2 => ?_)
  · repeat (first | w_left | exact rfl)
  · have e : X + p = ng T q d p 0 := by
      have q2 : X < -31000 := by simpa using q2
      rw [hS, adj, if_neg q1, if_pos q2]
    refine W_aug (a := X) (b := p) (r := X + p) (π₁ := [0]) rfl ?_ ?_ rfl (.inl rfl) ?_
    · repeat (first | w_left | exact rfl)
    · repeat (first | w_left | exact rfl)
    rw [e]
    refine law_tail w hs hq hd hp ?_ ?_ ?_ ?_ ?_ ?_ ?_ ?_
    · repeat (first | w_left | exact rfl)
    · repeat (first | w_left | exact rfl)
    · repeat (first | w_left | exact rfl)
    · repeat (first | w_left | exact rfl)
    · repeat (first | w_left | exact rfl)
    · repeat (first | w_left | exact rfl)
    · repeat (first | w_left | exact rfl)
    · repeat (first | w_left | exact rfl)
  · have e : X = ng T q d p 0 := by
      have q2 : ¬ X < -31000 := by simpa using q2
      rw [hS, adj, if_neg q1, if_neg q2]
    rw [e]
    refine law_tail w hs hq hd hp ?_ ?_ ?_ ?_ ?_ ?_ ?_ ?_
    · repeat (first | w_left | exact rfl)
    · repeat (first | w_left | exact rfl)
    · repeat (first | w_left | exact rfl)
    · repeat (first | w_left | exact rfl)
    · repeat (first | w_left | exact rfl)
    · repeat (first | w_left | exact rfl)
    · repeat (first | w_left | exact rfl)
    · repeat (first | w_left | exact rfl)
noncomputable def lawN : Nat := 30
theorem plain (ns : List Int) (hn : ns.length ≤ 63) : ∃ (T : Tr) (ρA ρB : Rho) (πB : List Int), seqS (ex (cfT T.flds) (C T lawN) 20 (KV 37)) ((fn 37).body.take 6) (rho₀ (fn 37).params [intsL ns]) [] = some (.next, ρA, []) ∧
    (∀ x xs, ρA x ≠ some (.own xs)) ∧ evList (ev (cfT T.flds) (C T lawN) 20 false (KV 37) (look ρA)) gameArgs [] = some ([T.chD, T.valD, T.chkD, T.drwD, T.noiD, T.gainD], []) ∧
    seqS (ex (cfT T.flds) (C T lawN) 20 (KV 37)) ((fn 37).body.drop 7) (setV (onlyFz ρA) "game" (.fz .game)) [0] = some (.ret (.bool true), ρB, πB) := by
  obtain ⟨fl, ρA, πA, eA, rfl, rfl, hno, r1, r2, r3, r4, r5, r6⟩ := segA (treeOf_wf ns) hn
  have hp := pI_ok ns
  obtain ⟨fl, ρB, πB, eB, rfl⟩ := segB (s := ns) (ρ := setV (onlyFz ρA) "game" (.fz .game)) (treeOf_wf ns) hn (q := qI ns) (d := dI ns) (p := pI ns) (by have := qI_ok ns; omega) (by have := dI_ok ns; omega) (by omega)
    ((if_neg (by decide)).trans (onlyFz_at r1)) (if_pos rfl) ((if_neg (by decide)).trans (onlyFz_at r2)) ((if_neg (by decide)).trans (onlyFz_at r3)) ((if_neg (by decide)).trans (onlyFz_at r4)) ((if_neg (by decide)).trans (onlyFz_at r5))
  exact ⟨treeOf ns, ρA, ρB, πB, eA, hno, game_args r2 r6, eB⟩
end

/-! ## data without a game -/
mutual
theorem Rd.lift {g : Gm} {μ μ' : Addr → Prop} {h h' : Heap} (k : Stay μ μ' h h') : ∀ (d : D) (v : Value), Rd none μ h d v → Rd (some g) μ' h' d v
  | .none, _, x => by simpa only [Rd] using x
  | .bool _, _, x => by simpa only [Rd] using x
  | .int _, _, x => by simpa only [Rd] using x
  | .list xs, v, x => by
    simp only [Rd] at x ⊢
    obtain ⟨a, vs, e, hm, ⟨o, ho, hc⟩, hr⟩ := x
    obtain ⟨hm', ho'⟩ := k a o hm ho
    exact ⟨a, vs, e, hm', ⟨o, ho', hc⟩, RdL.lift k xs vs hr⟩
  | .tup xs, v, x => by
    simp only [Rd] at x ⊢
    obtain ⟨a, vs, e, hm, ⟨o, ho, hc⟩, hr⟩ := x
    obtain ⟨hm', ho'⟩ := k a o hm ho
    exact ⟨a, vs, e, hm', ⟨o, ho', hc⟩, RdL.lift k xs vs hr⟩
  | .range y z, v, x => by
    simp only [Rd] at x ⊢
    obtain ⟨a, t, u, w, e, hm, ho⟩ := x
    obtain ⟨hm', ho'⟩ := k a _ hm ho
    exact ⟨a, t, u, w, e, hm', ho'⟩
  | .game, _, x => by simp only [Rd] at x; obtain ⟨_, e, _⟩ := x; cases e
  | .path, _, x => by simp only [Rd] at x; obtain ⟨_, e, _⟩ := x; cases e
theorem RdL.lift {g : Gm} {μ μ' : Addr → Prop} {h h' : Heap} (k : Stay μ μ' h h') : ∀ (ds : List D) (vs : List Value), RdL none μ h ds vs → RdL (some g) μ' h' ds vs
  | [], _, x => by simpa only [RdL] using x
  | d :: ds, vs, x => by
    simp only [RdL] at x ⊢
    obtain ⟨v, vs', e, hv, hr⟩ := x
    exact ⟨v, vs', e, Rd.lift k d v hv, RdL.lift k ds vs' hr⟩
end
/-- all that stands in h above h₀, but L -/
noncomputable def newsOf (h₀ h : Heap) (L : Addr) : List (Addr × Obj) := (List.range h.objs.size).filterMap fun a => if a = L ∨ (h₀.get? a).isSome = true then none else (h.get? a).map fun o => (a, o)
theorem newsOf_news {h₀ h : Heap} {L : Addr} : News h₀ L h (newsOf h₀ h L) := by
  intro p hp
  obtain ⟨a, _, e⟩ := List.mem_filterMap.mp hp
  split at e
  · cases e
  · rename_i hn
    obtain ⟨o, ho, rfl⟩ := Option.map_eq_some_iff.mp e
    refine ⟨ho, fun q => hn (.inl q), ?_⟩
    cases q : h₀.get? a with
    | none => rfl
    | some o' => exact absurd (.inr (by rw [q]; rfl)) hn
theorem newsOf_mem {h₀ h : Heap} {L a : Addr} {o : Obj} (e : h.get? a = some o) (hL : a ≠ L) (h0 : h₀.get? a = none) : (a, o) ∈ newsOf h₀ h L := by
  refine List.mem_filterMap.mpr ⟨a, List.mem_range.mpr (Heap.lt_size e), ?_⟩
  rw [if_neg (by rw [h0]; simp [hL]), e]; rfl
noncomputable def unF : Addr → Prop := fun _ => False
theorem list6 {G : Option Gm} {μ : Addr → Prop} {h : Heap} {d1 d2 d3 d4 d5 d6 : D} {vs : List Value} (r : RdL G μ h [d1, d2, d3, d4, d5, d6] vs) :
    ∃ v1 v2 v3 v4 v5 v6, vs = [v1, v2, v3, v4, v5, v6] ∧ Rd G μ h d1 v1 ∧ Rd G μ h d2 v2 ∧ Rd G μ h d3 v3 ∧ Rd G μ h d4 v4 ∧ Rd G μ h d5 v5 ∧ Rd G μ h d6 v6 := by
  simp only [RdL] at r
  obtain ⟨v1, _, rfl, r1, v2, _, rfl, r2, v3, _, rfl, r3, v4, _, rfl, r4, v5, _, rfl, r5, v6, _, rfl, r6, rfl⟩ := r
  exact ⟨_, _, _, _, _, _, rfl, r1, r2, r3, r4, r5, r6⟩
theorem meth_no {es : List DictEntry} (h : (meths.all fun x => getL x es matches some none) = true) {m key : Str} {f : List (Str × D)} (e : (cfT f).meth m = some key) : getL m es = some none := by
  have e : (if meths.contains m then some ("TreeGame." ++ m) else none) = some key := e
  split at e
  · rename_i hc
    have := List.all_eq_true.mp h m (by simpa using hc)
    split at this
    · assumption
    · cases this
  · cases e
theorem flds_names (T : Tr) : ∀ x d, T.flds.lookup x = some d → x ∈ fldNames := fun x d h => by
  have := mem_of_lookup h
  simp only [Tr.flds, List.mem_cons, Prod.mk.injEq, List.not_mem_nil, or_false] at this
  rcases this with ⟨rfl, _⟩ | ⟨rfl, _⟩ | ⟨rfl, _⟩ | ⟨rfl, _⟩ | ⟨rfl, _⟩ | ⟨rfl, _⟩ <;> decide
structure Gd (K : Frag) (h₀ : Heap) : Prop where
  X : K.In h₀
  c1 : chk1 K = true
  c2 : chk2 K = true
  d0 : dataOf (fdOf K 144) = dataT 13
  dT : ∀ p ∈ adrT, dataOf (fdOf K p.2.1) = dataT p.2.2
theorem Gd.two {K : Frag} {h₀ : Heap} (k : Gd K h₀) : nsIn K mainGlobals "TreeGame" = some (some (.ref 222)) ∧ keepIn K (.ref 222) = true := by
  have c2 := k.c2
  simp only [chk2, Bool.and_eq_true, beq_iff_eq] at c2
  exact ⟨c2.1.1.1.1.1.1.1.1.2, c2.1.1.1.1.1.1.1.2⟩
noncomputable abbrev cxL {K : Frag} {h₀ : Heap} {q : Program} {lo : List Str} {mean : ExcName → Option Value} {mg mb : Str → Option Value} (KX : Gd K h₀) (Tp : Top q lo mean mg mb h₀) (T : Tr) : Cx (cfT T.flds) fns :=
  mkCx KX.X KX.c1 KX.c2 KX.dT Tp.g Tp.b Tp.nolimit Tp.builtins T.flds (flds_names T)
theorem fa_law {L fa' a : Addr} {cd : Value} (h : fa (lawEnv L fa' cd) a) : a = L := by
  rcases h with h | ⟨x, h⟩
  · exact h
  · cases h
theorem game_stmt (w : World) {K : Frag} {h₀ : Heap} {q : Program} {lo : List Str} {mean : ExcName → Option Value} {mg mb : Str → Option Value} (KX : Gd K h₀) (Tp : Top q lo mean mg mb h₀) (T : Tr) {L fa : Addr} {cd : Value} {N : Nat}
    (SM : SoundM (cxL KX Tp T) none N (callF (cfT T.flds) fns N)) (hA : AOk (lawA L fa cd) N) {s₀ s : Shared} {ρ : Rho} {oa : Str → Addr} {π : List Int} (hs₀ : s₀.heap = h₀) (hL : h₀.objs.size ≤ L)
    (f : FS (cxL KX Tp T) none s₀ unF unF (KV 37) (lawEnv L fa cd) ρ oa s π) (hown : ∀ x xs, ρ x ≠ some (.own xs))
    (he : evList (ev (cfT T.flds) (callF (cfT T.flds) fns N) 20 false (KV 37) (look ρ)) gameArgs π = some ([T.chD, T.valD, T.chkD, T.drwD, T.noiD, T.gainD], π)) {E : Value → Shared → Prop} :
    wpAny (model PySem.Challenge.rw_nt0430_01.row.prog w) (lawA L fa cd) (exec gameS (lawEnv L fa cd)) (fun fl s' => fl = .next ∧ ∃ g s₁, FS (cxL KX Tp T) (some g) s₁ (fun a => a = g.pa) unF (KV 37) (lawEnv L fa cd) (setV (onlyFz ρ) "game" (.fz .game)) oa s' [0] ∧
      (∃ h' tk, s₁ = { s₀ with heap := h', toks := tk })) E s := by
  unfold gameArgs at he
  generalize hb : gameS = b at he ⊢
  conv at hb => lhs; whnf
  subst hb
  dsimp only at he
  refine wpAny_Assign_Name (Call_ (load_glob f.evc rfl (mg_of KX.X Tp.g KX.two.1) ?_)) rfl
  refine callWith_K KX.X KX.two.2 (wpAny_mono (list_sound ((ev_sound SM 20).1 _ _) hA rfl he f.evc f.inv) (fun vs s₁ q => ?_) fun _ _ e => e)
  obtain ⟨x1, I1, r1⟩ := q
  obtain ⟨v1, v2, v3, v4, v5, v6, rfl, q1, q2, q3, q4, q5, q6⟩ := list6 r1
  have f1 := f.step x1 I1
  have keep : ∀ b o, h₀.get? b = some o → s₁.heap.get? b = some o := fun b o e => f1.ext.keep (fun ⟨g, e, _⟩ => by cases e) (by rw [hs₀]; exact e)
  obtain ⟨m, hm⟩ := f1.ns
  have F : Fr h₀ L s₁.heap m := ⟨hm, keep, hL⟩
  have h0L : h₀.get? L = none := Heap.get?_none_of_le hL
  refine ⟨KX.X.keeps keep, ?_⟩
  refine make_game K w h₀ mean mg mb q lo L fa cd m s₁ v1 v2 v3 v4 v5 v6 _ _ (newsOf h₀ s₁.heap L) KX.X Tp (below_caller _) F newsOf_news KX.c1 KX.c2 KX.d0 ?_
  intro ga da pa es n h' tk t F' N' l1 l2 l3 hes hms
  refine wpAny_storeName_local rfl F'.ns (fun h'' hn hs => ?_) rfl
  have gpa := (N' _ (List.mem_cons_self)).1
  have npa := (N' _ (List.mem_cons_self)).2
  have gga := (N' _ (List.mem_cons_of_mem _ List.mem_cons_self)).1
  have nga := (N' _ (List.mem_cons_of_mem _ List.mem_cons_self)).2
  have gda := (N' _ (List.mem_cons_of_mem _ (List.mem_cons_of_mem _ List.mem_cons_self))).1
  have nda := (N' _ (List.mem_cons_of_mem _ (List.mem_cons_of_mem _ List.mem_cons_self))).2
  dsimp only at gpa npa gga nga gda nda
  have kp : ∀ a o, a ≠ L → s₁.heap.get? a = some o → h'.get? a = some o ∧ a ≠ pa := fun a o ha e => by
    cases q : h₀.get? a with
    | some o' =>
      have := keep _ _ q
      rw [e] at this; cases this
      exact ⟨F'.keep _ _ q, fun q' => by subst q'; rw [npa.2] at q; cases q⟩
    | none =>
      have hmem := newsOf_mem e ha q
      refine ⟨(N' _ (List.mem_cons_of_mem _ (List.mem_cons_of_mem _ (List.mem_cons_of_mem _ hmem)))).1, fun q' => ?_⟩
      have := l1 _ hmem
      dsimp only at this
      subst q'
      exact absurd (Nat.lt_trans (Nat.lt_trans this l2) l3) (Nat.lt_irrefl _)
  have kp2 : ∀ a o, a ≠ L → s₁.heap.get? a = some o → h''.get? a = some o ∧ a ≠ pa := fun a o ha e => ⟨(hs.2 a ha).trans (kp a o ha e).1, (kp a o ha e).2⟩
  let g : Gm := ⟨ga, pa, []⟩
  have hPP : ∀ a, PP (some g) a ↔ a = pa := fun a => ⟨fun ⟨g', e, e'⟩ => by cases e; exact e', fun e => ⟨g, rfl, e⟩⟩
  have mu1 : ∀ a, muF unF unF (KV 37) (lawEnv L fa cd) ρ oa a ↔ a = L := fun a => ⟨fun h => by
    rcases h with h | h | h | ⟨x, xs, _, h, _⟩
    · exact h.elim
    · exact h.elim
    · exact fa_law h
    · exact absurd h (hown _ _), fun h => .inr (.inr (.inl (.inl h)))⟩
  have hownB : ∀ x xs, setV (onlyFz ρ) "game" (.fz .game) x ≠ some (.own xs) := fun x xs h => by
    unfold setV at h
    split at h
    · cases h
    · unfold onlyFz at h
      obtain ⟨d, _, e⟩ := Option.map_eq_some_iff.mp h
      cases e
  have mu2 : ∀ a, muF (fun a => a = g.pa) unF (KV 37) (lawEnv L fa cd) (setV (onlyFz ρ) "game" (.fz .game)) oa a ↔ (a = pa ∨ a = L) := fun a => ⟨fun h => by
    rcases h with h | h | h | ⟨x, xs, _, h, _⟩
    · exact .inl h
    · exact h.elim
    · exact .inr (fa_law h)
    · exact absurd h (hownB _ _), fun h => h.elim (fun h => .inl h) fun h => .inr (.inr (.inl (.inl h)))⟩
  have st : Stay (muF unF unF (KV 37) (lawEnv L fa cd) ρ oa) (muF (fun a => a = g.pa) unF (KV 37) (lawEnv L fa cd) (setV (onlyFz ρ) "game" (.fz .game)) oa) s₁.heap h'' := fun a o hm e => by
    rw [mu1] at hm
    rw [mu2]
    exact ⟨fun q => q.elim (kp2 a o hm e).2 hm, (kp2 a o hm e).1⟩
  have keep2 : ∀ b o, h₀.get? b = some o → h''.get? b = some o := fun b o e => (hs.2 b fun q => by subst q; rw [h0L] at e; cases e).trans (F'.keep b o e)
  refine ⟨rfl, g, { s₁ with heap := h''.hide L, toks := tk + 1 }, ?_, ?_⟩
  · refine { kind := rfl, glob := rfl, bi := rfl, kk := fun x => rfl, kc := fun x q => ?_, base := fun a o e => ?_, off := fun a o e q => ?_, live0 := fun a ha => ?_, pa0 := fun a ha => (hPP a).mp ha, ext := ?_, ns := ⟨_, hn⟩, cell := fun x c q => (by cases q),
             inj := fun x y c q => (by cases q), cne := fun x c q => (by cases q), new := fun a ha => ?_, pend := fun a q => q.elim, own := fun x xs _ h => absurd h (hownB x xs), vars := fun x d hv hx => ?_, inv := ?_ }
    · exact f.kc x q
    · have e : h₀.get? a = some o := e
      have hne : a ≠ L := fun q => by subst q; rw [h0L] at e; cases e
      exact (Heap.hide_ne _ hne).trans (keep2 a o e)
    · have e : h₀.get? a = some o := e
      obtain rfl := (hPP a).mp q
      rw [npa.2] at e; cases e
    · obtain rfl : a = pa := ha
      exact ⟨_, (Heap.hide_ne _ npa.1).trans ((hs.2 _ npa.1).trans gpa)⟩
    · refine ⟨h'', tk + 1, rfl, fun a o _ e => ?_⟩
      by_cases q : a = L
      · subst q
        have e : (h''.hide a).get? a = some o := e
        rw [Heap.hide_self] at e; cases e
      · have e : (h''.hide L).get? a = some o := e
        rwa [Heap.hide_ne _ q] at e
    · obtain rfl := fa_law ha
      exact Heap.hide_self _ _
    · unfold setV at hx
      split at hx
      · rename_i hx'
        cases hx
        refine ⟨.ref ga, ?_, ?_⟩
        · subst hx'
          exact ⟨_, hn, by simp⟩
        · simp only [Rd]; exact ⟨g, rfl, rfl⟩
      · rename_i hne
        obtain ⟨d', hd, e⟩ := Option.map_eq_some_iff.mp hx
        cases e
        have hρ : ρ x = some (.fz d) := by
          unfold look at hd
          split at hd
          · cases hd; assumption
          · cases hd
        obtain ⟨v, hbd, hrd⟩ := f1.vars x d hv hρ
        refine ⟨v, ?_, Rd.lift st _ _ hrd⟩
        unfold Bd at hbd ⊢
        split at hbd
        · obtain ⟨m', ⟨o, es, ep, ho, hdd, hk, hfnd⟩, hv'⟩ := hbd
          obtain ⟨o2, es2, ep2, ho2, hdd2, hk2, hfnd2⟩ := hm
          have : some o = some o2 := ho.symm.trans ho2
          cases this
          rw [hdd] at hdd2; cases hdd2
          refine ⟨_, hn, ?_⟩
          rw [if_neg hne, ← hfnd2 x, hfnd x]
          exact hv'
        · obtain ⟨c, hc, _⟩ := hbd; cases hc
        · obtain ⟨c, hc, _⟩ := hbd; cases hc
        · exact hbd.elim
    · intro g' hg'
      cases hg'
      refine ⟨da, es, n, (hs.2 _ nga.1).trans gga, (hs.2 _ nda.1).trans gda, ?_, ?_, ?_, ?_, ?_, fun m key e => meth_no hms e⟩
      · rw [mu2]
        rintro (q | q)
        · exact absurd l3 (by show ¬ ga < pa; rw [show ga = pa from q]; exact Nat.lt_irrefl _)
        · exact nga.1 q
      · rw [mu2]
        rintro (q | q)
        · exact absurd (Nat.lt_trans l2 l3) (by rw [show da = pa from q]; exact Nat.lt_irrefl _)
        · exact nda.1 q
      · rw [mu2]; exact .inl rfl
      · exact ⟨[.int 0 t], 0, (hs.2 _ npa.1).trans gpa, .cons _ _ .nil⟩
      · intro m d hd
        have hd : (if m = Str.ofString "path" then some D.path else T.flds.lookup m) = some d := hd
        obtain ⟨e1, e2, e3, e4, e5, e6, e7⟩ := hes
        split at hd
        · cases hd
          rename_i hm'
          subst hm'
          exact ⟨_, e7, by simp only [Rd]; exact ⟨g, rfl, rfl⟩⟩
        · have := mem_of_lookup hd
          simp only [Tr.flds, List.mem_cons, Prod.mk.injEq, List.not_mem_nil, or_false] at this
          rcases this with ⟨rfl, rfl⟩ | ⟨rfl, rfl⟩ | ⟨rfl, rfl⟩ | ⟨rfl, rfl⟩ | ⟨rfl, rfl⟩ | ⟨rfl, rfl⟩
          · exact ⟨_, e1, Rd.lift st _ _ q1⟩
          · exact ⟨_, e2, Rd.lift st _ _ q2⟩
          · exact ⟨_, e3, Rd.lift st _ _ q3⟩
          · exact ⟨_, e4, Rd.lift st _ _ q4⟩
          · exact ⟨_, e5, Rd.lift st _ _ q5⟩
          · exact ⟨_, e6, Rd.lift st _ _ q6⟩
  · obtain ⟨h1, t1, e1, _⟩ := f1.ext
    subst e1
    exact ⟨_, _, rfl⟩
section
variable {cf : Cf} {fns : Str → Option Fn}
variable {cx : Cx cf fns} {G : Option Gm} {μ₀ pd : Addr → Prop} {κ : Str → Option NameKind} {env : Env} {s₀ : Shared}
variable {prog : Program} {w : World} {A : Around} {E : Value → Shared → Prop} {N : Nat}
theorem seq_next {f : Stmt → Rho → List Int → Option (Fl × Rho × List Int)} (S : SndX cx G N f κ) (hA : AOk A N) {b : List Stmt} {Q : Flow → Shared → Prop} {ρ' : Rho} {π' : List Int} : ∀ {cs : List Stmt} {ρ : Rho} {π : List Int} {oa : Str → Addr} {s : Shared},
    seqS f cs ρ π = some (.next, ρ', π') → FS cx G s₀ μ₀ pd κ env ρ oa s π → (∀ oa' s', FS cx G s₀ μ₀ pd κ env ρ' oa' s' π' → wpAny (model prog w) A (execs b env) Q E s') →
    wpAny (model prog w) A (execs (cs ++ b) env) Q E s
  | [], ρ, π, oa, s, e, h, k => by
    simp only [seqS, Option.some.injEq, Prod.mk.injEq, true_and] at e
    obtain ⟨rfl, rfl⟩ := e
    exact k _ _ h
  | c :: r, ρ, π, oa, s, e, h, k => by
    simp only [seqS] at e
    cases hc : f c ρ π with
    | none => rw [hc] at e; cases e
    | some q =>
      obtain ⟨fl₁, ρ₁, π₁⟩ := q
      rw [hc] at e
      refine wpAny_execs_cons (wpAny_mono (S c ρ π fl₁ ρ₁ π₁ hc prog w A env s₀ μ₀ pd oa s E hA h) (fun fw s₁ q => ?_) fun _ _ e => e)
      obtain ⟨oa₁, f₁, st₁, q⟩ := q
      cases fl₁ with
      | next =>
        simp only [FlR] at q
        subst q
        exact seq_next S hA e f₁ k
      | brk => cases e
      | ret d => cases e
end
theorem law_run (w : World) {K : Frag} {h₀ : Heap} {q : Program} {lo : List Str} {mean : ExcName → Option Value} {mg mb : Str → Option Value} (KX : Gd K h₀) (Tp : Top q lo mean mg mb h₀) {L fa l : Addr} {cd : Value} {vs : List Value} {ns : List Int} {m : Str → Option Value} {s : Shared}
    (hL : L = h₀.objs.size) (F : Fr h₀ L s.heap m) (hm : m "script" = some (.ref l)) (hl : h₀.IsList l vs.toArray) (hi : IntsAre vs ns)
    (T : Tr) (N : Nat) (hA : AOk (lawA L fa cd) N) {ρA ρB : Rho} {πB : List Int}
    (segA : seqS (ex (cfT T.flds) (C T N) 20 (KV 37)) ((fn 37).body.take 6) (rho₀ (fn 37).params [intsL ns]) [] = some (.next, ρA, []))
    (hown : ∀ x xs, ρA x ≠ some (.own xs))
    (he : evList (ev (cfT T.flds) (C T N) 20 false (KV 37) (look ρA)) gameArgs [] = some ([T.chD, T.valD, T.chkD, T.drwD, T.noiD, T.gainD], []))
    (segB : seqS (ex (cfT T.flds) (C T N) 20 (KV 37)) ((fn 37).body.drop 7) (setV (onlyFz ρA) "game" (.fz .game)) [0] = some (.ret (.bool true), ρB, πB)) {Q : Flow → Shared → Prop} {E : Value → Shared → Prop}
    (hQ : ∀ h' tk m', Fr h₀ L h' m' → Q (.ret (.bool true)) { s with heap := h', toks := tk }) :
    wpAny (model PySem.Challenge.rw_nt0430_01.row.prog w) (lawA L fa cd) (execs (fn 37).body (lawEnv L fa cd)) Q E s := by
  have h0L : h₀.get? L = none := Heap.get?_none_of_le (Nat.le_of_eq hL.symm)
  have hbody : (fn 37).body = (fn 37).body.take 6 ++ (gameS :: (fn 37).body.drop 7) := by rfl
  have SM0 : SoundM (cxL KX Tp T) none N (C T N) := callF_sound N
  have f0 : FS (cxL KX Tp T) none { s with heap := h₀ } unF unF (KV 37) (lawEnv L fa cd) (rho₀ (fn 37).params [intsL ns]) (fun _ => 0) s [] := {
    kind := rfl, glob := rfl, bi := rfl, kk := fun x => rfl
    kc := fun x q => by
      exfalso
      have hall : ((fn 37).scope.names.all fun p => !(p.2 == .cell) && !(p.2 == .free)) = true := by rfl
      have q : (fn 37).scope.names.lookup x = some .cell ∨ (fn 37).scope.names.lookup x = some .free := q
      rcases q with q | q
      · have := List.all_eq_true.mp hall _ (mem_of_lookup q); simp at this
      · have := List.all_eq_true.mp hall _ (mem_of_lookup q); simp at this
    base := fun a o e => e
    off := fun a o e ⟨g, q, _⟩ => by cases q
    live0 := fun a ha => ha.elim
    pa0 := fun a ⟨g, q, _⟩ => by cases q
    ext := ⟨s.heap, s.toks, rfl, fun a o _ e => F.keep a o e⟩
    ns := ⟨_, F.ns⟩
    cell := fun x c q => by cases q
    inj := fun x y c q => by cases q
    cne := fun x c q => by cases q
    new := fun a ha => by obtain rfl := fa_law ha; exact h0L
    pend := fun a q => q.elim
    own := fun x xs _ hx => by
      unfold rho₀ at hx
      obtain ⟨d, _, e⟩ := Option.map_eq_some_iff.mp hx
      cases e
    vars := fun x d hv hx => by
      unfold rho₀ at hx
      obtain ⟨d', hd, e⟩ := Option.map_eq_some_iff.mp hx
      cases e
      have hz : ((fn 37).params.zip [intsL ns]) = [(Str.ofString "script", intsL ns)] := rfl
      rw [hz] at hd
      have := mem_of_lookup hd
      simp only [List.mem_cons, Prod.mk.injEq, List.not_mem_nil, or_false] at this
      obtain ⟨rfl, rfl⟩ := this
      refine ⟨.ref l, ⟨m, F.ns, hm⟩, ?_⟩
      have hne : l ≠ L := fun q => by subst q; obtain ⟨o, ho, _⟩ := hl; rw [h0L] at ho; cases ho
      have hr : ∀ {μ : Addr → Prop} {vs : List Value} {ns : List Int}, IntsAre vs ns → RdL none μ s.heap (ns.map .int) vs := by
        intro μ vs ns h
        induction h with
        | nil => simp [RdL]
        | cons n t _ ih => simp only [List.map_cons, RdL]; exact ⟨_, _, rfl, by simp [Rd], ih⟩
      simp only [intsL, Rd]
      refine ⟨l, vs, rfl, ?_, ?_, hr hi⟩
      · rintro (q | q | q | ⟨y, ys, _, hy, _⟩)
        · exact q
        · exact q
        · exact hne (fa_law q)
        · unfold rho₀ at hy
          obtain ⟨d, _, e⟩ := Option.map_eq_some_iff.mp hy
          cases e
      · obtain ⟨o, ho, r⟩ := hl; exact ⟨o, F.keep _ _ ho, r⟩
    inv := fun g hg => by cases hg }
  rw [hbody]
  refine seq_next (ex_sound SM0 20 _) hA segA f0 fun oa' s' f1 => ?_
  refine wpAny_execs_cons (wpAny_mono (game_stmt w KX Tp T SM0 hA rfl (Nat.le_of_eq hL.symm) f1 hown he) (fun fw s₁ q => ?_) fun _ _ e => e)
  obtain ⟨rfl, g, s₁', f2, hs1⟩ := q
  refine wpAny_mono (seq_sound (ex_sound (callF_sound N) 20 _) hA segB f2) (fun fw s₂ q => ?_) fun _ _ e => e
  obtain ⟨oa₂, f3, _, v, rfl, r⟩ := q
  simp only [Rd] at r
  subst r
  obtain ⟨h₁, t₁, rfl⟩ := hs1
  obtain ⟨h₂, t₂, e2, k2⟩ := f3.ext
  subst e2
  obtain ⟨m', hm'⟩ := f3.ns
  exact hQ h₂ t₂ m' ⟨hm', fun b o e => k2 b o (f3.off b o e) (f3.base b o e), Nat.le_of_eq hL.symm⟩

theorem law_aok (L fa : Addr) (cd : Value) : AOk (lawA L fa cd) lawN := ⟨rfl, by show _ < _; exact Nat.le_of_ble_eq_true rfl, Nat.le_of_ble_eq_true rfl⟩
theorem plain' {vs : List Value} {ns : List Int} (hi : IntsAre vs ns) (h : ¬ ((63 : Nat) : Int) < (ns.length : Int)) : ∃ (T : Tr) (ρA ρB : Rho) (πB : List Int), seqS (ex (cfT T.flds) (C T lawN) 20 (KV 37)) ((fn 37).body.take 6) (rho₀ (fn 37).params [intsL ns]) [] = some (.next, ρA, []) ∧
    (∀ x xs, ρA x ≠ some (.own xs)) ∧ evList (ev (cfT T.flds) (C T lawN) 20 false (KV 37) (look ρA)) gameArgs [] = some ([T.chD, T.valD, T.chkD, T.drwD, T.noiD, T.gainD], []) ∧
    seqS (ex (cfT T.flds) (C T lawN) 20 (KV 37)) ((fn 37).body.drop 7) (setV (onlyFz ρA) "game" (.fz .game)) [0] = some (.ret (.bool true), ρB, πB) := plain ns (by omega)
theorem said : PySem.Challenge.rw_nt0430_01.wellSaid = true := by
  rw [PySem.W.Fast.te9446332074065402090]
  kernel_rfl
end Mine
theorem PySem.Challenge.cw_nt0430_01_holds : PySem.Challenge.rw_nt0430_01.Holds := by
  refine holds_law Mine.said fun said' => ?_
  refine holds_open (q := Mine.vw) (loose := Mine.looseL) (Xt := fun s => xlAt Mine.vw [] s && recOk (RowW.records (OpenRow.toRowW PySem.Challenge.rw_nt0430_01.row)) s) (XP := XL Mine.vw []) (Yf := Mine.seenF) (Ya := Mine.wantF) (YP := Mine.saysF) (N := 3966) Mine.left0 Mine.saysF_of Mine.saysF_keeps
    (fun s e => xl_of s (Bool.and_eq_true_iff.mp e).1) XL.keeps (by rfl) (by rfl) (by rfl) (fun s e => recFacts_of (Bool.and_eq_true_iff.mp e).2) (by rfl) said' (by decide +kernel) ⟨rfl, rfl, rfl, rfl, rfl, by decide +kernel⟩ ?hw ?hc
  case hw => w_witness2
  case hc =>
    intro w s₀ s₁ mg mb G Y fa o pm cd doc dV kV ho hd hcd hD hmg hg args vals as hpre hlay hrd hwl hlo
    refine Ground.open G ?_
    intro T B D TE TW
    try (refine guard_noD D (by decide +kernel) ?_; clear D)
    obtain ⟨_, _, M⟩ := bmod_of_top T
    have TA := at_of_top T
    obtain ⟨_, _, he, B0⟩ := based_of_top T rfl hmg ho hd
    have he' : cd = _ := he
    subst he'
    clear he
    clear hmg
    wrow_args hpre hlay hrd hwl hlo
    all_goals (
      first | refine callC_kw (enter_call ?_) | refine enter_call ?_ | refine callC_kw (enter_callW ?_) | refine enter_callW ?_ | w_how
      w_top on
      try refine codeAny_mono ?_ (fun _ _ g => GoodW.toG g)
      have K0 := below_caller (Top.heap T)
      w_call any ho hd hcd hD T F
      clear hd TA
      k_drop
      skip)
    rename Fr _ _ _ _ => F
    rename Top _ _ _ _ _ _ => Tp
    rename IntsAre _ _ => hi
    rename Heap.IsList _ _ _ => hl
    rename (¬ (((63 : Nat) : Int) < _)) => hlen
    obtain ⟨K, KX, k1, k2, k3, k4⟩ := Y
    obtain ⟨T, ρA, ρB, πB, h1, h2, h3, h4⟩ := Mine.plain' hi hlen
    refine Mine.law_run _ (K := K) ⟨KX, k1, k2, k3, k4⟩ Tp rfl F ?_ hl hi T Mine.lawN (Mine.law_aok _ _ _) h1 h2 h3 h4 ?_
    · rfl
    · intro h' tk m' F'
      exact goodW_bool F' hg (by intro cls; rfl) (by wrow_post)

