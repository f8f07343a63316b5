import PyProof.Rows.All
import Wide.All
import OpenK.AllK
import Wide.FinOn
import Lean
import PySem.Challenge.RW_pc0188_01
set_option Elab.async false
set_option linter.all false
set_option maxRecDepth 100000
namespace Mine
open PySem

/-! values as data -/
inductive D where
  | none
  | bool (b : Bool)
  | int (i : Int)
  | str (s : Str)
  | bytes (b : Array UInt8)
  | tup (xs : List D)
  | lst (xs : List D)
  | rng (n : Nat)
  deriving Inhabited

inductive R where
  | val (d : D)
  | loc (l : Nat)
  | dct (ks : List Str) (ds : List D)
  deriving Inhabited

/-- a list that is changed: its budget of items still to come, its items from behind -/
structure Ent where
  g : Nat
  rev : List D
  deriving Inhabited

abbrev Sto := List Ent
abbrev Loc := List (Str × R)
abbrev Names := List (Str × NameKind)
abbrev Orc := Str → List R → Sto → Option (R × Sto)

noncomputable def bnd : Nat := 1000

noncomputable def setL (x : Str) (r : R) : Loc → Loc
  | [] => [(x, r)]
  | (y, q) :: ρ => if x == y then (y, r) :: ρ else (y, q) :: setL x r ρ

mutual
noncomputable def eqD : D → D → Option Bool
  | .str a, .str b => some (decide (a = b))
  | .int a, .int b => some (decide (a = b))
  | .bool a, .bool b => some (a == b)
  | .bytes a, .bytes b => some (decide (a = b))
  | .tup xs, .tup ys => eqDs xs ys
  | .lst xs, .lst ys => eqDl xs ys
  | _, _ => none
noncomputable def eqDs : List D → List D → Option Bool
  | [], [] => some true
  | [], _ :: _ => some false
  | _ :: _, [] => some false
  | x :: xs, y :: ys => match eqD x y with
    | some a => match eqDs xs ys with
      | some b => some (a && b)
      | none => none
    | none => none
noncomputable def eqDl : List D → List D → Option Bool
  | [], [] => some true
  | [], _ :: _ => some false
  | _ :: _, [] => some false
  | x :: xs, y :: ys => if xs.length = ys.length then (match eqD x y with
    | some a => match eqDs xs ys with
      | some b => some (a && b)
      | none => none
    | none => none) else some false
end

mutual
noncomputable def depD : D → Nat
  | .tup xs => depDs xs + 1
  | .lst xs => depDs xs + 1
  | _ => 0
noncomputable def depDs : List D → Nat
  | [] => 0
  | x :: xs => max (depD x) (depDs xs)
end

/-- are the two equal: both within the room -/
noncomputable def eqR (σ : Sto) : R → R → Option Bool
  | .val (.bytes _), _ => none
  | .val d, .val e => if depD d ≤ bnd then eqD d e else none
  | .loc l, .val (.lst []) => match σ[l]? with
    | some e => some e.rev.isEmpty
    | none => none
  | _, _ => none

noncomputable def isDbg (x : Str) : Bool := x == ("__debug__" : Str)

/-! what is asked of parts of the text, each with what follows from an answer -/
section
variable {α β γ : Type}
noncomputable def b1 (x : Option α) (f : α → Option β) : Option β := match x with
  | some a => f a
  | none => none
theorem b1_inv {x : Option α} {f : α → Option β} {b : β} (h : b1 x f = some b) : ∃ a, x = some a ∧ f a = some b := by
  cases x with
  | none => cases h
  | some a => exact ⟨a, rfl, h⟩
noncomputable def b2 (x : Option (α × β)) (f : α → β → Option γ) : Option γ := match x with
  | some p => f p.1 p.2
  | none => none
theorem b2_inv {x : Option (α × β)} {f : α → β → Option γ} {c : γ} (h : b2 x f = some c) : ∃ a b, x = some (a, b) ∧ f a b = some c := by
  cases x with
  | none => cases h
  | some p => exact ⟨p.1, p.2, rfl, h⟩
noncomputable def asD : R → Option D
  | .val d => some d
  | _ => none
theorem asD_inv {r : R} {d : D} (h : asD r = some d) : r = .val d := by
  cases r with
  | val e => cases h; rfl
  | _ => exact (nomatch h)
noncomputable def bV (x : Option (R × Sto)) (f : D → Sto → Option γ) : Option γ := b2 x fun r σ => b1 (asD r) fun d => f d σ
theorem bV_inv {x : Option (R × Sto)} {f : D → Sto → Option γ} {c : γ} (h : bV x f = some c) : ∃ d σ, x = some (.val d, σ) ∧ f d σ = some c := by
  obtain ⟨r, σ, h1, h2⟩ := b2_inv h
  obtain ⟨d, h3, h4⟩ := b1_inv h2
  cases asD_inv h3
  exact ⟨d, σ, h1, h4⟩
noncomputable def gd (c : Bool) (x : Option γ) : Option γ := match c with
  | true => x
  | false => none
theorem gd_inv {c : Bool} {x : Option γ} {a : γ} (h : gd c x = some a) : c = true ∧ x = some a := by
  cases c with
  | true => exact ⟨rfl, h⟩
  | false => cases h
end
noncomputable def asLoc : R → Option Nat
  | .loc l => some l
  | _ => none
theorem asLoc_inv {r : R} {l : Nat} (h : asLoc r = some l) : r = .loc l := by
  cases r <;> cases h; rfl
noncomputable def asTup : D → Option (List D)
  | .tup xs => some xs
  | _ => none
theorem asTup_inv {d : D} {xs : List D} (h : asTup d = some xs) : d = .tup xs := by
  cases d <;> cases h; rfl
noncomputable def asBool : D → Option Bool
  | .bool b => some b
  | _ => none
theorem asBool_inv {d : D} {b : Bool} (h : asBool d = some b) : d = .bool b := by
  cases d <;> cases h; rfl
noncomputable def natD : R → Option Nat
  | .val (.int (.ofNat m)) => some m
  | _ => none
theorem natD_inv {r : R} {m : Nat} (h : natD r = some m) : r = .val (.int (.ofNat m)) := by
  cases r with
  | val d => cases d with
    | int i => cases i <;> cases h; rfl
    | _ => cases h
  | _ => cases h
theorem nos {α : Type} {q : α} {P : Prop} (h : none = some q) : P := nomatch h
noncomputable def asN (e : Expr) : Option (Str × Pos) := by
  cases e
  case Name x p => exact some (x, p)
  all_goals exact none
theorem asN_inv {e : Expr} {q : Str × Pos} (h : asN e = some q) : e = .Name q.1 q.2 := by
  cases e
  case Name x p => cases h; exact rfl
  all_goals exact nos h
noncomputable def asT (e : Expr) : Option (List Expr) := by
  cases e
  case Tuple es k p => exact some es
  all_goals exact none
theorem asT_inv {e : Expr} {q : List Expr} (h : asT e = some q) : ∃ k p, e = .Tuple q k p := by
  cases e
  case Tuple es k p => cases h; exact ⟨_, _, rfl⟩
  all_goals exact nos h
noncomputable def asC (e : Expr) : Option (Const) := by
  cases e
  case Constant c k p => exact some c
  all_goals exact none
theorem asC_inv {e : Expr} {q : Const} (h : asC e = some q) : ∃ k p, e = .Constant q k p := by
  cases e
  case Constant c k p => cases h; exact ⟨_, _, rfl⟩
  all_goals exact nos h
noncomputable def natC : Const → Option Nat
  | .int (.ofNat i) => some i
  | _ => none
theorem natC_inv {c : Const} {i : Nat} (h : natC c = some i) : c = .int (.ofNat i) := by
  cases c with
  | int z => cases z with
    | ofNat n => cases h; rfl
    | negSucc n => exact nos h
  | _ => exact nos h
noncomputable def asS (e : Expr) : Option (Option Expr × Option Expr × Option Expr) := by
  cases e
  case Slice a b c p => exact some (a, b, c)
  all_goals exact none
theorem asS_inv {e : Expr} {q : Option Expr × Option Expr × Option Expr} (h : asS e = some q) : ∃ p, e = .Slice q.1 q.2.1 q.2.2 p := by
  cases e
  case Slice a b c p => cases h; exact ⟨_, rfl⟩
  all_goals exact nos h
noncomputable def asA (e : Expr) : Option (Expr × Str × Pos) := by
  cases e
  case Attribute a m p => exact some (a, m, p)
  all_goals exact none
theorem asA_inv {e : Expr} {q : Expr × Str × Pos} (h : asA e = some q) : e = .Attribute q.1 q.2.1 q.2.2 := by
  cases e
  case Attribute a m p => cases h; exact rfl
  all_goals exact nos h
noncomputable def asCall (e : Expr) : Option (Expr × List Expr × List Keyword × Pos) := by
  cases e
  case Call f as ks p => exact some (f, as, ks, p)
  all_goals exact none
theorem asCall_inv {e : Expr} {q : Expr × List Expr × List Keyword × Pos} (h : asCall e = some q) : e = .Call q.1 q.2.1 q.2.2.1 q.2.2.2 := by
  cases e
  case Call f as ks p => cases h; exact rfl
  all_goals exact nos h
noncomputable def asSub (e : Expr) : Option (Expr × Expr) := by
  cases e
  case Subscript b i p => exact some (b, i)
  all_goals exact none
theorem asSub_inv {e : Expr} {q : Expr × Expr} (h : asSub e = some q) : ∃ p, e = .Subscript q.1 q.2 p := by
  cases e
  case Subscript b i p => cases h; exact ⟨_, rfl⟩
  all_goals exact nos h
noncomputable def asBin (e : Expr) : Option (Expr × Operator × Expr) := by
  cases e
  case BinOp a op b p => exact some (a, op, b)
  all_goals exact none
theorem asBin_inv {e : Expr} {q : Expr × Operator × Expr} (h : asBin e = some q) : ∃ p, e = .BinOp q.1 q.2.1 q.2.2 p := by
  cases e
  case BinOp a op b p => cases h; exact ⟨_, rfl⟩
  all_goals exact nos h
noncomputable def asUn (e : Expr) : Option (UnaryOp × Expr) := by
  cases e
  case UnaryOp op x p => exact some (op, x)
  all_goals exact none
theorem asUn_inv {e : Expr} {q : UnaryOp × Expr} (h : asUn e = some q) : ∃ p, e = .UnaryOp q.1 q.2 p := by
  cases e
  case UnaryOp op x p => cases h; exact ⟨_, rfl⟩
  all_goals exact nos h
noncomputable def noKs {γ : Type} (ks : List Keyword) (x : Option γ) : Option γ := match ks with
  | [] => x
  | _ :: _ => none
theorem noKs_inv {γ : Type} {ks : List Keyword} {x : Option γ} {a : γ} (h : noKs ks x = some a) : ks = [] ∧ x = some a := by
  cases ks with
  | nil => exact ⟨rfl, h⟩
  | cons _ _ => cases h
noncomputable def one {α γ : Type} (l : List α) (f : α → Option γ) : Option γ := match l with
  | [] => none
  | x :: r => match r with
    | [] => f x
    | _ :: _ => none
theorem one_inv {α γ : Type} {l : List α} {f : α → Option γ} {a : γ} (h : one l f = some a) : ∃ x, l = [x] ∧ f x = some a := by
  cases l with
  | nil => cases h
  | cons x r => cases r with
    | nil => exact ⟨x, rfl, h⟩
    | cons _ _ => cases h
noncomputable def two {α γ : Type} (l : List α) (f : α → α → Option γ) : Option γ := match l with
  | [] => none
  | x :: r => one r (f x)
theorem two_inv {α γ : Type} {l : List α} {f : α → α → Option γ} {a : γ} (h : two l f = some a) : ∃ x y, l = [x, y] ∧ f x y = some a := by
  cases l with
  | nil => cases h
  | cons x r =>
    obtain ⟨y, rfl, h⟩ := one_inv h
    exact ⟨x, y, rfl, h⟩

structure Ev where
  e : Names → Loc → Sto → Expr → Option (R × Sto)
  t : Names → Loc → Sto → Expr → Option (Bool × Sto)

section
variable (C : Orc) (G : Str → Option D)

noncomputable def isStarE (e : Expr) : Bool := by
  cases e
  case Starred => exact true
  all_goals exact false
noncomputable def notSet (e : Expr) : Bool := by
  cases e
  case Set => exact false
  all_goals exact true

noncomputable def evals (v : Ev) (sc : Names) (ρ : Loc) : Sto → List Expr → Option (List R × Sto)
  | σ, [] => some ([], σ)
  | σ, e :: es => gd (!isStarE e) (b2 (v.e sc ρ σ e) fun r σ1 => b2 (evals v sc ρ σ1 es) fun rs σ2 => some (r :: rs, σ2))

noncomputable def vals : List R → Option (List D)
  | [] => some []
  | .val d :: rs => match vals rs with
    | some ds => some (d :: ds)
    | none => none
  | .loc _ :: _ => none
  | .dct .. :: _ => none

noncomputable def constD : Const → Option D
  | .none => some .none
  | .bool b => some (.bool b)
  | .int i => some (.int i)
  | .str s => some (.str s)
  | .bytes b => some (.bytes b.toArray)
  | _ => none

noncomputable def binD (op : Operator) : D → D → Option D
  | .int a, .int b => match op with
    | .Add => some (.int (a + b))
    | .Sub => some (.int (a - b))
    | .Mult => if a.natAbs < 18446744073709551616 ∧ b.natAbs < 18446744073709551616 then some (.int (a * b)) else none
    | .FloorDiv => if 0 < b ∧ b < 1073741824 then some (.int (Int.fdiv a b)) else none
    | .Mod => if 0 < b ∧ b < 1073741824 then some (.int (Int.fmod a b)) else none
    | .Pow => if 0 ≤ b ∧ b ≤ 64 ∧ 0 ≤ a ∧ a ≤ 64 then some (.int (a ^ b.toNat)) else none
    | _ => none
  | .lst xs, .lst ys => match op with
    | .Add => if xs.length + ys.length ≤ bnd then some (.lst (xs ++ ys)) else none
    | _ => none
  | _, _ => none

noncomputable def lookK {α : Type} (x : Str) : List Str → List α → Option α
  | k :: ks, v :: vs => if x == k then some v else lookK x ks vs
  | _, _ => none

noncomputable def inD (d : D) : List D → Option Bool
  | [] => some false
  | x :: xs => match x, d with
    | .str a, .str b => match inD d xs with
      | some r => some (decide (a = b) || r)
      | none => none
    | _, _ => none

noncomputable def cmpR (σ : Sto) (op : CmpOp) (a b : R) : Option Bool := match op with
  | .Eq => eqR σ a b
  | .NotEq => match eqR σ a b with
    | some r => some (!r)
    | none => none
  | .In => match a, b with
    | .val d, .val (.tup xs) => inD d xs
    | .val (.str x), .dct ks _ => some (ks.contains x)
    | _, _ => none
  | .Lt => match a, b with
    | .val (.int x), .val (.int y) => some (decide (x < y))
    | _, _ => none
  | .LtE => match a, b with
    | .val (.int x), .val (.int y) => some (decide (x ≤ y))
    | _, _ => none
  | .Gt => match a, b with
    | .val (.int x), .val (.int y) => some (decide (y < x))
    | _, _ => none
  | .GtE => match a, b with
    | .val (.int x), .val (.int y) => some (decide (y ≤ x))
    | _, _ => none
  | _ => none

noncomputable def idxD (xs : List D) (i : Int) : Option D := if 0 ≤ i ∧ i < 2 ^ 63 then xs[i.toNat]? else none

noncomputable def idxR (σ : Sto) : R → R → Option D
  | .val (.tup xs), .val (.int i) => idxD xs i
  | .val (.lst xs), .val (.int i) => idxD xs i
  | .dct ks vs, .val (.str x) => lookK x ks vs
  | .loc l, .val (.int i) => match σ[l]? with
    | some e => idxD e.rev.reverse i
    | none => none
  | _, _ => none

noncomputable def itemsOf : R → Option (List D)
  | .val (.tup xs) => some xs
  | .val (.lst xs) => some xs
  | .val (.rng n) => some ((List.range n).map fun i => .int (i : Nat))
  | _ => none

/-- a built-in, called by its name -/
noncomputable def bcall (σ : Sto) (f : Str) (as : List R) : Option D :=
  if f == "len" then (match as with
    | [.val (.tup xs)] => some (.int xs.length)
    | [.val (.lst xs)] => some (.int xs.length)
    | [.loc l] => match σ[l]? with
      | some e => some (.int e.rev.length)
      | none => none
    | _ => none)
  else if f == "tuple" then (match as with
    | [.val (.lst xs)] => some (.tup xs)
    | _ => none)
  else if f == "list" then (match as with
    | [.val (.tup xs)] => some (.lst xs)
    | _ => none)
  else if f == "all" then (match as with
    | [.val (.lst xs)] => if xs.all (fun d => match d with | .bool _ => true | _ => false) then some (.bool (xs.all fun d => match d with | .bool b => b | _ => false)) else none
    | _ => none)
  else if f == "max" then (match as with
    | [.val (.int a), .val (.int b)] => some (.int (max a b))
    | _ => none)
  else if f == "min" then (match as with
    | [.val (.int a), .val (.int b)] => some (.int (min a b))
    | _ => none)
  else if f == "range" then (match as with
    | [.val (.int a)] => if 0 ≤ a ∧ a ≤ bnd then some (.rng a.toNat) else none
    | _ => none)
  else if f == "int" then (match as with
    | [.val (.bool b)] => some (.int (if b then 1 else 0))
    | _ => none)
  else none

noncomputable def bnames : List Str := ["len", "tuple", "list", "all", "max", "min", "range", "int"]

/-- the names that a comprehension sees -/
noncomputable def compNames (sc : Names) (scope : Scope) : Names := scope.names.map fun (n, k) => if (k == .free && sc.lookup n == some .cell) then (n, .cell) else (n, k)

noncomputable def compLoc (sc' : Names) (ρ : Loc) : Loc := ρ.filter fun p => sc'.lookup p.1 == some .cell

noncomputable def pairTgt (sc' : Names) (ρ : Loc) (ts : List Expr) (d : D) : Option Loc := two ts fun t1 t2 => b1 (asN t1) fun x => b1 (asN t2) fun y => b1 (asTup d) fun ds => two ds fun a b =>
  gd (sc'.lookup x.1 == some .local && sc'.lookup y.1 == some .local) (some (setL y.1 (.val b) (setL x.1 (.val a) ρ)))
noncomputable def bindTgt (sc' : Names) (ρ : Loc) (t : Expr) (d : D) : Option Loc := match asN t with
  | some x => gd (sc'.lookup x.1 == some .local) (some (setL x.1 (.val d) ρ))
  | none => b1 (asT t) fun ts => pairTgt sc' ρ ts d
theorem bindTgt_inv {sc' : Names} {ρ ρ1 : Loc} {t : Expr} {d : D} (h : bindTgt sc' ρ t d = some ρ1) :
    (∃ x p, t = .Name x p ∧ sc'.lookup x = some .local ∧ ρ1 = setL x (.val d) ρ) ∨
    (∃ x p y p' k p'' a b, t = .Tuple [.Name x p, .Name y p'] k p'' ∧ d = .tup [a, b] ∧ sc'.lookup x = some .local ∧ sc'.lookup y = some .local ∧ ρ1 = setL y (.val b) (setL x (.val a) ρ)) := by
  unfold bindTgt at h
  cases hx : asN t with
  | some x =>
    rw [hx] at h
    obtain ⟨h1, h2⟩ := gd_inv h
    cases h2
    exact .inl ⟨x.1, x.2, asN_inv hx, beq_iff_eq.mp h1, rfl⟩
  | none =>
    rw [hx] at h
    obtain ⟨ts, h1, h⟩ := b1_inv h
    obtain ⟨t1, t2, rfl, h⟩ := two_inv h
    obtain ⟨x, h2, h⟩ := b1_inv h
    obtain ⟨y, h3, h⟩ := b1_inv h
    obtain ⟨ds, h4, h⟩ := b1_inv h
    obtain ⟨a, b, rfl, h⟩ := two_inv h
    obtain ⟨h5, h⟩ := gd_inv h
    cases h
    rw [Bool.and_eq_true, beq_iff_eq, beq_iff_eq] at h5
    obtain ⟨k, p, rfl⟩ := asT_inv h1
    rw [asN_inv h2, asN_inv h3]
    exact .inr ⟨_, _, _, _, _, _, a, b, rfl, asTup_inv h4, h5.1, h5.2, rfl⟩

noncomputable def testsRun (v : Ev) (sc' : Names) (ρ : Loc) : List Expr → Sto → Option (Bool × Sto)
  | [], σ => some (true, σ)
  | [c], σ => v.t sc' ρ σ c
  | _, _ => none

noncomputable def compRun (v : Ev) (sc' : Names) (tgt elt : Expr) (ifs : List Expr) (ρ : Loc) : List D → Sto → List D → Option (List D × Sto)
  | [], σ, acc => some (acc, σ)
  | d :: ds, σ, acc => match bindTgt sc' ρ tgt d with
    | none => none
    | some ρ1 => match testsRun v sc' ρ1 ifs σ with
      | some (true, σ1) => match v.e sc' ρ1 σ1 elt with
        | some (.val y, σ2) => compRun v sc' tgt elt ifs ρ ds σ2 (acc ++ [y])
        | _ => none
      | some (false, σ1) => compRun v sc' tgt elt ifs ρ ds σ1 acc
      | none => none

/-- x[len(x) - z:] and x[:len(x) - z], x a changed list, z a name -/
noncomputable def lenLess (x : Str) (lo : Expr) : Option Str := b1 (asBin lo) fun b => b1 (asCall b.1) fun c => one c.2.1 fun y => noKs c.2.2.1 (b1 (asN c.1) fun f => b1 (asN y) fun y => b1 (asN b.2.2) fun z =>
  gd (f.1 == "len" && y.1 == x && b.2.1 == .Sub) (some z.1))
theorem lenLess_spec {x z : Str} {lo : Expr} (q : lenLess x lo = some z) : ∃ np1 np2 np3 cp bp, lo = .BinOp (.Call (.Name "len" np1) [.Name x np2] [] cp) .Sub (.Name z np3) bp := by
  obtain ⟨⟨l, op, r⟩, h1, q⟩ := b1_inv q
  obtain ⟨⟨f, as, ks, cp⟩, h2, q⟩ := b1_inv q
  obtain ⟨y, h3, q⟩ := one_inv q
  obtain ⟨h4, q⟩ := noKs_inv q
  obtain ⟨⟨f', p1⟩, h5, q⟩ := b1_inv q
  obtain ⟨⟨y', p2⟩, h6, q⟩ := b1_inv q
  obtain ⟨⟨z', p3⟩, h7, q⟩ := b1_inv q
  obtain ⟨h8, q⟩ := gd_inv q
  cases q
  rw [Bool.and_eq_true, Bool.and_eq_true, beq_iff_eq, beq_iff_eq, beq_iff_eq] at h8
  obtain ⟨p, rfl⟩ := asBin_inv h1
  dsimp only at h2 h3 h4 h5 h6 h7 h8
  obtain ⟨⟨rfl, rfl⟩, rfl⟩ := h8
  rw [asCall_inv h2, asN_inv h7]
  dsimp only
  rw [h3, h4, asN_inv h5, asN_inv h6]
  exact ⟨_, _, _, _, _, rfl⟩

/-- x[:len(x) - e] -/
noncomputable def truncOf (x : Str) (e : Expr) : Option Str := b1 (asSub e) fun b => b1 (asN b.1) fun y => b1 (asS b.2) fun s => gd (x == y.1 && s.1.isNone && s.2.2.isNone) (b1 s.2.1 fun hi => lenLess x hi)
theorem truncOf_inv {x z : Str} {e : Expr} (q : truncOf x e = some z) : ∃ yp hi sp pp, e = .Subscript (.Name x yp) (.Slice none (some hi) none sp) pp ∧ lenLess x hi = some z := by
  obtain ⟨⟨b, i⟩, h1, q⟩ := b1_inv q
  obtain ⟨⟨y, p⟩, h2, q⟩ := b1_inv q
  obtain ⟨⟨lo, up, st⟩, h3, q⟩ := b1_inv q
  obtain ⟨h4, q⟩ := gd_inv q
  obtain ⟨hi, h5, q9⟩ := b1_inv q
  rw [Bool.and_eq_true, Bool.and_eq_true, beq_iff_eq, Option.isNone_iff_eq_none, Option.isNone_iff_eq_none] at h4
  dsimp only at h2 h3 h4 h5 q9
  obtain ⟨⟨rfl, rfl⟩, rfl⟩ := h4
  subst h5
  obtain ⟨pp, rfl⟩ := asSub_inv h1
  obtain ⟨sp, h6⟩ := asS_inv h3
  dsimp only at h6 ⊢
  rw [asN_inv h2, h6]
  exact ⟨_, hi, _, _, rfl, q9⟩

noncomputable def isM1 (e : Expr) : Bool := (b1 (asUn e) fun u => b1 (asC u.2) fun c => gd (u.1 == .USub) (b1 (natC c) fun i => gd (i == 1) (some ()))).isSome
theorem isM1_inv {e : Expr} (h : isM1 e = true) : ∃ k p p', e = .UnaryOp .USub (.Constant (.int 1) k p) p' := by
  obtain ⟨u, q⟩ := Option.isSome_iff_exists.mp h
  obtain ⟨⟨op, x⟩, h1, q⟩ := b1_inv q
  obtain ⟨c, h2, q⟩ := b1_inv q
  obtain ⟨h3, q⟩ := gd_inv q
  obtain ⟨i, h4, q⟩ := b1_inv q
  obtain ⟨h5, q⟩ := gd_inv q
  dsimp only at h2 h3
  obtain ⟨p', rfl⟩ := asUn_inv h1
  obtain ⟨k, p, rfl⟩ := asC_inv h2
  obtain rfl := natC_inv h4
  obtain rfl := beq_iff_eq.mp h5
  obtain rfl := beq_iff_eq.mp h3
  exact ⟨k, p, p', rfl⟩

noncomputable def okLen (sc : Names) (x z : Str) : Bool := !isDbg x && !isDbg z && sc.lookup ("len" : Str) == some .globalImplicit

noncomputable def locOf (ρ : Loc) (x : Str) : Option Nat := b1 (ρ.lookup x) asLoc
theorem locOf_inv {ρ : Loc} {x : Str} {l : Nat} (h : locOf ρ x = some l) : ρ.lookup x = some (.loc l) := by
  obtain ⟨r, h1, h2⟩ := b1_inv h
  rw [h1, asLoc_inv h2]
noncomputable def natOf (ρ : Loc) (x : Str) : Option Nat := b1 (ρ.lookup x) natD
theorem natOf_inv {ρ : Loc} {x : Str} {m : Nat} (h : natOf ρ x = some m) : ρ.lookup x = some (.val (.int (m : Nat))) := by
  obtain ⟨r, h1, h2⟩ := b1_inv h
  rw [h1, natD_inv h2]; rfl

noncomputable def dropD (a : Nat) : D → Option D
  | .tup xs => gd (decide (1 ≤ a ∧ a ≤ xs.length)) (some (.tup (xs.drop a)))
  | .lst xs => some (.lst (xs.drop a))
  | _ => none
theorem dropD_inv {a : Nat} {d e : D} (h : dropD a d = some e) : (∃ xs, d = .tup xs ∧ e = .tup (xs.drop a) ∧ 1 ≤ a ∧ a ≤ xs.length) ∨ ∃ xs, d = .lst xs ∧ e = .lst (xs.drop a) := by
  cases d with
  | tup xs =>
    obtain ⟨h1, h2⟩ := gd_inv h
    cases h2
    exact .inl ⟨xs, rfl, rfl, of_decide_eq_true h1⟩
  | lst xs => cases h; exact .inr ⟨xs, rfl, rfl⟩
  | _ => cases h
noncomputable def sliceFrom (v : Ev) (sc : Names) (ρ : Loc) (σ : Sto) (b : Expr) (c : Const) : Option (R × Sto) := b1 (natC c) fun a => bV (v.e sc ρ σ b) fun d σ1 => b1 (dropD a d) fun e => some (.val e, σ1)
noncomputable def sliceTail (sc : Names) (ρ : Loc) (σ : Sto) (b lo : Expr) : Option (R × Sto) := b1 (asN b) fun x => b1 (lenLess x.1 lo) fun z => b1 (locOf ρ x.1) fun l => b1 (natOf ρ z) fun m => b1 (σ[l]?) fun en =>
  gd (decide ((en.rev.take m).length = m) && okLen sc x.1 z) (some (.val (.lst (en.rev.take m).reverse), σ))
noncomputable def sliceRev (v : Ev) (sc : Names) (ρ : Loc) (σ : Sto) (b m : Expr) : Option (R × Sto) := gd (isM1 m) (bV (v.e sc ρ σ b) fun d σ1 => b1 (asTup d) fun xs => some (.val (.tup xs.reverse), σ1))
noncomputable def sliceE (v : Ev) (sc : Names) (ρ : Loc) (σ : Sto) (b : Expr) (q : Option Expr × Option Expr × Option Expr) : Option (R × Sto) := gd q.2.1.isNone (match q.1, q.2.2 with
  | some l, none => (match asC l with
    | some c => sliceFrom v sc ρ σ b c
    | none => sliceTail sc ρ σ b l)
  | none, some m => sliceRev v sc ρ σ b m
  | _, _ => none)

noncomputable def strC : Const → Option Str
  | .str k => some k
  | _ => none
theorem strC_inv {c : Const} {k : Str} (h : strC c = some k) : c = .str k := by
  cases c with
  | str x => cases h; rfl
  | _ => exact nos h
noncomputable def keysOf : List (Option Expr) → Option (List Str)
  | [] => some []
  | o :: r => b1 o fun e => b1 (asC e) fun c => b1 (strC c) fun k => b1 (keysOf r) fun ks => some (k :: ks)

noncomputable def nodupS : List Str → Bool
  | [] => true
  | x :: xs => !xs.contains x && nodupS xs
noncomputable def okKeys (kk : List Str) (n : Nat) : Bool := kk.length == n && !kk.isEmpty && decide (n ≤ 15) && nodupS kk

noncomputable def okScope (sc : Names) (scope : Scope) : Bool :=
  scope.kind == .function && scope.names.all fun p => p.2 != .cell && (p.2 != .local || scope.names.lookup p.1 == some .local) && (p.2 != .free || sc.lookup p.1 == some .cell)

noncomputable def nameE (sc : Names) (ρ : Loc) (σ : Sto) (x : Str) : Option (R × Sto) := gd (!isDbg x) (match ρ.lookup x with
  | some r => some (r, σ)
  | none => gd (sc.lookup x == some .globalImplicit) (b1 (G x) fun d => some (.val d, σ)))
noncomputable def seqE (f : List D → D) (y : Option (List R × Sto)) : Option (R × Sto) := b2 y fun rs σ1 => b1 (vals rs) fun ds => gd (decide (ds.length ≤ bnd)) (some (.val (f ds), σ1))
noncomputable def andE (v : Ev) (sc : Names) (ρ : Loc) (σ : Sto) (op : BoolOp) (es : List Expr) : Option (R × Sto) := gd (op == .And) (two es fun a b => bV (v.e sc ρ σ a) fun d σ1 => b1 (asBool d) fun x => if x then v.e sc ρ σ1 b else some (.val (.bool x), σ1))
noncomputable def binE (v : Ev) (sc : Names) (ρ : Loc) (σ : Sto) (l : Expr) (op : Operator) (r : Expr) : Option (R × Sto) := bV (v.e sc ρ σ l) fun a σ1 => bV (v.e sc ρ σ1 r) fun b σ2 => b1 (binD op a b) fun d => some (.val d, σ2)
noncomputable def ifE (v : Ev) (sc : Names) (ρ : Loc) (σ : Sto) (t b o : Expr) : Option (R × Sto) := b2 (v.t sc ρ σ t) fun x σ1 => v.e sc ρ σ1 (if x then b else o)
noncomputable def cmp1 (v : Ev) (sc : Names) (ρ : Loc) (σ : Sto) (l : Expr) (op : CmpOp) (r : Expr) : Option (Bool × Sto) := gd (!behindInMarks op r) (b2 (v.e sc ρ σ l) fun a σ1 => b2 (v.e sc ρ σ1 r) fun b σ2 => b1 (cmpR σ2 op a b) fun x => some (x, σ2))
noncomputable def cmpE (v : Ev) (sc : Names) (ρ : Loc) (σ : Sto) (l : Expr) (ops : List CmpOp) (rs : List Expr) : Option (R × Sto) := one ops fun op => one rs fun r => b2 (cmp1 v sc ρ σ l op r) fun x σ2 => some (.val (.bool x), σ2)
noncomputable def subE (v : Ev) (sc : Names) (ρ : Loc) (σ : Sto) (b i : Expr) : Option (R × Sto) := match asS i with
  | some q => sliceE v sc ρ σ b q
  | none => b2 (v.e sc ρ σ b) fun x σ1 => b2 (v.e sc ρ σ1 i) fun k σ2 => b1 (idxR σ2 x k) fun d => some (.val d, σ2)
noncomputable def nmCall (v : Ev) (sc : Names) (ρ : Loc) (σ : Sto) (f : Str) (as : List Expr) : Option (R × Sto) := gd (!(isDbg f || (ρ.lookup f).isSome)) (gd (sc.lookup f == some .globalImplicit) (b2 (evals v sc ρ σ as) fun rs σ1 =>
  match bnames.contains f with
  | true => b1 (bcall σ1 f rs) fun d => some (.val d, σ1)
  | false => C f rs σ1))
noncomputable def popped (l : Nat) (σ : Sto) (en : Ent) : Option (R × Sto) := match en.rev with
  | [] => none
  | d :: rev => some (.val d, σ.set l ⟨en.g, rev⟩)
noncomputable def popE (ρ : Loc) (σ : Sto) (o : Expr) (m : Str) (ap : Pos) (as : List Expr) (pp : Pos) : Option (R × Sto) := b1 (asN o) fun x => gd (m == "pop" && !isDbg x.1 && ap.endLine == pp.line && as.isEmpty) (b1 (locOf ρ x.1) fun l => b1 (σ[l]?) (popped l σ))
noncomputable def callE (v : Ev) (sc : Names) (ρ : Loc) (σ : Sto) (f : Expr) (as : List Expr) (pp : Pos) : Option (R × Sto) := match asN f with
  | some x => nmCall C v sc ρ σ x.1 as
  | none => b1 (asA f) fun a => popE ρ σ a.1 a.2.1 a.2.2 as pp
noncomputable def compE (v : Ev) (sc : Names) (ρ : Loc) (σ : Sto) (elt : Expr) (g : Comprehension) (scope : Scope) : Option (R × Sto) := gd (okScope sc scope && notSet g.iter && g.is_async == 0) (b2 (v.e sc ρ σ g.iter) fun r σ1 => b1 (itemsOf r) fun ds =>
  b2 (compRun v (compNames sc scope) g.target elt g.ifs (compLoc (compNames sc scope) ρ) ds σ1 []) fun ys σ2 => some (.val (.lst ys), σ2))
noncomputable def dictE (ks : List (Option Expr)) (y : Option (List R × Sto)) : Option (R × Sto) := b1 (keysOf ks) fun kk => b2 y fun rs σ1 => b1 (vals rs) fun ds => gd (okKeys kk ds.length) (some (.dct kk ds, σ1))

noncomputable def stepE (v : Ev) (sc : Names) (ρ : Loc) (σ : Sto) (e : Expr) : Option (R × Sto) := by
  cases e
  case Constant c _ _ => exact b1 (constD c) fun d => some (.val d, σ)
  case Name x _ => exact nameE G sc ρ σ x
  case Tuple es _ _ => exact seqE .tup (evals v sc ρ σ es)
  case List es _ => exact seqE .lst (evals v sc ρ σ es)
  case BoolOp op es _ => exact andE v sc ρ σ op es
  case BinOp l op r _ => exact binE v sc ρ σ l op r
  case IfExp t b o _ => exact ifE v sc ρ σ t b o
  case Compare l ops rs _ => exact cmpE v sc ρ σ l ops rs
  case Subscript b i _ => exact subE v sc ρ σ b i
  case Call f as ks pp => exact noKs ks (callE C v sc ρ σ f as pp)
  case ListComp elt gs scope _ => exact one gs fun g => compE v sc ρ σ elt g scope
  case Dict ks vs _ => exact dictE ks (evals v sc ρ σ vs)
  all_goals exact none

noncomputable def and2T (v : Ev) (sc : Names) (ρ : Loc) (σ : Sto) (a b : Expr) : Option (Bool × Sto) := b2 (v.t sc ρ σ a) fun x σ1 => match x with
  | true => v.t sc ρ σ1 b
  | false => some (false, σ1)
noncomputable def and3T (v : Ev) (sc : Names) (ρ : Loc) (σ : Sto) (a b c : Expr) : Option (Bool × Sto) := b2 (v.t sc ρ σ a) fun x σ1 => match x with
  | true => and2T v sc ρ σ1 b c
  | false => some (false, σ1)
noncomputable def andT (v : Ev) (sc : Names) (ρ : Loc) (σ : Sto) (es : List Expr) : Option (Bool × Sto) := match es with
  | [] => none
  | a :: r => match r with
    | [] => none
    | b :: r' => match r' with
      | [] => and2T v sc ρ σ a b
      | c :: r'' => gd r''.isEmpty (and3T v sc ρ σ a b c)
noncomputable def orT (v : Ev) (sc : Names) (ρ : Loc) (σ : Sto) (es : List Expr) : Option (Bool × Sto) := two es fun a b => b2 (v.t sc ρ σ a) fun x σ1 => match x with
  | true => some (true, σ1)
  | false => v.t sc ρ σ1 b
noncomputable def cmp2 (v : Ev) (sc : Names) (ρ : Loc) (σ : Sto) (l : Expr) (op op' : CmpOp) (r r' : Expr) : Option (Bool × Sto) := gd (!behindInMarks op' r') (b2 (v.e sc ρ σ l) fun a σ1 => b2 (v.e sc ρ σ1 r) fun b σ2 => b1 (cmpR σ2 op a b) fun x => match x with
  | true => b2 (v.e sc ρ σ2 r') fun c σ3 => b1 (cmpR σ3 op' b c) fun y => some (y, σ3)
  | false => some (false, σ2))
noncomputable def cmpT (v : Ev) (sc : Names) (ρ : Loc) (σ : Sto) (l : Expr) (ops : List CmpOp) (rs : List Expr) : Option (Bool × Sto) := match ops with
  | [] => none
  | op :: os => match os with
    | [] => one rs fun r => cmp1 v sc ρ σ l op r
    | op' :: os' => gd os'.isEmpty (two rs fun r r' => cmp2 v sc ρ σ l op op' r r')
noncomputable def boolT (y : Option (R × Sto)) : Option (Bool × Sto) := bV y fun d σ1 => b1 (asBool d) fun b => some (b, σ1)
noncomputable def logT (v : Ev) (sc : Names) (ρ : Loc) (σ : Sto) (op : BoolOp) (es : List Expr) : Option (Bool × Sto) := match op with
  | .And => andT v sc ρ σ es
  | .Or => orT v sc ρ σ es
noncomputable def stepT0 (v : Ev) (sc : Names) (ρ : Loc) (σ : Sto) (y : Option (Bool × Sto)) (e : Expr) : Option (Bool × Sto) := by
  cases e
  case UnaryOp op x _ => exact gd (op == .Not) (b2 (v.t sc ρ σ x) fun b σ1 => some (!b, σ1))
  case BoolOp op es _ => exact logT v sc ρ σ op es
  case IfExp _ _ _ _ => exact none
  case Compare l ops rs _ => exact cmpT v sc ρ σ l ops rs
  all_goals exact y
noncomputable def stepT (v : Ev) (sc : Names) (ρ : Loc) (σ : Sto) (e : Expr) : Option (Bool × Sto) := stepT0 v sc ρ σ (boolT (v.e sc ρ σ e)) e

noncomputable def ev : Nat → Ev
  | 0 => ⟨fun _ _ _ _ => none, fun _ _ _ _ => none⟩
  | n + 1 => ⟨stepE C G (ev n), stepT (ev n)⟩

inductive Fl where
  | next
  | ret (r : R) (fr : Bool)
  deriving Inhabited

abbrev Out := Option (Fl × Loc × Sto)

/-- of the names of a turn, those that stood before it -/
noncomputable def restr (ρ ρ1 : Loc) : Loc := ρ1.filter fun p => (ρ.lookup p.1).isSome

noncomputable def forRun (rec : Loc → Sto → List Stmt → Out) (x : Str) (body : List Stmt) : List D → Loc → Sto → Out
  | [], ρ, σ => some (.next, ρ, σ)
  | d :: ds, ρ, σ => match rec (setL x (.val d) ρ) σ body with
    | some (.next, ρ1, σ1) => forRun rec x body ds (restr ρ ρ1) σ1
    | o => o

noncomputable def whileRun (rec : Loc → Sto → List Stmt → Out) (test : Loc → Sto → Option (Bool × Sto)) (body : List Stmt) : Nat → Loc → Sto → Out
  | 0, _, _ => none
  | w + 1, ρ, σ => match test ρ σ with
    | some (true, σ1) => match rec ρ σ1 body with
      | some (.next, ρ1, σ2) => whileRun rec test body w (restr ρ ρ1) σ2
      | o => o
    | some (false, σ1) => some (.next, ρ, σ1)
    | none => none

/-- no other name holds the changed list -/
noncomputable def alone (x : Str) (l : Nat) (ρ : Loc) : Bool := ρ.all fun p => p.1 == x || (match p.2 with | .loc k => k != l | _ => true)

/-- the list that it gives is new -/
noncomputable def newL (e : Expr) : Bool := by
  cases e
  case List => exact true
  case Subscript b i p => exact (asS i).isSome
  case Call f as ks p => exact (match asN f with
    | some x => x.1 == "_law_box"
    | none => false)
  all_goals exact false

noncomputable def namesOf : List Expr → Option (List Str)
  | [] => some []
  | e :: r => b1 (asN e) fun x => b1 (namesOf r) fun xs => some (x.1 :: xs)

noncomputable def setAll : List Str → List D → Loc → Option Loc
  | [], [], ρ => some ρ
  | x :: xs, d :: ds, ρ => setAll xs ds (setL x (.val d) ρ)
  | _, _, _ => none

noncomputable def isComp (e : Expr) : Bool := by
  cases e
  case ListComp => exact true
  case SetComp => exact true
  case DictComp => exact true
  all_goals exact false

noncomputable def noDct (ρ : Loc) : Bool := ρ.all fun p => match p.2 with | .dct .. => false | _ => true

/-- a comprehension given to a name: its place and its own names -/
noncomputable def compOk (sc : Names) (x : Str) (np : Pos) (ρ : Loc) (e : Expr) : Bool := by
  cases e
  case ListComp elt gs scope pos => exact noDct ρ && sc.lookup x == some .local && np.line == pos.line && !(scope.names.any fun p => p.1 == x && (p.2 == .local || p.2 == .cell))
  case SetComp => exact false
  case DictComp => exact false
  all_goals exact true

noncomputable def okName (sc : Names) (x : Str) : Bool := !isDbg x && (sc.lookup x == some .local || sc.lookup x == some .cell)
noncomputable def isLocal (sc : Names) (x : Str) : Bool := !isDbg x && sc.lookup x == some .local

/-- two names given two values: both are worked out, then they are stored from behind -/
noncomputable def swapOk (mu : List (Str × Nat)) (sc : Names) (x : Str) (p1 : Pos) (y : Str) (p2 : Pos) (e1 e2 : Expr) : Bool :=
  isLocal sc x && isLocal sc y && x != y && p2.line == p1.line && !isStarE e1 && !isStarE e2 && !([e1, e2].all (foldedForSure 8)) && !([e1, e2].all (constantsAlone 8)) && newL e1 && newL e2 && (mu.lookup x).isSome && (mu.lookup y).isSome

/-- a name is given a value: a list that the def changes takes its place in the store -/
noncomputable def assignName (mu : List (Str × Nat)) (b : Nat) (sc : Names) (ρ : Loc) (σ : Sto) (x : Str) (r : D) (fresh : Bool) : Option (Loc × Sto) :=
  match mu.lookup x with
  | none => if okName sc x then some (setL x (.val r) ρ, σ) else none
  | some l => if isLocal sc x && fresh && alone x l ρ then (match r with
      | .lst ds => if ds.length + b ≤ bnd then (if l < σ.length then some (setL x (.loc l) ρ, σ.set l ⟨b, ds.reverse⟩) else if l = σ.length then some (setL x (.loc l) ρ, σ ++ [⟨b, ds.reverse⟩]) else none) else none
      | _ => none) else none

noncomputable def truncS (mu : List (Str × Nat)) (sc : Names) (ρ : Loc) (σ : Sto) (x m : Str) : Out := b1 (locOf ρ x) fun l => b1 (natOf ρ m) fun k => b1 (σ[l]?) fun en =>
  gd (decide ((en.rev.take k).length = k) && (isLocal sc x && alone x l ρ && okLen sc x m && !mu.isEmpty)) (some (.next, ρ, σ.set l ⟨en.g, en.rev.drop k⟩))
noncomputable def nmS (mu : List (Str × Nat)) (bud : Nat) (v : Ev) (sc : Names) (ρ : Loc) (σ : Sto) (x : Str) (np : Pos) (e : Expr) : Out := gd (compOk sc x np ρ e) (match truncOf x e with
  | some m => truncS mu sc ρ σ x m
  | none => bV (v.e sc ρ σ e) fun d σ1 => b2 (assignName mu bud sc ρ σ1 x d (newL e)) fun ρ1 σ2 => some (.next, ρ1, σ2))
noncomputable def swapS (mu : List (Str × Nat)) (bud : Nat) (v : Ev) (sc : Names) (ρ : Loc) (σ : Sto) (ts es : List Expr) : Out := two ts fun t1 t2 => two es fun e1 e2 => b1 (asN t1) fun x => b1 (asN t2) fun y => gd (swapOk mu sc x.1 x.2 y.1 y.2 e1 e2)
  (bV (v.e sc ρ σ e1) fun d1 σ1 => bV (v.e sc ρ σ1 e2) fun d2 σ2 => b2 (assignName mu bud sc ρ σ2 y.1 d2 true) fun ρ1 σ3 => b2 (assignName mu bud sc ρ1 σ3 x.1 d1 true) fun ρ2 σ4 => some (.next, ρ2, σ4))
noncomputable def unpS (mu : List (Str × Nat)) (v : Ev) (sc : Names) (ρ : Loc) (σ : Sto) (ts : List Expr) (e : Expr) : Out := b1 (namesOf ts) fun xs => bV (v.e sc ρ σ e) fun d σ1 => b1 (asTup d) fun ds => gd (xs.all (isLocal sc) && xs.all (fun x => (mu.lookup x).isNone)) (b1 (setAll xs ds ρ) fun ρ1 => some (.next, ρ1, σ1))
noncomputable def itemS (v : Ev) (sc : Names) (ρ : Loc) (σ : Sto) (b i e : Expr) : Out := b1 (asN b) fun x => b1 (asC i) fun c => b1 (natC c) fun i => bV (v.e sc ρ σ e) fun d σ1 => b1 (locOf ρ x.1) fun l => b1 (σ1[l]?) fun en =>
  gd (decide (i < en.rev.length ∧ i < 2 ^ 62) && !isDbg x.1) (some (.next, ρ, σ1.set l ⟨en.g, (en.rev.reverse.set i d).reverse⟩))
noncomputable def tupS (mu : List (Str × Nat)) (bud : Nat) (v : Ev) (sc : Names) (ρ : Loc) (σ : Sto) (ts : List Expr) (e : Expr) : Out := match asT e with
  | some es => swapS mu bud v sc ρ σ ts es
  | none => unpS mu v sc ρ σ ts e
noncomputable def asgS (mu : List (Str × Nat)) (bud : Nat) (v : Ev) (sc : Names) (ρ : Loc) (σ : Sto) (t e : Expr) : Out := match asN t with
  | some x => nmS mu bud v sc ρ σ x.1 x.2 e
  | none => match asT t with
    | some ts => tupS mu bud v sc ρ σ ts e
    | none => b1 (asSub t) fun q => itemS v sc ρ σ q.1 q.2 e
noncomputable def pushed (ρ : Loc) (l : Nat) (σ : Sto) (d : D) (en : Ent) : Out := match en.g with
  | 0 => none
  | g + 1 => some (.next, ρ, σ.set l ⟨g, d :: en.rev⟩)
noncomputable def appS (v : Ev) (sc : Names) (ρ : Loc) (σ : Sto) (e : Expr) : Out := b1 (asCall e) fun c => b1 (asA c.1) fun a => b1 (asN a.1) fun x => one c.2.1 fun e => noKs c.2.2.1 (gd (a.2.1 == "append" && !isDbg x.1 && a.2.2.endLine == c.2.2.2.line && !isStarE e)
  (bV (v.e sc ρ σ e) fun d σ1 => b1 (locOf ρ x.1) fun l => b1 (σ1[l]?) (pushed ρ l σ1 d)))
noncomputable def notLoc : R → Bool
  | .loc _ => false
  | _ => true
noncomputable def forS (mu : List (Str × Nat)) (v : Ev) (rec : Loc → Sto → List Stmt → Out) (sc : Names) (ρ : Loc) (σ : Sto) (t it : Expr) (body : List Stmt) : Out := b1 (asN t) fun x => gd (notSet it) (b2 (v.e sc ρ σ it) fun r σ1 => b1 (itemsOf r) fun ds =>
  gd (isLocal sc x.1 && (mu.lookup x.1).isNone) (forRun rec x.1 body ds ρ σ1))
noncomputable def retS (v : Ev) (sc : Names) (ρ : Loc) (σ : Sto) (e : Expr) : Out := b2 (v.e sc ρ σ e) fun r σ1 => gd (notLoc r) (some (.ret r (newL e), ρ, σ1))

noncomputable def ifS (v : Ev) (rec : Loc → Sto → List Stmt → Out) (sc : Names) (ρ : Loc) (σ : Sto) (t : Expr) (b o : List Stmt) : Out := b2 (v.t sc ρ σ t) fun x σ1 => rec ρ σ1 (if x then b else o)
noncomputable def stepS (mu : List (Str × Nat)) (bud : Nat) (W : Nat) (v : Ev) (rec : Loc → Sto → List Stmt → Out) (sc : Names) (ρ : Loc) (σ : Sto) (st : Stmt) : Out := by
  cases st
  case Return e _ => exact b1 e fun e => retS v sc ρ σ e
  case If t b o _ => exact ifS v rec sc ρ σ t b o
  case Assign ts e _ => exact one ts fun t => asgS mu bud v sc ρ σ t e
  case Expr e _ => exact appS v sc ρ σ e
  case For t it body o _ => exact gd o.isEmpty (forS mu v rec sc ρ σ t it body)
  case While t body o _ => exact gd o.isEmpty (whileRun rec (fun ρ σ => v.t sc ρ σ t) body W ρ σ)
  all_goals exact none

noncomputable def xs (mu : List (Str × Nat)) (bud : Nat) (W : Nat) (sc : Names) : Nat → Loc → Sto → List Stmt → Out
  | 0, _, _, _ => none
  | _ + 1, ρ, σ, [] => some (.next, ρ, σ)
  | n + 1, ρ, σ, s :: rest => match stepS mu bud W (ev C G n) (xs mu bud W sc n) sc ρ σ s with
    | some (.next, ρ1, σ1) => xs mu bud W sc n ρ1 σ1 rest
    | o => o

structure Fn where
  params : List Str
  body : List Stmt
  names : Names

/-- a def of the text, called; what comes back is marked where it must be new -/
noncomputable def callF (F : Fn) (mu : List (Str × Nat)) (mustNew : Bool) (as : List R) (σ : Sto) : Option (R × Sto) :=
  if as.length = F.params.length then
    (if mu.isEmpty then (match xs C G [] 900 1000 F.names 60 (F.params.zip as) σ F.body with
      | some (.ret r fr, _, σ') => if !mustNew || fr then some (r, σ') else none
      | some (.next, _, σ') => if !mustNew then some (.val .none, σ') else none
      | none => none)
    else if as.all notLoc && !mustNew then (match xs C G mu 900 1000 F.names 60 (F.params.zip as) [] F.body with
      | some (.ret r _, _, _) => if notLoc r then some (r, σ) else none
      | _ => none) else none)
  else none
end

end Mine

namespace Mine
open PySem PySem.W PyProof.Rows

/-- the changed lists; more that no datum may be -/
structure Mu where
  locs : List Addr
  more : List Addr
noncomputable def Mu.has (μ : Mu) (a : Addr) : Prop := a ∈ μ.locs ∨ a ∈ μ.more

section
mutual
inductive Rep (prog : Program) (w : World) (h : Heap) (μ : Mu) : Value → D → Prop
  | none : Rep prog w h μ .none .none
  | bool (b : Bool) : Rep prog w h μ (.bool b) (.bool b)
  | int (i : Int) (t : Tok) : Rep prog w h μ (.int i t) (.int i)
  | str (x : Str) (t : Tok) : Rep prog w h μ (.str x t) (.str x)
  | bytes (b : Array UInt8) (t : Tok) : Rep prog w h μ (.bytes b t) (.bytes b)
  | tup {a : Addr} {o : Obj} {vs : Array Value} {n : Nat} {xs : List D} : h.get? a = some o → o.cls = .type "tuple" → o.data = .seq vs n → vs.size ≤ sizeLine → RepL prog w h μ vs.toList xs → Rep prog w h μ (.ref a) (.tup xs)
  | lst {a : Addr} {o : Obj} {vs : Array Value} {n : Nat} {xs : List D} : h.get? a = some o → o.cls = .type "list" → o.data = .seq vs n → vs.size ≤ sizeLine → ¬ μ.has a → RepL prog w h μ vs.toList xs → Rep prog w h μ (.ref a) (.lst xs)
  | rng {a : Addr} {n : Nat} {t u v : Tok} : IsRange h a 0 (n : Int) 1 t u v → n ≤ bnd → Rep prog w h μ (.ref a) (.rng n)
inductive RepL (prog : Program) (w : World) (h : Heap) (μ : Mu) : List Value → List D → Prop
  | nil : RepL prog w h μ [] []
  | cons {v : Value} {vs : List Value} {d : D} {ds : List D} : Rep prog w h μ v d → RepL prog w h μ vs ds → RepL prog w h μ (v :: vs) (d :: ds)
end

noncomputable def Keep (μ : Mu) (h h' : Heap) : Prop := ∀ b o, b ∉ μ.locs → h.get? b = some o → h'.get? b = some o
theorem Keep.refl (μ : Mu) (h : Heap) : Keep μ h h := fun _ _ _ e => e
theorem Keep.trans {μ : Mu} {h₁ h₂ h₃ : Heap} (x : Keep μ h₁ h₂) (y : Keep μ h₂ h₃) : Keep μ h₁ h₃ := fun b o hb e => y b o hb (x b o hb e)
theorem Keep.push (μ : Mu) (h : Heap) (o : Obj) : Keep μ h (h.push o) := fun _ _ _ e => Heap.get?_push_of_some _ e
theorem Keep.of {μ : Mu} {h h' : Heap} (k : ∀ b o, h.get? b = some o → h'.get? b = some o) : Keep μ h h' := fun b o _ e => k b o e

/-- at the addresses of μ lie lists -/
noncomputable def Lists (μ : Mu) (h : Heap) : Prop := ∀ a ∈ μ.locs, ∀ o, h.get? a = some o → o.cls = .type "list"
variable {prog : Program} {w : World}
variable {h h' : Heap} {μ μ' : Mu}

theorem Lists.not {a : Addr} {o : Obj} {T : String} (L : Lists μ h) (e : h.get? a = some o) (hc : o.cls = .type T) (hT : T ≠ "list") : a ∉ μ.locs := by
  intro hm
  have := L a hm o e
  rw [hc] at this
  injection this with this
  exact hT this
theorem Lists.notData {a : Addr} {o : Obj} (L : ∀ a ∈ μ.locs, ∀ o, h.get? a = some o → ∃ vs n, o.data = .seq vs n) (e : h.get? a = some o) (hd : ∀ vs n, o.data ≠ .seq vs n) : a ∉ μ.locs := by
  intro hm
  obtain ⟨vs, n, e'⟩ := L a hm o e
  exact hd _ _ e'

mutual
theorem Rep.keep (L : Lists μ h) (k : Keep μ h h') : ∀ {v : Value} {d : D}, Rep prog w h μ v d → Rep prog w h' μ v d
  | _, _, .none => .none
  | _, _, .bool b => .bool b
  | _, _, .int i t => .int i t
  | _, _, .str x t => .str x t
  | _, _, .bytes b t => .bytes b t
  | _, _, .tup e c d z r => .tup (k _ _ (L.not e c (by decide)) e) c d z (RepL.keep L k r)
  | _, _, .lst e c d z m r => .lst (k _ _ (fun q => m (.inl q)) e) c d z m (RepL.keep L k r)
  | _, _, .rng e l => .rng (show IsRange h' _ _ _ _ _ _ _ from k _ _ (L.not e rfl (by decide)) e) l
theorem RepL.keep (L : Lists μ h) (k : Keep μ h h') : ∀ {vs : List Value} {ds : List D}, RepL prog w h μ vs ds → RepL prog w h' μ vs ds
  | _, _, .nil => .nil
  | _, _, .cons a b => .cons (Rep.keep L k a) (RepL.keep L k b)
end

mutual
/-- other changed lists: none of those that it reads -/
theorem Rep.other (k : ∀ b o, ¬ μ.has b → h.get? b = some o → ¬ μ'.has b) : ∀ {v : Value} {d : D}, Rep prog w h μ v d → Rep prog w h μ' v d
  | _, _, .none => .none
  | _, _, .bool b => .bool b
  | _, _, .int i t => .int i t
  | _, _, .str x t => .str x t
  | _, _, .bytes b t => .bytes b t
  | _, _, .tup e c d z r => .tup e c d z (RepL.other k r)
  | _, _, .lst e c d z m r => .lst e c d z (k _ _ m e) (RepL.other k r)
  | _, _, .rng e l => .rng e l
theorem RepL.other (k : ∀ b o, ¬ μ.has b → h.get? b = some o → ¬ μ'.has b) : ∀ {vs : List Value} {ds : List D}, RepL prog w h μ vs ds → RepL prog w h μ' vs ds
  | _, _, .nil => .nil
  | _, _, .cons a b => .cons (Rep.other k a) (RepL.other k b)
end

mutual
/-- an empty dict is filled -/
theorem Rep.fill {a : Addr} (hD : h.MapOf (strKind prog w) a fun _ => none) (k : ∀ b o, b ≠ a → h.get? b = some o → h'.get? b = some o) : ∀ {v : Value} {d : D}, Rep prog w h μ v d → Rep prog w h' μ v d
  | _, _, .none => .none
  | _, _, .bool b => .bool b
  | _, _, .int i t => .int i t
  | _, _, .str x t => .str x t
  | _, _, .bytes b t => .bytes b t
  | _, _, .tup e c d z r => .tup (k _ _ (fun q => by
      subst q
      obtain ⟨o, es, ep, ho, hx, _⟩ := hD
      rw [e] at ho; cases ho
      rw [hx.1] at c; injection c with c; exact absurd c (by decide)) e) c d z (RepL.fill hD k r)
  | _, _, .lst e c d z m r => .lst (k _ _ (fun q => by
      subst q
      obtain ⟨o, es, ep, ho, hx, _⟩ := hD
      rw [e] at ho; cases ho
      rw [hx.1] at c; injection c with c; exact absurd c (by decide)) e) c d z m (RepL.fill hD k r)
  | _, _, .rng e l => .rng (show IsRange h' _ _ _ _ _ _ _ from k _ _ (fun q => by
      subst q
      obtain ⟨o, es, ep, ho, hx, _⟩ := hD
      rw [show h.get? _ = _ from e] at ho; cases ho
      have := hx.1
      injection this with this; exact absurd this (by decide)) e) l
theorem RepL.fill {a : Addr} (hD : h.MapOf (strKind prog w) a fun _ => none) (k : ∀ b o, b ≠ a → h.get? b = some o → h'.get? b = some o) : ∀ {vs : List Value} {ds : List D}, RepL prog w h μ vs ds → RepL prog w h' μ vs ds
  | _, _, .nil => .nil
  | _, _, .cons a b => .cons (Rep.fill hD k a) (RepL.fill hD k b)
end

theorem RepL.length {vs : List Value} {ds : List D} (r : RepL prog w h μ vs ds) : vs.length = ds.length := by
  induction vs generalizing ds with
  | nil => cases r; rfl
  | cons v vs ih => cases r with | cons _ r => rw [List.length_cons, List.length_cons, ih r]
theorem RepL.append {vs ws : List Value} {ds es : List D} (r : RepL prog w h μ vs ds) (q : RepL prog w h μ ws es) : RepL prog w h μ (vs ++ ws) (ds ++ es) := by
  induction vs generalizing ds with
  | nil => cases r; exact q
  | cons v vs ih => cases r with | cons a r => exact .cons a (ih r)
theorem RepL.get {vs : List Value} {ds : List D} (r : RepL prog w h μ vs ds) {i : Nat} {d : D} (e : ds[i]? = some d) : ∃ v, vs[i]? = some v ∧ Rep prog w h μ v d := by
  induction vs generalizing ds i with
  | nil => cases r; cases e
  | cons v vs ih =>
    cases r with
    | cons a r =>
      cases i with
      | zero => cases e; exact ⟨v, rfl, a⟩
      | succ i => exact ih r e
theorem RepL.at {vs : List Value} {ds : List D} (r : RepL prog w h μ vs ds) {i : Nat} {v : Value} (e : vs[i]? = some v) : ∃ d, ds[i]? = some d ∧ Rep prog w h μ v d := by
  induction vs generalizing ds i with
  | nil => cases e
  | cons u vs ih =>
    cases r with
    | cons a r =>
      cases i with
      | zero => cases e; exact ⟨_, rfl, a⟩
      | succ i => exact ih r e
theorem RepL.drop {vs : List Value} {ds : List D} (r : RepL prog w h μ vs ds) : ∀ n : Nat, RepL prog w h μ (vs.drop n) (ds.drop n) := by
  intro n
  induction n generalizing vs ds with
  | zero => exact r
  | succ n ih =>
    cases r with
    | nil => exact .nil
    | cons _ r => exact ih r
theorem RepL.take {vs : List Value} {ds : List D} (r : RepL prog w h μ vs ds) : ∀ n : Nat, RepL prog w h μ (vs.take n) (ds.take n) := by
  intro n
  induction n generalizing vs ds with
  | zero => exact .nil
  | succ n ih =>
    cases r with
    | nil => exact .nil
    | cons a r => exact .cons a (ih r)
theorem RepL.reverse {vs : List Value} {ds : List D} (r : RepL prog w h μ vs ds) : RepL prog w h μ vs.reverse ds.reverse := by
  induction vs generalizing ds with
  | nil => cases r; exact .nil
  | cons v vs ih => cases r with | cons a r => rw [List.reverse_cons, List.reverse_cons]; exact (ih r).append (.cons a .nil)
theorem RepL.set {vs : List Value} {ds : List D} {v : Value} {d : D} (r : RepL prog w h μ vs ds) (q : Rep prog w h μ v d) : ∀ i : Nat, RepL prog w h μ (vs.set i v) (ds.set i d) := by
  intro i
  induction i generalizing vs ds with
  | zero => cases r with
    | nil => exact .nil
    | cons _ r => exact .cons q r
  | succ i ih => cases r with
    | nil => exact .nil
    | cons a r => exact .cons a (ih r)
theorem RepL.look {ks : List Str} {ws : List Value} {ds : List D} {x : Str} {d : D} (r : RepL prog w h μ ws ds) (e : lookK x ks ds = some d) : ∃ v, lookK x ks ws = some v ∧ Rep prog w h μ v d := by
  induction ks generalizing ws ds with
  | nil => cases e
  | cons k ks ih =>
    cases r with
    | nil => cases e
    | cons a r =>
      unfold lookK at e ⊢
      split at e
      · rename_i hx; cases e; rw [if_pos hx]; exact ⟨_, rfl, a⟩
      · rename_i hx; rw [if_neg hx]; exact ih r e
theorem look_some {α : Type} {x : Str} : ∀ {ks : List Str} {ws : List α}, ks.length = ws.length → (lookK x ks ws).isSome = ks.contains x
  | [], [], _ => rfl
  | k :: ks, v :: ws, e => by
    unfold lookK
    rw [List.contains_cons]
    by_cases hx : (x == k) = true
    · rw [if_pos hx, hx]; rfl
    · rw [if_neg hx, look_some (Nat.succ.inj e)]
      rw [Bool.eq_false_iff.mpr hx, Bool.false_or]

/-- the store: the changed lists -/
structure StoOK (prog : Program) (w : World) (h : Heap) (μ : Mu) (σ : Sto) : Prop where
  len : μ.locs.length = σ.length
  nodup : μ.locs.Nodup
  more : ∀ a ∈ μ.more, (∃ o, h.get? a = some o) ∧ a ∉ μ.locs
  is : ∀ (l : Nat) (a : Addr) (e : Ent), μ.locs[l]? = some a → σ[l]? = some e → ∃ vs, h.PlainList a vs ∧ RepL prog w h μ vs.toList e.rev.reverse ∧ e.rev.length + e.g ≤ bnd

theorem StoOK.lists {σ : Sto} (S : StoOK prog w h μ σ) : Lists μ h := by
  intro a ha o e
  obtain ⟨l, hl⟩ := List.mem_iff_getElem?.mp ha
  have hlt : l < σ.length := by
    have := (List.getElem?_eq_some_iff.mp hl).1
    have := S.len; omega
  obtain ⟨vs, ⟨n, e'⟩, _⟩ := S.is l a σ[l] hl (List.getElem?_eq_getElem hlt)
  rw [e'] at e; cases e; rfl
theorem StoOK.alive {σ : Sto} (S : StoOK prog w h μ σ) {a : Addr} (ha : a ∈ μ.locs) : ∃ vs, h.PlainList a vs := by
  obtain ⟨l, hl⟩ := List.mem_iff_getElem?.mp ha
  have hlt : l < σ.length := by
    have := (List.getElem?_eq_some_iff.mp hl).1
    have := S.len; omega
  obtain ⟨vs, p, _⟩ := S.is l a σ[l] hl (List.getElem?_eq_getElem hlt)
  exact ⟨vs, p⟩
/-- nothing is changed -/
theorem StoOK.keepAll {σ : Sto} (S : StoOK prog w h μ σ) (k : ∀ b o, h.get? b = some o → h'.get? b = some o) : StoOK prog w h' μ σ :=
  ⟨S.len, S.nodup, fun a ha => let ⟨⟨o, e⟩, q⟩ := S.more a ha; ⟨⟨o, k a o e⟩, q⟩, fun l a e hl he => let ⟨vs, p, r, b⟩ := S.is l a e hl he; ⟨vs, p.at fun o => k a o, r.keep S.lists (Keep.of k), b⟩⟩

noncomputable def RepR (prog : Program) (w : World) (h : Heap) (μ : Mu) (v : Value) : R → Prop
  | .val d => Rep prog w h μ v d
  | .loc l => ∃ a, v = .ref a ∧ μ.locs[l]? = some a
  | .dct ks ds => ∃ a f ws, v = .ref a ∧ h.MapOf (strKind prog w) a f ∧ (a == sysModules) = false ∧ (∀ k, f k = lookK k ks ws) ∧ ks.length = ws.length ∧ RepL prog w h μ ws ds
theorem RepR.keep (L : Lists μ h) (k : Keep μ h h') {v : Value} {r : R} (q : RepR prog w h μ v r) : RepR prog w h' μ v r := by
  cases r with
  | val d => exact Rep.keep L k q
  | loc l => exact q
  | dct ks ds =>
    obtain ⟨a, f, ws, h1, ⟨o, es, ep, ho, hx, rest⟩, h3, h4, h5, h6⟩ := q
    exact ⟨a, f, ws, h1, ⟨o, es, ep, k _ _ (L.not ho hx.1 (by decide)) ho, hx, rest⟩, h3, h4, h5, h6.keep L k⟩

inductive RepRs (prog : Program) (w : World) (h : Heap) (μ : Mu) : List Value → List R → Prop
  | nil : RepRs prog w h μ [] []
  | cons {v : Value} {vs : List Value} {r : R} {rs : List R} : RepR prog w h μ v r → RepRs prog w h μ vs rs → RepRs prog w h μ (v :: vs) (r :: rs)
theorem RepRs.keep (L : Lists μ h) (k : Keep μ h h') {vs : List Value} {rs : List R} (q : RepRs prog w h μ vs rs) : RepRs prog w h' μ vs rs := by
  induction q with
  | nil => exact .nil
  | cons a _ ih => exact .cons (a.keep L k) ih
theorem RepRs.vals {vs : List Value} {rs : List R} {ds : List D} (q : RepRs prog w h μ vs rs) (e : vals rs = some ds) : RepL prog w h μ vs ds := by
  induction q generalizing ds with
  | nil => cases e; exact .nil
  | @cons v vs r rs a _ ih =>
    cases r with
    | loc l => cases e
    | dct => cases e
    | val d =>
      rw [Mine.vals] at e
      split at e
      · rename_i ds' h'; cases e; exact .cons a (ih h')
      · cases e
theorem RepRs.length {vs : List Value} {rs : List R} (q : RepRs prog w h μ vs rs) : vs.length = rs.length := by
  induction q with
  | nil => rfl
  | cons _ _ ih => rw [List.length_cons, List.length_cons, ih]
end
end Mine

namespace Mine
open PySem PySem.W PyProof.Rows PySem.SeqAt

section
variable {prog : Program} {w : World} {h : Heap} {μ : Mu}

mutual
theorem same_true : ∀ (d e : D) (b : Bool) (v : Value), eqD d e = some b → Rep prog w h μ v d → Rep prog w h μ v e → b = true
  | .str x, e, b, _, q, r, r' => by
    cases r; cases r'; simp [eqD] at q; exact q
  | .int x, e, b, _, q, r, r' => by
    cases r; cases r'; simp [eqD] at q; exact q
  | .bool x, e, b, _, q, r, r' => by
    cases r; cases r'; simp [eqD] at q; exact q
  | .bytes x, e, b, _, q, r, r' => by
    cases r; cases r'; simp [eqD] at q; exact q
  | .tup xs, .tup ys, b, _, q, r, r' => by
    cases r with
    | tup h1 h2 h3 h4 h5 =>
      cases r' with
      | tup k1 k2 k3 k4 k5 =>
        rw [h1] at k1; cases k1
        rw [h3] at k3; cases k3
        exact same_trues xs ys b _ (by rw [eqD] at q; exact q) h5 k5
  | .lst xs, .lst ys, b, _, q, r, r' => by
    cases r with
    | lst h1 h2 h3 h4 h6 h5 =>
      cases r' with
      | lst k1 k2 k3 k4 k6 k5 =>
        rw [h1] at k1; cases k1
        rw [h3] at k3; cases k3
        exact same_truel xs ys b _ (by rw [eqD] at q; exact q) h5 k5
  | .tup _, .none, _, _, q, _, _ | .tup _, .bool _, _, _, q, _, _ | .tup _, .int _, _, _, q, _, _ | .tup _, .str _, _, _, q, _, _ | .tup _, .bytes _, _, _, q, _, _ | .tup _, .lst _, _, _, q, _, _ | .tup _, .rng _, _, _, q, _, _ => by simp [eqD] at q
  | .lst _, .none, _, _, q, _, _ | .lst _, .bool _, _, _, q, _, _ | .lst _, .int _, _, _, q, _, _ | .lst _, .str _, _, _, q, _, _ | .lst _, .bytes _, _, _, q, _, _ | .lst _, .tup _, _, _, q, _, _ | .lst _, .rng _, _, _, q, _, _ => by simp [eqD] at q
  | .none, _, _, _, q, _, _ => by simp [eqD] at q
  | .rng _, _, _, _, q, _, _ => by simp [eqD] at q
theorem same_trues : ∀ (ds es : List D) (b : Bool) (vs : List Value), eqDs ds es = some b → RepL prog w h μ vs ds → RepL prog w h μ vs es → b = true
  | [], es, b, _, q, r, r' => by cases r; cases r'; simp [eqDs] at q; exact q
  | d :: ds, es, b, _, q, r, r' => by
    cases r with
    | cons a r =>
      cases r' with
      | cons a' r' =>
        rw [eqDs] at q
        split at q
        · rename_i x hx
          split at q
          · rename_i y hy
            cases q
            rw [same_true d _ x _ hx a a', same_trues ds _ y _ hy r r']; rfl
          · cases q
        · cases q
theorem same_truel : ∀ (ds es : List D) (b : Bool) (vs : List Value), eqDl ds es = some b → RepL prog w h μ vs ds → RepL prog w h μ vs es → b = true
  | [], es, b, _, q, r, r' => by cases r; cases r'; simp [eqDl] at q; exact q
  | d :: ds, es, b, _, q, r, r' => by
    cases r with
    | cons a r =>
      cases r' with
      | cons a' r' =>
        have hl := r.length.symm.trans r'.length
        rw [eqDl, if_pos hl] at q
        split at q
        · rename_i x hx
          split at q
          · rename_i y hy
            cases q
            rw [same_true d _ x _ hx a a', same_trues ds _ y _ hy r r']; rfl
          · cases q
        · cases q
end

theorem eqAt_bytes {A : Around} {s : Shared} (a b : Array UInt8) (t u : Tok) : EqAt A s (.bytes a t) (.bytes b u) (decide (a = b)) := fun prog w E Q hq => by
  unfold eqBool
  refine wpAny_holding ?_
  refine wpAny_ite_split (fun hab => ?_) (fun _ => ?_)
  · have e : a = b := by have := eq_of_beq hab; injection this
    subst e
    exact wpAny_bind (wpAny_rule (wpAny_pure (by simpa using hq)))
  · refine wpAny_bind (richCompare_gives (op := .Eq) (T := "bytes") rfl rfl FB.slot_bytes_eq FB.entry_bytes_eq (FB.args_bytes_eq_2 _ _) (gives_bytes_eq a b t u) (fun x => nomatch x) (wpAny_truthy_bool ?_))
    have e : (a.toList == b.toList) = decide (a = b) := by
      by_cases hne : a = b
      · subst hne; simp
      · rw [decide_eq_false hne]
        exact beq_eq_false_iff_ne.mpr fun hl => hne (Array.toList_inj.mp hl)
    rw [e]; exact hq

theorem all_succ (n : Nat) (e : Nat → Bool) (a : Bool) : ((List.range (n + 1)).all fun j => match j with | 0 => a | j + 1 => e j) = (a && (List.range n).all e) := by
  rw [List.range_succ_eq_map, List.all_cons, List.all_map]
  rfl

mutual
theorem eqAt_rep : ∀ (d e : D) (b : Bool) (A : Around) (s : Shared) (v u : Value), eqD d e = some b → Rep prog w s.heap μ v d → Rep prog w s.heap μ u e → A.units + depD d < cLine → EqAt A s v u b
  | .str x, e, b, A, s, _, _, q, r, r', _ => by
    cases e <;> simp [eqD] at q
    subst q
    cases r with
    | str _ t =>
      cases r' with
      | str _ u => exact EqAt.str_str _ _ _ _
  | .int x, e, b, A, s, _, _, q, r, r', _ => by
    cases e <;> simp [eqD] at q
    subst q
    cases r with
    | int _ t =>
      cases r' with
      | int _ u => exact EqAt.int_int _ _ _ _
  | .bool x, e, b, A, s, _, _, q, r, r', _ => by
    cases e <;> simp [eqD] at q
    subst q
    cases r; cases r'
    exact EqAt.bool_bool _ _
  | .bytes x, e, b, A, s, _, _, q, r, r', _ => by
    cases e <;> simp [eqD] at q
    subst q
    cases r; cases r'
    exact eqAt_bytes _ _ _ _
  | .tup xs, .tup ys, b, A, s, v, u, q, r, r', hu => by
    rw [depD] at hu
    by_cases hvu : v = u
    · subst hvu
      rw [same_true _ _ b v q r r']
      exact EqAt.same _
    · cases r with
      | @tup l o vs n _ h1 h2 h3 h4 h5 =>
        cases r' with
        | @tup l' o' vs' n' _ k1 k2 k3 k4 k5 =>
          have hl : s.heap.IsTuple l vs := ⟨_, h1, h2, _, h3⟩
          have hl' : s.heap.IsTuple l' vs' := ⟨_, k1, k2, _, k3⟩
          have hne : l ≠ l' := fun e => hvu (congrArg _ e)
          obtain ⟨e, he, hb⟩ := eqAt_reps xs ys b A.in1 s vs.toList vs'.toList (by rw [eqD] at q; exact q) h5 k5 (by show A.units + 1 + _ < _; omega)
          have z := EqAt.of_refs (A := A) hne (RcAt.tuples hl hl' (by omega) fun j j1 j2 => by
            have := he j (by simpa using j1) (by simpa using j2)
            simpa using this)
          rw [hb]
          simpa using z
  | .lst xs, .lst ys, b, A, s, v, u, q, r, r', hu => by
    rw [depD] at hu
    by_cases hvu : v = u
    · subst hvu
      rw [same_true _ _ b v q r r']
      exact EqAt.same _
    · cases r with
      | @lst l o vs n _ h1 h2 h3 h4 h6 h5 =>
        cases r' with
        | @lst l' o' vs' n' _ k1 k2 k3 k4 k6 k5 =>
          have hl : s.heap.IsList l vs := ⟨_, h1, h2, _, h3⟩
          have hl' : s.heap.IsList l' vs' := ⟨_, k1, k2, _, k3⟩
          have hne : l ≠ l' := fun e => hvu (congrArg _ e)
          have n1 : vs.size = xs.length := by simpa using h5.length
          have n2 : vs'.size = ys.length := by simpa using k5.length
          rw [eqD] at q
          by_cases hsz : xs.length = ys.length
          · have q' : eqDs xs ys = some b := by
              cases xs with
              | nil => cases ys with
                | nil => simpa [eqDl, eqDs] using q
                | cons => cases hsz
              | cons x xs => cases ys with
                | nil => cases hsz
                | cons y ys => rw [eqDl, if_pos (Nat.succ.inj hsz)] at q; rw [eqDs]; exact q
            obtain ⟨e, he, hb⟩ := eqAt_reps xs ys b A.in1 s vs.toList vs'.toList q' h5 k5 (by show A.units + 1 + _ < _; omega)
            have z := EqAt.of_refs (A := A) hne (RcAt.lists hl hl' (by omega) (by omega) fun j j1 j2 => by
              have := he j (by simpa using j1) (by simpa using j2)
              simpa using this)
            have hm : min vs.toList.length vs'.toList.length = vs.size := by simp; omega
            have hq : (vs.toList.length == vs'.toList.length) = true := by simp; omega
            rw [hb, hm, hq, Bool.and_true]
            exact z
          · have hb : b = false := by
              cases xs with
              | nil => cases ys with
                | nil => exact absurd rfl hsz
                | cons => simpa [eqDl] using q.symm
              | cons x xs => cases ys with
                | nil => simpa [eqDl] using q.symm
                | cons y ys => rw [eqDl, if_neg (fun z => hsz (congrArg Nat.succ z))] at q; simpa using q.symm
            subst hb
            exact EqAt.of_refs hne (RcAt.lists_lengths hl hl' (by simp; omega) (by omega))
  | .tup _, .none, _, _, _, _, _, q, _, _, _ | .tup _, .bool _, _, _, _, _, _, q, _, _, _ | .tup _, .int _, _, _, _, _, _, q, _, _, _ | .tup _, .str _, _, _, _, _, _, q, _, _, _ | .tup _, .bytes _, _, _, _, _, _, q, _, _, _ | .tup _, .lst _, _, _, _, _, _, q, _, _, _ | .tup _, .rng _, _, _, _, _, _, q, _, _, _ => by simp [eqD] at q
  | .lst _, .none, _, _, _, _, _, q, _, _, _ | .lst _, .bool _, _, _, _, _, _, q, _, _, _ | .lst _, .int _, _, _, _, _, _, q, _, _, _ | .lst _, .str _, _, _, _, _, _, q, _, _, _ | .lst _, .bytes _, _, _, _, _, _, q, _, _, _ | .lst _, .tup _, _, _, _, _, _, q, _, _, _ | .lst _, .rng _, _, _, _, _, _, q, _, _, _ => by simp [eqD] at q
  | .none, _, _, _, _, _, _, q, _, _, _ => by simp [eqD] at q
  | .rng _, _, _, _, _, _, _, q, _, _, _ => by simp [eqD] at q
theorem eqAt_reps : ∀ (ds es : List D) (b : Bool) (A : Around) (s : Shared) (vs us : List Value), eqDs ds es = some b → RepL prog w s.heap μ vs ds → RepL prog w s.heap μ us es → A.units + depDs ds < cLine →
    ∃ e : Nat → Bool, (∀ j (h1 : j < vs.length) (h2 : j < us.length), EqAt A s vs[j] us[j] (e j)) ∧ b = ((List.range (min vs.length us.length)).all e && vs.length == us.length)
  | [], [], b, A, s, _, _, q, r, r', hu => by
    cases r; cases r'
    exact ⟨fun _ => true, fun j h1 => absurd h1 (Nat.not_lt_zero _), by simpa [eqDs] using q.symm⟩
  | [], _ :: _, b, A, s, _, _, q, r, r', hu => by
    cases r; cases r'
    exact ⟨fun _ => true, fun j h1 => absurd h1 (Nat.not_lt_zero _), by simpa [eqDs] using q.symm⟩
  | _ :: _, [], b, A, s, _, _, q, r, r', hu => by
    cases r; cases r'
    exact ⟨fun _ => true, fun j _ h1 => absurd h1 (Nat.not_lt_zero _), by simpa [eqDs] using q.symm⟩
  | d :: ds, e :: es, b, A, s, _, _, q, r, r', hu => by
    rw [depDs] at hu
    cases r with
    | @cons v vs _ _ a r =>
      cases r' with
      | @cons u us _ _ a' r' =>
        rw [eqDs] at q
        split at q
        · rename_i x hx
          split at q
          · rename_i y hy
            cases q
            have z := eqAt_rep d e x A s v u hx a a' (by omega)
            obtain ⟨f, hf, hb⟩ := eqAt_reps ds es y A s vs us hy r r' (by omega)
            refine ⟨fun j => match j with | 0 => x | j + 1 => f j, fun j h1 h2 => ?_, ?_⟩
            · cases j with
              | zero => exact z
              | succ j => exact hf j (Nat.lt_of_succ_lt_succ h1) (Nat.lt_of_succ_lt_succ h2)
            · rw [hb]
              simp only [List.length_cons]
              rw [Nat.succ_min_succ, all_succ, Bool.and_assoc]
              congr 2
              simp
          · cases q
        · cases q
end
end
end Mine

namespace Mine
open PySem PySem.W PyProof.Rows PySem.SeqAt

noncomputable def Mu.plus (μ : Mu) (a : Addr) : Mu := ⟨μ.locs, a :: μ.more⟩

section
variable {prog : Program} {w : World} {μ : Mu} {σ : Sto}
theorem Mu.plus_has {a b : Addr} : (μ.plus a).has b ↔ b = a ∨ μ.has b := by
  unfold Mu.has Mu.plus
  simp only [List.mem_cons]
  constructor
  · rintro (h | h | h)
    · exact .inr (.inl h)
    · exact .inl h
    · exact .inr (.inr h)
  · rintro (h | h | h)
    · exact .inr (.inl h)
    · exact .inl h
    · exact .inr (.inr h)
theorem StoOK.plus {h h' : Heap} {a : Addr} (S : StoOK prog w h μ σ) (ha : h.get? a = none) (k : ∀ b o, h.get? b = some o → h'.get? b = some o) (hal : ∃ o, h'.get? a = some o) : StoOK prog w h' (μ.plus a) σ where
  len := S.len
  nodup := S.nodup
  more := fun b hb => by
    rcases List.mem_cons.mp hb with rfl | hb
    · exact ⟨hal, fun q => by obtain ⟨vs, n, e⟩ := S.alive q; rw [ha] at e; cases e⟩
    · obtain ⟨⟨o, e⟩, q⟩ := S.more b hb
      exact ⟨⟨o, k b o e⟩, q⟩
  is := fun l b e hl he => by
    obtain ⟨vs, p, r, bn⟩ := S.is l b e hl he
    have r1 : RepL prog w h (μ.plus a) vs.toList e.rev.reverse := r.other fun b o hb e q => (Mu.plus_has.mp q).elim (fun e' => by rw [e', ha] at e; cases e) hb
    exact ⟨vs, p.at fun o => k b o, RepL.keep (μ := μ.plus a) S.lists (Keep.of k) r1, bn⟩
end

/-- where it is a list: it is new, nothing else reads it -/
noncomputable def NewAt (prog : Program) (w : World) (h h' : Heap) (μ : Mu) (σ : Sto) (v : Value) (r : R) : Prop := ∀ a ds, v = .ref a → r = .val (.lst ds) → h.get? a = none ∧ StoOK prog w h' (μ.plus a) σ ∧ ∃ vs, h'.PlainList a vs ∧ RepL prog w h' (μ.plus a) vs.toList ds

/-- what is known where a value comes back -/
noncomputable def Ret (prog : Program) (w : World) (s : Shared) (μ : Mu) (σ : Sto) (r : R) (fr : Bool) (Q : Value → Shared → Prop) : Prop :=
  ∀ h' tk v, Keep μ s.heap h' → StoOK prog w h' μ σ → RepR prog w h' μ v r → (fr = true → NewAt prog w s.heap h' μ σ v r) → Q v { s with heap := h', toks := tk }

theorem bnd_line : 2 * bnd + 20 ≤ sizeLine := by rw [sizeLine_eq]; decide
theorem bnd_is : bnd = 1000 := rfl
theorem line_is : cLine = 9900 := rfl

section
variable {prog : Program} {w : World} {A : Around} {E : Value → Shared → Prop} {s : Shared} {μ : Mu} {σ : Sto} {Q : Value → Shared → Prop}

theorem Ret.same {r : R} {v : Value} (h : Ret prog w s μ σ r false Q) (S : StoOK prog w s.heap μ σ) (q : RepR prog w s.heap μ v r) (tk : Nat) : Q v { s with toks := tk } :=
  h s.heap tk v (Keep.refl _ _) S q (fun e => nomatch e)
theorem Ret.push {r : R} {fr : Bool} {o : Obj} (h : Ret prog w s μ σ r fr Q) (S : StoOK prog w s.heap μ σ) (q : RepR prog w (s.heap.push o) μ (.ref s.heap.objs.size) r) (ho : fr = true → ∀ ds, r ≠ .val (.lst ds)) (tk : Nat) :
    Q (.ref s.heap.objs.size) { s with heap := s.heap.push o, toks := tk } :=
  h _ tk _ (Keep.push _ _ _) (S.keepAll fun b o' e => Heap.get?_push_of_some _ e) q fun e _ ds _ hr => absurd hr (ho e ds)

theorem rep_list_new {h : Heap} {vs : List Value} {ds : List D} (r : RepL prog w h μ vs ds) (L : ∀ a, μ.has a → ∃ o, h.get? a = some o) (Lμ : Lists μ h) (hz : vs.length ≤ sizeLine) :
    Rep prog w (h.push { cls := .type "list", data := .seq vs.toArray }) μ (.ref h.objs.size) (.lst ds) := by
  refine .lst (Heap.get?_push_size _ rfl) rfl rfl (by simpa using hz) (fun hm => ?_) (by simpa using r.keep Lμ (Keep.push _ _ _))
  obtain ⟨o, e⟩ := L _ hm
  exact Nat.lt_irrefl _ (Heap.lt_size e)
theorem Ret.pushList {fr : Bool} {vs : List Value} {ds : List D} (h : Ret prog w s μ σ (.val (.lst ds)) fr Q) (S : StoOK prog w s.heap μ σ) (r : RepL prog w s.heap μ vs ds) (L : ∀ a, μ.has a → ∃ o, s.heap.get? a = some o) (hz : vs.length ≤ sizeLine) (tk : Nat) :
    Q (.ref s.heap.objs.size) { s with heap := s.heap.push { cls := .type "list", data := .seq vs.toArray }, toks := tk } := by
  refine h _ tk _ (Keep.push _ _ _) (S.keepAll fun b o' e => Heap.get?_push_of_some _ e) (rep_list_new r L S.lists hz) fun e a ds' ha hr => ?_
  cases ha
  cases hr
  have fr : s.heap.get? s.heap.objs.size = none := Heap.get?_none_of_le (Nat.le_refl _)
  refine ⟨fr, S.plus fr (fun b o e => Heap.get?_push_of_some _ e) ⟨_, Heap.get?_push_size _ rfl⟩, vs.toArray, ⟨_, Heap.get?_push_size _ rfl⟩, ?_⟩
  have r1 : RepL prog w s.heap (μ.plus s.heap.objs.size) vs ds := r.other fun b o hb e q => (Mu.plus_has.mp q).elim (fun e' => by rw [e', fr] at e; cases e) hb
  simpa using RepL.keep (μ := μ.plus s.heap.objs.size) S.lists (Keep.push _ _ _) r1
theorem rep_tuple_new {h : Heap} {vs : List Value} {ds : List D} (r : RepL prog w h μ vs ds) (Lμ : Lists μ h) (hz : vs.length ≤ sizeLine) :
    Rep prog w (h.push { cls := .type "tuple", data := .seq vs.toArray }) μ (.ref h.objs.size) (.tup ds) :=
  .tup (Heap.get?_push_size _ rfl) rfl rfl (by simpa using hz) (by simpa using r.keep Lμ (Keep.push _ _ _))
theorem StoOK.here (S : StoOK prog w s.heap μ σ) : ∀ a, μ.has a → ∃ o, s.heap.get? a = some o := fun _ ha => ha.elim (fun ha => let ⟨_, _, e⟩ := S.alive ha; ⟨_, e⟩) fun ha => (S.more _ ha).1

theorem rcAt_rep {d e : D} {b : Bool} {v u : Value} (q : eqD d e = some b) (r : Rep prog w s.heap μ v d) (r' : Rep prog w s.heap μ u e) (hu : A.units + depD d < cLine) (hby : ∀ x, d ≠ .bytes x) : RcAt A s v u b ∧ RcNeAt A s v u (!b) := by
  cases d with
  | none => simp [eqD] at q
  | rng => simp [eqD] at q
  | bytes x => exact absurd rfl (hby x)
  | str x =>
    cases e <;> simp [eqD] at q
    subst q
    cases r; cases r'
    exact ⟨RcAt.str_str _ _ _ _, RcNeAt.str_str _ _ _ _⟩
  | int x =>
    cases e <;> simp [eqD] at q
    subst q
    cases r; cases r'
    exact ⟨RcAt.int_int _ _ _ _, RcNeAt.int_int _ _ _ _⟩
  | bool x =>
    cases e <;> simp [eqD] at q
    subst q
    cases r; cases r'
    exact ⟨RcAt.bool_bool _ _, RcNeAt.bool_bool _ _⟩
  | tup xs =>
    cases e <;> simp [eqD] at q
    rename_i ys
    rw [depD] at hu
    cases r with
    | @tup l o vs n _ h1 h2 h3 h4 h5 =>
      cases r' with
      | @tup l' o' vs' n' _ k1 k2 k3 k4 k5 =>
        have hl : s.heap.IsTuple l vs := ⟨_, h1, h2, _, h3⟩
        have hl' : s.heap.IsTuple l' vs' := ⟨_, k1, k2, _, k3⟩
        obtain ⟨e, he, hb⟩ := eqAt_reps xs ys b A.in1 s vs.toList vs'.toList q h5 k5 (by show A.units + 1 + _ < _; omega)
        have hj : ∀ j (h1 : j < vs.size) (h2 : j < vs'.size), EqAt A.in1 s vs[j] vs'[j] (e j) := fun j j1 j2 => by
          have := he j (by simpa using j1) (by simpa using j2)
          simpa using this
        have z := RcAt.tuples hl hl' (by omega) hj
        have z' := RcNeAt.tuples hl hl' (by omega) hj
        rw [hb]
        exact ⟨by simpa using z, by simpa using z'⟩
  | lst xs =>
    cases e <;> simp [eqD] at q
    rename_i ys
    rw [depD] at hu
    cases r with
    | @lst l o vs n _ h1 h2 h3 h4 h6 h5 =>
      cases r' with
      | @lst l' o' vs' n' _ k1 k2 k3 k4 k6 k5 =>
        have hl : s.heap.IsList l vs := ⟨_, h1, h2, _, h3⟩
        have hl' : s.heap.IsList l' vs' := ⟨_, k1, k2, _, k3⟩
        have n1 : vs.size = xs.length := by simpa using h5.length
        have n2 : vs'.size = ys.length := by simpa using k5.length
        by_cases hsz : xs.length = ys.length
        · have q' : eqDs xs ys = some b := by
            cases xs with
            | nil => cases ys with
              | nil => simpa [eqDl, eqDs] using q
              | cons => cases hsz
            | cons x xs => cases ys with
              | nil => cases hsz
              | cons y ys => rw [eqDl, if_pos (Nat.succ.inj hsz)] at q; rw [eqDs]; exact q
          obtain ⟨e, he, hb⟩ := eqAt_reps xs ys b A.in1 s vs.toList vs'.toList q' h5 k5 (by show A.units + 1 + _ < _; omega)
          have hj : ∀ j (h1 : j < vs.size) (h2 : j < vs'.size), EqAt A.in1 s vs[j] vs'[j] (e j) := fun j j1 j2 => by
            have := he j (by simpa using j1) (by simpa using j2)
            simpa using this
          have hm : min vs.toList.length vs'.toList.length = vs.size := by simp; omega
          have hq : (vs.toList.length == vs'.toList.length) = true := by simp; omega
          rw [hb, hm, hq, Bool.and_true]
          exact ⟨RcAt.lists hl hl' (by omega) (by omega) hj, RcNeAt.lists hl hl' (by omega) (by omega) hj⟩
        · have hb : b = false := by
            cases xs with
            | nil => cases ys with
              | nil => exact absurd rfl hsz
              | cons => simpa [eqDl] using q.symm
            | cons x xs => cases ys with
              | nil => simpa [eqDl] using q.symm
              | cons y ys => rw [eqDl, if_neg (fun z => hsz (congrArg Nat.succ z))] at q; simpa using q.symm
          subst hb
          exact ⟨RcAt.lists_lengths hl hl' (by simp; omega) (by omega), RcNeAt.lists_lengths hl hl' (by simp; omega) (by omega)⟩

theorem eqR_ok {ra rb : R} {b : Bool} {v u : Value} (q : eqR σ ra rb = some b) (S : StoOK prog w s.heap μ σ) (r : RepR prog w s.heap μ v ra) (r' : RepR prog w s.heap μ u rb) (hu : A.units + bnd < cLine) : RcAt A s v u b ∧ RcNeAt A s v u (!b) := by
  unfold eqR at q
  split at q
  · cases q
  · rename_i d e hby
    split at q
    · rename_i hd
      exact rcAt_rep q r r' (by omega) hby
    · cases q
  · rename_i l
    split at q
    · rename_i e he
      cases q
      obtain ⟨a, rfl, ha⟩ := r
      obtain ⟨vs, ⟨n, p⟩, rp, _⟩ := S.is l a e ha he
      cases r' with
      | @lst l' o' vs' n' _ k1 k2 k3 k4 k6 k5 =>
        have hl : s.heap.IsList a vs := ⟨_, p, rfl, _, rfl⟩
        have hl' : s.heap.IsList l' vs' := ⟨_, k1, k2, _, k3⟩
        have n1 : vs.size = e.rev.length := by simpa using rp.length
        have n2 : vs'.size = 0 := by simpa using k5.length
        cases hr : e.rev.isEmpty with
        | true =>
          have h0 : e.rev.length = 0 := by simpa using hr
          have hj : ∀ j (h1 : j < vs.size) (h2 : j < vs'.size), EqAt A.in1 s vs[j] vs'[j] ((fun _ => true) j) := fun j j1 j2 => by omega
          have z := RcAt.lists hl hl' (by omega) (by omega) hj
          have z' := RcNeAt.lists hl hl' (by omega) (by omega) hj
          have e0 : (List.range vs.size).all (fun _ => true) = true := by simp
          rw [e0] at z z'
          exact ⟨z, z'⟩
        | false =>
          have h0 : e.rev.length ≠ 0 := by intro z; simp [List.length_eq_zero_iff.mp z] at hr
          exact ⟨RcAt.lists_lengths hl hl' (by simp; omega) (by omega), RcNeAt.lists_lengths hl hl' (by simp; omega) (by omega)⟩
    · cases q
  · cases q

noncomputable def strIs (x : Value) (y : Value) : Bool := match y, x with
  | .str a _, .str b _ => decide (a = b)
  | _, _ => false
theorem inD_ok {x : Str} {t : Tok} : ∀ {xs : List D} {vs : List Value} {b : Bool}, inD (.str x) xs = some b → RepL prog w s.heap μ vs xs → (∀ y ∈ vs, EqAt A s y (.str x t) (strIs (.str x t) y)) ∧ b = vs.any (strIs (.str x t))
  | [], _, b, q, r => by cases r; exact ⟨fun _ h => (nomatch h), by simpa [inD] using q.symm⟩
  | d :: xs, _, b, q, r => by
    cases r with
    | cons a r =>
      cases d with
      | str y =>
        rw [inD] at q
        split at q
        · rename_i rr hr
          cases q
          obtain ⟨h1, h2⟩ := inD_ok (t := t) hr r
          cases a with
          | str _ u =>
            refine ⟨fun z hz => ?_, ?_⟩
            · rcases List.mem_cons.mp hz with rfl | hz
              · exact EqAt.str_str _ _ _ _
              · exact h1 z hz
            · rw [List.any_cons, ← h2]; rfl
        · cases q
      | _ => simp [inD] at q

theorem cmp_ok {op : CmpOp} {ra rb : R} {b : Bool} {v u : Value} (q : cmpR σ op ra rb = some b) (S : StoOK prog w s.heap μ σ) (r : RepR prog w s.heap μ v ra) (r' : RepR prog w s.heap μ u rb) (hu : A.units + bnd + 1 < cLine)
    (h : ∀ tk, Q (.bool b) { s with toks := tk }) : wpAny (model prog w) A (compareOp op v u) Q E s := by
  have h0 := h s.toks
  cases op with
  | Eq => exact (eqR_ok q S r r' (by omega)).1 prog w E Q h0
  | NotEq =>
    simp only [cmpR] at q
    split at q
    · rename_i x hx
      cases q
      exact (eqR_ok hx S r r' (by omega)).2 prog w E Q h0
    · cases q
  | Is => simp [cmpR] at q
  | IsNot => simp [cmpR] at q
  | NotIn => simp [cmpR] at q
  | Lt =>
    simp only [cmpR] at q
    split at q
    · cases q; cases r; cases r'; exact P.lt_int h0
    · cases q
  | LtE =>
    simp only [cmpR] at q
    split at q
    · cases q; cases r; cases r'; exact P.le_int h0
    · cases q
  | Gt =>
    simp only [cmpR] at q
    split at q
    · cases q; cases r; cases r'; exact P.gt_int h0
    · cases q
  | GtE =>
    simp only [cmpR] at q
    split at q
    · cases q; cases r; cases r'; exact P.ge_int h0
    · cases q
  | In =>
    simp only [cmpR] at q
    split at q
    · rename_i d xs
      cases r' with
      | @tup l o vs n _ h1 h2 h3 h4 h5 =>
        cases xs with
        | nil =>
          simp [inD] at q
          subst q
          have hv : vs = #[] := by have := h5.length; simpa using this
          subst hv
          exact in_tupleAt (fun _ => false) ⟨_, h1, h2, _, h3⟩ (fun y hy => by simp at hy) (by simpa using h0)
        | cons y ys =>
          have hd : ∃ x, d = .str x := by
            cases d <;> cases y <;> simp [inD] at q
            exact ⟨_, rfl⟩
          obtain ⟨x, rfl⟩ := hd
          cases r with
          | str _ t =>
            obtain ⟨g1, g2⟩ := inD_ok (A := A.in1) (t := t) q h5
            refine in_tupleAt (strIs (.str x t)) ⟨_, h1, h2, _, h3⟩ (fun y hy => g1 y (by simpa using hy)) ?_
            rw [g2] at h0
            simpa using h0
    · rename_i x ks ds
      cases q
      cases r with
      | str _ t =>
        obtain ⟨a, f, ws, rfl, h1, h2, h3, h4, h5⟩ := r'
        refine wpAny_in_of (knd := PySem.strKind prog w) (k := x) (strKind_is prog w x t) h2 h1 ?_
        rw [h3, look_some h4]
        exact h _
    · cases q
end
end Mine

namespace Mine
open PySem PySem.W PyProof.Rows PySem.SeqAt

section
variable {prog : Program} {w : World} {A : Around} {E : Value → Shared → Prop} {s : Shared} {μ : Mu} {σ : Sto} {Q : Value → Shared → Prop}

theorem bin_ok {op : Operator} {a b d : D} {v u : Value} (q : binD op a b = some d) (S : StoOK prog w s.heap μ σ) (r : Rep prog w s.heap μ v a) (r' : Rep prog w s.heap μ u b)
    (h : Ret prog w s μ σ (.val d) false Q) : wpAny (model prog w) A (binaryOp op v u) Q E s := by
  unfold binD at q
  split at q
  · rename_i x y
    cases r with
    | int _ t =>
      cases r' with
      | int _ t' =>
        have fin : ∀ (z : Int) (tk : Tok) (tk' : Nat), d = .int z → Q (.int z tk) { s with toks := tk' } := fun z tk tk' e => by
          subst e
          exact h.same S (Rep.int z tk) tk'
        cases op with
        | Add => cases q; exact wpAny_add_int (fin _ _ _ rfl)
        | Sub => cases q; exact P.sub_int (fin _ _ _ rfl)
        | Mult =>
          dsimp only at q
          split at q
          · rename_i hb
            cases q
            refine P.mul_int (fin _ _ _ rfl) ?_
            obtain ⟨h1, h2⟩ := hb
            mul_fits
          · cases q
        | FloorDiv =>
          dsimp only at q
          split at q
          · rename_i hb
            cases q
            exact floordiv_int (by omega) (fin _ _ _ rfl) (.inl (PyProof.noPylong_small (by omega)))
          · cases q
        | Mod =>
          dsimp only at q
          split at q
          · rename_i hb
            cases q
            exact mod_int' (by omega) (fin _ _ _ rfl)
          · cases q
        | Pow =>
          dsimp only at q
          split at q
          · rename_i hb
            cases q
            obtain ⟨h1, h2, h3, h4⟩ := hb
            exact pow_int_small h1 (by omega) (by omega) (fin _ _ _ rfl)
          · cases q
        | _ => cases q
  · rename_i xs ys
    cases r with
    | @lst l o vs n _ h1 h2 h3 h4 h6 h5 =>
      cases r' with
      | @lst l' o' vs' n' _ k1 k2 k3 k4 k6 k5 =>
        cases op with
        | Add =>
          dsimp only at q
          split at q
          · rename_i hb
            cases q
            have n1 : vs.size = xs.length := by simpa using h5.length
            have n2 : vs'.size = ys.length := by simpa using k5.length
            have hz : vs.size + vs'.size ≤ sizeLine := by have := bnd_line; omega
            obtain ⟨cls, dd, data, sl⟩ := o
            obtain ⟨cls', dd', data', sl'⟩ := o'
            simp only at h2 h3 k2 k3
            subst h2 h3 k2 k3
            have e : (vs ++ vs') = (vs.toList ++ vs'.toList).toArray := by simp
            refine concat_meets ⟨_, h1, rfl⟩ ⟨_, k1, rfl⟩ noFill_list_add seq_list_add F.slot_list_add F.entry_list_add (F.args_list_add_2 _ _) (PyProof.Rows.list_addW l l' vs vs' n n' dd dd' sl sl' hz) ⟨h1, k1, ?_⟩
            rw [e]
            refine h.push S (rep_list_new (h5.append k5) S.here S.lists (by simpa using hz)) (fun e => nomatch e) _
          · cases q
        | _ => cases q
  · cases q

theorem seqIdx {i : Int} {n : Nat} (h0 : 0 ≤ i) (h : i.toNat < n) : seqIndex? i n = some i.toNat := by
  have h1 : ¬ i < 0 := by omega
  have h2 : i < (n : Int) := by omega
  simp [seqIndex?, h1, h0, h2]

theorem idxD_spec {xs : List D} {i : Int} {d : D} (q : idxD xs i = some d) : 0 ≤ i ∧ i < 2 ^ 63 ∧ xs[i.toNat]? = some d := by
  unfold idxD at q
  split at q
  · rename_i h; exact ⟨h.1, h.2, q⟩
  · cases q

theorem idx_ok {value slice : Expr} {x k : R} {d : D} {o i : Value} (q : idxR σ x k = some d) (S : StoOK prog w s.heap μ σ) (r : RepR prog w s.heap μ o x) (r' : RepR prog w s.heap μ i k)
    (hs : subscripted slice false o i = operate [o, i] (getItem o i)) (h : Ret prog w s μ σ (.val d) false Q) : wpAny (model prog w) A (subscriptTail value slice o i) Q E s := by
  unfold idxR at q
  split at q
  · rename_i xs j
    obtain ⟨h0, hf, hx⟩ := idxD_spec q
    cases r with
    | @tup l ob vs n _ h1 h2 h3 h4 h5 =>
      cases r' with
      | int _ u =>
        obtain ⟨y, hy, ry⟩ := h5.get hx
        have hlt : j.toNat < vs.toList.length := (List.getElem?_eq_some_iff.mp hy).1
        have z := h.same S (r := .val d) ry s.toks
        exact item_tupleT (l := vs.toList) (j := j.toNat) ⟨_, h1, h2, n, by simpa using h3⟩ (by omega) hf (seqIdx h0 hlt) hy z hs
  · rename_i xs j
    obtain ⟨h0, hf, hx⟩ := idxD_spec q
    cases r with
    | @lst l ob vs n _ h1 h2 h3 h4 h6 h5 =>
      cases r' with
      | int _ u =>
        obtain ⟨y, hy, ry⟩ := h5.get hx
        have hl : s.heap.IsList l vs := ⟨_, h1, h2, _, h3⟩
        have z := h.same S (r := .val d) ry s.toks
        exact tail_any hl.typeIs slot_list_getitem.lookup (wpAny_getItem_list hl h0 hf (by simpa using hy) z) hs
  · rename_i ks ds y
    cases r' with
    | str _ t =>
      obtain ⟨a, f, ws, rfl, h1, h2, h3, h4, h5⟩ := r
      obtain ⟨v, hv, rv⟩ := h5.look q
      exact tail_any h1.typeIs slot_dict_getitem.lookup (wpAny_getItem_of (knd := PySem.strKind prog w) (k := y) (strKind_is prog w y t) h1 ((h3 y).trans hv) (h.same S (r := .val d) rv _)) hs
  · rename_i l j
    split at q
    · rename_i e he
      obtain ⟨h0, hf, hx⟩ := idxD_spec q
      obtain ⟨a, rfl, ha⟩ := r
      obtain ⟨vs, p, rp, _⟩ := S.is l a e ha he
      cases r' with
      | int _ u =>
        obtain ⟨y, hy, ry⟩ := rp.get hx
        have z := h.same S (r := .val d) ry s.toks
        exact tail_any p.isList.typeIs slot_list_getitem.lookup (wpAny_getItem_list p.isList h0 hf (by simpa using hy) z) hs
    · cases q
  · cases q

/-- a part of a list, by a slice's object that lies at its place -/
theorem slice_list_ok {value slice : Expr} {l sl : Addr} {vs : Array Value} {vl vu vst : Value} {lo hi st : Option Int} {ds : List D} {fr : Bool} (hl : s.heap.IsList l vs) (hz : vs.size ≤ sizeLine) (hs : s.heap.IsSliceOf sl vl vu vst)
    (pl : IsPart vl lo) (pu : IsPart vu hi) (ps : IsPart vst st) (h0 : st ≠ some 0) (S : StoOK prog w s.heap μ σ) (r : RepL prog w s.heap μ (slicePick vs lo hi st).toList ds)
    (hsub : subscripted slice false (.ref l) (.ref sl) = operate [.ref sl, .ref l] (getItem (.ref l) (.ref sl))) (h : Ret prog w s μ σ (.val (.lst ds)) fr Q) : wpAny (model prog w) A (subscriptTail value slice (.ref l) (.ref sl)) Q E s := by
  have e : slicePick vs lo hi st = (slicePick vs lo hi st).toList.toArray := by simp
  refine tail_any hl.typeIs slot_list_getitem.lookup (wpAny_getItem_list_slice hl hs pl pu ps h0 ?_ hz) hsub
  rw [e]
  have hsz : (slicePick vs lo hi st).toList.length ≤ sizeLine := by simpa using Nat.le_trans (slicePick_size_le vs lo hi st) hz
  exact h.pushList S r S.here hsz _

theorem slice_tuple_ok {value slice : Expr} {l sl : Addr} {vs : Array Value} {ds : List D} {a : Nat} {u : Tok} {fr : Bool} (hl : IsTup s.heap l vs) (hz : vs.size ≤ sizeLine) (hs : s.heap.IsSliceOf sl (.int a u) .none .none)
    (h1 : 1 ≤ a) (h2 : a ≤ vs.size) (S : StoOK prog w s.heap μ σ) (r : RepL prog w s.heap μ (vs.toList.drop a) ds)
    (hsub : subscripted slice false (.ref l) (.ref sl) = operate [.ref sl, .ref l] (getItem (.ref l) (.ref sl))) (h : Ret prog w s μ σ (.val (.tup ds)) fr Q) : wpAny (model prog w) A (subscriptTail value slice (.ref l) (.ref sl)) Q E s := by
  refine tail_any hl.typeIs slot_tuple_getitem.lookup (getItem_tuple_from hl hs h1 h2 ?_ hz) hsub
  exact h.push S (rep_tuple_new r S.lists (by simp; omega)) (fun _ _ e => nomatch e) s.toks

theorem adjust_rev (n : Nat) : Builtin.Slice.sliceAdjust none none (-1) (n : Int) = ((n : Int) - 1, -1) := by
  unfold Builtin.Slice.sliceAdjust
  simp
theorem places_rev (n : Nat) : Builtin.Slice.slicePlaces ((n : Int) - 1) (-1) (-1) = n := by
  unfold Builtin.Slice.slicePlaces
  simp
  try omega

theorem sliceApplied_rev {sl : Addr} {n : Nat} {u : Tok} {Q : Int × Int × Nat → Shared → Prop} (hs : s.heap.IsSliceOf sl .none .none (.int (-1) u)) (h : Q ((n : Int) - 1, -1, n) s) :
    wpAny (model prog w) A (Builtin.Slice.sliceApplied (.ref sl) (pure (n : Int))) Q E s := by
  obtain ⟨os, hos, hcs, hds⟩ := id hs
  unfold Builtin.Slice.sliceApplied Builtin.Slice.sliceFields
  refine wpAny_bind (wpAny_bind (wpAny_field hos hds (x := .none) rfl (wpAny_bind (wpAny_field hos hds (x := .none) rfl (wpAny_bind (wpAny_field hos hds (x := .int (-1) u) rfl (wpAny_pure ?_)))))))
  refine wpAny_bind (slicePart_int ?_)
  show wpAny _ _ (if ((-1 : Int) == 0) = true then _ else _) _ _ s
  rw [if_neg (by decide)]
  refine wpAny_bind (slicePart_none (wpAny_bind (slicePart_none (wpAny_bind (wpAny_pure ?_)))))
  show wpAny _ _ (match Builtin.Slice.sliceAdjust none none (-1) (n : Int) with | (lo, hi) => pure (lo, (-1 : Int), Builtin.Slice.slicePlaces lo hi (-1))) _ _ s
  rw [adjust_rev n]
  show wpAny _ _ (pure ((n : Int) - 1, (-1 : Int), Builtin.Slice.slicePlaces ((n : Int) - 1) (-1) (-1))) _ _ s
  rw [places_rev n]
  exact wpAny_pure h

theorem pick_rev (xs : Array Value) : ((List.range xs.size).filterMap fun (k : Nat) => xs[((xs.size : Int) - 1 + (k : Int) * (-1)).toNat]?).toArray = xs.toList.reverse.toArray := by
  congr 1
  apply List.ext_getElem?
  intro j
  have e : (List.range xs.size).filterMap (fun (k : Nat) => xs[((xs.size : Int) - 1 + (k : Int) * (-1)).toNat]?) = (List.range xs.size).map (fun k => xs[xs.size - 1 - k]?.getD .none) := by
    have gen : ∀ l : List Nat, (∀ k ∈ l, k < xs.size) → l.filterMap (fun (k : Nat) => xs[((xs.size : Int) - 1 + (k : Int) * (-1)).toNat]?) = l.map (fun k => xs[xs.size - 1 - k]?.getD .none) := by
      intro l
      induction l with
      | nil => intro _; rfl
      | cons k l ih =>
        intro hk
        have hk' := hk k (.head _)
        have e1 : ((xs.size : Int) - 1 + (k : Int) * (-1)).toNat = xs.size - 1 - k := by omega
        have h2 : xs.size - 1 - k < xs.size := by omega
        rw [List.filterMap_cons, e1, Array.getElem?_eq_getElem h2, List.map_cons, ih fun j hj => hk j (.tail _ hj), Array.getElem?_eq_getElem h2]
        rfl
    exact gen _ fun k hk => List.mem_range.mp hk
  rw [e]
  by_cases hj : j < xs.size
  · have h2 : xs.size - 1 - j < xs.size := by omega
    simp [hj, h2]
  · simp [hj]

theorem slice_rev_ok {value slice : Expr} {l sl : Addr} {vs : Array Value} {ds : List D} {u : Tok} {fr : Bool} (hl : IsTup s.heap l vs) (hz : vs.size ≤ sizeLine) (hs : s.heap.IsSliceOf sl .none .none (.int (-1) u))
    (S : StoOK prog w s.heap μ σ) (r : RepL prog w s.heap μ vs.toList ds)
    (hsub : subscripted slice false (.ref l) (.ref sl) = operate [.ref l, .ref sl] (getItem (.ref l) (.ref sl))) (h : Ret prog w s μ σ (.val (.tup ds.reverse)) fr Q) : wpAny (model prog w) A (subscriptTail value slice (.ref l) (.ref sl)) Q E s := by
  refine tail_any hl.typeIs slot_tuple_getitem.lookup ?_ hsub
  have hq := h.push S (rep_tuple_new r.reverse S.lists (by simpa using hz)) (fun _ _ e => nomatch e) s.toks
  have hsize : sizeOk (.seq vs.toList.reverse.toArray) := by
    show (vs.toList.reverse).toArray.size ≤ sizeLine
    simpa using hz
  obtain ⟨os, hos, hcs, hds⟩ := id hs
  have hTs : s.TypeIs (.ref sl) "slice" := ⟨os, hos, hcs⟩
  unfold getItem
  refine wpAny_holding ?_
  refine wpAny_bind (wpAny_sequenceKey hl.typeIs (by decide) ?_)
  refine wpAny_bind (wpAny_callSpecial?_slot (name := Str.ofString "__getitem__") hl.typeIs slot_tuple_getitem
    (wpAny_call_entry slot_tuple_getitem hl.typeIs entry_tuple_getitem ?_ (args_tuple_getitem _ _)))
  show wpAny _ _ (Builtin.Tuple.tupleItemsOf (.ref l) >>= _) _ _ s
  refine wpAny_bind (tupleItemsOf_ hl ?_)
  refine wpAny_bind (wpAny_typeOf hTs ?_)
  rw [if_pos (by decide)]
  refine wpAny_bind (sliceApplied_rev hs ?_)
  have hno : ¬ (((vs.size : Int) - 1 == 0 && (-1 : Int) == 1 && vs.size == vs.size) = true) := by simp
  show wpAny _ _ (if ((vs.size : Int) - 1 == 0 && (-1 : Int) == 1 && vs.size == vs.size) = true then _ else _) _ _ s
  rw [if_neg hno, pick_rev vs]
  exact wpAny_bind (m := Builtin.Tuple.tupleExact _) (wpAny_newObj_type (wpAny_pure ⟨_, rfl, wpAny_pure hq⟩) hsize)


theorem nodup_at {l : List Addr} (h : l.Nodup) {i j : Nat} {hi : i < l.length} {hj : j < l.length} (e : l[i] = l[j]) : i = j := by
  rcases Nat.lt_trichotomy i j with q | q | q
  · exact absurd e (List.pairwise_iff_getElem.mp h i j hi hj q)
  · exact q
  · exact absurd e.symm (List.pairwise_iff_getElem.mp h j i hj hi q)

theorem StoOK.change {h h' : Heap} {a : Addr} {l : Nat} {e' : Ent} {vs' : Array Value} (S : StoOK prog w h μ σ) (ha : μ.locs[l]? = some a) (hs : Heap.SameBut a h h') (p : h'.PlainList a vs')
    (rp : RepL prog w h μ vs'.toList e'.rev.reverse) (hb : e'.rev.length + e'.g ≤ bnd) : StoOK prog w h' μ (σ.set l e') ∧ Keep μ h h' := by
  have ha' : a ∈ μ.locs := List.mem_of_getElem? ha
  have keep : Keep μ h h' := fun b o hb e => hs.extBut b o (fun e' => hb (e' ▸ ha')) e
  refine ⟨⟨by rw [List.length_set]; exact S.len, S.nodup, fun b hb => let ⟨⟨o, e⟩, q⟩ := S.more b hb; ⟨⟨o, keep b o q e⟩, q⟩, fun k b e hk hek => ?_⟩, keep⟩
  by_cases hkl : k = l
  · subst hkl
    rw [ha] at hk; cases hk
    have hlt : k < σ.length := by
      have := (List.getElem?_eq_some_iff.mp ha).1
      have := S.len; omega
    rw [List.getElem?_set_self hlt] at hek
    cases hek
    exact ⟨_, p, rp.keep S.lists keep, hb⟩
  · rw [List.getElem?_set_ne (Ne.symm hkl)] at hek
    obtain ⟨ws, pw, rw', bw⟩ := S.is k b e hk hek
    have hba : b ≠ a := fun e' => hkl (by
      have h1 := (List.getElem?_eq_some_iff.mp hk)
      have h2 := (List.getElem?_eq_some_iff.mp ha)
      exact nodup_at S.nodup (h1.2.trans (e'.trans h2.2.symm)))
    exact ⟨ws, pw.extBut hs.extBut hba, rw'.keep S.lists keep, bw⟩

/-- list.pop, list.append, a place stored -/
theorem pop_ok {l : Nat} {v : Value} {d : D} {rev : List D} {g : Nat} (he : σ[l]? = some ⟨g, d :: rev⟩) (S : StoOK prog w s.heap μ σ) (r : RepR prog w s.heap μ v (.loc l))
    (h : Ret prog w s μ (σ.set l ⟨g, rev⟩) (.val d) false Q) : wpAny (model prog w) A (call (.builtin "list.pop") [v]) Q E s := by
  obtain ⟨a, rfl, ha⟩ := r
  obtain ⟨vs, ⟨n, p⟩, rp, hb⟩ := S.is l a _ ha he
  have hlen := rp.length
  simp only [List.reverse_cons, List.length_append, List.length_reverse, List.length_cons] at hlen hb
  rw [List.reverse_cons] at rp
  obtain ⟨y, hy, ry⟩ := rp.get (i := rev.length) (d := d) (by simp)
  have hvs : vs.size = rev.length + 1 := by simpa using hlen
  have hz : vs.size ≤ sizeLine := by have := bnd_line; omega
  have hy' : vs[vs.size - 1]? = some y := by rw [hvs]; simpa using hy
  refine call_meets F.slot_list_pop ⟨_, p, rfl⟩ F.entry_list_pop (F.args_list_pop_1 _) (MeetsSeq.list_pop_last a vs n y hy' hz) ⟨p, ?_⟩
  have hs : Heap.SameBut a s.heap (s.heap.update a (Obj.mapSeq (·.eraseIdxIfInBounds (vs.size - 1)))) := Heap.SameBut.update ..
  have q := PySem.IsL.update p (·.eraseIdxIfInBounds (vs.size - 1))
  have ev : vs.eraseIdxIfInBounds (vs.size - 1) = (vs.toList.take rev.length).toArray := by
    apply Array.toList_inj.mp
    have hlt : vs.size - 1 < vs.size := by omega
    unfold Array.eraseIdxIfInBounds
    rw [dif_pos hlt, Array.toList_eraseIdx]
    have : vs.size - 1 = rev.length := by omega
    rw [this]
    simp only [List.eraseIdx_eq_take_drop_succ]
    rw [List.drop_of_length_le (by simp; omega), List.append_nil]
  have rp' : RepL prog w s.heap μ (vs.toList.take rev.length) rev.reverse := by
    have z := rp.take rev.length
    have e : (rev.reverse ++ [d]).take rev.length = rev.reverse := List.take_left' (by simp)
    rwa [e] at z
  obtain ⟨S', keep⟩ := S.change (l := l) (e' := ⟨g, rev⟩) ha hs ⟨_, q⟩ (by rw [ev]; simpa using rp') (by show rev.length + g ≤ bnd; omega)
  exact h _ s.toks y keep S' (ry.keep S.lists keep) (fun e => nomatch e)

theorem append_ok {l : Nat} {v y : Value} {d : D} {rev : List D} {g : Nat} {Q : Value → Shared → Prop} (he : σ[l]? = some ⟨g + 1, rev⟩) (S : StoOK prog w s.heap μ σ) (r : RepR prog w s.heap μ v (.loc l)) (ry : Rep prog w s.heap μ y d)
    (h : ∀ h', Keep μ s.heap h' → StoOK prog w h' μ (σ.set l ⟨g, d :: rev⟩) → Q .none { s with heap := h' }) : wpAny (model prog w) A (call (.builtin "list.append") [v, y]) Q E s := by
  obtain ⟨a, rfl, ha⟩ := r
  obtain ⟨vs, p, rp, hb⟩ := S.is l a _ ha he
  have hlen := rp.length
  simp only [List.length_reverse] at hlen
  have hlen' : vs.size = rev.length := by simpa using hlen
  refine wpAny_list_append_plain p (fun h' p' hs => ?_) (by have := bnd_line; simp only at hb; omega)
  obtain ⟨S', keep⟩ := S.change (l := l) (e' := ⟨g, d :: rev⟩) ha hs p' (by simpa using rp.append (.cons ry .nil)) (by simp only [List.length_cons] at hb ⊢; omega)
  exact h _ keep S'

theorem set_ok {l i : Nat} {t : Tok} {v y : Value} {d : D} {e : Ent} {Q : Unit → Shared → Prop} (he : σ[l]? = some e) (hi : i < e.rev.length) (hi2 : i < 2 ^ 62) (S : StoOK prog w s.heap μ σ) (r : RepR prog w s.heap μ v (.loc l)) (ry : Rep prog w s.heap μ y d)
    (h : ∀ h', Keep μ s.heap h' → StoOK prog w h' μ (σ.set l ⟨e.g, (e.rev.reverse.set i d).reverse⟩) → Q () { s with heap := h' }) : wpAny (model prog w) A (setItem v (.int i t) y) Q E s := by
  obtain ⟨a, rfl, ha⟩ := r
  obtain ⟨vs, ⟨n, ho⟩, rp, hb⟩ := S.is l a _ ha he
  have hlen := rp.length
  simp only [List.length_reverse] at hlen
  have hvs : vs.size = e.rev.length := by simpa using hlen
  have hl : s.heap.IsList a vs := ⟨_, ho, rfl, n, rfl⟩
  have hj : i < vs.size := by omega
  have hf : ((i : Int)) < 2 ^ 63 := by
    have h2 : i < 4611686018427387904 := hi2
    have h3 : ((2 : Int) ^ 63) = 9223372036854775808 := rfl
    omega
  clear hi2
  obtain ⟨k, hk⟩ : ∃ k : Int, k = (i : Int) := ⟨_, rfl⟩
  rw [← hk] at hf ⊢
  have hk0 : 0 ≤ k := by omega
  unfold setItem
  refine wpAny_holding ?_
  refine wpAny_bind (wpAny_sequenceKey hl.typeIs (by decide) ?_)
  refine wpAny_bind (wpAny_callSpecial?_slot (name := Str.ofString "__setitem__") hl.typeIs slot_list_setitem
    (wpAny_call_entry slot_list_setitem hl.typeIs entry_list_setitem ?_ (args_list_setitem _ _ _)))
  show wpAny _ _ (Builtin.List.listSubscript? (.int k t) >>= _) _ _ s
  refine wpAny_bind (wpAny_listSubscript_int (fitsIndex_of hk0 hf) ?_)
  clear hf
  subst hk
  have hx' : vs[i]? = some vs[i] := Array.getElem?_eq_getElem hj
  show wpAny _ _ ((seqItemAt a i >>= fun r => pure (r.map (i, ·))) >>= _) _ _ s
  refine wpAny_bind (wpAny_bind (wpAny_seqItemAt ho rfl (wpAny_pure ?_)))
  rw [hx']
  show wpAny _ _ (setSeqItemAt a i y >>= _) _ _ s
  have q := PySem.IsL.update ho (·.setIfInBounds i y)
  have hs : Heap.SameBut a s.heap (s.heap.update a (Obj.mapSeq (·.setIfInBounds i y))) := Heap.SameBut.update ..
  obtain ⟨S', keep⟩ := S.change (l := l) (e' := ⟨e.g, (e.rev.reverse.set i d).reverse⟩) ha hs ⟨_, q⟩ (by simpa using rp.set ry i) (by simpa using hb)
  refine wpAny_bind (wpAny_setSeqItemAt ho rfl ?_)
  first
    | exact wpAny_bind (wpAny_pure (wpAny_pure ⟨.none, rfl, wpAny_pure (h _ keep S')⟩))
    | exact wpAny_pure ⟨.none, rfl, wpAny_pure (h _ keep S')⟩
end
end Mine

namespace Mine
open PySem PySem.W PyProof.Rows PySem.SeqAt

structure IterAt (prog : Program) (w : World) (s : Shared) (μ : Mu) (ds : List D) (I : Addr) (fp : List Addr) (P : Nat → Value → Prop) (St : Nat → Heap → Prop) (h' : Heap) : Prop where
  walks : ∀ A : Around, A.handled = none → Walks prog w A I fp [I] ds.length P St
  st : St 0 h'
  keep : ∀ b o, s.heap.get? b = some o → h'.get? b = some o
  new : s.heap.objs.size ≤ I
  lt : I < h'.objs.size
  fp : ∀ b ∈ fp, b = I ∨ (b ∉ μ.locs ∧ ∃ o vs n, s.heap.get? b = some o ∧ o.data = .seq vs n)
  item : ∀ i v, P i v → ∃ d, ds[i]? = some d ∧ ∀ h'', Keep μ s.heap h'' → Rep prog w h'' μ v d
  size : ds.length ≤ sizeLine
  plain : ∀ i h, St i h → ∃ o T, h.get? I = some o ∧ o.cls = .type T ∧ (["enumerate", "zip", "dict_itemiterator", "dict_reverseitemiterator", "odict_iterator", "itertools.zip_longest", "itertools.pairwise"].contains T) = false ∧ (["list", "tuple", "range"].contains T) = false ∧ ∃ fs, o.data = .fields fs

section
variable {prog : Program} {w : World} {A : Around} {E : Value → Shared → Prop} {s : Shared} {μ : Mu} {σ : Sto} {Q : Value → Shared → Prop}

theorem iter_ok {r : R} {ds : List D} {v : Value} (q : itemsOf r = some ds) (rv : RepR prog w s.heap μ v r) (S : StoOK prog w s.heap μ σ)
    (h : ∀ I fp P St h', IterAt prog w s μ ds I fp P St h' → Q (.ref I) { s with heap := h' }) : wpAny (model prog w) A (pyIter v) Q E s := by
  unfold itemsOf at q
  split at q
  · cases q
    cases rv with
    | @tup l o vs n _ h1 h2 h3 h4 h5 =>
      have hl : s.heap.IsTuple l vs := ⟨_, h1, h2, _, h3⟩
      have hlt := Heap.lt_size h1
      have hn : vs.size = ds.length := by simpa using h5.length
      refine wpAny_pyIter_tuple hl (h _ _ _ _ _ ⟨fun A' hA => hn ▸ Walks.tuple hA _ l (Nat.ne_of_lt hlt) vs, ⟨⟨_, Heap.get?_push_size _ rfl, rfl, rfl⟩, hl.push _⟩, fun b o e => Heap.get?_push_of_some _ e, Nat.le_refl _, by rw [Heap.size_push]; exact Nat.lt_succ_self _, fun b hb => ?_, fun i v hv => ?_, by omega, fun i h st => ?_⟩)
      · rcases List.mem_cons.mp hb with rfl | hb
        · exact .inl rfl
        · rw [List.mem_singleton.mp hb]
          exact .inr ⟨S.lists.not h1 h2 (by decide), _, _, _, h1, h3⟩
      · obtain ⟨d, hd, rd⟩ := h5.at (i := i) (v := v) (by simpa using hv)
        exact ⟨d, hd, fun h'' k => rd.keep S.lists k⟩
      · obtain ⟨⟨o, ho, hc, hd⟩, _⟩ := st
        exact ⟨o, _, ho, hc, by decide, by decide, _, hd⟩
  · cases q
    cases rv with
    | @lst l o vs n _ h1 h2 h3 h4 h6 h5 =>
      have hl : s.heap.IsList l vs := ⟨_, h1, h2, _, h3⟩
      have hlt := Heap.lt_size h1
      have hn : vs.size = ds.length := by simpa using h5.length
      refine wpAny_pyIter_list hl (h _ _ _ _ _ ⟨fun A' hA => hn ▸ Walks.list hA _ l (Nat.ne_of_lt hlt) vs, ⟨⟨_, Heap.get?_push_size _ rfl, rfl, rfl⟩, hl.push _⟩, fun b o e => Heap.get?_push_of_some _ e, Nat.le_refl _, by rw [Heap.size_push]; exact Nat.lt_succ_self _, fun b hb => ?_, fun i v hv => ?_, by omega, fun i h st => ?_⟩)
      · rcases List.mem_cons.mp hb with rfl | hb
        · exact .inl rfl
        · rw [List.mem_singleton.mp hb]
          exact .inr ⟨fun q => h6 (.inl q), _, _, _, h1, h3⟩
      · obtain ⟨d, hd, rd⟩ := h5.at (i := i) (v := v) (by simpa using hv)
        exact ⟨d, hd, fun h'' k => rd.keep S.lists k⟩
      · obtain ⟨⟨o, ho, hc, hd⟩, _⟩ := st
        exact ⟨o, _, ho, hc, by decide, by decide, _, hd⟩
  · rename_i n
    cases q
    cases rv with
    | @rng a _ t u v' h1 hb =>
      have hsz : Builtin.Range.rangeSize 0 (n : Int) 1 = (n : Int) := by
        rw [rangeSize_one]; split <;> omega
      have e62 : ((2 : Int) ^ 62) = 4611686018427387904 := rfl
      have hbn : n ≤ 1000 := hb
      refine wpAny_pyIter_range h1 (small_one (by omega) (by omega) (by omega) (by omega)) (h _ _ _ _ _ ⟨fun A' hA => by
        have := (Walks.range (prog := prog) (w := w) hA s.heap.objs.size 0 1 n).bound
        simpa using this, ?_, fun b o e => Heap.get?_push_of_some _ e, Nat.le_refl _, by rw [Heap.size_push]; exact Nat.lt_succ_self _, fun b hb => .inl (List.mem_singleton.mp hb), fun i v hv => ?_, by simp; have := bnd_line; omega, fun i h st => ⟨_, _, st, rfl, by decide, by decide, _, rfl⟩⟩)
      · show IsRangeIter _ _ _ _ _
        rw [hsz]
        simpa using Heap.get?_push_size s.heap (o := { cls := .type "range_iterator", data := .fields #[rawInt 0, rawInt (n : Int), rawInt 1] }) rfl
      · obtain ⟨hi, t', rfl⟩ := hv
        exact ⟨.int (i : Nat), by simp [hi], fun h'' _ => Rep.int _ _⟩
  · cases q

noncomputable def bval (f : Str) : Option Value :=
  if f == "len" then some (.builtin "len")
  else if f == "tuple" then some (.type "tuple")
  else if f == "list" then some (.type "list")
  else if f == "all" then some (.builtin "all")
  else if f == "max" then some (.builtin "max")
  else if f == "min" then some (.builtin "min")
  else if f == "range" then some (.type "range")
  else if f == "int" then some (.type "int")
  else none

theorem RepRs.one {h : Heap} {vs : List Value} {r : R} (q : RepRs prog w h μ vs [r]) : ∃ v, vs = [v] ∧ RepR prog w h μ v r := by
  cases q with
  | cons a q => cases q; exact ⟨_, rfl, a⟩
theorem RepRs.two {h : Heap} {vs : List Value} {r r' : R} (q : RepRs prog w h μ vs [r, r']) : ∃ v v', vs = [v, v'] ∧ RepR prog w h μ v r ∧ RepR prog w h μ v' r' := by
  cases q with
  | cons a q => cases q with
    | cons b q => cases q; exact ⟨_, _, rfl, a, b⟩

noncomputable def boolOf (v : Value) : Bool := match v with | .bool b => b | _ => false

theorem all_bools {h : Heap} : ∀ {xs : List D} {vs : List Value}, xs.all (fun d => match d with | .bool _ => true | _ => false) = true → RepL prog w h μ vs xs →
    (∀ v ∈ vs, ∃ b, v = .bool b) ∧ xs.all (fun d => match d with | .bool b => b | _ => false) = vs.all boolOf
  | [], _, _, r => by cases r; exact ⟨fun _ h => (nomatch h), rfl⟩
  | d :: xs, _, q, r => by
    cases r with
    | cons a r =>
      rw [List.all_cons, Bool.and_eq_true] at q
      obtain ⟨h1, h2⟩ := all_bools q.2 r
      cases d with
      | bool b =>
        cases a
        refine ⟨fun v hv => ?_, by rw [List.all_cons, List.all_cons, h2]; rfl⟩
        rcases List.mem_cons.mp hv with rfl | hv
        · exact ⟨_, rfl⟩
        · exact h1 v hv
      | _ => simp at q

theorem bcall_ok {f : Str} {rs : List R} {d : D} {vs : List Value} (q : bcall σ f rs = some d) (r : RepRs prog w s.heap μ vs rs) (S : StoOK prog w s.heap μ σ) (hh : A.handled = none)
    (h : Ret prog w s μ σ (.val d) false Q) : ∃ bv, bval f = some bv ∧ wpAny (model prog w) A (call bv vs) Q E s := by
  have hb := bnd_line
  unfold bcall at q
  unfold bval
  split at q
  · rename_i hf
    rw [if_pos hf]
    refine ⟨_, rfl, ?_⟩
    split at q
    · rename_i xs
      cases q
      obtain ⟨v, rfl, rv⟩ := r.one
      cases rv with
      | @tup l o ws n _ h1 h2 h3 h4 h5 =>
        have hn : ws.size = xs.length := by simpa using h5.length
        refine len_tuple (items := ws) ⟨_, h1, h2, _, h3⟩ (by have : sizeLine = 16777216 := rfl; omega) ?_
        rw [hn]
        exact h.same S (r := .val (.int _)) (Rep.int _ _) _
    · rename_i xs
      cases q
      obtain ⟨v, rfl, rv⟩ := r.one
      cases rv with
      | @lst l o ws n _ h1 h2 h3 h4 h6 h5 =>
        have hn : ws.size = xs.length := by simpa using h5.length
        refine Calls.call_len_list (items := ws) ⟨_, h1, h2, _, h3⟩ (by have : sizeLine = 16777216 := rfl; omega) ?_
        rw [hn]
        exact h.same S (r := .val (.int _)) (Rep.int _ _) _
    · rename_i l
      split at q
      · rename_i e he
        cases q
        obtain ⟨v, rfl, rv⟩ := r.one
        obtain ⟨a, rfl, ha⟩ := rv
        obtain ⟨ws, p, rp, hbn⟩ := S.is l a e ha he
        have hn : ws.size = e.rev.length := by simpa using rp.length
        refine Calls.call_len_list (items := ws) p.isList (by have : sizeLine = 16777216 := rfl; omega) ?_
        rw [hn]
        exact h.same S (r := .val (.int _)) (Rep.int _ _) _
      · cases q
    · cases q
  rename_i hf
  rw [if_neg hf]
  split at q
  · rename_i hf
    rw [if_pos hf]
    refine ⟨_, rfl, ?_⟩
    split at q
    · rename_i xs
      cases q
      obtain ⟨v, rfl, rv⟩ := r.one
      cases rv with
      | @lst l o ws n _ h1 h2 h3 h4 h6 h5 =>
        refine call_tuple_list (items := ws) ⟨_, h1, h2, _, h3⟩ (fun h' hk => ?_) h4
        have e : ws = ws.toList.toArray := by simp
        have kp : Keep μ s.heap (h'.push { cls := .type "tuple", data := .seq ws }) := Keep.of fun b o e => Heap.get?_push_of_some _ (hk b o e)
        refine h _ s.toks _ kp (S.keepAll fun b o e => Heap.get?_push_of_some _ (hk b o e)) ?_ (fun e => nomatch e)
        exact .tup (Heap.get?_push_size _ rfl) rfl rfl h4 (h5.keep S.lists kp)
    · cases q
  rename_i hf
  rw [if_neg hf]
  split at q
  · rename_i hf
    rw [if_pos hf]
    refine ⟨_, rfl, ?_⟩
    split at q
    · rename_i xs
      cases q
      obtain ⟨v, rfl, rv⟩ := r.one
      cases rv with
      | @tup l o ws n _ h1 h2 h3 h4 h5 =>
        refine call_list_seq l (T := "tuple") (.inr rfl) h1 h2 h3 (fun h' c' hk hn => ?_) h4
        refine h _ s.toks _ (Keep.of hk) (S.keepAll hk) ?_ (fun e => nomatch e)
        refine .lst hn rfl rfl h4 (fun hm => ?_) (h5.keep S.lists (Keep.of hk))
        obtain ⟨o', e'⟩ := S.here _ hm
        exact Nat.lt_irrefl _ (Heap.lt_size e')
    · cases q
  rename_i hf
  rw [if_neg hf]
  split at q
  · rename_i hf
    rw [if_pos hf]
    refine ⟨_, rfl, ?_⟩
    split at q
    · rename_i xs
      split at q
      · rename_i hbo
        cases q
        obtain ⟨v, rfl, rv⟩ := r.one
        cases rv with
        | @lst l o ws n _ h1 h2 h3 h4 h6 h5 =>
          obtain ⟨g1, g2⟩ := all_bools hbo h5
          have hl : s.heap.IsList l ws := ⟨_, h1, h2, _, h3⟩
          have hlt := Heap.lt_size h1
          refine call_all_walk (wpAny_pyIter_list hl ⟨_, _, _, _, _, _, fun i => boolOf (ws[i]?.getD .none), rfl, Walks.list (A := A.in1) hh _ l (Nat.ne_of_lt hlt) ws, ⟨⟨_, Heap.get?_push_size _ rfl, rfl, rfl⟩, hl.push _⟩, fun i v s' Q' E' hv hq => ?_, fun h' tk hk => ?_⟩)
          · obtain ⟨b, rfl⟩ := g1 v (by simpa using Array.mem_of_getElem? hv)
            have hq' : Q' (boolOf (ws[i]?.getD Value.none)) s' := hq
            rw [hv] at hq'
            exact wpAny_truthy_bool hq'
          · have kp : ∀ b o, s.heap.get? b = some o → h'.get? b = some o := fun b o e => hk b o (fun hm => by rw [List.mem_singleton.mp hm] at e; exact Nat.lt_irrefl _ (Heap.lt_size e)) (Heap.get?_push_of_some _ e)
            have key := h h' tk (.bool ((List.range ws.size).all fun i => boolOf (ws[i]?.getD .none))) (Keep.of kp) (S.keepAll kp) ?_ (fun e => nomatch e)
            · exact key
            · have e : (List.range ws.size).all (fun i => boolOf (ws[i]?.getD .none)) = xs.all (fun d => match d with | .bool b => b | _ => false) := by
                rw [g2]
                have e2 : ws.toList = (List.range ws.size).map fun i => ws[i]?.getD .none := by
                  apply List.ext_getElem?
                  intro i
                  by_cases hi : i < ws.size <;> simp [hi]
                rw [e2, List.all_map]
                rfl
              rw [e]
              exact Rep.bool _
      · cases q
    · cases q
  rename_i hf
  rw [if_neg hf]
  split at q
  · rename_i hf
    rw [if_pos hf]
    refine ⟨_, rfl, ?_⟩
    split at q
    · rename_i a b
      cases q
      obtain ⟨v, v', rfl, rv, rv'⟩ := r.two
      cases rv with
      | int _ t =>
        cases rv' with
        | int _ u =>
          refine max_two_ints hh fun h' tk hk => ?_
          refine h h' tk _ (Keep.of hk) (S.keepAll hk) ?_ (fun e => nomatch e)
          show Rep prog w h' μ _ _
          split
          · have : max a b = b := by omega
            rw [this]; exact Rep.int _ _
          · have : max a b = a := by omega
            rw [this]; exact Rep.int _ _
    · cases q
  rename_i hf
  rw [if_neg hf]
  split at q
  · rename_i hf
    rw [if_pos hf]
    refine ⟨_, rfl, ?_⟩
    split at q
    · rename_i a b
      cases q
      obtain ⟨v, v', rfl, rv, rv'⟩ := r.two
      cases rv with
      | int _ t =>
        cases rv' with
        | int _ u =>
          refine min_two_ints hh fun h' tk hk => ?_
          refine h h' tk _ (Keep.of hk) (S.keepAll hk) ?_ (fun e => nomatch e)
          show Rep prog w h' μ _ _
          split
          · have : min a b = b := by omega
            rw [this]; exact Rep.int _ _
          · have : min a b = a := by omega
            rw [this]; exact Rep.int _ _
    · cases q
  rename_i hf
  rw [if_neg hf]
  split at q
  · rename_i hf
    rw [if_pos hf]
    refine ⟨_, rfl, ?_⟩
    split at q
    · rename_i a
      split at q
      · rename_i ha
        cases q
        obtain ⟨v, rfl, rv⟩ := r.one
        cases rv with
        | int _ t =>
          refine call_range_1 (h.push S (r := .val (.rng a.toNat)) ?_ (fun e => nomatch e) _)
          have e : ((a.toNat : Nat) : Int) = a := by omega
          refine Rep.rng (t := s.toks) (u := t) (v := s.toks + 1) ?_ (by omega)
          rw [e]
          exact IsRange.new ..
      · cases q
    · cases q
  rename_i hf
  rw [if_neg hf]
  split at q
  · rename_i hf
    rw [if_pos hf]
    refine ⟨_, rfl, ?_⟩
    split at q
    · cases q
      obtain ⟨v, rfl, rv⟩ := r.one
      cases rv with
      | bool b => exact call_int_bool (h.same S (r := .val (.int _)) (Rep.int _ _) _)
    · cases q
  · cases q
end
end Mine

namespace Mine
open PySem PySem.W PyProof.Rows PySem.SeqAt

/-- what the text's top has left -/
structure Base (prog : Program) (w : World) (G : Str → Option D) (h₀ : Heap) (mg mb : Str → Option Value) : Prop where
  g : h₀.Ns mainGlobals mg
  b : h₀.Ns builtinsNs mb
  nolimit : h₀.NoLimit
  glo : ∀ x d, G x = some d → ∃ v, mg x = some v ∧ Rep prog w h₀ ⟨[], []⟩ v d
  bui : ∀ f bv, bval f = some bv → mg f = none ∧ mb f = some bv

structure EnvOK (env : Env) (sc : Names) : Prop where
  kind : env.scope.kind = .function
  names : env.scope.names = sc
  glob : env.globals = mainGlobals
  bui : env.builtins = builtinsNs
  cells : ∀ n, sc.lookup n = some .cell → ∃ c, env.cells.lookup n = some c

noncomputable def Loads (env : Env) (sc : Names) (h : Heap) (x : Str) (v : Value) : Prop :=
  (sc.lookup x = some .local ∧ ∃ m, h.Ns env.locals m ∧ m x = some v) ∨ (sc.lookup x = some .cell ∧ ∃ c, env.cells.lookup x = some c ∧ h.IsCell c (some v))

structure Inv (prog : Program) (w : World) (h₀ hb : Heap) (env : Env) (sc : Names) (h : Heap) (μ : Mu) (ρ : Loc) (σ : Sto) : Prop where
  eo : EnvOK env sc
  sub : ∀ b o, h₀.get? b = some o → hb.get? b = some o
  kb : Keep μ hb h
  off : ∀ a, μ.has a → h₀.get? a = none
  ns : ∃ m, h.Ns env.locals m
  loc : hb.get? env.locals = none
  cel : ∀ n, sc.lookup n = some .cell → ∃ c v, env.cells.lookup n = some c ∧ h.IsCell c v ∧ hb.get? c = none
  inj : ∀ n n' c, sc.lookup n = some .cell → sc.lookup n' = some .cell → env.cells.lookup n = some c → env.cells.lookup n' = some c → n = n'
  fr : ∀ x r, ρ.lookup x = some r → ∃ v, Loads env sc h x v ∧ RepR prog w h μ v r ∧ v ≠ .ref env.locals
  sto : StoOK prog w h μ σ

structure Room (A : Around) (n k : Nat) : Prop where
  hh : A.handled = none
  dep : A.depth + k < recursionLimit
  uni : A.units + n + 200 * (k + 1) + bnd + 100 < cLine

theorem Room.less {A : Around} {n m k : Nat} (R : Room A n k) (h : m ≤ n) : Room A m k := ⟨R.hh, R.dep, by have := R.uni; omega⟩
theorem Room.sub {A : Around} {n k : Nat} (R : Room A (n + 1) k) : Room A n k := R.less (Nat.le_succ _)
theorem Room.eq {A : Around} {n k : Nat} (R : Room A n k) : A.units + bnd + 1 < cLine := by have := R.uni; omega

section
variable {prog : Program} {w : World} {h₀ hb : Heap} {env : Env} {sc : Names} {h h' : Heap} {μ : Mu} {ρ : Loc} {σ σ' : Sto}

theorem StoOK.seqs (S : StoOK prog w h μ σ) : ∀ a ∈ μ.locs, ∀ o, h.get? a = some o → ∃ vs n, o.data = .seq vs n := by
  intro a ha o e
  obtain ⟨vs, n, e'⟩ := S.alive ha
  rw [e'] at e; cases e
  exact ⟨_, _, rfl⟩
theorem Ns.off {L : Addr} {m : Str → Option Value} (S : StoOK prog w h μ σ) (hn : h.Ns L m) : L ∉ μ.locs := by
  obtain ⟨o, es, ep, ho, hd, _⟩ := hn
  exact Lists.notData S.seqs ho (by rw [hd]; intro _ _ e; cases e)
theorem Ns.keep {L : Addr} {m : Str → Option Value} (S : StoOK prog w h μ σ) (k : Keep μ h h') (hn : h.Ns L m) : h'.Ns L m :=
  hn.at' fun o e => k L o (Ns.off S hn) e
theorem Cell.off {c : Addr} {v : Option Value} (S : StoOK prog w h μ σ) (hc : h.IsCell c v) : c ∉ μ.locs := by
  obtain ⟨o, ho, hd⟩ := hc
  exact Lists.notData S.seqs ho (by rw [hd]; intro _ _ e; cases e)
theorem Cell.keep {c : Addr} {v : Option Value} (S : StoOK prog w h μ σ) (k : Keep μ h h') (hc : h.IsCell c v) : h'.IsCell c v := by
  have hm := Cell.off S hc
  obtain ⟨o, ho, hd⟩ := hc
  exact ⟨o, k c o hm ho, hd⟩
theorem Loads.keep {x : Str} {v : Value} (S : StoOK prog w h μ σ) (k : Keep μ h h') (l : Loads env sc h x v) : Loads env sc h' x v := by
  rcases l with ⟨h1, m, h2, h3⟩ | ⟨h1, c, h2, h3⟩
  · exact .inl ⟨h1, m, Ns.keep S k h2, h3⟩
  · exact .inr ⟨h1, c, h2, Cell.keep S k h3⟩
theorem Inv.old (I : Inv prog w h₀ hb env sc h μ ρ σ) : ∀ b o, h₀.get? b = some o → h.get? b = some o :=
  fun b o e => I.kb b o (fun hm => by rw [I.off b (.inl hm)] at e; cases e) (I.sub b o e)
theorem Inv.keep (I : Inv prog w h₀ hb env sc h μ ρ σ) (k : Keep μ h h') (S : StoOK prog w h' μ σ') : Inv prog w h₀ hb env sc h' μ ρ σ' where
  eo := I.eo
  sub := I.sub
  kb := I.kb.trans k
  off := I.off
  ns := let ⟨m, hm⟩ := I.ns; ⟨m, Ns.keep I.sto k hm⟩
  loc := I.loc
  cel := fun n hn => let ⟨c, v, h1, h2, h3⟩ := I.cel n hn; ⟨c, v, h1, Cell.keep I.sto k h2, h3⟩
  inj := I.inj
  fr := fun x r e => let ⟨v, l, q, z⟩ := I.fr x r e; ⟨v, l.keep I.sto k, q.keep I.sto.lists k, z⟩
  sto := S
theorem NewAt.back {h₁ h₂ : Heap} {v : Value} {r : R} {σ₂ : Sto} (k : Keep μ h h₁) (S : StoOK prog w h₁ μ σ) (n : NewAt prog w h₁ h₂ μ σ₂ v r) : NewAt prog w h h₂ μ σ₂ v r := fun a ds ha hr => by
  obtain ⟨h1, h2⟩ := n a ds ha hr
  refine ⟨?_, h2⟩
  cases e : h.get? a with
  | none => rfl
  | some o =>
    by_cases hm : a ∈ μ.locs
    · obtain ⟨vs, n, e'⟩ := S.alive hm
      rw [e'] at h1; cases h1
    · rw [k a o hm e] at h1; cases h1

variable {A : Around} {E : Value → Shared → Prop} {s : Shared} {Q : Value → Shared → Prop} {G : Str → Option D} {mg mb : Str → Option Value}

theorem name_is {x : Str} {pos : Pos} {r : R} (I : Inv prog w h₀ hb env sc s.heap μ ρ σ) (hx : ρ.lookup x = some r) (hd : isDbg x = false) (h : ∀ v, RepR prog w s.heap μ v r → Q v s) : wpAny (model prog w) A (eval (.Name x pos) env) Q E s := by
  obtain ⟨v, l, q, _⟩ := I.fr x r hx
  have hq := h v q
  rcases l with ⟨h1, m, h2, h3⟩ | ⟨h1, c, h2, h3⟩
  · exact wpAny_Name (wpAny_loadName_local I.eo.kind (by show env.scope.names.lookup x = _; rw [I.eo.names]; exact h1) h2 h3 hq) hd
  · exact wpAny_Name (wpAny_loadName_cell I.eo.kind (by show env.scope.names.lookup x = _; rw [I.eo.names]; exact h1) h2 h3 hq) hd

theorem name_ok {x : Str} {pos : Pos} {r : R} (I : Inv prog w h₀ hb env sc s.heap μ ρ σ) (hx : ρ.lookup x = some r) (hd : isDbg x = false) (h : Ret prog w s μ σ r false Q) : wpAny (model prog w) A (eval (.Name x pos) env) Q E s :=
  name_is I hx hd fun _ q => h.same I.sto q s.toks

theorem global_ok {x : Str} {pos : Pos} {v : Value} (B : Base prog w G h₀ mg mb) (I : Inv prog w h₀ hb env sc s.heap μ ρ σ) (hx : sc.lookup x = some .globalImplicit) (hv : mg x = some v) (hd : isDbg x = false) (h : Q v s) : wpAny (model prog w) A (eval (.Name x pos) env) Q E s :=
  Calls.Name_function_global I.eo.kind (by show env.scope.names.lookup x = _; rw [I.eo.names]; exact hx) (Calls.loadGlobal_global (by rw [I.eo.glob]; exact B.g.keeps I.old) hv h) hd
theorem builtin_ok {x : Str} {pos : Pos} {v : Value} (B : Base prog w G h₀ mg mb) (I : Inv prog w h₀ hb env sc s.heap μ ρ σ) (hx : sc.lookup x = some .globalImplicit) (hv : bval x = some v) (hd : isDbg x = false) (h : Q v s) : wpAny (model prog w) A (eval (.Name x pos) env) Q E s :=
  let ⟨h1, h2⟩ := B.bui x v hv
  Calls.Name_function_global I.eo.kind (by show env.scope.names.lookup x = _; rw [I.eo.names]; exact hx) (Calls.loadGlobal_builtin (by rw [I.eo.glob]; exact B.g.keeps I.old) h1 (by rw [I.eo.bui]; exact B.b.keeps I.old) h2 h) hd

/-- where a def is called -/
noncomputable def CallOK (prog : Program) (w : World) (h₀ : Heap) (mg : Str → Option Value) (k : Nat) (f : Str) (as : List R) (σ : Sto) (r : R) (σ' : Sto) : Prop :=
  ∃ a o fd, mg f = some (.ref a) ∧ h₀.get? a = some o ∧ o.data = .func fd ∧
    ∀ (A : Around) (E : Value → Shared → Prop) (s : Shared) (μ : Mu) (vs : List Value) (Q : Value → Shared → Prop), Room A 0 k → (∀ b o, h₀.get? b = some o → s.heap.get? b = some o) → (∀ a, μ.has a → h₀.get? a = none) →
      StoOK prog w s.heap μ σ → RepRs prog w s.heap μ vs as → Ret prog w s μ σ' r (f == "_law_box") Q → wpAny (model prog w) A (call (.ref a) vs) Q E s

noncomputable def COK (prog : Program) (w : World) (h₀ : Heap) (mg : Str → Option Value) (k : Nat) (C : Orc) : Prop := ∀ f as σ r σ', C f as σ = some (r, σ') → CallOK prog w h₀ mg k f as σ r σ'

noncomputable def OkE (prog : Program) (w : World) (h₀ : Heap) (v : Ev) (n k : Nat) : Prop :=
  ∀ (sc : Names) (env : Env) (hb : Heap) (ρ : Loc) (σ : Sto) (e : Expr) (r : R) (σ' : Sto) (A : Around) (s : Shared) (μ : Mu) (E Q : Value → Shared → Prop),
    v.e sc ρ σ e = some (r, σ') → Room A n k → Inv prog w h₀ hb env sc s.heap μ ρ σ → Ret prog w s μ σ' r (newL e) Q → wpAny (model prog w) A (eval e env) Q E s
noncomputable def RetB (prog : Program) (w : World) (s : Shared) (μ : Mu) (σ : Sto) (b : Bool) (Q : Bool → Shared → Prop) : Prop :=
  ∀ h' tk, Keep μ s.heap h' → StoOK prog w h' μ σ → Q b { s with heap := h', toks := tk }
noncomputable def OkT (prog : Program) (w : World) (h₀ : Heap) (v : Ev) (n k : Nat) : Prop :=
  ∀ (sc : Names) (env : Env) (hb : Heap) (ρ : Loc) (σ : Sto) (e : Expr) (b : Bool) (σ' : Sto) (A : Around) (s : Shared) (μ : Mu) (E : Value → Shared → Prop) (Q : Bool → Shared → Prop),
    v.t sc ρ σ e = some (b, σ') → Room A n k → Inv prog w h₀ hb env sc s.heap μ ρ σ → RetB prog w s μ σ' b Q → wpAny (model prog w) A (isTrue e env (eval e env)) Q E s

theorem spliced_star {e : Expr} {es : List Expr} {pos : Pos} (h : isStarE e = false) : backTo pos (starEach (e :: es) env) = (false, eval e env) :: backTo pos (starEach es env) := by
  cases e <;> first | rfl | (cases h; done)

variable {v : Ev} {n k : Nat}

theorem evals_star {e : Expr} {es : List Expr} {rs : List R} (q : evals v sc ρ σ (e :: es) = some (rs, σ')) : isStarE e = false ∧ ∃ r σ1 rs', v.e sc ρ σ e = some (r, σ1) ∧ evals v sc ρ σ1 es = some (rs', σ') ∧ rs = r :: rs' := by
  obtain ⟨h1, q⟩ := gd_inv q
  obtain ⟨r, σ1, h2, q⟩ := b2_inv q
  obtain ⟨rs', σ2, h3, q⟩ := b2_inv q
  cases q
  exact ⟨by simpa using h1, r, σ1, rs', h2, h3, rfl⟩

theorem evals_ok (H : OkE prog w h₀ v n k) (R0 : Room A n k) {pos : Pos} : ∀ (es : List Expr) (s : Shared) (σ : Sto) (rs : List R) (Q : List Value → Shared → Prop), evals v sc ρ σ es = some (rs, σ') → Inv prog w h₀ hb env sc s.heap μ ρ σ →
    (∀ h' tk vs, Keep μ s.heap h' → StoOK prog w h' μ σ' → RepRs prog w h' μ vs rs → Q vs { s with heap := h', toks := tk }) → wpAny (model prog w) A (spliced (backTo pos (starEach es env))) Q E s
  | [], s, σ, rs, Q, q, I, h => by
    cases q
    exact wpAny_pure (h s.heap s.toks [] (Keep.refl _ _) I.sto .nil)
  | e :: es, s, σ, rs, Q, q, I, h => by
    obtain ⟨hs, r, σ1, rs', h1, h2, rfl⟩ := evals_star q
    rw [spliced_star hs]
    refine Calls.spliced_cons (H sc env hb ρ σ e r σ1 A s μ E _ h1 R0 I fun h' tk v k1 S1 q1 _ => ?_)
    refine evals_ok H R0 es { s with heap := h', toks := tk } σ1 rs' _ h2 (I.keep k1 S1) fun h'' tk' vs k2 S2 q2 => ?_
    exact h h'' tk' (v :: vs) (k1.trans k2) S2 (.cons (q1.keep S1.lists k2) q2)

theorem Ret.step {s : Shared} {h1 : Heap} {tk : Nat} {r : R} {fr : Bool} (h : Ret prog w s μ σ' r fr Q) (k1 : Keep μ s.heap h1) (S1 : StoOK prog w h1 μ σ) : Ret prog w { s with heap := h1, toks := tk } μ σ' r fr Q :=
  fun h' tk' v k2 S2 q2 n2 => h h' tk' v (k1.trans k2) S2 q2 fun e => (n2 e).back k1 S1
theorem RetB.step {s : Shared} {h1 : Heap} {tk : Nat} {b : Bool} {Q : Bool → Shared → Prop} (h : RetB prog w s μ σ' b Q) (k1 : Keep μ s.heap h1) : RetB prog w { s with heap := h1, toks := tk } μ σ' b Q :=
  fun h' tk' k2 S2 => h h' tk' (k1.trans k2) S2
theorem Ret.any {s : Shared} {r : R} {fr : Bool} (h : Ret prog w s μ σ r false Q) : Ret prog w s μ σ r fr Q := fun h' tk v k S q _ => h h' tk v k S q (fun e => nomatch e)

theorem evalArgs_nil {f : Value} {Q : Args → Shared → Prop} (h : Q ⟨[], []⟩ s) : wpAny (model prog w) A (evalArgs f true [] []) Q E s := by
  unfold evalArgs
  show wpAny _ A (spliced [] >>= _) Q E s
  refine wpAny_bind (Calls.spliced_nil (wpAny_bind (wpAny_pure ?_)))
  refine wpAny_holding ?_
  exact wpAny_bind (wpAny_pure (wpAny_bind (wpAny_pure (wpAny_pure h))))

theorem args_ok (H : OkE prog w h₀ v n k) (R0 : Room A n k) {f : Value} {pos : Pos} {es : List Expr} {s : Shared} {σ : Sto} {rs : List R} {Q : Args → Shared → Prop} (q : evals v sc ρ σ es = some (rs, σ')) (I : Inv prog w h₀ hb env sc s.heap μ ρ σ)
    (h : ∀ h' tk vs, Keep μ s.heap h' → StoOK prog w h' μ σ' → RepRs prog w h' μ vs rs → Q ⟨vs, []⟩ { s with heap := h', toks := tk }) : wpAny (model prog w) A (evalArgs f true (backTo pos (starEach es env)) []) Q E s := by
  cases es with
  | nil =>
    cases q
    exact evalArgs_nil (h s.heap s.toks [] (Keep.refl _ _) I.sto .nil)
  | cons e es =>
    have hs := (evals_star q).1
    have z := evals_ok (E := E) (pos := pos) H R0 (e :: es) s σ rs (fun vs s' => Q ⟨vs, []⟩ s') q I h
    rw [spliced_star hs] at z ⊢
    exact Calls.evalArgs_plain z

theorem noStar {es : List Expr} {rs : List R} {σ : Sto} {pos : Pos} (q : evals v sc ρ σ es = some (rs, σ')) : (backTo pos (starEach es env)).any (·.1) = false := by
  induction es generalizing σ rs with
  | nil => rfl
  | cons e es ih =>
    obtain ⟨hs, r, σ1, rs', h1, h2, rfl⟩ := evals_star q
    rw [spliced_star hs, List.any_cons, ih h2]; rfl
end
end Mine

namespace Mine
open PySem PySem.W PyProof.Rows PySem.SeqAt

section
variable {prog : Program} {w : World} {h₀ hb : Heap} {env : Env} {sc : Names} {μ : Mu} {ρ : Loc} {σ σ' : Sto} {A : Around} {E : Value → Shared → Prop} {s : Shared} {Q : Value → Shared → Prop} {C : Orc} {G : Str → Option D} {mg mb : Str → Option Value} {v : Ev} {n k : Nat}

theorem sub_plain {i : Expr} (h : ∀ lo up st p, i ≠ .Slice lo up st p) (o x : Value) : subscripted i false o x = operate [o, x] (getItem o x) := by
  cases i <;> first | rfl | exact absurd rfl (h _ _ _ _)

theorem index_ok (HE : OkE prog w h₀ v n k) {b i : Expr} {pos : Pos} {x y : R} {d : D} {σ1 σ2 : Sto} (hi : ∀ lo up st p, i ≠ .Slice lo up st p) (h1 : v.e sc ρ σ b = some (x, σ1)) (h2 : v.e sc ρ σ1 i = some (y, σ2)) (h3 : idxR σ2 x y = some d)
    (R0 : Room A n k) (I : Inv prog w h₀ hb env sc s.heap μ ρ σ) (h : Ret prog w s μ σ2 (.val d) false Q) : wpAny (model prog w) A (eval (.Subscript b i pos) env) Q E s := by
  refine Subscript_ (HE _ _ _ _ _ _ _ _ _ _ _ _ _ h1 R0 I fun h' tk o k1 S1 q1 _ => ?_)
  refine HE _ _ _ _ _ _ _ _ _ _ _ _ _ h2 R0 (I.keep k1 S1) fun h'' tk' u k2 S2 q2 _ => ?_
  exact idx_ok h3 S2 (q1.keep S1.lists k2) q2 (sub_plain hi _ _) ((h.step (tk := tk) k1 S1).step (tk := tk') k2 S2)

theorem const_ok {c : Const} {d : D} {nk : Nat} {pos : Pos} (q : constD c = some d) (S : StoOK prog w s.heap μ σ) (h : Ret prog w s μ σ (.val d) false Q) : wpAny (model prog w) A (eval (.Constant c nk pos) env) Q E s := by
  cases c with
  | none => cases q; exact wpAny_Constant_none (h.same S (r := .val .none) Rep.none s.toks)
  | bool b => cases q; exact wpAny_Constant_bool (h.same S (r := .val (.bool b)) (Rep.bool b) s.toks)
  | int i => cases q; exact wpAny_Constant_int (h.same S (r := .val (.int i)) (Rep.int i _) _)
  | str x => cases q; exact wpAny_Constant_str (h.same S (r := .val (.str x)) (Rep.str x _) _)
  | bytes b =>
    cases q
    show wpAny _ _ (mkTextBytes b.toArray) _ _ _
    exact wpAny_mkTextBytes (h.same S (r := .val (.bytes b.toArray)) (Rep.bytes _ _) _)
  | float => cases q
  | complex => cases q
  | ellipsis => cases q

theorem tuple_ok (HE : OkE prog w h₀ v n k) {es : List Expr} {nk : Nat} {pos : Pos} {rs : List R} {ds : List D} {σ1 : Sto} (h1 : evals v sc ρ σ es = some (rs, σ1)) (h2 : vals rs = some ds) (h3 : ds.length ≤ bnd)
    (R0 : Room A n k) (I : Inv prog w h₀ hb env sc s.heap μ ρ σ) (h : Ret prog w s μ σ1 (.val (.tup ds)) false Q) : wpAny (model prog w) A (eval (.Tuple es nk pos) env) Q E s := by
  refine wpAny_Tuple (evals_ok HE R0 es s σ rs _ h1 I fun h' tk vs k1 S1 q1 => ?_)
  have r := q1.vals h2
  have hz : vs.length ≤ sizeLine := by have := bnd_line; have := r.length; omega
  exact ⟨hz, (h.step (tk := tk) k1 S1).push S1 (rep_tuple_new r S1.lists hz) (fun e => nomatch e) tk⟩
theorem list_ok (HE : OkE prog w h₀ v n k) {es : List Expr} {pos : Pos} {rs : List R} {ds : List D} {σ1 : Sto} {fr : Bool} (h1 : evals v sc ρ σ es = some (rs, σ1)) (h2 : vals rs = some ds) (h3 : ds.length ≤ bnd)
    (R0 : Room A n k) (I : Inv prog w h₀ hb env sc s.heap μ ρ σ) (h : Ret prog w s μ σ1 (.val (.lst ds)) fr Q) : wpAny (model prog w) A (eval (.List es pos) env) Q E s := by
  refine wpAny_List (evals_ok HE R0 es s σ rs _ h1 I fun h' tk vs k1 S1 q1 => ?_)
  have r := q1.vals h2
  have hz : vs.length ≤ sizeLine := by have := bnd_line; have := r.length; omega
  exact ⟨hz, (h.step (tk := tk) k1 S1).pushList S1 r S1.here hz tk⟩

theorem and_ok (HE : OkE prog w h₀ v n k) {a b : Expr} {pos : Pos} {x : Bool} {r : R} {σ1 σ2 : Sto} (h1 : v.e sc ρ σ a = some (.val (.bool x), σ1)) (h2 : (if x then v.e sc ρ σ1 b else some (.val (.bool x), σ1)) = some (r, σ2))
    (R0 : Room A n k) (I : Inv prog w h₀ hb env sc s.heap μ ρ σ) (h : Ret prog w s μ σ2 r false Q) : wpAny (model prog w) A (eval (.BoolOp .And [a, b] pos) env) Q E s := by
  refine wpAny_And2 (HE _ _ _ _ _ _ _ _ _ _ _ _ _ h1 R0 I fun h' tk o k1 S1 q1 _ => ?_)
  cases q1
  refine wpAny_truthy_bool ?_
  cases x with
  | true =>
    simp only [if_true] at h2 ⊢
    exact HE _ _ _ _ _ _ _ _ _ _ _ _ _ h2 R0 (I.keep k1 S1) (h.step (tk := tk) k1 S1).any
  | false =>
    simp only [Bool.false_eq_true, if_false] at h2 ⊢
    cases h2
    exact h h' tk _ k1 S1 (Rep.bool false) (fun e => nomatch e)

theorem binop_ok (HE : OkE prog w h₀ v n k) {l r : Expr} {op : Operator} {pos : Pos} {a b d : D} {σ1 σ2 : Sto} (h1 : v.e sc ρ σ l = some (.val a, σ1)) (h2 : v.e sc ρ σ1 r = some (.val b, σ2)) (h3 : binD op a b = some d)
    (R0 : Room A n k) (I : Inv prog w h₀ hb env sc s.heap μ ρ σ) (h : Ret prog w s μ σ2 (.val d) false Q) : wpAny (model prog w) A (eval (.BinOp l op r pos) env) Q E s := by
  refine wpAny_BinOp (HE _ _ _ _ _ _ _ _ _ _ _ _ _ h1 R0 I fun h' tk o k1 S1 q1 _ => ?_)
  refine HE _ _ _ _ _ _ _ _ _ _ _ _ _ h2 R0 (I.keep k1 S1) fun h'' tk' u k2 S2 q2 _ => ?_
  exact bin_ok h3 S2 (Rep.keep S1.lists k2 q1) q2 ((h.step (tk := tk) k1 S1).step (tk := tk') k2 S2)

theorem ifexp_ok (HE : OkE prog w h₀ v n k) (HT : OkT prog w h₀ v n k) {t b o : Expr} {pos : Pos} {x : Bool} {r : R} {σ1 σ2 : Sto} (h1 : v.t sc ρ σ t = some (x, σ1)) (h2 : v.e sc ρ σ1 (if x then b else o) = some (r, σ2))
    (R0 : Room A n k) (I : Inv prog w h₀ hb env sc s.heap μ ρ σ) (h : Ret prog w s μ σ2 r false Q) : wpAny (model prog w) A (eval (.IfExp t b o pos) env) Q E s := by
  refine wpAny_IfExp (HT _ _ _ _ _ _ _ _ _ _ _ _ _ h1 R0 I fun h' tk k1 S1 => ?_)
  cases x with
  | true =>
    simp only [if_true] at h2 ⊢
    exact HE _ _ _ _ _ _ _ _ _ _ _ _ _ h2 R0 (I.keep k1 S1) (h.step (tk := tk) k1 S1).any
  | false =>
    simp only [Bool.false_eq_true, if_false] at h2 ⊢
    exact HE _ _ _ _ _ _ _ _ _ _ _ _ _ h2 R0 (I.keep k1 S1) (h.step (tk := tk) k1 S1).any

theorem compare_ok (HE : OkE prog w h₀ v n k) {l r : Expr} {op : CmpOp} {pos : Pos} {a b : R} {x : Bool} {σ1 σ2 : Sto} (hm : behindInMarks op r = false) (h1 : v.e sc ρ σ l = some (a, σ1)) (h2 : v.e sc ρ σ1 r = some (b, σ2)) (h3 : cmpR σ2 op a b = some x)
    (R0 : Room A n k) (I : Inv prog w h₀ hb env sc s.heap μ ρ σ) (h : Ret prog w s μ σ2 (.val (.bool x)) false Q) : wpAny (model prog w) A (eval (.Compare l [op] [r] pos) env) Q E s := by
  refine wpAny_Compare1 (HE _ _ _ _ _ _ _ _ _ _ _ _ _ h1 R0 I fun h' tk o k1 S1 q1 _ => ?_) hm
  refine HE _ _ _ _ _ _ _ _ _ _ _ _ _ h2 R0 (I.keep k1 S1) fun h'' tk' u k2 S2 q2 _ => ?_
  exact cmp_ok h3 S2 (q1.keep S1.lists k2) q2 R0.eq fun tk'' => h h'' tk'' _ (k1.trans k2) S2 (Rep.bool x) (fun e => nomatch e)

theorem testcmp_ok (HE : OkE prog w h₀ v n k) {l r : Expr} {op : CmpOp} {pos : Pos} {a b : R} {x : Bool} {σ1 σ2 : Sto} {whole : Sem Value} {Q : Bool → Shared → Prop} (hm : behindInMarks op r = false) (h1 : v.e sc ρ σ l = some (a, σ1)) (h2 : v.e sc ρ σ1 r = some (b, σ2)) (h3 : cmpR σ2 op a b = some x)
    (R0 : Room A n k) (I : Inv prog w h₀ hb env sc s.heap μ ρ σ) (h : RetB prog w s μ σ2 x Q) : wpAny (model prog w) A (isTrue (.Compare l [op] [r] pos) env whole) Q E s := by
  refine wpAny_isTrue_Compare1 (HE _ _ _ _ _ _ _ _ _ _ _ _ _ h1 R0 I fun h' tk o k1 S1 q1 _ => ?_) hm
  refine HE _ _ _ _ _ _ _ _ _ _ _ _ _ h2 R0 (I.keep k1 S1) fun h'' tk' u k2 S2 q2 _ => ?_
  exact cmp_ok h3 S2 (q1.keep S1.lists k2) q2 R0.eq fun tk'' => wpAny_truthy_bool (h h'' tk'' (k1.trans k2) S2)

/-- a call of a built-in, of a def of the text -/
theorem bval_some {f : Str} {rs : List R} {d : D} {σ1 : Sto} (h2 : bcall σ1 f rs = some d) : ∃ bv, bval f = some bv := by
  unfold bval
  repeat' (split; · exact ⟨_, rfl⟩)
  exfalso
  unfold bcall at h2
  rename_i g1 g2 g3 g4 g5 g6 g7 g8
  rw [if_neg g1, if_neg g2, if_neg g3, if_neg g4, if_neg g5, if_neg g6, if_neg g7, if_neg g8] at h2
  cases h2
theorem bval_kind {f : Str} {bv : Value} (hb : bval f = some bv) : (∃ id, bv = .builtin id) ∨ ∃ T, bv = .type T := by
  unfold bval at hb
  repeat' (split at hb; · (cases hb; first | exact .inl ⟨_, rfl⟩ | exact .inr ⟨_, rfl⟩))
  cases hb

theorem bcall_name_ok (HE : OkE prog w h₀ v n k) (B : Base prog w G h₀ mg mb) {f : Str} {es : List Expr} {np pos : Pos} {rs : List R} {d : D} {σ1 : Sto} (hd : isDbg f = false) (hf : sc.lookup f = some .globalImplicit) (h1 : evals v sc ρ σ es = some (rs, σ1)) (h2 : bcall σ1 f rs = some d)
    (R0 : Room A n k) (I : Inv prog w h₀ hb env sc s.heap μ ρ σ) (h : Ret prog w s μ σ1 (.val d) false Q) : wpAny (model prog w) A (eval (.Call (.Name f np) es [] pos) env) Q E s := by
  obtain ⟨bv, hb⟩ := bval_some h2
  refine wpAny_Call_ofName (builtin_ok B I hf hb hd ?_)
  have key : wpAny (model prog w) A (evalArgs bv true (backTo pos (starEach es env)) []) (fun a s₁ => wpAny (model prog w) A (call bv ([] ++ a.pos) a.kw) Q E s₁) E s := by
    refine args_ok HE R0 h1 I fun h' tk vs k1 S1 q1 => ?_
    obtain ⟨bv', hb', z⟩ := bcall_ok (A := A) (E := E) (s := { s with heap := h', toks := tk }) h2 q1 S1 R0.hh (h.step (tk := tk) k1 S1)
    rw [hb] at hb'; cases hb'
    exact z
  have hn := noStar (env := env) (pos := pos) h1
  rcases bval_kind hb with ⟨id, rfl⟩ | ⟨T, rfl⟩
  · exact Calls.callWith_builtin hn key
  · exact callWith_excType hn key

theorem ucall_ok (HE : OkE prog w h₀ v n k) (B : Base prog w G h₀ mg mb) (HC : COK prog w h₀ mg k C) {f : Str} {es : List Expr} {np pos : Pos} {rs : List R} {r : R} {σ1 σ2 : Sto} (hd : isDbg f = false) (hf : sc.lookup f = some .globalImplicit) (h1 : evals v sc ρ σ es = some (rs, σ1)) (h2 : C f rs σ1 = some (r, σ2))
    (R0 : Room A n k) (I : Inv prog w h₀ hb env sc s.heap μ ρ σ) (h : Ret prog w s μ σ2 r (f == "_law_box") Q) : wpAny (model prog w) A (eval (.Call (.Name f np) es [] pos) env) Q E s := by
  obtain ⟨a, o, fd, hm, ho, hfd, hc⟩ := HC _ _ _ _ _ h2
  refine wpAny_Call_ofName (global_ok B I hf hm hd ?_)
  refine Calls.callWith_function (o := o) (fd := fd) (args_ok HE R0 h1 I fun h' tk vs k1 S1 q1 => ⟨⟨(I.keep k1 S1).old _ _ ho, hfd⟩, ?_⟩)
  exact hc A E _ μ _ Q (R0.less (Nat.zero_le _)) (I.keep k1 S1).old I.off S1 q1 (h.step (tk := tk) k1 S1)
end
end Mine

namespace Mine
open PySem PySem.W PyProof.Rows PySem.SeqAt

section
variable {prog : Program} {w : World} {h₀ hb : Heap} {env : Env} {sc : Names} {μ : Mu} {ρ : Loc} {σ σ' : Sto} {A : Around} {E : Value → Shared → Prop} {s : Shared} {Q : Value → Shared → Prop} {C : Orc} {G : Str → Option D} {mg mb : Str → Option Value} {v : Ev} {n k : Nat}

theorem part_none {Q : Value → Shared → Prop} (h : Q .none s) : wpAny (model prog w) A (evalPart none env) Q E s := wpAny_pure h

/-- the parts that a slice's object keeps stand behind it as well -/
theorem slice_from_ok (HE : OkE prog w h₀ v n k) {b : Expr} {a nk : Nat} {cp sp pos : Pos} {x : R} {d : D} {σ1 : Sto} {fr : Bool} (h1 : v.e sc ρ σ b = some (x, σ1))
    (hd : (∃ xs, x = .val (.tup xs) ∧ d = .tup (xs.drop a) ∧ 1 ≤ a ∧ a ≤ xs.length) ∨ (∃ xs, x = .val (.lst xs) ∧ d = .lst (xs.drop a)))
    (R0 : Room A n k) (I : Inv prog w h₀ hb env sc s.heap μ ρ σ) (h : Ret prog w s μ σ1 (.val d) fr Q) : wpAny (model prog w) A (eval (.Subscript b (.Slice (some (.Constant (.int (a : Nat)) nk cp)) none none sp) pos) env) Q E s := by
  refine Subscript_ (HE _ _ _ _ _ _ _ _ _ _ _ _ _ h1 R0 I fun h' tk o k1 S1 q1 _ => ?_)
  refine wpAny_Slice ?_
  show wpAny _ A (eval (.Constant (.int (a : Nat)) nk cp) env) _ _ _
  refine wpAny_Constant_int (part_none (part_none ?_))
  dsimp only
  have kp := Keep.push μ h' { cls := .type "slice", data := .fields #[.int (a : Nat) tk, .none, .none] }
  have S2 := S1.keepAll (h' := h'.push { cls := .type "slice", data := .fields #[.int (a : Nat) tk, .none, .none] }) fun b o e => Heap.get?_push_of_some _ e
  have q2 := q1.keep S1.lists kp
  have hr := (h.step (tk := tk) k1 S1).step (s := { s with heap := h', toks := tk }) (h1 := h'.push { cls := .type "slice", data := .fields #[.int (a : Nat) tk, .none, .none] }) (tk := tk + 1) kp S2
  rcases hd with ⟨xs, rfl, rfl, ha, ha'⟩ | ⟨xs, rfl, rfl⟩
  · cases q2 with
    | @tup l o vs nn _ g1 g2 g3 g4 g5 =>
      have hn : vs.size = xs.length := by simpa using g5.length
      exact slice_tuple_ok (s := { s with heap := h'.push { cls := .type "slice", data := .fields #[.int (a : Nat) tk, .none, .none] }, toks := tk + 1 }) ⟨_, g1, g2, _, g3⟩ g4 (Heap.IsSliceOf.new ..) ha (by omega) S2 (g5.drop a) rfl hr
  · cases q2 with
    | @lst l o vs nn _ g1 g2 g3 g4 g6 g5 =>
      refine slice_list_ok (s := { s with heap := h'.push { cls := .type "slice", data := .fields #[.int (a : Nat) tk, .none, .none] }, toks := tk + 1 }) (lo := some (a : Nat)) (hi := none) (st := none) ⟨_, g1, g2, _, g3⟩ g4 (Heap.IsSliceOf.new ..) (.int _ _) .none .none (by simp) S2 ?_ rfl hr
      rw [slicePick_from']
      simpa using g5.drop a

theorem slice_m1_ok (HE : OkE prog w h₀ v n k) {fr : Bool} {b m : Expr} {sp pos : Pos} {xs : List D} {σ1 : Sto} (h1 : v.e sc ρ σ b = some (.val (.tup xs), σ1)) (hm : isM1 m = true)
    (R0 : Room A n k) (I : Inv prog w h₀ hb env sc s.heap μ ρ σ) (h : Ret prog w s μ σ1 (.val (.tup xs.reverse)) fr Q) : wpAny (model prog w) A (eval (.Subscript b (.Slice none none (some m) sp) pos) env) Q E s := by
  obtain ⟨nk, cp, up, rfl⟩ := isM1_inv hm
  refine Subscript_ (HE _ _ _ _ _ _ _ _ _ _ _ _ _ h1 R0 I fun h' tk o k1 S1 q1 _ => ?_)
  refine wpAny_Slice (part_none (part_none ?_))
  show wpAny _ A (eval (.UnaryOp .USub (.Constant (.int 1) nk cp) up) env) _ _ _
  refine wpAny_UnaryOp (wpAny_Constant_int (P.neg_int ?_))
  dsimp only
  have kp := Keep.push μ h' { cls := .type "slice", data := .fields #[.none, .none, .int (-1) (tk + 1)] }
  have S2 := S1.keepAll (h' := h'.push { cls := .type "slice", data := .fields #[.none, .none, .int (-1) (tk + 1)] }) fun b o e => Heap.get?_push_of_some _ e
  have q2 := q1.keep S1.lists kp
  have hr := (h.step (tk := tk) k1 S1).step (s := { s with heap := h', toks := tk }) (h1 := h'.push { cls := .type "slice", data := .fields #[.none, .none, .int (-1) (tk + 1)] }) (tk := tk + 1 + 1) kp S2
  cases q2 with
  | @tup l o vs nn _ g1 g2 g3 g4 g5 =>
    exact slice_rev_ok (s := { s with heap := h'.push { cls := .type "slice", data := .fields #[.none, .none, .int (-1) (tk + 1)] }, toks := tk + 1 + 1 }) ⟨_, g1, g2, _, g3⟩ g4 (Heap.IsSliceOf.new ..) S2 g5 rfl hr

/-- len(x) - z -/
theorem lenLess_ok (B : Base prog w G h₀ mg mb) {x z : Str} {lo : Expr} {l m : Nat} {en : Ent} {Q : Value → Shared → Prop} (q : lenLess x lo = some z) (hk : okLen sc x z = true) (hx : ρ.lookup x = some (.loc l)) (hz : ρ.lookup z = some (.val (.int (m : Nat)))) (he : σ[l]? = some en) (hle : (en.rev.take m).length = m)
    (hh : A.handled = none) (I : Inv prog w h₀ hb env sc s.heap μ ρ σ) (h : ∀ tk tk', Q (.int ((en.rev.length - m : Nat) : Int) tk) { s with toks := tk' }) : wpAny (model prog w) A (eval lo env) Q E s := by
  obtain ⟨p1, p2, p3, p4, p5, rfl⟩ := lenLess_spec q
  unfold okLen at hk
  rw [Bool.and_eq_true, Bool.and_eq_true] at hk
  obtain ⟨⟨hd1, hd2⟩, hlen⟩ := hk
  have hd1' : isDbg x = false := by simpa using hd1
  have hd2' : isDbg z = false := by simpa using hd2
  have hlen' : sc.lookup ("len" : Str) = some .globalImplicit := by simpa using hlen
  have hm : m ≤ en.rev.length := by rw [List.length_take] at hle; omega
  refine wpAny_BinOp (wpAny_Call_ofName (builtin_ok B I hlen' (show bval ("len" : Str) = some (.builtin "len") from rfl) (by decide +kernel) ?_))
  refine Calls.callWith_builtin rfl (Calls.evalArgs_plain (Calls.spliced_cons (name_is I hx hd1' fun u q1 => Calls.spliced_nil ?_)))
  dsimp only
  obtain ⟨a, rfl, ha⟩ := q1
  obtain ⟨ws, p, rp, hbn⟩ := I.sto.is l a en ha he
  have hn : ws.size = en.rev.length := by simpa using rp.length
  refine Calls.call_len_list (items := ws) p.isList (by have := bnd_is; omega) ?_
  have I' : Inv prog w h₀ hb env sc s.heap μ ρ σ := I
  refine name_is (s := { s with toks := s.toks + 1 + 1 }) I' hz hd2' fun u' q2 => ?_
  cases q2
  refine P.sub_int ?_
  rw [show ((ws.size : Nat) : Int) - (m : Nat) = ((en.rev.length - m : Nat) : Int) by omega]
  exact h _ _

theorem slice_tail_ok (B : Base prog w G h₀ mg mb) {x z : Str} {lo : Expr} {np sp pos : Pos} {l m : Nat} {en : Ent} {fr : Bool} (q : lenLess x lo = some z) (hk : okLen sc x z = true) (hx : ρ.lookup x = some (.loc l)) (hz : ρ.lookup z = some (.val (.int (m : Nat)))) (he : σ[l]? = some en) (hle : (en.rev.take m).length = m)
    (hh : A.handled = none) (I : Inv prog w h₀ hb env sc s.heap μ ρ σ) (h : Ret prog w s μ σ (.val (.lst (en.rev.take m).reverse)) fr Q) : wpAny (model prog w) A (eval (.Subscript (.Name x np) (.Slice (some lo) none none sp) pos) env) Q E s := by
  have hd1 : isDbg x = false := by
    unfold okLen at hk
    rw [Bool.and_eq_true, Bool.and_eq_true] at hk
    simpa using hk.1.1
  have hm : m ≤ en.rev.length := by rw [List.length_take] at hle; omega
  refine Subscript_ (name_is I hx hd1 fun u q1 => ?_)
  refine wpAny_Slice ?_
  show wpAny _ A (eval lo env) _ _ _
  refine lenLess_ok B q hk hx hz he hle hh I fun tk tk' => part_none (part_none ?_)
  dsimp only
  obtain ⟨a, rfl, ha⟩ := q1
  obtain ⟨ws, p, rp, hbn⟩ := I.sto.is l a en ha he
  have hn : ws.size = en.rev.length := by simpa using rp.length
  have hz' : ws.size ≤ sizeLine := by have := bnd_line; omega
  have kp := Keep.push μ s.heap { cls := .type "slice", data := .fields #[.int ((en.rev.length - m : Nat) : Int) tk, .none, .none] }
  have S2 := I.sto.keepAll (h' := s.heap.push { cls := .type "slice", data := .fields #[.int ((en.rev.length - m : Nat) : Int) tk, .none, .none] }) fun b o e => Heap.get?_push_of_some _ e
  have hr := h.step (h1 := s.heap.push { cls := .type "slice", data := .fields #[.int ((en.rev.length - m : Nat) : Int) tk, .none, .none] }) (tk := tk') kp S2
  refine slice_list_ok (s := { s with heap := s.heap.push { cls := .type "slice", data := .fields #[.int ((en.rev.length - m : Nat) : Int) tk, .none, .none] }, toks := tk' }) (lo := some ((en.rev.length - m : Nat) : Int)) (hi := none) (st := none) (p.isList.push _) hz' (Heap.IsSliceOf.new ..) (.int _ _) .none .none (by simp) S2 ?_ rfl hr
  rw [slicePick_from']
  have e : en.rev.reverse.drop (en.rev.length - m) = (en.rev.take m).reverse := by
    rw [List.reverse_take]
  have z := (rp.drop (en.rev.length - m)).keep I.sto.lists kp
  rw [e] at z
  simpa using z

/-- a display of a dict -/
theorem keysOf_cons {o : Option Expr} {ks : List (Option Expr)} {kk : List Str} (q : keysOf (o :: ks) = some kk) : ∃ k nk cp kk', o = some (.Constant (.str k) nk cp) ∧ keysOf ks = some kk' ∧ kk = k :: kk' := by
  obtain ⟨e, h1, q⟩ := b1_inv q
  obtain ⟨c, h2, q⟩ := b1_inv q
  obtain ⟨k, h3, q⟩ := b1_inv q
  obtain ⟨kk', h4, q⟩ := b1_inv q
  cases q
  obtain ⟨nk, cp, rfl⟩ := asC_inv h2
  obtain rfl := strC_inv h3
  exact ⟨k, nk, cp, kk', h1, h4, rfl⟩
theorem keysOf_all : ∀ {ks : List (Option Expr)} {kk : List Str}, keysOf ks = some kk → ks.all (·.isSome) = true ∧ ks.length = kk.length
  | [], _, q => by cases q; exact ⟨rfl, rfl⟩
  | o :: ks, kk, q => by
    obtain ⟨k, nk, cp, kk', rfl, hk, rfl⟩ := keysOf_cons q
    obtain ⟨h1, h2⟩ := keysOf_all hk
    exact ⟨by rw [List.all_cons, h1]; rfl, by rw [List.length_cons, List.length_cons, h2]⟩
theorem nodupS_spec : ∀ {l : List Str}, nodupS l = true → l.Nodup
  | [], _ => .nil
  | x :: xs, h => by
    unfold nodupS at h
    rw [Bool.and_eq_true] at h
    refine List.nodup_cons.mpr ⟨fun hm => ?_, nodupS_spec h.2⟩
    have := h.1
    rw [List.contains_iff_mem.mpr hm] at this
    cases this

theorem dict_pairs (HE : OkE prog w h₀ v n k) (R0 : Room A n k) {pos : Pos} : ∀ (ks : List (Option Expr)) (es : List Expr) (s : Shared) (σ : Sto) (kk : List Str) (rs : List R) (Q : List (Value × Value) → Shared → Prop), keysOf ks = some kk → kk.length = es.length → evals v sc ρ σ es = some (rs, σ') → Inv prog w h₀ hb env sc s.heap μ ρ σ →
    (∀ h' tk vs ps, Keep μ s.heap h' → StoOK prog w h' μ σ' → RepRs prog w h' μ vs rs → Carries (PySem.strKind prog w) ps (kk.zip vs) → Q ps { s with heap := h', toks := tk }) → wpAny (model prog w) A (evalPairs (pairTrees ks es env pos)) Q E s
  | [], es, s, σ, kk, rs, Q, q1, ql, q, I, h => by
    cases q1
    cases es with
    | cons => cases ql
    | nil =>
      cases q
      exact pairTrees_nil_walk (h s.heap s.toks [] [] (Keep.refl _ _) I.sto .nil trivial)
  | o :: ks, es, s, σ, kk, rs, Q, q1, ql, q, I, h => by
    obtain ⟨k', nk, cp, kk', rfl, hk, rfl⟩ := keysOf_cons q1
    cases es with
    | nil => cases ql
    | cons e es =>
      obtain ⟨hs, r1, σ1, rs', g1, g2, rfl⟩ := evals_star q
      refine pairTrees_cons_walk ?_
      refine wpAny_Constant_str ?_
      refine HE sc env hb ρ σ e r1 σ1 A { s with toks := s.toks + 1 } μ E _ g1 R0 I fun h' tk u k1 S1 q1 _ => ?_
      refine dict_pairs HE R0 ks es { s with heap := h', toks := tk } σ1 kk' rs' _ hk (Nat.succ.inj ql) g2 (I.keep k1 S1) fun h'' tk' vs ps k2 S2 q2 c2 => ?_
      exact h h'' tk' (u :: vs) ((.str k' s.toks, u) :: ps) (k1.trans k2) S2 (.cons (q1.keep S1.lists k2) q2) ⟨strKind_is prog w k' _, rfl, c2⟩

theorem valueAt_zip (x : Str) : ∀ (kk : List Str) (vs : List Value), valueAt (kk.zip vs) x = lookK x kk vs
  | [], _ => rfl
  | _ :: _, [] => rfl
  | k :: kk, v :: vs => by
    have ih := valueAt_zip x kk vs
    unfold valueAt at ih ⊢
    rw [List.zip_cons_cons, List.find?_cons]
    unfold lookK
    by_cases h : x = k
    · subst h; simp
    · have h1 : ¬ k = x := fun e => h e.symm
      simp only [h1, decide_false, beq_eq_false_iff_ne.mpr h, Bool.false_eq_true, if_false]
      exact ih

theorem dict_ok (HE : OkE prog w h₀ v n k) (B : Base prog w G h₀ mg mb) {ks : List (Option Expr)} {es : List Expr} {pos : Pos} {kk : List Str} {rs : List R} {ds : List D} {σ1 : Sto} (h0 : keysOf ks = some kk) (h1 : evals v sc ρ σ es = some (rs, σ1)) (h2 : vals rs = some ds) (h3 : okKeys kk ds.length = true)
    (R0 : Room A n k) (I : Inv prog w h₀ hb env sc s.heap μ ρ σ) (h : Ret prog w s μ σ1 (.dct kk ds) false Q) : wpAny (model prog w) A (eval (.Dict ks es pos) env) Q E s := by
  obtain ⟨g1, g2⟩ := keysOf_all h0
  unfold okKeys at h3
  simp only [Bool.and_eq_true, beq_iff_eq, decide_eq_true_eq, Bool.not_eq_true', List.isEmpty_eq_false_iff] at h3
  obtain ⟨⟨⟨e1, e2⟩, e3⟩, e4⟩ := h3
  have hlen : ∀ {es : List Expr} {σ : Sto} {rs : List R}, evals v sc ρ σ es = some (rs, σ1) → rs.length = es.length := by
    intro es
    induction es with
    | nil => intro σ rs q; cases q; rfl
    | cons e es ih =>
      intro σ rs q
      obtain ⟨_, r1, σ2, rs', _, q2, rfl⟩ := evals_star q
      rw [List.length_cons, List.length_cons, ih q2]
  have hvl : ∀ {rs : List R} {ds : List D}, vals rs = some ds → ds.length = rs.length := by
    intro rs
    induction rs with
    | nil => intro ds q; cases q; rfl
    | cons r rs ih =>
      intro ds q
      cases r with
      | loc => cases q
      | dct => cases q
      | val d =>
        rw [vals] at q
        split at q
        · rename_i ds' hq; cases q; rw [List.length_cons, List.length_cons, ih hq]
        · cases q
  have l1 := hlen h1
  have l2 := hvl h2
  have hmain : 3 < s.heap.objs.size := by
    obtain ⟨o, es', ep, ho, _⟩ := B.g.keeps I.old
    exact Heap.lt_size ho
  have kp0 := Keep.push μ s.heap { cls := .type "dict", data := .dict #[] }
  have S0 := I.sto.keepAll (h' := s.heap.push { cls := .type "dict", data := .dict #[] }) fun b o e => Heap.get?_push_of_some _ e
  have I0 := I.keep kp0 S0
  refine wpAny_Dict_walk (knd := PySem.strKind prog w) g1 (by omega) (fun e => e2 (by rw [e] at h0; cases h0; rfl)) (by omega) ?_
  refine dict_pairs HE R0 ks es { s with heap := s.heap.push { cls := .type "dict", data := .dict #[] } } σ kk rs _ h0 (by omega) h1 I0 fun h' tk vs ps k1 S1 q1 c1 => ?_
  have hoff : s.heap.objs.size ∉ μ.locs := fun hm => by
    obtain ⟨o, e⟩ := I.sto.here _ (.inl hm)
    exact Nat.lt_irrefl _ (Heap.lt_size e)
  have hnew : (s.heap.push { cls := .type "dict", data := .dict #[] }).DictOf (PySem.strKind prog w) s.heap.objs.size [] := Heap.DictOf.new ..
  refine ⟨kk.zip vs, c1, hnew.at fun o e => k1 _ o hoff e, fun h'' hm hs => ?_⟩
  have lv : vs.length = kk.length := by have := q1.length; omega
  have hz : ((kk.zip vs).map (·.1)).Nodup := by
    rw [List.map_fst_zip (by omega)]
    exact nodupS_spec e4
  rw [merged_nil_of_nodup _ hz] at hm
  have hat := (hnew.at fun o e => k1 _ o hoff e).mapOf
  have he : valueAt ([] : List (Str × Value)) = fun _ => none := rfl
  rw [he] at hat
  have kp2 : ∀ b o, b ≠ s.heap.objs.size → h'.get? b = some o → h''.get? b = some o := fun b o hb e => hs.extBut b o hb e
  have old : ∀ b o, s.heap.get? b = some o → b ≠ s.heap.objs.size := fun b o e => Nat.ne_of_lt (Heap.lt_size e)
  have kp : Keep μ s.heap h'' := fun b o hb e => kp2 b o (old b o e) (k1 b o hb (Heap.get?_push_of_some _ e))
  have S2 : StoOK prog w h'' μ σ1 := ⟨S1.len, S1.nodup, fun a ha => by
    obtain ⟨⟨o', eo'⟩, q⟩ := S1.more a ha
    obtain ⟨o, eo⟩ := I.sto.here a (.inr ha)
    exact ⟨⟨o', kp2 a o' (old a o eo) eo'⟩, q⟩, fun l a en hl hen => by
    obtain ⟨ws, p, r, bn⟩ := S1.is l a en hl hen
    obtain ⟨o, eo⟩ := I.sto.here a (.inl (List.mem_of_getElem? hl))
    exact ⟨ws, p.at fun o' e => kp2 a o' (old a o eo) e, r.fill hat kp2, bn⟩⟩
  have r2 := (q1.vals h2).fill hat kp2
  refine h h'' (tk + ps.length) _ kp S2 ?_ (fun e => nomatch e)
  exact ⟨_, _, vs, rfl, hm.mapOf, by rw [beq_eq_false_iff_ne]; show s.heap.objs.size ≠ 1; omega, fun x => valueAt_zip x kk vs, by omega, r2⟩
end
end Mine

namespace Mine
open PySem PySem.W PyProof.Rows PySem.SeqAt

/-- no datum is read at this address -/
structure UnRep (h : Heap) (μ : Mu) (a : Addr) : Prop where
  t : ∀ o vs n, h.get? a = some o → o.cls = .type "tuple" → o.data ≠ .seq vs n
  l : ∀ o vs n, h.get? a = some o → o.cls = .type "list" → o.data = .seq vs n → μ.has a
  r : ∀ n t u v, ¬ IsRange h a 0 n 1 t u v

section
variable {prog : Program} {w : World} {h₀ hb h h' : Heap} {env : Env} {sc : Names} {μ : Mu} {ρ : Loc} {σ σ' : Sto}

theorem UnRep.ns {a : Addr} {m : Str → Option Value} (hn : h.Ns a m) : UnRep h μ a := by
  obtain ⟨o, es, ep, ho, hd, _⟩ := hn
  refine ⟨fun o' vs n e _ q => ?_, fun o' vs n e _ q => ?_, fun n t u v e => ?_⟩
  · rw [ho] at e; cases e; rw [hd] at q; cases q
  · rw [ho] at e; cases e; rw [hd] at q; cases q
  · rw [show h.get? a = _ from e] at ho; cases ho; cases hd
theorem UnRep.cell {a : Addr} {v : Option Value} (hc : h.IsCell a v) : UnRep h μ a := by
  obtain ⟨o, ho, hd⟩ := hc
  refine ⟨fun o' vs n e _ q => ?_, fun o' vs n e _ q => ?_, fun n t u v e => ?_⟩
  · rw [ho] at e; cases e; rw [hd] at q; cases q
  · rw [ho] at e; cases e; rw [hd] at q; cases q
  · rw [show h.get? a = _ from e] at ho; cases ho; cases hd
theorem UnRep.cls {a : Addr} {o : Obj} {T : String} (ho : h.get? a = some o) (hc : o.cls = .type T) (hT : (["list", "tuple", "range"].contains T) = false) : UnRep h μ a := by
  refine ⟨fun o' vs n e q _ => ?_, fun o' vs n e q _ => ?_, fun n t u v e => ?_⟩
  · rw [ho] at e; cases e; rw [hc] at q; injection q with q; subst q; exact absurd hT (by decide)
  · rw [ho] at e; cases e; rw [hc] at q; injection q with q; subst q; exact absurd hT (by decide)
  · rw [show h.get? a = _ from e] at ho; cases ho; injection hc with q; subst q; exact absurd hT (by decide)
theorem UnRep.acc {a : Addr} {vs : Array Value} (p : h.PlainList a vs) (hm : μ.has a) : UnRep h μ a := by
  obtain ⟨n, ho⟩ := p
  refine ⟨fun o' vs n e q _ => ?_, fun o' vs n e q _ => hm, fun n t u v e => ?_⟩
  · rw [ho] at e; cases e; injection q with q; exact absurd q (by decide)
  · have q := (show h.get? a = _ from e).symm.trans ho
    injection q with q; injection q with q; injection q with q; exact absurd q (by decide)

mutual
theorem Rep.but {a : Addr} (U : UnRep h μ a) (k : ∀ b o, b ≠ a → h.get? b = some o → h'.get? b = some o) : ∀ {v : Value} {d : D}, Rep prog w h μ v d → Rep prog w h' μ v d
  | _, _, .none => .none
  | _, _, .bool b => .bool b
  | _, _, .int i t => .int i t
  | _, _, .str x t => .str x t
  | _, _, .bytes b t => .bytes b t
  | _, _, .tup e c d z r => .tup (k _ _ (fun q => by subst q; exact U.t _ _ _ e c d) e) c d z (RepL.but U k r)
  | _, _, .lst e c d z m r => .lst (k _ _ (fun q => by subst q; exact m (U.l _ _ _ e c d)) e) c d z m (RepL.but U k r)
  | _, _, .rng e l => .rng (show IsRange h' _ _ _ _ _ _ _ from k _ _ (fun q => by subst q; exact U.r _ _ _ _ e) e) l
theorem RepL.but {a : Addr} (U : UnRep h μ a) (k : ∀ b o, b ≠ a → h.get? b = some o → h'.get? b = some o) : ∀ {vs : List Value} {ds : List D}, RepL prog w h μ vs ds → RepL prog w h' μ vs ds
  | _, _, .nil => .nil
  | _, _, .cons a b => .cons (Rep.but U k a) (RepL.but U k b)
end
theorem RepR.but {a : Addr} {v : Value} {r : R} (U : UnRep h μ a) (k : ∀ b o, b ≠ a → h.get? b = some o → h'.get? b = some o) (hv : v ≠ .ref a) (q : RepR prog w h μ v r) : RepR prog w h' μ v r := by
  cases r with
  | val d => exact Rep.but U k q
  | loc l => exact q
  | dct ks ds =>
    obtain ⟨b, f, ws, h1, ⟨o, es, ep, ho, hx, rest⟩, h3, h4, h5, h6⟩ := q
    exact ⟨b, f, ws, h1, ⟨o, es, ep, k _ _ (fun e => hv (e ▸ h1)) ho, hx, rest⟩, h3, h4, h5, h6.but U k⟩
theorem StoOK.but {a : Addr} (S : StoOK prog w h μ σ) (U : UnRep h μ a) (ha : a ∉ μ.locs) (hm : a ∈ μ.more → ∃ o, h'.get? a = some o) (k : ∀ b o, b ≠ a → h.get? b = some o → h'.get? b = some o) : StoOK prog w h' μ σ where
  len := S.len
  nodup := S.nodup
  more := fun b hb => by
    obtain ⟨⟨o, e⟩, q⟩ := S.more b hb
    by_cases hba : b = a
    · subst hba; exact ⟨hm hb, q⟩
    · exact ⟨⟨o, k b o hba e⟩, q⟩
  is := fun l b e hl he => by
    obtain ⟨vs, p, r, bn⟩ := S.is l b e hl he
    have hba : b ≠ a := fun q => ha (q ▸ List.mem_of_getElem? hl)
    exact ⟨vs, p.at fun o e => k b o hba e, r.but U k, bn⟩
theorem Rep.ne {a : Addr} {v : Value} {d : D} (U : UnRep h μ a) (q : Rep prog w h μ v d) : v ≠ .ref a := by
  rintro rfl
  cases q with
  | tup e c d z r => exact U.t _ _ _ e c d
  | lst e c d z m r => exact m (U.l _ _ _ e c d)
  | rng e l => exact U.r _ _ _ _ e

theorem RepR.neCell {c : Addr} {v : Value} {r : R} {u : Option Value} (q : RepR prog w h μ v r) (S : StoOK prog w h μ σ) (hc : h.IsCell c u) : v ≠ .ref c := by
  rintro rfl
  cases r with
  | val d => exact Rep.ne (UnRep.cell hc) q rfl
  | loc l =>
    obtain ⟨a, e, ha⟩ := q
    cases e
    exact Cell.off S hc (List.mem_of_getElem? ha)
  | dct ks ds =>
    obtain ⟨b, f, ws, h1, ⟨o, es, ep, ho, hx, hdd, _⟩, _⟩ := q
    cases h1
    obtain ⟨o', ho', hd⟩ := hc
    rw [ho] at ho'; cases ho'
    rw [hdd] at hd; cases hd

/-- a local name given a value -/
theorem lookup_setL {x y : Str} {r : R} : ∀ {ρ : Loc}, (setL x r ρ).lookup y = if y == x then some r else ρ.lookup y
  | [] => by
    unfold setL
    by_cases h : (y == x) = true
    · rw [if_pos h, List.lookup_cons, h]
    · rw [if_neg h, List.lookup_cons, Bool.eq_false_iff.mpr h]
  | (z, q) :: ρ => by
    unfold setL
    by_cases hz : (x == z) = true
    · rw [if_pos hz, List.lookup_cons, List.lookup_cons]
      rw [beq_iff_eq] at hz; subst hz
      by_cases h : (y == x) = true
      · rw [if_pos h, h]
      · rw [if_neg h, Bool.eq_false_iff.mpr h]
    · rw [if_neg hz, List.lookup_cons, List.lookup_cons, lookup_setL]
      by_cases h : (y == z) = true
      · rw [h]
        have : (y == x) = false := by
          rw [beq_iff_eq] at h; subst h
          rw [beq_eq_false_iff_ne]; intro e; subst e; simp at hz
        rw [this]; rfl
      · rw [Bool.eq_false_iff.mpr h]

theorem Loads.butLocals {x y : Str} {v u : Value} {m : Str → Option Value} (l : Loads env sc h y u) (hns : h.Ns env.locals m) (hn : h'.Ns env.locals fun z => if z = x then some v else m z) (hs : Heap.SameBut env.locals h h') (hxy : y ≠ x) : Loads env sc h' y u := by
  rcases l with ⟨h1, m', h2, h3⟩ | ⟨h1, c, h2, h3⟩
  · refine .inl ⟨h1, _, hn, ?_⟩
    rw [if_neg hxy, hns.agree h2 y]; exact h3
  · refine .inr ⟨h1, c, h2, ?_⟩
    obtain ⟨o, ho, hd⟩ := h3
    refine ⟨o, hs.extBut c o (fun e => ?_) ho, hd⟩
    subst e
    obtain ⟨o', es, ep, ho', hd', _⟩ := hns
    rw [ho] at ho'; cases ho'; rw [hd] at hd'; cases hd'

theorem Inv.frameOff (I : Inv prog w h₀ hb env sc h μ ρ σ) : env.locals ∉ μ.locs := let ⟨_, hm⟩ := I.ns; Ns.off I.sto hm

theorem Inv.storeLocal {x : Str} {v : Value} {r : R} {m : Str → Option Value} (I : Inv prog w h₀ hb env sc h μ ρ σ) (hx : sc.lookup x = some .local) (hv : RepR prog w h μ v r) (hne : v ≠ .ref env.locals)
    (hns : h.Ns env.locals m) (hn : h'.Ns env.locals fun z => if z = x then some v else m z) (hs : Heap.SameBut env.locals h h') : Inv prog w h₀ hb env sc h' μ (setL x r ρ) σ := by
  have U : UnRep h μ env.locals := UnRep.ns hns
  have k : ∀ b o, b ≠ env.locals → h.get? b = some o → h'.get? b = some o := fun b o hb e => hs.extBut b o hb e
  have hal : ∃ o, h'.get? env.locals = some o := let ⟨o, _, _, ho, _⟩ := hn; ⟨o, ho⟩
  refine ⟨I.eo, I.sub, fun b o hbm e => k b o (fun q => by rw [q, I.loc] at e; cases e) (I.kb b o hbm e), I.off, ⟨_, hn⟩, I.loc, fun n hn' => ?_, I.inj, fun y q hy => ?_, I.sto.but U I.frameOff (fun _ => hal) k⟩
  · obtain ⟨c, u, h1, ⟨o, ho, hd⟩, h3⟩ := I.cel n hn'
    refine ⟨c, u, h1, ⟨o, k c o (fun e => ?_) ho, hd⟩, h3⟩
    subst e
    obtain ⟨o', es, ep, ho', hd', _⟩ := hns
    rw [ho] at ho'; cases ho'; rw [hd] at hd'; cases hd'
  · rw [lookup_setL] at hy
    split at hy
    · rename_i hyx
      rw [beq_iff_eq] at hyx; subst hyx
      cases hy
      exact ⟨v, .inl ⟨hx, _, hn, by simp⟩, hv.but U k hne, hne⟩
    · rename_i hyx
      obtain ⟨u, l, qv, z⟩ := I.fr y q hy
      exact ⟨u, l.butLocals hns hn hs (fun e => hyx (by rw [e]; exact beq_self_eq_true _)), qv.but U k z, z⟩

theorem Inv.storeCell {x : Str} {v : Value} {r : R} {c : Addr} {v₀ : Option Value} (I : Inv prog w h₀ hb env sc h μ ρ σ) (hx : sc.lookup x = some .cell) (hv : RepR prog w h μ v r) (hne : v ≠ .ref env.locals) (hcb : hb.get? c = none)
    (hl : env.cells.lookup x = some c) (hc : h.IsCell c v₀) (hn : h'.IsCell c (some v)) (hs : Heap.SameBut c h h') : Inv prog w h₀ hb env sc h' μ (setL x r ρ) σ := by
  have U : UnRep h μ c := UnRep.cell hc
  have k : ∀ b o, b ≠ c → h.get? b = some o → h'.get? b = some o := fun b o hb e => hs.extBut b o hb e
  have hal : ∃ o, h'.get? c = some o := let ⟨o, ho, _⟩ := hn; ⟨o, ho⟩
  obtain ⟨m, hm⟩ := I.ns
  have hLc : env.locals ≠ c := fun e => by
    obtain ⟨o, ho, hd⟩ := hc
    obtain ⟨o', es, ep, ho', hd', _⟩ := hm
    rw [e] at ho'
    rw [ho] at ho'; cases ho'; rw [hd] at hd'; cases hd'
  have hm' : h'.Ns env.locals m := hm.at' fun o e => k _ o hLc e
  refine ⟨I.eo, I.sub, fun b o hbm e => k b o (fun q => by rw [q, hcb] at e; cases e) (I.kb b o hbm e), I.off, ⟨m, hm'⟩, I.loc, fun n hn' => ?_, I.inj, fun y q hy => ?_, I.sto.but U (Cell.off I.sto hc) (fun _ => hal) k⟩
  · obtain ⟨c', u, h1, ⟨o, ho, hd⟩, h3⟩ := I.cel n hn'
    by_cases e : c' = c
    · subst e; exact ⟨c', _, h1, hn, h3⟩
    · exact ⟨c', u, h1, ⟨o, k c' o e ho, hd⟩, h3⟩
  · rw [lookup_setL] at hy
    split at hy
    · rename_i hyx
      rw [beq_iff_eq] at hyx; subst hyx
      cases hy
      exact ⟨v, .inr ⟨hx, c, hl, hn⟩, hv.but U k (hv.neCell I.sto hc), hne⟩
    · rename_i hyx
      obtain ⟨u, l, qv, z⟩ := I.fr y q hy
      refine ⟨u, ?_, qv.but U k (qv.neCell I.sto hc), z⟩
      rcases l with ⟨h1, m', h2, h3⟩ | ⟨h1, c', h2, h3⟩
      · exact .inl ⟨h1, m', h2.at' fun o e => k _ o hLc e, h3⟩
      · refine .inr ⟨h1, c', h2, ?_⟩
        obtain ⟨o, ho, hd⟩ := h3
        refine ⟨o, k c' o (fun e => hyx ?_) ho, hd⟩
        subst e
        rw [I.inj y x c' h1 hx h2 hl]; exact beq_self_eq_true _
end
end Mine

namespace Mine
open PySem PySem.W PyProof.Rows PySem.SeqAt

section
variable {prog : Program} {w : World} {h₀ hb : Heap} {env : Env} {sc : Names} {μ : Mu} {ρ : Loc} {σ σ' : Sto} {A : Around} {E : Value → Shared → Prop} {s : Shared} {C : Orc} {G : Str → Option D} {mg mb : Str → Option Value} {v : Ev} {n k : Nat}

theorem Inv.kind (I : Inv prog w h₀ hb env sc s.heap μ ρ σ) (x : Str) : env.kindOf x = sc.lookup x := by
  show env.scope.names.lookup x = _
  rw [I.eo.names]

theorem Inv.weak {h : Heap} {ρ' : Loc} (I : Inv prog w h₀ hb env sc h μ ρ σ) (q : ∀ y r, ρ'.lookup y = some r → ρ.lookup y = some r) : Inv prog w h₀ hb env sc h μ ρ' σ :=
  ⟨I.eo, I.sub, I.kb, I.off, I.ns, I.loc, I.cel, I.inj, fun x r e => I.fr x r (q x r e), I.sto⟩

/-- a local name is stored -/
theorem store_local_ok {x : Str} {u : Value} {r : R} {Q : Unit → Shared → Prop} (I : Inv prog w h₀ hb env sc s.heap μ ρ σ) (hx : sc.lookup x = some .local) (hv : RepR prog w s.heap μ u r) (hne : u ≠ .ref env.locals)
    (h : ∀ h' tk, Inv prog w h₀ hb env sc h' μ (setL x r ρ) σ → Heap.SameBut env.locals s.heap h' → Q () { s with heap := h', toks := tk }) : wpAny (model prog w) A (storeName env x u) Q E s := by
  obtain ⟨m, hm⟩ := I.ns
  refine wpAny_storeName_local (by rw [I.kind]; exact hx) hm (fun h' hn hs => ?_) (by rw [I.eo.kind]; rfl)
  exact h h' _ (I.storeLocal hx hv hne hm hn hs) hs

theorem clGo_none : True := trivial
noncomputable def clGo (env : Env) : Names → List (Str × Addr) → List (Str × Addr)
  | [], acc => acc
  | (n, k) :: r, acc => if k == .free then clGo env r ((n, (env.cells.lookup n).getD 0) :: acc) else clGo env r acc
theorem closure_is {scope : Scope} (h : ∀ p ∈ scope.names, p.2 = .free → ∃ c, env.cells.lookup p.1 = some c) : closureFor scope env = pure (clGo env scope.names []) := by
  unfold closureFor
  generalize hacc : ([] : List (Str × Addr)) = acc
  clear hacc
  generalize scope.names = names at h
  induction names generalizing acc with
  | nil => rfl
  | cons p names ih =>
    obtain ⟨x, kd⟩ := p
    have ih' := fun acc => ih acc fun p hp => h p (.tail _ hp)
    unfold clGo
    cases hk : (kd == NameKind.free) with
    | true =>
      rw [if_pos rfl]
      obtain ⟨c, hc⟩ := h (x, kd) (.head _) (by simpa using hk)
      rw [← ih', hc]
      simp only [List.forIn_cons, hk, if_true, Option.getD_some]
      unfold cellOf
      simp only at hc
      rw [hc]
      rfl
    | false =>
      rw [if_neg (by simp)]
      rw [← ih']
      simp only [List.forIn_cons, hk, Bool.false_eq_true, if_false]
      rfl
theorem clGo_sound : ∀ (names : Names) (acc : List (Str × Addr)), (∀ p ∈ names, p.2 = .free → ∃ c, env.cells.lookup p.1 = some c) → (∀ y c, acc.lookup y = some c → env.cells.lookup y = some c) → ∀ y c, (clGo env names acc).lookup y = some c → env.cells.lookup y = some c
  | [], _, _, ha, y, c, e => ha y c e
  | (n, kd) :: r, acc, h, ha, y, c, e => by
    unfold clGo at e
    split at e
    · rename_i hk
      obtain ⟨c', hc⟩ := h (n, kd) (.head _) (by simpa using hk)
      refine clGo_sound r _ (fun p hp => h p (.tail _ hp)) (fun z d hz => ?_) y c e
      rw [List.lookup_cons] at hz
      split at hz
      · rename_i hzn
        rw [beq_iff_eq] at hzn; subst hzn
        cases hz
        simp only at hc
        rw [hc]; rfl
      · exact ha z d hz
    · exact clGo_sound r _ (fun p hp => h p (.tail _ hp)) ha y c e
theorem clGo_some : ∀ (names : Names) (acc : List (Str × Addr)) (x : Str), ((x, NameKind.free) ∈ names ∨ (acc.lookup x).isSome) → ((clGo env names acc).lookup x).isSome
  | [], _, x, h => by
    rcases h with h | h
    · cases h
    · exact h
  | (n, kd) :: r, acc, x, h => by
    unfold clGo
    split
    · rename_i hk
      refine clGo_some r _ x ?_
      rcases h with h | h
      · rcases List.mem_cons.mp h with e | h
        · cases e
          exact .inr (by rw [List.lookup_cons, beq_self_eq_true]; rfl)
        · exact .inl h
      · refine .inr ?_
        rw [List.lookup_cons]
        split
        · rfl
        · exact h
    · rename_i hk
      refine clGo_some r _ x ?_
      rcases h with h | h
      · rcases List.mem_cons.mp h with e | h
        · cases e; exact absurd rfl hk
        · exact .inl h
      · exact .inr h

theorem lookup_mem {α : Type} {x : Str} : ∀ {l : List (Str × α)} {y : α}, l.lookup x = some y → (x, y) ∈ l
  | [], _, h => by simp at h
  | (z, u) :: l, y, h => by
    rw [List.lookup_cons] at h
    split at h
    · rename_i hz
      rw [beq_iff_eq] at hz; subst hz; cases h; exact .head _
    · exact .tail _ (lookup_mem h)
theorem lookup_filter {α : Type} {f : Str → Bool} {x : Str} : ∀ {l : List (Str × α)} {y : α}, (l.filter fun p => f p.1).lookup x = some y → f x = true ∧ l.lookup x = some y
  | [], _, h => by simp at h
  | (z, u) :: l, y, h => by
    rw [List.filter_cons] at h
    split at h
    · rename_i hf
      rw [List.lookup_cons] at h ⊢
      split at h
      · rename_i hz
        rw [beq_iff_eq] at hz; subst hz; cases h
        exact ⟨hf, by simp⟩
      · rename_i hz
        exact lookup_filter h
    · rename_i hf
      obtain ⟨h1, h2⟩ := lookup_filter h
      rw [List.lookup_cons]
      have hz : (x == z) = false := by
        rw [beq_eq_false_iff_ne]; intro e; subst e; exact hf h1
      rw [hz]; exact ⟨h1, h2⟩

structure OkSc (sc : Names) (scope : Scope) : Prop where
  kind : scope.kind = .function
  cell : ∀ p ∈ scope.names, p.2 ≠ .cell
  loc : ∀ p ∈ scope.names, p.2 = .local → scope.names.lookup p.1 = some .local
  free : ∀ p ∈ scope.names, p.2 = .free → sc.lookup p.1 = some .cell
theorem okScope_spec {scope : Scope} (h : okScope sc scope = true) : OkSc sc scope := by
  unfold okScope at h
  rw [Bool.and_eq_true, beq_iff_eq, List.all_eq_true] at h
  refine ⟨h.1, fun p hp => ?_, fun p hp hl => ?_, fun p hp hf => ?_⟩
  · have := h.2 p hp
    rw [Bool.and_eq_true, Bool.and_eq_true, bne_iff_ne] at this
    exact this.1.1
  · have := h.2 p hp
    rw [Bool.and_eq_true, Bool.and_eq_true] at this
    have := this.1.2
    rw [hl] at this
    simpa using this
  · have := h.2 p hp
    rw [Bool.and_eq_true, Bool.and_eq_true] at this
    have := this.2
    rw [hf] at this
    simpa using this

theorem compNames_cell {scope : Scope} (O : OkSc sc scope) {x : Str} (h : (compNames sc scope).lookup x = some .cell) : (x, NameKind.free) ∈ scope.names ∧ sc.lookup x = some .cell := by
  have hm := lookup_mem h
  unfold compNames at hm
  obtain ⟨⟨y, kd⟩, hp, e⟩ := List.mem_map.mp hm
  dsimp only at e
  split at e
  · rename_i hc
    rw [Bool.and_eq_true, beq_iff_eq, beq_iff_eq] at hc
    cases e
    obtain ⟨rfl, h2⟩ := hc
    exact ⟨hp, h2⟩
  · cases e
    exact absurd rfl (O.cell _ hp)

theorem relabel_names {scope : Scope} (eo : EnvOK env sc) : (relabel scope env).names = compNames sc scope := by
  unfold relabel compNames
  dsimp only
  congr 1
  funext ⟨x, kd⟩
  dsimp only
  have e : env.kindOf x = sc.lookup x := by show env.scope.names.lookup x = _; rw [eo.names]
  rw [e, eo.kind]
  simp

theorem letTuple_ok {elts : List Expr} {nk : Nat} {pos : Pos} {I : Addr} {v : Value} {Q : Unit → Shared → Prop} (hp : ∃ o T, s.heap.get? I = some o ∧ o.cls = .type T ∧ (["enumerate", "zip", "dict_itemiterator", "dict_reverseitemiterator", "odict_iterator", "itertools.zip_longest", "itertools.pairwise"].contains T) = false) (hQ : Q () s) :
    wpAny (model prog w) A (letOwnedTupleGo (.Tuple elts nk pos) (.ref I) v) Q E s := by
  obtain ⟨o, T, ho, hc, hT⟩ := hp
  unfold letOwnedTupleGo
  cases v with
  | ref a =>
    refine wpAny_bind (wpAny_load ho ?_)
    rw [hc]
    cases hd : o.data with
    | fields vs =>
      show wpAny _ A (if ((["enumerate", "zip", "dict_itemiterator", "dict_reverseitemiterator", "odict_iterator", "itertools.zip_longest", "itertools.pairwise"].contains T) && vs[0]? == some (rawInt a)) = true then _ else _) Q E s
      rw [hT, Bool.false_and, if_neg (by simp)]
      exact wpAny_pure hQ
    | _ => exact wpAny_pure hQ
  | _ => exact wpAny_pure hQ

theorem bind_ok {sc' : Names} {cenv : Env} {tgt : Expr} {d : D} {ρ1 : Loc} {u : Value} {Q : Unit → Shared → Prop} (q : bindTgt sc' ρ tgt d = some ρ1) (I : Inv prog w h₀ hb cenv sc' s.heap μ ρ σ) (rv : Rep prog w s.heap μ u d) (hh : A.handled = none)
    (h : ∀ h' tk, Inv prog w h₀ hb cenv sc' h' μ ρ1 σ → (∀ b o, b ≠ cenv.locals → s.heap.get? b = some o → h'.get? b = some o) → Q () { s with heap := h', toks := tk }) : wpAny (model prog w) A (assign tgt cenv u) Q E s := by
  obtain ⟨m, hm⟩ := I.ns
  have U : UnRep s.heap μ cenv.locals := UnRep.ns hm
  rcases bindTgt_inv q with ⟨x, p, rfl, hx, rfl⟩ | ⟨x, p, y, p', kk, p'', a, b, rfl, rfl, hx, hy, rfl⟩
  · exact wpAny_assign_Name (store_local_ok I hx (r := .val _) rv (Rep.ne U rv) fun h' tk I' hs => h h' tk I' fun b o hb e => hs.extBut b o hb e)
  · · skip
      cases rv with
      | @tup l o vs nn _ g1 g2 g3 g4 g5 =>
        have hlt := Heap.lt_size g1
        obtain ⟨va, vb, hvs, ra, rb⟩ : ∃ va vb, vs.toList = [va, vb] ∧ Rep prog w s.heap μ va a ∧ Rep prog w s.heap μ vb b := by
          generalize vs.toList = l at g5
          cases g5 with
          | cons ra g5 => cases g5 with
            | cons rb g5 => cases g5; exact ⟨_, _, rfl, ra, rb⟩
        refine wpAny_assign_Tuple hh ⟨_, g1, g2, _, g3⟩ ?_ rfl fun h1 hx1 => ?_
        · show 2 = vs.size
          rw [← Array.length_toList, hvs]; rfl
        rw [hvs]
        have k1 : ∀ b o, s.heap.get? b = some o → h1.get? b = some o := fun b o e => hx1 b o (Nat.ne_of_lt (Heap.lt_size e)) e
        have I1 := I.keep (Keep.of k1) (I.sto.keepAll k1)
        have U1 : UnRep h1 μ cenv.locals := UnRep.ns (hm.at' fun o e => k1 _ o e)
        have ra1 := Rep.keep I.sto.lists (Keep.of k1) ra
        have rb1 := Rep.keep I.sto.lists (Keep.of k1) rb
        refine assignInOrder_cons ?_
        refine wpAny_assign_Name (store_local_ok (s := { s with heap := h1 }) I1 hx (r := .val a) ra1 (Rep.ne U1 ra1) fun h2 tk I2 hs2 => ?_)
        obtain ⟨m2, hm2⟩ := I2.ns
        have U2 : UnRep h2 μ cenv.locals := UnRep.ns hm2
        have rb2 : Rep prog w h2 μ vb b := Rep.but U1 (fun b o hb e => hs2.extBut b o hb e) rb1
        refine assignInOrder_cons ?_
        refine wpAny_assign_Name (store_local_ok (s := { s with heap := h2, toks := tk }) I2 hy (r := .val b) rb2 (Rep.ne U2 rb2) fun h3 tk3 I3 hs3 => ?_)
        refine assignInOrder_nil ?_
        exact h h3 tk3 I3 fun b o hb e => hs3.extBut b o hb (hs2.extBut b o hb (k1 b o e))

theorem tests_ok (HT : OkT prog w h₀ v n k) {sc' : Names} {cenv : Env} {ifs : List Expr} {b : Bool} {Q : Bool → Shared → Prop} (q : testsRun v sc' ρ ifs σ = some (b, σ')) (R0 : Room A n k) (I : Inv prog w h₀ hb cenv sc' s.heap μ ρ σ) (h : RetB prog w s μ σ' b Q) :
    wpAny (model prog w) A (forIn ifs true fun c r => if r = true then do let ok ← isTrue c cenv (eval c cenv); pure (ForInStep.yield ok) else pure (ForInStep.yield r)) Q E s := by
  unfold testsRun at q
  split at q
  · cases q
    exact wpAny_tests_nil (h s.heap s.toks (Keep.refl _ _) I.sto)
  · exact wpAny_tests_one (HT _ _ _ _ _ _ _ _ _ _ _ _ _ q R0 I h)
  · cases q
end
end Mine

namespace Mine
open PySem PySem.W PyProof.Rows PySem.SeqAt

section
variable {prog : Program} {w : World} {h₀ hb : Heap} {env : Env} {sc : Names} {μ : Mu} {ρ : Loc} {σ σ' : Sto} {A : Around} {E : Value → Shared → Prop} {s : Shared} {C : Orc} {G : Str → Option D} {mg mb : Str → Option Value} {v : Ev} {n k : Nat}

/-- where a comprehension stands before a turn -/
structure CS (prog : Program) (w : World) (h₀ hb hi : Heap) (cenv : Env) (sc' : Names) (μ : Mu) (ρ : Loc) (dA : Addr) (St : Nat → Heap → Prop) (i : Nat) (h : Heap) (vs : Array Value) (acc : List D) (σ : Sto) : Prop where
  inv : Inv prog w h₀ hb cenv sc' h (μ.plus dA) ρ σ
  st : St i h
  ac : h.PlainList dA vs
  rep : RepL prog w h (μ.plus dA) vs.toList acc
  kb : Keep μ hi h
  len : acc.length ≤ i

structure CFix (prog : Program) (w : World) (h₀ hb hi : Heap) (cenv : Env) (μ : Mu) (dA I : Addr) (fp : List Addr) (sc' : Names) (ρ : Loc) : Prop where
  dI : dA ≠ I
  dC : dA ≠ cenv.locals
  iC : I ≠ cenv.locals
  dM : ¬ μ.has dA
  iM : ¬ μ.has I
  dF : dA ∉ fp
  cF : cenv.locals ∉ fp
  fF : ∀ b ∈ fp, b = I ∨ b ∉ μ.locs
  dH : hi.get? dA = none
  iH : hi.get? I = none
  cH : hi.get? cenv.locals = none
  iB : hb.get? I = none
  dB : hb.get? dA = none
  i0 : h₀.get? I = none
  d0 : h₀.get? dA = none
  lists : Lists μ hi
  here : ∀ a, μ.has a → ∃ o, hi.get? a = some o
  loc : ∀ x, sc'.lookup x = some .local → ρ.lookup x = none

/-- an object that no datum is read from is changed: the iterator -/
theorem Inv.other {h h' : Heap} {I : Addr} {cenv : Env} (X : Inv prog w h₀ hb cenv sc h μ ρ σ) (U : UnRep h μ I) (hL : I ≠ cenv.locals) (hcl : ∀ u, ¬ h.IsCell I u) (hd : (∀ o es ep, h.get? I = some o → o.data ≠ .dict es ep) ∨ ∀ x ks ds, ρ.lookup x ≠ some (.dct ks ds)) (hI : I ∉ μ.locs) (hal : I ∈ μ.more → ∃ o, h'.get? I = some o) (iB : hb.get? I = none)
    (k : ∀ b o, b ≠ I → h.get? b = some o → h'.get? b = some o) : Inv prog w h₀ hb cenv sc h' μ ρ σ := by
  have hCI : ∀ {a : Addr} {u}, h.IsCell a u → a ≠ I := fun hm e => hcl _ (e ▸ hm)
  refine ⟨X.eo, X.sub, fun b o hbm e => k b o (fun q => by rw [q, iB] at e; cases e) (X.kb b o hbm e), X.off, ?_, X.loc, fun n hn => ?_, X.inj, fun x r e => ?_, X.sto.but U hI hal k⟩
  · obtain ⟨m, hm⟩ := X.ns
    exact ⟨m, hm.at' fun o e => k _ o (Ne.symm hL) e⟩
  · obtain ⟨c, u, h1, h2, h3⟩ := X.cel n hn
    have := hCI h2
    obtain ⟨o', ho', hd'⟩ := h2
    exact ⟨c, u, h1, ⟨o', k _ o' this ho', hd'⟩, h3⟩
  · obtain ⟨u, l, q, z⟩ := X.fr x r e
    refine ⟨u, ?_, ?_, z⟩
    · rcases l with ⟨h1, m', h2, h3⟩ | ⟨h1, c', h2, h3⟩
      · exact .inl ⟨h1, m', h2.at' fun o e => k _ o (Ne.symm hL) e, h3⟩
      · have := hCI h3
        obtain ⟨o', ho', hd'⟩ := h3
        exact .inr ⟨h1, c', h2, o', k _ o' this ho', hd'⟩
    · cases r with
      | val d => exact Rep.but U k q
      | loc l => exact q
      | dct ks ds =>
        obtain ⟨b, f, ws, h1, ⟨o', es, ep, ho', hx, hdd, rest⟩, h3, h4, h5, h6⟩ := q
        exact ⟨b, f, ws, h1, ⟨o', es, ep, k _ _ (fun e' => hd.elim (fun hd => hd o' es ep (e' ▸ ho') hdd) (fun hd => hd _ _ _ e)) ho', hx, hdd, rest⟩, h3, h4, h5, h6.but U k⟩

theorem comp_loop (HE : OkE prog w h₀ v n k) (HT : OkT prog w h₀ v n k) (R0 : Room A n k) {elt tgt iter : Expr} {ifs : List Expr} {scope : Scope} {pos : Pos} {cenv : Env} {sc' : Names} {I dA : Addr} {fp : List Addr} {P : Nat → Value → Prop} {St : Nat → Heap → Prop}
    {s0 : Shared} {hx : Heap} {all ys : List D} {R : Result → Shared → Prop} (IT : IterAt prog w s0 μ all I fp P St hx) (F : CFix prog w h₀ hb s0.heap cenv μ dA I fp sc' ρ)
    (hR : ∀ h' tk vs', vs'.size ≤ sizeLine → Keep μ s0.heap h' → StoOK prog w h' (μ.plus dA) σ' → h'.PlainList dA vs' → RepL prog w h' (μ.plus dA) vs'.toList ys → (∃ m, h'.Ns cenv.locals m) → R (.ok .next) { s0 with heap := h', toks := tk }) :
    ∀ (ds : List D) (i : Nat) (h : Heap) (tk : Nat) (σ : Sto) (vs : Array Value) (acc : List D), all.drop i = ds → i ≤ all.length → compRun v sc' tgt elt ifs ρ ds σ acc = some (ys, σ') → CS prog w h₀ hb s0.heap cenv sc' μ ρ dA St i h vs acc σ →
      codeAny (model prog w) A (.compLoop (.ListComp elt [⟨tgt, iter, ifs, 0⟩] scope pos) 0 (.ref I) (.ref dA) cenv) R { s0 with heap := h, toks := tk }
  | [], i, h, tk, σ, vs, acc, hd, hi, q, S => by
    cases q
    have hn : i = all.length := by
      have := congrArg List.length hd
      rw [List.length_drop, List.length_nil] at this; omega
    refine codeAny_of_tree ?_
    show wpAny _ A ((compTurn (.ListComp elt [⟨tgt, iter, ifs, 0⟩] scope pos) 0 (.ref I) (.ref dA) cenv).onRaise (fun x => do noteFrame x cenv; theTreesLotGoes x)) _ _ _
    refine wpAny_noted ?_
    rw [compTurn_list]
    obtain ⟨o, T, ho, hc, hT, hT', fs, hfs⟩ := IT.plain i h S.st
    refine wpAny_bind (wpAny_standAt (wpAny_bind ((IT.walks A R0.hh).done _ _ _ (hn ▸ S.st) fun h1 tk1 k1 => ?_)))
    have k1' : ∀ b o, b ≠ I → h.get? b = some o → h1.get? b = some o := fun b o hb e => k1 b o (by simpa using hb) e
    have hIm : ¬ (μ.plus dA).has I := fun q => (Mu.plus_has.mp q).elim (fun e => F.dI e.symm) F.iM
    have I1 := S.inv.other (UnRep.cls ho hc hT') F.iC (fun u q => by obtain ⟨o', e', d'⟩ := q; rw [ho] at e'; cases e'; rw [hfs] at d'; cases d') (.inl fun o' es ep e' d' => by rw [ho] at e'; cases e'; rw [hfs] at d'; cases d') (fun q => hIm (.inl q)) (fun q => absurd (.inr q) hIm) F.iB k1'
    refine wpAny_pure ?_
    have hvs : vs.size ≤ sizeLine := by
      have h1 := S.rep.length
      have h2 := S.len
      have h4 := IT.size
      have h3 : vs.toList.length = vs.size := by simp
      omega
    refine hR h1 tk1 vs hvs (fun b o hb e => k1' b o (fun q => by rw [q, F.iH] at e; cases e) (S.kb b o hb e)) I1.sto ?_ ?_ I1.ns
    · exact S.ac.at fun o e => k1' _ o F.dI e
    · exact S.rep.but (UnRep.cls ho hc hT') k1'
  | d :: ds, i, h, tk, σ, vs, acc, hd, hi, q, S => by
    have hil : i < all.length := by
      have := congrArg List.length hd
      rw [List.length_drop, List.length_cons] at this; omega
    have hdi : all[i]? = some d := by
      have := congrArg List.head? hd
      simpa [List.head?_drop] using this
    have hds : all.drop (i + 1) = ds := by
      rw [← List.drop_drop, hd]; rfl
    have hsz := IT.size
    unfold compRun at q
    split at q
    · cases q
    rename_i ρ1 hρ1
    refine codeAny_of_tree ?_
    show wpAny _ A ((compTurn (.ListComp elt [⟨tgt, iter, ifs, 0⟩] scope pos) 0 (.ref I) (.ref dA) cenv).onRaise (fun x => do noteFrame x cenv; theTreesLotGoes x)) _ _ _
    refine wpAny_noted ?_
    rw [compTurn_list]
    obtain ⟨o, T, ho, hc, hT, hT', fs, hfs⟩ := IT.plain i h S.st
    have W := IT.walks A R0.hh
    refine wpAny_bind (wpAny_standAt (wpAny_bind (W.item i _ _ _ hil S.st fun u h1 tk1 hu st1 k1 => ?_)))
    have k1' : ∀ b o, b ≠ I → h.get? b = some o → h1.get? b = some o := fun b o hb e => k1 b o (by simpa using hb) e
    have hIm : ¬ (μ.plus dA).has I := fun q => (Mu.plus_has.mp q).elim (fun e => F.dI e.symm) F.iM
    have I1 := S.inv.other (UnRep.cls ho hc hT') F.iC (fun u q => by obtain ⟨o', e', d'⟩ := q; rw [ho] at e'; cases e'; rw [hfs] at d'; cases d') (.inl fun o' es ep e' d' => by rw [ho] at e'; cases e'; rw [hfs] at d'; cases d') (fun q => hIm (.inl q)) (fun q => absurd (.inr q) hIm) F.iB k1'
    have ac1 : h1.PlainList dA vs := S.ac.at fun o e => k1' _ o F.dI e
    have rp1 : RepL prog w h1 (μ.plus dA) vs.toList acc := S.rep.but (UnRep.cls ho hc hT') k1'
    have kb1 : Keep μ s0.heap h1 := fun b o hb e => k1' b o (fun q => by rw [q, F.iH] at e; cases e) (S.kb b o hb e)
    have ru : Rep prog w h1 (μ.plus dA) u d := by
      obtain ⟨d', hd', rd⟩ := IT.item i u hu
      rw [hdi] at hd'; cases hd'
      have r0 := rd s0.heap (Keep.refl _ _)
      have r1 : Rep prog w s0.heap (μ.plus dA) u d := r0.other fun b o hb e q => (Mu.plus_has.mp q).elim (fun e' => by rw [e', F.dH] at e; cases e) hb
      exact Rep.keep (μ := μ.plus dA) F.lists kb1 r1
    obtain ⟨o1, T1, ho1, hc1, hT1, hT1', fs1, hfs1⟩ := IT.plain (i + 1) h1 st1
    have hgo : ∀ {Q : Unit → Shared → Prop} {s : Shared}, s.heap = h1 → Q () s → wpAny (model prog w) A (letOwnedTupleGo tgt (.ref I) u) Q (notedBy (model prog w) A cenv fun e s' => R (.error e) s') s := by
      intro Q s hs hq
      rcases bindTgt_inv hρ1 with ⟨x, p, rfl, _, _⟩ | ⟨x, p, y, p', kk, p'', a, b, rfl, _⟩
      · exact wpAny_pure hq
      · exact letTuple_ok ⟨o1, T1, hs ▸ ho1, hc1, hT1⟩ hq
    refine wpAny_bind (hgo rfl ?_)
    refine wpAny_bind (bind_ok hρ1 I1 ru R0.hh fun h2 tk2 I2 k2 => ?_)
    have ac2 : h2.PlainList dA vs := ac1.at fun o e => k2 _ o F.dC e
    obtain ⟨m1, hm1⟩ := I1.ns
    have rp2 : RepL prog w h2 (μ.plus dA) vs.toList acc := rp1.but (UnRep.ns hm1) k2
    have kb2 : Keep μ s0.heap h2 := fun b o hb e => k2 b o (fun q => by rw [q, F.cH] at e; cases e) (kb1 b o hb e)
    have st2 : St (i + 1) h2 := W.frame _ _ _ st1 fun b hb o e => k2 b o (fun q => F.cF (q ▸ hb)) e
    have hρ : ∀ y r, ρ.lookup y = some r → ρ1.lookup y = some r := by
      intro y r e
      have out : ∀ {x d ρ}, sc'.lookup x = some .local → List.lookup y ρ = some r → List.lookup y (setL x d ρ) = some r ∨ x = y := fun {x d ρ} hx e' => by
        rw [lookup_setL]
        by_cases q : (y == x) = true
        · exact .inr (beq_iff_eq.mp q).symm
        · rw [if_neg q]; exact .inl e'
      rcases bindTgt_inv hρ1 with ⟨x, p, _, hx, rfl⟩ | ⟨x, p, z, p', kk, p'', a, b, _, _, hx, hz, rfl⟩
      · rcases out hx e with q | rfl
        · exact q
        · rw [F.loc _ hx] at e; cases e
      · rcases out hx e with q | rfl
        · rcases out hz q with q | rfl
          · exact q
          · rw [F.loc _ hz] at e; cases e
        · rw [F.loc _ hx] at e; cases e
    have fin : ∀ {h3 : Heap} {σ3 : Sto} {tk3 : Nat} {vs' : Array Value} {acc' : List D}, compRun v sc' tgt elt ifs ρ ds σ3 acc' = some (ys, σ') → Inv prog w h₀ hb cenv sc' h3 (μ.plus dA) ρ1 σ3 → St (i + 1) h3 → h3.PlainList dA vs' → RepL prog w h3 (μ.plus dA) vs'.toList acc' → Keep μ s0.heap h3 → acc'.length ≤ i + 1 →
        codeAny (model prog w) A (.compLoop (.ListComp elt [⟨tgt, iter, ifs, 0⟩] scope pos) 0 (.ref I) (.ref dA) cenv) R { s0 with heap := h3, toks := tk3 } :=
      fun q3 I3 st3 ac3 rp3 kb3 hl3 => comp_loop HE HT R0 IT F hR ds (i + 1) _ _ _ _ _ hds hil q3 ⟨I3.weak hρ, st3, ac3, rp3, kb3, hl3⟩
    have stk : ∀ {h3 h4 : Heap}, Keep μ h3 h4 → St (i + 1) h3 → (∃ o, h3.get? I = some o) → St (i + 1) h4 := fun {h3 h4} kk st hI => W.frame _ _ _ st fun b hb o e => kk b o ((F.fF b hb).elim (fun q => q ▸ fun z => F.iM (.inl z)) id) e
    have hIalive : ∃ o, h2.get? I = some o := ⟨o1, k2 _ _ F.iC ho1⟩
    split at q
    · rename_i σ1 hts
      split at q
      · rename_i y σ2 hy
        refine wpAny_bind (tests_ok HT (s := { s0 with heap := h2, toks := tk2 }) hts R0 I2 fun h3 tk3 k3 S3 => ?_)
        simp only [if_true]
        have I3 := I2.keep k3 S3
        refine wpAny_bind (wpAny_bind (HE _ _ _ _ _ _ _ _ _ { s0 with heap := h3, toks := tk3 } _ _ _ hy R0 I3 fun h4 tk4 u4 k4 S4 q4 _ => ?_))
        have I4 := I3.keep k4 S4
        have hDl : dA ∉ (μ.plus dA).locs := fun z => F.dM (.inl z)
        have ac4 : h4.PlainList dA vs := ac2.at fun o e => k4 _ o hDl (k3 _ o hDl e)
        have rp4 : RepL prog w h4 (μ.plus dA) vs.toList acc := (rp2.keep I2.sto.lists k3).keep I3.sto.lists k4
        have hvs : vs.size ≤ sizeLine := by
          have h1 := rp4.length
          have h2 := S.len
          have h3 : vs.toList.length = vs.size := by simp
          omega
        refine wpAny_bind (wpAny_list_append_plain (hsz := hvs) ac4 fun h5 hl5 hs5 => wpAny_pure (wpAny_pure ⟨rfl, ?_⟩))
        have k5 : ∀ b o, b ≠ dA → h4.get? b = some o → h5.get? b = some o := fun b o hb e => hs5.extBut b o hb e
        have hDh : (μ.plus dA).has dA := Mu.plus_has.mpr (.inl rfl)
        have U5 : UnRep h4 (μ.plus dA) dA := UnRep.acc ac4 hDh
        have hal : ∃ o, h5.get? dA = some o := let ⟨n, e⟩ := hl5; ⟨_, e⟩
        have I5 : Inv prog w h₀ hb cenv sc' h5 (μ.plus dA) ρ1 σ2 := by
          obtain ⟨n4, e4⟩ := ac4
          exact I4.other U5 F.dC (fun u q => by obtain ⟨o', e', d'⟩ := q; rw [e4] at e'; cases e'; cases d') (.inl fun o' es ep e' d' => by rw [e4] at e'; cases e'; cases d') hDl (fun _ => hal) F.dB k5
        have rp5 : RepL prog w h5 (μ.plus dA) (vs.push u4).toList (acc ++ [y]) := by
          rw [Array.toList_push]
          exact (rp4.but U5 k5).append (.cons (Rep.but U5 k5 q4) .nil)
        refine fin q I5 ?_ hl5 rp5 (fun b o hb e => k5 b o (fun q => by rw [q, F.dH] at e; cases e) (k4 b o hb (k3 b o hb (kb2 b o hb e)))) (by rw [List.length_append]; have := S.len; simpa using this)
        have st4 := stk k4 (stk k3 st2 hIalive) (let ⟨o, e⟩ := hIalive; ⟨o, k3 _ o (fun z => F.iM (.inl z)) e⟩)
        exact W.frame _ _ _ st4 fun b hb o e => k5 b o (fun q => F.dF (q ▸ hb)) e
      · cases q
    · rename_i σ1 hts
      refine wpAny_bind (tests_ok HT (s := { s0 with heap := h2, toks := tk2 }) hts R0 I2 fun h3 tk3 k3 S3 => ?_)
      simp only [Bool.false_eq_true, if_false]
      have I3 := I2.keep k3 S3
      have hDl : dA ∉ (μ.plus dA).locs := fun z => F.dM (.inl z)
      refine wpAny_bind (wpAny_pure (wpAny_pure ⟨rfl, ?_⟩))
      exact fin q I3 (stk k3 st2 hIalive) (ac2.at fun o e => k3 _ o hDl e) (rp2.keep I2.sto.lists k3) (fun b o hb e => k3 b o hb (kb2 b o hb e)) (Nat.le_succ_of_le S.len)
    · cases q
end
end Mine

namespace Mine
open PySem PySem.W PyProof.Rows PySem.SeqAt

section
variable {prog : Program} {w : World} {h₀ hb : Heap} {env : Env} {sc : Names} {μ : Mu} {ρ : Loc} {σ σ' : Sto} {A : Around} {E : Value → Shared → Prop} {s : Shared} {C : Orc} {G : Str → Option D} {mg mb : Str → Option Value} {v : Ev} {n k : Nat}

theorem StoOK.minus {h : Heap} {a : Addr} (S : StoOK prog w h (μ.plus a) σ) : StoOK prog w h μ σ where
  len := S.len
  nodup := S.nodup
  more := fun b hb => S.more b (.tail _ hb)
  is := fun l b e hl he => by
    obtain ⟨vs, p, r, bn⟩ := S.is l b e hl he
    exact ⟨vs, p, r.other fun b o hb e q => hb (Mu.plus_has.mpr (.inr q)), bn⟩
theorem RepR.plus {h : Heap} {a : Addr} {u : Value} {r : R} (q : RepR prog w h μ u r) (ha : h.get? a = none) : RepR prog w h (μ.plus a) u r := by
  have key : ∀ b o, ¬ μ.has b → h.get? b = some o → ¬ (μ.plus a).has b := fun b o hb e q => (Mu.plus_has.mp q).elim (fun e' => by rw [e', ha] at e; cases e) hb
  cases r with
  | val d => exact Rep.other key q
  | loc l => exact q
  | dct ks ds =>
    obtain ⟨b, f, ws, h1, h2, h3, h4, h5, h6⟩ := q
    exact ⟨b, f, ws, h1, h2, h3, h4, h5, h6.other key⟩
theorem RepR.alive {h : Heap} {a : Addr} {r : R} (q : RepR prog w h μ (.ref a) r) (S : StoOK prog w h μ σ) : ∃ o, h.get? a = some o := by
  cases r with
  | val d =>
    cases q with
    | tup e => exact ⟨_, e⟩
    | lst e => exact ⟨_, e⟩
    | rng e => exact ⟨_, e⟩
  | loc l =>
    obtain ⟨b, e, hl⟩ := q
    cases e
    obtain ⟨_, _, e⟩ := S.alive (List.mem_of_getElem? hl)
    exact ⟨_, e⟩
  | dct ks ds =>
    obtain ⟨b, f, ws, h1, ⟨o, es, ep, ho, _⟩, _⟩ := q
    cases h1; exact ⟨o, ho⟩

theorem folded_ok {iter : Expr} (h : notSet iter = true) (env : Env) (x : Value) : foldedSetIterable iter env x = pure x := by
  cases iter <;> first | rfl | (cases h; done)

theorem comp_ok (HE : OkE prog w h₀ v n k) (HT : OkT prog w h₀ v n k) (R0 : Room A n k) {elt tgt iter : Expr} {ifs : List Expr} {scope : Scope} {pos p' : Pos} {use : Option (Value → Sem Unit)} {Q : Value → Shared → Prop} {r : R} {ds ys : List D} {σ1 σ2 : Sto}
    (hsc : okScope sc scope = true) (hns : notSet iter = true) (q1 : v.e sc ρ σ iter = some (r, σ1)) (q2 : itemsOf r = some ds) (q3 : compRun v (compNames sc scope) tgt elt ifs (compLoc (compNames sc scope) ρ) ds σ1 [] = some (ys, σ2)) (I : Inv prog w h₀ hb env sc s.heap μ ρ σ)
    (h : ∀ dA cA h' tk, Keep μ s.heap h' → StoOK prog w h' μ σ2 → Rep prog w h' μ (.ref dA) (.lst ys) → (∃ m, h'.Ns cA m) → s.heap.get? cA = none → hb.get? cA = none → cA ≠ dA → cA ∉ μ.locs → compPost (model prog w) A E use Q (.ref dA) cA (.ok .next) { s with heap := h', toks := tk }) :
    wpAny (model prog w) A (comprehension (.ListComp elt [⟨tgt, iter, ifs, 0⟩] scope p') scope env pos (newList []) false (eval iter env) use) Q E s := by
  have O := okScope_spec hsc
  have hfree : ∀ p ∈ scope.names, p.2 = .free → ∃ c, env.cells.lookup p.1 = some c := fun p hp hf => I.eo.cells _ (O.free p hp hf)
  refine wpAny_comprehension_free rfl (folded_ok hns env) (closure_is hfree) O.kind O.loc ?_
  refine HE _ _ _ _ _ _ _ _ _ _ _ _ _ q1 R0 I fun h1 tk1 u k1 S1 r1 _ => ?_
  have I1 := I.keep k1 S1
  refine iter_ok (s := { s with heap := h1, toks := tk1 }) q2 r1 S1 fun Ia fp P St h2 IT => ?_
  refine wpAny_newObj_type (wpAny_newFunctionEnv O.cell (by intro y hy; simp at hy) (fun h3 hns3 hsb3 => ?_) O.kind)
  dsimp only at hns3 hsb3 ⊢
  generalize hH2 : h2.push { cls := .type "list", dict := none, data := .seq ([] : List Value).toArray } = H2 at hns3 hsb3 ⊢
  have hC : H2.objs.size = h2.objs.size + 1 := by rw [← hH2, Heap.size_push]
  have k12 := IT.keep
  have sz : h1.objs.size ≤ h2.objs.size := Nat.le_of_lt (Nat.lt_of_le_of_lt IT.new IT.lt)
  have k23 : ∀ b o, h2.get? b = some o → h3.get? b = some o := fun b o e => hsb3.extBut b o (by rw [hC]; exact Nat.ne_of_lt (Nat.lt_succ_of_lt (Heap.lt_size e))) (Heap.get?_push_of_some _ (hH2 ▸ Heap.get?_push_of_some _ e))
  have k13 : ∀ b o, h1.get? b = some o → h3.get? b = some o := fun b o e => k23 b o (k12 b o e)
  have hDC : h2.objs.size ≠ H2.objs.size := by rw [hC]; exact Nat.ne_of_lt (Nat.lt_succ_self _)
  have hacc : h3.PlainList h2.objs.size #[] := ⟨_, hsb3.extBut _ _ hDC (Heap.get?_push_of_some _ (hH2 ▸ Heap.get?_push_size _ rfl))⟩
  have fresh1 : ∀ a, h1.objs.size ≤ a → h1.get? a = none := fun a ha => Heap.get?_none_of_le ha
  have freshB : ∀ a, h1.objs.size ≤ a → hb.get? a = none := fun a ha => by
    cases e : hb.get? a with
    | none => rfl
    | some o =>
      exfalso
      have e1 : h1.get? a = some o := I1.kb a o (fun hm => by
        obtain ⟨vs, nn, e'⟩ := S1.alive hm
        rw [fresh1 a ha] at e'; cases e') e
      rw [fresh1 a ha] at e1; cases e1
  have fresh0 : ∀ a, h1.objs.size ≤ a → h₀.get? a = none := fun a ha => by
    cases e : h₀.get? a with
    | none => rfl
    | some o => have := I1.sub a o e; rw [freshB a ha] at this; cases this
  have freshM : ∀ a, h1.objs.size ≤ a → ¬ μ.has a := fun a ha hm => by
    obtain ⟨o, e⟩ := StoOK.here (s := { s with heap := h1, toks := tk1 }) S1 a hm
    exact absurd ((fresh1 a ha).symm.trans e) (by simp)
  have freshS : ∀ a, h1.objs.size ≤ a → s.heap.get? a = none := fun a ha => by
    cases e : s.heap.get? a with
    | none => rfl
    | some o => have := k1 a o (fun q => freshM a ha (.inl q)) e; rw [fresh1 a ha] at this; cases this
  have cge : h1.objs.size ≤ H2.objs.size := by rw [hC]; exact Nat.le_succ_of_le sz
  have S3 : StoOK prog w h3 (μ.plus h2.objs.size) σ1 := S1.plus (fresh1 _ sz) k13 ⟨_, hacc.choose_spec⟩
  have Hlook : ∀ x, (compNames sc scope).lookup x = some .cell → ∃ c, (clGo env scope.names []).lookup x = some c ∧ env.cells.lookup x = some c ∧ sc.lookup x = some .cell := fun x hx => by
    obtain ⟨hm, hs⟩ := compNames_cell O hx
    have := clGo_some (env := env) scope.names [] x (.inl hm)
    obtain ⟨c, hc⟩ := Option.isSome_iff_exists.mp this
    exact ⟨c, hc, clGo_sound scope.names [] hfree (fun _ _ e => by simp at e) x c hc, hs⟩
  have hEnv : ∀ s₃ : Shared, s₃ = { s with heap := h3, toks := tk1 + ([] : List (Str × Value)).length } →
      codeAny (model prog w) A (.compLoop (.ListComp elt [⟨tgt, iter, ifs, 0⟩] scope p') 0 (.ref Ia) (.ref h2.objs.size) (compEnvC scope (clGo env scope.names []) H2.objs.size env))
        (compPost (model prog w) A E use Q (.ref h2.objs.size) H2.objs.size) s₃ := by
    rintro s₃ rfl
    refine comp_loop (cenv := compEnvC scope (clGo env scope.names []) H2.objs.size env) (sc' := compNames sc scope) (μ := μ) (ρ := compLoc (compNames sc scope) ρ) (hb := hb) HE HT R0 IT ⟨?_, hDC, ?_, freshM _ sz, freshM _ IT.new, ?_, ?_, ?_, fresh1 _ sz, fresh1 _ IT.new, fresh1 _ cge, freshB _ IT.new, freshB _ sz, fresh0 _ IT.new, fresh0 _ sz, S1.lists, StoOK.here (s := { s with heap := h1, toks := tk1 }) S1, ?_⟩ (fun h' tk vs' hz kk S' pl rp hn => ?_) ds 0 h3 _ σ1 #[] [] rfl (Nat.zero_le _) q3 ⟨⟨⟨?_, ?_, ?_, ?_, ?_⟩, I1.sub, fun b o hbm e => k13 b o (I1.kb b o hbm e), fun a ha => (Mu.plus_has.mp ha).elim (fun e => e ▸ fresh0 _ sz) (I1.off a), ⟨_, hns3⟩, freshB _ cge, fun x hx => ?_, fun x x' c hx hx' hc hc' => ?_, fun x r hx => ?_, S3⟩, ?_, hacc, .nil, Keep.of k13, Nat.le_refl _⟩
    · exact Nat.ne_of_gt IT.lt
    · show Ia ≠ H2.objs.size
      rw [hC]; exact Nat.ne_of_lt (Nat.lt_succ_of_lt IT.lt)
    · intro hm
      rcases IT.fp _ hm with e | ⟨_, o, vs, nn, e, _⟩
      · exact Nat.lt_irrefl _ (e ▸ IT.lt)
      · exact absurd ((fresh1 _ sz).symm.trans e) (by simp)
    · intro hm
      rcases IT.fp _ hm with e | ⟨_, o, vs, nn, e, _⟩
      · have := IT.lt
        have e' : H2.objs.size = Ia := e
        rw [← e', hC] at this
        exact Nat.lt_irrefl _ (Nat.lt_of_succ_lt this)
      · exact absurd ((fresh1 _ cge).symm.trans e) (by simp)
    · intro b hm
      rcases IT.fp b hm with e | ⟨q, _⟩
      · exact .inl e
      · exact .inr q
    · intro x hx
      cases e : (compLoc (compNames sc scope) ρ).lookup x with
      | none => rfl
      | some r =>
        unfold compLoc at e
        obtain ⟨f1, _⟩ := lookup_filter (f := fun x => (compNames sc scope).lookup x == some .cell) e
        rw [hx] at f1; cases f1
    · -- at the end
      have k0 : Keep μ s.heap h' := fun b o hbm e => kk b o hbm (k1 b o hbm e)
      have hlen : vs'.toList.length ≤ sizeLine := by simpa using hz
      obtain ⟨nn, pe⟩ := id pl
      refine h _ _ h' tk k0 S'.minus (.lst pe rfl rfl hz (freshM _ sz) (rp.other fun b o hb e q => hb (Mu.plus_has.mpr (.inr q)))) hn (freshS _ cge) (freshB _ cge) (Ne.symm hDC) (fun q => freshM _ cge (.inl q))
    · exact O.kind
    · exact relabel_names I1.eo
    · exact I1.eo.glob
    · exact I1.eo.bui
    · intro x hx
      obtain ⟨c, hc, _⟩ := Hlook x hx
      exact ⟨c, hc⟩
    · obtain ⟨c, hc, hc', hs⟩ := Hlook x hx
      obtain ⟨c2, u2, g1, g2, g3⟩ := I1.cel x hs
      rw [hc'] at g1; cases g1
      obtain ⟨o, ho, hd⟩ := g2
      exact ⟨c, u2, hc, ⟨o, k13 _ _ ho, hd⟩, g3⟩
    · obtain ⟨d1, e1, e1', s1⟩ := Hlook x hx
      obtain ⟨d2, e2, e2', s2⟩ := Hlook x' hx'
      rw [show (compEnvC scope (clGo env scope.names []) H2.objs.size env).cells = clGo env scope.names [] from rfl] at hc hc'
      rw [e1] at hc; cases hc
      rw [e2] at hc'; cases hc'
      exact I1.inj x x' _ s1 s2 e1' e2'
    · unfold compLoc at hx
      obtain ⟨f1, f2⟩ := lookup_filter (f := fun x => (compNames sc scope).lookup x == some .cell) hx
      obtain ⟨c, hc, hc', hs⟩ := Hlook x (by simpa using f1)
      obtain ⟨u, l, qu, z⟩ := I1.fr x r f2
      refine ⟨u, ?_, ?_, ?_⟩
      · rcases l with ⟨g1, _⟩ | ⟨g1, c2, g2, o, ho, hd⟩
        · rw [hs] at g1; cases g1
        · rw [hc'] at g2; cases g2
          exact .inr ⟨by simpa using f1, c, hc, o, k13 _ _ ho, hd⟩
      · exact (qu.plus (fresh1 _ sz)).keep (μ := μ.plus h2.objs.size) S1.lists (Keep.of k13)
      · rintro rfl
        obtain ⟨o, e⟩ := qu.alive S1
        exact absurd ((fresh1 _ cge).symm.trans e) (by simp)
    · exact (IT.walks A R0.hh).frame _ _ _ IT.st fun b _ o e => k23 b o e
  exact codeAny_compStart_list (hEnv _ rfl) ((IT.walks A R0.hh).self 0 _ _ _ ((IT.walks A R0.hh).frame _ _ _ IT.st fun b _ o e => k23 b o e) (hEnv _ rfl))
end
end Mine

namespace Mine
open PySem PySem.W PyProof.Rows PySem.SeqAt

section
variable {prog : Program} {w : World} {h₀ hb : Heap} {env : Env} {sc : Names} {μ : Mu} {ρ : Loc} {σ σ' : Sto} {A : Around} {E : Value → Shared → Prop} {s : Shared} {Q : Value → Shared → Prop} {C : Orc} {G : Str → Option D} {mg mb : Str → Option Value} {v : Ev} {n k : Nat}

theorem pop_expr_ok {x : Str} {xp ap pp : Pos} {l g : Nat} {d : D} {rev : List D} (hd : isDbg x = false) (hl : (ap.endLine == pp.line) = true) (hx : ρ.lookup x = some (.loc l)) (he : σ[l]? = some ⟨g, d :: rev⟩) (I : Inv prog w h₀ hb env sc s.heap μ ρ σ)
    (h : Ret prog w s μ (σ.set l ⟨g, rev⟩) (.val d) false Q) : wpAny (model prog w) A (eval (.Call (.Attribute (.Name x xp) "pop" ap) [] [] pp) env) Q E s := by
  refine wpAny_Call_method0_late rfl hl (name_is I hx hd fun u qu => ?_)
  have qu' := qu
  obtain ⟨a, rfl, ha⟩ := qu'
  obtain ⟨vs, p, rp, _⟩ := I.sto.is l a _ ha he
  obtain ⟨nn, pe⟩ := p
  refine ⟨"list", "list.pop", F.plainAttrs_list, F.slot_list_pop, F.type_list_pop, ⟨_, pe, rfl⟩, fun b e => by cases e; exact ⟨_, pe, rfl⟩, ?_⟩
  exact Calls.callWith_builtin rfl (evalArgs_nil (pop_ok he I.sto qu h))

theorem listcomp_ok (HE : OkE prog w h₀ v n k) (HT : OkT prog w h₀ v n k) (R0 : Room A n k) {elt tgt iter : Expr} {ifs : List Expr} {scope : Scope} {pos : Pos} {r : R} {ds ys : List D} {σ1 σ2 : Sto} {fr : Bool} (hfr : fr = false)
    (hsc : okScope sc scope = true) (hns : notSet iter = true) (q1 : v.e sc ρ σ iter = some (r, σ1)) (q2 : itemsOf r = some ds) (q3 : compRun v (compNames sc scope) tgt elt ifs (compLoc (compNames sc scope) ρ) ds σ1 [] = some (ys, σ2)) (I : Inv prog w h₀ hb env sc s.heap μ ρ σ)
    (h : Ret prog w s μ σ2 (.val (.lst ys)) fr Q) : wpAny (model prog w) A (eval (.ListComp elt [⟨tgt, iter, ifs, 0⟩] scope pos) env) Q E s := by
  subst hfr
  rw [eval_ListComp]
  refine comp_ok HE HT R0 hsc hns q1 q2 q3 I fun dA cA h' tk k1 S' rp hn hs hbn hne hcl => ?_
  obtain ⟨m, hm⟩ := hn
  refine ⟨m, hm, fun h'' hs'' => ?_⟩
  have kk : ∀ b o, b ≠ cA → h'.get? b = some o → h''.get? b = some o := fun b o hb e => hs''.extBut b o hb e
  have U : UnRep h' μ cA := UnRep.ns hm
  refine h h'' tk _ (fun b o hbm e => kk b o (fun q => by rw [q, hs] at e; cases e) (k1 b o hbm e)) (S'.but U hcl (fun hm => ?_) kk) (Rep.but U kk rp) (fun e => nomatch e)
  obtain ⟨⟨o, e⟩, _⟩ := I.sto.more _ hm
  rw [hs] at e; cases e

theorem newL_sub {b i : Expr} {pos : Pos} (hi : asS i = none) : newL (.Subscript b i pos) = false := by
  show (asS i).isSome = false
  rw [hi]; rfl
theorem newL_call {f : Str} {np pos : Pos} {es : List Expr} {ks : List Keyword} (hf : bnames.contains f = true) : newL (.Call (.Name f np) es ks pos) = false := by
  show (f == "_law_box") = false
  rw [beq_eq_false_iff_ne]
  rintro rfl
  revert hf
  decide +kernel
theorem notB {b : Bool} (h : (!b) = true) : b = false := by cases b with
  | true => cases h
  | false => rfl

theorem nameE_ok (B : Base prog w G h₀ mg mb) {x : Str} {pos : Pos} {r : R} (q : nameE G sc ρ σ x = some (r, σ')) (I : Inv prog w h₀ hb env sc s.heap μ ρ σ) (h : Ret prog w s μ σ' r false Q) : wpAny (model prog w) A (eval (.Name x pos) env) Q E s := by
  obtain ⟨hd, q⟩ := gd_inv q
  cases hx : ρ.lookup x with
  | some r' =>
    rw [hx] at q
    cases q
    exact name_ok I hx (notB hd) h
  | none =>
    rw [hx] at q
    obtain ⟨hg, q⟩ := gd_inv q
    obtain ⟨d, hG, q⟩ := b1_inv q
    cases q
    obtain ⟨u, hu, ru⟩ := B.glo _ _ hG
    refine global_ok B I (beq_iff_eq.mp hg) hu (notB hd) ?_
    have r1 : Rep prog w h₀ μ u d := ru.other fun b o _ e hm => by
      rw [I.off b hm] at e; cases e
    have r2 : Rep prog w s.heap μ u d := Rep.keep (μ := μ) (fun a ha o e => by rw [I.off a (.inl ha)] at e; cases e) (Keep.of I.old) r1
    exact h.same I.sto (r := .val d) r2 s.toks

theorem seqE_inv {f : List D → D} {y : Option (List R × Sto)} {r : R} (q : seqE f y = some (r, σ')) : ∃ rs ds, y = some (rs, σ') ∧ vals rs = some ds ∧ ds.length ≤ bnd ∧ r = .val (f ds) := by
  obtain ⟨rs, σ1, h1, q⟩ := b2_inv q
  obtain ⟨ds, h2, q⟩ := b1_inv q
  obtain ⟨h3, q⟩ := gd_inv q
  cases q
  exact ⟨rs, ds, h1, h2, of_decide_eq_true h3, rfl⟩
theorem cmp1_inv {l r : Expr} {op : CmpOp} {x : Bool} (q : cmp1 v sc ρ σ l op r = some (x, σ')) : ∃ a σ1 b, behindInMarks op r = false ∧ v.e sc ρ σ l = some (a, σ1) ∧ v.e sc ρ σ1 r = some (b, σ') ∧ cmpR σ' op a b = some x := by
  obtain ⟨hm, q⟩ := gd_inv q
  obtain ⟨a, σ1, h1, q⟩ := b2_inv q
  obtain ⟨b, σ2, h2, q⟩ := b2_inv q
  obtain ⟨y, h3, q⟩ := b1_inv q
  cases q
  exact ⟨a, σ1, b, notB hm, h1, h2, h3⟩

theorem andE_inv {op : BoolOp} {es : List Expr} {r : R} (q : andE v sc ρ σ op es = some (r, σ')) : ∃ a b x σ1, op = .And ∧ es = [a, b] ∧ v.e sc ρ σ a = some (.val (.bool x), σ1) ∧ (if x then v.e sc ρ σ1 b else some (.val (.bool x), σ1)) = some (r, σ') := by
  obtain ⟨ho, q1⟩ := gd_inv q
  obtain ⟨a, b, h1, q2⟩ := two_inv q1
  obtain ⟨d, σ1, h2, q3⟩ := bV_inv q2
  obtain ⟨x, h3, q4⟩ := b1_inv q3
  cases asBool_inv h3
  exact ⟨a, b, x, σ1, beq_iff_eq.mp ho, h1, h2, q4⟩
theorem binE_inv {l r : Expr} {op : Operator} {z : R} (q : binE v sc ρ σ l op r = some (z, σ')) : ∃ a σ1 b d, v.e sc ρ σ l = some (.val a, σ1) ∧ v.e sc ρ σ1 r = some (.val b, σ') ∧ binD op a b = some d ∧ z = .val d := by
  obtain ⟨a, σ1, h1, q1⟩ := bV_inv q
  obtain ⟨b, σ2, h2, q2⟩ := bV_inv q1
  obtain ⟨d, h3, q3⟩ := b1_inv q2
  cases q3
  exact ⟨a, σ1, b, d, h1, h2, h3, rfl⟩
theorem cmpE_inv {l : Expr} {ops : List CmpOp} {rs : List Expr} {z : R} (q : cmpE v sc ρ σ l ops rs = some (z, σ')) : ∃ op r x, ops = [op] ∧ rs = [r] ∧ cmp1 v sc ρ σ l op r = some (x, σ') ∧ z = .val (.bool x) := by
  obtain ⟨op, h1, q1⟩ := one_inv q
  obtain ⟨r, h2, q2⟩ := one_inv q1
  obtain ⟨x, σ2, h3, q3⟩ := b2_inv q2
  cases q3
  exact ⟨op, r, x, h1, h2, h3, rfl⟩

theorem ifE_inv {t b o : Expr} {r : R} (q : ifE v sc ρ σ t b o = some (r, σ')) : ∃ x σ1, v.t sc ρ σ t = some (x, σ1) ∧ v.e sc ρ σ1 (if x then b else o) = some (r, σ') := b2_inv q
theorem sliceFrom_inv {b : Expr} {c : Const} {r : R} (q : sliceFrom v sc ρ σ b c = some (r, σ')) : ∃ a d e, c = .int (.ofNat a) ∧ v.e sc ρ σ b = some (.val d, σ') ∧ dropD a d = some e ∧ r = .val e := by
  obtain ⟨a, h0, q1⟩ := b1_inv q
  obtain ⟨d, σ1, h1, q2⟩ := bV_inv q1
  obtain ⟨e, h2, q3⟩ := b1_inv q2
  cases q3
  exact ⟨a, d, e, natC_inv h0, h1, h2, rfl⟩
theorem sliceTail_inv {b lo : Expr} {r : R} (q : sliceTail sc ρ σ b lo = some (r, σ')) : ∃ x xp z l m en, b = .Name x xp ∧ lenLess x lo = some z ∧ ρ.lookup x = some (.loc l) ∧ ρ.lookup z = some (.val (.int (m : Nat))) ∧ σ[l]? = some en ∧ (en.rev.take m).length = m ∧ okLen sc x z = true ∧ r = .val (.lst (en.rev.take m).reverse) ∧ σ = σ' := by
  obtain ⟨x, h0, q1⟩ := b1_inv q
  obtain ⟨z, hz, q2⟩ := b1_inv q1
  obtain ⟨l, hx, q3⟩ := b1_inv q2
  obtain ⟨m, hm, q4⟩ := b1_inv q3
  obtain ⟨en, he, q5⟩ := b1_inv q4
  obtain ⟨hk, q6⟩ := gd_inv q5
  rw [Bool.and_eq_true] at hk
  cases q6
  exact ⟨x.1, x.2, z, l, m, en, asN_inv h0, hz, locOf_inv hx, natOf_inv hm, he, of_decide_eq_true hk.1, hk.2, rfl, rfl⟩
theorem sliceRev_inv {b m : Expr} {r : R} (q : sliceRev v sc ρ σ b m = some (r, σ')) : ∃ xs, isM1 m = true ∧ v.e sc ρ σ b = some (.val (.tup xs), σ') ∧ r = .val (.tup xs.reverse) := by
  obtain ⟨hm, q1⟩ := gd_inv q
  obtain ⟨d, σ1, h1, q2⟩ := bV_inv q1
  obtain ⟨xs, h2, q3⟩ := b1_inv q2
  cases asTup_inv h2
  cases q3
  exact ⟨xs, hm, h1, rfl⟩
theorem popE_inv {o : Expr} {m : Str} {ap pp : Pos} {as : List Expr} {r : R} (q : popE ρ σ o m ap as pp = some (r, σ')) : ∃ x xp l g d rev, o = .Name x xp ∧ m = "pop" ∧ as = [] ∧ isDbg x = false ∧ (ap.endLine == pp.line) = true ∧ ρ.lookup x = some (.loc l) ∧ σ[l]? = some ⟨g, d :: rev⟩ ∧ r = .val d ∧ σ' = σ.set l ⟨g, rev⟩ := by
  obtain ⟨x, h1, q1⟩ := b1_inv q
  obtain ⟨hm, q2⟩ := gd_inv q1
  rw [Bool.and_eq_true, Bool.and_eq_true, Bool.and_eq_true, beq_iff_eq] at hm
  obtain ⟨⟨⟨h2, hd⟩, hl⟩, ha⟩ := hm
  obtain ⟨l, hx, q3⟩ := b1_inv q2
  obtain ⟨⟨g, rev⟩, he, q4⟩ := b1_inv q3
  cases rev with
  | nil => cases q4
  | cons d rev =>
    cases q4
    exact ⟨x.1, x.2, l, g, d, rev, asN_inv h1, h2, List.isEmpty_iff.mp ha, notB hd, hl, locOf_inv hx, he, rfl, rfl⟩
theorem nmCall_inv {f : Str} {as : List Expr} {r : R} (q : nmCall C v sc ρ σ f as = some (r, σ')) : isDbg f = false ∧ sc.lookup f = some .globalImplicit ∧ ∃ rs σ1, evals v sc ρ σ as = some (rs, σ1) ∧
    ((bnames.contains f = true ∧ ∃ d, bcall σ1 f rs = some d ∧ r = .val d ∧ σ' = σ1) ∨ C f rs σ1 = some (r, σ')) := by
  obtain ⟨hd, q1⟩ := gd_inv q
  obtain ⟨hg, q2⟩ := gd_inv q1
  obtain ⟨rs, σ1, h1, q3⟩ := b2_inv q2
  refine ⟨(Bool.or_eq_false_iff.mp (notB hd)).1, beq_iff_eq.mp hg, rs, σ1, h1, ?_⟩
  cases hbn : bnames.contains f with
  | true =>
    rw [hbn] at q3
    obtain ⟨d, h2, q4⟩ := b1_inv q3
    cases q4
    exact .inl ⟨rfl, d, h2, rfl, rfl⟩
  | false =>
    rw [hbn] at q3
    exact .inr q3

theorem subE_ok (HE : OkE prog w h₀ v n k) (B : Base prog w G h₀ mg mb) {b i : Expr} {pos : Pos} {r : R} (q : subE v sc ρ σ b i = some (r, σ')) (R0 : Room A n k) (I : Inv prog w h₀ hb env sc s.heap μ ρ σ)
    (h : Ret prog w s μ σ' r (newL (.Subscript b i pos)) Q) : wpAny (model prog w) A (eval (.Subscript b i pos) env) Q E s := by
  unfold subE at q
  cases hs : asS i with
  | none =>
    rw [hs] at q
    obtain ⟨x, σ1, h1, q⟩ := b2_inv q
    obtain ⟨y, σ2, h2, q⟩ := b2_inv q
    obtain ⟨d, h3, q⟩ := b1_inv q
    cases q
    exact index_ok HE (fun lo up st p e => by subst e; cases hs) h1 h2 h3 R0 I (by rw [newL_sub hs] at h; exact h)
  | some t =>
    rw [hs] at q
    obtain ⟨lo, up, st⟩ := t
    obtain ⟨p, rfl⟩ := asS_inv hs
    obtain ⟨hu, q⟩ := gd_inv q
    cases up with
    | some _ => cases hu
    | none =>
      cases lo with
      | none =>
        cases st with
        | none => cases q
        | some m =>
          obtain ⟨xs, hm, h1, q2⟩ := sliceRev_inv q
          subst q2
          exact slice_m1_ok HE h1 hm R0 I h
      | some lo =>
        cases st with
        | some _ => cases q
        | none =>
          dsimp only at q
          cases hc : asC lo with
          | some c =>
            rw [hc] at q
            obtain ⟨a, d, e, q1, q2, q3, q4⟩ := sliceFrom_inv q
            obtain ⟨nk, cp, q5⟩ := asC_inv hc
            clear q hc hs
            subst q1 q4 q5
            rcases dropD_inv q3 with ⟨xs, rfl, rfl, ha⟩ | ⟨xs, rfl, rfl⟩
            · exact slice_from_ok HE q2 (.inl ⟨xs, rfl, rfl, ha.1, ha.2⟩) R0 I h
            · exact slice_from_ok HE q2 (.inr ⟨xs, rfl, rfl⟩) R0 I h
          | none =>
            rw [hc] at q
            obtain ⟨x, xp, z, l, m, en, q1, hz, hx, hm, he, hk, hl, q2, q3⟩ := sliceTail_inv q
            clear q hc hs
            subst q1 q2 q3
            exact slice_tail_ok B hz hl hx hm he hk R0.hh I h

theorem callE_ok (HE : OkE prog w h₀ v n k) (B : Base prog w G h₀ mg mb) (HC : COK prog w h₀ mg k C) {f : Expr} {as : List Expr} {pp : Pos} {r : R} (q : callE C v sc ρ σ f as pp = some (r, σ')) (R0 : Room A n k) (I : Inv prog w h₀ hb env sc s.heap μ ρ σ)
    (h : Ret prog w s μ σ' r (newL (.Call f as [] pp)) Q) : wpAny (model prog w) A (eval (.Call f as [] pp) env) Q E s := by
  unfold callE at q
  cases hf : asN f with
  | some x =>
    rw [hf] at q
    rw [asN_inv hf] at h ⊢
    obtain ⟨h1, h2, rs, σ1, h3, ⟨hb, d, h4, q1, q2⟩ | h4⟩ := nmCall_inv q
    · subst q1 q2
      exact bcall_name_ok HE B h1 h2 h3 h4 R0 I (by rw [newL_call hb] at h; exact h)
    · exact ucall_ok HE B HC h1 h2 h3 h4 R0 I h
  | none =>
    rw [hf] at q
    obtain ⟨a, h0, q1⟩ := b1_inv q
    obtain ⟨x, xp, l, g, d, rev, g1, g2, g3, g4, g5, g6, g7, g8, g9⟩ := popE_inv q1
    rw [asA_inv h0, g1, g2, g3] at h ⊢
    subst g8 g9
    exact pop_expr_ok g4 g5 g6 g7 I h

theorem stepE_ok (HE : OkE prog w h₀ v n k) (HT : OkT prog w h₀ v n k) (B : Base prog w G h₀ mg mb) (HC : COK prog w h₀ mg k C) {e : Expr} {r : R} (q : stepE C G v sc ρ σ e = some (r, σ')) (R0 : Room A n k) (I : Inv prog w h₀ hb env sc s.heap μ ρ σ)
    (h : Ret prog w s μ σ' r (newL e) Q) : wpAny (model prog w) A (eval e env) Q E s := by
  cases e
  case Constant c nk p =>
    obtain ⟨d, hd, q⟩ := b1_inv q
    cases q
    exact const_ok hd I.sto h
  case Name x p => exact nameE_ok B q I h
  case Tuple es nk p =>
    obtain ⟨rs, ds, h1, h2, h3, rfl⟩ := seqE_inv q
    exact tuple_ok HE h1 h2 h3 R0 I h
  case List es p =>
    obtain ⟨rs, ds, h1, h2, h3, rfl⟩ := seqE_inv q
    exact list_ok HE h1 h2 h3 R0 I h
  case BoolOp op es p =>
    obtain ⟨a, b, x, σ1, q1, q2, h1, h2⟩ := andE_inv q
    subst q1 q2
    exact and_ok HE h1 h2 R0 I h
  case BinOp l op r p =>
    obtain ⟨a, σ1, b, d, h1, h2, h3, q1⟩ := binE_inv q
    subst q1
    exact binop_ok HE h1 h2 h3 R0 I h
  case IfExp t b o p =>
    obtain ⟨x, σ1, h1, h2⟩ := ifE_inv q
    exact ifexp_ok HE HT h1 h2 R0 I h
  case Compare l ops rs p =>
    obtain ⟨op, r, x, q1, q2, h1, q3⟩ := cmpE_inv q
    obtain ⟨a, σ1, b, hm, g1, g2, g3⟩ := cmp1_inv h1
    subst q1 q2 q3
    exact compare_ok HE hm g1 g2 g3 R0 I h
  case Subscript b i p => exact subE_ok HE B q R0 I h
  case Call f as ks p =>
    obtain ⟨rfl, q⟩ := noKs_inv q
    exact callE_ok HE B HC q R0 I h
  case ListComp elt gs scope p =>
    obtain ⟨⟨tgt, it, ifs, asy⟩, rfl, q⟩ := one_inv q
    obtain ⟨hsc, q⟩ := gd_inv q
    rw [Bool.and_eq_true, Bool.and_eq_true, beq_iff_eq] at hsc
    obtain ⟨⟨g1, g2⟩, g3⟩ := hsc
    dsimp only at g3
    subst g3
    obtain ⟨r', σ1, h1, q⟩ := b2_inv q
    obtain ⟨ds, h2, q⟩ := b1_inv q
    obtain ⟨ys, σ2, h3, q⟩ := b2_inv q
    cases q
    exact listcomp_ok HE HT R0 rfl g1 g2 h1 h2 h3 I h
  case Dict ks vs p =>
    obtain ⟨kk, h0, q⟩ := b1_inv q
    obtain ⟨rs, σ1, h1, q⟩ := b2_inv q
    obtain ⟨ds, h2, q⟩ := b1_inv q
    obtain ⟨h3, q⟩ := gd_inv q
    cases q
    exact dict_ok HE B h0 h1 h2 h3 R0 I h
  all_goals exact nos q
end
end Mine

namespace Mine
open PySem PySem.W PyProof.Rows PySem.SeqAt

section
variable {prog : Program} {w : World} {h₀ hb : Heap} {env : Env} {sc : Names} {μ : Mu} {ρ : Loc} {σ σ' : Sto} {A : Around} {E : Value → Shared → Prop} {s : Shared} {Q : Bool → Shared → Prop} {C : Orc} {G : Str → Option D} {mg mb : Str → Option Value} {v : Ev} {n k : Nat}

theorem plain_ok (HE : OkE prog w h₀ v n k) {e : Expr} {b : Bool} (q : v.e sc ρ σ e = some (.val (.bool b), σ')) (R0 : Room A n k) (I : Inv prog w h₀ hb env sc s.heap μ ρ σ) (h : RetB prog w s μ σ' b Q)
    (he : isTrue e env (eval e env) = (do let v ← eval e env; standAt e.pos; holding [v] (truthy v))) : wpAny (model prog w) A (isTrue e env (eval e env)) Q E s := by
  refine isTrue_plain (HE _ _ _ _ _ _ _ _ _ _ _ _ _ q R0 I fun h1 tk1 u k1 S1 q1 _ => ?_) he
  cases q1
  exact wpAny_truthy_bool (h h1 tk1 k1 S1)

theorem and_cont {Q : Bool → Shared → Prop} {x : Bool} {P : Shared → Prop} {s' : Shared} (h1 : x = true → P s') (h2 : x = false → Q false s') : (if x = true then P s' else Q false s') := by
  cases x with
  | true => exact h1 rfl
  | false => exact h2 rfl

theorem andT2_inv {a b : Expr} {x : Bool} (q : and2T v sc ρ σ a b = some (x, σ')) : ∃ y σ1, v.t sc ρ σ a = some (y, σ1) ∧ (y = true ∧ v.t sc ρ σ1 b = some (x, σ') ∨ y = false ∧ x = false ∧ σ' = σ1) := by
  obtain ⟨y, σ1, h1, q1⟩ := b2_inv q
  refine ⟨y, σ1, h1, ?_⟩
  cases y with
  | true => exact .inl ⟨rfl, q1⟩
  | false => cases q1; exact .inr ⟨rfl, rfl, rfl⟩
theorem andT3_inv {a b c : Expr} {x : Bool} (q : and3T v sc ρ σ a b c = some (x, σ')) : ∃ y σ1, v.t sc ρ σ a = some (y, σ1) ∧ (y = true ∧ and2T v sc ρ σ1 b c = some (x, σ') ∨ y = false ∧ x = false ∧ σ' = σ1) := by
  obtain ⟨y, σ1, h1, q1⟩ := b2_inv q
  refine ⟨y, σ1, h1, ?_⟩
  cases y with
  | true => exact .inl ⟨rfl, q1⟩
  | false => cases q1; exact .inr ⟨rfl, rfl, rfl⟩
theorem orT_inv {es : List Expr} {x : Bool} (q : orT v sc ρ σ es = some (x, σ')) : ∃ a b y σ1, es = [a, b] ∧ v.t sc ρ σ a = some (y, σ1) ∧ (y = false ∧ v.t sc ρ σ1 b = some (x, σ') ∨ y = true ∧ x = true ∧ σ' = σ1) := by
  obtain ⟨a, b, h0, q1⟩ := two_inv q
  obtain ⟨y, σ1, h1, q2⟩ := b2_inv q1
  refine ⟨a, b, y, σ1, h0, h1, ?_⟩
  cases y with
  | true => cases q2; exact .inr ⟨rfl, rfl, rfl⟩
  | false => exact .inl ⟨rfl, q2⟩
theorem cmp2_inv {l r r' : Expr} {op op' : CmpOp} {x : Bool} (q : cmp2 v sc ρ σ l op op' r r' = some (x, σ')) : ∃ a σ1 b σ2 y, behindInMarks op' r' = false ∧ v.e sc ρ σ l = some (a, σ1) ∧ v.e sc ρ σ1 r = some (b, σ2) ∧ cmpR σ2 op a b = some y ∧
    (y = true ∧ (∃ c, v.e sc ρ σ2 r' = some (c, σ') ∧ cmpR σ' op' b c = some x) ∨ y = false ∧ x = false ∧ σ' = σ2) := by
  obtain ⟨hm, q1⟩ := gd_inv q
  obtain ⟨a, σ1, h1, q2⟩ := b2_inv q1
  obtain ⟨b, σ2, h2, q3⟩ := b2_inv q2
  obtain ⟨y, h3, q4⟩ := b1_inv q3
  refine ⟨a, σ1, b, σ2, y, notB hm, h1, h2, h3, ?_⟩
  cases y with
  | true =>
    obtain ⟨c, σ3, h4, q5⟩ := b2_inv q4
    obtain ⟨z, h5, q6⟩ := b1_inv q5
    cases q6
    exact .inl ⟨rfl, c, h4, h5⟩
  | false => cases q4; exact .inr ⟨rfl, rfl, rfl⟩
theorem boolT_inv {y : Option (R × Sto)} {b : Bool} (q : boolT y = some (b, σ')) : y = some (.val (.bool b), σ') := by
  obtain ⟨d, σ1, h1, q1⟩ := bV_inv q
  obtain ⟨x, h2, q2⟩ := b1_inv q1
  cases asBool_inv h2
  cases q2
  exact h1

theorem and2_ok (HT : OkT prog w h₀ v n k) {a b : Expr} {pos : Pos} {x : Bool} {whole : Sem Value} (q : and2T v sc ρ σ a b = some (x, σ')) (R0 : Room A n k) (I : Inv prog w h₀ hb env sc s.heap μ ρ σ)
    (h : RetB prog w s μ σ' x Q) : wpAny (model prog w) A (isTrue (.BoolOp .And [a, b] pos) env whole) Q E s := by
  obtain ⟨y, σ1, h1, ⟨rfl, h2⟩ | ⟨rfl, rfl, rfl⟩⟩ := andT2_inv q
  · refine isTrue_and (HT _ _ _ _ _ _ _ _ _ _ _ _ _ h1 R0 I fun h' tk k1 S1 => ?_)
    simp only [if_true]
    refine isTrue_and (HT _ _ _ _ _ _ _ _ _ { s with heap := h', toks := tk } _ _ _ h2 R0 (I.keep k1 S1) fun h'' tk' k2 S2 => and_cont (fun e => isTrue_and_nil ?_) fun e => ?_)
    · subst e; exact h h'' tk' (k1.trans k2) S2
    · subst e; exact h h'' tk' (k1.trans k2) S2
  · exact isTrue_and (HT _ _ _ _ _ _ _ _ _ _ _ _ _ h1 R0 I fun h' tk k1 S1 => h h' tk k1 S1)

theorem stepT_ok (HE : OkE prog w h₀ v n k) (HT : OkT prog w h₀ v n k) {e : Expr} {b : Bool} (q : stepT v sc ρ σ e = some (b, σ')) (R0 : Room A n k) (I : Inv prog w h₀ hb env sc s.heap μ ρ σ)
    (h : RetB prog w s μ σ' b Q) : wpAny (model prog w) A (isTrue e env (eval e env)) Q E s := by
  cases e
  case UnaryOp op x p =>
    obtain ⟨ho, q1⟩ := gd_inv q
    cases beq_iff_eq.mp ho
    obtain ⟨y, σ1, h1, q2⟩ := b2_inv q1
    cases q2
    exact isTrue_not (HT _ _ _ _ _ _ _ _ _ _ _ _ _ h1 R0 I fun h' tk k1 S1 => h h' tk k1 S1)
  case BoolOp op es p =>
    cases op with
    | And =>
      cases es with
      | nil => exact nos q
      | cons a r => cases r with
        | nil => exact nos q
        | cons b r => cases r with
          | nil => exact and2_ok HT q R0 I h
          | cons c r =>
            obtain ⟨hn, q1⟩ := gd_inv q
            cases List.isEmpty_iff.mp hn
            clear q
            obtain ⟨y, σ1, h1, ⟨rfl, h2⟩ | ⟨rfl, rfl, rfl⟩⟩ := andT3_inv q1
            · refine isTrue_and (HT _ _ _ _ _ _ _ _ _ _ _ _ _ h1 R0 I fun h' tk k1 S1 => ?_)
              simp only [if_true]
              exact and2_ok (s := { s with heap := h', toks := tk }) HT h2 R0 (I.keep k1 S1) (h.step k1)
            · exact isTrue_and (HT _ _ _ _ _ _ _ _ _ _ _ _ _ h1 R0 I fun h' tk k1 S1 => h h' tk k1 S1)
    | Or =>
      obtain ⟨a, b, y, σ1, rfl, h1, ⟨rfl, h2⟩ | ⟨rfl, rfl, rfl⟩⟩ := orT_inv q
      · refine isTrue_or (HT _ _ _ _ _ _ _ _ _ _ _ _ _ h1 R0 I fun h' tk k1 S1 => ?_)
        simp only [Bool.false_eq_true, if_false]
        refine isTrue_or (HT _ _ _ _ _ _ _ _ _ { s with heap := h', toks := tk } _ _ _ h2 R0 (I.keep k1 S1) fun h'' tk' k2 S2 => ?_)
        have z := h h'' tk' (k1.trans k2) S2
        split
        · rename_i e; subst e; exact z
        · rename_i e; cases Bool.eq_false_iff.mpr e; exact isTrue_or_nil z
      · exact isTrue_or (HT _ _ _ _ _ _ _ _ _ _ _ _ _ h1 R0 I fun h' tk k1 S1 => h h' tk k1 S1)
  case IfExp t b o p => exact nos q
  case Compare l ops rs p =>
    cases ops with
    | nil => exact nos q
    | cons op os => cases os with
      | nil =>
        obtain ⟨r, rfl, q1⟩ := one_inv q
        obtain ⟨a, σ1, c, hm, g1, g2, g3⟩ := cmp1_inv q1
        exact testcmp_ok HE hm g1 g2 g3 R0 I h
      | cons op' os' =>
        obtain ⟨hn, q1⟩ := gd_inv q
        cases List.isEmpty_iff.mp hn
        obtain ⟨r, r', rfl, q2⟩ := two_inv q1
        obtain ⟨a, σ1, b2, σ2, y, hm, h1, h2, h3, hy⟩ := cmp2_inv q2
        clear q q1 q2 hn
        refine isTrue_chain (HE _ _ _ _ _ _ _ _ _ _ _ _ _ h1 R0 I fun h' tk o k1 S1 q1 _ => ?_) ?_
        · refine PyProof.Rows.test_link (HE _ _ _ _ _ _ _ _ _ { s with heap := h', toks := tk } _ _ _ h2 R0 (I.keep k1 S1) fun h'' tk' u k2 S2 q2 _ => ?_)
          have I2 := (I.keep k1 S1).keep k2 S2
          refine cmp_ok h3 S2 (q1.keep S1.lists k2) q2 R0.eq fun tk'' => wpAny_truthy_bool ?_
          rcases hy with ⟨rfl, c, h4, h6⟩ | ⟨rfl, rfl, rfl⟩
          · simp only [if_true]
            refine PyProof.Rows.test_last (HE _ _ _ _ _ _ _ _ _ { s with heap := h'', toks := tk'' } _ _ _ h4 R0 I2 fun h5 tk5 u5 k5 S5 q5 _ => ?_)
            exact cmp_ok h6 S5 (q2.keep S2.lists k5) q5 R0.eq fun tk6 => wpAny_truthy_bool (h h5 tk6 ((k1.trans k2).trans k5) S5)
          · exact h h'' tk'' (k1.trans k2) S2
        · simpa [lastMarks] using hm
  all_goals exact plain_ok HE (boolT_inv q) R0 I h rfl
end
end Mine

namespace Mine
open PySem PySem.W PyProof.Rows PySem.SeqAt

section
variable {prog : Program} {w : World} {h₀ hb : Heap} {env : Env} {sc : Names} {μ μ' : Mu} {ρ ρ1 : Loc} {σ σ' σ1 σ2 : Sto} {A : Around} {E : Value → Shared → Prop} {s : Shared} {C : Orc} {G : Str → Option D} {mg mb : Str → Option Value} {v : Ev} {n k : Nat}

theorem ev_ok (B : Base prog w G h₀ mg mb) (HC : COK prog w h₀ mg k C) : ∀ n, OkE prog w h₀ (ev C G n) n k ∧ OkT prog w h₀ (ev C G n) n k
  | 0 => ⟨fun _ _ _ _ _ _ _ _ _ _ _ _ _ q => (nomatch q), fun _ _ _ _ _ _ _ _ _ _ _ _ _ q => (nomatch q)⟩
  | n + 1 => by
    obtain ⟨HE, HT⟩ := ev_ok B HC n
    exact ⟨fun sc env hb ρ σ e r σ' A s μ E Q q R0 I h => stepE_ok HE HT B HC q R0.sub I h, fun sc env hb ρ σ e b σ' A s μ E Q q R0 I h => stepT_ok HE HT q R0.sub I h⟩

/-- all that a datum may read is kept -/
structure Moves (h : Heap) (μ : Mu) (h' : Heap) (μ' : Mu) : Prop where
  k : ∀ b o, b ∉ μ.locs → h.get? b = some o → (∃ vs n, o.data = .seq vs n) ∨ (∃ fs, o.data = .fields fs) → h'.get? b = some o
  m : ∀ b o, ¬ μ.has b → h.get? b = some o → ¬ μ'.has b
mutual
theorem Rep.move {h h' : Heap} (L : Lists μ h) (M : Moves h μ h' μ') : ∀ {v : Value} {d : D}, Rep prog w h μ v d → Rep prog w h' μ' v d
  | _, _, .none => .none
  | _, _, .bool b => .bool b
  | _, _, .int i t => .int i t
  | _, _, .str x t => .str x t
  | _, _, .bytes b t => .bytes b t
  | _, _, .tup e c d z r => .tup (M.k _ _ (L.not e c (by decide)) e (.inl ⟨_, _, d⟩)) c d z (RepL.move L M r)
  | _, _, .lst e c d z m r => .lst (M.k _ _ (fun q => m (.inl q)) e (.inl ⟨_, _, d⟩)) c d z (M.m _ _ m e) (RepL.move L M r)
  | _, _, .rng e l => .rng (show IsRange h' _ _ _ _ _ _ _ from M.k _ _ (L.not e rfl (by decide)) e (.inr ⟨_, rfl⟩)) l
theorem RepL.move {h h' : Heap} (L : Lists μ h) (M : Moves h μ h' μ') : ∀ {vs : List Value} {ds : List D}, RepL prog w h μ vs ds → RepL prog w h' μ' vs ds
  | _, _, .nil => .nil
  | _, _, .cons a b => .cons (Rep.move L M a) (RepL.move L M b)
end

/-- all but the def's own frame, its cells and the changed lists is kept -/
noncomputable def KeepF (env : Env) (sc : Names) (μ : Mu) (h h' : Heap) : Prop :=
  ∀ b o, b ∉ μ.locs → b ≠ env.locals → (∀ n c, sc.lookup n = some .cell → env.cells.lookup n = some c → b ≠ c) → h.get? b = some o → h'.get? b = some o
theorem KeepF.of {h h' : Heap} (q : Keep μ h h') : KeepF env sc μ h h' := fun b o hb _ _ e => q b o hb e

structure Mg (mu : List (Str × Nat)) (h : Heap) (μ μ' : Mu) : Prop where
  same : mu = [] → μ' = μ
  more : μ'.more = μ.more
  new : ∀ a ∈ μ'.locs, a ∈ μ.locs ∨ h.get? a = none
theorem Mg.refl (mu : List (Str × Nat)) (h : Heap) (μ : Mu) : Mg mu h μ μ := ⟨fun _ => rfl, rfl, fun _ h => .inl h⟩

theorem Inv.notCell {h : Heap} (I : Inv prog w h₀ hb env sc h μ ρ σ) {b : Addr} {o : Obj} (e : h.get? b = some o) (hd : (∃ vs n, o.data = .seq vs n) ∨ (∃ fs, o.data = .fields fs)) : b ≠ env.locals ∧ ∀ n c, sc.lookup n = some .cell → env.cells.lookup n = some c → b ≠ c := by
  constructor
  · rintro rfl
    obtain ⟨m, o', es, ep, e', hd', _⟩ := I.ns
    rw [e] at e'; cases e'
    rcases hd with ⟨_, _, hd⟩ | ⟨_, hd⟩ <;> (rw [hd] at hd'; cases hd')
  · rintro n c hn hc rfl
    obtain ⟨c', u, h1, ⟨o', e', hd'⟩, _⟩ := I.cel n hn
    rw [hc] at h1; cases h1
    rw [e] at e'; cases e'
    rcases hd with ⟨_, _, hd⟩ | ⟨_, hd⟩ <;> (rw [hd] at hd'; cases hd')

theorem moves_of {mu : List (Str × Nat)} {h h' : Heap} (I : Inv prog w h₀ hb env sc h μ ρ σ) (kf : KeepF env sc μ h h') (mg : Mg mu h μ μ') : Moves h μ h' μ' where
  k := fun b o hb e hd => let ⟨h1, h2⟩ := I.notCell e hd; kf b o hb h1 h2 e
  m := fun b o hb e hm => hm.elim (fun q => (mg.new b q).elim (fun q => hb (.inl q)) fun q => by rw [q] at e; cases e) fun q => hb (.inr (mg.more ▸ q))

theorem KeepF.trans {mu : List (Str × Nat)} {h h1 h2 : Heap} (k1 : KeepF env sc μ h h1) (m1 : Mg mu h μ μ') (k2 : KeepF env sc μ' h1 h2) : KeepF env sc μ h h2 := fun b o hb hl hc e =>
  k2 b o (fun q => (m1.new b q).elim hb fun q => by rw [q] at e; cases e) hl hc (k1 b o hb hl hc e)
theorem Mg.trans {mu : List (Str × Nat)} {h h1 : Heap} {μ1 μ2 : Mu} {ρ' : Loc} (I1 : Inv prog w h₀ hb env sc h1 μ1 ρ' σ1) (k1 : KeepF env sc μ h h1) (m1 : Mg mu h μ μ1) (m2 : Mg mu h1 μ1 μ2) : Mg mu h μ μ2 where
  same := fun e => (m2.same e).trans (m1.same e)
  more := m2.more.trans m1.more
  new := fun a ha => by
    rcases m2.new a ha with q | q
    · exact m1.new a q
    · by_cases hm : a ∈ μ.locs
      · exact .inl hm
      · refine .inr ?_
        cases e : h.get? a with
        | none => rfl
        | some o =>
          exfalso
          have alive : ∃ o, h1.get? a = some o := by
            by_cases hl : a = env.locals
            · obtain ⟨m, o', es, ep, e', _⟩ := I1.ns
              exact ⟨o', hl ▸ e'⟩
            · by_cases hc : ∀ n c, sc.lookup n = some .cell → env.cells.lookup n = some c → a ≠ c
              · exact ⟨o, k1 a o hm hl hc e⟩
              · simp only [Classical.not_forall, Decidable.not_not] at hc
                obtain ⟨n, c, h1', h2', rfl⟩ := hc
                obtain ⟨c', u, h3, ⟨o', e', _⟩, _⟩ := I1.cel n h1'
                rw [h2'] at h3; cases h3
                exact ⟨o', e'⟩
          obtain ⟨o', e'⟩ := alive
          rw [q] at e'; cases e'

/-- what is known where a statement is done -/
noncomputable def PostS (prog : Program) (w : World) (h₀ hb : Heap) (env : Env) (sc : Names) (mu : List (Str × Nat)) (s : Shared) (μ : Mu) (fl : Fl) (ρ' : Loc) (σ' : Sto) (Q : Flow → Shared → Prop) : Prop :=
  match fl with
  | .next => ∀ h' tk μ', Inv prog w h₀ hb env sc h' μ' ρ' σ' → Mg mu s.heap μ μ' → KeepF env sc μ s.heap h' → Q .next { s with heap := h', toks := tk }
  | .ret r fr => ∀ h' tk μ' v, Inv prog w h₀ hb env sc h' μ' ρ' σ' → Mg mu s.heap μ μ' → KeepF env sc μ s.heap h' → RepR prog w h' μ' v r → (fr = true → NewAt prog w hb h' μ' σ' v r) → Q (.ret v) { s with heap := h', toks := tk }

theorem PostS.step {mu : List (Str × Nat)} {fl : Fl} {ρ' ρ1 : Loc} {Q : Flow → Shared → Prop} {h1 : Heap} {tk : Nat} {μ1 : Mu} (h : PostS prog w h₀ hb env sc mu s μ fl ρ' σ' Q) (I1 : Inv prog w h₀ hb env sc h1 μ1 ρ1 σ1) (m1 : Mg mu s.heap μ μ1) (k1 : KeepF env sc μ s.heap h1) :
    PostS prog w h₀ hb env sc mu { s with heap := h1, toks := tk } μ1 fl ρ' σ' Q := by
  cases fl with
  | next => exact fun h' tk' μ' I m2 k2 => h h' tk' μ' I (Mg.trans I1 k1 m1 m2) (k1.trans m1 k2)
  | ret r fr => exact fun h' tk' μ' v I m2 k2 => h h' tk' μ' v I (Mg.trans I1 k1 m1 m2) (k1.trans m1 k2)
end
end Mine

namespace Mine
open PySem PySem.W PyProof.Rows PySem.SeqAt

section
variable {prog : Program} {w : World} {h₀ hb : Heap} {env : Env} {sc : Names} {μ μ' : Mu} {ρ ρ1 : Loc} {σ σ' σ1 σ2 : Sto} {A : Around} {E : Value → Shared → Prop} {s : Shared} {C : Orc} {G : Str → Option D} {mg mb : Str → Option Value} {v : Ev} {n k : Nat}

theorem nodup_set : ∀ {l : List Addr} {i : Nat} {a : Addr}, l.Nodup → a ∉ l → (l.set i a).Nodup
  | [], _, _, h, _ => h
  | x :: l, 0, a, h, ha => by
    obtain ⟨h1, h2⟩ := List.nodup_cons.mp h
    exact List.nodup_cons.mpr ⟨fun q => ha (.tail _ q), h2⟩
  | x :: l, i + 1, a, h, ha => by
    obtain ⟨h1, h2⟩ := List.nodup_cons.mp h
    refine List.nodup_cons.mpr ⟨fun q => ?_, nodup_set h2 fun q => ha (.tail _ q)⟩
    rcases List.mem_or_eq_of_mem_set q with q | q
    · exact h1 q
    · exact ha (q ▸ .head _)
theorem nodup_snoc : ∀ {l : List Addr} {a : Addr}, l.Nodup → a ∉ l → (l ++ [a]).Nodup
  | [], a, _, _ => List.nodup_cons.mpr ⟨List.not_mem_nil, List.Pairwise.nil⟩
  | x :: l, a, h, ha => by
    obtain ⟨h1, h2⟩ := List.nodup_cons.mp h
    refine List.nodup_cons.mpr ⟨fun q => ?_, nodup_snoc h2 fun q => ha (.tail _ q)⟩
    rcases List.mem_append.mp q with q | q
    · exact h1 q
    · rw [List.mem_singleton] at q; exact ha (q ▸ .head _)
theorem lookup_filter' {α : Type} {f : Str → Bool} {x : Str} (hf : f x = true) : ∀ {l : List (Str × α)}, (l.filter fun p => f p.1).lookup x = l.lookup x
  | [] => rfl
  | (z, u) :: l => by
    rw [List.filter_cons]
    by_cases hz : (x == z) = true
    · have hz' := beq_iff_eq.mp hz
      subst hz'
      rw [if_pos hf, List.lookup_cons, List.lookup_cons]; simp
    · split
      · rw [List.lookup_cons, List.lookup_cons, Bool.eq_false_iff.mpr hz, lookup_filter' hf]
      · rw [List.lookup_cons, Bool.eq_false_iff.mpr hz, lookup_filter' hf]
theorem lookup_all {x : Str} {f : Str × R → Bool} : ∀ {l : Loc} {r : R}, l.all f = true → l.lookup x = some r → f (x, r) = true
  | [], _, _, h => by simp at h
  | (z, u) :: l, r, ha, h => by
    rw [List.all_cons, Bool.and_eq_true] at ha
    rw [List.lookup_cons] at h
    split at h
    · rename_i hz
      rw [beq_iff_eq] at hz; subst hz; cases h; exact ha.1
    · exact lookup_all ha.2 h

/-- evaluated, and the new list is no datum any more -/
theorem Inv.plusKeep {h h1 : Heap} {a : Addr} (I : Inv prog w h₀ hb env sc h μ ρ σ) (k : Keep μ h h1) (ha : h.get? a = none) (S : StoOK prog w h1 (μ.plus a) σ1) : Inv prog w h₀ hb env sc h1 (μ.plus a) ρ σ1 where
  eo := I.eo
  sub := I.sub
  kb := I.kb.trans k
  off := fun b hb => (Mu.plus_has.mp hb).elim (fun e => by
    cases e' : h₀.get? b with
    | none => rfl
    | some o => have := I.old b o e'; rw [e, ha] at this; cases this) (I.off b)
  ns := let ⟨m, hm⟩ := I.ns; ⟨m, Ns.keep I.sto k hm⟩
  loc := I.loc
  cel := fun n hn => let ⟨c, v, h1, h2, h3⟩ := I.cel n hn; ⟨c, v, h1, Cell.keep I.sto k h2, h3⟩
  inj := I.inj
  fr := fun x r e => let ⟨v, l, q, z⟩ := I.fr x r e; ⟨v, l.keep I.sto k, (q.plus ha).keep (μ := μ.plus a) I.sto.lists k, z⟩
  sto := S

theorem RepR.other {h : Heap} {u : Value} {r : R} (q : RepR prog w h μ u r) (k : ∀ b o, ¬ μ.has b → h.get? b = some o → ¬ μ'.has b) (kl : ∀ l a, r = .loc l → μ.locs[l]? = some a → μ'.locs[l]? = some a) : RepR prog w h μ' u r := by
  cases r with
  | val d => exact Rep.other k q
  | loc l => exact let ⟨a, e, ha⟩ := q; ⟨a, e, kl _ _ rfl ha⟩
  | dct ks ds =>
    obtain ⟨b, f, ws, h1, h2, h3, h4, h5, h6⟩ := q
    exact ⟨b, f, ws, h1, h2, h3, h4, h5, h6.other k⟩

theorem okLocal {x : Str} (h : isLocal sc x = true) : isDbg x = false ∧ sc.lookup x = some .local := by
  unfold isLocal at h
  rw [Bool.and_eq_true] at h
  exact ⟨by simpa using h.1, by simpa using h.2⟩

theorem alone_spec {x : Str} {l : Nat} (h : alone x l ρ = true) {y : Str} (hy : (y == x) = false) : ρ.lookup y ≠ some (.loc l) := by
  intro q
  have := lookup_all h q
  dsimp only at this
  rw [hy, Bool.false_or] at this
  simp at this

/-- the new list takes its place among the changed ones -/
theorem Inv.enter {h : Heap} {a : Addr} {x : Str} {l : Nat} {en : Ent} {vs : Array Value} {locs' : List Addr} {σ' : Sto} (I : Inv prog w h₀ hb env sc h (μ.plus a) ρ σ) (hloc : ∀ b ∈ μ.locs, hb.get? b = none) (ham : a ∉ μ.more) (al : alone x l ρ = true)
    (p : h.PlainList a vs) (rp : RepL prog w h (μ.plus a) vs.toList en.rev.reverse) (hbd : en.rev.length + en.g ≤ bnd)
    (hl : locs'.length = σ'.length) (hnd : locs'.Nodup) (hmem : ∀ b ∈ locs', b = a ∨ b ∈ μ.locs) (hat : locs'[l]? = some a ∧ σ'[l]? = some en)
    (hother : ∀ j b, j ≠ l → locs'[j]? = some b → μ.locs[j]? = some b) (hother' : ∀ j b, j ≠ l → μ.locs[j]? = some b → locs'[j]? = some b) (hσ : ∀ j, j ≠ l → σ'[j]? = σ[j]?) :
    Inv prog w h₀ hb env sc h ⟨locs', μ.more⟩ (ρ.filter fun p => !(p.1 == x)) σ' := by
  have up : ∀ b o, ¬ (μ.plus a).has b → h.get? b = some o → ¬ Mu.has ⟨locs', μ.more⟩ b := fun b o hb _ q => hb (q.elim (fun q => (hmem b q).elim (fun e => Mu.plus_has.mpr (.inl e)) fun q => Mu.plus_has.mpr (.inr (.inl q))) fun q => Mu.plus_has.mpr (.inr (.inr q)))
  refine ⟨I.eo, I.sub, fun b o hb e => ?_, fun b hb => ?_, I.ns, I.loc, I.cel, I.inj, fun y r hy => ?_, hl, hnd, fun b hb => ?_, fun j b e hj he => ?_⟩
  · by_cases q : b ∈ μ.locs
    · rw [hloc b q] at e; cases e
    · exact I.kb b o q e
  · exact I.off b (hb.elim (fun q => (hmem b q).elim (fun e => Mu.plus_has.mpr (.inl e)) fun q => Mu.plus_has.mpr (.inr (.inl q))) fun q => Mu.plus_has.mpr (.inr (.inr q)))
  · obtain ⟨f1, f2⟩ := lookup_filter (f := fun y => !(y == x)) hy
    obtain ⟨u, lo, q, z⟩ := I.fr y r f2
    refine ⟨u, lo, q.other up fun j b e hj => ?_, z⟩
    subst e
    refine hother' j b (fun e => ?_) hj
    subst e
    exact alone_spec al (by simpa using f1) f2
  · obtain ⟨h1, h2⟩ := I.sto.more b (.tail _ hb)
    exact ⟨h1, fun q => (hmem b q).elim (fun e => ham (e ▸ hb)) fun q => h2 q⟩
  · by_cases hjl : j = l
    · subst hjl
      rw [hat.1] at hj; cases hj
      rw [hat.2] at he; cases he
      exact ⟨vs, p, rp.other up, hbd⟩
    · rw [hσ j hjl] at he
      obtain ⟨ws, pw, rw', bw⟩ := I.sto.is j b e (hother j b hjl hj) he
      exact ⟨ws, pw, rw'.other up, bw⟩

theorem assign_core {mu : List (Str × Nat)} {bud l : Nat} {x : Str} {ds : List D} {a : Addr} {vs : Array Value} {Q : Unit → Shared → Prop} (q : assignName mu bud sc ρ σ1 x (.lst ds) true = some (ρ1, σ2)) (hmu : mu.lookup x = some l) (I1 : Inv prog w h₀ hb env sc s.heap (μ.plus a) ρ σ1) (fresh : ∀ a ∈ μ.locs, hb.get? a = none)
    (aM : ¬ μ.has a) (p : s.heap.PlainList a vs) (rp : RepL prog w s.heap (μ.plus a) vs.toList ds)
    (h : ∀ h' tk' locs', Inv prog w h₀ hb env sc h' ⟨locs', μ.more⟩ ρ1 σ2 → (∀ b ∈ locs', b = a ∨ b ∈ μ.locs) → Heap.SameBut env.locals s.heap h' → Q () { s with heap := h', toks := tk' }) : wpAny (model prog w) A (storeName env x (.ref a)) Q E s := by
  unfold assignName at q
  rw [hmu] at q
  dsimp only at q
  split at q
  · rename_i hx
    rw [Bool.and_eq_true, Bool.and_eq_true] at hx
    obtain ⟨⟨hx1, hx2⟩, hx3⟩ := hx
    obtain ⟨hd, hl'⟩ := okLocal hx1
    split at q
    · rename_i hbd
      have rp' : RepL prog w s.heap (μ.plus a) vs.toList (Ent.mk bud ds.reverse).rev.reverse := by simpa using rp
      have hbd' : (Ent.mk bud ds.reverse).rev.length + (Ent.mk bud ds.reverse).g ≤ bnd := by simpa using hbd
      have len : μ.locs.length = σ1.length := I1.sto.len
      have nd : μ.locs.Nodup := I1.sto.nodup
      have fin : ∀ (locs' : List Addr) (σ' : Sto), Inv prog w h₀ hb env sc s.heap ⟨locs', μ.more⟩ (ρ.filter fun p => !(p.1 == x)) σ' → locs'[l]? = some a → (∀ b ∈ locs', b = a ∨ b ∈ μ.locs) → ρ1 = setL x (.loc l) ρ → σ2 = σ' →
          wpAny (model prog w) A (storeName env x (.ref a)) Q E s := by
        rintro locs' σ' I2 hat hmem rfl rfl
        obtain ⟨m, hm⟩ := I2.ns
        refine store_local_ok I2 hl' (r := .loc l) ⟨a, rfl, hat⟩ (fun e => ?_) fun h' tk' I' hs => h h' tk' _ (I'.weak fun y r hy => ?_) hmem hs
        · cases e
          obtain ⟨o, es, ep, e', hd', _⟩ := hm
          obtain ⟨n, pe⟩ := p
          have := pe.symm.trans e'
          cases this
          cases hd'
        · rw [lookup_setL] at hy ⊢
          split at hy
          · rename_i hyx; rw [if_pos hyx]; exact hy
          · rename_i hyx; rw [if_neg hyx, lookup_filter' (f := fun y => !(y == x)) (by simpa using hyx)]; exact hy
      split at q
      · rename_i hlt
        cases q
        have hlt' : l < μ.locs.length := by omega
        refine fin (μ.locs.set l a) (σ1.set l ⟨bud, ds.reverse⟩) (I1.enter fresh (fun q => aM (.inr q)) hx3 p rp' hbd' (by simp [len]) (nodup_set nd fun q => aM (.inl q)) ?_ ⟨List.getElem?_set_self hlt', List.getElem?_set_self hlt⟩ ?_ ?_ ?_) (List.getElem?_set_self hlt') ?_ rfl rfl
        · intro b hb; exact (List.mem_or_eq_of_mem_set hb).symm
        · intro j b hj e; rwa [List.getElem?_set_ne (Ne.symm hj)] at e
        · intro j b hj e; rwa [List.getElem?_set_ne (Ne.symm hj)]
        · intro j hj; rw [List.getElem?_set_ne (Ne.symm hj)]
        · intro b hb; exact (List.mem_or_eq_of_mem_set hb).symm
      · split at q
        · rename_i hlt
          cases q
          subst hlt
          have hj : ∀ {j b}, j ≠ σ1.length → (μ.locs ++ [a])[j]? = some b → μ.locs[j]? = some b := by
            intro j b hj e
            rcases Nat.lt_trichotomy j σ1.length with q | q | q
            · rwa [List.getElem?_append_left (by omega)] at e
            · exact absurd q hj
            · rw [List.getElem?_eq_none (by simp; omega)] at e; cases e
          refine fin (μ.locs ++ [a]) (σ1 ++ [⟨bud, ds.reverse⟩]) (I1.enter fresh (fun q => aM (.inr q)) hx3 p rp' hbd' (by simp [len]) (nodup_snoc nd fun q => aM (.inl q)) ?_ ⟨by rw [← len]; simp, by simp⟩ ?_ ?_ ?_) (by rw [← len]; simp) ?_ rfl rfl
          · intro b hb
            rcases List.mem_append.mp hb with q | q
            · exact .inr q
            · exact .inl (List.mem_singleton.mp q)
          · intro j b hj' e; exact hj hj' e
          · intro j b hj' e
            rw [List.getElem?_append_left (List.getElem?_eq_some_iff.mp e).1]; exact e
          · intro j hj'
            rcases Nat.lt_trichotomy j σ1.length with q | q | q
            · rw [List.getElem?_append_left q]
            · exact absurd q hj'
            · rw [List.getElem?_eq_none (by simp; omega), List.getElem?_eq_none (by omega)]
          · intro b hb
            rcases List.mem_append.mp hb with q | q
            · exact .inr q
            · exact .inl (List.mem_singleton.mp q)
        · cases q
    · cases q
  · cases q

theorem assign_ok {mu : List (Str × Nat)} {bud : Nat} {x : Str} {d : D} {fr : Bool} {u : Value} {h1 : Heap} {tk : Nat} {Q : Unit → Shared → Prop} (q : assignName mu bud sc ρ σ1 x d fr = some (ρ1, σ2)) (I : Inv prog w h₀ hb env sc s.heap μ ρ σ) (fresh : mu ≠ [] → ∀ a ∈ μ.locs, hb.get? a = none)
    (k : Keep μ s.heap h1) (S1 : StoOK prog w h1 μ σ1) (r : Rep prog w h1 μ u d) (nw : fr = true → NewAt prog w s.heap h1 μ σ1 u (.val d))
    (h : ∀ h' tk' μ', Inv prog w h₀ hb env sc h' μ' ρ1 σ2 → Mg mu s.heap μ μ' → KeepF env sc μ s.heap h' → Q () { s with heap := h', toks := tk' }) : wpAny (model prog w) A (storeName env x u) Q E { s with heap := h1, toks := tk } := by
  cases hmu : mu.lookup x with
  | none =>
    unfold assignName at q
    rw [hmu] at q
    dsimp only at q
    split at q
    · rename_i hx
      cases q
      have I1 := I.keep k S1
      unfold okName at hx
      rw [Bool.and_eq_true, Bool.or_eq_true] at hx
      rcases hx.2 with hl | hc
      · have hl' : sc.lookup x = some .local := by simpa using hl
        obtain ⟨m, hm⟩ := I1.ns
        refine store_local_ok (s := { s with heap := h1, toks := tk }) I1 hl' (r := .val d) r (Rep.ne (UnRep.ns hm) r) fun h' tk' I' hs => h h' tk' μ I' (Mg.refl _ _ _) fun b o hb hbl _ e => hs.extBut b o hbl (k b o hb e)
      · have hc' : sc.lookup x = some .cell := by simpa using hc
        obtain ⟨c, v₀, g1, g2, g3⟩ := I1.cel x hc'
        refine wpAny_storeName_cell (s := { s with heap := h1, toks := tk }) I1.eo.kind (by rw [I1.kind (s := { s with heap := h1, toks := tk })]; exact hc') g1 g2 fun h' hn hs => ?_
        obtain ⟨m, hm⟩ := I1.ns
        refine h h' tk μ (I1.storeCell hc' (r := .val d) r (Rep.ne (UnRep.ns hm) r) g3 g1 g2 hn hs) (Mg.refl _ _ _) fun b o hb _ hbc e => hs.extBut b o (hbc x c hc' g1) (k b o hb e)
    · cases q
  | some l =>
    have hmu' : mu ≠ [] := by rintro rfl; simp at hmu
    have hfr : fr = true ∧ ∃ ds, d = .lst ds := by
      unfold assignName at q
      rw [hmu] at q
      dsimp only at q
      split at q
      · rename_i hx
        rw [Bool.and_eq_true, Bool.and_eq_true] at hx
        split at q
        · exact ⟨hx.1.2, _, rfl⟩
        · cases q
      · cases q
    obtain ⟨rfl, ds, rfl⟩ := hfr
    obtain ⟨a, rfl⟩ : ∃ a, u = .ref a := by cases r; exact ⟨_, rfl⟩
    obtain ⟨ha, Sa, vs, p, rp⟩ := nw rfl a ds rfl rfl
    have I1 := I.plusKeep k ha Sa
    have aM : ¬ μ.has a := fun q => by
      obtain ⟨o, e⟩ := I.sto.here a q
      rw [ha] at e; cases e
    exact assign_core (s := { s with heap := h1, toks := tk }) q hmu I1 (fresh hmu') aM p rp fun h' tk' locs' I' hmem hs => h h' tk' _ I' ⟨fun e => absurd e hmu', rfl, fun b hb => (hmem b hb).elim (fun e => .inr (e ▸ ha)) .inl⟩ fun b o hb hbl _ e => hs.extBut b o hbl (k b o hb e)
end
end Mine

namespace Mine
open PySem PySem.W PyProof.Rows PySem.SeqAt

section
variable {prog : Program} {w : World} {h₀ hb : Heap} {env : Env} {sc : Names} {μ μ' : Mu} {ρ ρ1 ρ2 : Loc} {σ σ' σ1 σ2 σ3 σ4 : Sto} {A : Around} {E : Value → Shared → Prop} {s : Shared} {C : Orc} {G : Str → Option D} {mg mb : Str → Option Value} {v : Ev} {n k : Nat} {mu : List (Str × Nat)} {Q : Flow → Shared → Prop}

theorem return_ok (HE : OkE prog w h₀ v n k) {e : Expr} {pos : Pos} {r : R} (q : v.e sc ρ σ e = some (r, σ1)) (R0 : Room A n k) (I : Inv prog w h₀ hb env sc s.heap μ ρ σ) (h : PostS prog w h₀ hb env sc mu s μ (.ret r (newL e)) ρ σ1 Q) :
    wpAny (model prog w) A (exec (.Return (some e) pos) env) Q E s :=
  wpAny_Return_some (HE _ _ _ _ _ _ _ _ _ _ _ _ _ q R0 I fun h1 tk1 u k1 S1 q1 n1 => h h1 tk1 μ u (I.keep k1 S1) (Mg.refl _ _ _) (KeepF.of k1) q1 fun e => (n1 e).back I.kb I.sto)

theorem swapsNot {e : Expr} {t : Option Expr} {line : Nat} (h : isComp e = false) : swapsWith e t line env = pure false := by
  cases e <;> first | rfl | (cases h; done)
theorem swapsNotTup {e : Expr} {ts : List Expr} {nk : Nat} {p : Pos} {line : Nat} : swapsWith e (some (.Tuple ts nk p)) line env = pure false := by
  cases e <;> rfl
theorem swapsNotSub {e a b : Expr} {p : Pos} {line : Nat} : swapsWith e (some (.Subscript a b p)) line env = pure false := by
  cases e <;> rfl

theorem assign_name_ok (HE : OkE prog w h₀ v n k) {bud : Nat} {x : Str} {np pos : Pos} {e : Expr} {d : D} (hc : isComp e = false) (q : v.e sc ρ σ e = some (.val d, σ1)) (qa : assignName mu bud sc ρ σ1 x d (newL e) = some (ρ1, σ2)) (R0 : Room A n k) (I : Inv prog w h₀ hb env sc s.heap μ ρ σ) (fresh : mu ≠ [] → ∀ a ∈ μ.locs, hb.get? a = none)
    (h : PostS prog w h₀ hb env sc mu s μ .next ρ1 σ2 Q) : wpAny (model prog w) A (exec (.Assign [.Name x np] e pos) env) Q E s :=
  wpAny_Assign_Name (HE _ _ _ _ _ _ _ _ _ _ _ _ _ q R0 I fun h1 tk1 u k1 S1 q1 n1 => assign_ok qa I fresh k1 S1 q1 n1 h) (swapsNot hc)

theorem assign_comp_ok (HE : OkE prog w h₀ v n k) (HT : OkT prog w h₀ v n k) {x : Str} {np pos p' : Pos} {elt tgt iter : Expr} {ifs : List Expr} {scope : Scope} {r : R} {ds ys : List D} (R0 : Room A n k) (hok : compOk sc x np ρ (.ListComp elt [⟨tgt, iter, ifs, 0⟩] scope p') = true)
    (hsc : okScope sc scope = true) (hns : notSet iter = true) (q1 : v.e sc ρ σ iter = some (r, σ1)) (q2 : itemsOf r = some ds) (q3 : compRun v (compNames sc scope) tgt elt ifs (compLoc (compNames sc scope) ρ) ds σ1 [] = some (ys, σ2)) (I : Inv prog w h₀ hb env sc s.heap μ ρ σ)
    (h : PostS prog w h₀ hb env sc mu s μ .next (setL x (.val (.lst ys)) ρ) σ2 Q) : wpAny (model prog w) A (exec (.Assign [.Name x np] (.ListComp elt [⟨tgt, iter, ifs, 0⟩] scope p') pos) env) Q E s := by
  rw [show compOk sc x np ρ (.ListComp elt [⟨tgt, iter, ifs, 0⟩] scope p') = (noDct ρ && sc.lookup x == some .local && np.line == p'.line && !(scope.names.any fun p => p.1 == x && (p.2 == .local || p.2 == .cell))) from rfl] at hok
  rw [Bool.and_eq_true, Bool.and_eq_true, Bool.and_eq_true] at hok
  obtain ⟨⟨⟨hnd, hx⟩, hln⟩, hany⟩ := hok
  have hx' : sc.lookup x = some .local := by simpa using hx
  have hsw : swapsWith (.ListComp elt [⟨tgt, iter, ifs, 0⟩] scope p') (some (.Name x np)) pos.line env = pure true := by
    show pure (env.blockKind == .function && env.kindOf x == some .local && np.line == p'.line && !(scope.names.any fun (n, k) => n == x && (k == .local || k == .cell))) = pure true
    have hb : env.blockKind = .function := by unfold Env.blockKind; rw [I.eo.kind]; rfl
    rw [hb, I.kind, hx', hln, hany]; rfl
  rw [exec_Assign_Name_used _ _ _ _ hsw]
  refine wpAny_bind (wpAny_standAt (wpAny_bind ?_))
  show wpAny _ A (do let _ ← comprehension (.ListComp elt [⟨tgt, iter, ifs, 0⟩] scope p') scope env _ (newList []) false (eval iter env) (some (assign (.Name x np) env))) _ _ s
  refine wpAny_bind (wpAny_mono (comp_ok (use := some (assign (.Name x np) env)) (Q := fun _ s' => Q .next s') HE HT R0 hsc hns q1 q2 q3 I fun dA cA h' tk k1 S' rp hn hs hbn hne hcl => ?_) (fun _ s' hq => wpAny_pure (wpAny_pure hq)) fun _ _ e => e)
  have I' := I.keep k1 S'
  obtain ⟨mc, hmc⟩ := hn
  obtain ⟨ml, hml⟩ := I'.ns
  have hLC : env.locals ≠ cA := fun e => by
    obtain ⟨m, o, _, _, e', _⟩ := I.ns
    rw [e, hs] at e'; cases e'
  show wpAny _ A (assign (.Name x np) env (.ref dA)) _ _ _
  refine wpAny_assign_Name (store_local_ok (s := { s with heap := h', toks := tk }) I' hx' (r := .val (.lst ys)) rp (Rep.ne (UnRep.ns hml) rp) fun h2 tk2 I2 hs2 => ?_)
  have hmc2 : h2.Ns cA mc := hmc.at' fun o e => hs2.extBut _ o (Ne.symm hLC) e
  refine ⟨mc, hmc2, fun h3 hs3 => ?_⟩
  have k3 : ∀ b o, b ≠ cA → h2.get? b = some o → h3.get? b = some o := fun b o hb e => hs3.extBut b o hb e
  have I3 := I2.other (UnRep.ns hmc2) (Ne.symm hLC) (fun u q => by
      obtain ⟨o, es, ep, e, d, _⟩ := hmc2
      obtain ⟨o', e', d'⟩ := q
      rw [e] at e'; cases e'; rw [d] at d'; cases d') (.inr fun y ks ds hy => by
      rw [lookup_setL] at hy
      split at hy
      · cases hy
      · have := lookup_all hnd hy
        simp at this) hcl (fun hm => by
      obtain ⟨⟨o, e⟩, _⟩ := I.sto.more _ hm
      rw [hs] at e; cases e) hbn k3
  exact h h3 tk2 μ I3 (Mg.refl _ _ _) fun b o hb hbl _ e => k3 b o (fun q => by rw [q, hs] at e; cases e) (hs2.extBut b o hbl (k1 b o hb e))

theorem trunc_ok (B : Base prog w G h₀ mg mb) {x m : Str} {np pos : Pos} {e : Expr} {l : Nat} {kk : Nat} {en : Ent} (ht : truncOf x e = some m) (hx : ρ.lookup x = some (.loc l)) (hm : ρ.lookup m = some (.val (.int (kk : Nat)))) (he : σ[l]? = some en) (hle : (en.rev.take kk).length = kk)
    (hok : (isLocal sc x && alone x l ρ && okLen sc x m && !mu.isEmpty) = true) (R0 : Room A n k) (I : Inv prog w h₀ hb env sc s.heap μ ρ σ) (fresh : mu ≠ [] → ∀ a ∈ μ.locs, hb.get? a = none)
    (h : PostS prog w h₀ hb env sc mu s μ .next ρ (σ.set l ⟨en.g, en.rev.drop kk⟩) Q) : wpAny (model prog w) A (exec (.Assign [.Name x np] e pos) env) Q E s := by
  rw [Bool.and_eq_true, Bool.and_eq_true, Bool.and_eq_true] at hok
  obtain ⟨⟨⟨h1, h2⟩, h3⟩, h4⟩ := hok
  have hmu : mu ≠ [] := by rintro rfl; simp at h4
  obtain ⟨hd, hl⟩ := okLocal h1
  obtain ⟨yp, hi, sp, pp, rfl, hlen⟩ := truncOf_inv ht
  have hle' : kk ≤ en.rev.length := by rw [List.length_take] at hle; omega
  have hlt : l < σ.length := (List.getElem?_eq_some_iff.mp he).1
  obtain ⟨_, _, _, hbn⟩ := I.sto.is l _ en (List.getElem?_eq_getElem (by have := I.sto.len; omega)) he
  have qa : assignName [(x, l)] en.g sc ρ σ x (.lst (en.rev.drop kk).reverse) true = some (setL x (.loc l) ρ, σ.set l ⟨en.g, en.rev.drop kk⟩) := by
    unfold assignName
    simp only [List.lookup_cons, beq_self_eq_true]
    rw [if_pos (by rw [h1, h2]; rfl), if_pos (by simp; omega), if_pos hlt, List.reverse_reverse]
  refine wpAny_Assign_Name ?_ rfl
  have ret : Ret prog w s μ σ (.val (.lst (en.rev.drop kk).reverse)) true (fun u s₁ => wpAny (model prog w) A (storeName env x u) (fun _ => Q .next) E s₁) := fun h' tk u k1 S1 q1 n1 => by
    refine assign_ok qa I (fun _ => fresh hmu) k1 S1 q1 n1 fun h'' tk' μ' I' mg kf => ?_
    refine h h'' tk' μ' (I'.weak fun y r hy => ?_) ⟨fun e => absurd e hmu, mg.more, mg.new⟩ kf
    rw [lookup_setL]
    split
    · rename_i hyx
      rw [beq_iff_eq] at hyx; subst hyx
      rw [hx] at hy; exact hy
    · exact hy
  refine Subscript_ (name_is I hx hd fun u q1 => ?_)
  refine wpAny_Slice (part_none ?_)
  show wpAny _ A (eval hi env) _ _ _
  refine lenLess_ok B hlen h3 hx hm he hle R0.hh I fun t tk' => part_none ?_
  dsimp only
  obtain ⟨a, rfl, ha⟩ := q1
  obtain ⟨ws, p, rp, hbn⟩ := I.sto.is l a en ha he
  have hn : ws.size = en.rev.length := by simpa using rp.length
  have hz' : ws.size ≤ sizeLine := by have := bnd_line; omega
  have kp := Keep.push μ s.heap { cls := .type "slice", data := .fields #[.none, .int ((en.rev.length - kk : Nat) : Int) t, .none] }
  have S2 := I.sto.keepAll (h' := s.heap.push { cls := .type "slice", data := .fields #[.none, .int ((en.rev.length - kk : Nat) : Int) t, .none] }) fun b o e => Heap.get?_push_of_some _ e
  have hr := ret.step (h1 := s.heap.push { cls := .type "slice", data := .fields #[.none, .int ((en.rev.length - kk : Nat) : Int) t, .none] }) (tk := tk') kp S2
  refine slice_list_ok (s := { s with heap := s.heap.push { cls := .type "slice", data := .fields #[.none, .int ((en.rev.length - kk : Nat) : Int) t, .none] }, toks := tk' }) (lo := none) (hi := some ((en.rev.length - kk : Nat) : Int)) (st := none) (p.isList.push _) hz' (Heap.IsSliceOf.new ..) .none (.int _ _) .none (by simp) S2 ?_ rfl hr
  rw [slicePick_upto']
  have e : en.rev.reverse.take (en.rev.length - kk) = (en.rev.drop kk).reverse := by
    rw [List.reverse_drop]
  have z := (rp.take (en.rev.length - kk)).keep I.sto.lists kp
  rw [e] at z
  simpa using z

theorem swapped_is {x y : Str} {p1 p2 tp vp : Pos} {e1 e2 : Expr} {tk1 tk2 : Nat} (hb : env.blockKind = .function) (hk1 : env.kindOf x = some .local) (hk2 : env.kindOf y = some .local) (hxy : x ≠ y) (hl : p2.line = p1.line) (g5 : isStarE e1 = false) (g6 : isStarE e2 = false)
    (f1 : ([e1, e2].all (foldedForSure 8)) = false) (f2 : ([e1, e2].all (constantsAlone 8)) = false) : swappedStores [.Tuple [.Name x p1, .Name y p2] tk1 tp] (.Tuple [e1, e2] tk2 vp) env = pure (some [x, y]) := by
  have key : ∀ {f : Expr → Bool}, (∀ e, f e = true → isStarE e = true) → ¬ ([e1, e2].any f) = true := by
    intro f hf hh
    simp only [List.any_cons, List.any_nil, Bool.or_false, Bool.or_eq_true] at hh
    rcases hh with hh | hh
    · rw [hf _ hh] at g5; cases g5
    · rw [hf _ hh] at g6; cases g6
  unfold swappedStores
  dsimp only
  rw [f1, f2, hb]
  rw [if_neg (by simp), if_neg (key fun e h => by cases e <;> first | rfl | (cases h; done))]
  rw [show ((Option.map (fun x => x.pos.line) [Expr.Name x p1, Expr.Name y p2].head?).getD 0) = p1.line from rfl]
  have hd : [x, y].eraseDups.length = 2 := by
    simp [List.eraseDups_cons, Ne.symm hxy]
  simp only [List.filterMap_cons, List.filterMap_nil, hk1, hk2, hl, beq_self_eq_true, Bool.and_self, if_true, hd]
  rfl

theorem swap_ok (HE : OkE prog w h₀ v n k) {bud : Nat} {x y : Str} {p1 p2 tp vp pos : Pos} {e1 e2 : Expr} {d1 d2 : D} {tk1 tk2 : Nat} (hok : swapOk mu sc x p1 y p2 e1 e2 = true) (q1 : v.e sc ρ σ e1 = some (.val d1, σ1)) (q2 : v.e sc ρ σ1 e2 = some (.val d2, σ2))
    (a1 : assignName mu bud sc ρ σ2 y d2 true = some (ρ1, σ3)) (a2 : assignName mu bud sc ρ1 σ3 x d1 true = some (ρ2, σ4)) (R0 : Room A n k) (I : Inv prog w h₀ hb env sc s.heap μ ρ σ) (fresh : mu ≠ [] → ∀ a ∈ μ.locs, hb.get? a = none)
    (h : PostS prog w h₀ hb env sc mu s μ .next ρ2 σ4 Q) : wpAny (model prog w) A (exec (.Assign [.Tuple [.Name x p1, .Name y p2] tk1 tp] (.Tuple [e1, e2] tk2 vp) pos) env) Q E s := by
  unfold swapOk at hok
  simp only [Bool.and_eq_true] at hok
  obtain ⟨⟨⟨⟨⟨⟨⟨⟨⟨⟨⟨g1, g2⟩, g3⟩, g4⟩, g5⟩, g6⟩, g7⟩, g8⟩, g9⟩, g10⟩, g11⟩, g12⟩ := hok
  obtain ⟨_, hx⟩ := okLocal g1
  obtain ⟨_, hy⟩ := okLocal g2
  obtain ⟨lx, hlx⟩ := Option.isSome_iff_exists.mp g11
  obtain ⟨ly, hly⟩ := Option.isSome_iff_exists.mp g12
  have hmu : mu ≠ [] := by rintro rfl; simp at hlx
  have fr := fresh hmu
  have lst : ∀ {x l ρ σ d r}, mu.lookup x = some l → assignName mu bud sc ρ σ x d true = some r → ∃ ds, d = .lst ds := by
    intro x l ρ σ d r hl q
    unfold assignName at q
    rw [hl] at q
    dsimp only at q
    split at q
    · split at q
      · exact ⟨_, rfl⟩
      · cases q
    · cases q
  obtain ⟨ds1, rfl⟩ := lst hlx a2
  obtain ⟨ds2, rfl⟩ := lst hly a1
  have hw : swappedStores [.Tuple [.Name x p1, .Name y p2] tk1 tp] (.Tuple [e1, e2] tk2 vp) env = pure (some [x, y]) := by
    have hb : env.blockKind = .function := by unfold Env.blockKind; rw [I.eo.kind]; rfl
    exact swapped_is hb (by rw [I.kind]; exact hx) (by rw [I.kind]; exact hy) (by simpa using g3) (by simpa using g4) (by simpa using g5) (by simpa using g6) (Bool.not_eq_true' _ ▸ g7) (Bool.not_eq_true' _ ▸ g8)
  refine Assign_Tuple_swapped ?_ rfl hw
  refine wpAny_Tuple ?_
  have hs1 : isStarE e1 = false := by simpa using g5
  have hs2 : isStarE e2 = false := by simpa using g6
  rw [spliced_star hs1, spliced_star hs2]
  refine Calls.spliced_cons (HE _ _ _ _ _ _ _ _ _ _ _ _ _ q1 R0 I fun h1 t1 u1 k1 S1 r1 n1 => ?_)
  obtain ⟨ad1, rfl⟩ : ∃ a, u1 = .ref a := by cases r1; exact ⟨_, rfl⟩
  obtain ⟨ha1, Sa1, vs1, pl1, rp1⟩ := n1 g9 ad1 ds1 rfl rfl
  have I1 := I.plusKeep k1 ha1 Sa1
  refine Calls.spliced_cons (HE _ _ _ _ _ _ _ _ _ { s with heap := h1, toks := t1 } _ _ _ q2 R0 I1 fun h2 t2 u2 k2 S2 r2 n2 => ?_)
  obtain ⟨ad2, rfl⟩ : ∃ a, u2 = .ref a := by cases r2; exact ⟨_, rfl⟩
  obtain ⟨ha2, Sa2, vs2, pl2, rp2⟩ := n2 g10 ad2 ds2 rfl rfl
  have I2 := I1.plusKeep k2 ha2 Sa2
  refine Calls.spliced_nil ⟨by have := bnd_line; simp; omega, ?_⟩
  have push : ∀ b o, h2.get? b = some o → (h2.push { cls := .type "tuple", data := .seq #[.ref ad1, .ref ad2] }).get? b = some o := fun b o e => Heap.get?_push_of_some _ e
  refine wpAny_unpackItems_tuple (items := #[.ref ad1, .ref ad2]) R0.hh ⟨_, Heap.get?_push_size _ rfl, rfl, _, rfl⟩ fun h4 hx4 => ?_
  have k24 : ∀ b o, h2.get? b = some o → h4.get? b = some o := fun b o e => hx4 b o (by
    have := Heap.lt_size (push b o e)
    exact Nat.ne_of_lt this) (push b o e)
  have I4 := I2.keep (Keep.of k24) (I2.sto.keepAll k24)
  have aM1 : ¬ μ.has ad1 := fun q => by
    obtain ⟨o, e⟩ := I.sto.here ad1 q
    rw [ha1] at e; cases e
  have aM2 : ¬ (μ.plus ad1).has ad2 := fun q => by
    obtain ⟨o, e⟩ := StoOK.here (s := { s with heap := h1, toks := t1 }) I1.sto ad2 q
    exact absurd (ha2.symm.trans e) (by simp)
  show wpAny _ A (assignInOrder [bindName env y, bindName env x] [.ref ad2, .ref ad1]) _ _ _
  refine assignInOrder_cons (bindName_ ?_)
  refine assign_core (s := { s with heap := h4, toks := _ }) (μ := μ.plus ad1) a1 hly I4 fr aM2 (pl2.at fun o => k24 _ o) (rp2.keep I2.sto.lists (Keep.of k24)) fun h5 t5 locs5 I5 mem5 sb5 => ?_
  refine assignInOrder_cons (bindName_ ?_)
  have ne12 : ad1 ≠ ad2 := fun e => aM2 (Mu.plus_has.mpr (.inl e.symm))
  have nL : ad1 ∉ μ.locs := fun q => aM1 (.inl q)
  have hne : ad1 ≠ env.locals := fun e => by
    obtain ⟨m, o, es, ep, e', d', _⟩ := I1.ns
    obtain ⟨nn, pe⟩ := pl1
    rw [e] at pe
    rw [pe] at e'; cases e'; cases d'
  have base : ∀ b o, b ∉ μ.locs → b ≠ env.locals → h1.get? b = some o → h5.get? b = some o := fun b o hb hl e => sb5.extBut b o hl (k24 b o (k2 b o hb e))
  have rp5 : RepL prog w h5 (Mu.plus ⟨locs5, μ.more⟩ ad1) vs1.toList ds1 := rp1.move (μ := μ.plus ad1) I1.sto.lists ⟨fun b o hb e hd => base b o hb (I1.notCell e hd).1 e, fun b o hb e q => hb ?_⟩
  · refine assign_core (s := { s with heap := h5, toks := t5 }) (μ := ⟨locs5, μ.more⟩) a2 hlx I5 (fun b hbm => ?_) (fun q => ?_) (pl1.at fun o e => base _ o nL hne e) rp5 fun h6 t6 locs6 I6 mem6 sb6 => assignInOrder_nil ?_
    · rcases mem5 b hbm with e | q
      · subst e
        cases e' : hb.get? b with
        | none => rfl
        | some o => exact absurd ((I1.kb b o (fun q => aM2 (.inl q)) e').symm.trans ha2) (by simp)
      · exact fr b q
    · rcases q with q | q
      · exact (mem5 _ q).elim ne12 nL
      · exact aM1 (.inr q)
    · refine h h6 t6 _ I6 ⟨fun e => absurd e hmu, rfl, fun b hb => ?_⟩ fun b o hb hl _ e => sb6.extBut b o hl (base b o hb hl (k1 b o hb e))
      rcases mem6 b hb with e | q
      · exact .inr (e ▸ ha1)
      · rcases mem5 b q with e | q
        · subst e
          refine .inr ?_
          cases e' : s.heap.get? b with
          | none => rfl
          | some o => exact absurd ((k1 b o (fun q => aM2 (.inl q)) e').symm.trans ha2) (by simp)
        · exact .inl q
  · rcases q with q | q
    · rcases mem5 b q with e' | q
      · subst e'; exact absurd (ha2.symm.trans e) (by simp)
      · exact .inl q
    · exact .inr q
end
end Mine

namespace Mine
open PySem PySem.W PyProof.Rows PySem.SeqAt

section
variable {prog : Program} {w : World} {h₀ hb : Heap} {env : Env} {sc : Names} {μ μ' : Mu} {ρ ρ1 ρ2 : Loc} {σ σ' σ1 σ2 σ3 σ4 : Sto} {A : Around} {E : Value → Shared → Prop} {s : Shared} {C : Orc} {G : Str → Option D} {mg mb : Str → Option Value} {v : Ev} {n k : Nat} {mu : List (Str × Nat)} {Q : Flow → Shared → Prop}

theorem names_spec : ∀ {ts : List Expr} {xs : List Str}, namesOf ts = some xs → (assignEach ts env).length = xs.length ∧ (assignEach ts env).findIdx? (·.1) = none ∧ ∃ ps : List Pos, ps.length = xs.length ∧ (assignEach ts env).map (·.2) = (xs.zip ps).map fun p => assign (.Name p.1 p.2) env
  | [], _, q => by cases q; exact ⟨rfl, rfl, [], rfl, rfl⟩
  | e :: ts, xs, q => by
    obtain ⟨⟨x, p⟩, h0, q⟩ := b1_inv q
    obtain ⟨xs', hx, q⟩ := b1_inv q
    cases q
    rw [asN_inv h0]
    obtain ⟨h1, h2, ps, h3, h4⟩ := names_spec hx
    refine ⟨?_, ?_, p :: ps, by rw [List.length_cons, List.length_cons, h3], ?_⟩
    · show (assignEach ts env).length + 1 = _
      rw [h1]; rfl
    · show List.findIdx? (·.1) ((false, assign (.Name x p) env) :: assignEach ts env) = none
      rw [List.findIdx?_cons, h2]; rfl
    · show assign (.Name x p) env :: (assignEach ts env).map (·.2) = _
      rw [h4]; rfl

theorem storeAll_ok {Q : Unit → Shared → Prop} : ∀ (xs : List Str) (ps : List Pos) (ds : List D) (vs : List Value) (ρ ρ1 : Loc) (s : Shared), ps.length = xs.length → xs.all (isLocal sc) = true → setAll xs ds ρ = some ρ1 → Inv prog w h₀ hb env sc s.heap μ ρ σ → RepL prog w s.heap μ vs ds →
    (∀ h' tk, Inv prog w h₀ hb env sc h' μ ρ1 σ → (∀ b o, b ≠ env.locals → s.heap.get? b = some o → h'.get? b = some o) → Q () { s with heap := h', toks := tk }) → wpAny (model prog w) A (assignInOrder ((xs.zip ps).map fun p => assign (.Name p.1 p.2) env) vs) Q E s
  | [], ps, ds, vs, ρ, ρ1, s, _, _, q, I, r, h => by
    cases ds with
    | cons => cases q
    | nil =>
      cases q
      exact assignInOrder_nil (h s.heap s.toks I fun _ _ _ e => e)
  | x :: xs, [], _, _, _, _, _, hp, _, _, _, _, _ => by cases hp
  | x :: xs, p :: ps, ds, vs, ρ, ρ1, s, hp, ha, q, I, r, h => by
    cases ds with
    | nil => cases q
    | cons d ds =>
      cases r with
      | cons rv r =>
        rw [List.all_cons, Bool.and_eq_true] at ha
        obtain ⟨m, hm⟩ := I.ns
        have U := UnRep.ns (μ := μ) hm
        refine assignInOrder_cons (assign_Name (store_local_ok I (okLocal ha.1).2 (r := .val d) rv (Rep.ne U rv) fun h' tk I' hs => ?_))
        have k : ∀ b o, b ≠ env.locals → s.heap.get? b = some o → h'.get? b = some o := fun b o hb e => hs.extBut b o hb e
        exact storeAll_ok xs ps ds _ _ _ { s with heap := h', toks := tk } (Nat.succ.inj hp) ha.2 q I' (r.but U k) fun h'' tk' I'' k' => h h'' tk' I'' fun b o hb e => k' b o hb (k b o hb e)

theorem unpack_ok (HE : OkE prog w h₀ v n k) {ts : List Expr} {nk : Nat} {tp pos : Pos} {e : Expr} {xs : List Str} {ds : List D} (he : asT e = none) (hn : namesOf ts = some xs) (q : v.e sc ρ σ e = some (.val (.tup ds), σ1)) (hl : xs.all (isLocal sc) = true) (qs : setAll xs ds ρ = some ρ1)
    (R0 : Room A n k) (I : Inv prog w h₀ hb env sc s.heap μ ρ σ) (h : PostS prog w h₀ hb env sc mu s μ .next ρ1 σ1 Q) : wpAny (model prog w) A (exec (.Assign [.Tuple ts nk tp] e pos) env) Q E s := by
  have hw : swappedStores [.Tuple ts nk tp] e env = pure none := by
    cases e <;> first | rfl | (cases he; done)
  refine Assign_Tuple (HE _ _ _ _ _ _ _ _ _ _ _ _ _ q R0 I fun h1 tk1 u k1 S1 r1 _ => ?_) (show swapsWith e (some (.Tuple ts nk tp)) pos.line env = pure false from swapsNotTup) hw
  obtain ⟨g1, g2, ps, g3, g4⟩ := names_spec (env := env) hn
  cases r1 with
  | @tup l o vs nn _ c1 c2 c3 c4 c5 =>
    have hlen : xs.length = ds.length := by
      have : ∀ (xs : List Str) (ds : List D) (ρ ρ1 : Loc), setAll xs ds ρ = some ρ1 → xs.length = ds.length := by
        intro xs
        induction xs with
        | nil => intro ds ρ ρ1 q; cases ds with
          | nil => rfl
          | cons => cases q
        | cons x xs ih => intro ds ρ ρ1 q; cases ds with
          | nil => cases q
          | cons d ds => rw [List.length_cons, List.length_cons, ih _ _ _ q]
      exact this _ _ _ _ qs
    refine wpAny_assign_Tuple R0.hh ⟨_, c1, c2, _, c3⟩ ?_ g2 fun h2 hx => ?_
    · have := c5.length
      rw [Array.length_toList] at this
      omega
    rw [g4]
    have k2 : ∀ b o, h1.get? b = some o → h2.get? b = some o := fun b o e => hx b o (Nat.ne_of_lt (Heap.lt_size e)) e
    have I1 := I.keep k1 S1
    refine storeAll_ok xs ps ds _ ρ ρ1 { s with heap := h2, toks := tk1 } g3 hl qs (I1.keep (Keep.of k2) (S1.keepAll k2)) (c5.keep S1.lists (Keep.of k2)) fun h3 tk3 I3 k3 => ?_
    exact h h3 tk3 μ I3 (Mg.refl _ _ _) fun b o hb hl _ e => k3 b o hl (k2 b o (k1 b o hb e))

theorem setitem_ok (HE : OkE prog w h₀ v n k) {x : Str} {xp cp sp pos : Pos} {nk : Nat} {i : Nat} {e : Expr} {d : D} {l : Nat} {en : Ent} (q : v.e sc ρ σ e = some (.val d, σ1)) (hx : ρ.lookup x = some (.loc l)) (he : σ1[l]? = some en) (hi : i < en.rev.length) (hi2 : i < 2 ^ 62) (hd : isDbg x = false)
    (R0 : Room A n k) (I : Inv prog w h₀ hb env sc s.heap μ ρ σ) (h : PostS prog w h₀ hb env sc mu s μ .next ρ (σ1.set l ⟨en.g, (en.rev.reverse.set i d).reverse⟩) Q) : wpAny (model prog w) A (exec (.Assign [.Subscript (.Name x xp) (.Constant (.int (.ofNat i)) nk cp) sp] e pos) env) Q E s := by
  refine wpAny_Assign_Subscript (HE _ _ _ _ _ _ _ _ _ _ _ _ _ q R0 I fun h1 tk1 u k1 S1 r1 _ => ?_) swapsNotSub
  have I1 := I.keep k1 S1
  refine name_is (s := { s with heap := h1, toks := tk1 }) I1 hx hd fun u2 r2 => ?_
  refine wpAny_Constant_int ?_
  refine set_ok (s := { s with heap := h1, toks := tk1 + 1 }) he hi hi2 S1 r2 r1 fun h2 k2 S2 => ?_
  exact h h2 _ μ (I1.keep k2 S2) (Mg.refl _ _ _) (KeepF.of (k1.trans k2))

theorem append_stmt_ok (HE : OkE prog w h₀ v n k) {x : Str} {xp ap pp pos : Pos} {e : Expr} {d : D} {l g : Nat} {rev : List D} (hd : isDbg x = false) (hl : (ap.endLine == pp.line) = true) (hs : isStarE e = false) (q : v.e sc ρ σ e = some (.val d, σ1)) (hx : ρ.lookup x = some (.loc l)) (he : σ1[l]? = some ⟨g + 1, rev⟩)
    (R0 : Room A n k) (I : Inv prog w h₀ hb env sc s.heap μ ρ σ) (h : PostS prog w h₀ hb env sc mu s μ .next ρ (σ1.set l ⟨g, d :: rev⟩) Q) : wpAny (model prog w) A (exec (.Expr (.Call (.Attribute (.Name x xp) "append" ap) [e] [] pp) pos) env) Q E s := by
  refine wpAny_Expr_any ?_ (by unfold interactive; rw [I.eo.kind]; rfl) rfl
  refine wpAny_Call_method1_late rfl hl (by rw [spliced_star hs]; rfl) (name_is I hx hd fun u qu => ?_)
  have qu' := qu
  obtain ⟨a, rfl, ha⟩ := qu'
  obtain ⟨en, hen⟩ : ∃ en, σ[l]? = some en := by
    have := (List.getElem?_eq_some_iff.mp ha).1
    rw [I.sto.len] at this
    exact ⟨_, List.getElem?_eq_getElem this⟩
  obtain ⟨vs, p, rp, _⟩ := I.sto.is l a _ ha hen
  obtain ⟨nn, pe⟩ := p
  refine ⟨"list", "list.append", F.plainAttrs_list, F.slot_list_append, F.type_list_append, ⟨_, pe, rfl⟩, fun b e => by cases e; exact ⟨_, pe, rfl⟩, ?_⟩
  refine Calls.callWith_builtin rfl (Calls.evalArgs_plain (Calls.spliced_cons (HE _ _ _ _ _ _ _ _ _ _ _ _ _ q R0 I fun h1 tk1 u k1 S1 r1 _ => Calls.spliced_nil ?_)))
  refine append_ok (s := { s with heap := h1, toks := tk1 }) he S1 ⟨a, rfl, ha⟩ r1 fun h2 k2 S2 => ?_
  exact h h2 tk1 μ (I.keep (k1.trans k2) S2) (Mg.refl _ _ _) (KeepF.of (k1.trans k2))

noncomputable def OkRec (prog : Program) (w : World) (h₀ : Heap) (mu : List (Str × Nat)) (sc : Names) (rec : Loc → Sto → List Stmt → Out) (n k : Nat) : Prop :=
  ∀ (env : Env) (hb : Heap) (ρ : Loc) (σ : Sto) (ss : List Stmt) (fl : Fl) (ρ' : Loc) (σ' : Sto) (A : Around) (s : Shared) (μ : Mu) (E : Value → Shared → Prop) (Q : Flow → Shared → Prop),
    rec ρ σ ss = some (fl, ρ', σ') → Room A n k → Inv prog w h₀ hb env sc s.heap μ ρ σ → (mu ≠ [] → ∀ a ∈ μ.locs, hb.get? a = none) → PostS prog w h₀ hb env sc mu s μ fl ρ' σ' Q → wpAny (model prog w) A (execs ss env) Q E s

theorem Mg.fresh {h : Heap} (mg : Mg mu h μ μ') (I : Inv prog w h₀ hb env sc h μ ρ σ) (fresh : mu ≠ [] → ∀ a ∈ μ.locs, hb.get? a = none) : mu ≠ [] → ∀ a ∈ μ'.locs, hb.get? a = none := fun hm a ha => by
  rcases mg.new a ha with q | q
  · exact fresh hm a q
  · cases e : hb.get? a with
    | none => rfl
    | some o =>
      have := I.kb a o (fun q' => by rw [fresh hm a q'] at e; cases e) e
      rw [q] at this; cases this
end
end Mine

namespace Mine
open PySem PySem.W PyProof.Rows PySem.SeqAt

section
variable {prog : Program} {w : World} {h₀ hb : Heap} {env : Env} {sc : Names} {μ μ' : Mu} {ρ ρ' ρ1 ρ2 : Loc} {σ σ' σ1 σ2 σ3 σ4 : Sto} {A : Around} {E : Value → Shared → Prop} {s : Shared} {C : Orc} {G : Str → Option D} {mg mb : Str → Option Value} {v : Ev} {n k : Nat} {mu : List (Str × Nat)} {Q : Flow → Shared → Prop}

theorem for_ok (HE : OkE prog w h₀ v n k) {rec : Loc → Sto → List Stmt → Out} (HR : OkRec prog w h₀ mu sc rec n k) {x : Str} {xp pos : Pos} {it : Expr} {body : List Stmt} {r : R} {ds : List D} {fl : Fl}
    (hns : notSet it = true) (q1 : v.e sc ρ σ it = some (r, σ1)) (q2 : itemsOf r = some ds) (hx : isLocal sc x = true) (qf : forRun rec x body ds ρ σ1 = some (fl, ρ', σ')) (R0 : Room A n k) (I : Inv prog w h₀ hb env sc s.heap μ ρ σ) (fresh : mu ≠ [] → ∀ a ∈ μ.locs, hb.get? a = none)
    (h : PostS prog w h₀ hb env sc mu s μ fl ρ' σ' Q) : wpAny (model prog w) A (exec (.For (.Name x xp) it body [] pos) env) Q E s := by
  refine wpAny_For (HE _ _ _ _ _ _ _ _ _ _ _ _ _ q1 R0 I fun h1 tk1 u k1 S1 r1 _ => ?_) (folded_ok hns env)
  have I1 := I.keep k1 S1
  have P1 := h.step (tk := tk1) I1 (Mg.refl _ _ _) (KeepF.of k1)
  refine iter_ok (s := { s with heap := h1, toks := tk1 }) q2 r1 S1 fun Ia fp P St h2 IT => ?_
  have W := IT.walks A R0.hh
  have hI1 : h1.get? Ia = none := Heap.get?_none_of_le IT.new
  have hIB : hb.get? Ia = none := by
    cases e : hb.get? Ia with
    | none => rfl
    | some o =>
      have e1 := I1.kb Ia o (fun hm => by
        obtain ⟨vs, nn, e'⟩ := S1.alive hm
        rw [hI1] at e'; cases e') e
      rw [hI1] at e1; cases e1
  have hIL : Ia ≠ env.locals := fun e => by
    obtain ⟨m, o, _, _, e', _⟩ := I1.ns
    rw [← e, hI1] at e'; cases e'
  have hIm : Ia ∉ μ.locs := fun hm => by
    obtain ⟨vs, nn, e'⟩ := S1.alive hm
    rw [hI1] at e'; cases e'
  have hIc : ∀ n c, sc.lookup n = some .cell → env.cells.lookup n = some c → Ia ≠ c := fun n c hn hc e => by
    obtain ⟨c', u, g1, ⟨o, e', _⟩, _⟩ := I1.cel n hn
    rw [hc] at g1; cases g1
    rw [← e, hI1] at e'; cases e'
  have hIr : ∀ b ∈ fp, b ≠ Ia → ∃ o vs n, b ∉ μ.locs ∧ h1.get? b = some o ∧ o.data = .seq vs n := fun b hb hne => by
    rcases IT.fp b hb with e | ⟨q, o, vs, nn, e, d⟩
    · exact absurd e hne
    · exact ⟨o, vs, nn, q, e, d⟩
  have hIo0 : Ia ∉ μ.more := fun hm => by
    obtain ⟨⟨o, e⟩, _⟩ := S1.more _ hm
    rw [hI1] at e; cases e
  refine codeAny_forLoop_any (fun m s' => ∃ i hh tk μi ρi σi, s' = { s with heap := hh, toks := tk } ∧ Inv prog w h₀ hb env sc hh μi ρi σi ∧ Mg mu h1 μ μi ∧ KeepF env sc μ h1 hh ∧ St i hh ∧ Ia ∉ μi.locs ∧ Ia ∉ μi.more ∧ i ≤ ds.length ∧ m = ds.length - i ∧ forRun rec x body (ds.drop i) ρi σi = some (fl, ρ', σ')) ?_ ds.length
    ⟨0, h2, tk1, μ, ρ, σ1, rfl, I1.keep (Keep.of IT.keep) (S1.keepAll IT.keep), Mg.refl _ _ _, fun b o _ _ _ e => IT.keep b o e, IT.st, hIm, hIo0, Nat.zero_le _, rfl, qf⟩
  rintro m s' ⟨i, hh, tk, μi, ρi, σi, rfl, Ii, mgi, kfi, sti, hIn, hIo, hile, hm, qi⟩
  obtain ⟨o, T, ho, hc, hT, hT', fs, hfs⟩ := IT.plain i hh sti
  have stepI : ∀ {h' : Heap}, (∀ b o, b ≠ Ia → hh.get? b = some o → h'.get? b = some o) → Inv prog w h₀ hb env sc h' μi ρi σi := fun kk =>
    Ii.other (UnRep.cls ho hc hT') hIL (fun u q => by obtain ⟨o', e', d'⟩ := q; rw [ho] at e'; cases e'; rw [hfs] at d'; cases d') (.inl fun o' es ep e' d' => by rw [ho] at e'; cases e'; rw [hfs] at d'; cases d') hIn (fun q => absurd q hIo) hIB kk
  by_cases hlt : i < ds.length
  · obtain ⟨d, hd⟩ : ∃ d, ds[i]? = some d := ⟨_, List.getElem?_eq_getElem hlt⟩
    have hdrop : ds.drop i = d :: ds.drop (i + 1) := by
      rw [List.drop_eq_getElem_cons hlt]
      rw [List.getElem?_eq_getElem hlt] at hd; cases hd; rfl
    rw [hdrop] at qi
    unfold forRun at qi
    refine W.item i _ _ _ hlt sti fun u' h3 tk3 hu st3 k3 => ?_
    have k3' : ∀ b o, b ≠ Ia → hh.get? b = some o → h3.get? b = some o := fun b o hb e => k3 b o (by simpa using hb) e
    have I3 := stepI k3'
    have kf3 : KeepF env sc μ h1 h3 := fun b o hb hl hcl e => k3' b o (fun q => by rw [q, hI1] at e; cases e) (kfi b o hb hl hcl e)
    have ru : Rep prog w h3 μi u' d := by
      obtain ⟨d', hd', rd⟩ := IT.item i u' hu
      rw [hd] at hd'; cases hd'
      exact Rep.move S1.lists (moves_of I1 kf3 mgi) (rd h1 (Keep.refl _ _))
    refine wpAny_pure (a := ()) ?_
    obtain ⟨m3, hm3⟩ := I3.ns
    refine wpAny_assign_Name (store_local_ok (s := { s with heap := h3, toks := tk3 }) I3 (okLocal hx).2 (r := .val d) ru (Rep.ne (UnRep.ns hm3) ru) fun h4 tk4 I4 hs4 => ?_)
    have kf4 : KeepF env sc μ h1 h4 := fun b o hb hl hcl e => hs4.extBut b o hl (kf3 b o hb hl hcl e)
    have st4 : St (i + 1) h4 := W.frame _ _ _ st3 fun b hb o e => hs4.extBut b o (fun q => by
      by_cases hbI : b = Ia
      · exact hIL (hbI ▸ q)
      · obtain ⟨o', vs, nn, _, e', d'⟩ := hIr b hb hbI
        exact (I1.notCell e' (.inl ⟨_, _, d'⟩)).1 q) e
    have P4 := P1.step (tk := tk4) I4 mgi kf4
    have hIa4 : ∃ o, h4.get? Ia = some o := by
      obtain ⟨o', T', ho', _⟩ := IT.plain (i + 1) h4 st4
      exact ⟨o', ho'⟩
    split at qi
    · rename_i ρ3 σ3 hrec
      refine HR env hb _ σi body .next ρ3 σ3 A { s with heap := h4, toks := tk4 } μi _ _ hrec R0 I4 (mgi.fresh I1 fresh) ?_
      intro h5 tk5 μ5 I5 mg5 kf5
      have mg5' := Mg.trans I4 kf4 mgi mg5
      refine ⟨ds.length - (i + 1), by omega, i + 1, h5, tk5, μ5, restr ρi ρ3, σ3, rfl, I5.weak (fun y r e => (lookup_filter (f := fun y => (ρi.lookup y).isSome) e).2), mg5', kf4.trans mgi kf5, ?_, ?_, ?_, hlt, rfl, qi⟩
      · refine W.frame _ _ _ st4 fun b hb o e => ?_
        by_cases hbI : b = Ia
        · subst hbI; exact kf5 b o hIn hIL hIc e
        · obtain ⟨o', vs, nn, g1, e', d'⟩ := hIr b hb hbI
          obtain ⟨g2, g3⟩ := I1.notCell e' (.inl ⟨_, _, d'⟩)
          exact kf5 b o (fun q => (mgi.new b q).elim g1 fun q => by rw [q] at e'; cases e') g2 g3 e
      · intro q
        rcases mg5.new _ q with q | q
        · exact hIn q
        · obtain ⟨o', e'⟩ := hIa4
          exact absurd (q.symm.trans e') (by simp)
      · rw [mg5.more]; exact hIo
    · rename_i hno
      refine HR env hb _ σi body fl ρ' σ' A { s with heap := h4, toks := tk4 } μi _ _ qi R0 I4 (mgi.fresh I1 fresh) ?_
      cases fl with
      | next => exact absurd qi (hno _ _)
      | ret r fr => exact fun h5 tk5 μ5 u5 I5 mg5 kf5 r5 n5 => P4 h5 tk5 μ5 u5 I5 mg5 kf5 r5 n5
  · have hi : i = ds.length := by omega
    have hnil : ds.drop i = [] := List.drop_eq_nil_of_le (by omega)
    rw [hnil] at qi
    cases qi
    refine W.done _ _ _ (hi ▸ sti) fun h3 tk3 k3 => ?_
    have k3' : ∀ b o, b ≠ Ia → hh.get? b = some o → h3.get? b = some o := fun b o hb e => k3 b o (by simpa using hb) e
    refine wpAny_execs_nil ?_
    exact P1 h3 tk3 μi (stepI k3') mgi fun b o hb hl hcl e => k3' b o (fun q => by
      have e1 : h1.get? b = some o := e
      rw [q, hI1] at e1; cases e1) (kfi b o hb hl hcl e)

theorem while_ok (HT : OkT prog w h₀ v n k) {rec : Loc → Sto → List Stmt → Out} (HR : OkRec prog w h₀ mu sc rec n k) {t : Expr} {pos : Pos} {body : List Stmt} {W : Nat} {fl : Fl} (qf : whileRun rec (fun ρ σ => v.t sc ρ σ t) body W ρ σ = some (fl, ρ', σ')) (R0 : Room A n k) (I : Inv prog w h₀ hb env sc s.heap μ ρ σ) (fresh : mu ≠ [] → ∀ a ∈ μ.locs, hb.get? a = none)
    (h : PostS prog w h₀ hb env sc mu s μ fl ρ' σ' Q) : wpAny (model prog w) A (exec (.While t body [] pos) env) Q E s := by
  refine wpAny_While (codeAny_whileLoop (fun m s' => ∃ hh tk μi ρi σi, s' = { s with heap := hh, toks := tk } ∧ Inv prog w h₀ hb env sc hh μi ρi σi ∧ Mg mu s.heap μ μi ∧ KeepF env sc μ s.heap hh ∧ whileRun rec (fun ρ σ => v.t sc ρ σ t) body m ρi σi = some (fl, ρ', σ')) ?_ W
    ⟨s.heap, s.toks, μ, ρ, σ, rfl, I, Mg.refl _ _ _, fun _ _ _ _ _ e => e, qf⟩)
  rintro m s' ⟨hh, tk, μi, ρi, σi, rfl, Ii, mgi, kfi, qi⟩
  have P1 := h.step (tk := tk) Ii mgi kfi
  cases m with
  | zero => cases qi
  | succ m =>
    unfold whileRun at qi
    split at qi
    · rename_i σ2 ht
      refine HT _ _ _ _ _ _ _ _ _ { s with heap := hh, toks := tk } _ _ _ ht R0 Ii fun h1 tk1 k1 S1 => ?_
      simp only [if_true]
      have I1 := Ii.keep k1 S1
      have P2 := P1.step (tk := tk1) I1 (Mg.refl _ _ _) (KeepF.of k1)
      split at qi
      · rename_i ρ3 σ3 hrec
        refine HR env hb _ _ body .next ρ3 σ3 A { s with heap := h1, toks := tk1 } μi _ _ hrec R0 I1 (mgi.fresh I fresh) fun h5 tk5 μ5 I5 mg5 kf5 => ?_
        have kf1 : KeepF env sc μ s.heap h1 := kfi.trans mgi (KeepF.of k1)
        exact ⟨m, Nat.lt_succ_self _, h5, tk5, μ5, restr ρi ρ3, σ3, rfl, I5.weak (fun y r e => (lookup_filter (f := fun y => (ρi.lookup y).isSome) e).2), Mg.trans I1 kf1 mgi mg5, kf1.trans mgi kf5, qi⟩
      · rename_i hno
        refine HR env hb _ _ body fl ρ' σ' A { s with heap := h1, toks := tk1 } μi _ _ qi R0 I1 (mgi.fresh I fresh) ?_
        cases fl with
        | next => exact absurd qi (hno _ _)
        | ret r fr => exact fun h5 tk5 μ5 u5 I5 mg5 kf5 r5 n5 => P2 h5 tk5 μ5 u5 I5 mg5 kf5 r5 n5
    · rename_i σ2 ht
      cases qi
      refine HT _ _ _ _ _ _ _ _ _ { s with heap := hh, toks := tk } _ _ _ ht R0 Ii fun h1 tk1 k1 S1 => ?_
      simp only [Bool.false_eq_true, if_false]
      exact wpAny_execs_nil (P1 h1 tk1 μi (Ii.keep k1 S1) (Mg.refl _ _ _) (KeepF.of k1))
    · cases qi
end
end Mine

namespace Mine
open PySem PySem.W PyProof.Rows PySem.SeqAt

section
variable {prog : Program} {w : World} {h₀ hb : Heap} {env : Env} {sc : Names} {μ μ' : Mu} {ρ ρ' ρ1 ρ2 : Loc} {σ σ' σ1 σ2 σ3 σ4 : Sto} {A : Around} {E : Value → Shared → Prop} {s : Shared} {C : Orc} {G : Str → Option D} {mg mb : Str → Option Value} {v : Ev} {n k : Nat} {mu : List (Str × Nat)} {Q : Flow → Shared → Prop}

theorem compOk_not {x : Str} {np : Pos} {e : Expr} (h : compOk sc x np ρ e = true) (hl : ∀ elt gs scope pos, e ≠ .ListComp elt gs scope pos) : isComp e = false := by
  cases e <;> first | rfl | exact absurd rfl (hl _ _ _ _) | (cases h; done)

theorem compE_inv {elt : Expr} {gs : List Comprehension} {scope : Scope} {p : Pos} {r : R} (q : stepE C G v sc ρ σ (.ListComp elt gs scope p) = some (r, σ')) : ∃ tgt it ifs r' σ1 ds ys, gs = [⟨tgt, it, ifs, 0⟩] ∧ okScope sc scope = true ∧ notSet it = true ∧
    v.e sc ρ σ it = some (r', σ1) ∧ itemsOf r' = some ds ∧ compRun v (compNames sc scope) tgt elt ifs (compLoc (compNames sc scope) ρ) ds σ1 [] = some (ys, σ') ∧ r = .val (.lst ys) := by
  obtain ⟨⟨tgt, it, ifs, asy⟩, h0, q1⟩ := one_inv q
  obtain ⟨hsc, q2⟩ := gd_inv q1
  rw [Bool.and_eq_true, Bool.and_eq_true, beq_iff_eq] at hsc
  obtain ⟨⟨g1, g2⟩, g3⟩ := hsc
  obtain ⟨r', σ1, h1, q3⟩ := b2_inv q2
  obtain ⟨ds, h2, q4⟩ := b1_inv q3
  obtain ⟨ys, σ2, h3, q5⟩ := b2_inv q4
  cases q5
  dsimp only at g3
  subst g3
  exact ⟨tgt, it, ifs, r', σ1, ds, ys, h0, g1, g2, h1, h2, h3, rfl⟩

theorem assignComp_inv {bud : Nat} {x : Str} {d : D} {elt : Expr} {gs : List Comprehension} {scope : Scope} {p : Pos} (qa : assignName mu bud sc ρ σ1 x d (newL (.ListComp elt gs scope p)) = some (ρ1, σ2)) : ρ1 = setL x (.val d) ρ ∧ σ2 = σ1 := by
  unfold assignName at qa
  cases hm : mu.lookup x with
  | none =>
    rw [hm] at qa
    dsimp only at qa
    split at qa
    · cases qa; exact ⟨rfl, rfl⟩
    · cases qa
  | some l =>
    rw [hm] at qa
    dsimp only at qa
    rw [if_neg (by rw [show newL (.ListComp elt gs scope p) = false from rfl, Bool.and_false, Bool.false_and]; exact Bool.false_ne_true)] at qa
    cases qa

theorem name_any_ok (B : Base prog w G h₀ mg mb) (HC : COK prog w h₀ mg k C) {bud : Nat} {x : Str} {np pos : Pos} {e : Expr} {d : D} (hc : compOk sc x np ρ e = true) (q : (ev C G n).e sc ρ σ e = some (.val d, σ1)) (qa : assignName mu bud sc ρ σ1 x d (newL e) = some (ρ1, σ2)) (R0 : Room A n k) (I : Inv prog w h₀ hb env sc s.heap μ ρ σ) (fresh : mu ≠ [] → ∀ a ∈ μ.locs, hb.get? a = none)
    (h : PostS prog w h₀ hb env sc mu s μ .next ρ1 σ2 Q) : wpAny (model prog w) A (exec (.Assign [.Name x np] e pos) env) Q E s := by
  by_cases hl : ∃ elt gs scope pos, e = .ListComp elt gs scope pos
  · obtain ⟨elt, gs, scope, pos, rfl⟩ := hl
    cases n with
    | zero => exact nos q
    | succ n =>
      obtain ⟨HE, HT⟩ := ev_ok B HC n
      obtain ⟨tgt, it, ifs, r', σ3, ds, ys, rfl, g1, g2, h1, h2, h3, h4⟩ := compE_inv (C := C) (G := G) (v := ev C G n) (p := pos) q
      obtain ⟨rfl, rfl⟩ := assignComp_inv (p := pos) qa
      cases h4
      exact assign_comp_ok HE HT R0.sub hc g1 g2 h1 h2 h3 I h
  · exact assign_name_ok (ev_ok B HC n).1 (compOk_not hc fun a b c d e => hl ⟨a, b, c, d, e⟩) q qa R0 I fresh h

theorem ifS_inv {rec : Loc → Sto → List Stmt → Out} {t : Expr} {b o : List Stmt} {z : Fl × Loc × Sto} (q : ifS v rec sc ρ σ t b o = some z) : ∃ x σ1, v.t sc ρ σ t = some (x, σ1) ∧ rec ρ σ1 (if x then b else o) = some z := b2_inv q
theorem truncS_inv {x m : Str} {fl : Fl} (q : truncS mu sc ρ σ x m = some (fl, ρ', σ')) : ∃ l k en, ρ.lookup x = some (.loc l) ∧ ρ.lookup m = some (.val (.int (k : Nat))) ∧ σ[l]? = some en ∧ (en.rev.take k).length = k ∧ (isLocal sc x && alone x l ρ && okLen sc x m && !mu.isEmpty) = true ∧ fl = .next ∧ ρ' = ρ ∧ σ' = σ.set l ⟨en.g, en.rev.drop k⟩ := by
  obtain ⟨l, h1, q1⟩ := b1_inv q
  obtain ⟨k, h2, q2⟩ := b1_inv q1
  obtain ⟨en, h3, q3⟩ := b1_inv q2
  obtain ⟨h4, q4⟩ := gd_inv q3
  rw [Bool.and_eq_true] at h4
  cases q4
  exact ⟨l, k, en, locOf_inv h1, natOf_inv h2, h3, of_decide_eq_true h4.1, h4.2, rfl, rfl, rfl⟩
theorem nmS_ok (B : Base prog w G h₀ mg mb) (HC : COK prog w h₀ mg k C) {bud : Nat} {x : Str} {np pos : Pos} {e : Expr} {fl : Fl} (q : nmS mu bud (ev C G n) sc ρ σ x np e = some (fl, ρ', σ')) (R0 : Room A n k) (I : Inv prog w h₀ hb env sc s.heap μ ρ σ) (fresh : mu ≠ [] → ∀ a ∈ μ.locs, hb.get? a = none)
    (h : PostS prog w h₀ hb env sc mu s μ fl ρ' σ' Q) : wpAny (model prog w) A (exec (.Assign [.Name x np] e pos) env) Q E s := by
  obtain ⟨hc, q1⟩ := gd_inv q
  clear q
  cases ht : truncOf x e with
  | some m =>
    rw [ht] at q1
    obtain ⟨l, kk, en, hx, hm, he, hl, hok, q2, q3, q4⟩ := truncS_inv q1
    subst q2 q3 q4
    exact trunc_ok B ht hx hm he hl hok R0 I fresh h
  | none =>
    rw [ht] at q1
    obtain ⟨d, σ1, h1, q2⟩ := bV_inv q1
    obtain ⟨ρ1, σ2, ha, q3⟩ := b2_inv q2
    cases q3
    exact name_any_ok B HC hc h1 ha R0 I fresh h

theorem swapS_inv {bud : Nat} {ts es : List Expr} {fl : Fl} (q : swapS mu bud v sc ρ σ ts es = some (fl, ρ', σ')) : ∃ x p1 y p2 e1 e2 d1 σ1 d2 σ2 ρ1 σ3, ts = [.Name x p1, .Name y p2] ∧ es = [e1, e2] ∧ swapOk mu sc x p1 y p2 e1 e2 = true ∧ v.e sc ρ σ e1 = some (.val d1, σ1) ∧ v.e sc ρ σ1 e2 = some (.val d2, σ2) ∧
    assignName mu bud sc ρ σ2 y d2 true = some (ρ1, σ3) ∧ assignName mu bud sc ρ1 σ3 x d1 true = some (ρ', σ') ∧ fl = .next := by
  obtain ⟨t1, t2, h1, q1⟩ := two_inv q
  obtain ⟨e1, e2, h2, q2⟩ := two_inv q1
  obtain ⟨x, h3, q3⟩ := b1_inv q2
  obtain ⟨y, h4, q4⟩ := b1_inv q3
  obtain ⟨h5, q5⟩ := gd_inv q4
  obtain ⟨d1, σ1, h6, q6⟩ := bV_inv q5
  obtain ⟨d2, σ2, h7, q7⟩ := bV_inv q6
  obtain ⟨ρ1, σ3, h8, q8⟩ := b2_inv q7
  obtain ⟨ρ2, σ4, h9, q9⟩ := b2_inv q8
  cases q9
  rw [asN_inv h3, asN_inv h4] at h1
  exact ⟨x.1, x.2, y.1, y.2, e1, e2, d1, σ1, d2, σ2, ρ1, σ3, h1, h2, h5, h6, h7, h8, h9, rfl⟩
theorem unpS_inv {ts : List Expr} {e : Expr} {fl : Fl} (q : unpS mu v sc ρ σ ts e = some (fl, ρ', σ')) : ∃ xs ds, namesOf ts = some xs ∧ v.e sc ρ σ e = some (.val (.tup ds), σ') ∧ xs.all (isLocal sc) = true ∧ setAll xs ds ρ = some ρ' ∧ fl = .next := by
  obtain ⟨xs, h1, q1⟩ := b1_inv q
  obtain ⟨d, σ1, h2, q2⟩ := bV_inv q1
  obtain ⟨ds, h3, q3⟩ := b1_inv q2
  obtain ⟨h4, q4⟩ := gd_inv q3
  obtain ⟨ρ1, h5, q5⟩ := b1_inv q4
  rw [Bool.and_eq_true] at h4
  cases q5
  cases asTup_inv h3
  exact ⟨xs, ds, h1, h2, h4.1, h5, rfl⟩
theorem itemS_inv {b i e : Expr} {fl : Fl} (q : itemS v sc ρ σ b i e = some (fl, ρ', σ')) : ∃ x xp m nk cp d σ1 l en, b = .Name x xp ∧ i = .Constant (.int (.ofNat m)) nk cp ∧ v.e sc ρ σ e = some (.val d, σ1) ∧ ρ.lookup x = some (.loc l) ∧ σ1[l]? = some en ∧ m < en.rev.length ∧ m < 2 ^ 62 ∧ isDbg x = false ∧ fl = .next ∧ ρ' = ρ ∧ σ' = σ1.set l ⟨en.g, (en.rev.reverse.set m d).reverse⟩ := by
  obtain ⟨x, h1, q1⟩ := b1_inv q
  obtain ⟨c, h2, q2⟩ := b1_inv q1
  obtain ⟨m, h3, q3⟩ := b1_inv q2
  obtain ⟨d, σ1, h4, q4⟩ := bV_inv q3
  obtain ⟨l, h5, q5⟩ := b1_inv q4
  obtain ⟨en, h6, q6⟩ := b1_inv q5
  obtain ⟨h7, q7⟩ := gd_inv q6
  rw [Bool.and_eq_true] at h7
  cases q7
  obtain ⟨nk, cp, h8⟩ := asC_inv h2
  rw [natC_inv h3] at h8
  have h9 := of_decide_eq_true h7.1
  exact ⟨x.1, x.2, m, nk, cp, d, σ1, l, en, asN_inv h1, h8, h4, locOf_inv h5, h6, h9.1, h9.2, notB h7.2, rfl, rfl, rfl⟩

theorem asgS_ok (B : Base prog w G h₀ mg mb) (HC : COK prog w h₀ mg k C) (HE : OkE prog w h₀ (ev C G n) n k) {bud : Nat} {pos : Pos} {t e : Expr} {fl : Fl} (q : asgS mu bud (ev C G n) sc ρ σ t e = some (fl, ρ', σ')) (R0 : Room A n k) (I : Inv prog w h₀ hb env sc s.heap μ ρ σ) (fresh : mu ≠ [] → ∀ a ∈ μ.locs, hb.get? a = none)
    (h : PostS prog w h₀ hb env sc mu s μ fl ρ' σ' Q) : wpAny (model prog w) A (exec (.Assign [t] e pos) env) Q E s := by
  unfold asgS at q
  cases hN : asN t with
  | some x =>
    rw [hN] at q
    rw [asN_inv hN]
    exact nmS_ok B HC q R0 I fresh h
  | none =>
    rw [hN] at q
    dsimp only at q
    cases hT : asT t with
    | some ts =>
      rw [hT] at q
      dsimp only at q
      obtain ⟨nk, tp, hT'⟩ := asT_inv hT
      rw [hT']
      unfold tupS at q
      cases hE : asT e with
      | some es =>
        rw [hE] at q
        obtain ⟨x, p1, y, p2, e1, e2, d1, σ1, d2, σ2, ρ1, σ3, g1, g2, g3, g4, g5, g6, g7, g8⟩ := swapS_inv q
        obtain ⟨nk', vp, hE'⟩ := asT_inv hE
        rw [hE', g1, g2]
        subst g8
        exact swap_ok HE g3 g4 g5 g6 g7 R0 I fresh h
      | none =>
        rw [hE] at q
        obtain ⟨xs, ds, g1, g2, g3, g4, g5⟩ := unpS_inv q
        subst g5
        exact unpack_ok HE hE g1 g2 g3 g4 R0 I h
    | none =>
      rw [hT] at q
      obtain ⟨b, hS, q1⟩ := b1_inv q
      obtain ⟨x, xp, m, nk, cp, d, σ1, l, en, g1, g2, g3, g4, g5, g6, g7, g8, g9, g10, g11⟩ := itemS_inv q1
      obtain ⟨sp, hS'⟩ := asSub_inv hS
      rw [hS', g1, g2]
      subst g9 g10 g11
      exact setitem_ok HE g3 g4 g5 g6 g7 g8 R0 I h

theorem appS_inv {e : Expr} {fl : Fl} (q : appS v sc ρ σ e = some (fl, ρ', σ')) : ∃ x xp ap pp e' d σ1 l g rev, e = .Call (.Attribute (.Name x xp) "append" ap) [e'] [] pp ∧ isDbg x = false ∧ (ap.endLine == pp.line) = true ∧ isStarE e' = false ∧ v.e sc ρ σ e' = some (.val d, σ1) ∧ ρ.lookup x = some (.loc l) ∧ σ1[l]? = some ⟨g + 1, rev⟩ ∧ fl = .next ∧ ρ' = ρ ∧ σ' = σ1.set l ⟨g, d :: rev⟩ := by
  obtain ⟨c, h1, q1⟩ := b1_inv q
  obtain ⟨a, h2, q2⟩ := b1_inv q1
  obtain ⟨x, h3, q3⟩ := b1_inv q2
  obtain ⟨e', h4, q4⟩ := one_inv q3
  obtain ⟨h5, q5⟩ := noKs_inv q4
  obtain ⟨h6, q6⟩ := gd_inv q5
  obtain ⟨d, σ1, h7, q7⟩ := bV_inv q6
  obtain ⟨l, h8, q8⟩ := b1_inv q7
  obtain ⟨⟨g, rev⟩, h9, q9⟩ := b1_inv q8
  rw [Bool.and_eq_true, Bool.and_eq_true, Bool.and_eq_true, beq_iff_eq] at h6
  obtain ⟨⟨⟨k1, k2⟩, k3⟩, k4⟩ := h6
  cases g with
  | zero => exact nos q9
  | succ g =>
    cases q9
    refine ⟨x.1, x.2, a.2.2, c.2.2.2, e', d, σ1, l, g, rev, ?_, notB k2, k3, notB k4, h7, locOf_inv h8, h9, rfl, rfl, rfl⟩
    rw [asCall_inv h1, asA_inv h2, asN_inv h3, h4, h5, k1]

theorem forS_ok (HE : OkE prog w h₀ (ev C G n) n k) {rec : Loc → Sto → List Stmt → Out} (HR : OkRec prog w h₀ mu sc rec n k) {t it : Expr} {body : List Stmt} {pos : Pos} {fl : Fl} (q : forS mu (ev C G n) rec sc ρ σ t it body = some (fl, ρ', σ')) (R0 : Room A n k)
    (I : Inv prog w h₀ hb env sc s.heap μ ρ σ) (fresh : mu ≠ [] → ∀ a ∈ μ.locs, hb.get? a = none) (h : PostS prog w h₀ hb env sc mu s μ fl ρ' σ' Q) : wpAny (model prog w) A (exec (.For t it body [] pos) env) Q E s := by
  obtain ⟨x, h1, q1⟩ := b1_inv q
  obtain ⟨h2, q2⟩ := gd_inv q1
  obtain ⟨r, σ1, h3, q3⟩ := b2_inv q2
  obtain ⟨ds, h4, q4⟩ := b1_inv q3
  obtain ⟨h5, q5⟩ := gd_inv q4
  clear q q1 q2 q3 q4
  rw [Bool.and_eq_true] at h5
  rw [asN_inv h1]
  exact for_ok HE HR h2 h3 h4 h5.1 q5 R0 I fresh h

theorem stepS_ok (B : Base prog w G h₀ mg mb) (HC : COK prog w h₀ mg k C) (HE : OkE prog w h₀ (ev C G n) n k) (HT : OkT prog w h₀ (ev C G n) n k) {rec : Loc → Sto → List Stmt → Out} (HR : OkRec prog w h₀ mu sc rec n k) {bud W : Nat} {st : Stmt} {fl : Fl} (q : stepS mu bud W (ev C G n) rec sc ρ σ st = some (fl, ρ', σ')) (R0 : Room A n k)
    (I : Inv prog w h₀ hb env sc s.heap μ ρ σ) (fresh : mu ≠ [] → ∀ a ∈ μ.locs, hb.get? a = none)
    (h : PostS prog w h₀ hb env sc mu s μ fl ρ' σ' Q) : wpAny (model prog w) A (exec st env) Q E s := by
  cases st
  case Return e p =>
    obtain ⟨e', h0, q1⟩ := b1_inv q
    obtain ⟨r, σ1, h1, q2⟩ := b2_inv q1
    obtain ⟨_, q3⟩ := gd_inv q2
    cases q3
    subst h0
    exact return_ok HE h1 R0 I h
  case If t b o p =>
    obtain ⟨x, σ1, h1, h2⟩ := ifS_inv q
    refine wpAny_If (HT _ _ _ _ _ _ _ _ _ _ _ _ _ h1 R0 I fun h' tk k1 S1 => ?_)
    have I1 := I.keep k1 S1
    have z := HR env hb _ _ _ _ _ _ A { s with heap := h', toks := tk } μ E _ h2 R0 I1 fresh (h.step I1 (Mg.refl _ _ _) (KeepF.of k1))
    cases x with
    | true => exact z
    | false => exact z
  case Assign ts e p =>
    obtain ⟨t, h0, q1⟩ := one_inv q
    subst h0
    exact asgS_ok B HC HE q1 R0 I fresh h
  case Expr e p =>
    obtain ⟨x, xp, ap, pp, e', d, σ1, l, g, rev, g1, g2, g3, g4, g5, g6, g7, g8, g9, g10⟩ := appS_inv q
    subst g1 g8 g9 g10
    exact append_stmt_ok HE g2 g3 g4 g5 g6 g7 R0 I h
  case For t it body o p =>
    obtain ⟨h0, q1⟩ := gd_inv q
    cases List.isEmpty_iff.mp h0
    exact forS_ok HE HR q1 R0 I fresh h
  case While t body o p =>
    obtain ⟨h0, q1⟩ := gd_inv q
    cases List.isEmpty_iff.mp h0
    exact while_ok HT HR q1 R0 I fresh h
  all_goals exact nos q

theorem xs_ok (B : Base prog w G h₀ mg mb) (HC : COK prog w h₀ mg k C) {bud W : Nat} : ∀ n, OkRec prog w h₀ mu sc (xs C G mu bud W sc n) n k
  | 0 => fun env hb ρ σ ss fl ρ' σ' A s μ E Q q => nos q
  | n + 1 => fun env hb ρ σ ss fl ρ' σ' A s μ E Q q R0 I fresh h => by
    obtain ⟨HE, HT⟩ := ev_ok B HC n
    cases ss with
    | nil =>
      cases q
      exact wpAny_execs_nil (h s.heap s.toks μ I (Mg.refl _ _ _) fun _ _ _ _ _ e => e)
    | cons st rest =>
      unfold xs at q
      split at q
      · rename_i ρ1 σ1 h1
        refine wpAny_execs_cons (stepS_ok B HC HE HT (xs_ok B HC n) h1 R0.sub I fresh fun h' tk μ' I' mg' kf' => ?_)
        exact xs_ok B HC n env hb _ _ _ _ _ _ A { s with heap := h', toks := tk } μ' _ _ q R0.sub I' (mg'.fresh I fresh) (h.step I' mg' kf')
      · rename_i hno
        refine wpAny_execs_cons (stepS_ok (fl := fl) (ρ' := ρ') (σ' := σ') B HC HE HT (xs_ok B HC n) q R0.sub I fresh ?_)
        cases fl with
        | next => exact absurd q (hno _ _)
        | ret r fr => exact h
end
end Mine

namespace Mine
open PySem PySem.W PyProof.Rows PySem.SeqAt

section
variable {prog : Program} {w : World} {h₀ hb : Heap} {env : Env} {sc : Names} {μ μ' : Mu} {ρ ρ' ρ1 ρ2 : Loc} {σ σ' σ1 σ2 σ3 σ4 : Sto} {A : Around} {E : Value → Shared → Prop} {s : Shared} {C : Orc} {G : Str → Option D} {mg mb : Str → Option Value} {v : Ev} {n k : Nat} {mu : List (Str × Nat)}

/-- a def of the text, as its object lies in the heap -/
structure FnAt (F : Fn) (f : Str) (h₀ : Heap) (mg : Str → Option Value) (a : Addr) (o : Obj) (fd : FuncData) : Prop where
  at' : mg f = some (.ref a)
  obj : h₀.get? a = some o
  dat : o.data = .func fd
  body : fd.body = .stmts F.body
  names : fd.scope.names = F.names
  kind : fd.scope.kind = .function
  co : fd.scope.isCoroutine = false
  gen : fd.scope.isGenerator = false
  clo : fd.closure = []
  glob : fd.globals = mainGlobals
  bui : fd.builtins = builtinsNs
  crec : h₀.CodeRec fd.code fd.qualname
  bind : ∀ vals : List Value, vals.length = F.params.length → bindArgs fd ⟨vals, []⟩ = pure (F.params.zip vals)
  pars : ∀ x ∈ F.params, F.names.lookup x = some .local ∨ F.names.lookup x = some .cell
  nodup : F.params.Nodup

theorem bindL_out {kindOf : Str → Option NameKind} {x : Str} : ∀ {ps : List Str} {vs : List Value} {m : Str → Option Value}, x ∉ ps → bindL kindOf (ps.zip vs) m x = m x
  | [], _, _, _ => rfl
  | p :: ps, [], _, _ => rfl
  | p :: ps, u :: vs, m, h => by
    rw [List.zip_cons_cons]
    unfold bindL
    rw [bindL_out fun q => h (.tail _ q)]
    split
    · exact if_neg (fun (e : x = p) => h (e ▸ .head _))
    · rfl
theorem bindC_out {kindOf : Str → Option NameKind} {x : Str} : ∀ {ps : List Str} {vs : List Value} {m : Str → Option Value}, x ∉ ps → bindC kindOf (ps.zip vs) m x = m x
  | [], _, _, _ => rfl
  | p :: ps, [], _, _ => rfl
  | p :: ps, u :: vs, m, h => by
    rw [List.zip_cons_cons]
    unfold bindC
    rw [bindC_out fun q => h (.tail _ q)]
    split
    · rfl
    · exact if_neg (fun (e : x = p) => h (e ▸ .head _))
theorem bind_look {kindOf : Str → Option NameKind} {x : Str} {r : R} : ∀ {ps : List Str} {vs : List Value} {rs : List R} {m c : Str → Option Value}, ps.Nodup → (ps.zip rs).lookup x = some r → RepRs prog w h₀ μ vs rs →
    ∃ u, RepR prog w h₀ μ u r ∧ (kindOf x = some .local → bindL kindOf (ps.zip vs) m x = some u) ∧ (kindOf x ≠ some .local → bindC kindOf (ps.zip vs) c x = some u)
  | [], _, _, _, _, _, h, _ => by simp at h
  | p :: ps, _, [], _, _, _, h, _ => by simp at h
  | p :: ps, _, r' :: rs, m, c, hn, h, q => by
    cases q with
    | @cons u vs _ _ a q =>
      obtain ⟨h1, h2⟩ := List.nodup_cons.mp hn
      rw [List.zip_cons_cons, List.lookup_cons] at h
      rw [List.zip_cons_cons]
      unfold bindL bindC
      split at h
      · rename_i hx
        rw [beq_iff_eq] at hx; subst hx
        cases h
        refine ⟨u, a, fun e => ?_, fun e => ?_⟩
        · rw [bindL_out h1, if_pos e]; simp
        · rw [bindC_out h1, if_neg e]; simp
      · exact bind_look h2 h q
theorem cellsFrom_some : ∀ {names : Names} {n : Nat} {acc : List (Str × Addr)} {x : Str}, ((x, NameKind.cell) ∈ names ∨ (acc.lookup x).isSome = true) → ((cellsFrom n names acc).lookup x).isSome = true
  | [], _, _, _, h => by
    rcases h with h | h
    · cases h
    · exact h
  | (y, kd) :: r, n, acc, x, h => by
    unfold cellsFrom
    split
    · refine cellsFrom_some ?_
      rcases h with h | h
      · rcases List.mem_cons.mp h with e | h
        · cases e
          exact .inr (by rw [List.lookup_cons, beq_self_eq_true]; rfl)
        · exact .inl h
      · refine .inr ?_
        rw [List.lookup_cons]
        split
        · rfl
        · exact h
    · rename_i hk
      refine cellsFrom_some ?_
      rcases h with h | h
      · rcases List.mem_cons.mp h with e | h
        · cases e; exact absurd rfl hk
        · exact .inl h
      · exact .inr h

theorem entry_ok {F : Fn} {f : Str} {a : Addr} {o : Obj} {fd : FuncData} (T : FnAt F f h₀ mg a o fd) {as : List R} {vs : List Value} {s₁ : Shared} (hlen : as.length = F.params.length) (old : ∀ b o, h₀.get? b = some o → s.heap.get? b = some o) (off : ∀ a, μ.has a → h₀.get? a = none) (S : StoOK prog w s.heap μ σ) (rs : RepRs prog w s.heap μ vs as)
    (x : InCallC s (callEnvC fd s.heap.objs.size a).locals (bindL (callEnvC fd s.heap.objs.size a).kindOf (F.params.zip vs) fun _ => none) (callEnvC fd s.heap.objs.size a).cells (bindC (callEnvC fd s.heap.objs.size a).kindOf (F.params.zip vs) fun _ => none) s₁) :
    Inv prog w h₀ s.heap (callEnvC fd s.heap.objs.size a) F.names s₁.heap μ (F.params.zip as) σ := by
  have keep := x.toInCall.keep
  have kp : Keep μ s.heap s₁.heap := Keep.of keep
  have hL : s.heap.get? (callEnvC fd s.heap.objs.size a).locals = none := Heap.get?_none_of_le (Nat.le_refl _)
  have hkind : ∀ n, (callEnvC fd s.heap.objs.size a).kindOf n = F.names.lookup n := fun n => by
    show fd.scope.names.lookup n = _
    rw [T.names]
  have hcell : ∀ n, F.names.lookup n = some .cell → ∃ c, (callEnvC fd s.heap.objs.size a).cells.lookup n = some c := fun n hn => by
    have := cellsFrom_some (names := fd.scope.names) (n := s.heap.objs.size + 1) (acc := []) (x := n) (.inl (by rw [T.names]; exact lookup_mem hn))
    exact Option.isSome_iff_exists.mp this
  refine ⟨⟨T.kind, T.names, T.glob, T.bui, hcell⟩, old, kp, off, ⟨_, x.toInCall.ns⟩, hL, fun n hn => ?_, fun n n' c _ _ h1 h2 => name_of_addr x.apart (mem_of_lookup h1) (mem_of_lookup h2), fun y r hy => ?_, S.keepAll keep⟩
  · obtain ⟨c, hc⟩ := hcell n hn
    refine ⟨c, _, hc, x.cell n c hc, Heap.get?_none_of_le ?_⟩
    have := x.above n c (mem_of_lookup hc)
    exact Nat.le_of_lt this
  · obtain ⟨u, hu, g1, g2⟩ := bind_look (kindOf := (callEnvC fd s.heap.objs.size a).kindOf) (m := fun _ => none) (c := fun _ => none) T.nodup hy rs
    have hmem : y ∈ F.params := (List.of_mem_zip (lookup_mem hy)).1
    refine ⟨u, ?_, hu.keep S.lists kp, ?_⟩
    · rcases T.pars y hmem with hl | hc
      · exact .inl ⟨hl, _, x.toInCall.ns, g1 (by rw [hkind]; exact hl)⟩
      · obtain ⟨c, hc'⟩ := hcell y hc
        refine .inr ⟨hc, c, hc', ?_⟩
        have := x.cell y c hc'
        rw [g2 (by rw [hkind, hc]; simp)] at this
        exact this
    · rintro rfl
      obtain ⟨o, e⟩ := hu.alive S
      rw [hL] at e; cases e

theorem RepRs.moved {h : Heap} {vs : List Value} {rs : List R} (q : RepRs prog w h μ vs rs) (hn : rs.all notLoc = true) (k : ∀ b o, ¬ μ.has b → h.get? b = some o → ¬ μ'.has b) : RepRs prog w h μ' vs rs := by
  induction q with
  | nil => exact .nil
  | @cons v vs r rs a _ ih =>
    rw [List.all_cons, Bool.and_eq_true] at hn
    refine .cons (a.other k fun l b e => ?_) (ih hn.2)
    subst e
    simp [notLoc] at hn

theorem callF_ok {F : Fn} {f : Str} {a : Addr} {o : Obj} {fd : FuncData} (B : Base prog w G h₀ mg mb) (HC : COK prog w h₀ mg k C) (T : FnAt F f h₀ mg a o fd) {as : List R} {r : R} (q : callF C G F mu (f == "_law_box") as σ = some (r, σ')) : CallOK prog w h₀ mg (k + 1) f as σ r σ' := by
  refine ⟨a, o, fd, T.at', T.obj, T.dat, fun A E s μ vs Q R0 old off S rs h => ?_⟩
  unfold callF at q
  split at q
  case isFalse => cases q
  rename_i hlen
  have hvl : vs.length = F.params.length := by rw [rs.length, hlen]
  refine wpAny_call (codeAny_call_cells (by have := R0.dep; omega) (old _ _ T.obj) T.dat (B.nolimit.keeps old) (T.crec.keeps old) T.body (T.bind vs hvl) T.clo (fun x hx => ?_) (fun s₁ x => ?_) T.co T.gen T.kind)
  · have := (List.of_mem_zip hx).1
    rw [T.names]
    rcases T.pars _ this with hl | hc
    · exact .inl hl
    · exact .inr ⟨hc, cellsFrom_some (.inl (lookup_mem hc))⟩
  have R1 : Room (A.deeper (callEnvC fd s.heap.objs.size a)) 60 k := ⟨R0.hh, by have := R0.dep; show A.depth + 1 + k < _; omega, by have := R0.uni; show A.units + 3 + 60 + 200 * (k + 1) + bnd + 100 < _; omega⟩
  obtain ⟨h₁, tk₁, hs₁⟩ := x.toInCall.same
  split at q
  · rename_i hmu
    have hmu' : mu = [] := List.isEmpty_iff.mp hmu
    have I := entry_ok T hlen old off S rs x
    split at q
    · rename_i r' fr ρ1 σ1 hx
      split at q
      · rename_i hfr
        cases q
        refine xs_ok B HC 60 _ s.heap _ _ _ _ _ _ _ s₁ μ _ _ hx R1 I (fun e => absurd rfl e) ?_
        intro h' tk μ' v I' mg' kf' rv nw
        have e := mg'.same rfl
        subst e
        subst hs₁
        refine h h' tk v I'.kb I'.sto rv fun e => nw ?_
        rw [e] at hfr
        simpa using hfr
      · cases q
    · rename_i ρ1 σ1 hx
      split at q
      · rename_i hfr
        cases q
        refine xs_ok B HC 60 _ s.heap _ _ _ _ _ _ _ s₁ μ _ _ hx R1 I (fun e => absurd rfl e) ?_
        intro h' tk μ' I' mg' kf'
        have e := mg'.same rfl
        subst e
        subst hs₁
        refine h h' tk .none I'.kb I'.sto (show RepR prog w h' μ' .none (.val .none) from Rep.none) fun e => ?_
        rw [e] at hfr; cases hfr
      · cases q
    · cases q
  · rename_i hmu
    have hmu' : mu ≠ [] := fun e => hmu (by rw [e]; rfl)
    split at q
    · rename_i hall
      rw [Bool.and_eq_true] at hall
      split at q
      · rename_i r' fr ρ1 σ1 hx
        split at q
        · rename_i hnl
          cases q
          have hhas : ∀ b, Mu.has ⟨[], μ.locs ++ μ.more⟩ b ↔ μ.has b := fun b => by
            unfold Mu.has
            simp
          have S1 : StoOK prog w s.heap ⟨[], μ.locs ++ μ.more⟩ [] := ⟨rfl, List.Pairwise.nil, fun b hb => ⟨S.here b ((hhas b).mp (.inr hb)), List.not_mem_nil⟩, fun l b e hl => by simp at hl⟩
          have I := entry_ok (μ := ⟨[], μ.locs ++ μ.more⟩) T hlen old (fun b hb => off b ((hhas b).mp hb)) S1 (rs.moved hall.1 fun b o hb _ q => hb ((hhas b).mp q)) x
          refine xs_ok B HC 60 _ s.heap _ _ _ _ _ _ _ s₁ _ _ _ hx R1 I (fun _ b hb => absurd hb List.not_mem_nil) ?_
          intro h' tk μ' v I' mg' kf' rv nw
          have fr' := mg'.fresh I (fun _ b hb => absurd hb List.not_mem_nil) hmu'
          have kall : ∀ b o, s.heap.get? b = some o → h'.get? b = some o := fun b o e => I'.kb b o (fun q => by rw [fr' b q] at e; cases e) e
          subst hs₁
          refine h h' tk v (Keep.of kall) (S.keepAll kall) (rv.other (fun b o hb e q => hb ?_) fun l b e => ?_) fun e => ?_
          · have := (hhas b).mpr q
            rcases this with q | q
            · exact absurd q List.not_mem_nil
            · exact .inr (mg'.more ▸ q)
          · subst e; simp [notLoc] at hnl
          · have := hall.2
            rw [e] at this; cases this
        · cases q
      · cases q
    · cases q
end
end Mine

namespace Mine
open PySem PySem.W PyProof.Rows PySem.SeqAt PySem.Calls

noncomputable def plainPars (p : Arguments) : Bool := p.posonlyargs.isEmpty && p.vararg.isNone && p.kwonlyargs.isEmpty && p.kwarg.isNone
noncomputable def toFn (d : DefRec) : Fn := ⟨d.params.args.map (·.arg), d.body, d.scope.names⟩
noncomputable def okRec (d : DefRec) : Bool := plainPars d.params && d.scope.kind == .function && !d.scope.isCoroutine && !d.scope.isGenerator && nodupS (toFn d).params && (toFn d).params.all fun x => d.scope.names.lookup x == some .local || d.scope.names.lookup x == some .cell

theorem zip_look {α : Type} {x : Str} : ∀ {ps : List Str} {vs : List α}, x ∈ ps → vs.length = ps.length → ((ps.zip vs).lookup x).isSome = true
  | p :: ps, v :: vs, h, e => by
    rw [List.zip_cons_cons, List.lookup_cons]
    split
    · rfl
    · rename_i hx
      rcases List.mem_cons.mp h with rfl | h
      · simp at hx
      · exact zip_look h (Nat.succ.inj e)
  | _ :: _, [], _, e => by cases e
  | [], _, h, _ => by cases h

theorem zip_binds {α : Type} : ∀ {ps : List Str} {vs : List α} (pre : List (Str × α)), ps.Nodup → (∀ x ∈ ps, pre.lookup x = none) → vs.length = ps.length → (ps.filterMap fun n => ((pre ++ ps.zip vs).lookup n).map (n, ·)) = ps.zip vs
  | [], [], _, _, _, _ => rfl
  | p :: ps, v :: vs, pre, hn, hp, e => by
    obtain ⟨h1, h2⟩ := List.nodup_cons.mp hn
    have key : ∀ (l : List (Str × α)) (m : List (Str × α)) (x : Str), l.lookup x = none → (l ++ m).lookup x = m.lookup x := by
      intro l m x
      induction l with
      | nil => intro _; rfl
      | cons a l ih =>
        obtain ⟨y, u⟩ := a
        intro h
        rw [List.lookup_cons] at h
        rw [List.cons_append, List.lookup_cons]
        split at h
        · cases h
        · rename_i hx; exact ih h
    have e1 : (pre ++ (p :: ps).zip (v :: vs)).lookup p = some v := by
      rw [key _ _ _ (hp p (.head _)), List.zip_cons_cons, List.lookup_cons]; simp
    have ih := zip_binds (pre ++ [(p, v)]) h2 (fun x hx => by
      rw [key _ _ _ (hp x (.tail _ hx)), List.lookup_cons]
      have : (x == p) = false := by
        rw [beq_eq_false_iff_ne]; rintro rfl; exact h1 hx
      rw [this]; rfl) (Nat.succ.inj e)
    rw [List.filterMap_cons, e1]
    simp only [Option.map_some]
    rw [List.zip_cons_cons]
    congr 1
    rw [List.append_assoc] at ih
    exact ih
  | _ :: _, [], _, _, _, e => by cases e
  | [], _ :: _, _, _, _, e => by cases e

theorem bind_plain {d : DefRec} {pm code doc : Value} (h : plainPars d.params = true) (hn : (d.params.args.map (·.arg)).Nodup) (vals : List Value) (hl : vals.length = (d.params.args.map (·.arg)).length) :
    bindArgs (docDef d.name d.params d.body d.scope pm code doc) ⟨vals, []⟩ = pure ((d.params.args.map (·.arg)).zip vals) := by
  unfold plainPars at h
  simp only [Bool.and_eq_true, List.isEmpty_iff, Option.isNone_iff_eq_none] at h
  obtain ⟨⟨⟨h1, h2⟩, h3⟩, h4⟩ := h
  have hm : (List.filter (fun n => (List.lookup n ((d.params.args.map (·.arg)).zip vals)).isNone) (d.params.args.map (·.arg))) = [] := by
    rw [List.filter_eq_nil_iff]
    intro x hx
    have := zip_look (vs := vals) hx hl
    cases hq : List.lookup x ((d.params.args.map (·.arg)).zip vals) with
    | none => rw [hq] at this; cases this
    | some v => simp
  have hb := zip_binds (vs := vals) [] hn (fun _ _ => rfl) hl
  unfold bindArgs docDef
  have hs : seqItems? Value.none = pure none := rfl
  have h5 : ¬ (decide (vals.length > (List.map (fun x => x.arg) d.params.args).length) && true) = true := by rw [hl]; simp
  simp only [h1, h2, h3, h4, List.map_nil, List.nil_append, List.forIn_nil, hs, pure_bind, Option.isNone_none, Option.getD_none, List.length_nil, Nat.sub_zero, List.drop_length, List.zip_nil_right, List.append_nil, Nat.zero_sub, List.drop_zero, List.take_length]
  rw [if_neg h5]
  simp only [List.drop_nil, List.length_nil, Nat.sub_zero, List.take_length, List.drop_length, List.zip_nil_left, List.zip_nil_right, List.forIn_nil, pure_bind, hm, List.isEmpty_nil, Bool.not_true, Bool.false_eq_true, if_false]
  exact congrArg pure hb

/-- the defs of the text, as the top's run has left them -/
theorem fnAt_of {p : Program} {loose : List Str} {mean : ExcName → Option Value} {mg mb : Str → Option Value} {h : Heap} {x : Str} {F : Fn} (T : Top p loose mean mg mb h) (hF : ((recsOf p).find? (fun e => e.name == x)).map toFn = some F) (hok : (recsOf p).all okRec = true) :
    ∃ a o fd, FnAt F x h mg a o fd := by
  obtain ⟨d, hd, rfl⟩ := Option.map_eq_some_iff.mp hF
  have hn : d.name = x := beq_iff_eq.mp (List.find?_some (p := fun e : DefRec => e.name == x) hd)
  have hmem := List.mem_of_find?_eq_some hd
  have ok := List.all_eq_true.mp hok d hmem
  unfold okRec at ok
  simp only [Bool.and_eq_true, Bool.not_eq_true', beq_iff_eq] at ok
  obtain ⟨⟨⟨⟨⟨g1, g2⟩, g3⟩, g4⟩, g5⟩, g6⟩ := ok
  obtain ⟨a, o, pm, code, doc, h1, h2, h3, h4⟩ := T.fn d hmem
  refine ⟨a, o, _, hn ▸ h1, h2, h3, rfl, rfl, g2, g3, g4, rfl, rfl, rfl, h4, fun vals hl => bind_plain g1 (nodupS_spec g5) vals hl, fun y hy => ?_, nodupS_spec g5⟩
  have := List.all_eq_true.mp g6 y hy
  rw [Bool.or_eq_true] at this
  rcases this with q | q
  · exact .inl (beq_iff_eq.mp q)
  · exact .inr (beq_iff_eq.mp q)
end Mine

namespace Mine
open PySem PySem.W PySem.Calls

noncomputable def exB : List Value := [.type "Exception", .type "BaseException", .type "object"]

/-- an own exception's class whose parent is the text's own and brings `__init__` -/
structure MF (h : Heap) (C C' N : Addr) (fI : Addr) : Prop where
  cls : ∃ nm q bs sn sub ab col dd k0 k1 k2 k3 k5, h.get? C = some (excClassObj nm q C N bs (.ref C' :: exB) true sn sub ab col dd k0 k1 k2 k3 k5 "Exception.__new__")
  ns : ∃ mN, h.Ns N mN ∧ mN "__init__" = none ∧ mN "__setattr__" = none ∧ mN "message" = none ∧ mN "spot" = none
  par : ∃ c0 dd cd sl mA, h.get? C' = some { cls := c0, dict := dd, data := .cls cd, slots := sl } ∧ h.Ns cd.ns mA ∧ mA "__init__" = some (.ref fI) ∧ mA "__setattr__" = none ∧ mA "message" = none ∧ mA "spot" = none

theorem MF.keeps {h h' : Heap} {C C' N fI : Addr} (x : MF h C C' N fI) (k : ∀ b o, h.get? b = some o → h'.get? b = some o) : MF h' C C' N fI := by
  obtain ⟨⟨nm, q, bs, sn, sub, ab, col, dd, k0, k1, k2, k3, k5, hC⟩, ⟨mN, hN, r⟩, c0, dd', cd, sl, mA, hP, hA, r'⟩ := x
  exact ⟨⟨nm, q, bs, sn, sub, ab, col, dd, k0, k1, k2, k3, k5, k _ _ hC⟩, ⟨mN, hN.keeps k, r⟩, c0, dd', cd, sl, mA, k _ _ hP, hA.keeps k, r'⟩

section
variable {prog : Program} {w : World} {A : Around} {E : Value → Shared → Prop} {h : Heap} {g : Array GenState} {d : Drawn} {t : Nat} {os : OsState} {C C' N fI : Addr}

theorem exB_has (X : String) (b : Bool) (hb : exB.contains (.type X) = b) : (Value.ref C :: .ref C' :: exB).contains (.type X) = b := by
  rw [List.contains_cons, List.contains_cons, hb]; rfl

theorem mf_lookup {name : Str} {y : Option Value} {Q : Option Value → Shared → Prop} {nm q : Str} {bs : List Value} {sn : List Str} {sub : List Value} {ab : Bool} {col : Option Bool} {dd : Option Addr} {k0 k1 k2 k3 k5 : Option Value}
    {mN mA : Str → Option Value} {c0 : Value} {dd' : Option Addr} {cd : ClassData} {sl : Array (Option Value)}
    (hC : h.get? C = some (excClassObj nm q C N bs (.ref C' :: exB) true sn sub ab col dd k0 k1 k2 k3 k5 "Exception.__new__")) (hN : h.Ns N mN) (hP : h.get? C' = some { cls := c0, dict := dd', data := .cls cd, slots := sl }) (hA : h.Ns cd.ns mA)
    (hB : typeLookup (.type "Exception") name = pure y) {r : Option Value} (hr : (mN name).or ((mA name).or y) = r) (hq : Q r ⟨h, g, d, t, os⟩) : wpAny (model prog w) A (typeLookup (.ref C) name) Q E ⟨h, g, d, t, os⟩ := by
  have hrest : lookupAlong exB name = pure y := by
    rw [typeLookup_eq, PySem.F.excBase_Exception.mroIs] at hB; exact hB
  rw [typeLookup_eq]
  refine wpAny_bind (wpAny_mroOf_exc hC ?_)
  rw [lookupAlong_cons]
  refine wpAny_bind (wpAny_classOwn_exc hC hN ?_)
  subst hr
  cases hv : mN name with
  | some v => rw [hv] at hq; exact wpAny_pure hq
  | none =>
    rw [hv] at hq
    show wpAny _ _ (lookupAlong (.ref C' :: exB) name) _ _ _
    rw [lookupAlong_cons]
    refine wpAny_bind (wpAny_classOwn_cls hP hA ?_)
    cases hu : mA name with
    | some v => rw [hu] at hq; exact wpAny_pure hq
    | none => rw [hu] at hq; show wpAny _ _ (lookupAlong exB name) _ _ _; rw [hrest]; exact wpAny_pure hq

theorem mf_new {rest : List Value} {R : Result → Shared → Prop} {nm q : Str} {bs : List Value} {sn : List Str} {sub : List Value} {ab : Bool} {col : Option Bool} {dd : Option Addr} {k0 k1 k2 k3 k5 : Option Value}
    (hC : h.get? C = some (excClassObj nm q C N bs (.ref C' :: exB) true sn sub ab col dd k0 k1 k2 k3 k5 "Exception.__new__"))
    (hq : R (.ok (.ret (.ref (h.objs.size + 1)))) ⟨(h.push { cls := .type "tuple", data := .seq rest.toArray }).push { cls := .ref C, data := .fields #[.ref h.objs.size, .none, .none, .none, .bool false, .none] }, g, d, t, os⟩) (hrest : rest.length ≤ sizeLine) :
    codeAny (model prog w) A (.builtin "Exception.__new__" ⟨.ref C :: rest, []⟩) R ⟨h, g, d, t, os⟩ := by
  have F := PySem.F.excBase_Exception
  have hends := F.ends
  have hcB : (Value.ref C :: .ref C' :: exB).contains (.type "Exception") = true := exB_has _ _ (by decide)
  have hcA : (Value.ref C :: .ref C' :: exB).contains (.type "AttributeError") = false := exB_has _ _ (by decide)
  have hcN : (Value.ref C :: .ref C' :: exB).contains (.type "NameError") = false := exB_has _ _ (by decide)
  refine codeAny_builtinAt F.entry ?_
  unfold Builtin.«BaseException.__new__»
  refine wpAt_bind ?_
  show wpAt _ _ _ (stack >>= _) _ _ _
  refine wpAt_bind (wpAt_stack fun p below => wpAt_of_wpAny ?_)
  wp_walk
  refine wpAt_of_wpAny ?_
  rw [F.owner]
  repeat (first | with_reducible refine wpAny_madeHere_exc F.canon hC ?_ | with_reducible refine wpAny_loadPart_at hC ?_ | (with_reducible refine wpAny_isSubtype_exc hC ?_; first | rw [hcB] | rw [hcA] | rw [hcN]) | wp_step)
  show R _ _
  rw [Heap.size_push]
  exact hq

theorem mf_type_call {rest : List Value} {oI : Obj} {Q : PySem.Fin → Shared → Prop} (M : MF h C C' N fI) (hfI : h.get? fI = some oI) (hfc : oI.cls = .type "function")
    (hq : ∀ h' e, Heap.MadeExcOf h h' e (.ref C) rest →
      wpAny (model prog w) A (call (.ref fI) (.ref e :: rest)) (fun r s' => r = .none ∧ Q (.done (.ret (.ref e))) s') E ⟨h', g, d, t, os⟩) (hrest : rest.length ≤ sizeLine) :
    wpAny (model prog w) A (Builtin.«type.__call__» ⟨.ref C :: rest, []⟩) Q E ⟨h, g, d, t, os⟩ := by
  obtain ⟨⟨nm, q, bs, sn, sub, ab, col, dd, k0, k1, k2, k3, k5, hC⟩, ⟨mN, hN, hni, _⟩, c0, dd', cd, sl, mA, hP, hA, hia, _⟩ := M
  have F := PySem.F.excBase_Exception
  repeat (first | with_reducible refine wpAny_loadPart_at hC ?_ | with_reducible refine wpAny_madeBy_exc hC ?_ | wp_step)
  refine codeAny_call_builtin_code (Code.quiet_builtin _ F.quiet) (wpAny_check_new_subU (bmB := .ref C' :: exB) F (by rw [List.contains_cons]; exact (by decide : exB.contains (.type "Exception") = true) ▸ Bool.or_true _) .base hC ?_)
  refine mf_new hC ?_ hrest
  show wpAny _ _ _ _ _ _
  have k2 : ∀ b o, h.get? b = some o → ((h.push { cls := .type "tuple", data := .seq rest.toArray }).push { cls := .ref C, data := .fields #[.ref h.objs.size, .none, .none, .none, .bool false, .none] }).get? b = some o :=
    fun b o e => Heap.get?_push_of_some _ (Heap.get?_push_of_some _ e)
  have hC₁ := k2 _ _ hC
  have hN₁ := hN.keeps k2
  have hP₁ := k2 _ _ hP
  have hA₁ := hA.keeps k2
  have hfI₁ := k2 _ _ hfI
  have hget : ((h.push { cls := .type "tuple", data := .seq rest.toArray }).push
      { cls := .ref C, data := .fields #[.ref h.objs.size, .none, .none, .none, .bool false, .none] }).get? (h.objs.size + 1) = some
      { cls := .ref C, data := .fields #[.ref h.objs.size, .none, .none, .none, .bool false, .none] } := by heap_get
  have hcC : (Value.ref C :: .ref C' :: exB).contains (.ref C) = true := by simp
  unfold isInstance
  repeat (first | with_reducible refine wpAny_loadPart_at hget ?_ | (with_reducible refine wpAny_isSubtype_exc hC₁ ?_; rw [hcC]) | wp_step)
  show wpAny _ _ (typeLookup (.ref C) _) _ _ _
  refine mf_lookup hC₁ hN₁ hP₁ hA₁ F.init.lookup (r := some (.ref fI)) (by rw [hni, hia]; rfl) ?_
  refine wpAny_holding (wpAny_bind ?_)
  unfold bindSpecial
  refine wpAny_bind (wpAny_typeOf (T := "function") ⟨_, hfI₁, hfc⟩ ?_)
  rw [if_pos (by decide)]
  refine wpAny_pure (wpAny_bind (wpAny_mono (hq _ (h.objs.size + 1) ⟨k2, Heap.get?_none_of_le (Nat.le_succ _), h.objs.size, hget, Heap.get?_none_of_le (Nat.le_refl _), ?_⟩) (fun r s' hr => ?_) fun _ _ x => x))
  · exact Heap.get?_push_of_some _ (Heap.get?_push_at rfl rfl)
  · obtain ⟨rfl, hQ⟩ := hr
    wp_walk
    exact hQ

theorem mf_call {rest : List Value} {oI : Obj} {Q : Value → Shared → Prop} (M : MF h C C' N fI) (hfI : h.get? fI = some oI) (hfc : oI.cls = .type "function")
    (hq : ∀ h' e, Heap.MadeExcOf h h' e (.ref C) rest →
      wpAny (model prog w) (A.under (.builtin "type.__call__" ⟨.ref C :: rest, []⟩)) (call (.ref fI) (.ref e :: rest)) (fun r s' => r = .none ∧ Q (.ref e) s') E ⟨h', g, d, t, os⟩) (hrest : rest.length ≤ sizeLine) :
    wpAny (model prog w) A (call (.ref C) rest) Q E ⟨h, g, d, t, os⟩ := by
  have M' := M
  obtain ⟨⟨nm, q, bs, sn, sub, ab, col, dd, k0, k1, k2, k3, k5, hC⟩, _⟩ := M'
  have f1 := tc_lookup
  have f2 := tc_bind (.ref C)
  have hT : (⟨h, g, d, t, os⟩ : Shared).TypeIs (.ref C) "type" := ⟨_, hC, rfl⟩
  refine wpAny_call (codeAny_of_tree ?_)
  show wpAny _ _ (callAny (.ref C) _) _ _ _
  repeat (any_goals (first | assumption | with_reducible refine wpAny_loadPart_at hC ?_ | wp_step))
  refine ⟨rfl, ?_⟩
  refine codeAny_call_builtin_at (Code.quiet_builtin _ (by decide +kernel)) entry_typeCall (wpAny_check_type_call_sub hC (mf_type_call M hfI hfc (fun h' e hm => ?_) hrest))
  exact hq h' e hm
end
end Mine

namespace Mine
open PySem PySem.W PySem.Calls
open PySem.Builtin PySem.Builtin.ObjectAttr

section
variable {prog : Program} {w : World} {A : Around} {E : Value → Shared → Prop} {h : Heap} {g : Array GenState} {d : Drawn} {t : Nat} {os : OsState} {C C' N fI x : Addr} {mA : Str → Option Value} {name : Str} {v : Value}

/-- what a store of an attribute leaves as it was -/
structure Stored (h h' : Heap) (x C : Addr) (mA : Str → Option Value) (name : Str) (v : Value) : Prop where
  inst : h'.Inst x C fun y => if y = name then some v else mA y
  keep : ∀ b o, b ≠ x → (∀ o₀ dx, h.get? x = some o₀ → o₀.dict = some dx → b ≠ dx) → h.get? b = some o → h'.get? b = some o
  same : ∀ o₀, h.get? x = some o₀ → ∃ o₁, h'.get? x = some o₁ ∧ o₁.cls = o₀.cls ∧ o₁.data = o₀.data ∧ o₁.slots = o₀.slots ∧ ∀ dx, o₀.dict = some dx → o₁.dict = some dx
  fresh : ∀ o₁ dx, h'.get? x = some o₁ → o₁.dict = some dx → h.get? dx = none ∨ ∃ o₀, h.get? x = some o₀ ∧ o₀.dict = some dx

theorem mf_store_entry {tk : Tok} {Q : PySem.Fin → Shared → Prop} {ns : List Str} (M : MF h C C' N fI) (hname : name = "message" ∨ name = "spot") (hB : typeLookup (.type "Exception") name = pure none) (hxC : x ≠ C) (I : h.Inst x C mA)
    (hq : ∀ h' tk', Stored h h' x C mA name v → Q (.done (.ret .none)) ⟨h', g, d, tk', os⟩) (hw : Within mA ns) (hsz : ns.length ≤ 10) :
    wpAny (model prog w) A (Builtin.«object.__setattr__» ⟨[.ref x, .str name tk, v], []⟩) Q E ⟨h, g, d, t, os⟩ := by
  obtain ⟨⟨nm, q, bs, sn, sub, ab, col, dd, k0, k1, k2, k3, k5, hC⟩, ⟨mN, hN, _, hNs, hNm, hNp⟩, c0, dd', cd, sl, mP, hP, hA, hia, hPs, hPm, hPp⟩ := M
  obtain ⟨o, hx, hc, hnc, hd⟩ := I
  have SF := PySem.F.store_Exception
  have hpass := SF.passes (.ref x)
  have hl : (mN name).or ((mP name).or none) = none := by
    rcases hname with rfl | rfl
    · rw [hNm, hPm]; rfl
    · rw [hNp, hPp]; rfl
  have hsl : sizeLine = 16777216 := rfl
  unfold Builtin.«object.__setattr__»
  repeat (first | rw [refuse_eq] | (rw [refuseLoop_ref, refuseLoop_ref]; (show wpAny _ _ (refuseLoop (.ref x) "__setattr__" exB >>= _) _ _ _); rw [show refuseLoop (.ref x) "__setattr__" exB = pure () from hpass]) | (with_reducible refine wpAny_loadPart_at hx ?_; rw [hc]) | with_reducible refine wpAny_mroOf_exc hC ?_ | with_reducible refine mf_lookup hC hN hP hA hB hl ?_ | wp_step)
  rcases hd with ⟨hdn, hmA⟩ | ⟨dx, hdx, hne, hns⟩
  ·
    rw [hdn, if_neg (by simp [typeHasDict])]
    split
    · rename_i hcd
      cases hcd
    split
    · rename_i c hcd
      exact absurd hcd (hnc c)
    · have hx₁ : (h.push { cls := .type "dict", data := .dict #[] }).get? x = some o := Heap.get?_push_of_some _ hx
      have hxs : x ≠ h.objs.size := Nat.ne_of_lt (Heap.lt_size hx)
      refine wpAny_bind (wpAny_alloc' ?_)
      refine wpAny_bind (wpAny_update' hx₁ ?_)
      refine wpAny_pure ?_
      have hgd : ((h.push { cls := .type "dict", data := .dict #[] }).update x fun o => { cls := o.cls, dict := some h.objs.size, data := o.data, slots := o.slots }).get? h.objs.size
          = some { cls := .type "dict", data := .dict #[] } :=
        (Heap.get?_update_ne _ _ _ _ hxs.symm).trans (Heap.get?_push_at rfl rfl)
      have hnd : ((h.push { cls := .type "dict", data := .dict #[] }).update x fun o => { cls := o.cls, dict := some h.objs.size, data := o.data, slots := o.slots }).Ns h.objs.size (fun _ => none) :=
        ⟨_, #[], _, hgd, rfl, fun e he => absurd he (by simp), fun _ => rfl⟩
      show wpAny _ _ (storeInDict h.objs.size (.str name tk) name v) _ _ _
      unfold storeInDict newKeyGuard
      refine wpAny_bind (wpAny_pure (wpAny_bind (wpAny_nsSet1 (Heap.Ns1.of_empty hnd) fun h' hn' hs => ?_)))
      obtain ⟨oD, esD, epD, hoD, hdD, hcD⟩ := hn'.count (Within.cons name v Within.nil)
      refine wpAny_bind (wpAny_lookBehind hoD (by rw [hdD]; exact pastItsLine_dict (Nat.le_trans hcD (by rw [List.length_cons, List.length_nil, sizeLine_eq]; omega))) ?_)
      wp_walk
      have hx' : h'.get? x = some { cls := o.cls, dict := some h.objs.size, data := o.data, slots := o.slots } := by
        refine (hs.2 x hxs).trans (Heap.get?_update_self _ hx₁ ?_)
        have hfr := (Heap.get?_some_iff.mp hx).2
        obtain ⟨oc, od, odt, osl⟩ := o
        cases odt <;> first | rfl | exact hfr
      refine hq h' _ ⟨⟨{ cls := o.cls, dict := some h.objs.size, data := o.data, slots := o.slots }, hx', hc, hnc, .inr ⟨h.objs.size, rfl, hxs.symm, ?_⟩⟩, fun b ob hbx _ hb => ?_,
        fun o₀ h₀ => by obtain rfl : o = o₀ := Option.some.inj (hx.symm.trans h₀); exact ⟨_, hx', rfl, rfl, rfl, fun dx e => by rw [hdn] at e; cases e⟩, fun o₁ dx h1 h2 => ?_⟩
      · obtain ⟨o', es, ep, e1, e2, e3, eu, e4⟩ := hn'
        exact ⟨o', es, ep, e1, e2, e3, eu, fun y => by rw [e4 y]; by_cases hy : y = name <;> simp [hy, hmA]⟩
      · exact (hs.2 b (Nat.ne_of_lt (Heap.lt_size hb))).trans ((Heap.get?_update_ne _ _ _ _ hbx).trans (Heap.get?_push_of_some _ hb))
      · rw [hx'] at h1; cases h1; cases h2
        exact .inl (Heap.get?_none_of_le (Nat.le_refl _))
  ·
    rw [hdx]
    refine wpAny_pure ?_
    show wpAny _ _ (storeInDict dx (.str name tk) name v) _ _ _
    unfold storeInDict newKeyGuard
    refine wpAny_bind (wpAny_pure (wpAny_bind (wpAny_nsSet1 hns fun h' hn' hs => ?_)))
    obtain ⟨oD, esD, epD, hoD, hdD, hcD⟩ := hn'.count (Within.cons name v hw)
    refine wpAny_bind (wpAny_lookBehind hoD (by rw [hdD]; exact pastItsLine_dict (Nat.le_trans hcD (by rw [List.length_cons, sizeLine_eq]; omega))) ?_)
    wp_walk
    have hx' : h'.get? x = some o := (hs.2 x hne.symm).trans hx
    refine hq h' _ ⟨⟨o, hx', hc, hnc, .inr ⟨dx, hdx, hne, hn'⟩⟩, fun b ob _ hbd hb => ?_,
      fun o₀ h₀ => ⟨o₀, (hs.2 x hne.symm).trans h₀, rfl, rfl, rfl, fun _ e => e⟩, fun o₁ dy h1 h2 => ?_⟩
    · exact (hs.2 b (hbd o dx hx hdx)).trans hb
    · rw [hx'] at h1; cases h1
      exact .inr ⟨_, hx, h2⟩

theorem mf_check_sa {M : Model} {o : Obj} {nameV : Value} {Q : Unit → Shared → Prop} {nm q : Str} {bs : List Value} {sn : List Str} {sub : List Value} {ab : Bool} {col : Option Bool} {dd : Option Addr} {k0 k1 k2 k3 k5 : Option Value}
    (hC : h.get? C = some (excClassObj nm q C N bs (.ref C' :: exB) true sn sub ab col dd k0 k1 k2 k3 k5 "Exception.__new__")) (hx : h.get? x = some o) (hc : o.cls = .ref C) (hq : Q () ⟨h, g, d, t, os⟩) :
    wpAny M A (checkBuiltinCall "object.__setattr__" ⟨[.ref x, nameV, v], []⟩) Q E ⟨h, g, d, t, os⟩ := by
  have SF := PySem.F.store_Exception
  have hcB : (Value.ref C :: .ref C' :: exB).contains (.type "object") = true := by
    rw [List.contains_cons, List.contains_cons, show exB.contains (.type "object") = true from by decide]; rfl
  have ha := SF.args (.ref x) nameV v
  simp only [checkBuiltinCall, SF.kind, SF.split]
  refine wpAny_bind ?_
  · unfold isInstance
    repeat (first | (with_reducible refine wpAny_loadPart_at hx ?_; rw [hc]) | (with_reducible refine wpAny_isSubtype_exc hC ?_; rw [hcB]) | wp_step)
    exact hq

theorem mf_store {Q : Unit → Shared → Prop} {ns : List Str} (M : MF h C C' N fI) (hname : name = "message" ∨ name = "spot") (hB : typeLookup (.type "Exception") name = pure none) (hxC : x ≠ C) (I : h.Inst x C mA)
    (hq : ∀ h' tk', Stored h h' x C mA name v → Q () ⟨h', g, d, tk', os⟩) (hw : Within mA ns) (hsz : ns.length ≤ 10) :
    wpAny (model prog w) A (setAttr (.ref x) name v) Q E ⟨h, g, d, t, os⟩ := by
  have SF := PySem.F.store_Exception
  have M' := M
  obtain ⟨⟨nm, q, bs, sn, sub, ab, col, dd, k0, k1, k2, k3, k5, hC⟩, ⟨mN, hN, _, hNs, hNm, hNp⟩, c0, dd', cd, sl, mP, hP, hA, hia, hPs, hPm, hPp⟩ := M'
  obtain ⟨o, hx, hc, _⟩ := id I
  have f3 := SF.slot.bind (.ref x)
  have hl : (mN ("__setattr__" : Str)).or ((mP ("__setattr__" : Str)).or (some (.builtin "object.__setattr__"))) = some (.builtin "object.__setattr__") := by rw [hNs, hPs]; rfl
  unfold setAttr callSpecial? specialOf
  repeat (any_goals (first | assumption | (with_reducible refine wpAny_loadPart_at hx ?_; rw [hc]) | with_reducible refine mf_lookup hC hN hP hA SF.slot.lookup hl ?_ | wp_step))
  refine codeAny_call_builtin SF.slot.plain SF.entry (mf_check_sa hC hx hc (mf_store_entry M hname hB hxC I (fun h' tk' S => ?_) hw hsz))
  repeat (any_goals (first | assumption | wp_step))
  exact hq h' tk' S
end
end Mine

namespace Mine
open PySem PySem.W PySem.Calls

section
variable {prog : Program} {w : World} {A : Around} {E : Value → Shared → Prop} {h : Heap} {g : Array GenState} {d : Drawn} {t : Nat} {os : OsState} {C C' N fI e : Addr}

theorem mf_check_init {M : Model} {oe : Obj} {rest : List Value} {Q : Unit → Shared → Prop} {nm q : Str} {bs : List Value} {sn : List Str} {sub : List Value} {ab : Bool} {col : Option Bool} {dd : Option Addr} {k0 k1 k2 k3 k5 : Option Value}
    (hC : h.get? C = some (excClassObj nm q C N bs (.ref C' :: exB) true sn sub ab col dd k0 k1 k2 k3 k5 "Exception.__new__")) (he : h.get? e = some oe) (hcls : oe.cls = .ref C) (hq : Q () ⟨h, g, d, t, os⟩) :
    wpAny M A (checkBuiltinCall "Exception.__init__" ⟨.ref e :: rest, []⟩) Q E ⟨h, g, d, t, os⟩ := by
  have F := PySem.F.excBase_Exception
  have hcB : (Value.ref C :: .ref C' :: exB).contains (.type "Exception") = true := exB_has _ _ (by decide)
  have hshort := F.noStar
  simp only [checkBuiltinCall, F.initKind, F.initSplit, F.initRow]
  repeat (first | (with_reducible refine wpAny_loadPart_at he ?_; rw [hcls]) | with_reducible refine wpAny_loadPart_at hC ?_ | (with_reducible refine wpAny_isSubtype_exc hC ?_; rw [hcB]) | wp_step)
  refine wpAny_onRaise ?_
  rw [show ∀ (a b : String) (n : Nat), Bind.check ⟨.positional, "*", "Exception", .self, [⟨"args", .varPos, false⟩]⟩ a b n (List.map (fun x => x.fst) ({ pos := Value.ref e :: rest } : Args).kw) = pure () from
    fun a b n => check_star_args _ _ _ _ _ _]
  exact wpAny_pure hq

theorem mf_init {rest : List Value} {vs : Array Value} {oe : Obj} {Q : Value → Shared → Prop} (M : MF h C C' N fI) (he : h.get? e = some oe) (hcls : oe.cls = .ref C) (hd : oe.data = .fields vs) {t0 : Addr} (h0 : vs[0]? = some (.ref t0)) (hrest : rest.length ≤ sizeLine)
    (hq : ∀ h', (∀ b o, b ≠ e → h.get? b = some o → h'.get? b = some o) → h'.get? e = some (oe.mapFields (·.setIfInBounds 0 (.ref h.objs.size))) → h'.get? h.objs.size = some { cls := .type "tuple", data := .seq rest.toArray } → Q .none ⟨h', g, d, t, os⟩) :
    wpAny (model prog w) A (call (.builtin "Exception.__init__") (.ref e :: rest)) Q E ⟨h, g, d, t, os⟩ := by
  obtain ⟨⟨nm, q, bs, sn, sub, ab, col, dd, k0, k1, k2, k3, k5, hC⟩, _⟩ := M
  have F := PySem.F.excBase_Exception
  refine wpAny_call (codeAny_call_builtin F.init.plain F.initEntry (mf_check_init hC he hcls ?_))
  unfold Builtin.«BaseException.__init__»
  show wpAny _ _ (newTuple rest >>= fun tv => Builtin.BaseException.bexcPut (.ref e) 0 tv >>= fun _ => ret .none) _ _ _
  refine wpAny_bind (wpAny_newObj_type ?_ (by show rest.toArray.size ≤ sizeLine; simpa using hrest))
  have he₁ : (h.push { cls := .type "tuple", data := .seq rest.toArray }).get? e = some oe := Heap.get?_push_of_some _ he
  have hz : 0 < vs.size := (Array.getElem?_eq_some_iff.mp h0).1
  unfold Builtin.BaseException.bexcPut
  refine wpAny_bind (wpAny_bind (wpAny_field he₁ hd h0 (wpAny_bind (wpAny_setField he₁ hd hz ?_))))
  refine wpAny_letGo ?_
  refine wpAny_pure (hq _ (fun b o hb e' => ?_) ?_ ?_)
  · rw [Heap.get?_update_other _ _ (Ne.symm hb)]; exact Heap.get?_push_of_some _ e'
  rotate_left
  · rw [Heap.get?_update_other _ _ (Nat.ne_of_lt (Heap.lt_size he))]; exact Heap.get?_push_at rfl rfl
  · exact Heap.get?_update_self _ he₁ (Obj.isFreed_of_fields (Obj.data_mapFields hd _))

/-- the def `__init__` of the parent class, as its object lies in the heap -/
structure InitAt (fd : FuncData) : Prop where
  body : ∃ p1 p2 p3 p4 p5 p6 p7 p8 p9 p10 p11 p12 p13 p14, (p2.endLine == p5.line) = true ∧ fd.body = .stmts [.Expr (.Call (.Attribute (.Name "Exception" p1) "__init__" p2) [.Name "self" p3, .Name "message" p4] [] p5) p6,
    .Assign [.Attribute (.Name "self" p7) "message" p8] (.Name "message" p9) p10, .Assign [.Attribute (.Name "self" p11) "spot" p12] (.Name "spot" p13) p14]
  kself : fd.scope.names.lookup ("self" : Str) = some .local
  kmsg : fd.scope.names.lookup ("message" : Str) = some .local
  kspot : fd.scope.names.lookup ("spot" : Str) = some .local
  kexc : fd.scope.names.lookup ("Exception" : Str) = some .globalImplicit
  nocell : ∀ x ∈ fd.scope.names, x.2 ≠ .cell
  kind : fd.scope.kind = .function
  co : fd.scope.isCoroutine = false
  gen : fd.scope.isGenerator = false
  glob : fd.globals = mainGlobals
  bui : fd.builtins = builtinsNs

theorem find_init : findCls [] (.type "Exception") (.type "type") "__init__" = some (.val (.builtin "Exception.__init__")) := by kernel_rfl
theorem type_exc : typeOf (.type "Exception") = pure (.type "type") := by kernel_rfl
theorem stub_exc : Manifest.isStub "Exception" = false := by decide +kernel
theorem no_msg : typeLookup (.type "Exception") "message" = pure none := by rw [typeLookup_type, builtinLookup_eq_fast]; kernel_rfl
theorem no_spot : typeLookup (.type "Exception") "spot" = pure none := by rw [typeLookup_type, builtinLookup_eq_fast]; kernel_rfl

/-- an exception of the own class has been made -/
structure Thrown (h h' : Heap) (e C t : Addr) (ms : List Value) : Prop where
  keeps : ∀ b o, h.get? b = some o → h'.get? b = some o
  new : h.get? e = none
  tnew : h.get? t = none
  tup : h'.TupAt t ms
  obj : ∃ oe vs, h'.get? e = some oe ∧ oe.cls = .ref C ∧ oe.data = .fields vs ∧ vs[0]? = some (.ref t) ∧ vs[1]? = some .none

theorem init_name {env : Env} {h : Heap} {t : Nat} {x : Str} {p : Pos} {m : Str → Option Value} {u : Value} {Q : Value → Shared → Prop} (hk : env.scope.kind = .function) (hl : env.scope.names.lookup x = some .local) (hn : h.Ns env.locals m) (hm : m x = some u) (hd : (x == ("__debug__" : Str)) = false)
    (hq : Q u ⟨h, g, d, t, os⟩) : wpAny (model prog w) A (eval (.Name x p) env) Q E ⟨h, g, d, t, os⟩ :=
  wpAny_Name (wpAny_loadName_local hk hl hn hm hq) hd

theorem attr_store {env : Env} {h : Heap} {t : Nat} {x y : Str} {p1 p2 p3 p4 : Pos} {m : Str → Option Value} {u : Value} {mA : Str → Option Value} {ns : List Str} {name : Str} {Q : Flow → Shared → Prop} (M : MF h C C' N fI) (hname : name = "message" ∨ name = "spot") (hB : typeLookup (.type "Exception") name = pure none)
    (hk : env.scope.kind = .function) (hlx : env.scope.names.lookup x = some .local) (hly : env.scope.names.lookup y = some .local) (hn : h.Ns env.locals m) (hmx : m x = some (.ref e)) (hmy : m y = some u) (hdx : (x == ("__debug__" : Str)) = false) (hdy : (y == ("__debug__" : Str)) = false)
    (hec : e ≠ C) (I : h.Inst e C mA) (hw : Within mA ns) (hsz : ns.length ≤ 10) (hq : ∀ h' tk', Stored h h' e C mA name u → Q .next ⟨h', g, d, tk', os⟩) :
    wpAny (model prog w) A (exec (.Assign [.Attribute (.Name x p1) name p2] (.Name y p3) p4) env) Q E ⟨h, g, d, t, os⟩ := by
  refine wpAny_Assign_stores ?_ rfl rfl
  refine init_name hk hly hn hmy hdy ?_
  show wpAny _ _ (assign (.Attribute (.Name x p1) name p2) env u) _ _ _
  show wpAny _ _ (holding [u] (eval (.Name x p1) env) >>= fun ov => standAt p2.atName >>= fun _ => holding [u, ov] (setAttr ov name u) >>= fun _ => release [u, ov] []) _ _ _
  refine wpAny_bind (wpAny_holding (init_name hk hlx hn hmx hdx (wpAny_bind (wpAny_standAt (wpAny_bind (wpAny_holding (mf_store M hname hB hec I (fun h' tk' S => ?_) hw hsz)))))))
  exact wpAny_release (hq h' tk' S)
end
end Mine

namespace Mine
open PySem PySem.W PySem.Calls

section
variable {prog : Program} {w : World} {A : Around} {E : Value → Shared → Prop} {g : Array GenState} {d : Drawn} {os : OsState} {C C' N fI e : Addr}

theorem empty_in (h : Heap) : Frag.In [] h := fun _ _ q => by simp at q

theorem handed_init : handedIn (.builtin "Exception.__init__") = true := by decide +kernel
theorem fr_any {h : Heap} {L : Addr} {m : Str → Option Value} (hn : h.Ns L m) : PyProof.Rows.Fr ⟨#[], h.life⟩ L h m :=
  ⟨hn, fun b o q => by
    have : b < (#[] : Array Obj).size := Heap.lt_size q
    simp at this, Nat.zero_le _⟩
theorem method_init {h : Heap} {t : Nat} {pl : Sem Bool} {L : Addr} {m : Str → Option Value} {Q : Value × List Value → Shared → Prop} (hn : h.Ns L m) (hq : Q (.builtin "Exception.__init__", []) ⟨h, g, d, t + 1, os⟩) :
    wpAny (model prog w) A (getMethod (.type "Exception") "__init__" pl) Q E ⟨h, g, d, t, os⟩ :=
  method_type (K := []) (s := ⟨h, g, d, t, os⟩) (fr_any hn) (empty_in _) type_exc stub_exc find_init handed_init hq

theorem init_call {env : Env} {h : Heap} {t : Nat} {p1 p2 p3 p4 p5 p6 : Pos} {m : Str → Option Value} {msg : Value} {mg mb : Str → Option Value} {oe : Obj} {vs : Array Value} {t0 : Addr} {Q : Flow → Shared → Prop} (M : MF h C C' N fI) (hline : (p2.endLine == p5.line) = true)
    (hk : env.scope.kind = .function) (hls : env.scope.names.lookup ("self" : Str) = some .local) (hlm : env.scope.names.lookup ("message" : Str) = some .local) (hle : env.scope.names.lookup ("Exception" : Str) = some .globalImplicit) (hn : h.Ns env.locals m) (hms : m "self" = some (.ref e)) (hmm : m "message" = some msg)
    (hg : h.Ns env.globals mg) (hgn : mg "Exception" = none) (hb : h.Ns env.builtins mb) (hbe : mb "Exception" = some (.type "Exception"))
    (he : h.get? e = some oe) (hcls : oe.cls = .ref C) (hd : oe.data = .fields vs) (h0 : vs[0]? = some (.ref t0))
    (hq : ∀ h' tk', (∀ b o, b ≠ e → h.get? b = some o → h'.get? b = some o) → h'.get? e = some (oe.mapFields (·.setIfInBounds 0 (.ref h.objs.size))) → h'.get? h.objs.size = some { cls := .type "tuple", data := .seq [msg].toArray } → Q .next ⟨h', g, d, tk', os⟩) :
    wpAny (model prog w) A (exec (.Expr (.Call (.Attribute (.Name "Exception" p1) "__init__" p2) [.Name "self" p3, .Name "message" p4] [] p5) p6) env) Q E ⟨h, g, d, t, os⟩ := by
  refine wpAny_Expr_any ?_ (by unfold interactive; rw [hk]; rfl) rfl
  rw [arm_eval_Call]
  refine wpAny_bind ?_
  show wpAny _ _ (eval (.Name "Exception" p1) env) _ _ _
  refine Calls.Name_function_global hk hle (Calls.loadGlobal_builtin hg hgn hb hbe ?_) (by decide)
  refine wpAny_bind (wpAny_standAt ?_)
  have hform : methodCallForm ([Expr.Name "self" p3, Expr.Name "message" p4].length + ([] : List Keyword).length) (backTo p5 (starEach [Expr.Name "self" p3, Expr.Name "message" p4] env)) (backToKw p5 (keywordEach [] env)) = true := rfl
  have hpos : methodCallPos true (.Name "Exception" p1) env p2 p5 = pure p5 := by unfold methodCallPos; simp [hline]
  unfold methodCall
  rw [hform]
  refine wpAny_bind (wpAny_holding ?_)
  show wpAny _ _ (getMethod (.type "Exception") "__init__" _) _ _ _
  refine method_init hn ?_
  refine wpAny_bind (wpAny_of_eq hpos ?_)
  refine Calls.callWith_builtin rfl (Calls.evalArgs_plain ?_)
  refine Calls.spliced_cons (init_name hk hls hn hms (by decide) ?_)
  refine Calls.spliced_cons (init_name hk hlm hn hmm (by decide) (Calls.spliced_nil ?_))
  exact mf_init M he hcls hd h0 (by show 1 ≤ sizeLine; rw [sizeLine_eq]; decide) fun h' k1 k2 k3 => hq h' _ k1 k2 k3

theorem MF.still {h h' : Heap} (x : MF h C C' N fI) (k : ∀ b o, h.get? b = some o → h'.get? b = some o) : MF h' C C' N fI := x.keeps k

theorem init_run {fd : FuncData} {body : List Stmt} {h0 h : Heap} {L a : Addr} {t t0 : Nat} {m : Str → Option Value} {msg : Value} {mg mb : Str → Option Value} {Q : Value → Shared → Prop} (IA : InitAt fd) (hbody : fd.body = .stmts body) (M : MF h0 C C' N fI)
    (hg : h0.Ns mainGlobals mg) (hgn : mg "Exception" = none) (hb : h0.Ns builtinsNs mb) (hbe : mb "Exception" = some (.type "Exception")) (k : ∀ b o, h0.get? b = some o → h.get? b = some o) (hnew : h0.get? e = none)
    (hn : h.Ns L m) (hms : m "self" = some (.ref e)) (hmm : m "message" = some msg) (hmp : m "spot" = some .none) (hLe : L ≠ e)
    (he : h.get? e = some { cls := .ref C, data := .fields #[.ref t0, .none, .none, .none, .bool false, .none] })
    (hq : ∀ h' tk t, Thrown h0 h' e C t [msg] → Q .none ⟨h', g, d, tk, os⟩) :
    wpAny (model prog w) A (execs body (callEnv fd L a)) (fun f s' => Q (match f with | .ret v => v | _ => .none) s') E ⟨h, g, d, t, os⟩ := by
  obtain ⟨p1, p2, p3, p4, p5, p6, p7, p8, p9, p10, p11, p12, p13, p14, hline, hbd⟩ := IA.body
  rw [hbd] at hbody; cases hbody
  have eC : e ≠ C := fun q => by
    obtain ⟨⟨_, _, _, _, _, _, _, _, _, _, _, _, _, hC⟩, _⟩ := M
    rw [← q, hnew] at hC; cases hC
  have neW : ∀ b o, h0.get? b = some o → b ≠ e := fun b o q z => by rw [z, hnew] at q; cases q
  have hM := M.keeps k
  refine wpAny_execs_cons (init_call (m := m) hM hline IA.kind IA.kself IA.kmsg IA.kexc hn hms hmm (mg := mg) (mb := mb) (by show h.Ns fd.globals mg; rw [IA.glob]; exact hg.keeps k) hgn (by show h.Ns fd.builtins mb; rw [IA.bui]; exact hb.keeps k) hbe he rfl rfl rfl fun h1 t1 k1 e1 et1 => ?_)
  have M1 : MF h1 C C' N fI := M.keeps fun b o q => k1 b o (neW b o q) (k b o q)
  have n1 : h1.Ns L m := hn.at' fun o q => k1 _ o hLe q
  have I1 : h1.Inst e C fun _ => none := ⟨_, e1, rfl, (fun c q => by cases q), .inl ⟨rfl, fun _ => rfl⟩⟩
  refine wpAny_execs_cons (attr_store M1 (.inl rfl) no_msg IA.kind IA.kself IA.kmsg n1 hms hmm (by decide) (by decide) eC I1 (ns := []) Within.nil (by simp) fun h2 t2 S2 => ?_)
  have k2 : ∀ b o, b ≠ e → h1.get? b = some o → h2.get? b = some o := fun b o hbe' q => S2.keep b o hbe' (fun o₀ dx q1 q2 => by
    rw [e1] at q1; cases q1; cases q2) q
  have M2 : MF h2 C C' N fI := M.keeps fun b o q => k2 b o (neW b o q) (k1 b o (neW b o q) (k b o q))
  have n2 : h2.Ns L m := n1.at' fun o q => k2 _ o hLe q
  obtain ⟨o2, e2, c2, d2, s2, _⟩ := S2.same _ e1
  refine wpAny_execs_cons (attr_store M2 (.inr rfl) no_spot IA.kind IA.kself IA.kspot n2 hms hmp (by decide) (by decide) eC S2.inst (ns := ["message"]) (Within.cons _ _ Within.nil) (by simp) fun h3 t3 S3 => ?_)
  have k3 : ∀ b o, h1.get? b = some o → b ≠ e → h2.get? b = some o → h3.get? b = some o := fun b o q1 hbe' q => S3.keep b o hbe' (fun o₀ dx z1 z2 z => by
    rcases S2.fresh o₀ dx z1 z2 with f | ⟨o', f1, f2⟩
    · rw [← z, q1] at f; cases f
    · rw [e1] at f1; cases f1; cases f2) q
  obtain ⟨o3, e3, c3, d3, _⟩ := S3.same _ e2
  have etn : h.objs.size ≠ e := Nat.ne_of_gt (Heap.lt_size he)
  have et2 := k2 _ _ etn et1
  have et3 := k3 _ _ et1 etn et2
  have tn : h0.get? h.objs.size = none := by
    cases q : h0.get? h.objs.size with
    | none => rfl
    | some o => have := Heap.lt_size (k _ o q); exact absurd this (Nat.lt_irrefl _)
  refine wpAny_execs_nil (hq h3 t3 h.objs.size ⟨fun b o q => ?_, hnew, tn, ⟨_, _, et3, rfl, rfl⟩, o3, _, e3, c3.trans c2, d3.trans (d2.trans rfl), rfl, rfl⟩)
  have q1 := k1 b o (neW b o q) (k b o q)
  exact k3 b o q1 (neW b o q) (k2 b o (neW b o q) q1)
end
end Mine

namespace Mine
open PySem PySem.W PySem.Calls

structure InitFn (h : Heap) (fI : Addr) (fd : FuncData) : Prop where
  obj : ∃ oI, h.get? fI = some oI ∧ oI.cls = .type "function" ∧ oI.data = .func fd
  crec : h.CodeRec fd.code fd.qualname
  clo : fd.closure = []
  ia : InitAt fd
  binds : ∀ (s : Shared) (v u : Value), (∀ b o, h.get? b = some o → s.heap.get? b = some o) → BindsTo s fd ⟨[v, u], []⟩ [("self", v), ("message", u), ("spot", .none)]

section
variable {prog : Program} {w : World} {A : Around} {E : Value → Shared → Prop} {s : Shared} {h₀ : Heap} {C C' N fI e : Addr} {fd : FuncData} {mg mb : Str → Option Value}

theorem mf_make {msg : Value} {Q : Value → Shared → Prop} (M : MF h₀ C C' N fI) (IF : InitFn h₀ fI fd) (hg : h₀.Ns mainGlobals mg) (hgn : mg "Exception" = none) (hb : h₀.Ns builtinsNs mb) (hbe : mb "Exception" = some (.type "Exception")) (hlim : h₀.NoLimit)
    (old : ∀ b o, h₀.get? b = some o → s.heap.get? b = some o) (hroom : A.depth + 2 < recursionLimit)
    (hq : ∀ h' tk e t, Thrown s.heap h' e C t [msg] → Q (.ref e) { s with heap := h', toks := tk }) :
    wpAny (model prog w) A (call (.ref C) [msg]) Q E s := by
  obtain ⟨oI, hfI, hfc, hfd⟩ := IF.obj
  obtain ⟨h, g, d, t, os⟩ := s
  have old' : ∀ b o, h₀.get? b = some o → h.get? b = some o := old
  refine mf_call (M.keeps old') (old' _ _ hfI) hfc (fun h1 e hm => ?_) (by show 1 ≤ sizeLine; rw [sizeLine_eq]; decide)
  have k1 : ∀ b o, h₀.get? b = some o → h1.get? b = some o := fun b o q => hm.keeps b o (old' b o q)
  obtain ⟨t0, he, _, _⟩ := hm.there
  obtain ⟨p1, p2, p3, p4, p5, p6, p7, p8, p9, p10, p11, p12, p13, p14, hline, hbd⟩ := IF.ia.body
  have hdep : (A.under (.builtin "type.__call__" ⟨.ref C :: [msg], []⟩)).depth < recursionLimit := by
    show A.depth + 1 < recursionLimit
    omega
  refine wpAny_call (codeAny_call_def hdep (k1 _ _ hfI) hfd (hlim.keeps k1) (IF.crec.keeps k1) hbd (IF.binds _ _ _ k1) IF.ia.nocell (fun x hx => ?_) (fun h2 hn2 k2 => ?_) IF.ia.co IF.ia.gen IF.ia.kind)
  · rcases List.mem_cons.mp hx with rfl | hx
    · exact IF.ia.kself
    · rcases List.mem_cons.mp hx with rfl | hx
      · exact IF.ia.kmsg
      · rw [List.mem_singleton.mp hx]; exact IF.ia.kspot
  have hlt : e < h1.objs.size := Heap.lt_size he
  refine wpAny_mono (init_run (L := h1.objs.size) (e := e) (Q := fun r s' => r = .none ∧ Q (.ref e) s') IF.ia hbd (M.keeps old') (hg.keeps old') hgn (hb.keeps old') hbe (fun b o q => k2 b o (hm.keeps b o q)) hm.new hn2 rfl rfl rfl (Nat.ne_of_gt hlt) (k2 _ _ he) fun h' tk t T => ⟨rfl, hq h' tk e t T⟩) (fun f s' z => z) fun _ _ z => z

theorem mf_raiseStmt {env : Env} {x : Sem Value} {Q : Flow → Shared → Prop} (hh : A.handled = none)
    (h : wpAny (model prog w) A x (fun v s₁ => ∃ e oe vs, v = .ref e ∧ MF s₁.heap C C' N fI ∧ s₁.heap.get? e = some oe ∧ oe.cls = .ref C ∧ oe.data = .fields vs ∧ vs[1]? = some .none ∧ E (.ref e) s₁) E s) :
    wpAny (model prog w) A (raiseStmt env (some x) none) Q E s := by
  have hcB : (Value.ref C :: .ref C' :: exB).contains (.type "BaseException") = true := exB_has _ _ (by decide)
  unfold raiseStmt
  refine wpAny_bind (wpAny_mono h (fun v s₁ h₁ => ?_) fun _ _ x => x)
  obtain ⟨e, oe, vs, rfl, ⟨⟨nm, q, bs, sn, sub, ab, col, dd, k0, k1, k2, k3, k5, hC⟩, _⟩, he, hcls, hd, h1, hE⟩ := h₁
  obtain ⟨hp, g, d, tk, os⟩ := s₁
  obtain ⟨c0, d0, dt, sl⟩ := oe
  simp only at hcls hd
  subst hcls hd
  repeat (first | with_reducible refine wpAny_loadPart_at he ?_ | with_reducible refine wpAny_loadPart_at hC ?_ | (with_reducible refine wpAny_isSubtype_exc hC ?_; rw [hcB]) | wp_step)
  rw [h1]
  refine wpAny_pure ?_
  rw [if_neg (by decide)]
  exact wpAny_pure (wpAny_raiseNew_none hh hE)
end
end Mine

namespace Mine
open PySem PySem.W PySem.Calls

/-- what is known of the exception's class -/
structure ExcBase (h₀ : Heap) (mg mb : Str → Option Value) (C C' N fI : Addr) (fd : FuncData) : Prop where
  mf : MF h₀ C C' N fI
  fn : InitFn h₀ fI fd
  g : h₀.Ns mainGlobals mg
  b : h₀.Ns builtinsNs mb
  nolimit : h₀.NoLimit
  gn : mg "Exception" = none
  be : mb "Exception" = some (.type "Exception")
  at' : mg "MacroFault" = some (.ref C)

section
variable {prog : Program} {w : World} {h₀ hb : Heap} {env : Env} {sc : Names} {μ μ' : Mu} {ρ ρ' ρ1 ρ2 : Loc} {σ σ' σ1 σ2 σ3 σ4 : Sto} {A : Around} {E : Value → Shared → Prop} {s : Shared} {G : Str → Option D} {mg mb : Str → Option Value} {n k : Nat} {C C' N fI e : Addr} {fd : FuncData}

theorem raise_ok (B : Base prog w G h₀ mg mb) (X : ExcBase h₀ mg mb C C' N fI fd) {np cp pp pos : Pos} {nk : Nat} {msg : Str} {Q : Flow → Shared → Prop} (I : Inv prog w h₀ hb env sc s.heap μ ρ σ) (hh : A.handled = none) (hroom : A.depth + 2 < recursionLimit) (hx : sc.lookup ("MacroFault" : Str) = some .globalImplicit)
    (h : ∀ h' tk e t tk0, Thrown s.heap h' e C t [.str msg tk0] → E (.ref e) { s with heap := h', toks := tk }) : wpAny (model prog w) A (exec (.Raise (some (.Call (.Name "MacroFault" np) [.Constant (.str msg) nk cp] [] pp)) none pos) env) Q E s := by
  rw [arm_exec_Raise]
  refine wpAny_bind (wpAny_standAt ?_)
  show wpAny _ _ (raiseStmt env (some (do let v ← eval (.Call (.Name "MacroFault" np) [.Constant (.str msg) nk cp] [] pp) env; standAt pos; pure v)) none) _ _ _
  refine mf_raiseStmt (C := C) (C' := C') (N := N) (fI := fI) hh ?_
  refine wpAny_bind (wpAny_Call_ofName (global_ok B I hx X.at' (by decide +kernel) ?_))
  have old := I.old
  obtain ⟨⟨nm, q, bs, sn, sub, ab, col, dd, k0, k1, k2, k3, k5, hC⟩, _⟩ := X.mf.keeps old
  unfold callWith
  have hplain : (backTo pp (starEach [Expr.Constant (.str msg) nk cp] env)).any (·.1) = false := rfl
  refine wpAny_bind (wpAny_holding (evalArgs_plain (spliced_cons (wpAny_Constant_str (k := nk) (pos := cp) (spliced_nil ?_)))))
  refine wpAny_bind (wpAny_standAt ?_)
  simp only [hplain]
  refine wpAny_bind (wpAny_keeperOf_exc hC ?_)
  refine wpAny_bind (mf_make (s := { s with toks := s.toks + 1 }) X.mf X.fn X.g X.gn X.b X.be X.nolimit old hroom fun h' tk e t T => ?_)
  refine wpAny_bind (wpAny_holding (wpAny_point (wpAny_pure ?_)))
  refine wpAny_bind (wpAny_standAt (wpAny_pure ?_))
  obtain ⟨oe, vs, h1, h2, h3, h4, h5⟩ := T.obj
  exact ⟨e, oe, vs, rfl, X.mf.keeps fun b o q => T.keeps b o (old b o q), h1, h2, h3, h5, h h' tk e t _ T⟩
end
end Mine

namespace Mine
open PySem PySem.W PySem.Calls PyProof.Rows

noncomputable def mfIn (K : Frag) (C C' N N' fI : Addr) : Bool :=
  (match K.lookup C with
  | some ⟨.type "type", _, .cls cd, sl⟩ => (match sl.toList with
    | [_, _, _, _, some (.builtin n), _] => cd.mro == .ref C :: .ref C' :: exB && n == "Exception.__new__" && cd.hasDict && !cd.hasDel && cd.ns == N
    | _ => false)
  | _ => false) && (nsOkIn K N && nsIn K N "__init__" == some none && nsIn K N "__setattr__" == some none && nsIn K N "message" == some none && nsIn K N "spot" == some none) &&
  (match K.lookup C' with
  | some ⟨_, _, .cls cd, _⟩ => cd.ns == N'
  | _ => false) && (nsOkIn K N' && nsIn K N' "__init__" == some (some (.ref fI)) && nsIn K N' "__setattr__" == some none && nsIn K N' "message" == some none && nsIn K N' "spot" == some none)

theorem ns_some_of {K : Frag} {h : Heap} {N : Addr} {mg : Str → Option Value} {n : Str} {v : Value} (X : K.In h) (G : h.Ns N mg) (e : nsIn K N n = some (some v)) : mg n = some v := by
  obtain ⟨o, es, ep, ho, hd, _, hf⟩ := G
  unfold nsIn at e
  split at e
  · rename_i c d es' n' sl q
    have := X _ _ q
    rw [ho] at this
    cases this
    cases hd
    split at e
    · rename_i ee he
      have e' := Option.some.inj (Option.some.inj e)
      rw [← hf]
      unfold nsFind findBy
      rw [← Array.find?_toList, he]
      exact congrArg some e'
    · split at e <;> cases e
  · cases e

theorem mf_of_in {K : Frag} {h : Heap} {C C' N N' fI : Addr} (X : K.In h) (e : mfIn K C C' N N' fI = true) : MF h C C' N fI := by
  unfold mfIn at e
  simp only [Bool.and_eq_true] at e
  obtain ⟨⟨⟨e1, ⟨⟨⟨b1, b2⟩, b3⟩, b4⟩, b5⟩, e3⟩, ⟨⟨⟨c1, c2⟩, c3⟩, c4⟩, c5⟩ := e
  simp only [beq_iff_eq] at b2 b3 b4 b5 c2 c3 c4 c5
  refine ⟨?_, ⟨_, .of_isNs (isNs_of_in X b1), ns_none_of X (.of_isNs (isNs_of_in X b1)) b2, ns_none_of X (.of_isNs (isNs_of_in X b1)) b3, ns_none_of X (.of_isNs (isNs_of_in X b1)) b4, ns_none_of X (.of_isNs (isNs_of_in X b1)) b5⟩, ?_⟩
  · split at e1
    · rename_i dd cd sl ho
      split at e1
      · rename_i k0 k1 k2 k3 n k5 hs
        simp only [Bool.and_eq_true, beq_iff_eq, Bool.not_eq_true'] at e1
        obtain ⟨⟨⟨⟨hm, hn⟩, hdt⟩, hdel⟩, hN⟩ := e1
        obtain ⟨nm, bs, mro, ns, qn, hd, sn, sub, ab, col, del⟩ := cd
        dsimp only at hm hdel hdt hN
        subst hm hdel hdt hN hn
        have hsl : sl = #[k0, k1, k2, k3, some (.builtin "Exception.__new__"), k5] := by
          obtain ⟨l⟩ := sl
          simp only at hs
          rw [hs]
        subst hsl
        exact ⟨nm, qn, bs, sn, sub, ab, col, dd, k0, k1, k2, k3, k5, X _ _ ho⟩
      · cases e1
    · cases e1
  · split at e3
    · rename_i cc dd cd sl ho
      obtain rfl := beq_iff_eq.mp e3
      exact ⟨_, _, _, _, _, X _ _ ho, .of_isNs (isNs_of_in X c1), ns_some_of X (.of_isNs (isNs_of_in X c1)) c2, ns_none_of X (.of_isNs (isNs_of_in X c1)) c3, ns_none_of X (.of_isNs (isNs_of_in X c1)) c4, ns_none_of X (.of_isNs (isNs_of_in X c1)) c5⟩
    · cases e3

/-- the text of the class's `__init__` -/
noncomputable def clsBody (n : Str) : List Stmt → List Stmt
  | [] => []
  | .ClassDef m _ _ b _ _ _ _ _ _ _ :: r => if m == n then b else clsBody n r
  | _ :: r => clsBody n r
noncomputable def defIn (n : Str) : List Stmt → Option (Arguments × List Stmt)
  | [] => none
  | .FunctionDef m a b _ _ _ _ _ _ _ :: r => if m == n then some (a, b) else defIn n r
  | _ :: r => defIn n r
noncomputable def initAst : Arguments × List Stmt := (defIn "__init__" (clsBody "RowsError" PySem.Challenge.pw_pc0188_01.main.body)).getD (⟨[], [], none, [], [], none, []⟩, [])
theorem initAst_body : ∃ p1 p2 p3 p4 p5 p6 p7 p8 p9 p10 p11 p12 p13 p14, (p2.endLine == p5.line) = true ∧ initAst.2 = [.Expr (.Call (.Attribute (.Name "Exception" p1) "__init__" p2) [.Name "self" p3, .Name "message" p4] [] p5) p6,
    .Assign [.Attribute (.Name "self" p7) "message" p8] (.Name "message" p9) p10, .Assign [.Attribute (.Name "self" p11) "spot" p12] (.Name "spot" p13) p14] := by
  refine ⟨_, _, _, _, _, _, _, _, _, _, _, _, _, _, ?_, rfl⟩
  rfl
theorem initAst_pars : ∃ a1 p1 a2 p2 a3 p3 kd ds, initAst.1 = ⟨[], [⟨"self", a1, p1⟩, ⟨"message", a2, p2⟩, ⟨"spot", a3, p3⟩], none, [], kd, none, ds⟩ := ⟨_, _, _, _, _, _, _, _, rfl⟩

noncomputable def initScope (s : Scope) : Bool := s.names.lookup ("self" : Str) == some .local && s.names.lookup ("message" : Str) == some .local && s.names.lookup ("spot" : Str) == some .local && s.names.lookup ("Exception" : Str) == some .globalImplicit &&
  s.names.all (fun x => x.2 != .cell) && s.kind == .function && !s.isCoroutine && !s.isGenerator

noncomputable def initIn (K : Frag) (fI T : Addr) (fd : FuncData) : Bool := (fd.closure.isEmpty && fd.globals == mainGlobals && fd.builtins == builtinsNs && initScope fd.scope && fd.defaults == .ref T && codeIn K fd.code fd.qualname &&
  (match K.lookup T with
    | some ⟨_, _, .seq items _, _⟩ => items.toList == [.none]
    | _ => false))

theorem binds_init {s : Shared} {fd : FuncData} {v u : Value} {T : Addr} {o : Obj} {n : Nat} (hp : fd.params = initAst.1) (hd : fd.defaults = .ref T) (ho : s.heap.get? T = some o) (hs : o.data = .seq #[.none] n) :
    BindsTo s fd ⟨[v, u], []⟩ [("self", v), ("message", u), ("spot", .none)] := by
  obtain ⟨nm, qn, ps, body, sc, gl, cl, df, kd, dc, pm, an, cd, ct, bu⟩ := fd
  obtain ⟨a1, p1, a2, p2, a3, p3, kd', ds, e⟩ := initAst_pars
  dsimp only at hp hd
  rw [e] at hp
  subst hd hp
  exact BindsTo.of_defaults rfl ho hs rfl rfl

noncomputable def fdIn (K : Frag) (fI : Addr) : FuncData := match K.lookup fI with
  | some ⟨_, _, .func fd, _⟩ => fd
  | _ => default
noncomputable def isFnIn (K : Frag) (fI : Addr) : Bool := match K.lookup fI with
  | some ⟨.type "function", _, .func _, _⟩ => true
  | _ => false

theorem init_of_in {K : Frag} {h : Heap} {fI T : Addr} (X : K.In h) (e0 : isFnIn K fI = true) (e : initIn K fI T (fdIn K fI) = true) (hb : (fdIn K fI).body = .stmts initAst.2) (hp : (fdIn K fI).params = initAst.1) : InitFn h fI (fdIn K fI) := by
  unfold isFnIn at e0
  split at e0
  · rename_i dd fd sl ho
    have hfd : fdIn K fI = fd := by unfold fdIn; rw [ho]
    rw [hfd] at e hb hp ⊢
    unfold initIn at e
    simp only [Bool.and_eq_true] at e
    obtain ⟨⟨⟨⟨⟨⟨e1, e2⟩, e3⟩, e6⟩, e7⟩, e8⟩, e9⟩ := e
    have e1' : fd.closure = [] := List.isEmpty_iff.mp e1
    have hsc := e6
    unfold initScope at hsc
    simp only [Bool.and_eq_true, beq_iff_eq, Bool.not_eq_true'] at hsc
    obtain ⟨⟨⟨⟨⟨⟨⟨s1, s2⟩, s3⟩, s4⟩, s5⟩, s6⟩, s7⟩, s8⟩ := hsc
    obtain ⟨p1, p2, p3, p4, p5, p6, p7, p8, p9, p10, p11, p12, p13, p14, hl, hbd⟩ := initAst_body
    rw [hbd] at hb
    refine ⟨⟨_, X _ _ ho, rfl, rfl⟩, codeRec_of X e8, e1', ⟨⟨p1, p2, p3, p4, p5, p6, p7, p8, p9, p10, p11, p12, p13, p14, hl, hb⟩, s1, s2, s3, s4, fun x hx q => ?_, s6, s7, s8, beq_iff_eq.mp e2, beq_iff_eq.mp e3⟩, fun s v u k => ?_⟩
    · have := List.all_eq_true.mp s5 x hx
      rw [q] at this; cases this
    · split at e9
      · rename_i items n sl hT
        have : items = #[.none] := by
          obtain ⟨l⟩ := items
          simpa using e9
        subst this
        exact binds_init hp (beq_iff_eq.mp e7) (k _ _ (X _ _ hT)) rfl
      · cases e9
  · cases e0

noncomputable def excAllIn (K : Frag) : Bool := mfIn K 45 32 44 31 29 && isFnIn K 29 && initIn K 29 22 (fdIn K 29) && nsIn K mainGlobals "Exception" == some none && nsIn K mainGlobals "MacroFault" == some (some (.ref 45))

theorem excBase_of {K : Frag} {h : Heap} {p : Program} {loose : List Str} {mg mb : Str → Option Value} (X : K.In h) (T : TopRead p loose mg mb h) (e : excAllIn K = true) (hb : (fdIn K 29).body = .stmts initAst.2) (hp : (fdIn K 29).params = initAst.1) : ExcBase h mg mb 45 32 44 29 (fdIn K 29) := by
  unfold excAllIn at e
  simp only [Bool.and_eq_true, beq_iff_eq] at e
  obtain ⟨⟨⟨⟨e1, e2⟩, e3⟩, e4⟩, e5⟩ := e
  exact ⟨mf_of_in X e1, init_of_in X e2 e3 hb hp, T.g, T.b, T.nolimit, ns_none_of X T.g e4, (T.builtins "Exception" (by decide)).trans PyProof.Rows.Boot.«Exception», mg_of X T.g e5⟩
end Mine

namespace Mine
open PySem

noncomputable def findFn (n : Str) : List Stmt → Option Fn
  | [] => none
  | .FunctionDef m a b _ _ _ sc _ _ _ :: r => if m == n then some ⟨a.args.map (·.arg), b, sc.names⟩ else findFn n r
  | _ :: r => findFn n r

noncomputable def fnOf (n : Str) : Option Fn := findFn n PySem.Challenge.pw_pc0188_01.main.body
noncomputable def fnD (n : Str) : Fn := (fnOf n).getD ⟨[], [], []⟩

noncomputable def glo (x : Str) : Option D := if x == "MAKER" then some (.tup [.str "value", .tup [.str "builtin", .str "make_expr"]]) else none

noncomputable def muOf (f : Str) : List (Str × Nat) := if f == "quoted" then [("tasks", 1), ("done", 0)] else if f == "law" then [("box", 0)] else []

noncomputable def callN : Nat → Orc
  | 0, _, _, _ => none
  | n + 1, f, as, σ => if f == "_law_refused" then none else match fnOf f with
    | some F => callF (callN n) glo F (muOf f) (f == "_law_box") as σ
    | none => none

/-! one step at a time, where what a call answers is known -/
section
variable {C : Orc} {G : Str → Option D} {n : Nat} {sc : Names} {ρ ρ1 ρ2 : Loc} {σ σ1 σ2 σ3 : Sto} {v : Ev}

theorem ev_e {C : Orc} {G : Str → Option D} {n : Nat} : (ev C G (n + 1)).e = stepE C G (ev C G n) := rfl
theorem ev_t {C : Orc} {G : Str → Option D} {n : Nat} : (ev C G (n + 1)).t = stepT (ev C G n) := rfl
theorem evals_nil : evals v sc ρ σ [] = some ([], σ) := rfl
theorem evals_cons {e : Expr} {es : List Expr} {r : R} {rs : List R} (h1 : v.e sc ρ σ e = some (r, σ1)) (h2 : evals v sc ρ σ1 es = some (rs, σ2)) (hs : isStarE e = false) : evals v sc ρ σ (e :: es) = some (r :: rs, σ2) := by
  show gd (!isStarE e) (b2 (v.e sc ρ σ e) fun r σ1 => b2 (evals v sc ρ σ1 es) fun rs σ2 => some (r :: rs, σ2)) = _
  rw [hs, h1]
  show (b2 (evals v sc ρ σ1 es) fun rs σ2 => some (r :: rs, σ2)) = _
  rw [h2]; rfl

noncomputable def callSide (f : Str) (ρ : Loc) (sc : Names) : Bool := !(isDbg f || (ρ.lookup f).isSome) && sc.lookup f == some .globalImplicit
theorem nm_call {f : Str} {as : List Expr} {rs : List R} (h1 : evals v sc ρ σ as = some (rs, σ1)) (hs : callSide f ρ sc = true) : nmCall C v sc ρ σ f as = match bnames.contains f with
    | true => b1 (bcall σ1 f rs) fun d => some (.val d, σ1)
    | false => C f rs σ1 := by
  unfold callSide at hs
  rw [Bool.and_eq_true] at hs
  unfold nmCall
  rw [hs.1, hs.2, h1]
  rfl
theorem e_call {f : Str} {fp pos : Pos} {as : List Expr} {rs : List R} {r : R} (h1 : evals (ev C G n) sc ρ σ as = some (rs, σ1)) (hC : C f rs σ1 = some (r, σ2)) (hs : callSide f ρ sc = true) (hb : bnames.contains f = false) :
    (ev C G (n + 1)).e sc ρ σ (.Call (.Name f fp) as [] pos) = some (r, σ2) := by
  show nmCall C (ev C G n) sc ρ σ f as = _
  rw [nm_call h1 hs, hb]
  exact hC
theorem e_bcall {f : Str} {fp pos : Pos} {as : List Expr} {rs : List R} {d : D} (h1 : evals (ev C G n) sc ρ σ as = some (rs, σ1)) (hC : bcall σ1 f rs = some d) (hs : callSide f ρ sc = true) (hb : bnames.contains f = true) :
    (ev C G (n + 1)).e sc ρ σ (.Call (.Name f fp) as [] pos) = some (.val d, σ1) := by
  show nmCall C (ev C G n) sc ρ σ f as = _
  rw [nm_call h1 hs, hb]
  show b1 (bcall σ1 f rs) _ = _
  rw [hC]; rfl
theorem bV_is {γ : Type} {x : Option (R × Sto)} {d : D} {f : D → Sto → Option γ} {o : Option γ} (h1 : x = some (.val d, σ1)) (h2 : f d σ1 = o) : bV x f = o := by
  rw [h1]; exact h2
theorem b2_is {α β γ : Type} {x : Option (α × β)} {a : α} {b : β} {f : α → β → Option γ} {o : Option γ} (h1 : x = some (a, b)) (h2 : f a b = o) : b2 x f = o := by
  rw [h1]; exact h2
theorem b1_is {α γ : Type} {x : Option α} {a : α} {f : α → Option γ} {o : Option γ} (h1 : x = some a) (h2 : f a = o) : b1 x f = o := by
  rw [h1]; exact h2
theorem gd_is {γ : Type} {c : Bool} {x o : Option γ} (h1 : c = true) (h2 : x = o) : gd c x = o := by
  rw [h1]; exact h2
theorem e_bin {l r : Expr} {op : Operator} {pos : Pos} {a b d : D} (h1 : (ev C G n).e sc ρ σ l = some (.val a, σ1)) (h2 : (ev C G n).e sc ρ σ1 r = some (.val b, σ2)) (h3 : binD op a b = some d) :
    (ev C G (n + 1)).e sc ρ σ (.BinOp l op r pos) = some (.val d, σ2) := by
  show binE (ev C G n) sc ρ σ l op r = _
  exact bV_is h1 (bV_is h2 (b1_is h3 rfl))
theorem seq_is {f : List D → D} {y : Option (List R × Sto)} {rs : List R} {ds : List D} (h1 : y = some (rs, σ1)) (h2 : vals rs = some ds) (h3 : ds.length ≤ bnd) : seqE f y = some (.val (f ds), σ1) :=
  b2_is h1 (b1_is h2 (gd_is (decide_eq_true h3) rfl))
theorem e_tuple {es : List Expr} {k : Nat} {pos : Pos} {rs : List R} {ds : List D} (h1 : evals (ev C G n) sc ρ σ es = some (rs, σ1)) (h2 : vals rs = some ds) (h3 : ds.length ≤ bnd) : (ev C G (n + 1)).e sc ρ σ (.Tuple es k pos) = some (.val (.tup ds), σ1) :=
  seq_is (f := .tup) h1 h2 h3
theorem e_list {es : List Expr} {pos : Pos} {rs : List R} {ds : List D} (h1 : evals (ev C G n) sc ρ σ es = some (rs, σ1)) (h2 : vals rs = some ds) (h3 : ds.length ≤ bnd) : (ev C G (n + 1)).e sc ρ σ (.List es pos) = some (.val (.lst ds), σ1) :=
  seq_is (f := .lst) h1 h2 h3
theorem e_ifexp {t a b : Expr} {pos : Pos} {x : Bool} {o : Option (R × Sto)} (h1 : (ev C G n).t sc ρ σ t = some (x, σ1)) (h2 : (ev C G n).e sc ρ σ1 (if x then a else b) = o) : (ev C G (n + 1)).e sc ρ σ (.IfExp t a b pos) = o := by
  show ifE (ev C G n) sc ρ σ t a b = o
  exact b2_is h1 h2
theorem cmp1_is {l r : Expr} {op : CmpOp} {a b : R} {x : Bool} (hm : behindInMarks op r = false) (h1 : v.e sc ρ σ l = some (a, σ1)) (h2 : v.e sc ρ σ1 r = some (b, σ2)) (h3 : cmpR σ2 op a b = some x) : cmp1 v sc ρ σ l op r = some (x, σ2) :=
  gd_is (by rw [hm]; rfl) (b2_is h1 (b2_is h2 (b1_is h3 rfl)))
theorem e_cmp {l r : Expr} {op : CmpOp} {pos : Pos} {a b : R} {x : Bool} (hm : behindInMarks op r = false) (h1 : (ev C G n).e sc ρ σ l = some (a, σ1)) (h2 : (ev C G n).e sc ρ σ1 r = some (b, σ2)) (h3 : cmpR σ2 op a b = some x) :
    (ev C G (n + 1)).e sc ρ σ (.Compare l [op] [r] pos) = some (.val (.bool x), σ2) := by
  show (b2 (cmp1 (ev C G n) sc ρ σ l op r) fun x σ2 => some (R.val (.bool x), σ2)) = _
  exact b2_is (cmp1_is hm h1 h2 h3) rfl
theorem t_cmp {l r : Expr} {op : CmpOp} {pos : Pos} {a b : R} {x : Bool} (hm : behindInMarks op r = false) (h1 : (ev C G n).e sc ρ σ l = some (a, σ1)) (h2 : (ev C G n).e sc ρ σ1 r = some (b, σ2)) (h3 : cmpR σ2 op a b = some x) :
    (ev C G (n + 1)).t sc ρ σ (.Compare l [op] [r] pos) = some (x, σ2) := by
  show cmp1 (ev C G n) sc ρ σ l op r = _
  exact cmp1_is hm h1 h2 h3
noncomputable def isSlc (e : Expr) : Bool := (asS e).isSome
theorem e_sub {b i : Expr} {pos : Pos} {x k : R} {d : D} (hi : isSlc i = false) (h1 : (ev C G n).e sc ρ σ b = some (x, σ1)) (h2 : (ev C G n).e sc ρ σ1 i = some (k, σ2)) (h3 : idxR σ2 x k = some d) :
    (ev C G (n + 1)).e sc ρ σ (.Subscript b i pos) = some (.val d, σ2) := by
  show subE (ev C G n) sc ρ σ b i = _
  unfold isSlc at hi
  unfold subE
  cases hs : asS i with
  | some q => rw [hs] at hi; cases hi
  | none => exact b2_is h1 (b2_is h2 (b1_is h3 rfl))
theorem e_comp {elt tgt it : Expr} {ifs : List Expr} {scope : Scope} {pos : Pos} {r : R} {ds ys : List D} (hs : (okScope sc scope && notSet it) = true) (h1 : (ev C G n).e sc ρ σ it = some (r, σ1)) (h2 : itemsOf r = some ds)
    (h3 : compRun (ev C G n) (compNames sc scope) tgt elt ifs (compLoc (compNames sc scope) ρ) ds σ1 [] = some (ys, σ2)) : (ev C G (n + 1)).e sc ρ σ (.ListComp elt [⟨tgt, it, ifs, 0⟩] scope pos) = some (.val (.lst ys), σ2) := by
  show compE (ev C G n) sc ρ σ elt ⟨tgt, it, ifs, 0⟩ scope = _
  exact gd_is (by show (okScope sc scope && notSet it && true) = true; rw [hs]; rfl) (b2_is h1 (b1_is h2 (b2_is h3 rfl)))
theorem t_not {x : Expr} {pos : Pos} {b : Bool} (h1 : (ev C G n).t sc ρ σ x = some (b, σ1)) : (ev C G (n + 1)).t sc ρ σ (.UnaryOp .Not x pos) = some (!b, σ1) := by
  show (b2 ((ev C G n).t sc ρ σ x) fun b σ1 => some (!b, σ1)) = _
  exact b2_is h1 rfl
theorem t_call {f : Expr} {as : List Expr} {ks : List Keyword} {pos : Pos} {b : Bool} (h1 : (ev C G n).e sc ρ σ (.Call f as ks pos) = some (.val (.bool b), σ1)) : (ev C G (n + 1)).t sc ρ σ (.Call f as ks pos) = some (b, σ1) := by
  show boolT ((ev C G n).e sc ρ σ (.Call f as ks pos)) = _
  rw [h1]; rfl
theorem t_and2 {a b : Expr} {pos : Pos} {o : Option (Bool × Sto)} (h1 : (ev C G n).t sc ρ σ a = some (true, σ1)) (h2 : (ev C G n).t sc ρ σ1 b = o) : (ev C G (n + 1)).t sc ρ σ (.BoolOp .And [a, b] pos) = o := by
  show and2T (ev C G n) sc ρ σ a b = _
  exact b2_is h1 h2
theorem t_and2f {a b : Expr} {pos : Pos} (h1 : (ev C G n).t sc ρ σ a = some (false, σ1)) : (ev C G (n + 1)).t sc ρ σ (.BoolOp .And [a, b] pos) = some (false, σ1) := by
  show and2T (ev C G n) sc ρ σ a b = _
  exact b2_is h1 rfl

variable {mu : List (Str × Nat)} {bud W : Nat} {rec : Loc → Sto → List Stmt → Out}
theorem s_ret {e : Expr} {pos : Pos} {d : D} (h1 : v.e sc ρ σ e = some (.val d, σ1)) : stepS mu bud W v rec sc ρ σ (.Return (some e) pos) = some (.ret (.val d) (newL e), ρ, σ1) := by
  show retS v sc ρ σ e = _
  exact b2_is h1 rfl
theorem s_if {t : Expr} {a b : List Stmt} {pos : Pos} {x : Bool} {o : Out} (h1 : v.t sc ρ σ t = some (x, σ1)) (h2 : rec ρ σ1 (if x then a else b) = o) : stepS mu bud W v rec sc ρ σ (.If t a b pos) = o := by
  show ifS v rec sc ρ σ t a b = _
  exact b2_is h1 h2
theorem s_assign {x : Str} {np pos : Pos} {e : Expr} {d : D} (hc : compOk sc x np ρ e = true) (ht : truncOf x e = none) (h1 : v.e sc ρ σ e = some (.val d, σ1)) (h2 : assignName mu bud sc ρ σ1 x d (newL e) = some (ρ2, σ2)) :
    stepS mu bud W v rec sc ρ σ (.Assign [.Name x np] e pos) = some (.next, ρ2, σ2) := by
  show nmS mu bud v sc ρ σ x np e = _
  refine gd_is hc ?_
  rw [ht]
  exact bV_is h1 (b2_is h2 rfl)
theorem s_for {x : Str} {xp pos : Pos} {it : Expr} {body : List Stmt} {r : R} {ds : List D} {o : Out} (hn : notSet it = true) (h1 : v.e sc ρ σ it = some (r, σ1)) (h2 : itemsOf r = some ds) (hx : (isLocal sc x && (mu.lookup x).isNone) = true)
    (h3 : forRun rec x body ds ρ σ1 = o) : stepS mu bud W v rec sc ρ σ (.For (.Name x xp) it body [] pos) = o := by
  show gd (notSet it) _ = _
  exact gd_is hn (b2_is h1 (b1_is h2 (gd_is hx h3)))
theorem xs_nil : xs C G mu bud W sc (n + 1) ρ σ [] = some (.next, ρ, σ) := rfl
theorem xs_cons {s : Stmt} {rest : List Stmt} {o : Out} (h1 : stepS mu bud W (ev C G n) (xs C G mu bud W sc n) sc ρ σ s = some (.next, ρ1, σ1)) (h2 : xs C G mu bud W sc n ρ1 σ1 rest = o) : xs C G mu bud W sc (n + 1) ρ σ (s :: rest) = o := by
  simp only [xs, h1, h2]
theorem xs_ret {s : Stmt} {rest : List Stmt} {r : R} {fr : Bool} (h1 : stepS mu bud W (ev C G n) (xs C G mu bud W sc n) sc ρ σ s = some (.ret r fr, ρ1, σ1)) : xs C G mu bud W sc (n + 1) ρ σ (s :: rest) = some (.ret r fr, ρ1, σ1) := by
  simp only [xs, h1]

theorem for_nil {x : Str} {body : List Stmt} : forRun rec x body [] ρ σ = some (.next, ρ, σ) := rfl
theorem for_cons {x : Str} {body : List Stmt} {d : D} {ds : List D} {o : Out} (h1 : rec (setL x (.val d) ρ) σ body = some (.next, ρ1, σ1)) (h2 : forRun rec x body ds (restr ρ ρ1) σ1 = o) : forRun rec x body (d :: ds) ρ σ = o := by
  simp only [forRun, h1, h2]

theorem comp_map {α : Type} {sc' : Names} {tgt elt : Expr} (f F : α → D) {ks : List α} {acc : List D} (h : ∀ k ∈ ks, ∃ ρ1, bindTgt sc' ρ tgt (f k) = some ρ1 ∧ v.e sc' ρ1 σ elt = some (.val (F k), σ)) :
    compRun v sc' tgt elt [] ρ (ks.map f) σ acc = some (acc ++ ks.map F, σ) := by
  induction ks generalizing acc with
  | nil => simp [compRun]
  | cons d ds ih =>
    obtain ⟨ρ1, h1, h2⟩ := h d (.head _)
    simp only [List.map_cons, compRun, h1, h2, testsRun]
    rw [ih fun d' hd => h d' (.tail _ hd)]
    simp
theorem comp_filter {α : Type} {sc' : Names} {tgt elt c : Expr} (f : α → D) (p : α → Bool) {ks : List α} {acc : List D} (h : ∀ k ∈ ks, ∃ ρ1, bindTgt sc' ρ tgt (f k) = some ρ1 ∧ v.t sc' ρ1 σ c = some (p k, σ) ∧ v.e sc' ρ1 σ elt = some (.val (f k), σ)) :
    compRun v sc' tgt elt [c] ρ (ks.map f) σ acc = some (acc ++ (ks.filter p).map f, σ) := by
  induction ks generalizing acc with
  | nil => simp [compRun]
  | cons d ds ih =>
    obtain ⟨ρ1, h1, h2, h3⟩ := h d (.head _)
    have ih' := fun acc => ih (acc := acc) fun d' hd => h d' (.tail _ hd)
    simp only [List.map_cons, compRun, h1, testsRun, h2]
    cases hp : p d with
    | true => simp only [h3, ih', List.filter_cons, hp]; simp
    | false => simp only [ih', List.filter_cons, hp]; simp
end
end Mine

namespace Mine
open PySem

inductive At where
  | a | x | i3 | txt | tru | nth | vs | vp | y | z | w | xs | none
  deriving DecidableEq
inductive Hd where
  | call | tuple | vect | block | quote | dol | dots
  deriving DecidableEq
inductive T where
  | atom (a : At)
  | ex (h : Hd) (ks : List T)

noncomputable def sy (s : Str) : D := .tup [.str "sym", .str s]
noncomputable def atD : At → D
  | .a => sy "a"
  | .x => sy "x"
  | .i3 => .tup [.str "int", .int 3]
  | .txt => .tup [.str "text", .bytes #[116]]
  | .tru => .tup [.str "bool", .bool true]
  | .nth => .tup [.str "nothing"]
  | .vs => .tup [.str "value", sy "s"]
  | .vp => .tup [.str "value", .tup [.str "builtin", .str "print"]]
  | .y => sy "y"
  | .z => sy "z"
  | .w => sy "w"
  | .xs => sy "xs"
  | .none => sy "none"
noncomputable def hdS : Hd → Str
  | .call => "call"
  | .tuple => "tuple"
  | .vect => "vect"
  | .block => "block"
  | .quote => "quote"
  | .dol => "$"
  | .dots => "..."
noncomputable def exD (h : Str) (ks : List D) : D := .tup [.str "expr", .str h, .tup ks]
noncomputable def treeV (d : D) : D := .tup [.str "tree", d]
noncomputable def valT (d : D) : D := .tup [.str "value", d]

mutual
noncomputable def toD : T → D
  | .atom a => atD a
  | .ex h ks => exD (hdS h) (toDs ks)
noncomputable def toDs : List T → List D
  | [] => []
  | k :: ks => toD k :: toDs ks
end

noncomputable def below (h : Hd) (d : Nat) : Nat := match h with
  | .quote => d + 1
  | .dol => d - 1
  | _ => d

mutual
noncomputable def live : T → Nat → Bool
  | .atom _, _ => false
  | .ex h ks, d => if h = .dol ∧ d = 1 then true else lives ks (below h d)
noncomputable def lives : List T → Nat → Bool
  | [], _ => false
  | k :: ks, d => live k d || lives ks d
end

/-- what a name stands for, as a value -/
noncomputable def held : At → D
  | .x => .tup [.str "int", .str "Int64", .int 5]
  | .y => sy "q"
  | .z => treeV (exD "call" [sy "g", .tup [.str "int", .int 1]])
  | .w => .tup [.str "builtin", .str "throw"]
  | .xs => .tup [.str "tuple", .tup [.tup [.str "int", .str "Int64", .int 7], sy "r"]]
  | .none => .tup [.str "tuple", .tup []]
  | _ => .none
noncomputable def isHeld : At → Bool
  | .x => true
  | .y => true
  | .z => true
  | .w => true
  | .xs => true
  | .none => true
  | _ => false
/-- and as a tree -/
noncomputable def heldT : At → D
  | .x => .tup [.str "int", .int 5]
  | .y => sy "q"
  | .z => exD "call" [sy "g", .tup [.str "int", .int 1]]
  | .w => valT (.tup [.str "builtin", .str "throw"])
  | .xs => valT (held .xs)
  | .none => valT (held .none)
  | _ => .none

noncomputable def putIn : List T → List D
  | [.atom a] => [heldT a]
  | [.ex .dots [.atom .xs]] => [.tup [.str "int", .int 7], sy "r"]
  | _ => []
mutual
noncomputable def put : T → Nat → List D
  | .atom a, _ => [atD a]
  | .ex h ks, d => if h = .dol ∧ d = 1 then putIn ks else [exD (hdS h) (puts ks (below h d))]
noncomputable def puts : List T → Nat → List D
  | [], _ => []
  | k :: ks, d => put k d ++ puts ks d
end

noncomputable def letIn : List T → Bool
  | [.atom a] => isHeld a
  | [.ex .dots [.atom a]] => isHeld a
  | _ => false
mutual
noncomputable def isLet : T → Nat → Bool
  | .atom _, _ => true
  | .ex h ks, d => if h = .dol ∧ d = 1 then letIn ks else isLets ks (below h d)
noncomputable def isLets : List T → Nat → Bool
  | [], _ => true
  | k :: ks, d => isLet k d && isLets ks d
end

noncomputable def isSym : At → Bool
  | .i3 => false
  | .txt => false
  | .tru => false
  | .nth => false
  | .vs => false
  | .vp => false
  | _ => true
noncomputable def isVal : At → Bool
  | .vs => true
  | .vp => true
  | _ => false
noncomputable def plainM : T → D
  | .atom a => if isSym a then valT (atD a) else atD a
  | .ex h ks => valT (treeV (toD (.ex h ks)))
noncomputable def partM : T → D
  | .atom a => if isVal a then valT (treeV (atD a)) else plainM (.atom a)
  | .ex h ks => plainM (.ex h ks)
noncomputable def makerD : D := valT (.tup [.str "builtin", .str "make_expr"])

noncomputable def mkIn : List T → D
  | [k] => toD k
  | _ => .none
mutual
noncomputable def mk : T → Nat → D
  | .atom a, _ => atD a
  | .ex h ks, d => if h = .dol ∧ d = 1 then mkIn ks else if lives ks (below h d) then exD "call" (makerD :: valT (sy (hdS h)) :: mks ks (below h d)) else toD (.ex h ks)
noncomputable def mks : List T → Nat → List D
  | [], _ => []
  | k :: ks, d => (if live k d then mk k d else partM k) :: mks ks d
end

/-- the trees that the law makes -/
inductive W : Nat → T → Prop where
  | atom {h : Nat} (a : At) : W h (.atom a)
  | dsym {h : Nat} (a : At) : W h (.ex .dol [.atom a])
  | dspl {h : Nat} (a : At) (ha : a = .xs ∨ a = .none) : W h (.ex .dol [.ex .dots [.atom a]])
  | ddol {h : Nat} (a : At) : W h (.ex .dol [.ex .dol [.atom a]])
  | quo {h : Nat} {t : T} (q : W h t) : W (h + 1) (.ex .quote [t])
  | node {h : Nat} {hd : Hd} {ks : List T} (hh : hd = .call ∨ hd = .tuple ∨ hd = .vect ∨ hd = .block) (hk : ks.length ≤ 3) (q : ∀ k ∈ ks, W h k) : W (h + 1) (.ex hd ks)

noncomputable abbrev dI (d : Nat) : R := .val (.int d)

end Mine

namespace Mine
open PySem

noncomputable def nth (l : List Stmt) (i : Nat) : Stmt := l.getD i (.Pass default)
noncomputable def forB : Stmt → List Stmt
  | .For _ _ b _ _ => b
  | .While _ b _ _ => b
  | _ => []

theorem toDs_map : ∀ ks : List T, toDs ks = ks.map toD
  | [] => rfl
  | k :: ks => by rw [toDs, toDs_map ks]; rfl

theorem callN_succ {n : Nat} {f : Str} {as : List R} {σ : Sto} {F : Fn} (hf : fnOf f = some F) (hr : (f == "_law_refused") = false) : callN (n + 1) f as σ = callF (callN n) glo F (muOf f) (f == "_law_box") as σ := by
  simp only [callN, hf, hr]
  rfl

/-! `_law_put` -/
theorem put_atom (n : Nat) (σ : Sto) (k : Nat) (a : At) : callN (n + 5) "_law_put" [.val (toD (.atom a)), dI k] σ = some (.val (.lst (put (.atom a) k)), σ) := by cases a <;> kernel_rfl
theorem put_dsym1 (n : Nat) (σ : Sto) (a : At) (ha : isHeld a = true) : callN (n + 5) "_law_put" [.val (toD (.ex .dol [.atom a])), dI 1] σ = some (.val (.lst (put (.ex .dol [.atom a]) 1)), σ) := by cases a <;> first | (cases ha; done) | kernel_rfl
theorem put_dsym2 (n : Nat) (σ : Sto) (k : Nat) (a : At) : callN (n + 5) "_law_put" [.val (toD (.ex .dol [.atom a])), dI (k + 2)] σ = some (.val (.lst (put (.ex .dol [.atom a]) (k + 2))), σ) := by cases a <;> kernel_rfl
theorem put_dspl1 (n : Nat) (σ : Sto) (a : At) (ha : a = .xs ∨ a = .none) : callN (n + 5) "_law_put" [.val (toD (.ex .dol [.ex .dots [.atom a]])), dI 1] σ = some (.val (.lst (put (.ex .dol [.ex .dots [.atom a]]) 1)), σ) := by rcases ha with rfl | rfl <;> kernel_rfl
theorem put_dspl2 (n : Nat) (σ : Sto) (k : Nat) (a : At) (ha : a = .xs ∨ a = .none) : callN (n + 5) "_law_put" [.val (toD (.ex .dol [.ex .dots [.atom a]])), dI (k + 2)] σ = some (.val (.lst (put (.ex .dol [.ex .dots [.atom a]]) (k + 2))), σ) := by rcases ha with rfl | rfl <;> kernel_rfl
noncomputable def ρput (t b d : D) (acc : List D) : Loc := [("tree", .val t), ("depth", .val d), ("below", .val b), ("found", .val (.lst acc))]
noncomputable def putFor : Stmt := nth (fnD "_law_put").body 4

theorem put_loop (C : Orc) (n : Nat) (σ : Sto) (t d b : D) (P : T → List D) : ∀ (ks : List T) (acc : List D), (∀ x ∈ ks, C "_law_put" [.val (toD x), .val b] σ = some (.val (.lst (P x)), σ)) → acc.length + (ks.flatMap P).length ≤ bnd →
    forRun (xs C glo [] 900 1000 (fnD "_law_put").names (n + 8)) "part" (forB putFor) (ks.map toD) (ρput t b d acc) σ = some (.next, ρput t b d (acc ++ ks.flatMap P), σ)
  | [], acc, _, _ => by simp [forRun]
  | x :: ks, acc, h, hb => by
    have h1 := h x (.head _)
    rw [List.flatMap_cons, List.length_append] at hb
    refine for_cons (ρ1 := setL "found" (.val (.lst (acc ++ P x))) (setL "part" (.val (toD x)) (ρput t b d acc))) (σ1 := σ) ?_ ?_
    · refine xs_cons (s_assign rfl rfl (e_bin (a := .lst acc) (b := .lst (P x)) rfl (e_call (rs := [.val (toD x), .val b]) rfl h1 rfl rfl) (if_pos (by omega))) rfl) rfl
    · have := put_loop C n σ t d b P ks (acc ++ P x) (fun y hy => h y (.tail _ hy)) (by rw [List.length_append]; omega)
      rw [List.flatMap_cons, ← List.append_assoc]
      exact this

theorem callF_ret {C : Orc} {G : Str → Option D} {F : Fn} {as : List R} {σ σ' : Sto} {ρ' : Loc} {r : R} {fr : Bool} (hl : as.length = F.params.length) (h : xs C G [] 900 1000 F.names 60 (F.params.zip as) σ F.body = some (.ret r fr, ρ', σ')) :
    callF C G F [] false as σ = some (r, σ') := by
  unfold callF
  rw [if_pos hl]
  simp only [List.isEmpty_nil, if_true, h]
  rfl


theorem put_ex (C : Orc) (σ : Sto) (h : Hd) (hh : h ≠ .dol) (ks : List T) (d b : Int) (P : T → List D) (hb : b = if h = .quote then d + 1 else d) (hk : ∀ x ∈ ks, C "_law_put" [.val (toD x), .val (.int b)] σ = some (.val (.lst (P x)), σ)) (hn : (ks.flatMap P).length ≤ bnd) :
    callF C glo (fnD "_law_put") [] false [.val (exD (hdS h) (ks.map toD)), .val (.int d)] σ = some (.val (.lst [exD (hdS h) (ks.flatMap P)]), σ) := by
  subst hb
  cases h
  all_goals first
    | exact absurd rfl hh
    | exact callF_ret rfl (xs_cons rfl (xs_cons rfl (xs_cons rfl (xs_cons rfl (xs_cons (s_for rfl rfl rfl rfl (put_loop C 47 σ _ _ _ P ks [] hk (by simpa using hn))) (xs_ret rfl))))))
theorem put_dol (C : Orc) (σ : Sto) (ks : List T) (k : Nat) (P : T → List D) (hk : ∀ x ∈ ks, C "_law_put" [.val (toD x), .val (.int (k + 1 : Nat))] σ = some (.val (.lst (P x)), σ)) (hn : (ks.flatMap P).length ≤ bnd) :
    callF C glo (fnD "_law_put") [] false [.val (exD (hdS .dol) (ks.map toD)), .val (.int (k + 2 : Nat))] σ = some (.val (.lst [exD (hdS .dol) (ks.flatMap P)]), σ) := by
  have e : ((k + 1 : Nat) : Int) = ((k + 2 : Nat) : Int) - 1 := by omega
  rw [e] at hk
  exact callF_ret rfl (xs_cons rfl (xs_cons rfl (xs_cons rfl (xs_cons rfl (xs_cons (s_for rfl rfl rfl rfl (put_loop C 47 σ _ _ _ P ks [] hk (by simpa using hn))) (xs_ret rfl))))))

theorem puts_flat (d : Nat) : ∀ ks : List T, puts ks d = ks.flatMap (put · d)
  | [] => rfl
  | k :: ks => by rw [puts, puts_flat d ks]; rfl
theorem putIn_len (ks : List T) : (putIn ks).length ≤ 2 := by
  unfold putIn
  split <;> simp
theorem put_len (t : T) (d : Nat) : (put t d).length ≤ 2 := by
  cases t with
  | atom a => simp [put]
  | ex h ks =>
    unfold put
    split
    · exact putIn_len ks
    · simp
theorem flat_len {ks : List T} (f : T → List D) (hf : ∀ k, (f k).length ≤ 2) (hk : ks.length ≤ 3) : (ks.flatMap f).length ≤ 6 := by
  have : ∀ l : List T, (l.flatMap f).length ≤ 2 * l.length := by
    intro l
    induction l with
    | nil => simp
    | cons x l ih => rw [List.flatMap_cons, List.length_append, List.length_cons]; have := hf x; omega
  have := this ks
  omega

theorem isLets_all (d : Nat) : ∀ ks : List T, isLets ks d = ks.all (isLet · d)
  | [] => rfl
  | k :: ks => by rw [isLets, isLets_all d ks]; rfl
theorem lives_any (d : Nat) : ∀ ks : List T, lives ks d = ks.any (live · d)
  | [] => rfl
  | k :: ks => by rw [lives, lives_any d ks]; rfl

theorem put_W {h : Nat} {t : T} (q : W h t) : ∀ (m d : Nat) (σ : Sto), 1 ≤ d → isLet t d = true → callN (m + h + 6) "_law_put" [.val (toD t), dI d] σ = some (.val (.lst (put t d)), σ) := by
  induction q with
  | @atom h a => intro m d σ _ _; exact put_atom (m + h + 1) σ d a
  | @dsym h a =>
    intro m d σ hd hl
    match d, hd with
    | 1, _ => exact put_dsym1 (m + h + 1) σ a hl
    | k + 2, _ => exact put_dsym2 (m + h + 1) σ k a
  | @dspl h a ha =>
    intro m d σ hd hl
    match d, hd with
    | 1, _ => exact put_dspl1 (m + h + 1) σ a ha
    | k + 2, _ => exact put_dspl2 (m + h + 1) σ k a ha
  | @ddol h a =>
    intro m d σ hd hl
    match d, hd with
    | 1, _ => exact absurd hl (by simp [isLet, letIn])
    | k + 2, _ =>
      rw [callN_succ (F := fnD "_law_put") rfl rfl]
      have hl' : isLet (.ex .dol [.atom a]) (k + 1) = true := by
        simpa [isLet, isLets, below] using hl
      have hk : ∀ x ∈ [T.ex .dol [.atom a]], callN (m + h + 5) "_law_put" [.val (toD x), .val (.int (k + 1 : Nat))] σ = some (.val (.lst (put x (k + 1))), σ) := by
        intro x hx
        rw [List.mem_singleton] at hx; subst hx
        match k with
        | 0 => exact put_dsym1 (m + h) σ a hl'
        | k + 1 => exact put_dsym2 (m + h) σ k a
      have hP := put_dol (callN (m + h + 5)) σ [.ex .dol [.atom a]] k (put · (k + 1)) hk (Nat.le_trans (flat_len _ (fun k' => put_len k' _) (by simp)) (by decide))
      refine hP.trans ?_
      have : put (.ex .dol [.ex .dol [.atom a]]) (k + 2) = [exD (hdS .dol) ([T.ex .dol [.atom a]].flatMap (put · (k + 1)))] := by
        rw [put, if_neg (by omega), puts_flat]; rfl
      rw [this]
  | @quo h t q ih =>
    intro m d σ hd hl
    rw [show m + (h + 1) + 6 = (m + h + 6) + 1 by omega, callN_succ (F := fnD "_law_put") rfl rfl]
    have hl' : isLet t (d + 1) = true := by
      simpa [isLet, isLets, below] using hl
    have hP := put_ex (callN (m + h + 6)) σ .quote (by decide) [t] d (d + 1) (put · (d + 1)) rfl (fun x hx => by
      rw [List.mem_singleton] at hx; subst hx
      exact ih m (d + 1) σ (by omega) hl') (Nat.le_trans (flat_len _ (fun k' => put_len k' _) (by simp)) (by decide))
    refine hP.trans ?_
    have : put (.ex .quote [t]) d = [exD (hdS .quote) ([t].flatMap (put · (d + 1)))] := by
      rw [put, if_neg (by simp), puts_flat]; rfl
    rw [this]
  | @node h hd ks hh hk q ih =>
    intro m d σ hd' hl
    have hnd : hd ≠ .dol := by rintro rfl; simp at hh
    have hnq : hd ≠ .quote := by rintro rfl; simp at hh
    have hbl : below hd d = d := by rcases hh with rfl | rfl | rfl | rfl <;> rfl
    rw [show m + (h + 1) + 6 = (m + h + 6) + 1 by omega, callN_succ (F := fnD "_law_put") rfl rfl]
    have hl' : ∀ k ∈ ks, isLet k d = true := by
      rw [isLet, if_neg (fun e => hnd e.1), isLets_all, List.all_eq_true, hbl] at hl
      exact hl
    have hP := put_ex (callN (m + h + 6)) σ hd hnd ks d d (put · d) (by rw [if_neg hnq]) (fun x hx => ih x hx m d σ hd' (hl' x hx)) (Nat.le_trans (flat_len _ (fun k' => put_len k' _) hk) (by decide))
    have e1 : toD (.ex hd ks) = exD (hdS hd) (ks.map toD) := by rw [toD, toDs_map]
    rw [e1]
    refine hP.trans ?_
    have : put (.ex hd ks) d = [exD (hdS hd) (ks.flatMap (put · d))] := by
      rw [put, if_neg (fun e => hnd e.1), puts_flat, hbl]
    rw [this]
end Mine

namespace Mine
open PySem

theorem dep_atD (a : At) : depD (atD a) ≤ 3 := by cases a <;> decide +kernel
theorem depDs_le {l : List D} {n : Nat} (h : ∀ x ∈ l, depD x ≤ n) : depDs l ≤ n := by
  induction l with
  | nil => simp [depDs]
  | cons x l ih => rw [depDs]; exact Nat.max_le.mpr ⟨h x (.head _), ih fun y hy => h y (.tail _ hy)⟩
theorem dep_ex {h : Str} {ds : List D} {n : Nat} (hd : ∀ x ∈ ds, depD x ≤ n) : depD (exD h ds) ≤ n + 2 := by
  have := depDs_le hd
  simp only [exD, depD, depDs]
  omega
theorem dep_W {h : Nat} {t : T} (q : W h t) : depD (toD t) ≤ 2 * h + 7 := by
  induction q with
  | atom a => have := dep_atD a; simp only [toD]; omega
  | dsym a => have := dep_atD a; refine Nat.le_trans (dep_ex (n := 3) fun x hx => ?_) (by omega); simp [toDs, toD] at hx; subst hx; exact this
  | dspl a ha =>
    have := dep_atD a
    refine Nat.le_trans (dep_ex (n := 5) fun x hx => ?_) (by omega)
    simp only [toDs, toD, List.mem_singleton] at hx; subst hx
    refine dep_ex (n := 3) fun x hx => ?_
    simp [toDs, toD] at hx; subst hx; exact this
  | ddol a =>
    have := dep_atD a
    refine Nat.le_trans (dep_ex (n := 5) fun x hx => ?_) (by omega)
    simp only [toDs, toD, List.mem_singleton] at hx; subst hx
    refine dep_ex (n := 3) fun x hx => ?_
    simp [toDs, toD] at hx; subst hx; exact this
  | @quo h t q ih =>
    refine Nat.le_trans (dep_ex (n := 2 * h + 7) fun x hx => ?_) (by omega)
    simp only [toDs, List.mem_singleton] at hx; subst hx; exact ih
  | @node h hd ks hh hk q ih =>
    refine Nat.le_trans (dep_ex (n := 2 * h + 7) fun x hx => ?_) (by omega)
    rw [toDs_map] at hx
    obtain ⟨k, hk', rfl⟩ := List.mem_map.mp hx
    exact ih k hk'

theorem eqDl_nil (ys : List D) : eqDl ys [] = some ys.isEmpty := by cases ys <;> rfl
theorem cmp_ne_nil {σ : Sto} {ys : List D} (h : depD (.lst ys) ≤ bnd) : cmpR σ .NotEq (.val (.lst ys)) (.val (.lst [])) = some (!ys.isEmpty) := by
  simp only [cmpR, eqR, if_pos h, eqD, eqDl_nil]
theorem cmp_eq_nil {σ : Sto} {ys : List D} (h : depD (.lst ys) ≤ bnd) : cmpR σ .Eq (.val (.lst ys)) (.val (.lst [])) = some ys.isEmpty := by
  simp only [cmpR, eqR, if_pos h, eqD, eqDl_nil]

theorem dep_filter {ks : List T} {p : T → Bool} {n : Nat} (h : ∀ x ∈ ks, depD (toD x) ≤ n) (hn : n + 1 ≤ bnd) : depD (.lst ((ks.filter p).map toD)) ≤ bnd := by
  have : depDs ((ks.filter p).map toD) ≤ n := depDs_le fun x hx => by
    obtain ⟨k, hk, rfl⟩ := List.mem_map.mp hx
    exact h k (List.mem_filter.mp hk).1
  simp only [depD]
  omega
theorem filter_empty {ks : List T} (p : T → Bool) : (!((ks.filter p).map toD).isEmpty) = ks.any p := by
  induction ks with
  | nil => rfl
  | cons k ks ih =>
    rw [List.filter_cons]
    cases hp : p k <;> simp_all
theorem filter_empty' {ks : List T} (p : T → Bool) : ((ks.filter fun k => !p k).map toD).isEmpty = ks.all p := by
  induction ks with
  | nil => rfl
  | cons k ks ih =>
    rw [List.filter_cons]
    cases hp : p k <;> simp_all

/-! `_law_counts` -/
theorem cnt_atom (n : Nat) (σ : Sto) (k : Nat) (a : At) : callN (n + 5) "_law_counts" [.val (toD (.atom a)), dI k] σ = some (.val (.bool (live (.atom a) k)), σ) := by cases a <;> kernel_rfl
theorem cnt_dol1 (n : Nat) (σ : Sto) (ks : List T) : callN (n + 5) "_law_counts" [.val (toD (.ex .dol ks)), dI 1] σ = some (.val (.bool true), σ) := by kernel_rfl
theorem cnt_dsym2 (n : Nat) (σ : Sto) (k : Nat) (a : At) : callN (n + 5) "_law_counts" [.val (toD (.ex .dol [.atom a])), dI (k + 2)] σ = some (.val (.bool false), σ) := by cases a <;> kernel_rfl
theorem cnt_dspl2 (n : Nat) (σ : Sto) (k : Nat) (a : At) (ha : a = .xs ∨ a = .none) : callN (n + 5) "_law_counts" [.val (toD (.ex .dol [.ex .dots [.atom a]])), dI (k + 2)] σ = some (.val (.bool false), σ) := by rcases ha with rfl | rfl <;> kernel_rfl

theorem cnt_ex (C : Orc) (σ : Sto) (h : Hd) (hh : h ≠ .dol) (ks : List T) (d b : Int) (P : T → Bool) {n : Nat} (hd : ∀ x ∈ ks, depD (toD x) ≤ n) (hn : n + 1 ≤ bnd) (hb : b = if h = .quote then d + 1 else d) (hk : ∀ x ∈ ks, C "_law_counts" [.val (toD x), .val (.int b)] σ = some (.val (.bool (P x)), σ)) :
    callF C glo (fnD "_law_counts") [] false [.val (exD (hdS h) (ks.map toD)), .val (.int d)] σ = some (.val (.bool (ks.any P)), σ) := by
  subst hb
  rw [← filter_empty]
  cases h
  all_goals first
    | exact absurd rfl hh
    | exact callF_ret rfl (xs_cons rfl (xs_cons rfl (xs_cons rfl (xs_ret (s_ret (e_cmp rfl (e_comp rfl rfl rfl (comp_filter toD P fun x hx => ⟨_, rfl, t_call (e_call rfl (hk x hx) rfl rfl), rfl⟩)) rfl (cmp_ne_nil (dep_filter hd hn))))))))
theorem cnt_dol (C : Orc) (σ : Sto) (ks : List T) (k : Nat) (P : T → Bool) {n : Nat} (hd : ∀ x ∈ ks, depD (toD x) ≤ n) (hn : n + 1 ≤ bnd) (hk : ∀ x ∈ ks, C "_law_counts" [.val (toD x), .val (.int (k + 1 : Nat))] σ = some (.val (.bool (P x)), σ)) :
    callF C glo (fnD "_law_counts") [] false [.val (exD (hdS .dol) (ks.map toD)), .val (.int (k + 2 : Nat))] σ = some (.val (.bool (ks.any P)), σ) := by
  have e : ((k + 1 : Nat) : Int) = ((k + 2 : Nat) : Int) - 1 := by omega
  rw [e] at hk
  rw [← filter_empty]
  exact callF_ret rfl (xs_cons rfl (xs_cons rfl (xs_cons rfl (xs_ret (s_ret (e_cmp rfl (e_comp rfl rfl rfl (comp_filter toD P fun x hx => ⟨_, rfl, t_call (e_call rfl (hk x hx) rfl rfl), rfl⟩)) rfl (cmp_ne_nil (dep_filter hd hn))))))))

/-! `_law_is_let` -/
theorem let_atom (n : Nat) (σ : Sto) (k : Nat) (a : At) : callN (n + 5) "_law_is_let" [.val (toD (.atom a)), dI k] σ = some (.val (.bool (isLet (.atom a) k)), σ) := by cases a <;> kernel_rfl
theorem let_dsym1 (n : Nat) (σ : Sto) (a : At) : callN (n + 5) "_law_is_let" [.val (toD (.ex .dol [.atom a])), dI 1] σ = some (.val (.bool (isLet (.ex .dol [.atom a]) 1)), σ) := by cases a <;> kernel_rfl
theorem let_dspl1 (n : Nat) (σ : Sto) (a : At) (ha : a = .xs ∨ a = .none) : callN (n + 5) "_law_is_let" [.val (toD (.ex .dol [.ex .dots [.atom a]])), dI 1] σ = some (.val (.bool (isLet (.ex .dol [.ex .dots [.atom a]]) 1)), σ) := by rcases ha with rfl | rfl <;> kernel_rfl
theorem let_ddol1 (n : Nat) (σ : Sto) (a : At) : callN (n + 5) "_law_is_let" [.val (toD (.ex .dol [.ex .dol [.atom a]])), dI 1] σ = some (.val (.bool (isLet (.ex .dol [.ex .dol [.atom a]]) 1)), σ) := by cases a <;> kernel_rfl
theorem let_dsym2 (n : Nat) (σ : Sto) (k : Nat) (a : At) : callN (n + 5) "_law_is_let" [.val (toD (.ex .dol [.atom a])), dI (k + 2)] σ = some (.val (.bool true), σ) := by cases a <;> kernel_rfl
theorem let_dspl2 (n : Nat) (σ : Sto) (k : Nat) (a : At) (ha : a = .xs ∨ a = .none) : callN (n + 5) "_law_is_let" [.val (toD (.ex .dol [.ex .dots [.atom a]])), dI (k + 2)] σ = some (.val (.bool true), σ) := by rcases ha with rfl | rfl <;> kernel_rfl

theorem let_ex (C : Orc) (σ : Sto) (h : Hd) (hh : h ≠ .dol) (ks : List T) (d b : Int) (P : T → Bool) {n : Nat} (hd : ∀ x ∈ ks, depD (toD x) ≤ n) (hn : n + 1 ≤ bnd) (hb : b = if h = .quote then d + 1 else d) (hk : ∀ x ∈ ks, C "_law_is_let" [.val (toD x), .val (.int b)] σ = some (.val (.bool (P x)), σ)) :
    callF C glo (fnD "_law_is_let") [] false [.val (exD (hdS h) (ks.map toD)), .val (.int d)] σ = some (.val (.bool (ks.all P)), σ) := by
  subst hb
  rw [← filter_empty']
  cases h
  all_goals first
    | exact absurd rfl hh
    | exact callF_ret rfl (xs_cons rfl (xs_cons rfl (xs_cons rfl (xs_ret (s_ret (e_cmp rfl (e_comp rfl rfl rfl (comp_filter toD (fun x => !P x) fun x hx => ⟨_, rfl, t_not (t_call (e_call rfl (hk x hx) rfl rfl)), rfl⟩)) rfl (cmp_eq_nil (dep_filter hd hn))))))))
theorem let_dol (C : Orc) (σ : Sto) (ks : List T) (k : Nat) (P : T → Bool) {n : Nat} (hd : ∀ x ∈ ks, depD (toD x) ≤ n) (hn : n + 1 ≤ bnd) (hk : ∀ x ∈ ks, C "_law_is_let" [.val (toD x), .val (.int (k + 1 : Nat))] σ = some (.val (.bool (P x)), σ)) :
    callF C glo (fnD "_law_is_let") [] false [.val (exD (hdS .dol) (ks.map toD)), .val (.int (k + 2 : Nat))] σ = some (.val (.bool (ks.all P)), σ) := by
  have e : ((k + 1 : Nat) : Int) = ((k + 2 : Nat) : Int) - 1 := by omega
  rw [e] at hk
  rw [← filter_empty']
  exact callF_ret rfl (xs_cons rfl (xs_cons rfl (xs_cons rfl (xs_ret (s_ret (e_cmp rfl (e_comp rfl rfl rfl (comp_filter toD (fun x => !P x) fun x hx => ⟨_, rfl, t_not (t_call (e_call rfl (hk x hx) rfl rfl)), rfl⟩)) rfl (cmp_eq_nil (dep_filter hd hn))))))))
end Mine

namespace Mine
open PySem

theorem cnt_W {h : Nat} {t : T} (q : W h t) : ∀ (m d : Nat) (σ : Sto), h ≤ 400 → 1 ≤ d → callN (m + h + 6) "_law_counts" [.val (toD t), dI d] σ = some (.val (.bool (live t d)), σ) := by
  induction q with
  | @atom h a => intro m d σ _ _; exact cnt_atom (m + h + 1) σ d a
  | @dsym h a =>
    intro m d σ _ hd
    match d, hd with
    | 1, _ => exact cnt_dol1 (m + h + 1) σ _
    | k + 2, _ => exact cnt_dsym2 (m + h + 1) σ k a
  | @dspl h a ha =>
    intro m d σ _ hd
    match d, hd with
    | 1, _ => exact cnt_dol1 (m + h + 1) σ _
    | k + 2, _ => exact cnt_dspl2 (m + h + 1) σ k a ha
  | @ddol h a =>
    intro m d σ _ hd
    match d, hd with
    | 1, _ => exact cnt_dol1 (m + h + 1) σ _
    | k + 2, _ =>
      rw [callN_succ (F := fnD "_law_counts") rfl rfl]
      have hk : ∀ x ∈ [T.ex .dol [.atom a]], callN (m + h + 5) "_law_counts" [.val (toD x), .val (.int (k + 1 : Nat))] σ = some (.val (.bool (live x (k + 1))), σ) := by
        intro x hx
        rw [List.mem_singleton] at hx; subst hx
        match k with
        | 0 => exact cnt_dol1 (m + h) σ _
        | k + 1 => exact cnt_dsym2 (m + h) σ k a
      have hP := cnt_dol (callN (m + h + 5)) σ [.ex .dol [.atom a]] k (live · (k + 1)) (n := 7) (fun x hx => by
        rw [List.mem_singleton] at hx; subst hx; exact dep_W (h := 0) (.dsym a)) (by decide) hk
      refine hP.trans ?_
      have : live (.ex .dol [.ex .dol [.atom a]]) (k + 2) = [T.ex .dol [.atom a]].any (live · (k + 1)) := by
        rw [live, if_neg (by omega), lives_any]; rfl
      rw [this]
  | @quo h t q ih =>
    intro m d σ hh4 hd
    rw [show m + (h + 1) + 6 = (m + h + 6) + 1 by omega, callN_succ (F := fnD "_law_counts") rfl rfl]
    have hb := bnd_is
    have hP := cnt_ex (callN (m + h + 6)) σ .quote (by decide) [t] d (d + 1) (live · (d + 1)) (n := 2 * h + 7) (fun x hx => by
      rw [List.mem_singleton] at hx; subst hx; exact dep_W q) (by omega) rfl (fun x hx => by
      rw [List.mem_singleton] at hx; subst hx
      exact ih m (d + 1) σ (by omega) (by omega))
    refine hP.trans ?_
    have : live (.ex .quote [t]) d = [t].any (live · (d + 1)) := by
      rw [live, if_neg (by simp), lives_any]; rfl
    rw [this]
  | @node h hd ks hh hk q ih =>
    intro m d σ hh4 hd'
    have hb := bnd_is
    have hnd : hd ≠ .dol := by rintro rfl; simp at hh
    have hnq : hd ≠ .quote := by rintro rfl; simp at hh
    have hbl : below hd d = d := by rcases hh with rfl | rfl | rfl | rfl <;> rfl
    rw [show m + (h + 1) + 6 = (m + h + 6) + 1 by omega, callN_succ (F := fnD "_law_counts") rfl rfl]
    have hP := cnt_ex (callN (m + h + 6)) σ hd hnd ks d d (live · d) (n := 2 * h + 7) (fun x hx => dep_W (q x hx)) (by omega) (by rw [if_neg hnq]) (fun x hx => ih x hx m d σ (by omega) hd')
    have e1 : toD (.ex hd ks) = exD (hdS hd) (ks.map toD) := by rw [toD, toDs_map]
    rw [e1]
    refine hP.trans ?_
    have : live (.ex hd ks) d = ks.any (live · d) := by
      rw [live, if_neg (fun e => hnd e.1), lives_any, hbl]
    rw [this]

theorem let_W {h : Nat} {t : T} (q : W h t) : ∀ (m d : Nat) (σ : Sto), h ≤ 400 → 1 ≤ d → callN (m + h + 6) "_law_is_let" [.val (toD t), dI d] σ = some (.val (.bool (isLet t d)), σ) := by
  induction q with
  | @atom h a => intro m d σ _ _; exact let_atom (m + h + 1) σ d a
  | @dsym h a =>
    intro m d σ _ hd
    match d, hd with
    | 1, _ => exact let_dsym1 (m + h + 1) σ a
    | k + 2, _ => exact let_dsym2 (m + h + 1) σ k a
  | @dspl h a ha =>
    intro m d σ _ hd
    match d, hd with
    | 1, _ => exact let_dspl1 (m + h + 1) σ a ha
    | k + 2, _ => exact let_dspl2 (m + h + 1) σ k a ha
  | @ddol h a =>
    intro m d σ _ hd
    match d, hd with
    | 1, _ => exact let_ddol1 (m + h + 1) σ a
    | k + 2, _ =>
      rw [callN_succ (F := fnD "_law_is_let") rfl rfl]
      have hk : ∀ x ∈ [T.ex .dol [.atom a]], callN (m + h + 5) "_law_is_let" [.val (toD x), .val (.int (k + 1 : Nat))] σ = some (.val (.bool (isLet x (k + 1))), σ) := by
        intro x hx
        rw [List.mem_singleton] at hx; subst hx
        match k with
        | 0 => exact let_dsym1 (m + h) σ a
        | k + 1 => exact let_dsym2 (m + h) σ k a
      have hP := let_dol (callN (m + h + 5)) σ [.ex .dol [.atom a]] k (isLet · (k + 1)) (n := 7) (fun x hx => by
        rw [List.mem_singleton] at hx; subst hx; exact dep_W (h := 0) (.dsym a)) (by decide) hk
      refine hP.trans ?_
      have : isLet (.ex .dol [.ex .dol [.atom a]]) (k + 2) = [T.ex .dol [.atom a]].all (isLet · (k + 1)) := by
        rw [isLet, if_neg (by omega), isLets_all]; rfl
      rw [this]
  | @quo h t q ih =>
    intro m d σ hh4 hd
    rw [show m + (h + 1) + 6 = (m + h + 6) + 1 by omega, callN_succ (F := fnD "_law_is_let") rfl rfl]
    have hb := bnd_is
    have hP := let_ex (callN (m + h + 6)) σ .quote (by decide) [t] d (d + 1) (isLet · (d + 1)) (n := 2 * h + 7) (fun x hx => by
      rw [List.mem_singleton] at hx; subst hx; exact dep_W q) (by omega) rfl (fun x hx => by
      rw [List.mem_singleton] at hx; subst hx
      exact ih m (d + 1) σ (by omega) (by omega))
    refine hP.trans ?_
    have : isLet (.ex .quote [t]) d = [t].all (isLet · (d + 1)) := by
      rw [isLet, if_neg (by simp), isLets_all]; rfl
    rw [this]
  | @node h hd ks hh hk q ih =>
    intro m d σ hh4 hd'
    have hb := bnd_is
    have hnd : hd ≠ .dol := by rintro rfl; simp at hh
    have hnq : hd ≠ .quote := by rintro rfl; simp at hh
    have hbl : below hd d = d := by rcases hh with rfl | rfl | rfl | rfl <;> rfl
    rw [show m + (h + 1) + 6 = (m + h + 6) + 1 by omega, callN_succ (F := fnD "_law_is_let") rfl rfl]
    have hP := let_ex (callN (m + h + 6)) σ hd hnd ks d d (isLet · d) (n := 2 * h + 7) (fun x hx => dep_W (q x hx)) (by omega) (by rw [if_neg hnq]) (fun x hx => ih x hx m d σ (by omega) hd')
    have e1 : toD (.ex hd ks) = exD (hdS hd) (ks.map toD) := by rw [toD, toDs_map]
    rw [e1]
    refine hP.trans ?_
    have : isLet (.ex hd ks) d = ks.all (isLet · d) := by
      rw [isLet, if_neg (fun e => hnd e.1), isLets_all, hbl]
    rw [this]
end Mine

namespace Mine
open PySem

/-- what the law's tree_of_value answers -/
noncomputable def Tv (v tr : D) : Prop := ∀ n σ, callN (n + 3) "tree_of_value" [.val v] σ = some (.val tr, σ)
noncomputable def Vt (tr v : D) : Prop := ∀ n σ, callN (n + 3) "value_of_tree" [.val tr] σ = some (.val v, σ)

theorem tv_tree (x : D) : Tv (treeV x) x := fun n σ => by kernel_rfl
theorem tv_held (a : At) (h : isHeld a = true) : Tv (held a) (heldT a) := fun n σ => by cases a <;> first | (cases h; done) | kernel_rfl
theorem tv_seven : Tv (.tup [.str "int", .str "Int64", .int 7]) (.tup [.str "int", .int 7]) := fun n σ => by kernel_rfl
theorem tv_r : Tv (sy "r") (sy "r") := fun n σ => by kernel_rfl

/-- the value that a part without anything put in comes to -/
noncomputable def pv (a : At) : D := match a with
  | .i3 => .tup [.str "int", .str "Int64", .int 3]
  | .vs => treeV (atD .vs)
  | .vp => treeV (atD .vp)
  | a => atD a
theorem tv_pv (a : At) : Tv (pv a) (atD a) := fun n σ => by cases a <;> kernel_rfl

noncomputable def wkIn : List T → List (D × D)
  | [.atom a] => [(held a, heldT a)]
  | [.ex .dots [.atom .xs]] => [(.tup [.str "int", .str "Int64", .int 7], .tup [.str "int", .int 7]), (sy "r", sy "r")]
  | _ => []
/-- what a part's maker comes to: each value with its tree -/
noncomputable def wkp (t : T) (d : Nat) : List (D × D) := match t with
  | .atom a => [(pv a, atD a)]
  | .ex h ks => if live (.ex h ks) d then (if h = .dol ∧ d = 1 then wkIn ks else [(treeV (exD (hdS h) (puts ks (below h d))), exD (hdS h) (puts ks (below h d)))]) else [(treeV (toD (.ex h ks)), toD (.ex h ks))]
noncomputable def el (t : T) (d : Nat) : D := if live t d then mk t d else partM t

theorem expr_is (n : Nat) (σ : Sto) (h : Str) (xs : List D) : callN (n + 2) "expr" [.val (.str h), .val (.lst xs)] σ = some (.val (exD h xs), σ) := by kernel_rfl

theorem made (n : Nat) (σ : Sto) (h : Str) (ps : List (D × D)) (hp : ∀ p ∈ ps, Tv p.1 p.2) : callN (n + 5) "made_expr" [.val (.str h), .val (.lst (ps.map Prod.fst))] σ = some (.val (treeV (exD h (ps.map Prod.snd))), σ) := by
  rw [callN_succ (F := fnD "made_expr") rfl rfl]
  exact callF_ret rfl (xs_ret (s_ret (e_tuple (evals_cons rfl (evals_cons (e_call (evals_cons rfl (evals_cons (e_comp rfl rfl rfl (comp_map Prod.fst Prod.snd fun p hp' => ⟨_, rfl, e_call rfl (hp p hp' (n + 1) σ) rfl rfl⟩)) evals_nil rfl) rfl) (expr_is (n + 2) σ h _) rfl rfl) evals_nil rfl) rfl) rfl (by simp [bnd]))))

noncomputable def ρwk (t : D) (acc : List D) : Loc := [("tree", .val t), ("given", .val (.lst acc))]
noncomputable def wkFor : Stmt := nth (fnD "_law_worked").body 5

theorem wk_loop (C : Orc) (n : Nat) (σ : Sto) (t : D) (f : T → D) (P : T → List D) : ∀ (ks : List T) (acc : List D), (∀ x ∈ ks, C "_law_worked" [.val (f x)] σ = some (.val (.lst (P x)), σ)) → acc.length + (ks.flatMap P).length ≤ bnd →
    forRun (xs C glo [] 900 1000 (fnD "_law_worked").names (n + 8)) "part" (forB wkFor) (ks.map f) (ρwk t acc) σ = some (.next, ρwk t (acc ++ ks.flatMap P), σ)
  | [], acc, _, _ => by simp [forRun]
  | x :: ks, acc, h, hb => by
    have h1 := h x (.head _)
    rw [List.flatMap_cons, List.length_append] at hb
    refine for_cons (ρ1 := setL "given" (.val (.lst (acc ++ P x))) (setL "part" (.val (f x)) (ρwk t acc))) (σ1 := σ) ?_ ?_
    · refine xs_cons (s_assign rfl rfl (e_bin (a := .lst acc) (b := .lst (P x)) rfl (e_call (rs := [.val (f x)]) rfl h1 rfl rfl) (if_pos (by omega))) rfl) rfl
    · have := wk_loop C n σ t f P ks (acc ++ P x) (fun y hy => h y (.tail _ hy)) (by rw [List.length_append]; omega)
      rw [List.flatMap_cons, ← List.append_assoc]
      exact this

theorem wk_ex (n : Nat) (σ : Sto) (h : Hd) (ks : List T) (f : T → D) (P : T → List (D × D)) (h0 : callN (n + 6) "_law_worked" [.val (valT (sy (hdS h)))] σ = some (.val (.lst [sy (hdS h)]), σ))
    (hk : ∀ x ∈ ks, callN (n + 6) "_law_worked" [.val (f x)] σ = some (.val (.lst ((P x).map Prod.fst)), σ)) (hp : ∀ x ∈ ks, ∀ p ∈ P x, Tv p.1 p.2) (hn : 1 + (ks.flatMap P).length ≤ bnd) :
    callF (callN (n + 6)) glo (fnD "_law_worked") [] false [.val (exD "call" (makerD :: valT (sy (hdS h)) :: ks.map f))] σ = some (.val (.lst [treeV (exD (hdS h) ((ks.flatMap P).map Prod.snd))]), σ) := by
  have e : ks.flatMap (fun x => (P x).map Prod.fst) = (ks.flatMap P).map Prod.fst := by rw [List.map_flatMap]
  have hm := made (n + 1) σ (hdS h) (ks.flatMap P) fun p hp' => by
    obtain ⟨x, hx, hpx⟩ := List.mem_flatMap.mp hp'
    exact hp x hx p hpx
  have hl := wk_loop (callN (n + 6)) 46 σ (exD "call" (makerD :: valT (sy (hdS h)) :: ks.map f)) f (fun x => (P x).map Prod.fst) ks [sy (hdS h)] hk (by rw [e, List.length_map]; exact hn)
  rw [e] at hl
  refine callF_ret rfl (xs_cons rfl (xs_cons rfl (xs_cons rfl (xs_cons rfl (xs_cons rfl (xs_cons (ρ1 := ρwk (exD "call" (makerD :: valT (sy (hdS h)) :: ks.map f)) ([sy (hdS h)] ++ (ks.flatMap P).map Prod.fst)) (σ1 := σ) (s_for rfl rfl rfl rfl ?_) (xs_ret (s_ret (e_list (evals_cons (e_call (rs := [.val (.str (hdS h)), .val (.lst ((ks.flatMap P).map Prod.fst))]) rfl hm rfl rfl) evals_nil rfl) rfl (by simp [bnd]))))))))))
  refine for_cons (ρ1 := setL "given" (.val (.lst [sy (hdS h)])) (setL "part" (.val (valT (sy (hdS h)))) (ρwk _ []))) (σ1 := σ) ?_ hl
  exact xs_cons (s_assign rfl rfl (e_bin (a := .lst []) (b := .lst [sy (hdS h)]) rfl (e_call (rs := [.val (valT (sy (hdS h)))]) rfl h0 rfl rfl) rfl) rfl) rfl

theorem wk_sym0 (n : Nat) (σ : Sto) (h : Hd) : callN (n + 6) "_law_worked" [.val (valT (sy (hdS h)))] σ = some (.val (.lst [sy (hdS h)]), σ) := by cases h <;> kernel_rfl
theorem wk_part (n : Nat) (σ : Sto) (a : At) : callN (n + 6) "_law_worked" [.val (partM (.atom a))] σ = some (.val (.lst [pv a]), σ) := by cases a <;> kernel_rfl
theorem wk_plain (n : Nat) (σ : Sto) (x : D) : callN (n + 6) "_law_worked" [.val (valT (treeV x))] σ = some (.val (.lst [treeV x]), σ) := by kernel_rfl
theorem wk_held (n : Nat) (σ : Sto) (a : At) (h : isHeld a = true) : callN (n + 6) "_law_worked" [.val (atD a)] σ = some (.val (.lst [held a]), σ) := by cases a <;> first | (cases h; done) | kernel_rfl
theorem wk_dots (n : Nat) (σ : Sto) (a : At) (ha : a = .xs ∨ a = .none) : callN (n + 7) "_law_worked" [.val (toD (.ex .dots [.atom a]))] σ = some (.val (.lst ((wkIn [.ex .dots [.atom a]]).map Prod.fst)), σ) := by rcases ha with rfl | rfl <;> kernel_rfl

theorem wkIn_len (ks : List T) : (wkIn ks).length ≤ 2 := by unfold wkIn; split <;> simp
theorem wkp_len (t : T) (d : Nat) : (wkp t d).length ≤ 2 := by
  unfold wkp
  split
  · simp
  · split
    · split
      · exact wkIn_len _
      · simp
    · simp

theorem wkIn_snd {ks : List T} : (wkIn ks).map Prod.snd = putIn ks := by
  unfold wkIn putIn
  split
  · rfl
  · rfl
  · first | rfl | (split <;> simp_all)

/-- a plain tree is put in as it is -/
theorem put_plain : ∀ (t : T) (d : Nat), live t d = false → put t d = [toD t]
  | .atom a, d, _ => rfl
  | .ex h ks, d, hl => by
    unfold live at hl
    by_cases hc : h = .dol ∧ d = 1
    · rw [if_pos hc] at hl; cases hl
    · rw [if_neg hc] at hl
      rw [put, if_neg hc, puts_plain ks _ hl, toD]
where puts_plain : ∀ (ks : List T) (d : Nat), lives ks d = false → puts ks d = toDs ks
  | [], _, _ => rfl
  | k :: ks, d, hl => by
    unfold lives at hl
    rw [Bool.or_eq_false_iff] at hl
    rw [puts, put_plain k d hl.1, puts_plain ks d hl.2, toDs]; rfl

theorem wkp_snd (t : T) (d : Nat) : (wkp t d).map Prod.snd = put t d := by
  cases t with
  | atom a => rfl
  | ex h ks =>
    unfold wkp
    by_cases hl : live (.ex h ks) d = true
    · simp only [hl, if_true]
      by_cases hc : h = .dol ∧ d = 1
      · rw [if_pos hc, put, if_pos hc, wkIn_snd]
      · rw [if_neg hc, put, if_neg hc]; rfl
    · simp only [hl, if_false]
      rw [put_plain _ _ (by simpa using hl)]; rfl

theorem tv_in {ks : List T} (hl : letIn ks = true) : ∀ p ∈ wkIn ks, Tv p.1 p.2 := by
  intro p hp
  unfold wkIn at hp
  split at hp
  · rename_i a
    rw [List.mem_singleton] at hp; subst hp
    exact tv_held a hl
  · rcases List.mem_cons.mp hp with rfl | hp
    · exact tv_seven
    · rw [List.mem_singleton] at hp; subst hp; exact tv_r
  · cases hp
theorem wkp_tv (t : T) (d : Nat) (hl : isLet t d = true) : ∀ p ∈ wkp t d, Tv p.1 p.2 := by
  intro p hp
  cases t with
  | atom a => rw [wkp, List.mem_singleton] at hp; subst hp; exact tv_pv a
  | ex h ks =>
    unfold wkp at hp
    by_cases hl' : live (.ex h ks) d = true
    · simp only [hl', if_true] at hp
      by_cases hc : h = .dol ∧ d = 1
      · rw [if_pos hc] at hp
        rw [isLet, if_pos hc] at hl
        exact tv_in hl p hp
      · rw [if_neg hc, List.mem_singleton] at hp; subst hp; exact tv_tree _
    · dsimp only at hp; rw [if_neg hl', List.mem_singleton] at hp; subst hp; exact tv_tree _

theorem mks_map (d : Nat) : ∀ ks : List T, mks ks d = ks.map (el · d)
  | [] => rfl
  | k :: ks => by rw [mks, mks_map d ks]; rfl

theorem wk_node (n : Nat) (σ : Sto) (h : Hd) (ks : List T) (d : Nat) (hnl : ¬(h = .dol ∧ d = 1)) (hlv : live (.ex h ks) d = true) (hlen : ks.length ≤ 3) (hlet : isLet (.ex h ks) d = true)
    (hk : ∀ x ∈ ks, isLet x (below h d) = true → callN (n + 6) "_law_worked" [.val (el x (below h d))] σ = some (.val (.lst ((wkp x (below h d)).map Prod.fst)), σ)) :
    callN (n + 7) "_law_worked" [.val (el (.ex h ks) d)] σ = some (.val (.lst ((wkp (.ex h ks) d).map Prod.fst)), σ) := by
  have hle : ∀ x ∈ ks, isLet x (below h d) = true := by
    rw [isLet, if_neg hnl, isLets_all, List.all_eq_true] at hlet
    exact hlet
  have hlv' : lives ks (below h d) = true := by rw [live, if_neg hnl] at hlv; exact hlv
  have e1 : el (.ex h ks) d = exD "call" (makerD :: valT (sy (hdS h)) :: ks.map (el · (below h d))) := by
    rw [el, if_pos hlv, mk, if_neg hnl, if_pos hlv', mks_map]
  have hP := wk_ex n σ h ks (el · (below h d)) (wkp · (below h d)) (wk_sym0 n σ h) (fun x hx => hk x hx (hle x hx)) (fun x hx p hp => wkp_tv x _ (hle x hx) p hp) (by
    have : ∀ l : List T, (l.flatMap (wkp · (below h d))).length ≤ 2 * l.length := by
      intro l
      induction l with
      | nil => simp
      | cons x l ih => rw [List.flatMap_cons, List.length_append, List.length_cons]; have := wkp_len x (below h d); omega
    have := this ks
    have := bnd_is
    omega)
  rw [callN_succ (F := fnD "_law_worked") rfl rfl, e1]
  refine hP.trans ?_
  have e2 : (ks.flatMap (wkp · (below h d))).map Prod.snd = puts ks (below h d) := by
    rw [List.map_flatMap, puts_flat]
    exact congrArg (List.flatMap · ks) (funext fun x => wkp_snd x _)
  rw [e2]
  have e3 : wkp (.ex h ks) d = [(treeV (exD (hdS h) (puts ks (below h d))), exD (hdS h) (puts ks (below h d)))] := by
    rw [wkp]; simp only [hlv, if_true]; rw [if_neg hnl]
  rw [e3]
  rfl

theorem wk_not (n : Nat) (σ : Sto) (t : T) (d : Nat) (hlv : live t d = false) : callN (n + 6) "_law_worked" [.val (el t d)] σ = some (.val (.lst ((wkp t d).map Prod.fst)), σ) := by
  cases t with
  | atom a =>
    have e : el (.atom a) d = partM (.atom a) := by rw [el, hlv]; rfl
    rw [e]; exact wk_part n σ a
  | ex h ks =>
    have e : el (.ex h ks) d = valT (treeV (toD (.ex h ks))) := by rw [el, hlv]; rfl
    have e2 : wkp (.ex h ks) d = [(treeV (toD (.ex h ks)), toD (.ex h ks))] := by rw [wkp]; simp only [hlv]; rfl
    rw [e, e2]; exact wk_plain n σ _

theorem wk_W {h : Nat} {t : T} (q : W h t) : ∀ (m d : Nat) (σ : Sto), 1 ≤ d → isLet t d = true → callN (m + h + 8) "_law_worked" [.val (el t d)] σ = some (.val (.lst ((wkp t d).map Prod.fst)), σ) := by
  have hdol : ∀ (n : Nat) (a : At) (σ : Sto), isHeld a = true → callN (n + 6) "_law_worked" [.val (el (.ex .dol [.atom a]) 1)] σ = some (.val (.lst ((wkp (.ex .dol [.atom a]) 1).map Prod.fst)), σ) := fun n a σ ha => by
    have e : el (.ex .dol [.atom a]) 1 = atD a := by rw [el, if_pos (by simp [live])]; rfl
    have e2 : wkp (.ex .dol [.atom a]) 1 = [(held a, heldT a)] := by rw [wkp]; simp [live, wkIn]
    rw [e, e2]; exact wk_held n σ a ha
  induction q with
  | @atom h a => intro m d σ _ _; exact wk_not (m + h + 2) σ _ d rfl
  | @dsym h a =>
    intro m d σ hd hl
    match d, hd with
    | 1, _ => exact hdol (m + h + 2) a σ hl
    | k + 2, _ => exact wk_not (m + h + 2) σ _ _ (by simp [live, lives])
  | @dspl h a ha =>
    intro m d σ hd hl
    match d, hd with
    | 1, _ =>
      have e : el (.ex .dol [.ex .dots [.atom a]]) 1 = toD (.ex .dots [.atom a]) := by rw [el, if_pos (by simp [live])]; rfl
      have e2 : wkp (.ex .dol [.ex .dots [.atom a]]) 1 = wkIn [.ex .dots [.atom a]] := by rw [wkp]; simp [live]
      rw [e, e2]; exact wk_dots (m + h + 1) σ a ha
    | k + 2, _ => exact wk_not (m + h + 2) σ _ _ (by simp [live, lives, below])
  | @ddol h a =>
    intro m d σ hd hl
    match d, hd with
    | 1, _ => exact absurd hl (by simp [isLet, letIn])
    | 2, _ =>
      refine wk_node (m + h + 1) σ .dol [.ex .dol [.atom a]] 2 (by simp) (by simp [live, lives, below]) (by simp) hl fun x hx hl' => ?_
      rw [List.mem_singleton] at hx; subst hx
      exact hdol (m + h + 1) a σ (by simpa [isLet, below, letIn] using hl')
    | k + 3, _ => exact wk_not (m + h + 2) σ _ _ (by simp [live, lives, below])
  | @quo h t q ih =>
    intro m d σ hd hl
    by_cases hlv : live (.ex .quote [t]) d = true
    · refine wk_node (m + h + 2) σ .quote [t] d (by simp) hlv (by simp) hl fun x hx hl' => ?_
      rw [List.mem_singleton] at hx; subst hx
      exact ih m (d + 1) σ (by omega) hl'
    · exact wk_not (m + (h + 1) + 2) σ _ d (by simpa using hlv)
  | @node h hd ks hh hk q ih =>
    intro m d σ hd' hl
    have hnd : hd ≠ .dol := by rintro rfl; simp at hh
    have hbl : below hd d = d := by rcases hh with rfl | rfl | rfl | rfl <;> rfl
    by_cases hlv : live (.ex hd ks) d = true
    · refine wk_node (m + h + 2) σ hd ks d (fun e => hnd e.1) hlv hk hl fun x hx hl' => ?_
      rw [hbl] at hl' ⊢
      exact ih x hx m d σ hd' hl'
    · exact wk_not (m + (h + 1) + 2) σ _ d (by simpa using hlv)
end Mine

namespace Mine
open PySem

/-- what lies on the done list for a tree -/
noncomputable def pr (d : Nat) (t : T) : D := .tup [.bool (!live t d), if live t d then mk t d else toD t]

theorem part_is (n : Nat) (σ : Sto) (t : T) : callN (n + 3) "part_maker" [.val (toD t)] σ = some (.val (partM t), σ) := by
  cases t with
  | atom a => cases a <;> kernel_rfl
  | ex h ks => kernel_rfl

theorem bcall_all {σ : Sto} (p : T → Bool) (ks : List T) : bcall σ "all" [.val (.lst (ks.map fun k => .bool (p k)))] = some (.bool (ks.all p)) := by
  have e1 : (ks.map fun k => D.bool (p k)).all (fun d => match d with | .bool _ => true | _ => false) = true := by
    rw [List.all_map, List.all_eq_true]; intro x _; rfl
  have e2 : (ks.map fun k => D.bool (p k)).all (fun d => match d with | .bool b => b | _ => false) = ks.all p := by
    rw [List.all_map]; rfl
  show (if (ks.map fun k => D.bool (p k)).all (fun d => match d with | .bool _ => true | _ => false) then some (D.bool ((ks.map fun k => D.bool (p k)).all fun d => match d with | .bool b => b | _ => false)) else none) = _
  rw [if_pos e1, e2]

theorem joined_true (n : Nat) (σ : Sto) (h : Str) (nk : List D) (ks : List T) (d : Nat) (hp : ks.all (fun k => !live k d) = true) :
    callN (n + 5) "joined_parts" [.val (exD h nk), .val (.lst (ks.map (pr d)))] σ = some (.val (.tup [.bool true, exD h nk]), σ) := by
  rw [callN_succ (F := fnD "joined_parts") rfl rfl]
  refine callF_ret rfl (xs_ret (s_if (x := true) (t_call (e_bcall (evals_cons (e_comp rfl rfl rfl (comp_map (pr d) (fun k => .bool (!live k d)) fun k _ => ⟨_, rfl, rfl⟩)) evals_nil rfl) ?_ rfl rfl)) rfl))
  have := bcall_all (σ := σ) (fun k => !live k d) ks
  rw [hp] at this
  exact this

theorem joined_false (n : Nat) (σ : Sto) (h : Str) (nk : List D) (ks : List T) (d : Nat) (hlen : ks.length ≤ 3) (hp : ks.all (fun k => !live k d) = false) :
    callN (n + 5) "joined_parts" [.val (exD h nk), .val (.lst (ks.map (pr d)))] σ = some (.val (.tup [.bool false, exD "call" (makerD :: valT (sy h) :: ks.map (el · d))]), σ) := by
  rw [callN_succ (F := fnD "joined_parts") rfl rfl]
  have h1 := bcall_all (σ := σ) (fun k => !live k d) ks
  rw [hp] at h1
  refine callF_ret rfl (xs_cons (s_if (x := false) (t_call (e_bcall (evals_cons (e_comp rfl rfl rfl (comp_map (pr d) (fun k => .bool (!live k d)) fun k _ => ⟨_, rfl, rfl⟩)) evals_nil rfl) h1 rfl rfl)) rfl)
    (xs_cons (s_assign rfl rfl (e_comp rfl rfl rfl (comp_map (pr d) (el · d) fun k _ => ⟨_, rfl, ?_⟩)) rfl)
      (xs_ret (s_ret (e_tuple (evals_cons rfl (evals_cons (e_call (evals_cons rfl (evals_cons (e_bin (a := .lst [makerD, valT (sy h)]) (b := .lst (ks.map (el · d))) rfl rfl (if_pos (by simp [bnd]; omega))) evals_nil rfl) rfl) (expr_is (n + 2) σ _ _) rfl rfl) evals_nil rfl) rfl) rfl (by simp [bnd]))))))
  · refine e_ifexp (x := !live k d) rfl ?_
    cases hl : live k d with
    | true =>
      have e : el k d = mk k d := by rw [el, if_pos hl]
      rw [e]
      simp only [pr, hl]
      rfl
    | false =>
      have e : el k d = partM k := by rw [el, hl]; rfl
      rw [e]
      exact e_call (rs := [.val (toD k)]) rfl (part_is (n + 1) σ k) rfl rfl

/-! `quoted` -/
noncomputable abbrev CQ (n : Nat) : Orc := callN (n + 6)
noncomputable def ρq (t0 : D) : Loc := [("tree", .val t0), ("done", .loc 0), ("tasks", .loc 1)]
noncomputable def muQ : List (Str × Nat) := [("tasks", 1), ("done", 0)]
noncomputable def quFn : Fn := fnD "quoted"
noncomputable def quWhile : Stmt := nth quFn.body 1
noncomputable def testOf : Stmt → Expr
  | .While t _ _ _ => t
  | _ => .Constant .none 0 default
noncomputable def ent (rdy : Bool) (d : Nat) (x : D) : D := .tup [.bool rdy, x, .int d]
noncomputable def sq (gd : Nat) (ds : List D) (gt : Nat) (ts : List D) : Sto := [⟨gd, ds⟩, ⟨gt, ts⟩]
noncomputable def quRec (n k : Nat) : Loc → Sto → List Stmt → Out := xs (CQ n) glo muQ 900 1000 quFn.names (k + 20)
noncomputable def quTest (n k : Nat) : Loc → Sto → Option (Bool × Sto) := fun ρ σ => (ev (CQ n) glo (k + 20)).t quFn.names ρ σ (testOf quWhile)
noncomputable def run (n k : Nat) (w : Nat) (t0 : D) (σ : Sto) : Out := whileRun (quRec n k) (quTest n k) (forB quWhile) w (ρq t0) σ

theorem while_step {rec : Loc → Sto → List Stmt → Out} {test : Loc → Sto → Option (Bool × Sto)} {body : List Stmt} {w : Nat} {ρ ρ1 ρ2 : Loc} {σ σ1 σ2 : Sto} (h1 : test ρ σ = some (true, σ1)) (h2 : rec ρ σ1 body = some (.next, ρ1, σ2)) (h3 : restr ρ ρ1 = ρ2) :
    whileRun rec test body (w + 1) ρ σ = whileRun rec test body w ρ2 σ2 := by
  subst h3
  simp only [whileRun, h1, h2]

theorem run_test (n k : Nat) (t0 : D) (gd gt : Nat) (ds ts : List D) (x : D) : quTest n k (ρq t0) (sq gd ds gt (x :: ts)) = some (true, sq gd ds gt (x :: ts)) := by kernel_rfl

noncomputable def ρt (t0 : D) (r : Bool) (x : D) (d : Nat) : Loc := [("tree", .val t0), ("done", .loc 0), ("tasks", .loc 1), ("is_ready", .val (.bool r)), ("node", .val x), ("depth", .val (.int d))]

theorem run_atom (n k w : Nat) (t0 : D) (gd gt : Nat) (ds ts : List D) (a : At) (d : Nat) : run n k (w + 1) t0 (sq (gd + 1) ds gt (ent false d (atD a) :: ts)) = run n k w t0 (sq gd (pr d (.atom a) :: ds) gt ts) := by
  refine while_step (run_test n k t0 (gd + 1) gt ds ts _) (ρ1 := ρt t0 false (atD a) d) ?_ rfl
  cases a <;> kernel_rfl
theorem run_dol (n k w : Nat) (t0 : D) (gd gt : Nat) (ds ts : List D) (t : T) : run n k (w + 1) t0 (sq (gd + 1) ds gt (ent false 1 (toD (.ex .dol [t])) :: ts)) = run n k w t0 (sq gd (pr 1 (.ex .dol [t]) :: ds) gt ts) := by
  refine while_step (run_test n k t0 (gd + 1) gt ds ts _) (ρ1 := ρt t0 false (toD (.ex .dol [t])) 1) ?_ rfl
  kernel_rfl

section
variable {C : Orc} {G : Str → Option D} {n : Nat} {sc : Names} {ρ : Loc} {σ σ1 : Sto} {v : Ev} {mu : List (Str × Nat)} {bud W : Nat} {rec : Loc → Sto → List Stmt → Out}
theorem locOf_is {x : Str} {l : Nat} (h : ρ.lookup x = some (.loc l)) : locOf ρ x = some l := b1_is h rfl
theorem natOf_is {x : Str} {k : Nat} (h : ρ.lookup x = some (.val (.int (.ofNat k)))) : natOf ρ x = some k := b1_is h rfl
theorem s_append {x m : Str} {xp ap pp p : Pos} {e : Expr} {d : D} {l g : Nat} {rev : List D} (hm : (m == "append" && !isDbg x && ap.endLine == pp.line && !isStarE e) = true) (h1 : v.e sc ρ σ e = some (.val d, σ1)) (hx : ρ.lookup x = some (.loc l)) (hl : σ1[l]? = some ⟨g + 1, rev⟩) :
    stepS mu bud W v rec sc ρ σ (.Expr (.Call (.Attribute (.Name x xp) m ap) [e] [] pp) p) = some (.next, ρ, σ1.set l ⟨g, d :: rev⟩) := by
  show gd (m == "append" && !isDbg x && ap.endLine == pp.line && !isStarE e) (bV (v.e sc ρ σ e) fun d σ1 => b1 (locOf ρ x) fun l => b1 (σ1[l]?) (pushed ρ l σ1 d)) = _
  exact gd_is hm (bV_is h1 (b1_is (locOf_is hx) (b1_is hl rfl)))
theorem s_trunc {x m : Str} {np pos : Pos} {e : Expr} {l k : Nat} {en : Ent} (hc : compOk sc x np ρ e = true) (ht : truncOf x e = some m) (hx : ρ.lookup x = some (.loc l)) (hm : ρ.lookup m = some (.val (.int (.ofNat k)))) (hl : σ[l]? = some en)
    (hk : (en.rev.take k).length = k) (hs : (isLocal sc x && alone x l ρ && okLen sc x m && !mu.isEmpty) = true) : stepS mu bud W v rec sc ρ σ (.Assign [.Name x np] e pos) = some (.next, ρ, σ.set l ⟨en.g, en.rev.drop k⟩) := by
  show nmS mu bud v sc ρ σ x np e = _
  refine gd_is hc ?_
  rw [ht]
  show truncS mu sc ρ σ x m = _
  unfold truncS
  exact b1_is (locOf_is hx) (b1_is (natOf_is hm) (b1_is hl (gd_is (by rw [decide_eq_true hk, hs]; rfl) rfl)))
theorem e_tail {x y z f : Str} {xp yp zp fp cp bp sp pos : Pos} {l k : Nat} {en : Ent} (hf : (f == "len" && y == x) = true) (hx : ρ.lookup x = some (.loc l)) (hm : ρ.lookup z = some (.val (.int (.ofNat k)))) (hl : σ[l]? = some en)
    (hk : (en.rev.take k).length = k) (hs : okLen sc x z = true) :
    (ev C G (n + 1)).e sc ρ σ (.Subscript (.Name x xp) (.Slice (some (.BinOp (.Call (.Name f fp) [.Name y yp] [] cp) .Sub (.Name z zp) bp)) none none sp) pos) = some (.val (.lst (en.rev.take k).reverse), σ) := by
  show sliceTail sc ρ σ (.Name x xp) (.BinOp (.Call (.Name f fp) [.Name y yp] [] cp) .Sub (.Name z zp) bp) = _
  unfold sliceTail
  refine b1_is rfl (b1_is (a := z) ?_ (b1_is (locOf_is hx) (b1_is (natOf_is hm) (b1_is hl (gd_is (by rw [decide_eq_true hk, hs]; rfl) rfl)))))
  show gd (f == "len" && y == x && true) (some z) = _
  exact gd_is (by rw [hf]; rfl) rfl
end

noncomputable def entF (b : Nat) (t : T) : D := ent false b (toD t)
theorem inner_is (n : Nat) (σ : Sto) (h : Hd) (hh : h ≠ .dol) (d : Nat) : callN (n + 3) "inner_depth" [.val (.str (hdS h)), dI d] σ = some (dI (below h d), σ) := by
  cases h <;> first | exact absurd rfl hh | kernel_rfl
theorem inner_dol (n : Nat) (σ : Sto) (k : Nat) : callN (n + 3) "inner_depth" [.val (.str (hdS .dol)), dI (k + 2)] σ = some (dI (k + 1), σ) := by
  have e : ((k + 1 : Nat) : Int) = ((k + 2 : Nat) : Int) - 1 := by omega
  unfold dI
  rw [e]
  kernel_rfl

noncomputable def quFor : Stmt := match quWhile with
  | .While _ (_ :: .If _ _ [.If _ _ [.If _ _ (_ :: f :: _) _] _] _ :: _) _ _ => f
  | s => s
theorem push_loop (n m : Nat) (t0 x : D) (hs : Str) (nk : List D) (d b : Nat) (hx : x = exD hs nk) (hC : ∀ σ, CQ n "inner_depth" [.val (.str hs), dI d] σ = some (dI b, σ)) (gd : Nat) (ds : List D) : ∀ (ks : List T) (g : Nat) (ts : List D),
    forRun (xs (CQ n) glo muQ 900 1000 quFn.names (m + 8)) "part" (forB quFor) (ks.map toD) (ρt t0 false x d) (sq gd ds (g + ks.length) ts) = some (.next, ρt t0 false x d, sq gd ds g ((ks.map (entF b)).reverse ++ ts))
  | [], g, ts => by simp [forRun]
  | k :: ks, g, ts => by
    subst hx
    refine for_cons (ρ1 := setL "part" (.val (toD k)) (ρt t0 false (exD hs nk) d)) (σ1 := sq gd ds (g + ks.length) (entF b k :: ts)) ?_ ?_
    · exact xs_cons (s_append (g := g + ks.length) (rev := ts) (l := 1) (d := entF b k) rfl (e_tuple (evals_cons rfl (evals_cons rfl (evals_cons (e_call (rs := [.val (.str hs), dI d]) rfl (hC _) rfl rfl) evals_nil rfl) rfl) rfl) rfl (by simp [bnd])) rfl rfl) rfl
    · have := push_loop n m t0 _ hs nk d b rfl hC gd ds ks g (entF b k :: ts)
      simp only [List.map_cons, List.reverse_cons, List.append_assoc, List.singleton_append]
      exact this

theorem run_push (n k w : Nat) (t0 : D) (gd gt : Nat) (ds ts : List D) (h : Hd) (hh : h ≠ .dol) (ks : List T) (d : Nat) :
    run n k (w + 1) t0 (sq gd ds (gt + ks.length + 1) (ent false d (exD (hdS h) (ks.map toD)) :: ts)) = run n k w t0 (sq gd ds gt (ks.map (entF (below h d)) ++ ent true d (exD (hdS h) (ks.map toD)) :: ts)) := by
  refine while_step (run_test n k t0 gd (gt + ks.length + 1) ds ts _) (ρ1 := ρt t0 false (exD (hdS h) (ks.map toD)) d) ?_ rfl
  have hp := push_loop n (k + 6) t0 _ (hdS h) (ks.map toD) d (below h d) rfl (fun σ => inner_is (n + 3) σ h hh d) gd ds ks.reverse gt (ent true d (exD (hdS h) (ks.map toD)) :: ts)
  rw [List.length_reverse, List.map_reverse, List.map_reverse, List.reverse_reverse] at hp
  cases h
  all_goals first
    | exact absurd rfl hh
    | exact xs_cons rfl (xs_cons (s_if (x := false) rfl (xs_cons (s_if (x := false) rfl (xs_cons (s_if (x := false) rfl (xs_cons rfl (xs_cons (s_for rfl rfl rfl rfl hp) rfl))) rfl)) rfl)) rfl)
theorem run_push2 (n k w : Nat) (t0 : D) (gd gt : Nat) (ds ts : List D) (ks : List T) (d : Nat) :
    run n k (w + 1) t0 (sq gd ds (gt + ks.length + 1) (ent false (d + 2) (exD (hdS .dol) (ks.map toD)) :: ts)) = run n k w t0 (sq gd ds gt (ks.map (entF (d + 1)) ++ ent true (d + 2) (exD (hdS .dol) (ks.map toD)) :: ts)) := by
  refine while_step (run_test n k t0 gd (gt + ks.length + 1) ds ts _) (ρ1 := ρt t0 false (exD (hdS .dol) (ks.map toD)) (d + 2)) ?_ rfl
  have hp := push_loop n (k + 6) t0 _ (hdS .dol) (ks.map toD) (d + 2) (d + 1) rfl (fun σ => inner_dol (n + 3) σ d) gd ds ks.reverse gt (ent true (d + 2) (exD (hdS .dol) (ks.map toD)) :: ts)
  rw [List.length_reverse, List.map_reverse, List.map_reverse, List.reverse_reverse] at hp
  exact xs_cons rfl (xs_cons (s_if (x := false) rfl (xs_cons (s_if (x := false) rfl (xs_cons (s_if (x := false) rfl (xs_cons rfl (xs_cons (s_for rfl rfl rfl rfl hp) rfl))) rfl)) rfl)) rfl)

/-- the node's second visit -/
theorem run_ready (n k w : Nat) (t0 : D) (gd gt : Nat) (ds ts : List D) (h : Hd) (ks : List T) (d b : Nat) (hlen : ks.length ≤ 3) :
    run n k (w + 1) t0 (sq (gd + 1) ((ks.map (pr b)).reverse ++ ds) gt (ent true d (exD (hdS h) (ks.map toD)) :: ts)) =
      run n k w t0 (sq gd (.tup [.bool (ks.all fun k => !live k b), if ks.all (fun k => !live k b) then exD (hdS h) (ks.map toD) else exD "call" (makerD :: valT (sy (hdS h)) :: ks.map (el · b))] :: ds) gt ts) := by
  have htk : (((ks.map (pr b)).reverse ++ ds).take (ks.map toD).length).length = (ks.map toD).length := by simp
  have htake : ((ks.map (pr b)).reverse ++ ds).take (ks.map toD).length = (ks.map (pr b)).reverse := by
    rw [List.take_left']; simp
  have hdrop : ((ks.map (pr b)).reverse ++ ds).drop (ks.map toD).length = ds := by
    rw [List.drop_left']; simp
  have hJ : ∀ σ, CQ n "joined_parts" [.val (exD (hdS h) (ks.map toD)), .val (.lst (ks.map (pr b)))] σ = some (.val (.tup [.bool (ks.all fun k => !live k b), if ks.all (fun k => !live k b) then exD (hdS h) (ks.map toD) else exD "call" (makerD :: valT (sy (hdS h)) :: ks.map (el · b))]), σ) := fun σ => by
    cases hp : ks.all fun k => !live k b with
    | true => exact joined_true (n + 1) σ (hdS h) (ks.map toD) ks b hp
    | false => exact joined_false (n + 1) σ (hdS h) (ks.map toD) ks b hlen hp
  have e1 : (((ks.map (pr b)).reverse ++ ds).take (ks.map toD).length).reverse = ks.map (pr b) := by rw [htake, List.reverse_reverse]
  refine while_step (run_test n k t0 (gd + 1) gt _ ts _) (ρ1 := setL "kids" (.val (.lst (ks.map (pr b)))) (setL "many" (.val (.int (ks.map toD).length)) (ρt t0 true (exD (hdS h) (ks.map toD)) d))) ?_ rfl
  refine xs_cons rfl (xs_cons (s_if (x := true) rfl (xs_cons rfl (xs_cons (s_assign rfl rfl (e_tail (k := (ks.map toD).length) rfl rfl rfl rfl htk rfl) (ρ2 := setL "kids" (.val (.lst (ks.map (pr b)))) (setL "many" (.val (.int (ks.map toD).length)) (ρt t0 true (exD (hdS h) (ks.map toD)) d))) (σ2 := sq (gd + 1) ((ks.map (pr b)).reverse ++ ds) gt ts) ?_)
    (xs_cons (s_trunc (k := (ks.map toD).length) (en := ⟨gd + 1, (ks.map (pr b)).reverse ++ ds⟩) rfl rfl rfl rfl rfl htk rfl) (xs_cons (s_append (g := gd) (rev := ds) (l := 0) rfl (e_call (rs := [.val (exD (hdS h) (ks.map toD)), .val (.lst (ks.map (pr b)))]) rfl (hJ _) rfl rfl) rfl ?_) rfl))))) rfl)
  · rw [e1]; rfl
  · show some (Ent.mk (gd + 1) (((ks.map (pr b)).reverse ++ ds).drop (ks.map toD).length)) = _
    rw [hdrop]
end Mine

namespace Mine
open PySem

noncomputable def cst : Nat → Nat
  | 0 => 5
  | h + 1 => 3 * cst h + 5

/-- a tree on the stack is worked off -/
noncomputable def Proc (B : Nat) (d : Nat) (t : T) : Prop := ∃ c a b, c ≤ B ∧ a ≤ B ∧ b ≤ B ∧ ∀ n k w t0 gd gt ds ts, run n k (w + c) t0 (sq (gd + b) ds (gt + a) (entF d t :: ts)) = run n k w t0 (sq gd (pr d t :: ds) gt ts)

theorem Proc.list {B d : Nat} : ∀ {ks : List T}, (∀ x ∈ ks, Proc B d x) → ∃ c a b, c ≤ ks.length * B ∧ a ≤ ks.length * B ∧ b ≤ ks.length * B ∧
    ∀ n k w t0 gd gt ds ts, run n k (w + c) t0 (sq (gd + b) ds (gt + a) (ks.map (entF d) ++ ts)) = run n k w t0 (sq gd ((ks.map (pr d)).reverse ++ ds) gt ts)
  | [], _ => ⟨0, 0, 0, by simp, by simp, by simp, fun n k w t0 gd gt ds ts => rfl⟩
  | x :: ks, h => by
    obtain ⟨c1, a1, b1, h1, h2, h3, h4⟩ := h x (.head _)
    obtain ⟨c2, a2, b2, g1, g2, g3, g4⟩ := Proc.list fun y hy => h y (.tail _ hy)
    refine ⟨c2 + c1, a2 + a1, b2 + b1, ?_, ?_, ?_, fun n k w t0 gd gt ds ts => ?_⟩
    · rw [List.length_cons, Nat.succ_mul]; omega
    · rw [List.length_cons, Nat.succ_mul]; omega
    · rw [List.length_cons, Nat.succ_mul]; omega
    · rw [← Nat.add_assoc, ← Nat.add_assoc, ← Nat.add_assoc]
      refine (h4 n k (w + c2) t0 (gd + b2) (gt + a2) ds (ks.map (entF d) ++ ts)).trans ?_
      refine (g4 n k w t0 gd gt (pr d x :: ds) ts).trans ?_
      rw [List.map_cons, List.reverse_cons, List.append_assoc]
      rfl

theorem all_not (b : Nat) (ks : List T) : (ks.all fun k => !live k b) = !lives ks b := by
  rw [lives_any]
  induction ks with
  | nil => rfl
  | cons k ks ih => rw [List.all_cons, List.any_cons, ih, Bool.not_or]
theorem pr_ex (h : Hd) (ks : List T) (d : Nat) (hnl : ¬(h = .dol ∧ d = 1)) :
    pr d (.ex h ks) = .tup [.bool (ks.all fun k => !live k (below h d)), if ks.all (fun k => !live k (below h d)) then exD (hdS h) (ks.map toD) else exD "call" (makerD :: valT (sy (hdS h)) :: ks.map (el · (below h d)))] := by
  rw [pr, live, if_neg hnl, all_not, mk, if_neg hnl, toD, toDs_map, mks_map]
  cases lives ks (below h d) <;> rfl

theorem proc_ex {B : Nat} {h : Hd} {ks : List T} {d b : Nat} (hnl : ¬(h = .dol ∧ d = 1)) (hb : b = below h d) (hlen : ks.length ≤ 3) (hk : ∀ x ∈ ks, Proc B b x)
    (hpush : ∀ n k w t0 gd gt ds ts, run n k (w + 1) t0 (sq gd ds (gt + ks.length + 1) (ent false d (exD (hdS h) (ks.map toD)) :: ts)) = run n k w t0 (sq gd ds gt (ks.map (entF b) ++ ent true d (exD (hdS h) (ks.map toD)) :: ts))) : Proc (ks.length * B + 4) d (.ex h ks) := by
  obtain ⟨c, a, e, h1, h2, h3, h4⟩ := Proc.list hk
  subst hb
  refine ⟨1 + c + 1, a + ks.length + 1, 1 + e, by omega, by omega, by omega, fun n k w t0 gd gt ds ts => ?_⟩
  have e1 : entF d (.ex h ks) = ent false d (exD (hdS h) (ks.map toD)) := by rw [entF, toD, toDs_map]
  rw [e1, show w + (1 + c + 1) = (w + 1 + c) + 1 by omega, show gd + (1 + e) = gd + 1 + e by omega, show gt + (a + ks.length + 1) = (gt + a) + ks.length + 1 by omega, pr_ex h ks d hnl]
  exact (hpush n k (w + 1 + c) t0 _ _ ds ts).trans ((h4 n k (w + 1) t0 (gd + 1) gt ds _).trans (run_ready n k w t0 gd gt ds ts h ks d _ hlen))

theorem proc_atom (a : At) (d : Nat) : Proc 1 d (.atom a) := ⟨1, 0, 1, by omega, by omega, by omega, fun n k w t0 gd gt ds ts => run_atom n k w t0 gd gt ds ts a d⟩
theorem proc_dol1 (t : T) : Proc 1 1 (.ex .dol [t]) := ⟨1, 0, 1, by omega, by omega, by omega, fun n k w t0 gd gt ds ts => run_dol n k w t0 gd gt ds ts t⟩
theorem Proc.le {B B' d : Nat} {t : T} (p : Proc B d t) (h : B ≤ B') : Proc B' d t := let ⟨c, a, b, h1, h2, h3, h4⟩ := p; ⟨c, a, b, by omega, by omega, by omega, h4⟩
theorem proc_dsym (a : At) (d : Nat) (hd : 1 ≤ d) : Proc 5 d (.ex .dol [.atom a]) := by
  match d, hd with
  | 1, _ => exact (proc_dol1 _).le (by omega)
  | d + 2, _ => exact (proc_ex (B := 1) (b := d + 1) (by omega) rfl (by simp) (fun x hx => by rw [List.mem_singleton] at hx; subst hx; exact proc_atom a _) fun n k w t0 gd gt ds ts => run_push2 n k w t0 gd gt ds ts _ d).le (by simp)

theorem proc_W {h : Nat} {t : T} (q : W h t) : ∀ d, 1 ≤ d → Proc (2 * cst h) d t := by
  have h5 : ∀ h, 5 ≤ cst h := by intro h; cases h <;> simp only [cst] <;> omega
  induction q with
  | @atom h a => intro d _; have := h5 h; exact (proc_atom a d).le (by omega)
  | @dsym h a => intro d hd; have := h5 h; exact (proc_dsym a d hd).le (by omega)
  | @dspl h a ha =>
    intro d hd
    have := h5 h
    match d, hd with
    | 1, _ => exact (proc_dol1 _).le (by omega)
    | d + 2, _ =>
      refine (proc_ex (B := 5) (b := d + 1) (by omega) rfl (by simp) (fun x hx => ?_) fun n k w t0 gd gt ds ts => run_push2 n k w t0 gd gt ds ts _ d).le (by simp; omega)
      rw [List.mem_singleton] at hx; subst hx
      exact (proc_ex (B := 1) (b := d + 1) (by simp) rfl (by simp) (fun x hx => by rw [List.mem_singleton] at hx; subst hx; exact proc_atom a _) fun n k w t0 gd gt ds ts => run_push n k w t0 gd gt ds ts .dots (by decide) _ (d + 1)).le (by simp)
  | @ddol h a =>
    intro d hd
    have := h5 h
    match d, hd with
    | 1, _ => exact (proc_dol1 _).le (by omega)
    | d + 2, _ =>
      refine (proc_ex (B := 5) (b := d + 1) (by omega) rfl (by simp) (fun x hx => ?_) fun n k w t0 gd gt ds ts => run_push2 n k w t0 gd gt ds ts _ d).le (by simp; omega)
      rw [List.mem_singleton] at hx; subst hx
      exact proc_dsym a (d + 1) (by omega)
  | @quo h t q ih =>
    intro d hd
    have := h5 h
    refine (proc_ex (B := 2 * cst h) (b := d + 1) (by simp) rfl (by simp) (fun x hx => ?_) fun n k w t0 gd gt ds ts => run_push n k w t0 gd gt ds ts .quote (by decide) _ d).le (by simp only [cst, List.length_singleton]; omega)
    rw [List.mem_singleton] at hx; subst hx
    exact ih (d + 1) (by omega)
  | @node h hd ks hh hk q ih =>
    intro d hd'
    have := h5 h
    have hnd : hd ≠ .dol := by rintro rfl; simp at hh
    have hbl : below hd d = d := by rcases hh with rfl | rfl | rfl | rfl <;> rfl
    refine (proc_ex (B := 2 * cst h) (b := d) (fun e => hnd e.1) hbl.symm hk (fun x hx => ih x hx d hd') fun n k w t0 gd gt ds ts => ?_).le ?_
    · have := run_push n k w t0 gd gt ds ts hd hnd ks d
      rw [hbl] at this
      exact this
    · simp only [cst]
      have : ks.length * (2 * cst h) ≤ 3 * (2 * cst h) := Nat.mul_le_mul_right _ hk
      omega

theorem run_end (n k w : Nat) (t0 : D) (gd gt : Nat) (ds : List D) : run n k (w + 1) t0 (sq gd ds gt []) = some (.next, ρq t0, sq gd ds gt []) := by kernel_rfl

theorem callF_mu {C : Orc} {G : Str → Option D} {F : Fn} {mu : List (Str × Nat)} {as : List R} {σ : Sto} {r : R} (hm : mu.isEmpty = false) (hl : as.length = F.params.length) (ha : as.all notLoc = true) (hr : notLoc r = true)
    (h : ∃ fr ρ' σ', xs C G mu 900 1000 F.names 60 (F.params.zip as) [] F.body = some (.ret r fr, ρ', σ')) : callF C G F mu false as σ = some (r, σ) := by
  obtain ⟨fr, ρ', σ', h⟩ := h
  unfold callF
  rw [if_pos hl]
  simp only [hm, ha, h, hr]
  rfl

theorem quoted_is {h : Nat} {t : T} (q : W h t) (hh : h ≤ 3) (n : Nat) (σ : Sto) (hx : live t 1 = true → ∀ σ, CQ n "is_expr" [.val (mk t 1), .val (.str "...")] σ = some (.val (.bool false), σ)) :
    callN (n + 7) "quoted" [.val (toD t)] σ = some (.val (if live t 1 then mk t 1 else plainM t), σ) := by
  obtain ⟨c, a, b, h1, h2, h3, h4⟩ := proc_W q 1 (Nat.le_refl _)
  have hc : 2 * cst h ≤ 600 := by
    match h, hh with
    | 0, _ => decide
    | 1, _ => decide
    | 2, _ => decide
    | 3, _ => decide
  have hrun : run n 38 1000 (toD t) (sq 900 [] 900 [entF 1 t]) = some (.next, ρq (toD t), sq (900 - b) [pr 1 t] (900 - a) []) := by
    have := h4 n 38 (1000 - c) (toD t) (900 - b) (900 - a) [] []
    rw [show 1000 - c + c = 1000 by omega, show 900 - b + b = 900 by omega, show 900 - a + a = 900 by omega] at this
    rw [this, show 1000 - c = (1000 - c - 1) + 1 by omega]
    exact run_end _ _ _ _ _ _ _
  rw [callN_succ (F := quFn) rfl rfl]
  refine callF_mu (r := .val (if live t 1 then mk t 1 else plainM t)) rfl rfl rfl (by cases live t 1 <;> rfl) ?_
  cases hl : live t 1 with
  | true =>
    have e : pr 1 t = .tup [.bool false, mk t 1] := by rw [pr, hl]; rfl
    rw [e] at hrun
    exact ⟨_, _, _, xs_cons rfl (xs_cons hrun (xs_cons rfl (xs_cons (s_if (x := false) (t_and2 rfl (t_call (e_call (rs := [.val (mk t 1), .val (.str "...")]) rfl (hx hl _) rfl rfl))) rfl) (xs_ret (s_ret (e_ifexp (x := false) rfl rfl))))))⟩
  | false =>
    have e : pr 1 t = .tup [.bool true, toD t] := by rw [pr, hl]; rfl
    have hpl : ∀ σ, CQ n "plain_maker" [.val (toD t)] σ = some (.val (plainM t), σ) := fun σ => by
      cases t with
      | atom a => cases a <;> kernel_rfl
      | ex h ks => kernel_rfl
    rw [e] at hrun
    exact ⟨_, _, _, xs_cons rfl (xs_cons hrun (xs_cons rfl (xs_cons (s_if (x := false) (t_and2f rfl) rfl) (xs_ret (s_ret (e_ifexp (x := true) rfl (e_call (rs := [.val (toD t)]) rfl (hpl _) rfl rfl)))))))⟩
end Mine

namespace Mine
open PySem

noncomputable def σb (g : Nat) (b0 b1 : Int) : Sto := [⟨g, [.int b1, .int b0]⟩]
noncomputable def Bx (σ : Sto) : Prop := ∃ g b0 b1, σ = σb g b0 b1 ∧ 0 ≤ b0 ∧ 0 ≤ b1 ∧ b1 < 65521

section
variable {C : Orc} {G : Str → Option D} {n : Nat} {sc : Names} {ρ : Loc} {σ σ1 σ2 : Sto} {v : Ev} {mu : List (Str × Nat)} {bud W : Nat} {rec : Loc → Sto → List Stmt → Out}
theorem s_set {x : Str} {xp ip sp p : Pos} {k i : Nat} {e : Expr} {d : D} {l : Nat} {en : Ent} (h1 : v.e sc ρ σ e = some (.val d, σ1)) (hx : ρ.lookup x = some (.loc l)) (hl : σ1[l]? = some en) (hc : i < en.rev.length ∧ i < 2 ^ 62 ∧ isDbg x = false) :
    stepS mu bud W v rec sc ρ σ (.Assign [.Subscript (.Name x xp) (.Constant (.int (.ofNat i)) k ip) sp] e p) = some (.next, ρ, σ1.set l ⟨en.g, (en.rev.reverse.set i d).reverse⟩) := by
  show itemS v sc ρ σ (.Name x xp) (.Constant (.int (.ofNat i)) k ip) e = _
  unfold itemS
  exact b1_is rfl (b1_is rfl (b1_is rfl (bV_is h1 (b1_is (locOf_is hx) (b1_is hl (gd_is (by rw [decide_eq_true ⟨hc.1, hc.2.1⟩, hc.2.2]; rfl) rfl))))))
theorem t_gt {l r : Expr} {pos : Pos} {a b : Int} (x : Bool) (hm : behindInMarks .Gt r = false) (h1 : (ev C G n).e sc ρ σ l = some (.val (.int a), σ1)) (h2 : (ev C G n).e sc ρ σ1 r = some (.val (.int b), σ2)) (h3 : decide (b < a) = x) :
    (ev C G (n + 1)).t sc ρ σ (.Compare l [.Gt] [r] pos) = some (x, σ2) := t_cmp hm h1 h2 (by rw [← h3]; rfl)
end

theorem draw_is {σ : Sto} (hσ : Bx σ) (m : Nat) (h1 : 1 ≤ m) (h8 : m ≤ 8) (n : Nat) : ∃ v σ', v < m ∧ Bx σ' ∧ callN (n + 2) "_law_draw" [.loc 0, dI m] σ = some (dI v, σ') := by
  obtain ⟨g, b0, b1, rfl, hb0, hb1, hb1'⟩ := hσ
  by_cases hpos : 0 < b0
  · have hv : 0 ≤ Int.fmod b0 m := Int.fmod_nonneg_of_pos b0 (by omega)
    have hv' : Int.fmod b0 m < m := Int.fmod_lt_of_pos b0 (by omega)
    refine ⟨(Int.fmod b0 m).toNat, σb g (Int.fdiv b0 m) b1, by omega, ⟨g, _, b1, rfl, Int.fdiv_nonneg hb0 (by omega), hb1, hb1'⟩, ?_⟩
    rw [callN_succ (F := fnD "_law_draw") rfl rfl]
    have hm : (0 : Int) < (m : Int) ∧ (m : Int) < 1073741824 := by omega
    have hvv : dI (Int.fmod b0 m).toNat = R.val (.int (Int.fmod b0 m)) := by
      show R.val (.int _) = _
      rw [Int.toNat_of_nonneg hv]
    rw [hvv]
    exact callF_ret rfl (xs_ret (s_if (x := true) (t_gt (a := b0) (b := 0) true rfl rfl rfl (by simpa using hpos)) (xs_cons (s_assign rfl rfl (e_bin (a := .int b0) (b := .int m) rfl rfl (if_pos hm)) rfl)
      (xs_cons (s_set (l := 0) (i := 0) (en := ⟨g, [.int b1, .int b0]⟩) (e_bin (a := .int b0) (b := .int m) rfl rfl (if_pos hm)) rfl rfl (by simp; rfl)) (xs_ret (s_ret rfl))))))
  · have hm : (0 : Int) < (m : Int) ∧ (m : Int) < 1073741824 := by omega
    have hd0 : 0 ≤ Int.fmod (b1 * 171 + 11213) 65521 := Int.fmod_nonneg_of_pos _ (by omega)
    have hd1 : Int.fmod (b1 * 171 + 11213) 65521 < 65521 := Int.fmod_lt_of_pos _ (by omega)
    have hq : 0 ≤ Int.fdiv (Int.fmod (b1 * 171 + 11213) 65521) 7 := Int.fdiv_nonneg hd0 (by omega)
    have hv : 0 ≤ Int.fmod (Int.fdiv (Int.fmod (b1 * 171 + 11213) 65521) 7) m := Int.fmod_nonneg_of_pos _ (by omega)
    have hv' : Int.fmod (Int.fdiv (Int.fmod (b1 * 171 + 11213) 65521) 7) m < m := Int.fmod_lt_of_pos _ (by omega)
    refine ⟨(Int.fmod (Int.fdiv (Int.fmod (b1 * 171 + 11213) 65521) 7) m).toNat, σb g b0 (Int.fmod (b1 * 171 + 11213) 65521), by omega, ⟨g, b0, _, rfl, hb0, hd0, hd1⟩, ?_⟩
    rw [callN_succ (F := fnD "_law_draw") rfl rfl]
    have hvv : dI (Int.fmod (Int.fdiv (Int.fmod (b1 * 171 + 11213) 65521) 7) m).toNat = R.val (.int (Int.fmod (Int.fdiv (Int.fmod (b1 * 171 + 11213) 65521) 7) m)) := by
      show R.val (.int _) = _
      rw [Int.toNat_of_nonneg hv]
    rw [hvv]
    have hmul : b1.natAbs < 18446744073709551616 ∧ (171 : Int).natAbs < 18446744073709551616 := by omega
    exact callF_ret rfl (xs_cons (s_if (x := false) (t_gt (a := b0) (b := 0) false rfl rfl rfl (by simpa using hpos)) rfl)
      (xs_cons (s_set (l := 0) (i := 1) (en := ⟨g, [.int b1, .int b0]⟩) (e_bin (a := .int (b1 * 171 + 11213)) (b := .int 65521) (e_bin (a := .int (b1 * 171)) (b := .int 11213) (e_bin (a := .int b1) (b := .int 171) rfl rfl (if_pos hmul)) rfl rfl) rfl rfl) rfl rfl (by simp; rfl))
        (xs_ret (s_ret (e_bin (a := .int (Int.fdiv (Int.fmod (b1 * 171 + 11213) 65521) 7)) (b := .int m) (e_bin (a := .int (Int.fmod (b1 * 171 + 11213) 65521)) (b := .int 7) rfl rfl rfl) rfl (if_pos hm))))))

theorem leaf_is {σ : Sto} (hσ : Bx σ) (n : Nat) : ∃ a σ', Bx σ' ∧ callN (n + 3) "_law_leaf" [.loc 0] σ = some (.val (toD (.atom a)), σ') := by
  obtain ⟨v, σ', hv, hb, hC⟩ := draw_is hσ 8 (by omega) (by omega) n
  have go : ∀ a, (idxR σ' (.val (.lst [atD .a, atD .x, atD .i3, atD .txt, atD .tru, atD .nth, atD .vs, atD .vp])) (dI v) = some (atD a)) → callN (n + 3) "_law_leaf" [.loc 0] σ = some (.val (toD (.atom a)), σ') := fun a ha => by
    rw [callN_succ (F := fnD "_law_leaf") rfl rfl]
    exact callF_ret rfl (xs_ret (s_ret (e_sub rfl rfl (e_call (rs := [.loc 0, dI 8]) rfl hC rfl rfl) ha)))
  have hc : v = 0 ∨ v = 1 ∨ v = 2 ∨ v = 3 ∨ v = 4 ∨ v = 5 ∨ v = 6 ∨ v = 7 := by omega
  rcases hc with rfl | rfl | rfl | rfl | rfl | rfl | rfl | rfl
  · exact ⟨.a, σ', hb, go .a rfl⟩
  · exact ⟨.x, σ', hb, go .x rfl⟩
  · exact ⟨.i3, σ', hb, go .i3 rfl⟩
  · exact ⟨.txt, σ', hb, go .txt rfl⟩
  · exact ⟨.tru, σ', hb, go .tru rfl⟩
  · exact ⟨.nth, σ', hb, go .nth rfl⟩
  · exact ⟨.vs, σ', hb, go .vs rfl⟩
  · exact ⟨.vp, σ', hb, go .vp rfl⟩

/-- the law's $ trees -/
theorem dol_last {σ : Sto} (hσ : Bx σ) (n k : Nat) (ρ : Loc) (hρ : ρ.lookup ("box" : Str) = some (.loc 0)) (s : Stmt) (hs : nth (fnD "_law_dollar").body 1 = s) (hl : (ρ.lookup ("_law_draw" : Str)) = none) :
    ∃ a σ' fr, Bx σ' ∧ stepS [] 900 1000 (ev (callN (n + 2)) glo (k + 9)) (xs (callN (n + 2)) glo [] 900 1000 (fnD "_law_dollar").names (k + 9)) (fnD "_law_dollar").names ρ σ s = some (.ret (.val (toD (.ex .dol [.atom a]))) fr, ρ, σ') := by
  subst hs
  obtain ⟨v, σ', hv, hb, hC⟩ := draw_is hσ 4 (by omega) (by omega) n
  have go : ∀ a : At, (idxR σ' (.val (.lst [.str "x", .str "y", .str "z", .str "w"])) (dI v) = (match atD a with | .tup [_, y] => some y | _ => none)) → (∃ y, atD a = .tup [.str "sym", y]) →
      ∃ fr, stepS [] 900 1000 (ev (callN (n + 2)) glo (k + 9)) (xs (callN (n + 2)) glo [] 900 1000 (fnD "_law_dollar").names (k + 9)) (fnD "_law_dollar").names ρ σ (nth (fnD "_law_dollar").body 1) = some (.ret (.val (toD (.ex .dol [.atom a]))) fr, ρ, σ') := fun a ha ⟨y, hy⟩ => by
    rw [hy] at ha
    have e : toD (.ex .dol [.atom a]) = exD "$" [.tup [.str "sym", y]] := by rw [← hy]; rfl
    rw [e]
    have hbox : (ev (callN (n + 2)) glo (k + 2)).e (fnD "_law_dollar").names ρ σ (.Name "box" default) = some (.loc 0, σ) := by
      show nameE glo (fnD "_law_dollar").names ρ σ "box" = _
      unfold nameE
      rw [hρ]
      rfl
    have hev : ∀ (p : Pos) (m : Nat), (ev (callN (n + 2)) glo (m + 1)).e (fnD "_law_dollar").names ρ σ (.Name "box" p) = some (.loc 0, σ) := fun p m => by
      show nameE glo (fnD "_law_dollar").names ρ σ "box" = _
      unfold nameE
      rw [hρ]
      rfl
    have hcs : callSide "_law_draw" ρ (fnD "_law_dollar").names = true := by
      unfold callSide
      rw [hl]
      rfl
    exact ⟨_, s_ret (e_tuple (evals_cons rfl (evals_cons rfl (evals_cons (e_tuple (evals_cons (e_tuple (evals_cons rfl (evals_cons (e_sub rfl rfl (e_call (rs := [.loc 0, dI 4]) (evals_cons (hev _ _) (evals_cons rfl evals_nil rfl) rfl) hC hcs rfl) ha) evals_nil rfl) rfl) rfl (by simp [bnd])) evals_nil rfl) rfl (by simp [bnd])) evals_nil rfl) rfl) rfl) rfl (by simp [bnd]))⟩
  have hc : v = 0 ∨ v = 1 ∨ v = 2 ∨ v = 3 := by omega
  rcases hc with rfl | rfl | rfl | rfl
  · obtain ⟨fr, h⟩ := go .x rfl ⟨_, rfl⟩; exact ⟨.x, σ', fr, hb, h⟩
  · obtain ⟨fr, h⟩ := go .y rfl ⟨_, rfl⟩; exact ⟨.y, σ', fr, hb, h⟩
  · obtain ⟨fr, h⟩ := go .z rfl ⟨_, rfl⟩; exact ⟨.z, σ', fr, hb, h⟩
  · obtain ⟨fr, h⟩ := go .w rfl ⟨_, rfl⟩; exact ⟨.w, σ', fr, hb, h⟩

noncomputable def isDol (p : Bool) (t : T) : Prop := (∃ a, t = .ex .dol [.atom a]) ∨ (p = true ∧ ∃ a, (a = .xs ∨ a = .none) ∧ t = .ex .dol [.ex .dots [.atom a]])
theorem isDol.w {p : Bool} {t : T} (q : isDol p t) (h : Nat) : W h t := by
  rcases q with ⟨a, rfl⟩ | ⟨_, a, ha, rfl⟩
  · exact .dsym a
  · exact .dspl a ha

theorem dollar_is {σ : Sto} (hσ : Bx σ) (n : Nat) (p : Bool) : ∃ t σ', Bx σ' ∧ isDol p t ∧ callN (n + 3) "_law_dollar" [.loc 0, .val (.bool p)] σ = some (.val (toD t), σ') := by
  rw [callN_succ (F := fnD "_law_dollar") rfl rfl]
  cases p with
  | false =>
    obtain ⟨a, σ', fr, hb, h⟩ := dol_last hσ n 49 [("box", .loc 0), ("is_part", .val (.bool false))] rfl _ rfl rfl
    exact ⟨_, σ', hb, .inl ⟨a, rfl⟩, callF_ret rfl (xs_cons (s_if (x := false) (t_and2f rfl) rfl) (xs_ret h))⟩
  | true =>
    obtain ⟨v, σ1, hv, hb1, hC⟩ := draw_is hσ 3 (by omega) (by omega) n
    by_cases h0 : v = 0
    · subst h0
      obtain ⟨u, σ2, hu, hb2, hC2⟩ := draw_is hb1 2 (by omega) (by omega) n
      have go : ∀ a : At, (idxR σ2 (.val (.lst [.str "xs", .str "none"])) (dI u) = (match atD a with | .tup [_, y] => some y | _ => none)) → (∃ y, atD a = .tup [.str "sym", y]) →
          callF (callN (n + 2)) glo (fnD "_law_dollar") [] false [.loc 0, .val (.bool true)] σ = some (.val (toD (.ex .dol [.ex .dots [.atom a]])), σ2) := fun a ha ⟨y, hy⟩ => by
        rw [hy] at ha
        have e : toD (.ex .dol [.ex .dots [.atom a]]) = exD "$" [exD "..." [.tup [.str "sym", y]]] := by rw [← hy]; rfl
        rw [e]
        exact callF_ret rfl (xs_ret (s_if (x := true) (t_and2 rfl (t_cmp (a := dI 0) (b := dI 0) rfl (e_call (rs := [.loc 0, dI 3]) rfl hC rfl rfl) rfl rfl)) (xs_ret (s_ret
          (e_tuple (evals_cons rfl (evals_cons rfl (evals_cons (e_tuple (evals_cons (e_tuple (evals_cons rfl (evals_cons rfl (evals_cons (e_tuple (evals_cons (e_tuple (evals_cons rfl (evals_cons (e_sub rfl rfl (e_call (rs := [.loc 0, dI 2]) rfl hC2 rfl rfl) ha) evals_nil rfl) rfl) rfl (by simp [bnd])) evals_nil rfl) rfl (by simp [bnd])) evals_nil rfl) rfl) rfl) rfl (by simp [bnd])) evals_nil rfl) rfl (by simp [bnd])) evals_nil rfl) rfl) rfl) rfl (by simp [bnd]))))))
      have hc : u = 0 ∨ u = 1 := by omega
      rcases hc with rfl | rfl
      · exact ⟨_, σ2, hb2, .inr ⟨rfl, .xs, .inl rfl, rfl⟩, go .xs rfl ⟨_, rfl⟩⟩
      · exact ⟨_, σ2, hb2, .inr ⟨rfl, .none, .inr rfl, rfl⟩, go .none rfl ⟨_, rfl⟩⟩
    · obtain ⟨a, σ', fr, hb, h⟩ := dol_last hb1 n 49 [("box", .loc 0), ("is_part", .val (.bool true))] rfl _ rfl rfl
      exact ⟨_, σ', hb, .inl ⟨a, rfl⟩, callF_ret rfl (xs_cons (s_if (x := false) (t_and2 rfl (t_cmp (a := dI v) (b := dI 0) rfl (e_call (rs := [.loc 0, dI 3]) rfl hC rfl rfl) rfl (by
        show some (decide ((v : Int) = 0)) = some false
        rw [decide_eq_false (by omega)]))) rfl) (xs_ret h))⟩

theorem comp_chain {v : Ev} {sc' : Names} {tgt elt : Expr} {ρ : Loc} {h : Nat} : ∀ (ds : List D) (acc : List D) (σ : Sto), Bx σ →
    (∀ d ∈ ds, ∀ σ, Bx σ → ∃ ρ1 t σ', bindTgt sc' ρ tgt d = some ρ1 ∧ W h t ∧ Bx σ' ∧ v.e sc' ρ1 σ elt = some (.val (toD t), σ')) →
    ∃ (ts : List T) (σ' : Sto), ts.length = ds.length ∧ (∀ t ∈ ts, W h t) ∧ Bx σ' ∧ compRun v sc' tgt elt [] ρ ds σ acc = some (acc ++ ts.map toD, σ')
  | [], acc, σ, hσ, _ => ⟨[], σ, rfl, (fun _ h => nomatch h), hσ, by simp [compRun]⟩
  | d :: ds, acc, σ, hσ, st => by
    obtain ⟨ρ1, t, σ1, h1, hw, hb1, h2⟩ := st d (.head _) σ hσ
    obtain ⟨ts, σ2, hl, hw2, hb2, h3⟩ := comp_chain ds (acc ++ [toD t]) σ1 hb1 fun d' hd => st d' (.tail _ hd)
    refine ⟨t :: ts, σ2, by simp [hl], fun x hx => ?_, hb2, ?_⟩
    · rcases List.mem_cons.mp hx with rfl | hx
      · exact hw
      · exact hw2 x hx
    · simp only [compRun, h1, testsRun, h2, h3]
      simp

noncomputable def notSpl (t : T) : Prop := ∀ a, t ≠ .ex .dol [.ex .dots [.atom a]]

theorem tree_leaf {σ : Sto} (hσ : Bx σ) (n : Nat) (p : Bool) : ∃ a σ', Bx σ' ∧ callN (n + 4) "_law_tree" [.loc 0, dI 0, .val (.bool p)] σ = some (.val (toD (.atom a)), σ') := by
  obtain ⟨a, σ', hb, hC⟩ := leaf_is hσ n
  refine ⟨a, σ', hb, ?_⟩
  rw [callN_succ (F := fnD "_law_tree") rfl rfl]
  exact callF_ret rfl (xs_cons (s_assign rfl rfl rfl rfl) (xs_ret (s_if (x := true) rfl (xs_ret (s_ret (e_call (rs := [.loc 0]) rfl hC rfl rfl))))))

theorem tree_is : ∀ (h : Nat) {σ : Sto}, Bx σ → ∀ (n : Nat) (p : Bool), ∃ t σ', Bx σ' ∧ W h t ∧ (p = false → notSpl t) ∧ callN (n + h + 4) "_law_tree" [.loc 0, dI h, .val (.bool p)] σ = some (.val (toD t), σ')
  | 0, σ, hσ, n, p => by
    obtain ⟨a, σ', hb, hC⟩ := tree_leaf hσ n p
    exact ⟨_, σ', hb, .atom a, fun _ b e => (nomatch e), hC⟩
  | h + 1, σ, hσ, n, p => by
    have eh : ((h + 1 : Nat) : Int) - 1 = (h : Int) := by omega
    obtain ⟨v, σ1, hv, hb1, hC1⟩ := draw_is hσ 7 (by omega) (by omega) (n + h + 2)
    rw [show n + (h + 1) + 4 = (n + h + 4) + 1 by omega, callN_succ (F := fnD "_law_tree") rfl rfl]
    have s1 : ∀ u : Nat, v = u → stepS [] 900 1000 (ev (callN (n + h + 4)) glo 59) (xs (callN (n + h + 4)) glo [] 900 1000 (fnD "_law_tree").names 59) (fnD "_law_tree").names [("box", .loc 0), ("high", dI (h + 1)), ("is_part", .val (.bool p))] σ (nth (fnD "_law_tree").body 0) =
        (some (Fl.next, [("box", .loc 0), ("high", dI (h + 1)), ("is_part", .val (.bool p)), ("way", dI u)], σ1) : Out) := fun u hu => by
      subst hu
      exact s_assign rfl rfl (e_ifexp (x := true) (t_gt (a := ((h + 1 : Nat) : Int)) (b := 0) true rfl rfl rfl (decide_eq_true (by omega))) (e_call (rs := [.loc 0, dI 7]) rfl hC1 rfl rfl)) rfl
    have hc : v = 0 ∨ v = 1 ∨ v = 2 ∨ v = 3 ∨ v = 4 ∨ v = 5 ∨ v = 6 := by omega
    have dol : (v = 1 ∨ v = 2) → ∃ t σ', Bx σ' ∧ W (h + 1) t ∧ (p = false → notSpl t) ∧ callF (callN (n + h + 4)) glo (fnD "_law_tree") [] false [.loc 0, dI (h + 1), .val (.bool p)] σ = some (.val (toD t), σ') := fun hv' => by
      obtain ⟨t, σ2, hb2, hd, hC2⟩ := dollar_is hb1 (n + h + 1) p
      refine ⟨t, σ2, hb2, hd.w _, fun hp a e => ?_, ?_⟩
      · rcases hd with ⟨b, rfl⟩ | ⟨hp', _⟩
        · cases e
        · rw [hp] at hp'; cases hp'
      · rcases hv' with rfl | rfl <;> exact callF_ret rfl (xs_cons (s1 _ rfl) (xs_cons (s_if (x := false) rfl rfl) (xs_ret (s_if (x := true) rfl (xs_ret (s_ret (e_call (rs := [.loc 0, .val (.bool p)]) rfl hC2 rfl rfl)))))))
    have nod : (v = 5 ∨ v = 6) → ∃ t σ', Bx σ' ∧ W (h + 1) t ∧ (p = false → notSpl t) ∧ callF (callN (n + h + 4)) glo (fnD "_law_tree") [] false [.loc 0, dI (h + 1), .val (.bool p)] σ = some (.val (toD t), σ') := fun hv' => by
      obtain ⟨u, σ2, hu, hb2, hC2⟩ := draw_is hb1 4 (by omega) (by omega) (n + h + 2)
      obtain ⟨m, σ3, hm, hb3, hC3⟩ := draw_is hb2 4 (by omega) (by omega) (n + h + 2)
      have hmain : ∀ hd : Hd, (hd = .call ∨ hd = .tuple ∨ hd = .vect ∨ hd = .block) → (idxR σ2 (.val (.lst [.str "call", .str "tuple", .str "vect", .str "block"])) (dI u) = some (.str (hdS hd))) → ∃ t σ', Bx σ' ∧ W (h + 1) t ∧ (p = false → notSpl t) ∧ callF (callN (n + h + 4)) glo (fnD "_law_tree") [] false [.loc 0, dI (h + 1), .val (.bool p)] σ = some (.val (toD t), σ') := fun hd hh hi => by
        let sc' := compNames (fnD "_law_tree").names (match nth (fnD "_law_tree").body 6 with | .Return (some (.Tuple [_, _, .Call _ [.ListComp _ _ s _] _ _] _ _)) _ => s | _ => default)
        obtain ⟨ts, σ4, hl, hw, hb4, hr⟩ := comp_chain (v := ev (callN (n + h + 4)) glo 50) (sc' := (compNames (fnD "_law_tree").names (match nth (fnD "_law_tree").body 6 with | .Return (some (.Tuple [_, _, .Call _ [.ListComp _ _ s _] _ _] _ _)) _ => s | _ => default)))
          (tgt := match nth (fnD "_law_tree").body 6 with | .Return (some (.Tuple [_, _, .Call _ [.ListComp _ [⟨t, _, _, _⟩] _ _] _ _] _ _)) _ => t | _ => .Constant .none 0 default)
          (elt := match nth (fnD "_law_tree").body 6 with | .Return (some (.Tuple [_, _, .Call _ [.ListComp e _ _ _] _ _] _ _)) _ => e | _ => .Constant .none 0 default)
          (ρ := [("box", .loc 0), ("high", dI (h + 1))]) (h := h) ((List.range m).map fun i => .int (i : Nat)) [] σ3 hb3 (fun d hd' σ' hσ' => by
            obtain ⟨t, σ5, hb5, hw5, _, hC5⟩ := tree_is h hσ' n true
            obtain ⟨i, _, rfl⟩ := List.mem_map.mp hd'
            refine ⟨_, t, σ5, rfl, hw5, hb5, e_call (rs := [.loc 0, dI h, .val (.bool true)]) (evals_cons rfl (evals_cons (e_bin (a := .int ((h + 1 : Nat) : Int)) (b := .int 1) rfl rfl (by show some (D.int (((h + 1 : Nat) : Int) - 1)) = _; rw [eh])) (evals_cons rfl evals_nil rfl) rfl) rfl) hC5 rfl rfl⟩)
        have hts : ts.length ≤ 3 := by rw [hl, List.length_map, List.length_range]; omega
        refine ⟨.ex hd ts, σ4, hb4, .node hh hts hw, fun _ a e => ?_, ?_⟩
        · cases e; simp at hh
        · rw [toD, toDs_map]
          have hc4 : m = 0 ∨ m = 1 ∨ m = 2 ∨ m = 3 := by omega
          have hrg : bcall σ3 "range" [dI m] = some (.rng m) := by
            rcases hc4 with rfl | rfl | rfl | rfl <;> rfl
          rcases hv' with rfl | rfl <;>
          exact callF_ret rfl (xs_cons (s1 _ rfl) (xs_cons (s_if (x := false) rfl rfl) (xs_cons (s_if (x := false) rfl rfl) (xs_cons (s_if (x := false) rfl rfl) (xs_cons (s_if (x := false) rfl rfl)
            (xs_cons (s_assign rfl rfl (e_sub rfl rfl (e_call (rs := [.loc 0, dI 4]) rfl hC2 rfl rfl) hi) rfl)
              (xs_ret (s_ret (e_tuple (evals_cons rfl (evals_cons rfl (evals_cons (e_bcall (evals_cons (e_comp rfl (e_bcall (evals_cons (e_call (rs := [.loc 0, dI 4]) rfl hC3 rfl rfl) evals_nil rfl) hrg rfl rfl) rfl hr) evals_nil rfl) rfl rfl rfl) evals_nil rfl) rfl) rfl) rfl (by simp [bnd]))))))))))
      have hcu : u = 0 ∨ u = 1 ∨ u = 2 ∨ u = 3 := by omega
      rcases hcu with rfl | rfl | rfl | rfl
      · exact hmain .call (by simp) rfl
      · exact hmain .tuple (by simp) rfl
      · exact hmain .vect (by simp) rfl
      · exact hmain .block (by simp) rfl
    rcases hc with rfl | rfl | rfl | rfl | rfl | rfl | rfl
    · obtain ⟨a, σ2, hb2, hC2⟩ := leaf_is hb1 (n + h + 1)
      exact ⟨_, σ2, hb2, .atom a, fun _ b e => (nomatch e), callF_ret rfl (xs_cons (s1 0 rfl) (xs_ret (s_if (x := true) rfl (xs_ret (s_ret (e_call (rs := [.loc 0]) rfl hC2 rfl rfl))))))⟩
    · exact dol (.inl rfl)
    · exact dol (.inr rfl)
    · obtain ⟨t, σ2, hb2, hw, hns, hC2⟩ := tree_is h hb1 n false
      refine ⟨.ex .quote [t], σ2, hb2, .quo hw, fun _ a e => (nomatch e), callF_ret rfl (xs_cons (s1 3 rfl) (xs_cons (s_if (x := false) rfl rfl) (xs_cons (s_if (x := false) rfl rfl) (xs_ret (s_if (x := true) rfl (xs_ret (s_ret (e_tuple (evals_cons rfl (evals_cons rfl (evals_cons (e_tuple (evals_cons
        (e_call (rs := [.loc 0, dI h, .val (.bool false)]) (evals_cons rfl (evals_cons (e_bin (a := .int ((h + 1 : Nat) : Int)) (b := .int 1) rfl rfl (by show some (D.int (((h + 1 : Nat) : Int) - 1)) = _; rw [eh])) (evals_cons rfl evals_nil rfl) rfl) rfl) hC2 rfl rfl)
        evals_nil rfl) rfl (by simp [bnd])) evals_nil rfl) rfl) rfl) rfl (by simp [bnd])))))))))⟩
    · obtain ⟨u, σ2, hu, hb2, hC2⟩ := draw_is hb1 2 (by omega) (by omega) (n + h + 2)
      by_cases h0 : u = 0
      · subst h0
        obtain ⟨a, σ3, hb3, hC3⟩ := tree_leaf hb2 (n + h) false
        exact ⟨.ex .dol [.atom a], σ3, hb3, .dsym a, fun _ b e => (nomatch e), callF_ret rfl (xs_cons (s1 4 rfl) (xs_cons (s_if (x := false) rfl rfl) (xs_cons (s_if (x := false) rfl rfl) (xs_cons (s_if (x := false) rfl rfl) (xs_ret (s_if (x := true) rfl (xs_ret (s_ret (e_tuple (evals_cons rfl (evals_cons rfl (evals_cons (e_tuple (evals_cons
          (e_ifexp (x := true) (t_cmp (a := dI 0) (b := dI 0) rfl (e_call (rs := [.loc 0, dI 2]) rfl hC2 rfl rfl) rfl rfl) (e_call (rs := [.loc 0, dI 0, .val (.bool false)]) rfl hC3 rfl rfl)) evals_nil rfl) rfl (by simp [bnd])) evals_nil rfl) rfl) rfl) rfl (by simp [bnd]))))))))))⟩
      · obtain ⟨t, σ3, hb3, hd, hC3⟩ := dollar_is hb2 (n + h + 1) false
        rcases hd with ⟨a, rfl⟩ | ⟨hp', _⟩
        · exact ⟨.ex .dol [.ex .dol [.atom a]], σ3, hb3, .ddol a, fun _ b e => (nomatch e), callF_ret rfl (xs_cons (s1 4 rfl) (xs_cons (s_if (x := false) rfl rfl) (xs_cons (s_if (x := false) rfl rfl) (xs_cons (s_if (x := false) rfl rfl) (xs_ret (s_if (x := true) rfl (xs_ret (s_ret (e_tuple (evals_cons rfl (evals_cons rfl (evals_cons (e_tuple (evals_cons
            (e_ifexp (x := false) (t_cmp (a := dI u) (b := dI 0) rfl (e_call (rs := [.loc 0, dI 2]) rfl hC2 rfl rfl) rfl (by
              show some (decide ((u : Int) = 0)) = some false
              rw [decide_eq_false (by omega)])) (e_call (rs := [.loc 0, .val (.bool false)]) rfl hC3 rfl rfl)) evals_nil rfl) rfl (by simp [bnd])) evals_nil rfl) rfl) rfl) rfl (by simp [bnd]))))))))))⟩
        · cases hp'
    · exact nod (.inl rfl)
    · exact nod (.inr rfl)
end Mine

namespace Mine
open PySem

mutual
noncomputable def good : D → Bool
  | .str _ => true
  | .int _ => true
  | .bool _ => true
  | .bytes _ => true
  | .tup xs => goods xs
  | .lst xs => goods xs
  | .none => false
  | .rng _ => false
noncomputable def goods : List D → Bool
  | [] => true
  | x :: xs => good x && goods xs
end
mutual
theorem eqD_refl : ∀ d : D, good d = true → eqD d d = some true
  | .str s, _ => by simp [eqD]
  | .int i, _ => by simp [eqD]
  | .bool b, _ => by simp [eqD]
  | .bytes b, _ => by simp [eqD]
  | .tup xs, h => by rw [eqD]; exact eqDs_refl xs (by simpa [good] using h)
  | .lst xs, h => by
    rw [eqD]
    cases xs with
    | nil => rfl
    | cons x xs =>
      have h' : good x = true ∧ goods xs = true := by simpa [good, goods] using h
      rw [eqDl, if_pos rfl, eqD_refl x h'.1, eqDs_refl xs h'.2]; rfl
  | .none, h => by simp [good] at h
  | .rng _, h => by simp [good] at h
theorem eqDs_refl : ∀ xs : List D, goods xs = true → eqDs xs xs = some true
  | [], _ => by simp [eqDs]
  | x :: xs, h => by
    have h' : good x = true ∧ goods xs = true := by simpa [goods] using h
    rw [eqDs, eqD_refl x h'.1, eqDs_refl xs h'.2]; rfl
end
theorem goods_of {xs : List D} (h : ∀ x ∈ xs, good x = true) : goods xs = true := by
  induction xs with
  | nil => rfl
  | cons x xs ih => rw [goods, h x (.head _), ih fun y hy => h y (.tail _ hy)]; rfl

noncomputable def Gd (n : Nat) (d : D) : Prop := good d = true ∧ depD d ≤ n
theorem Gd.le {n m : Nat} {d : D} (g : Gd n d) (h : n ≤ m) : Gd m d := ⟨g.1, Nat.le_trans g.2 h⟩
theorem gd_at (a : At) : Gd 3 (atD a) := by cases a <;> exact ⟨by decide +kernel, by decide +kernel⟩
theorem gd_ex {n : Nat} {h : Str} {ds : List D} (hd : ∀ x ∈ ds, Gd n x) : Gd (n + 2) (exD h ds) := by
  refine ⟨?_, dep_ex fun x hx => (hd x hx).2⟩
  show good (.tup [.str "expr", .str h, .tup ds]) = true
  simp only [good, goods, goods_of fun x hx => (hd x hx).1, Bool.and_self]
theorem gd_tree {n : Nat} {d : D} (g : Gd n d) : Gd (n + 1) (treeV d) := by
  refine ⟨by simp only [treeV, good, goods, g.1, Bool.and_self], ?_⟩
  have := g.2
  simp only [treeV, depD, depDs]
  omega
theorem gd_val {n : Nat} {d : D} (g : Gd n d) : Gd (n + 1) (valT d) := by
  refine ⟨by simp only [valT, good, goods, g.1, Bool.and_self], ?_⟩
  have := g.2
  simp only [valT, depD, depDs]
  omega
mutual
theorem good_toD : ∀ t : T, good (toD t) = true
  | .atom a => (gd_at a).1
  | .ex h ks => by
    rw [toD]
    show good (.tup [.str "expr", .str (hdS h), .tup (toDs ks)]) = true
    simp only [good, goods, good_toDs ks, Bool.and_self]
theorem good_toDs : ∀ ks : List T, goods (toDs ks) = true
  | [] => rfl
  | k :: ks => by rw [toDs, goods, good_toD k, good_toDs ks]; rfl
end
theorem gd_toD {h : Nat} {t : T} (q : W h t) : Gd (2 * h + 7) (toD t) := ⟨good_toD t, dep_W q⟩
theorem gd_heldT (a : At) (h : isHeld a = true) : Gd 5 (heldT a) := by cases a <;> first | (cases h; done) | exact ⟨by decide +kernel, by decide +kernel⟩
theorem gd_held (a : At) (h : isHeld a = true) : Gd 5 (held a) := by cases a <;> first | (cases h; done) | exact ⟨by decide +kernel, by decide +kernel⟩
theorem gd_putIn {ks : List T} (hl : letIn ks = true) : ∀ x ∈ putIn ks, Gd 5 x := by
  intro x hx
  unfold putIn at hx
  split at hx
  · rw [List.mem_singleton] at hx; subst hx; exact gd_heldT _ hl
  · simp only [List.mem_cons, List.mem_singleton, List.not_mem_nil, or_false] at hx
    rcases hx with rfl | rfl <;> exact ⟨by decide +kernel, by decide +kernel⟩
  · cases hx
theorem gd_puts {n d : Nat} {ks : List T} (h : ∀ k ∈ ks, ∀ x ∈ put k d, Gd n x) : ∀ x ∈ puts ks d, Gd n x := by
  rw [puts_flat]
  intro x hx
  obtain ⟨k, hk, hx⟩ := List.mem_flatMap.mp hx
  exact h k hk x hx
theorem gd_put_ex {n d : Nat} {h : Hd} {ks : List T} (hl : isLet (.ex h ks) d = true) (h5 : 5 ≤ n + 2) (hk : ¬(h = .dol ∧ d = 1) → ∀ k ∈ ks, isLet k (below h d) = true → ∀ x ∈ put k (below h d), Gd n x) : ∀ x ∈ put (.ex h ks) d, Gd (n + 2) x := by
  by_cases hc : h = .dol ∧ d = 1
  · rw [isLet, if_pos hc] at hl
    rw [put, if_pos hc]
    exact fun x hx => (gd_putIn hl x hx).le h5
  · rw [isLet, if_neg hc, isLets_all, List.all_eq_true] at hl
    rw [put, if_neg hc]
    intro x hx
    rw [List.mem_singleton] at hx; subst hx
    exact gd_ex (gd_puts fun k hk' => hk hc k hk' (hl k hk'))
theorem gd_put_at {d : Nat} (a : At) : ∀ x ∈ put (.atom a) d, Gd 3 x := fun x hx => by
  rw [put, List.mem_singleton] at hx; subst hx; exact gd_at a
theorem gd_put {h : Nat} {t : T} (q : W h t) : ∀ d, isLet t d = true → ∀ x ∈ put t d, Gd (2 * h + 9) x := by
  induction q with
  | @atom h a => intro d _ x hx; exact (gd_put_at a x hx).le (by omega)
  | @dsym h a => intro d hl x hx; exact (gd_put_ex (n := 3) hl (by omega) (fun _ k hk _ x hx => by rw [List.mem_singleton] at hk; subst hk; exact gd_put_at a x hx) x hx).le (by omega)
  | @dspl h a ha =>
    intro d hl x hx
    refine (gd_put_ex (n := 5) hl (by omega) (fun _ k hk hl' x hx => ?_) x hx).le (by omega)
    rw [List.mem_singleton] at hk; subst hk
    exact gd_put_ex (n := 3) hl' (by omega) (fun _ k hk _ x hx => by rw [List.mem_singleton] at hk; subst hk; exact gd_put_at a x hx) x hx
  | @ddol h a =>
    intro d hl x hx
    refine (gd_put_ex (n := 5) hl (by omega) (fun _ k hk hl' x hx => ?_) x hx).le (by omega)
    rw [List.mem_singleton] at hk; subst hk
    exact gd_put_ex (n := 3) hl' (by omega) (fun _ k hk _ x hx => by rw [List.mem_singleton] at hk; subst hk; exact gd_put_at a x hx) x hx
  | @quo h t q ih =>
    intro d hl x hx
    exact gd_put_ex (n := 2 * h + 9) hl (by omega) (fun _ k hk hl' y hy => by rw [List.mem_singleton] at hk; rw [hk] at hl' hy; exact ih _ hl' y hy) x hx
  | @node h hd ks hh hk q ih =>
    intro d hl x hx
    exact gd_put_ex (n := 2 * h + 9) hl (by omega) (fun _ k hk hl' x hx => ih k hk _ hl' x hx) x hx

/-! what the whole quote comes to -/
noncomputable def told (t : T) : D := if live t 1 then mk t 1 else plainM t
noncomputable def vtA (a : At) : D := match a with
  | .i3 => .tup [.str "int", .str "Int64", .int 3]
  | .vs => sy "s"
  | .vp => .tup [.str "builtin", .str "print"]
  | a => atD a
noncomputable def top (t : T) : List (D × D) := if live t 1 then wkp t 1 else match t with
  | .atom a => [(vtA a, atD a)]
  | .ex h ks => [(treeV (toD (.ex h ks)), toD (.ex h ks))]
theorem vt_at (a : At) : Vt (atD a) (vtA a) := fun n σ => by cases a <;> kernel_rfl
theorem vt_ex (h : Str) (ks : List D) : Vt (exD h ks) (treeV (exD h ks)) := fun n σ => by kernel_rfl
theorem vt_held (a : At) (h : isHeld a = true) : Vt (heldT a) (held a) := fun n σ => by cases a <;> first | (cases h; done) | kernel_rfl
theorem vt_seven : Vt (.tup [.str "int", .int 7]) (.tup [.str "int", .str "Int64", .int 7]) := fun n σ => by kernel_rfl
theorem vt_r : Vt (sy "r") (sy "r") := fun n σ => by kernel_rfl
theorem gd_vtA (a : At) : Gd 3 (vtA a) := by cases a <;> exact ⟨by decide +kernel, by decide +kernel⟩

theorem top_snd (t : T) : (top t).map Prod.snd = put t 1 := by
  unfold top
  cases hl : live t 1 with
  | true => simp only [if_true]; exact wkp_snd t 1
  | false =>
    rw [put_plain t 1 hl]
    cases t <;> rfl
theorem wkIn_vt {ks : List T} (hl : letIn ks = true) : ∀ p ∈ wkIn ks, Vt p.2 p.1 ∧ Gd 5 p.1 := by
  intro p hp
  unfold wkIn at hp
  split at hp
  · rw [List.mem_singleton] at hp; subst hp
    exact ⟨vt_held _ hl, gd_held _ hl⟩
  · rcases List.mem_cons.mp hp with rfl | hp
    · exact ⟨vt_seven, by decide +kernel, by decide +kernel⟩
    · rw [List.mem_singleton] at hp; subst hp; exact ⟨vt_r, by decide +kernel, by decide +kernel⟩
  · cases hp
theorem top_vt {h : Nat} {t : T} (q : W h t) (hl : isLet t 1 = true) : ∀ p ∈ top t, Vt p.2 p.1 ∧ Gd (2 * h + 10) p.1 := by
  intro p hp
  unfold top at hp
  cases hlv : live t 1 with
  | false =>
    rw [hlv] at hp
    cases t with
    | atom a =>
      have hp' : p ∈ [(vtA a, atD a)] := hp
      rw [List.mem_singleton] at hp'; subst hp'; exact ⟨vt_at a, (gd_vtA a).le (by omega)⟩
    | ex hd ks =>
      have hp' : p ∈ [(treeV (toD (.ex hd ks)), toD (.ex hd ks))] := hp
      rw [List.mem_singleton] at hp'; subst hp'
      exact ⟨vt_ex _ _, (gd_tree (gd_toD q)).le (by omega)⟩
  | true =>
    rw [hlv] at hp
    cases t with
    | atom a => cases hlv
    | ex hd ks =>
      have hp' : p ∈ wkp (.ex hd ks) 1 := hp
      unfold wkp at hp'
      dsimp only at hp'
      rw [if_pos hlv] at hp'
      by_cases hc : hd = .dol ∧ 1 = 1
      · rw [if_pos hc] at hp'
        rw [isLet, if_pos hc] at hl
        obtain ⟨h1, h2⟩ := wkIn_vt hl p hp'
        exact ⟨h1, h2.le (by omega)⟩
      · rw [if_neg hc, List.mem_singleton] at hp'; subst hp'
        refine ⟨vt_ex _ _, (gd_tree (n := 2 * h + 9) ?_).le (by omega)⟩
        have := gd_put q 1 hl (exD (hdS hd) (puts ks (below hd 1))) (by rw [put, if_neg hc]; exact .head _)
        exact this
theorem top_wk {h : Nat} {t : T} (q : W h t) (hl : isLet t 1 = true) (m : Nat) (σ : Sto) : callN (m + h + 8) "_law_worked" [.val (told t)] σ = some (.val (.lst ((top t).map Prod.fst)), σ) := by
  cases hlv : live t 1 with
  | true =>
    have := wk_W q m 1 σ (Nat.le_refl _) hl
    rw [el, if_pos hlv] at this
    have e : top t = wkp t 1 := by unfold top; rw [if_pos hlv]
    rw [told, if_pos hlv, e]
    exact this
  | false =>
    have e : told t = plainM t := by rw [told, hlv]; rfl
    rw [e]
    cases t with
    | atom a => cases a <;> kernel_rfl
    | ex hd ks =>
      have e2 : top (.ex hd ks) = [(treeV (toD (.ex hd ks)), toD (.ex hd ks))] := by unfold top; rw [hlv]; rfl
      rw [e2]
      exact wk_plain (m + h + 2) σ _
end Mine

namespace Mine
open PySem

theorem callF_new {C : Orc} {G : Str → Option D} {F : Fn} {as : List R} {σ σ' : Sto} {ρ' : Loc} {r : R} (hl : as.length = F.params.length) (h : xs C G [] 900 1000 F.names 60 (F.params.zip as) σ F.body = some (.ret r true, ρ', σ')) :
    callF C G F [] true as σ = some (r, σ') := by
  unfold callF
  rw [if_pos hl]
  simp only [List.isEmpty_nil, if_true, h]
  rfl

theorem idx_at {σ : Sto} {xs : List D} {i : Int} {d : D} (h0 : 0 ≤ i) (h1 : i < 2 ^ 63) (h2 : xs[i.toNat]? = some d) : idxR σ (.val (.lst xs)) (.val (.int i)) = some d := by
  simp only [idxR, idxD]
  rw [if_pos ⟨h0, h1⟩]
  exact h2

theorem box_is (ns : List Int) (t : Nat) (ht : t ≤ 1) (n : Nat) (σ : Sto) : ∃ b0 b1 : Int, 0 ≤ b0 ∧ 0 ≤ b1 ∧ b1 < 65521 ∧ callN (n + 2) "_law_box" [.val (.lst (ns.map .int)), dI t] σ = some (.val (.lst [.int b0, .int b1]), σ) := by
  rw [callN_succ (F := fnD "_law_box") rfl rfl]
  obtain ⟨c, hc⟩ : ∃ c : Int, stepS [] 900 1000 (ev (callN (n + 1)) glo 59) (xs (callN (n + 1)) glo [] 900 1000 (fnD "_law_box").names 59) (fnD "_law_box").names [("script", .val (.lst (ns.map .int))), ("turn", dI t)] σ (nth (fnD "_law_box").body 0) =
      (some (Fl.next, [("script", .val (.lst (ns.map .int))), ("turn", dI t), ("cell", .val (.int c))], σ) : Out) := by
    by_cases hlt : t < ns.length
    · refine ⟨ns[t], s_assign rfl rfl (e_ifexp (x := true) (t_cmp (a := dI t) (b := .val (.int ((ns.map D.int).length : Nat))) rfl rfl rfl ?_) (e_sub rfl rfl rfl ?_)) rfl⟩
      · show some (decide ((t : Int) < ((ns.map D.int).length : Nat))) = some true
        rw [decide_eq_true (by rw [List.length_map]; omega)]
      · refine idx_at (by omega) (Int.lt_of_lt_of_le (show (t : Int) < 2 by omega) (by decide +kernel)) ?_
        rw [Int.toNat_natCast, List.getElem?_map, List.getElem?_eq_getElem hlt]; rfl
    · refine ⟨0, s_assign rfl rfl (e_ifexp (x := false) (t_cmp (a := dI t) (b := .val (.int ((ns.map D.int).length : Nat))) rfl rfl rfl ?_) rfl) rfl⟩
      show some (decide ((t : Int) < ((ns.map D.int).length : Nat))) = some false
      rw [decide_eq_false (by rw [List.length_map]; omega)]
  obtain ⟨w, hw0, hw⟩ : ∃ w : Int, 0 ≤ w ∧ stepS [] 900 1000 (ev (callN (n + 1)) glo 58) (xs (callN (n + 1)) glo [] 900 1000 (fnD "_law_box").names 58) (fnD "_law_box").names [("script", .val (.lst (ns.map .int))), ("turn", dI t), ("cell", .val (.int c))] σ (nth (fnD "_law_box").body 1) =
      (some (Fl.next, [("script", .val (.lst (ns.map .int))), ("turn", dI t), ("cell", .val (.int c)), ("weight", .val (.int w))], σ) : Out) := by
    by_cases h0 : 0 ≤ c
    · refine ⟨c, h0, s_assign rfl rfl (e_ifexp (x := true) (t_cmp (a := .val (.int c)) (b := dI 0) rfl rfl rfl ?_) rfl) rfl⟩
      show some (decide ((0 : Int) ≤ c)) = some true
      rw [decide_eq_true h0]
    · refine ⟨0 - c, by omega, s_assign rfl rfl (e_ifexp (x := false) (t_cmp (a := .val (.int c)) (b := dI 0) rfl rfl rfl ?_) rfl) rfl⟩
      show some (decide ((0 : Int) ≤ c)) = some false
      rw [decide_eq_false h0]
  have hm0 : 0 ≤ Int.fmod w 1000003 := Int.fmod_nonneg_of_pos _ (by omega)
  have hm1 : Int.fmod w 1000003 < 1000003 := Int.fmod_lt_of_pos _ (by omega)
  let k : Int := if decide (c < 0) then 1 else 0
  have hk : 0 ≤ k ∧ k ≤ 1 := by
    show 0 ≤ (if decide (c < 0) then (1 : Int) else 0) ∧ (if decide (c < 0) then (1 : Int) else 0) ≤ 1
    split <;> omega
  let z : Int := Int.fmod w 1000003 * 271 + 89 * t + 17 * k + 5
  have e2 : ∀ m, (ev (callN (n + 1)) glo (m + 10)).e (fnD "_law_box").names [("script", .val (.lst (ns.map .int))), ("turn", dI t), ("cell", .val (.int c)), ("weight", .val (.int w))] σ
      (match nth (fnD "_law_box").body 2 with | .Return (some (.List [_, e] _)) _ => e | _ => .Constant .none 0 default) = some (.val (.int (Int.fmod z 65521)), σ) := fun m =>
    e_bin (a := .int z) (b := .int 65521) (e_bin (a := .int (Int.fmod w 1000003 * 271 + 89 * t + 17 * k)) (b := .int 5) (e_bin (a := .int (Int.fmod w 1000003 * 271 + 89 * t)) (b := .int (17 * k))
      (e_bin (a := .int (Int.fmod w 1000003 * 271)) (b := .int (89 * t)) (e_bin (a := .int (Int.fmod w 1000003)) (b := .int 271) (e_bin (a := .int w) (b := .int 1000003) rfl rfl rfl) rfl (if_pos (by omega))) (e_bin (a := .int 89) (b := .int t) rfl rfl (if_pos (by omega))) rfl)
      (e_bin (a := .int 17) (b := .int k) rfl (e_bcall (evals_cons rfl evals_nil rfl) rfl rfl rfl) (if_pos (by omega))) rfl) rfl rfl) rfl rfl
  by_cases hbig : (10 : Int) ^ 15 ≤ w
  · refine ⟨w, Int.fmod z 65521, hw0, Int.fmod_nonneg_of_pos _ (by omega), Int.fmod_lt_of_pos _ (by omega), ?_⟩
    refine callF_new rfl (xs_cons hc (xs_cons hw (xs_ret (s_ret (e_list (evals_cons (e_ifexp (x := true) (t_cmp (a := .val (.int w)) (b := .val (.int (10 ^ 15))) rfl rfl rfl ?_) rfl) (evals_cons (e2 46) evals_nil rfl) rfl) rfl (by simp [bnd]))))))
    show some (decide ((10 : Int) ^ 15 ≤ w)) = some true
    rw [decide_eq_true hbig]
  · refine ⟨0, Int.fmod z 65521, by omega, Int.fmod_nonneg_of_pos _ (by omega), Int.fmod_lt_of_pos _ (by omega), ?_⟩
    refine callF_new rfl (xs_cons hc (xs_cons hw (xs_ret (s_ret (e_list (evals_cons (e_ifexp (x := false) (t_cmp (a := .val (.int w)) (b := .val (.int (10 ^ 15))) rfl rfl rfl ?_) rfl) (evals_cons (e2 46) evals_nil rfl) rfl) rfl (by simp [bnd]))))))
    show some (decide ((10 : Int) ^ 15 ≤ w)) = some false
    rw [decide_eq_false hbig]
end Mine

namespace Mine
open PySem

section
variable {C : Orc} {G : Str → Option D} {n : Nat} {sc : Names} {ρ : Loc} {σ σ1 σ2 : Sto}
theorem t_and3a {a b c : Expr} {pos : Pos} (h1 : (ev C G n).t sc ρ σ a = some (false, σ1)) : (ev C G (n + 1)).t sc ρ σ (.BoolOp .And [a, b, c] pos) = some (false, σ1) := by
  show and3T (ev C G n) sc ρ σ a b c = _
  exact b2_is h1 rfl
theorem t_and3b {a b c : Expr} {pos : Pos} (h1 : (ev C G n).t sc ρ σ a = some (true, σ1)) (h2 : (ev C G n).t sc ρ σ1 b = some (false, σ2)) : (ev C G (n + 1)).t sc ρ σ (.BoolOp .And [a, b, c] pos) = some (false, σ2) := by
  show and3T (ev C G n) sc ρ σ a b c = _
  refine b2_is h1 ?_
  show and2T (ev C G n) sc ρ σ1 b c = _
  exact b2_is h2 rfl
theorem t_and3c {a b c : Expr} {pos : Pos} {o : Option (Bool × Sto)} (h1 : (ev C G n).t sc ρ σ a = some (true, σ1)) (h2 : (ev C G n).t sc ρ σ1 b = some (true, σ2)) (h3 : (ev C G n).t sc ρ σ2 c = o) : (ev C G (n + 1)).t sc ρ σ (.BoolOp .And [a, b, c] pos) = o := by
  show and3T (ev C G n) sc ρ σ a b c = _
  refine b2_is h1 ?_
  show and2T (ev C G n) sc ρ σ1 b c = _
  exact b2_is h2 h3
end

theorem cmp_same {σ : Sto} {L : List D} {N : Nat} (hg : ∀ x ∈ L, Gd N x) (hN : N + 1 ≤ bnd) : cmpR σ .NotEq (.val (.lst L)) (.val (.lst L)) = some false := by
  have h1 : depDs L ≤ N := depDs_le fun x hx => (hg x hx).2
  have h2 : depD (.lst L) ≤ bnd := by simp only [depD]; omega
  have h3 : eqD (.lst L) (.lst L) = some true := eqD_refl (.lst L) (goods_of fun x hx => (hg x hx).1)
  simp only [cmpR, eqR, if_pos h2, h3]
  rfl
theorem cmp_same1 {σ : Sto} {d : D} {N : Nat} (hg : Gd N d) (hN : N ≤ bnd) (hb : ∀ b, d ≠ .bytes b) : cmpR σ .NotEq (.val d) (.val d) = some false := by
  have h2 : depD d ≤ bnd := Nat.le_trans hg.2 hN
  have h3 := eqD_refl d hg.1
  have h4 : eqR σ (.val d) (.val d) = some true := by
    cases d <;> first | exact absurd rfl (hb _) | simp only [eqR, if_pos h2, h3]
  simp only [cmpR, h4]
  rfl

noncomputable abbrev CL (n : Nat) : Orc := callN (n + 30)
noncomputable def lawFn : Fn := fnD "law"
noncomputable def muL : List (Str × Nat) := [("box", 0)]
noncomputable def lawFor : Stmt := nth lawFn.body 5
noncomputable def lawIn : Stmt := nth (forB lawFor) 1
noncomputable def ρL (sc sp fx : D) (i : Nat) : Loc := [("script", .val sc), ("spliced", .val sp), ("fixed", .val fx), ("turn", dI i), ("box", .loc 0)]

theorem mk_expr {h : Nat} {t : T} (q : W h t) (hs : notSpl t) (hl : isLet t 1 = true) (hlv : live t 1 = true) (n : Nat) (σ : Sto) : callN (n + 2) "is_expr" [.val (mk t 1), .val (.str "...")] σ = some (.val (.bool false), σ) := by
  cases q with
  | atom a => cases hlv
  | dsym a =>
    have e : mk (.ex .dol [.atom a]) 1 = atD a := by rw [mk, if_pos ⟨rfl, rfl⟩]; rfl
    rw [e]
    cases a <;> kernel_rfl
  | dspl a ha => exact absurd rfl (hs a)
  | ddol a => exact absurd hl (by simp [isLet, letIn])
  | quo q =>
    rename_i h t
    have e : mk (.ex .quote [t]) 1 = exD "call" (makerD :: valT (sy (hdS .quote)) :: mks [t] (below .quote 1)) := by
      rw [live, if_neg (by simp)] at hlv
      rw [mk, if_neg (by simp), if_pos hlv]
    rw [e]
    kernel_rfl
  | node hh hk q =>
    rename_i h hd ks
    have hnd : hd ≠ .dol := by rintro rfl; simp at hh
    have e : mk (.ex hd ks) 1 = exD "call" (makerD :: valT (sy (hdS hd)) :: mks ks (below hd 1)) := by
      rw [live, if_neg (fun e => hnd e.1)] at hlv
      rw [mk, if_neg (fun e => hnd e.1), if_pos hlv]
    rw [e]
    kernel_rfl

theorem inner_step (n : Nat) {σ : Sto} (hσ : Bx σ) (sc sp fx u : D) (i : Nat) : ∃ ρ1 σ', Bx σ' ∧ restr (ρL sc sp fx i) ρ1 = ρL sc sp fx i ∧
    xs (CL n) glo muL 900 1000 lawFn.names 54 (setL "again" (.val u) (ρL sc sp fx i)) σ (forB lawIn) = some (.next, ρ1, σ') := by
  obtain ⟨t, σ', hb, hw, hns, hC⟩ := tree_is 3 hσ (n + 23) false
  have hlet := let_W hw (n + 21) 1 σ' (by omega) (Nat.le_refl _)
  by_cases hl : isLet t 1 = true
  · have hq : CL n "quoted" [.val (toD t)] σ' = some (.val (told t), σ') := quoted_is hw (by omega) (n + 23) σ' fun hlv σ => mk_expr hw (hns rfl) hl hlv (n + 27) σ
    have hwk : CL n "_law_worked" [.val (told t)] σ' = some (.val (.lst ((top t).map Prod.fst)), σ') := top_wk hw hl (n + 19) σ'
    have hput : CL n "_law_put" [.val (toD t), dI 1] σ' = some (.val (.lst ((top t).map Prod.snd)), σ') := by
      rw [top_snd]; exact put_W hw (n + 21) 1 σ' (Nat.le_refl _) hl
    have hcnt : CL n "_law_counts" [.val (toD t), dI 1] σ' = some (.val (.bool (live t 1)), σ') := cnt_W hw (n + 21) 1 σ' (by omega) (Nat.le_refl _)
    have hvt := top_vt hw hl
    rw [hl] at hlet
    refine ⟨setL "told" (.val (told t)) (setL "tree" (.val (toD t)) (setL "again" (.val u) (ρL sc sp fx i))), σ', hb, rfl, ?_⟩
    refine xs_cons (s_assign rfl rfl (e_call (rs := [.loc 0, dI 3, .val (.bool false)]) rfl hC rfl rfl) rfl) (xs_cons (s_if (x := true) (t_call (e_call (rs := [.val (toD t), dI 1]) rfl hlet rfl rfl))
      (xs_cons (s_assign rfl rfl (e_call (rs := [.val (toD t)]) rfl hq rfl rfl) rfl)
        (xs_cons (s_if (x := false) (t_cmp (a := .val (.lst ((top t).map Prod.fst))) (b := .val (.lst ((top t).map Prod.fst))) rfl (e_call (rs := [.val (told t)]) rfl hwk rfl rfl)
          (e_comp rfl (e_call (rs := [.val (toD t), dI 1]) rfl hput rfl rfl) rfl (comp_map Prod.snd Prod.fst fun p hp => ⟨_, rfl, e_call (rs := [.val p.2]) rfl ((hvt p hp).1 (n + 27) σ') rfl rfl⟩))
          (cmp_same (N := 16) (fun x hx => by
            obtain ⟨p, hp, rfl⟩ := List.mem_map.mp hx
            exact (hvt p hp).2) (by decide))) rfl)
        (xs_cons (s_if (x := false) ?_ rfl) rfl)))) rfl)
    cases t with
    | atom a => cases a <;> exact t_and3a rfl
    | ex h ks =>
      cases hlv : live (.ex h ks) 1 with
      | true =>
        rw [hlv] at hcnt
        exact t_and3b rfl (t_not (t_call (e_call (rs := [.val (toD (.ex h ks)), dI 1]) rfl hcnt rfl rfl)))
      | false =>
        rw [hlv] at hcnt
        have e : told (.ex h ks) = valT (treeV (toD (.ex h ks))) := by rw [told, hlv]; rfl
        rw [e]
        exact t_and3c rfl (t_not (t_call (e_call (rs := [.val (toD (.ex h ks)), dI 1]) rfl hcnt rfl rfl))) (t_cmp (a := .val (valT (treeV (toD (.ex h ks))))) (b := .val (valT (treeV (toD (.ex h ks))))) rfl rfl rfl (cmp_same1 (gd_val (gd_tree (gd_toD hw))) (by decide) (fun b e => nomatch e)))
  · have hl' : isLet t 1 = false := by simpa using hl
    rw [hl'] at hlet
    refine ⟨setL "tree" (.val (toD t)) (setL "again" (.val u) (ρL sc sp fx i)), σ', hb, rfl, ?_⟩
    exact xs_cons (s_assign rfl rfl (e_call (rs := [.loc 0, dI 3, .val (.bool false)]) rfl hC rfl rfl) rfl) (xs_cons (s_if (x := false) (t_call (e_call (rs := [.val (toD t), dI 1]) rfl hlet rfl rfl)) rfl) rfl)

theorem inner_loop (n : Nat) (sc sp fx : D) (i : Nat) : ∀ (ds : List D) {σ : Sto}, Bx σ → ∃ σ', Bx σ' ∧ forRun (xs (CL n) glo muL 900 1000 lawFn.names 54) "again" (forB lawIn) ds (ρL sc sp fx i) σ = some (.next, ρL sc sp fx i, σ')
  | [], σ, hσ => ⟨σ, hσ, rfl⟩
  | u :: ds, σ, hσ => by
    obtain ⟨ρ1, σ1, hb, hr, h1⟩ := inner_step n hσ sc sp fx u i
    obtain ⟨σ2, hb2, h2⟩ := inner_loop n sc sp fx i ds hb
    refine ⟨σ2, hb2, for_cons h1 ?_⟩
    rw [hr]
    exact h2
end Mine

namespace Mine
open PySem

noncomputable def ρO (sc sp fx : D) : Loc := [("script", .val sc), ("spliced", .val sp), ("fixed", .val fx)]
noncomputable def Ox (σ : Sto) : Prop := σ = [] ∨ ∃ e, σ = [e]

theorem outer_step (n : Nat) (ns : List Int) {σ : Sto} (hσ : Ox σ) (sp fx : D) (i : Nat) (hi : i ≤ 1) : ∃ ρ1 σ', Ox σ' ∧ restr (ρO (.lst (ns.map .int)) sp fx) ρ1 = ρO (.lst (ns.map .int)) sp fx ∧
    xs (CL n) glo muL 900 1000 lawFn.names 56 (setL "turn" (dI i) (ρO (.lst (ns.map .int)) sp fx)) σ (forB lawFor) = some (.next, ρ1, σ') := by
  obtain ⟨b0, b1, h0, h1, h2, hC⟩ := box_is ns i hi (n + 28) σ
  obtain ⟨σ', hb, hr⟩ := inner_loop n (.lst (ns.map .int)) sp fx i [.int 0, .int 1] (σ := σb 900 b0 b1) ⟨900, b0, b1, rfl, h0, h1, h2⟩
  refine ⟨ρL (.lst (ns.map .int)) sp fx i, σ', ?_, rfl, ?_⟩
  · obtain ⟨g, c0, c1, rfl, _⟩ := hb
    exact .inr ⟨_, rfl⟩
  · refine xs_cons (ρ1 := ρL (.lst (ns.map .int)) sp fx i) (σ1 := σb 900 b0 b1) (s_assign rfl rfl (e_call (rs := [.val (.lst (ns.map .int)), dI i]) rfl hC rfl rfl) ?_) (xs_cons (s_for rfl rfl rfl rfl hr) rfl)
    rcases hσ with rfl | ⟨e, rfl⟩ <;> rfl

theorem outer_loop (n : Nat) (ns : List Int) (sp fx : D) : ∀ (js : List Nat) {σ : Sto}, (∀ j ∈ js, j ≤ 1) → Ox σ → ∃ σ', forRun (xs (CL n) glo muL 900 1000 lawFn.names 56) "turn" (forB lawFor) (js.map fun j => .int (j : Nat)) (ρO (.lst (ns.map .int)) sp fx) σ = some (.next, ρO (.lst (ns.map .int)) sp fx, σ')
  | [], σ, _, hσ => ⟨σ, rfl⟩
  | j :: js, σ, hj, hσ => by
    obtain ⟨ρ1, σ1, hb, hr, h1⟩ := outer_step n ns hσ sp fx j (hj j (.head _))
    obtain ⟨σ2, h2⟩ := outer_loop n ns sp fx js (fun k hk => hj k (.tail _ hk)) hb
    refine ⟨σ2, for_cons h1 ?_⟩
    rw [hr]
    exact h2

noncomputable def splD : D := exD "$" [exD "..." [sy "xs"]]
noncomputable def lawRest : List Stmt := lawFn.body.drop 2
noncomputable def testIf : Stmt → Expr
  | .If t _ _ _ => t
  | _ => .Constant .none 0 default
noncomputable def fixD : D := exD "quote" [exD "call" [sy "f", exD "$" [exD "$" [sy "x"]]]]

theorem law_one (n : Nat) (x : D) : (ev (CL n) glo 58).t lawFn.names (ρO x splD fixD) [] (testIf (nth lawFn.body 3)) = some (false, []) := by kernel_rfl
theorem law_two (n : Nat) (x : D) : (ev (CL n) glo 57).t lawFn.names (ρO x splD fixD) [] (testIf (nth lawFn.body 4)) = some (false, []) := by kernel_rfl

theorem law_rest (n : Nat) (ns : List Int) : ∃ fr ρ' σ', xs (CL n) glo muL 900 1000 lawFn.names 60 [("script", .val (.lst (ns.map .int))), ("spliced", .val splD)] [] lawRest = some (.ret (.val (.bool true)) fr, ρ', σ') := by
  let k : Int := max 1 (min ((ns.map D.int).length : Nat) 2)
  have hk : 1 ≤ k ∧ k ≤ 2 := by
    show 1 ≤ max (1 : Int) _ ∧ max (1 : Int) _ ≤ 2
    omega
  obtain ⟨σ', hl⟩ := outer_loop n ns splD fixD (List.range k.toNat) (σ := []) (fun j hj => by rw [List.mem_range] at hj; omega) (.inl rfl)
  refine ⟨_, _, _, xs_cons (ρ1 := ρO (.lst (ns.map .int)) splD fixD) (σ1 := []) rfl (xs_cons (s_if (x := false) (law_one n _) rfl) (xs_cons (s_if (x := false) (law_two n _) rfl)
    (xs_cons (s_for rfl (e_bcall (evals_cons (e_bcall (d := .int k) (evals_cons rfl (evals_cons (e_bcall (d := .int (min ((ns.map D.int).length : Nat) 2)) (evals_cons (e_bcall (d := .int ((ns.map D.int).length : Nat)) (evals_cons rfl evals_nil rfl) rfl rfl rfl) (evals_cons rfl evals_nil rfl) rfl) rfl rfl rfl) evals_nil rfl) rfl) rfl rfl rfl) evals_nil rfl) (d := .rng k.toNat) ?_ rfl rfl) rfl rfl hl)
      (xs_ret (s_ret rfl)))))⟩
  show (if 0 ≤ k ∧ k ≤ (bnd : Int) then some (D.rng k.toNat) else none) = _
  rw [if_pos ⟨by omega, by show k ≤ 1000; omega⟩]
end Mine

namespace Mine
open PySem PySem.W PySem.Calls PyProof.Rows

noncomputable def defsOf : List Stmt → List (Str × Fn)
  | [] => []
  | .FunctionDef m a b _ _ _ sc _ _ _ :: r => (m, ⟨a.args.map (·.arg), b, sc.names⟩) :: defsOf r
  | _ :: r => defsOf r
theorem findFn_defs (n : Str) : ∀ l : List Stmt, findFn n l = ((defsOf l).find? fun e => e.1 == n).map Prod.snd
  | [] => rfl
  | s :: r => by
    have ih := findFn_defs n r
    cases s <;> try exact ih
    rename_i m a b _ _ _ sc _ _ _
    simp only [findFn, defsOf, List.find?_cons]
    cases h : m == n with
    | true => simp
    | false => simpa using ih

theorem fn_found {p : Program} {f : Str} {F : Fn} (e : (recsOf p).map (fun d => (d.name, toFn d)) = defsOf PySem.Challenge.pw_pc0188_01.main.body) (h : fnOf f = some F) : ((recsOf p).find? (fun d => d.name == f)).map toFn = some F := by
  unfold fnOf at h
  rw [findFn_defs, ← e] at h
  rw [← h]
  generalize recsOf p = l
  induction l with
  | nil => rfl
  | cons d l ih =>
    rw [List.map_cons, List.find?_cons, List.find?_cons]
    cases d.name == f with
    | true => rfl
    | false => exact ih

section
variable {prog : Program} {w : World} {h₀ : Heap} {mg mb : Str → Option Value} {p : Program} {loose : List Str} {mean : ExcName → Option Value} {K : Frag}

theorem callN_ok (T : Top p loose mean mg mb h₀) (B : Base prog w glo h₀ mg mb) (hok : (recsOf p).all okRec = true) (e : (recsOf p).map (fun d => (d.name, toFn d)) = defsOf PySem.Challenge.pw_pc0188_01.main.body) : ∀ n, COK prog w h₀ mg n (callN n)
  | 0 => fun f as σ r σ' q => (nomatch q)
  | n + 1 => fun f as σ r σ' q => by
    unfold callN at q
    split at q
    · cases q
    · split at q
      · rename_i F hF
        obtain ⟨a, o, fd, TF⟩ := fnAt_of T (fn_found e hF) hok
        exact callF_ok B (callN_ok T B hok e n) TF q
      · cases q

noncomputable def tupIn (K : Frag) (a : Addr) : Option (List Value) := match K.lookup a with
  | some ⟨.type "tuple", _, .seq vs _, _⟩ => some vs.toList
  | _ => none
noncomputable def makerIn (K : Frag) : Bool := match nsIn K mainGlobals "MAKER" with
  | some (some (.ref a)) => (match tupIn K a with
    | some [.str x _, .ref b] => x == "value" && (match tupIn K b with
      | some [.str y _, .str z _] => y == "builtin" && z == "make_expr"
      | _ => false)
    | _ => false)
  | _ => false

theorem rep_tup_in {h : Heap} {a : Addr} {vs : List Value} {ds : List D} (X : K.In h) (e : tupIn K a = some vs) (hs : vs.length ≤ 100) (r : RepL prog w h ⟨[], []⟩ vs ds) : Rep prog w h ⟨[], []⟩ (.ref a) (.tup ds) := by
  unfold tupIn at e
  split at e
  · rename_i dd vs' n sl ho
    cases e
    exact .tup (X _ _ ho) rfl rfl (Nat.le_trans (by simpa using hs) (by rw [sizeLine_eq]; decide)) r
  · cases e

theorem glo_of {h : Heap} (X : K.In h) (hg : h.Ns mainGlobals mg) (e : makerIn K = true) : ∃ v, mg "MAKER" = some v ∧ Rep prog w h ⟨[], []⟩ v makerD := by
  unfold makerIn at e
  split at e
  · rename_i a hn
    split at e
    · rename_i x t b ht
      rw [Bool.and_eq_true] at e
      obtain ⟨e1, e2⟩ := e
      obtain rfl := beq_iff_eq.mp e1
      split at e2
      · rename_i y u z v hb
        rw [Bool.and_eq_true] at e2
        obtain ⟨e3, e4⟩ := e2
        obtain rfl := beq_iff_eq.mp e3
        obtain rfl := beq_iff_eq.mp e4
        exact ⟨_, ns_some_of X hg hn, rep_tup_in X ht (by simp) (.cons (Rep.str ..) (.cons (rep_tup_in X hb (by simp) (.cons (Rep.str ..) (.cons (Rep.str ..) .nil))) .nil))⟩
      · cases e2
    · cases e
  · cases e

noncomputable def noGlo (K : Frag) : Bool := bnames.all fun f => nsIn K mainGlobals f == some none
theorem base_of {h : Heap} (X : K.In h) (T : Top p loose mean mg mb h) (e1 : makerIn K = true) (e2 : noGlo K = true) : Base prog w glo h mg mb := by
  refine ⟨T.g, T.b, T.nolimit, fun x d hx => ?_, fun f bv hf => ?_⟩
  · unfold glo at hx
    split at hx
    · rename_i h1
      cases hx
      obtain rfl := beq_iff_eq.mp h1
      exact glo_of X T.g e1
    · cases hx
  · have hno : ∀ f ∈ bnames, mg f = none := fun f hf => ns_none_of X T.g (by
      have := List.all_eq_true.mp e2 f hf
      simpa using this)
    unfold bval at hf
    repeat' split at hf
    all_goals first
      | (cases hf; done)
      | (rename_i h1; cases hf; obtain rfl := beq_iff_eq.mp h1; exact ⟨hno _ (by decide +kernel), (T.builtins _ (by decide +kernel)).trans (by first | exact PyProof.Rows.Boot.«len» | exact PyProof.Rows.Boot.«tuple» | exact PyProof.Rows.Boot.«list» | exact PyProof.Rows.Boot.«all» | exact PyProof.Rows.Boot.«max» | exact PyProof.Rows.Boot.«min» | exact PyProof.Rows.Boot.«range» | exact PyProof.Rows.Boot.«int»)⟩)
end
end Mine

namespace Mine
open PySem PySem.W PySem.Calls PyProof.Rows

section
variable {prog : Program} {w : World} {h₀ : Heap} {mg mb : Str → Option Value} {p : Program} {loose : List Str} {mean : ExcName → Option Value} {K : Frag} {A : Around} {E : Value → Shared → Prop} {s : Shared} {Q : Flow → Shared → Prop}

theorem wp_execs_cut {M : Model} {Γ : Ctx} {env : Env} {P : Flow → Pos → Shared → Prop} {Ee : Value → Pos → Shared → Prop} {l2 : List Stmt} : ∀ (l1 : List Stmt) {pp : Pos} {s : Shared},
    Sem.wp M Γ (execs l1 env) (fun f p' s' => f = .next ∧ Sem.wp M Γ (execs l2 env) P Ee p' s') Ee pp s → Sem.wp M Γ (execs (l1 ++ l2) env) P Ee pp s
  | [], pp, s, h => h.2
  | st :: l1, pp, s, h => by
    rw [execs_cons, Sem.wp_bind'] at h
    rw [List.cons_append, execs_cons, Sem.wp_bind']
    refine Sem.wp_mono M Γ _ (fun f p' s' h' => ?_) (fun _ _ _ x => x) _ _ h
    cases f with
    | next => exact wp_execs_cut l1 h'
    | _ => exact (nomatch h'.1)
theorem execs_cut {M : Model} {env : Env} (body : List Stmt) (n : Nat) (h : wpAny M A (execs (body.take n) env) (fun f s' => f = .next ∧ wpAny M A (execs (body.drop n) env) Q E s') E s) : wpAny M A (execs body env) Q E s := by
  intro Γ pp hΓ
  have h0 := h Γ pp hΓ
  rw [← List.take_append_drop n body]
  exact wp_execs_cut _ (Sem.wp_mono M Γ _ (fun f p' s' h' => ⟨h'.1, h'.2 Γ p' hΓ⟩) (fun _ _ _ x => x) _ _ h0)

theorem rep_ints {h : Heap} {μ : Mu} {vs : List Value} {ns : List Int} (r : IntsAre vs ns) : RepL prog w h μ vs (ns.map .int) := by
  induction r with
  | nil => exact .nil
  | cons n t r ih => exact .cons (Rep.int _ _) ih
theorem ints_len {vs : List Value} {ns : List Int} (r : IntsAre vs ns) : vs.length = ns.length := by
  induction r with
  | nil => rfl
  | cons n t r ih => rw [List.length_cons, List.length_cons, ih]

theorem law_inv {h' : Heap} {L a l : Addr} {name : Str} {scope : Scope} {cd : Value} {vs : List Value} {ns : List Int} (hsc : scope.names = lawFn.names) (hk : scope.kind = .function) (hl : h₀.IsList l vs.toArray) (hI : IntsAre vs ns) (hlen : ¬ ((63 : Int) < ns.length))
    {m : Str → Option Value} (F : Fr h₀ L h' m) (hm1 : m "script" = some (.ref l)) :
    Inv prog w h₀ h₀ (envOf name scope L a cd) lawFn.names h' ⟨[], []⟩ [("script", .val (.lst (ns.map .int)))] [] := by
  have nocell : ∀ n, lawFn.names.lookup n ≠ some .cell := fun n q => by
    have h1 : lawFn.names.all (fun x => x.2 != .cell) = true := by kernel_rfl
    have := List.all_eq_true.mp h1 _ (lookup_mem q)
    cases this
  have hLn : h₀.get? L = none := by
    cases q : h₀.get? L with
    | none => rfl
    | some o => exact absurd (Heap.lt_size q) (Nat.not_lt.mpr F.above)
  have hno : ∀ a, ¬ Mu.has ⟨[], []⟩ a := fun a q => by rcases q with q | q <;> cases q
  obtain ⟨o, ho, hc, nn, hd⟩ := hl
  have hlL : l ≠ L := fun q => by rw [q, hLn] at ho; cases ho
  refine ⟨⟨hk, hsc, rfl, rfl, fun n q => absurd q (nocell n)⟩, fun _ _ q => q, Keep.of F.keep, fun a q => absurd q (hno a), ⟨m, F.ns⟩, hLn, fun n q => absurd q (nocell n), fun n _ _ q => absurd q (nocell n), fun x r hx => ?_, ⟨rfl, List.Pairwise.nil, fun b hb => (nomatch hb), fun l b e hl => by simp at hl⟩⟩
  rw [List.lookup_cons] at hx
  split at hx
  · rename_i hxe
    obtain rfl := beq_iff_eq.mp hxe
    cases hx
    refine ⟨.ref l, .inl ⟨by kernel_rfl, m, F.ns, hm1⟩, Rep.lst (F.keep _ _ ho) hc hd ?_ (hno l) (rep_ints hI), fun q => hlL (Value.ref.inj q)⟩
    have : (64 : Nat) ≤ sizeLine := by rw [sizeLine_eq]; decide
    show vs.toArray.size ≤ sizeLine
    rw [List.size_toArray, ints_len hI]
    omega
  · cases hx

theorem law_room {env : Env} : Room (callerA.deeper env) 60 30 := ⟨rfl, by rw [depth_deeper, depth_caller]; decide +kernel, by
  have h : (callerA.deeper env).units = 7 := rfl
  rw [h, bnd_is]
  decide +kernel⟩
end
end Mine

namespace Mine
open PySem PySem.W PySem.Calls PyProof.Rows PySem.SeqAt

/-- an exception is on its way through these frames; of what stood in g only the slots of L have changed -/
noncomputable def Fly (g : Heap) (L : Addr) (l : List Env) (C e : Addr) (h' : Heap) : Prop :=
  ∃ B t, Heap.FlyingW B l e (.ref C) (.ref t) h' ∧ (∀ b o, g.get? b = some o → b ≠ L → B.get? b = some o) ∧ g.UpToSlots h'

section
variable {M : Model} {prog : Program} {w : World} {A : Around} {E : Value → Shared → Prop} {s s' : Shared} {env : Env} {outer : List Env} {g h₀ hr : Heap} {C e t L Lx : Addr} {ms : List Value} {Q : Unit → Shared → Prop}

theorem leave_first (hfr : A.frames = some (env :: outer)) (hf : env.frame = some Lx) (FF : hr.FunFrames h₀ (env :: outer)) (k : ∀ b o, g.get? b = some o → hr.get? b = some o) (hfresh : ∀ x ∈ (env :: outer).filterMap (·.frame), x ≠ L → g.get? x = none)
    (T : Thrown hr s'.heap e C t ms) (hQ : ∀ h', Fly g L outer C e h' → Q () { s' with heap := h' }) : wpAny M A (leaving env (.ref e)) Q E s' := by
  have hin : ∀ x ∈ (env :: outer), ∀ b, x.frame = some b → b ∈ (env :: outer).filterMap (·.frame) := fun x he b hb => List.mem_filterMap.mpr ⟨x, he, hb⟩
  have kb : (hideAll hr ((env :: outer).filterMap (·.frame))).StaysIn hr := fun b o q => of_hideAll _ q
  obtain ⟨oe, vs, he, hc, hd, h0, h1⟩ := T.obj
  refine wpAny_leaving_firstW (a0 := .ref t) hfr ((funFrames_hide FF hin).of_keeps fun b o hb _ => ⟨o, T.keeps b o hb, rfl⟩) hf he (fun b o hb => T.keeps b o (kb b o hb)) (fresh_of_stays kb T.new) hd h1 h0 fun h' hL => ?_
  obtain ⟨k1, ⟨_, _, k2⟩, k3, k4⟩ := hL
  rw [hc] at k3
  refine hQ h' ⟨hideAll hr ((env :: outer).filterMap (·.frame)), t, ⟨k1, fresh_of_stays kb T.new, k2, k3⟩, fun b o hb hbL => hideAll_get _ (k b o hb) fun hm => ?_, ((Heap.UpToSlots.of_keeps k).trans (Heap.UpToSlots.of_keeps T.keeps)).trans k4⟩
  rw [hfresh b hm hbL] at hb; cases hb

theorem leave_on (hfr : A.frames = some (env :: outer)) (hf : env.frame = some Lx) (F : Fly g L (env :: outer) C e s'.heap) (hQ : ∀ h', Fly g L outer C e h' → Q () { s' with heap := h' }) : wpAny M A (leaving env (.ref e)) Q E s' := by
  obtain ⟨B, t, k1, k2, k3⟩ := F
  exact wpAny_leaves_onW hfr hf k1 fun h' x1 x2 => hQ h' ⟨B, t, x1, k2, k3.trans x2⟩

theorem catch_ok {mg mb : Str → Option Value} {C' N fI : Addr} {fd : FuncData} {Q : Flow → Shared → Prop} {sc : Names} {np cp rp pos : Pos} {kk : Nat} {b : Bool} {rest : List ExceptHandler} (X : ExcBase h₀ mg mb C C' N fI fd) (eo : EnvOK env sc) (hx : sc.lookup ("MacroFault" : Str) = some .globalImplicit)
    (hfr : A.frames = some (env :: outer)) (hf : env.frame = some Lx) (old : ∀ b o, h₀.get? b = some o → g.get? b = some o) (hL : h₀.get? L = none) (F : Fly g L (env :: outer) C e s'.heap) (hQ : ∀ h', Fly g L (env :: outer) C e h' → Q (.ret (.bool b)) { s' with heap := h' }) :
    wpAny (model prog w) A (noteFrame (.ref e) env) (fun _ s₂ => wpAny (model prog w) A (setFlight (.ref e) none) (fun _ s₃ => wpAny (model prog w) A (handleBy (.ref e) env (.ExceptHandler (some (.Name "MacroFault" np)) none [.Return (some (.Constant (.bool b) kk cp)) rp] pos :: rest)) Q E s₃) E s₂) E s' := by
  obtain ⟨B, t, k1, k2, k3⟩ := F
  have kB : h₀.StaysIn B := fun b o q => k2 b o (old b o q) fun z => by rw [z, hL] at q; cases q
  refine wpAny_looks_onW hfr hf k1 fun h₄ held₄ sm₄ => ?_
  refine wpAny_landsW held₄ fun h₅ held₅ sm₅ => ?_
  have st : ∀ b o, h₀.get? b = some o → h₅.get? b = some o := fun b o q => held₅.1 b o (kB b o q)
  obtain ⟨ob, hob, hobc⟩ := held₅.there
  refine wpAny_handleBy_cons (codeAny_handlers_test (Calls.Name_function_global eo.kind (by show env.scope.names.lookup _ = _; rw [eo.names]; exact hx) (Calls.loadGlobal_global (by rw [eo.glob]; exact X.g.keeps st) X.at' ?_) (by decide))) (by intro q; cases q)
  obtain ⟨⟨nm, q, bs, sn, sub, ab, col, dd, k0, k1, k2, k3, k5, hC⟩, _⟩ := X.mf.keeps st
  refine wpAny_excMatches_sub_self hC hob hobc (exB_has (C := C) (C' := C') "BaseException" true (by decide)) (codeAny_handlers_suite ?_)
  refine lands_againW held₅ fun h₆ fl₆ sm₆ => ?_
  exact wpAny_execs_cons (wpAny_Return_some (wpAny_Constant_bool (hQ h₆ ⟨B, t, fl₆, by assumption, (‹g.UpToSlots s'.heap›.trans sm₄).trans (sm₅.trans sm₆)⟩)))
end
end Mine

namespace Mine
open PySem PySem.W PySem.Calls PyProof.Rows PySem.SeqAt

/-- these frames lie in h, and not in h₀ -/
noncomputable def Frm (h₀ h : Heap) (l : List Env) : Prop := ∀ env ∈ l, env.scope.kind = .function ∧ ∃ L m, env.frame = some L ∧ h₀.get? L = none ∧ h.Ns L m
theorem Frm.ff {h₀ h : Heap} : ∀ {l : List Env}, Frm h₀ h l → h.FunFrames h₀ l
  | [], _ => trivial
  | env :: l, F => by
    obtain ⟨h1, L, m, h2, h3, o, es, ep, ho, hd, _⟩ := F env (.head _)
    exact ⟨by rw [h1]; decide, ⟨L, o, h2, h3, ho, fun vs q => by rw [hd] at q; cases q⟩, Frm.ff fun x hx => F x (.tail _ hx)⟩
theorem Frm.keeps {h₀ h h' : Heap} {l : List Env} (F : Frm h₀ h l) (k : ∀ b o, h.get? b = some o → h'.get? b = some o) : Frm h₀ h' l := fun x hx =>
  let ⟨h1, L, m, h2, h3, h4⟩ := F x hx; ⟨h1, L, m, h2, h3, h4.keeps k⟩

section
variable {prog : Program} {w : World} {A : Around} {E : Value → Shared → Prop} {s : Shared} {env : Env} {outer : List Env} {g h₀ hb h h' : Heap} {C' N fI e L Lx : Addr} {c : Addr} {μ : Mu} {ρ : Loc} {σ σ' : Sto} {sc : Names} {G : Str → Option D} {mg mb : Str → Option Value} {n k : Nat} {fd0 : FuncData} {C : Orc}

theorem Frm.keep (F : Frm h₀ h outer) (S : StoOK prog w h μ σ) (k : Keep μ h h') : Frm h₀ h' outer := fun x hx =>
  let ⟨h1, L, m, h2, h3, h4⟩ := F x hx; ⟨h1, L, m, h2, h3, Ns.keep S k h4⟩
theorem Frm.push (F : Frm h₀ h outer) (I : Inv prog w h₀ hb env sc h μ ρ σ) (hf : env.frame = some env.locals) : Frm h₀ h (env :: outer) := fun x hx => by
  rcases List.mem_cons.mp hx with rfl | hx
  · obtain ⟨m, hm⟩ := I.ns
    refine ⟨I.eo.kind, _, m, hf, ?_, hm⟩
    cases q : h₀.get? x.locals with
    | none => rfl
    | some o => have := I.sub _ _ q; rw [I.loc] at this; cases this
  · exact F x hx

/-- only the slots of the def's own frame have changed -/
theorem Inv.slots (I : Inv prog w h₀ hb env sc h μ ρ σ) (hm : ¬ μ.has env.locals) (k : ∀ b o, h.get? b = some o → b ≠ env.locals → h'.get? b = some o) (u : h.UpToSlots h') : Inv prog w h₀ hb env sc h' μ ρ σ := by
  obtain ⟨m, hn⟩ := I.ns
  have U : UnRep h μ env.locals := UnRep.ns hn
  have k' : ∀ b o, b ≠ env.locals → h.get? b = some o → h'.get? b = some o := fun b o q e => k b o e q
  have nsk : ∀ {m}, h.Ns env.locals m → h'.Ns env.locals m := fun x => u.ns x
  have ck : ∀ {c v}, h.IsCell c v → h'.IsCell c v := fun {c v} ⟨o, ho, hd⟩ => ⟨o, k c o ho (fun q => by
    subst q
    obtain ⟨o', es, ep, ho', hd', _⟩ := hn
    rw [ho] at ho'; cases ho'; rw [hd] at hd'; cases hd'), hd⟩
  refine ⟨I.eo, I.sub, fun b o hb' e => ?_, I.off, ⟨m, nsk hn⟩, I.loc, fun x hx => ?_, I.inj, fun x r hx => ?_, I.sto.but U (fun q => hm (.inl q)) (fun q => absurd (.inr q) hm) k'⟩
  · exact k b o (I.kb b o hb' e) fun q => by rw [q, I.loc] at e; cases e
  · obtain ⟨c, v, h1, h2, h3⟩ := I.cel x hx
    exact ⟨c, v, h1, ck h2, h3⟩
  · obtain ⟨v, l, r, z⟩ := I.fr x r hx
    refine ⟨v, ?_, r.but U k' z, z⟩
    rcases l with ⟨h1, m', h2, h3⟩ | ⟨h1, c, h2, h3⟩
    · exact .inl ⟨h1, m', nsk h2, h3⟩
    · exact .inr ⟨h1, c, h2, ck h3⟩

theorem raise_up {Q : Flow → Shared → Prop} (B : Base prog w G h₀ mg mb) (X : ExcBase h₀ mg mb c C' N fI fd0) {np cp pp pos : Pos} {nk : Nat} {msg : Str} (I : Inv prog w h₀ hb env sc s.heap μ ρ σ) (R0 : Room A n (k + 2)) (hx : sc.lookup ("MacroFault" : Str) = some .globalImplicit)
    (hfr : A.frames = some (env :: outer)) (hf : env.frame = some env.locals) (FR : Frm h₀ s.heap outer) (kg : ∀ b o, g.get? b = some o → s.heap.get? b = some o) (fr : ∀ x ∈ (env :: outer).filterMap (·.frame), x ≠ L → g.get? x = none)
    (hE : ∀ h' tk e, Fly g L outer c e h' → E (.ref e) { s with heap := h', toks := tk }) :
    wpAny (model prog w) A (execs [.Raise (some (.Call (.Name "MacroFault" np) [.Constant (.str msg) nk cp] [] pp)) none pos] env) Q (fun e s' => wpAny (model prog w) A (leaving env e) (fun _ s'' => E e s'') (fun e' s'' => E e' s'') s') s :=
  wpAny_execs_cons (raise_ok B X I R0.hh (by have := R0.dep; omega) hx fun h' tk e t tk0 T => leave_first hfr hf (FR.push I hf).ff kg fr T fun h'' F => hE h'' tk e F)

/-- a def is called -/
theorem call_in {F : Fn} {f : Str} {a : Addr} {o : Obj} {fd : FuncData} {Q : Value → Shared → Prop} (B : Base prog w G h₀ mg mb) (T : FnAt F f h₀ mg a o fd) {as : List R} {vs : List Value} (hlen : as.length = F.params.length) (R0 : Room A 0 (k + 1)) (old : ∀ b o, h₀.get? b = some o → s.heap.get? b = some o)
    (off : ∀ a, μ.has a → h₀.get? a = none) (S : StoOK prog w s.heap μ σ) (rs : RepRs prog w s.heap μ vs as)
    (h : ∀ env h₁ tk, env.frame = some env.locals → s.heap.get? env.locals = none → Inv prog w h₀ s.heap env F.names h₁ μ (F.params.zip as) σ → Room (A.deeper env) 60 k →
      wpAny (model prog w) (A.deeper env) (execs F.body env) (fun f s' => Q (match f with | .ret v => v | _ => .none) s')
        (fun e s' => wpAny (model prog w) (A.deeper env) (leaving env e) (fun _ s'' => E e s'') (fun e' s'' => E e' s'') s') { s with heap := h₁, toks := tk }) : wpAny (model prog w) A (call (.ref a) vs) Q E s := by
  have hvl : vs.length = F.params.length := by rw [rs.length, hlen]
  refine wpAny_call (codeAny_call_cells (by have := R0.dep; omega) (old _ _ T.obj) T.dat (B.nolimit.keeps old) (T.crec.keeps old) T.body (T.bind vs hvl) T.clo (fun x hx => ?_) (fun s₁ x => ?_) T.co T.gen T.kind)
  · have := (List.of_mem_zip hx).1
    rw [T.names]
    rcases T.pars _ this with hl | hc
    · exact .inl hl
    · exact .inr ⟨hc, cellsFrom_some (.inl (lookup_mem hc))⟩
  have R1 : Room (A.deeper (callEnvC fd s.heap.objs.size a)) 60 k := ⟨R0.hh, by have := R0.dep; show A.depth + 1 + k < _; omega, by have := R0.uni; show A.units + 3 + 60 + 200 * (k + 1) + bnd + 100 < _; omega⟩
  obtain ⟨h₁, tk₁, rfl⟩ := x.toInCall.same
  exact h _ h₁ tk₁ rfl (Heap.get?_none_of_le (Nat.le_refl _)) (entry_ok T hlen old off S rs x) R1
end
end Mine

namespace Mine
open PySem PySem.W PySem.Calls PyProof.Rows PySem.SeqAt

noncomputable def ifBody : Stmt → List Stmt
  | .If _ b _ _ => b
  | .While _ b _ _ => b
  | _ => []
noncomputable def ifElse : Stmt → List Stmt
  | .If _ _ o _ => o
  | _ => []
noncomputable def whTest : Stmt → Expr
  | .While t _ _ _ => t
  | _ => .Constant .none 0 default
noncomputable def ρof (o : Out) : Loc := match o with | some (_, ρ, _) => ρ | none => []
noncomputable def σof (o : Out) : Sto := match o with | some (_, _, σ) => σ | none => []

noncomputable def piF : Fn := fnD "put_in"
noncomputable def quF : Fn := fnD "quoted"
noncomputable def badN : D := exD "$" [sy "x", sy "y"]
noncomputable def badD : D := exD "tuple" [badN]
noncomputable def C28 : Orc := callN 28

theorem pi_body : ∃ np nk cp pp pos p rest, piF.body = .If (testIf (nth piF.body 0)) [.Raise (some (.Call (.Name "MacroFault" np) [.Constant (.str "a $ puts in one thing") nk cp] [] pp)) none pos] [] p :: rest := ⟨_, _, _, _, _, _, _, rfl⟩
theorem pi_test (σ : Sto) : (ev (callN 27) glo 50).t piF.names [("tree", .val badN)] σ (testIf (nth piF.body 0)) = some (true, σ) := by kernel_rfl

theorem qu_last : ∃ np nk cp pp pos p rest, quF.body.drop 3 = .If (testIf (nth quF.body 3)) [.Raise (some (.Call (.Name "MacroFault" np) [.Constant (.str "what is put in part by part stands within a tree") nk cp] [] pp)) none pos] [] p :: rest := ⟨_, _, _, _, _, _, _, rfl⟩

noncomputable def run3 : Out := xs C28 glo muQ 900 1000 quF.names 60 [("tree", .val splD)] [] (quF.body.take 3)
theorem run3_is : run3 = some (.next, ρof run3, σof run3) := by kernel_rfl
theorem run3_test : (ev C28 glo 50).t quF.names (ρof run3) (σof run3) (testIf (nth quF.body 3)) = some (true, σof run3) := by kernel_rfl

noncomputable def wB : List Stmt := ifBody (nth quF.body 1)
noncomputable def wT : Expr := whTest (nth quF.body 1)
noncomputable def run0 : Out := xs C28 glo muQ 900 1000 quF.names 60 [("tree", .val badD)] [] (quF.body.take 1)
theorem run0_is : run0 = some (.next, ρof run0, σof run0) := by kernel_rfl
theorem run0_test : (ev C28 glo 50).t quF.names (ρof run0) (σof run0) wT = some (true, σof run0) := by kernel_rfl
noncomputable def run1 : Out := xs C28 glo muQ 900 1000 quF.names 60 (ρof run0) (σof run0) wB
theorem run1_is : run1 = some (.next, ρof run1, σof run1) := by kernel_rfl
theorem run1_test : (ev C28 glo 50).t quF.names (ρof run1) (σof run1) wT = some (true, σof run1) := by kernel_rfl
noncomputable def run2 : Out := xs C28 glo muQ 900 1000 quF.names 60 (ρof run1) (σof run1) (wB.take 1)
theorem run2_is : run2 = some (.next, ρof run2, σof run2) := by kernel_rfl
noncomputable def i1 : Stmt := nth wB 1
noncomputable def i2 : Stmt := nth (ifElse i1) 0
noncomputable def i3 : Stmt := nth (ifElse i2) 0
theorem i1_test : (ev C28 glo 50).t quF.names (ρof run2) (σof run2) (testIf i1) = some (false, σof run2) := by kernel_rfl
theorem i2_test : (ev C28 glo 50).t quF.names (ρof run2) (σof run2) (testIf i2) = some (false, σof run2) := by kernel_rfl
theorem i3_test : (ev C28 glo 50).t quF.names (ρof run2) (σof run2) (testIf i3) = some (true, σof run2) := by kernel_rfl
theorem qu_while : ∃ p, quF.body.drop 1 = .While wT wB [] p :: quF.body.drop 2 := ⟨_, rfl⟩
theorem i1_is : ∃ b p, wB.drop 1 = [.If (testIf i1) b [i2] p] := ⟨_, _, rfl⟩
theorem i2_is : ∃ b p, i2 = .If (testIf i2) b [i3] p := ⟨_, _, rfl⟩
theorem i3_is : ∃ xp ap k cp fp np pp tk tp qp qq o p, i3 = .If (testIf i3) [.Expr (.Call (.Attribute (.Name "done" xp) "append" ap) [.Tuple [.Constant (.bool false) k cp, .Call (.Name "put_in" fp) [.Name "node" np] [] pp] tk tp] [] qp) qq] o p ∧ (ap.endLine == qp.line) = true := ⟨_, _, _, _, _, _, _, _, _, _, _, _, _, rfl, rfl⟩
theorem run2_node : (ρof run2).lookup ("node" : Str) = some (.val badN) := by kernel_rfl
theorem run2_done : (ρof run2).lookup ("done" : Str) = some (.loc 0) := by kernel_rfl
end Mine

namespace Mine
open PySem PySem.W PySem.Calls PyProof.Rows PySem.SeqAt

section
variable {prog : Program} {w : World} {A : Around} {E : Value → Shared → Prop} {s : Shared} {env : Env} {outer : List Env} {g h₀ hb h h' : Heap} {C' N fI e L Lx a c : Addr} {μ : Mu} {ρ : Loc} {σ σ' : Sto} {sc : Names} {G : Str → Option D} {mg mb : Str → Option Value} {n k : Nat} {fd fd0 : FuncData} {C : Orc} {o : Obj} {vs : List Value}

/-- what is known where a def is called, with an exception on its way to come -/
structure Up (h₀ g : Heap) (L : Addr) (A : Around) (outer : List Env) (μ : Mu) (h : Heap) : Prop where
  st : A.frames = some outer
  fr : Frm h₀ h outer
  old : ∀ b o, h₀.get? b = some o → h.get? b = some o
  kg : ∀ b o, g.get? b = some o → h.get? b = some o
  fresh : ∀ x ∈ outer.filterMap (·.frame), x ≠ L → g.get? x = none
  gm : ∀ b ∈ μ.locs, g.get? b = none
  off : ∀ a, μ.has a → h₀.get? a = none

theorem Up.keep (U : Up h₀ g L A outer μ h) (S : StoOK prog w h μ σ) (k : Keep μ h h') : Up h₀ g L A outer μ h' where
  st := U.st
  fr := U.fr.keep S k
  old := fun b o q => k b o (fun m => by rw [U.off b (.inl m)] at q; cases q) (U.old b o q)
  kg := fun b o q => k b o (fun m => by rw [U.gm b m] at q; cases q) (U.kg b o q)
  fresh := U.fresh
  gm := U.gm
  off := U.off
/-- behind a call -/
theorem Up.push (U : Up h₀ g L A outer μ hb) (I : Inv prog w h₀ hb env sc h μ ρ σ) (F : Frm h₀ h outer) (hf : env.frame = some env.locals) : Up h₀ g L (A.deeper env) (env :: outer) μ h where
  st := Around.frames_deeper U.st
  fr := F.push I hf
  old := I.old
  kg := fun b o q => I.kb b o (fun m => by rw [U.gm b m] at q; cases q) (U.kg b o q)
  fresh := fun x hx hL => by
    rw [List.filterMap_cons, hf] at hx
    rcases List.mem_cons.mp hx with rfl | hx
    · cases q : g.get? env.locals with
      | none => rfl
      | some o => have := U.kg _ _ q; rw [I.loc] at this; cases this
    · exact U.fresh x hx hL
  gm := U.gm
  off := U.off

theorem if_go (HT : OkT prog w h₀ (ev C G n) n k) {t : Expr} {b o : List Stmt} {p : Pos} {x : Bool} {Q : Flow → Shared → Prop} (q : (ev C G n).t sc ρ σ t = some (x, σ)) (R0 : Room A n k) (I : Inv prog w h₀ hb env sc s.heap μ ρ σ)
    (h : ∀ h' tk, Keep μ s.heap h' → Inv prog w h₀ hb env sc h' μ ρ σ → wpAny (model prog w) A (execs (if x then b else o) env) Q E { s with heap := h', toks := tk }) : wpAny (model prog w) A (exec (.If t b o p) env) Q E s := by
  refine wpAny_If (HT _ _ _ _ _ _ _ _ _ _ _ _ _ q R0 I fun h' tk k1 S1 => ?_)
  have := h h' tk k1 (I.keep k1 S1)
  cases x with
  | true => exact this
  | false => exact this

theorem pi_up {Q : Value → Shared → Prop} (B : Base prog w glo h₀ mg mb) (X : ExcBase h₀ mg mb c C' N fI fd0) (HC : COK prog w h₀ mg 27 (callN 27)) (T : FnAt piF "put_in" h₀ mg a o fd) (U : Up h₀ g L A outer μ s.heap) (R0 : Room A 0 28) (S : StoOK prog w s.heap μ σ) (rs : RepRs prog w s.heap μ vs [.val badN])
    (hE : ∀ h' tk e, Fly g L outer c e h' → E (.ref e) { s with heap := h', toks := tk }) : wpAny (model prog w) A (call (.ref a) vs) Q E s := by
  refine call_in B T rfl R0 U.old U.off S rs fun env h₁ tk hf hn I R1 => ?_
  obtain ⟨np, nk, cp, pp, pos, p, rest, hb⟩ := pi_body
  rw [hb]
  have U1 := U.push I (U.fr.keep S I.kb) hf
  refine wpAny_execs_cons (if_go (s := { s with heap := h₁, toks := tk }) (ev_ok B HC 50).2 (pi_test σ) (R1.less (by decide)) I fun h' tk' k1 I1 => ?_)
  have U2 := U1.keep I.sto k1
  exact raise_up (s := { s with heap := h', toks := tk' }) B X I1 (R1.less (m := 50) (by decide)) (by kernel_rfl) U2.st hf (fun x hx => U2.fr x (.tail _ hx)) U2.kg U2.fresh fun h'' tk'' e F => hE h'' tk'' e F
end
end Mine

namespace Mine
open PySem PySem.W PySem.Calls PyProof.Rows PySem.SeqAt

section
variable {prog : Program} {w : World} {A : Around} {E : Value → Shared → Prop} {s : Shared} {env : Env} {outer : List Env} {g h₀ hb h h' : Heap} {C' N fI e L Lx a a2 c : Addr} {μ : Mu} {ρ ρ' : Loc} {σ σ' : Sto} {sc : Names} {G : Str → Option D} {mg mb : Str → Option Value} {n k : Nat} {fd fd0 fd2 : FuncData} {C : Orc} {o o2 : Obj} {vs : List Value}

/-- a part of the text is run to its end -/
theorem run_go (B : Base prog w glo h₀ mg mb) (HC : COK prog w h₀ mg 28 C28) {ss : List Stmt} {P : Flow → Shared → Prop} (q : xs C28 glo muQ 900 1000 sc 60 ρ σ ss = some (.next, ρ', σ')) (R0 : Room A 60 28) (I : Inv prog w h₀ hb env sc s.heap μ ρ σ) (fr : ∀ b ∈ μ.locs, hb.get? b = none)
    (h : ∀ h' tk μ', Inv prog w h₀ hb env sc h' μ' ρ' σ' → (∀ b ∈ μ'.locs, hb.get? b = none) → P .next { s with heap := h', toks := tk }) : wpAny (model prog w) A (execs ss env) P E s :=
  xs_ok B HC 60 env hb _ _ _ _ _ _ A s μ _ _ q R0 I (fun _ => fr) fun h' tk μ' I' mg' kf' => h h' tk μ' I' (mg'.fresh I (fun _ => fr) (by decide))

theorem Up.run {U0 : Mu} (U : Up h₀ g L A outer U0 hb) (he : U0 = ⟨[], []⟩) (I : Inv prog w h₀ hb env sc h μ ρ σ) (fr : ∀ b ∈ μ.locs, hb.get? b = none) (hf : env.frame = some env.locals) : Up h₀ g L (A.deeper env) (env :: outer) μ h := by
  subst he
  have kall : ∀ b o, hb.get? b = some o → h.get? b = some o := fun b o q => I.kb b o (fun m => by rw [fr b m] at q; cases q) q
  have V : Up h₀ g L A outer μ hb := ⟨U.st, U.fr, U.old, U.kg, U.fresh, fun b m => (by
    cases q : g.get? b with
    | none => rfl
    | some o => have := U.kg _ _ q; rw [fr b m] at this; cases this), I.off⟩
  exact V.push I (U.fr.keeps kall) hf

theorem qu_up1 {Q : Value → Shared → Prop} (B : Base prog w glo h₀ mg mb) (X : ExcBase h₀ mg mb c C' N fI fd0) (HC : COK prog w h₀ mg 28 C28) (T : FnAt quF "quoted" h₀ mg a o fd) (U : Up h₀ g L A outer ⟨[], []⟩ s.heap) (R0 : Room A 0 29) (S : StoOK prog w s.heap ⟨[], []⟩ []) (rs : RepRs prog w s.heap ⟨[], []⟩ vs [.val splD])
    (hE : ∀ h' tk e, Fly g L outer c e h' → E (.ref e) { s with heap := h', toks := tk }) : wpAny (model prog w) A (call (.ref a) vs) Q E s := by
  refine call_in B T rfl R0 U.old U.off S rs fun env h₁ tk hf hn I R1 => ?_
  refine execs_cut _ 3 (run_go (s := { s with heap := h₁, toks := tk }) B HC run3_is R1 I (fun b m => nomatch m) fun h2 tk2 μ2 I2 fr2 => ⟨rfl, ?_⟩)
  obtain ⟨np, nk, cp, pp, pos, p, rest, hb⟩ := qu_last
  rw [hb]
  have U2 := U.run rfl I2 fr2 hf
  refine wpAny_execs_cons (if_go (s := { s with heap := h2, toks := tk2 }) (ev_ok B HC 50).2 run3_test (R1.less (by decide)) I2 fun h3 tk3 k3 I3 => ?_)
  have U3 := U2.keep I2.sto k3
  exact raise_up (k := 26) (s := { s with heap := h3, toks := tk3 }) B X I3 (R1.less (m := 50) (by decide)) (by kernel_rfl) U3.st hf (fun x hx => U3.fr x (.tail _ hx)) U3.kg U3.fresh fun h'' tk'' e F => hE h'' tk'' e F
end
end Mine

namespace Mine
open PySem PySem.W PySem.Calls PyProof.Rows PySem.SeqAt

section
variable {prog : Program} {w : World} {A : Around} {E : Value → Shared → Prop} {s : Shared} {env : Env} {outer : List Env} {g h₀ hb h h' : Heap} {C' N fI e L Lx a a2 c : Addr} {μ : Mu} {ρ ρ' : Loc} {σ σ' : Sto} {sc : Names} {G : Str → Option D} {mg mb : Str → Option Value} {n k : Nat} {fd fd0 fd2 : FuncData} {C : Orc} {o o2 : Obj} {vs : List Value}

/-- done.append((False, put_in(node))), and put_in raises -/
theorem app_up {Q : Flow → Shared → Prop} {xp ap cp fp np pp tp qp qq : Pos} {nk tk : Nat} (B : Base prog w glo h₀ mg mb) (X : ExcBase h₀ mg mb c C' N fI fd0) (HC : COK prog w h₀ mg 27 (callN 27)) (T : FnAt piF "put_in" h₀ mg a2 o2 fd2) (U : Up h₀ g L A outer μ s.heap) (R0 : Room A 50 28) (I : Inv prog w h₀ hb env quF.names s.heap μ ρ σ)
    (hn : ρ.lookup ("node" : Str) = some (.val badN)) (hd : ρ.lookup ("done" : Str) = some (.loc 0)) (hl : (ap.endLine == qp.line) = true)
    (hE : ∀ h' tk e, Fly g L outer c e h' → E (.ref e) { s with heap := h', toks := tk }) :
    wpAny (model prog w) A (execs [.Expr (.Call (.Attribute (.Name "done" xp) "append" ap) [.Tuple [.Constant (.bool false) nk cp, .Call (.Name "put_in" fp) [.Name "node" np] [] pp] tk tp] [] qp) qq] env) Q E s := by
  refine wpAny_execs_cons (wpAny_Expr_any ?_ (by unfold interactive; rw [I.eo.kind]; rfl) rfl)
  refine wpAny_Call_method1_late rfl hl rfl (name_is I hd (by decide) fun u qu => ?_)
  obtain ⟨b, rfl, ha⟩ := qu
  obtain ⟨en, hen⟩ : ∃ en, σ[0]? = some en := by
    have := (List.getElem?_eq_some_iff.mp ha).1
    rw [I.sto.len] at this
    exact ⟨_, List.getElem?_eq_getElem this⟩
  obtain ⟨ws, p, rp, _⟩ := I.sto.is 0 b _ ha hen
  obtain ⟨nn, pe⟩ := p
  refine ⟨"list", "list.append", F.plainAttrs_list, F.slot_list_append, F.type_list_append, ⟨_, pe, rfl⟩, fun b e => by cases e; exact ⟨_, pe, rfl⟩, ?_⟩
  refine Calls.callWith_builtin rfl (Calls.evalArgs_plain (Calls.spliced_cons (wpAny_Tuple ?_)))
  refine Calls.spliced_cons (wpAny_Constant_bool (k := nk) (pos := cp) (Calls.spliced_cons ?_))
  refine wpAny_Call_ofName (global_ok B I (by kernel_rfl) T.at' (by decide) ?_)
  refine Calls.callWith_function (o := o2) (fd := fd2) (Calls.evalArgs_plain (Calls.spliced_cons (name_is I hn (by decide) fun v rv => Calls.spliced_nil ⟨⟨I.old _ _ T.obj, T.dat⟩, ?_⟩)))
  exact pi_up B X HC T U (R0.less (Nat.zero_le _)) I.sto (.cons rv .nil) hE

noncomputable def Turn (prog : Program) (w : World) (h₀ hb : Heap) (env : Env) (s : Shared) (r : Out) (s' : Shared) : Prop :=
  ∃ h' tk μ, s' = { s with heap := h', toks := tk } ∧ Inv prog w h₀ hb env quF.names h' μ (ρof r) (σof r) ∧ ∀ b ∈ μ.locs, hb.get? b = none

theorem qu_up2 {Q : Value → Shared → Prop} (B : Base prog w glo h₀ mg mb) (X : ExcBase h₀ mg mb c C' N fI fd0) (HC : COK prog w h₀ mg 28 C28) (HC' : COK prog w h₀ mg 27 (callN 27)) (T : FnAt quF "quoted" h₀ mg a o fd) (T2 : FnAt piF "put_in" h₀ mg a2 o2 fd2) (U : Up h₀ g L A outer ⟨[], []⟩ s.heap) (R0 : Room A 0 29) (S : StoOK prog w s.heap ⟨[], []⟩ [])
    (rs : RepRs prog w s.heap ⟨[], []⟩ vs [.val badD]) (hE : ∀ h' tk e, Fly g L outer c e h' → E (.ref e) { s with heap := h', toks := tk }) : wpAny (model prog w) A (call (.ref a) vs) Q E s := by
  refine call_in B T rfl R0 U.old U.off S rs fun env h₁ tk hf hn I R1 => ?_
  have HT := (ev_ok B HC 50).2
  have R2 : Room (A.deeper env) 50 28 := R1.less (by decide)
  refine execs_cut _ 1 (run_go (s := { s with heap := h₁, toks := tk }) B HC run0_is R1 I (fun b m => nomatch m) fun h2 tk2 μ2 I2 fr2 => ⟨rfl, ?_⟩)
  obtain ⟨p, hw⟩ := qu_while
  rw [hw]
  refine wpAny_execs_cons (wpAny_While (codeAny_whileLoop (fun m s' => (m = 2 ∧ Turn prog w h₀ s.heap env s run0 s') ∨ (m = 1 ∧ Turn prog w h₀ s.heap env s run1 s')) ?_ 2 (.inl ⟨rfl, h2, tk2, μ2, rfl, I2, fr2⟩)))
  rintro m s' (⟨rfl, h3, tk3, μ3, rfl, I3, fr3⟩ | ⟨rfl, h3, tk3, μ3, rfl, I3, fr3⟩)
  · refine HT _ _ _ _ _ _ _ _ _ { s with heap := h3, toks := tk3 } _ _ _ run0_test R2 I3 fun h4 tk4 k4 S4 => ?_
    simp only [if_true]
    exact run_go (s := { s with heap := h4, toks := tk4 }) B HC run1_is R1 (I3.keep k4 S4) fr3 fun h5 tk5 μ5 I5 fr5 => ⟨1, by decide, .inr ⟨rfl, h5, tk5, μ5, rfl, I5, fr5⟩⟩
  · refine HT _ _ _ _ _ _ _ _ _ { s with heap := h3, toks := tk3 } _ _ _ run1_test R2 I3 fun h4 tk4 k4 S4 => ?_
    simp only [if_true]
    refine wpAny_passesOwn PassesOwn.leaving (wpAny_mono (Q := fun _ _ => False) ?_ (fun _ _ x => x.elim) fun _ _ x => x)
    refine execs_cut _ 1 (run_go (s := { s with heap := h4, toks := tk4 }) B HC run2_is R1 (I3.keep k4 S4) fr3 fun h5 tk5 μ5 I5 fr5 => ⟨rfl, ?_⟩)
    obtain ⟨b1, p1, e1⟩ := i1_is
    obtain ⟨b2, p2, e2⟩ := i2_is
    obtain ⟨xp, ap, k, cp, fp, np, pp, tk, tp, qp, qq, o3, p3, e3, hl⟩ := i3_is
    rw [e1]
    refine wpAny_execs_cons (if_go (s := { s with heap := h5, toks := tk5 }) HT i1_test R2 I5 fun h6 tk6 k6 I6 => ?_)
    rw [e2]
    refine wpAny_execs_cons (if_go (s := { s with heap := h6, toks := tk6 }) HT i2_test R2 I6 fun h7 tk7 k7 I7 => ?_)
    rw [e3]
    refine wpAny_execs_cons (if_go (s := { s with heap := h7, toks := tk7 }) HT i3_test R2 I7 fun h8 tk8 k8 I8 => ?_)
    have U8 := U.run rfl I8 fr5 hf
    exact app_up (s := { s with heap := h8, toks := tk8 }) B X HC' T2 U8 R2 I8 run2_node run2_done hl fun h' tk e F => leave_on (s' := { s with heap := h', toks := tk }) U8.st hf F fun h'' F' => hE h'' tk e F'
end
end Mine

namespace Mine
open PySem PySem.W PySem.Calls PyProof.Rows PySem.SeqAt

noncomputable def reF : Fn := fnD "_law_refused"
theorem re_body : ∃ qp tp cp ep np cp' rp hp p kk rest, reF.body = .Try [.Expr (.Call (.Name "quoted" qp) [.Name "tree" tp] [] cp) ep] [.ExceptHandler (some (.Name "MacroFault" np)) none [.Return (some (.Constant (.bool true) kk cp')) rp] hp] [] [] p :: rest := ⟨_, _, _, _, _, _, _, _, _, _, _, rfl⟩

section
variable {prog : Program} {w : World} {A : Around} {E : Value → Shared → Prop} {s : Shared} {env : Env} {outer : List Env} {g h₀ hb h h' : Heap} {C' N fI e L Lx a a2 c : Addr} {μ : Mu} {ρ ρ' : Loc} {σ σ' : Sto} {sc : Names} {G : Str → Option D} {mg mb : Str → Option Value} {n k : Nat} {fd fd0 fd2 : FuncData} {C : Orc} {o o2 : Obj} {vs : List Value}

/-- `_law_refused` of a tree that `quoted` refuses -/
theorem re_ok {d : D} {Q : Value → Shared → Prop} (B : Base prog w glo h₀ mg mb) (X : ExcBase h₀ mg mb c C' N fI fd0) (T : FnAt reF "_law_refused" h₀ mg a o fd) (T2 : FnAt quF "quoted" h₀ mg a2 o2 fd2)
    (hq : ∀ (A : Around) (s : Shared) (E Q : Value → Shared → Prop) (outer : List Env) (vs : List Value), Up h₀ g L A outer ⟨[], []⟩ s.heap → Room A 0 29 → StoOK prog w s.heap ⟨[], []⟩ [] → RepRs prog w s.heap ⟨[], []⟩ vs [.val d] →
      (∀ h' tk e, Fly g L outer c e h' → E (.ref e) { s with heap := h', toks := tk }) → wpAny (model prog w) A (call (.ref a2) vs) Q E s)
    (U : Up h₀ g L A outer ⟨[], []⟩ s.heap) (hog : ∀ b o, h₀.get? b = some o → g.get? b = some o) (hL : h₀.get? L = none) (R0 : Room A 0 30) (S : StoOK prog w s.heap ⟨[], []⟩ []) (rs : RepRs prog w s.heap ⟨[], []⟩ vs [.val d])
    (h : ∀ h' tk, (∀ b o, g.get? b = some o → b ≠ L → h'.get? b = some o) → g.UpToSlots h' → Q (.bool true) { s with heap := h', toks := tk }) : wpAny (model prog w) A (call (.ref a) vs) Q E s := by
  refine call_in B T rfl R0 U.old U.off S rs fun env h₁ tk hf hn I R1 => ?_
  obtain ⟨qp, tp, cp, ep, np, cp', rp, hp, p, kk, rest, hb⟩ := re_body
  rw [hb]
  have U1 := U.push I (U.fr.keep S I.kb) hf
  refine wpAny_execs_cons (wpAny_Try_except (wpAny_execs_cons (wpAny_Expr_any ?_ (by unfold interactive; rw [I.eo.kind]; rfl) rfl)))
  refine wpAny_Call_ofName (global_ok (s := { s with heap := h₁, toks := tk }) B I (by kernel_rfl) T2.at' (by decide) ?_)
  refine Calls.callWith_function (o := o2) (fd := fd2) (Calls.evalArgs_plain (Calls.spliced_cons (name_is (s := { s with heap := h₁, toks := tk }) I (r := .val d) (by rfl) (by decide) fun v rv => Calls.spliced_nil ⟨⟨I.old _ _ T2.obj, T2.dat⟩, ?_⟩)))
  refine hq _ { s with heap := h₁, toks := tk } _ _ _ _ U1 (R1.less (Nat.zero_le _)) I.sto (.cons rv .nil) fun h2 tk2 e F => ?_
  exact catch_ok (s' := { s with heap := h2, toks := tk2 }) X I.eo (by kernel_rfl) U1.st hf hog hL F fun h3 F3 => h h3 tk2 (by
    obtain ⟨B', t, k1, k2, k3⟩ := F3
    exact fun b o q hb => k1.1 b o (k2 b o q hb)) F3.choose_spec.choose_spec.2.2
end
end Mine

namespace Mine
open PySem PySem.W PySem.Calls PyProof.Rows PySem.SeqAt

noncomputable def ofRefused : Expr → Expr
  | .BoolOp _ [_, .UnaryOp _ (.Call _ [e] _ _) _] _ => e
  | _ => .Constant .none 0 default
noncomputable def badE : Expr := ofRefused (testIf (nth lawFn.body 1))
theorem law_if : ∃ fp1 np1 cp1 up1 fp2 cp2 up2 op p b, lawFn.body.drop 1 = .If (.BoolOp .Or [.UnaryOp .Not (.Call (.Name "_law_refused" fp1) [.Name "spliced" np1] [] cp1) up1, .UnaryOp .Not (.Call (.Name "_law_refused" fp2) [badE] [] cp2) up2] op) b [] p :: lawRest := ⟨_, _, _, _, _, _, _, _, _, _, rfl⟩
theorem law_spl (n : Nat) (x : D) : xs (callN (n + 1)) glo muL 900 1000 lawFn.names 60 [("script", R.val x)] [] (lawFn.body.take 1) = (some (Fl.next, [("script", R.val x), ("spliced", R.val splD)], []) : Out) := by kernel_rfl
theorem bad_is (n : Nat) (x : D) : (ev (callN (n + 1)) glo 50).e lawFn.names [("script", R.val x), ("spliced", R.val splD)] [] badE = some (R.val badD, []) := by kernel_rfl

section
variable {prog : Program} {w : World} {A : Around} {E : Value → Shared → Prop} {s : Shared} {env : Env} {g h₀ hb h h' : Heap} {C' N fI e L a a2 c : Addr} {ρ ρ' : Loc} {mg mb : Str → Option Value} {n k : Nat} {fd fd0 fd2 : FuncData} {o o2 : Obj} {vs : List Value}

/-- `_law_refused`, called by the law -/
theorem re_call {d : D} {arg : Expr} {fp cp : Pos} {Q : Value → Shared → Prop} (B : Base prog w glo h₀ mg mb) (X : ExcBase h₀ mg mb c C' N fI fd0) (HE : OkE prog w h₀ (ev (callN 30) glo 50) 50 30) (T : FnAt reF "_law_refused" h₀ mg a o fd) (T2 : FnAt quF "quoted" h₀ mg a2 o2 fd2)
    (hq : ∀ (g : Heap) (L : Addr) (A : Around) (s : Shared) (E Q : Value → Shared → Prop) (outer : List Env) (vs : List Value), Up h₀ g L A outer ⟨[], []⟩ s.heap → Room A 0 29 → StoOK prog w s.heap ⟨[], []⟩ [] → RepRs prog w s.heap ⟨[], []⟩ vs [.val d] →
      (∀ h' tk e, Fly g L outer c e h' → E (.ref e) { s with heap := h', toks := tk }) → wpAny (model prog w) A (call (.ref a2) vs) Q E s)
    (q : (ev (callN 30) glo 50).e lawFn.names ρ [] arg = some (.val d, [])) (hs : isStarE arg = false) (R0 : Room A 50 30) (hA : A.frames = some [env]) (hf : env.frame = some env.locals) (I : Inv prog w h₀ h₀ env lawFn.names s.heap ⟨[], []⟩ ρ [])
    (h : ∀ h' tk, Inv prog w h₀ h₀ env lawFn.names h' ⟨[], []⟩ ρ [] → Q (.bool true) { s with heap := h', toks := tk }) : wpAny (model prog w) A (eval (.Call (.Name "_law_refused" fp) [arg] [] cp) env) Q E s := by
  refine wpAny_Call_ofName (global_ok B I (by kernel_rfl) T.at' (by decide) ?_)
  have he : evals (ev (callN 30) glo 50) lawFn.names ρ [] [arg] = some ([.val d], []) := evals_cons q evals_nil hs
  refine Calls.callWith_function (o := o) (fd := fd) (args_ok HE R0 he I fun h' tk vs k1 S1 q1 => ⟨⟨(I.keep k1 S1).old _ _ T.obj, T.dat⟩, ?_⟩)
  have I1 := I.keep k1 S1
  have U : Up h₀ h' env.locals A [env] ⟨[], []⟩ h' := ⟨hA, Frm.push (fun x hx => nomatch hx) I1 hf, I1.old, fun _ _ q => q, fun x hx hL => (by
    rw [List.filterMap_cons, hf] at hx
    rcases List.mem_cons.mp hx with rfl | hx
    · exact absurd rfl hL
    · exact (nomatch hx)), fun b m => (nomatch m), I1.off⟩
  refine re_ok (s := { s with heap := h', toks := tk }) B X T T2 (hq h' env.locals) U I1.old I1.loc (R0.less (Nat.zero_le _)) S1 q1 fun h2 tk2 k2 u2 => ?_
  exact h h2 tk2 (I1.slots (fun m => by rcases m with m | m <;> cases m) k2 u2)
end

section
variable {prog : Program} {w : World} {h₀ : Heap} {mg mb : Str → Option Value} {p : Program} {loose : List Str} {mean : ExcName → Option Value} {E : Value → Shared → Prop} {s : Shared} {Q : Flow → Shared → Prop} {c C' N fI : Addr} {fd0 : FuncData}

theorem law_whole {name : Str} {scope : Scope} {L a l : Addr} {cd : Value} {body : List Stmt} {vs : List Value} {ns : List Int} {m0 : Str → Option Value} (T : Top p loose mean mg mb h₀) (B : Base prog w glo h₀ mg mb) (X : ExcBase h₀ mg mb c C' N fI fd0) (hb : body = lawFn.body) (hsc : scope.names = lawFn.names) (hk : scope.kind = .function)
    (hok : (recsOf p).all okRec = true) (hfn : (recsOf p).map (fun d => (d.name, toFn d)) = defsOf PySem.Challenge.pw_pc0188_01.main.body)
    (F : Fr h₀ L s.heap m0) (hm : m0 "script" = some (.ref l)) (hl : h₀.IsList l vs.toArray) (hI : IntsAre vs ns) (hlen : ¬ ((63 : Int) < ns.length))
    (hq : ∀ h' tk m', Fr h₀ L h' m' → Q (.ret (.bool true)) { s with heap := h', toks := tk }) : wpAny (model prog w) (callerA.deeper (envOf name scope L a cd)) (execs body (envOf name scope L a cd)) Q E s := by
  have I := law_inv (prog := prog) (w := w) (name := name) (a := a) (cd := cd) hsc hk hl hI hlen F hm
  have R0 := law_room (env := envOf name scope L a cd)
  have HC := callN_ok T B hok hfn
  have noloc : ∀ b ∈ (⟨[], []⟩ : Mu).locs, h₀.get? b = none := fun b m => (nomatch m)
  have HX := xs_ok (mu := muL) (sc := lawFn.names) (bud := 900) (W := 1000) B (HC 30) 60
  obtain ⟨a1, o1, f1, T1⟩ := fnAt_of T (fn_found (f := "_law_refused") (F := reF) hfn (by kernel_rfl)) hok
  obtain ⟨a2, o2, f2, T2⟩ := fnAt_of T (fn_found (f := "quoted") (F := quF) hfn (by kernel_rfl)) hok
  obtain ⟨a3, o3, f3, T3⟩ := fnAt_of T (fn_found (f := "put_in") (F := piF) hfn (by kernel_rfl)) hok
  have HE := (ev_ok B (HC 30) 50).1
  have R1 : Room (callerA.deeper (envOf name scope L a cd)) 50 30 := R0.less (by decide)
  have hs := law_spl 29 (.lst (ns.map .int))
  have hr := law_rest 0 ns
  obtain ⟨fp1, np1, cp1, up1, fp2, cp2, up2, op, p0, b0, hbd⟩ := law_if
  rw [← hb] at hs hbd
  generalize lawRest = lr at hr hbd
  refine execs_cut _ 1 (HX (envOf name scope L a cd) h₀ _ _ _ _ _ _ _ s _ _ _ hs R0 I (fun _ => noloc) fun h1 tk1 μ1 I1 mg1 kf1 => ⟨rfl, ?_⟩)
  have e1 : μ1 = ⟨[], []⟩ := by
    have h1 := I1.sto.len
    have h2 := mg1.more
    obtain ⟨x, y⟩ := μ1
    cases h2
    cases x with
    | nil => rfl
    | cons _ _ => cases h1
  subst e1
  rw [hbd]
  refine wpAny_execs_cons (wpAny_If (isTrue_or (isTrue_not (isTrue_plain (re_call (d := splD) (s := { s with heap := h1, toks := tk1 }) B X HE T1 T2 (fun g L A s E Q outer vs U R S r hE => qu_up1 B X (HC 28) T2 U R S r hE) (by kernel_rfl) rfl R1 rfl rfl I1 fun h2 tk2 I2 => wpAny_truthy_bool ?_) rfl))))
  simp only [Bool.not_true, Bool.false_eq_true, if_false]
  refine isTrue_or (isTrue_not (isTrue_plain (re_call (d := badD) (s := { s with heap := h2, toks := tk2 }) B X HE T1 T2 (fun g L A s E Q outer vs U R S r hE => qu_up2 B X (HC 28) (HC 27) T2 T3 U R S r hE) (bad_is 29 _) (by kernel_rfl) R1 rfl rfl I2 fun h3 tk3 I3 => wpAny_truthy_bool ?_) rfl))
  simp only [Bool.not_true, Bool.false_eq_true, if_false]
  refine isTrue_or_nil ?_
  simp only [Bool.false_eq_true, if_false]
  refine wpAny_execs_nil ?_
  obtain ⟨fr, ρ', σ', hrun⟩ := hr
  refine HX (envOf name scope L a cd) h₀ _ _ lr _ _ _ _ { s with heap := h3, toks := tk3 } _ _ _ hrun R0 I3 (fun _ => noloc) ?_
  intro h4 tk4 μ' v I' mg' kf' rv nw
  have fr' := mg'.fresh I3 (fun _ => noloc) (by simp [muL])
  have kall : ∀ b o, h₀.get? b = some o → h4.get? b = some o := fun b o e => I'.kb b o (fun q => by rw [fr' b q] at e; cases e) e
  cases rv
  obtain ⟨m', hm'⟩ := I'.ns
  exact hq h4 tk4 m' ⟨hm', kall, F.above⟩
end
end Mine

namespace Mine
open PySem PySem.W PySem.Calls PyProof.Rows

noncomputable def hookAs : List Addr := [mainGlobals, 45, 44, 32, 31, 29, 28, 22, 84, 83]
noncomputable def fragAt (h : Heap) : Frag := hookAs.filterMap fun a => (h.get? a).map fun o => (a, o)
noncomputable def chk (K : Frag) : Bool := excAllIn K && makerIn K && noGlo K
theorem frag_mem {a : Addr} {o : Obj} : ∀ {l : Frag}, l.lookup a = some o → (a, o) ∈ l
  | [], h => by simp at h
  | (b, p) :: l, h => by
    rw [List.lookup_cons] at h
    split at h
    · rename_i e
      rw [beq_iff_eq] at e; subst e
      cases h; exact .head _
    · exact .tail _ (frag_mem h)
theorem fragAt_in (h : Heap) : (fragAt h).In h := by
  intro a o e
  have hm := frag_mem e
  obtain ⟨b, _, hb⟩ := List.mem_filterMap.mp hm
  obtain ⟨o', ho, q⟩ := Option.map_eq_some_iff.mp hb
  cases q
  exact ho
structure Said (K : Frag) (h : Heap) : Prop where
  In : K.In h
  ok : chk K = true
  bd : (fdIn K 29).body = .stmts initAst.2
  ps : (fdIn K 29).params = initAst.1
/-- what the head hands over of the heap at the text's end -/
noncomputable def hook : Hook := ⟨Bool × FuncBody × Arguments, fun s => (chk (fragAt s.heap), (fdIn (fragAt s.heap) 29).body, (fdIn (fragAt s.heap) 29).params), fun _ => (true, .stmts initAst.2, initAst.1), fun _ h => ∃ K : Frag, Said K h,
  fun _ s e => ⟨_, fragAt_in s.heap, congrArg (fun x => x.1) e, congrArg (fun x => x.2.1) e, congrArg (fun x => x.2.2) e⟩, fun _ _ _ ⟨K, X⟩ k => ⟨K, X.In.keeps k, X.ok, X.bd, X.ps⟩⟩

noncomputable def vw : Program := view PySem.Challenge.pw_pc0188_01 [1,2,4,5,6,7,8,10,11,12,13,14,15,16,17,19,20,21,22,23,24,25,26,27,28,29,30]
theorem left : LeftO PySem.Challenge.rw_pc0188_01.row.prog vw [Str.ofString "RowsError"] (fun s => xlAt vw [] s && recOk (RowW.records (OpenRow.toRowW PySem.Challenge.rw_pc0188_01.row)) s) hook.obs hook.val 2508 := fun w => by kernel_rfl
end Mine

namespace Mine
open PySem PySem.W PySem.Calls PyProof.Rows PySem.SeqAt
section
variable {prog : Program} {w : World} {h₀ : Heap} {mg mb : Str → Option Value} {p : Program} {loose : List Str} {mean : ExcName → Option Value} {E : Value → Shared → Prop} {s : Shared} {Q : Flow → Shared → Prop}

theorem law_end {name : Str} {scope : Scope} {L a l : Addr} {cd : Value} {body : List Stmt} {vs : List Value} {ns : List Int} {m0 : Str → Option Value} (T : Top p loose mean mg mb h₀) (Y : hook.says w h₀) (hb : body = lawFn.body) (hsc : scope.names = lawFn.names) (hk : scope.kind = .function)
    (hok : (recsOf p).all okRec = true) (hfn : (recsOf p).map (fun d => (d.name, toFn d)) = defsOf PySem.Challenge.pw_pc0188_01.main.body)
    (F : Fr h₀ L s.heap m0) (hm : m0 "script" = some (.ref l)) (hl : h₀.IsList l vs.toArray) (hI : IntsAre vs ns) (hlen : ¬ ((63 : Int) < ns.length))
    (hq : ∀ h' tk m', Fr h₀ L h' m' → Q (.ret (.bool true)) { s with heap := h', toks := tk }) : wpAny (model prog w) (callerA.deeper (envOf name scope L a cd)) (execs body (envOf name scope L a cd)) Q E s := by
  obtain ⟨K, X⟩ := Y
  have e := X.ok
  unfold chk at e
  rw [Bool.and_eq_true, Bool.and_eq_true] at e
  exact law_whole T (base_of X.In T e.1.2 e.2) (excBase_of X.In (topRead_of T) e.1.1 X.bd X.ps) hb hsc hk hok hfn F hm hl hI hlen hq
end
end Mine

open PySem PySem.W PyProof.Rows
set_option maxHeartbeats 8000000
theorem PySem.Challenge.cw_pc0188_01_holds : PySem.Challenge.rw_pc0188_01.Holds := by
  w_on
  refine holds_law (by kernel_rfl) fun said => ?_
  refine holds_open (q := Mine.vw) (XP := XL Mine.vw []) (YP := Mine.hook.says) Mine.left Mine.hook.of Mine.hook.keeps (fun s e => xl_of s (Bool.and_eq_true_iff.mp e).1) XL.keeps (by rfl) (by rfl) (by rfl) (fun s e => recFacts_of (Bool.and_eq_true_iff.mp e).2) (by rfl) (by assumption) (by decide +kernel) ⟨rfl, rfl, rfl, rfl, rfl, by decide +kernel⟩ ?hw ?hc
  case hw => w_witness2
  case hc =>
    w_strict (intro w s₀ s₁ mg mb G Y fa o pm cd doc dV kV ho hd hcd hD hmg hg args vals as hpre hlay hrd hwl hlo; (have X := (Ground.X G).1); (have V := (Ground.X G).2); (refine Ground.open G ?_); (intro T B D TE TW); (try (refine guard_noD D (by decide +kernel) ?_; clear D)); (obtain ⟨_, _, M⟩ := bmod_of_top T); (have TA := at_of_top T); (try (obtain ⟨_, _, he, B0⟩ := based_of_top T rfl hmg ho hd; have he' : cd = _ := he; subst he'; clear he)); (clear hmg); (wrow_args hpre hlay hrd hwl hlo); (refine enter_call ?_); (w_top on); (try refine codeAny_mono ?_ (fun _ _ g => GoodW.toG g)); (have K0 := below_caller (Top.heap T)); (w_call any ho hd hcd hD T F); (clear hd TA); (with_reducible refine' Mine.law_end ?T ?Y ?hb ?hsc ?hk ?hok ?hfn ?F ?hm ?hl ?hI ?hlen ?hq); (case T => assumption); (case Y => assumption); (case hb => kernel_rfl); (case hsc => kernel_rfl); (case hk => exact rfl); (case hok => kernel_rfl); (case hfn => kernel_rfl); (case F => assumption); (case hm => exact rfl); (case hl => assumption); (case hI => assumption); (case hlen => omega); (case hq => (intro h' tk m' Fz; dsimp only; wrow_close)))
