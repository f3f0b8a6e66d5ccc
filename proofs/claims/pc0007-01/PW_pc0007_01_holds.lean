import PyProof.Rows.All
import Wide.All
import OpenK.AllK
import Wide.FinOn
import PyProof.ExcBaseAll.Exception
import PyProof.ExcInit
import KE.KSuper
import PySem.Challenge.RW_pc0007_01
open PySem PySem.W PyProof.Rows
set_option Elab.async false
set_option maxRecDepth 100000
set_option maxHeartbeats 8000000
set_option linter.unusedSimpArgs false
set_option linter.unusedVariables false
namespace Mine
end Mine
namespace Mine
theorem el_a {A0 : Prop} {A1 : Prop} {G : Prop} (h : A0 ∧ A1) (k : A0 → A1 → G) : G := let ⟨h0, h1⟩ := h; k h0 h1
theorem el_e {α0 : Sort _} {A1 : α0 → Prop} {G : Prop} (h : ∃ a0, A1 a0) (k : ∀ a0, A1 a0 → G) : G := let ⟨a0, h1⟩ := h; k a0 h1
theorem el_aa {A0 : Prop} {A1 : Prop} {A2 : Prop} {G : Prop} (h : A0 ∧ A1 ∧ A2) (k : A0 → A1 → A2 → G) : G := let ⟨h0, h1, h2⟩ := h; k h0 h1 h2
theorem el_ae {α1 : Sort _} {A0 : Prop} {A2 : α1 → Prop} {G : Prop} (h : A0 ∧ ∃ a1, A2 a1) (k : A0 → ∀ a1, A2 a1 → G) : G := let ⟨h0, a1, h2⟩ := h; k h0 a1 h2
theorem el_ea {α0 : Sort _} {A1 : α0 → Prop} {A2 : α0 → Prop} {G : Prop} (h : ∃ a0, A1 a0 ∧ A2 a0) (k : ∀ a0, A1 a0 → A2 a0 → G) : G := let ⟨a0, h1, h2⟩ := h; k a0 h1 h2
theorem el_ee {α0 α1 : Sort _} {A2 : α0 → α1 → Prop} {G : Prop} (h : ∃ a0, ∃ a1, A2 a0 a1) (k : ∀ a0, ∀ a1, A2 a0 a1 → G) : G := let ⟨a0, a1, h2⟩ := h; k a0 a1 h2
theorem el_aaa {A0 : Prop} {A1 : Prop} {A2 : Prop} {A3 : Prop} {G : Prop} (h : A0 ∧ A1 ∧ A2 ∧ A3) (k : A0 → A1 → A2 → A3 → G) : G := let ⟨h0, h1, h2, h3⟩ := h; k h0 h1 h2 h3
theorem el_aea {α1 : Sort _} {A0 : Prop} {A2 : α1 → Prop} {A3 : α1 → Prop} {G : Prop} (h : A0 ∧ ∃ a1, A2 a1 ∧ A3 a1) (k : A0 → ∀ a1, A2 a1 → A3 a1 → G) : G := let ⟨h0, a1, h2, h3⟩ := h; k h0 a1 h2 h3
theorem el_eaa {α0 : Sort _} {A1 : α0 → Prop} {A2 : α0 → Prop} {A3 : α0 → Prop} {G : Prop} (h : ∃ a0, A1 a0 ∧ A2 a0 ∧ A3 a0) (k : ∀ a0, A1 a0 → A2 a0 → A3 a0 → G) : G := let ⟨a0, h1, h2, h3⟩ := h; k a0 h1 h2 h3
theorem el_eea {α0 α1 : Sort _} {A2 : α0 → α1 → Prop} {A3 : α0 → α1 → Prop} {G : Prop} (h : ∃ a0, ∃ a1, A2 a0 a1 ∧ A3 a0 a1) (k : ∀ a0, ∀ a1, A2 a0 a1 → A3 a0 a1 → G) : G := let ⟨a0, a1, h2, h3⟩ := h; k a0 a1 h2 h3
theorem el_eee {α0 α1 α2 : Sort _} {A3 : α0 → α1 → α2 → Prop} {G : Prop} (h : ∃ a0, ∃ a1, ∃ a2, A3 a0 a1 a2) (k : ∀ a0, ∀ a1, ∀ a2, A3 a0 a1 a2 → G) : G := let ⟨a0, a1, a2, h3⟩ := h; k a0 a1 a2 h3
theorem el_aeee {α1 α2 α3 : Sort _} {A0 : Prop} {A4 : α1 → α2 → α3 → Prop} {G : Prop} (h : A0 ∧ ∃ a1, ∃ a2, ∃ a3, A4 a1 a2 a3) (k : A0 → ∀ a1, ∀ a2, ∀ a3, A4 a1 a2 a3 → G) : G := let ⟨h0, a1, a2, a3, h4⟩ := h; k h0 a1 a2 a3 h4
theorem el_eaaa {α0 : Sort _} {A1 : α0 → Prop} {A2 : α0 → Prop} {A3 : α0 → Prop} {A4 : α0 → Prop} {G : Prop} (h : ∃ a0, A1 a0 ∧ A2 a0 ∧ A3 a0 ∧ A4 a0) (k : ∀ a0, A1 a0 → A2 a0 → A3 a0 → A4 a0 → G) : G := let ⟨a0, h1, h2, h3, h4⟩ := h; k a0 h1 h2 h3 h4
theorem el_eaae {α0 α3 : Sort _} {A1 : α0 → Prop} {A2 : α0 → Prop} {A4 : α0 → α3 → Prop} {G : Prop} (h : ∃ a0, A1 a0 ∧ A2 a0 ∧ ∃ a3, A4 a0 a3) (k : ∀ a0, A1 a0 → A2 a0 → ∀ a3, A4 a0 a3 → G) : G := let ⟨a0, h1, h2, a3, h4⟩ := h; k a0 h1 h2 a3 h4
theorem el_eeaa {α0 α1 : Sort _} {A2 : α0 → α1 → Prop} {A3 : α0 → α1 → Prop} {A4 : α0 → α1 → Prop} {G : Prop} (h : ∃ a0, ∃ a1, A2 a0 a1 ∧ A3 a0 a1 ∧ A4 a0 a1) (k : ∀ a0, ∀ a1, A2 a0 a1 → A3 a0 a1 → A4 a0 a1 → G) : G := let ⟨a0, a1, h2, h3, h4⟩ := h; k a0 a1 h2 h3 h4
theorem el_eeea {α0 α1 α2 : Sort _} {A3 : α0 → α1 → α2 → Prop} {A4 : α0 → α1 → α2 → Prop} {G : Prop} (h : ∃ a0, ∃ a1, ∃ a2, A3 a0 a1 a2 ∧ A4 a0 a1 a2) (k : ∀ a0, ∀ a1, ∀ a2, A3 a0 a1 a2 → A4 a0 a1 a2 → G) : G := let ⟨a0, a1, a2, h3, h4⟩ := h; k a0 a1 a2 h3 h4
theorem el_aaaaa {A0 : Prop} {A1 : Prop} {A2 : Prop} {A3 : Prop} {A4 : Prop} {A5 : Prop} {G : Prop} (h : A0 ∧ A1 ∧ A2 ∧ A3 ∧ A4 ∧ A5) (k : A0 → A1 → A2 → A3 → A4 → A5 → G) : G := let ⟨h0, h1, h2, h3, h4, h5⟩ := h; k h0 h1 h2 h3 h4 h5
theorem el_aeeea {α1 α2 α3 : Sort _} {A0 : Prop} {A4 : α1 → α2 → α3 → Prop} {A5 : α1 → α2 → α3 → Prop} {G : Prop} (h : A0 ∧ ∃ a1, ∃ a2, ∃ a3, A4 a1 a2 a3 ∧ A5 a1 a2 a3) (k : A0 → ∀ a1, ∀ a2, ∀ a3, A4 a1 a2 a3 → A5 a1 a2 a3 → G) : G := let ⟨h0, a1, a2, a3, h4, h5⟩ := h; k h0 a1 a2 a3 h4 h5
theorem el_eaaaa {α0 : Sort _} {A1 : α0 → Prop} {A2 : α0 → Prop} {A3 : α0 → Prop} {A4 : α0 → Prop} {A5 : α0 → Prop} {G : Prop} (h : ∃ a0, A1 a0 ∧ A2 a0 ∧ A3 a0 ∧ A4 a0 ∧ A5 a0) (k : ∀ a0, A1 a0 → A2 a0 → A3 a0 → A4 a0 → A5 a0 → G) : G := let ⟨a0, h1, h2, h3, h4, h5⟩ := h; k a0 h1 h2 h3 h4 h5
theorem el_eeaae {α0 α1 α4 : Sort _} {A2 : α0 → α1 → Prop} {A3 : α0 → α1 → Prop} {A5 : α0 → α1 → α4 → Prop} {G : Prop} (h : ∃ a0, ∃ a1, A2 a0 a1 ∧ A3 a0 a1 ∧ ∃ a4, A5 a0 a1 a4) (k : ∀ a0, ∀ a1, A2 a0 a1 → A3 a0 a1 → ∀ a4, A5 a0 a1 a4 → G) : G := let ⟨a0, a1, h2, h3, a4, h5⟩ := h; k a0 a1 h2 h3 a4 h5
theorem el_eeeaa {α0 α1 α2 : Sort _} {A3 : α0 → α1 → α2 → Prop} {A4 : α0 → α1 → α2 → Prop} {A5 : α0 → α1 → α2 → Prop} {G : Prop} (h : ∃ a0, ∃ a1, ∃ a2, A3 a0 a1 a2 ∧ A4 a0 a1 a2 ∧ A5 a0 a1 a2) (k : ∀ a0, ∀ a1, ∀ a2, A3 a0 a1 a2 → A4 a0 a1 a2 → A5 a0 a1 a2 → G) : G := let ⟨a0, a1, a2, h3, h4, h5⟩ := h; k a0 a1 a2 h3 h4 h5
theorem el_eeeaaa {α0 α1 α2 : Sort _} {A3 : α0 → α1 → α2 → Prop} {A4 : α0 → α1 → α2 → Prop} {A5 : α0 → α1 → α2 → Prop} {A6 : α0 → α1 → α2 → Prop} {G : Prop} (h : ∃ a0, ∃ a1, ∃ a2, A3 a0 a1 a2 ∧ A4 a0 a1 a2 ∧ A5 a0 a1 a2 ∧ A6 a0 a1 a2) (k : ∀ a0, ∀ a1, ∀ a2, A3 a0 a1 a2 → A4 a0 a1 a2 → A5 a0 a1 a2 → A6 a0 a1 a2 → G) : G := let ⟨a0, a1, a2, h3, h4, h5, h6⟩ := h; k a0 a1 a2 h3 h4 h5 h6
theorem el_eeaaaaa {α0 α1 : Sort _} {A2 : α0 → α1 → Prop} {A3 : α0 → α1 → Prop} {A4 : α0 → α1 → Prop} {A5 : α0 → α1 → Prop} {A6 : α0 → α1 → Prop} {A7 : α0 → α1 → Prop} {G : Prop} (h : ∃ a0, ∃ a1, A2 a0 a1 ∧ A3 a0 a1 ∧ A4 a0 a1 ∧ A5 a0 a1 ∧ A6 a0 a1 ∧ A7 a0 a1) (k : ∀ a0, ∀ a1, A2 a0 a1 → A3 a0 a1 → A4 a0 a1 → A5 a0 a1 → A6 a0 a1 → A7 a0 a1 → G) : G := let ⟨a0, a1, h2, h3, h4, h5, h6, h7⟩ := h; k a0 a1 h2 h3 h4 h5 h6 h7
theorem el_eeeeeaaa {α0 α1 α2 α3 α4 : Sort _} {A5 : α0 → α1 → α2 → α3 → α4 → Prop} {A6 : α0 → α1 → α2 → α3 → α4 → Prop} {A7 : α0 → α1 → α2 → α3 → α4 → Prop} {A8 : α0 → α1 → α2 → α3 → α4 → Prop} {G : Prop} (h : ∃ a0, ∃ a1, ∃ a2, ∃ a3, ∃ a4, A5 a0 a1 a2 a3 a4 ∧ A6 a0 a1 a2 a3 a4 ∧ A7 a0 a1 a2 a3 a4 ∧ A8 a0 a1 a2 a3 a4) (k : ∀ a0, ∀ a1, ∀ a2, ∀ a3, ∀ a4, A5 a0 a1 a2 a3 a4 → A6 a0 a1 a2 a3 a4 → A7 a0 a1 a2 a3 a4 → A8 a0 a1 a2 a3 a4 → G) : G := let ⟨a0, a1, a2, a3, a4, h5, h6, h7, h8⟩ := h; k a0 a1 a2 a3 a4 h5 h6 h7 h8
end Mine
namespace Mine
inductive V where
  | none
  | bool (b : Bool)
  | int (i : Int)
  | str (s : Str)
  | tup (l : List V)
  | lst (l : List V)
  | ref (n : Nat)
  | dict (l : List (Str × V))
  | level (k w : V) (n : Nat)
abbrev M := List (List V)
inductive Out (α : Type) where
  | ok (a : α) (μ : M)
  | exc (c : Str) (μ : M)
  | no
noncomputable def Out.bind {α β : Type} : Out α → (α → M → Out β) → Out β
  | .ok a μ, f => f a μ
  | .exc c μ, _ => .exc c μ
  | .no, _ => .no
noncomputable def Out.of {α : Type} (μ : M) : Option α → Out α
  | some a => .ok a μ
  | none => .no
inductive Fl where
  | next
  | ret (v : V)
abbrev Rho := List (Str × V)
noncomputable def Rho.set (ρ : Rho) (x : Str) (v : V) : Rho := (x, v) :: ρ.filter fun p => !(p.1 == x)
inductive EV where
  | nm (x : Str) (p : Pos)
  | call (f : Expr) (as : List Expr) (kw : List Keyword) (p : Pos)
  | attr (o : Expr) (x : Str) (p : Pos)
  | list (es : List Expr) (p : Pos)
  | tup (es : List Expr) (k : Nat) (p : Pos)
  | slice (lo hi st : Option Expr) (p : Pos)
  | sub (o i : Expr) (p : Pos)
  | no
noncomputable def view : Expr → EV
  | .Name x p => .nm x p
  | .Call f as kw p => .call f as kw p
  | .Attribute o x p => .attr o x p
  | .List es p => .list es p
  | .Tuple es k p => .tup es k p
  | .Slice lo hi st p => .slice lo hi st p
  | .Subscript o i p => .sub o i p
  | _ => .no
noncomputable def nmP (e : Expr) : Option (Str × Pos) := match view e with
  | .nm x p => some (x, p)
  | _ => none
noncomputable def nmOf (e : Expr) : Option Str := (nmP e).map (·.1)
noncomputable def oneE : List Expr → Option Expr
  | [a] => some a
  | _ => none
inductive SV where
  | asg (ts : List Expr) (e : Expr) (p : Pos)
  | df (r : DefRec)
  | wh (t : Expr) (b : List Stmt)
  | fo (t : Expr) (b : List Stmt)
  | ex (e : Expr) (p : Pos)
  | no
noncomputable def sv : Stmt → SV
  | .Assign ts e p => .asg ts e p
  | .FunctionDef name args b _ _ _ sc _ _ pos => .df ⟨name, args, b, sc, pos⟩
  | .While t b _ _ => .wh t b
  | .For t _ b _ _ => .fo t b
  | .Expr e p => .ex e p
  | _ => .no
noncomputable def defOf (s : Stmt) : Option DefRec := match sv s with
  | .df r => some r
  | _ => none
noncomputable def tabIn (body : List Stmt) (x : Str) : Option DefRec := body.findSome? fun st => (defOf st).bind fun fd => if (fd.name == x) = true then some fd else none
mutual
noncomputable def litV : Expr → Option V
  | .Constant (.int i) _ _ => some (.int i)
  | .Constant (.str s) _ _ => some (.str s)
  | .Constant .none _ _ => some .none
  | .Tuple es _ _ => (litVs es).map .tup
  | .Dict ks vs _ => (litKs ks).bind fun a => (litVs vs).map fun b => .dict (a.zip b)
  | _ => none
noncomputable def litVs : List Expr → Option (List V)
  | [] => some []
  | e :: r => (litV e).bind fun v => (litVs r).map (v :: ·)
noncomputable def litKs : List (Option Expr) → Option (List Str)
  | [] => some []
  | some (.Constant (.str s) _ _) :: r => (litKs r).map (s :: ·)
  | _ => none
end
noncomputable def litIs : List Expr → Option (List Int)
  | [] => some []
  | .Constant (.int i) _ _ :: r => (litIs r).map (i :: ·)
  | _ => none
noncomputable def asgOf (s : Stmt) : Option (Str × V) := match sv s with
  | .asg ts e _ => (oneE ts).bind fun t => (nmOf t).bind fun y => (litV e).map (y, ·)
  | _ => none
noncomputable def cstIn (body : List Stmt) (x : Str) : Option V := body.findSome? fun st => (asgOf st).bind fun p => if (p.1 == x) = true then some p.2 else none
noncomputable def small (i : Int) : Bool := decide (i.natAbs < 2 ^ 60)
noncomputable def maxLen : Nat := 100000
mutual
noncomputable def V.toPy : V → Option PyData
  | .none => some .none
  | .bool b => some (.bool b)
  | .int i => some (.int i)
  | .str s => some (.str s)
  | .tup l => (V.toPys l).map .tuple
  | .lst l => (V.toPys l).map .list
  | _ => Option.none
noncomputable def V.toPys : List V → Option (List PyData)
  | [] => some []
  | v :: r => (V.toPy v).bind fun d => (V.toPys r).map (d :: ·)
end
noncomputable def eqV (a b : V) : Option Bool := match a.toPy, b.toPy with
  | some d, some e => if d.canLay0 && e.canLay0 && decide (min d.depth e.depth ≤ 60) then some (PyData.eqv d e) else none
  | _, _ => none
noncomputable def inL (v : V) (l : List V) : Option Bool := match v.toPy, V.toPys l with
  | some d, some ds => if PyData.canLayAll0 ds && d.canLay0 && decide (min (PyData.depthAll ds) d.depth ≤ 60) then some (ds.any fun y => PyData.eqv y d) else none
  | _, _ => none
noncomputable def keyIn (x : Str) : List (Str × V) → Option V
  | [] => none
  | (y, v) :: r => if y == x then some v else keyIn x r
noncomputable def intE : V → Option Int
  | .int i => some i
  | _ => none
noncomputable def strE : V → Option Str
  | .str i => some i
  | _ => none
noncomputable def ii {α : Type} (a b : V) (k : Int → Int → Option α) : Option α := (intE a).bind fun i => (intE b).bind fun j => k i j
noncomputable def inV (v : V) : V → Option Bool
  | .tup l => inL v l
  | .lst l => inL v l
  | .dict l => (strE v).map fun x => (keyIn x l).isSome
  | .str y => (strE v).map fun x => Txt.contains y x
  | _ => none
noncomputable def leV (b : V) : V → Option Bool
  | .int i => (intE b).map fun j => decide (i ≤ j)
  | .str x => (strE b).map fun y => !decide (y.cps.toList < x.cps.toList)
  | _ => none
noncomputable def isN : V → Option Bool
  | .none => some true
  | _ => none
noncomputable def cmpV (op : CmpOp) (a b : V) : Option Bool := match op with
  | .Eq => eqV a b
  | .NotEq => (eqV a b).map (!·)
  | .Lt => ii a b fun i j => some (decide (i < j))
  | .LtE => leV b a
  | .Gt => ii a b fun i j => some (decide (j < i))
  | .GtE => ii a b fun i j => some (decide (j ≤ i))
  | .In => inV a b
  | .NotIn => (match b with
    | .tup l => (inL a l).map (!·)
    | _ => none)
  | .IsNot => (isN b).bind fun _ => (match a with
    | .none => some false
    | .tup _ => some true
    | _ => none)
  | _ => none
noncomputable def truthV : V → Option Bool
  | .bool b => some b
  | _ => none
noncomputable def lstV (b : V) : Option (List V) := match b with
  | .lst m => some m
  | _ => none
noncomputable def addL (l : List V) (b : V) : Option V := (lstV b).bind fun m => if l.length + m.length ≤ maxLen then some (.lst (l ++ m)) else none
noncomputable def addV (μ : M) (b : V) : V → Option V
  | .int i => (intE b).map fun j => .int (i + j)
  | .lst l => addL l b
  | .ref r => (μ[r]?).bind fun l => addL l b
  | .tup l => (match b with
    | .tup m => if l.length + m.length ≤ maxLen then some (.tup (l ++ m)) else none
    | _ => none)
  | _ => none
noncomputable def binV (μ : M) (op : Operator) (a b : V) : Option V := match op with
  | .Add => addV μ b a
  | .Sub => ii a b fun i j => some (.int (i - j))
  | .Mult => ii a b fun i j => if small i && small j then some (.int (i * j)) else none
  | .FloorDiv => ii a b fun i j => if small i && small j && decide (0 < j) then some (.int (i.fdiv j)) else none
  | .Mod => ii a b fun i j => if j = 0 then none else some (.int (i.fmod j))
  | .Pow => ii a b fun i j => if decide (i = 10) && decide (0 ≤ j) && decide (j ≤ 100) then some (.int (i ^ j.toNat)) else none
  | _ => none
noncomputable def unV (op : UnaryOp) (a : V) : Option V := match op, a with
  | .USub, .int i => some (.int (-i))
  | .Not, .bool b => some (.bool (!b))
  | _, _ => none
noncomputable def idxV (μ : M) (a i : V) : Option V := match a, i with
  | .tup l, .int i => if small i then (seqIndex? i l.length).bind (l[·]?) else none
  | .lst l, .int i => if small i then (seqIndex? i l.length).bind (l[·]?) else none
  | .ref r, .int i => if small i then (μ[r]?).bind fun l => (seqIndex? i l.length).bind (l[·]?) else none
  | .str s, .int i => if decide (-(s.length : Int) ≤ i) && decide (i < s.length) && decide (s.length ≤ 1000) then some (.str (Txt.item s i)) else none
  | .dict l, .str x => keyIn x l
  | _, _ => none
noncomputable def slOk : V → Bool
  | .lst l => decide (l.length ≤ maxLen)
  | .str s => decide (s.length ≤ maxLen)
  | _ => false
noncomputable def sliceV (a : V) (lo hi : Option Int) : Option V := match a with
  | .lst l => some (.lst ((sliceRange (sliceBounds lo hi none l.length).1 (sliceBounds lo hi none l.length).2.1 (sliceBounds lo hi none l.length).2.2).filterMap (l[·]?)))
  | .str s => if maxLen < (Builtin.Str.strSliceIndices lo hi 1 s.length).length then none else some (.str (if ((Builtin.Str.strSliceIndices lo hi 1 s.length).length == s.length) = true then s else ⟨((Builtin.Str.strSliceIndices lo hi 1 s.length).filterMap (s.cps[·]?)).toArray⟩))
  | _ => none
noncomputable def attrV (a : V) (x : Str) : Option V := match a with
  | .level k w n => if x == ("kind" : Str) then some k else if x == ("word" : Str) then some w else if x == ("args" : Str) then some (.ref n)
    else if x == ("operands" : Str) then some (.ref (n + 1)) else if x == ("operators" : Str) then some (.ref (n + 2)) else none
  | _ => none
noncomputable def appendV (μ : M) (r : Nat) : List V → Out V
  | [v] => (match μ[r]? with
    | some l => if l.length < maxLen then .ok .none (μ.set r (l ++ [v])) else .no
    | none => .no)
  | _ => .no
noncomputable def popV (μ : M) (r : Nat) : List V → Out V
  | [] => (match μ[r]? with
    | some l => (match l.getLast? with
      | some v => if l.length ≤ maxLen then .ok v (μ.set r l.dropLast) else .no
      | none => .no)
    | none => .no)
  | _ => .no
noncomputable def getV (μ : M) (l : List (Str × V)) : List V → Out V
  | [.str k, d] => .ok ((keyIn k l).getD d) μ
  | _ => .no
noncomputable def splitOk (s c : Str) : Bool := !(decide (s.length < c.length) || decide (Builtin.Str.strKind s < Builtin.Str.strKind c)) && !(c.length == 0) && !(Builtin.Str.occurrences s c 0 s.length (s.length + 1)).isEmpty && decide (s.length ≤ maxLen)
      && decide ((Builtin.Str.partsBetween s (Builtin.Str.occurrences s c 0 s.length (s.length + 1)) c.length).length ≤ maxLen)
noncomputable def splitV (μ : M) (s : Str) : List V → Out V
  | [.str c] => if splitOk s c then .ok (.lst ((Builtin.Str.partsBetween s (Builtin.Str.occurrences s c 0 s.length (s.length + 1)) c.length).map .str)) μ else .no
  | _ => .no
inductive Mt where
  | app (r : Nat)
  | pop (r : Nat)
  | get (l : List (Str × V))
  | split (s : Str)
noncomputable def mtOf (o : V) (x : Str) : Option Mt := match o with
  | .ref r => if x = ("append" : Str) then some (.app r) else if x = ("pop" : Str) then some (.pop r) else none
  | .dict l => if x = ("get" : Str) then some (.get l) else none
  | .str s => if x = ("split" : Str) then some (.split s) else none
  | _ => none
noncomputable def Mt.run (μ : M) (args : List V) : Mt → Out V
  | .app r => appendV μ r args
  | .pop r => popV μ r args
  | .get l => getV μ l args
  | .split s => splitV μ s args
noncomputable def methV (μ : M) (o : V) (x : Str) (args : List V) : Out V := match mtOf o x with
  | some m => m.run μ args
  | none => .no
noncomputable def methOk (o : V) (x : Str) : Bool := (mtOf o x).isSome
noncomputable def plainEs : List Expr → Bool
  | [] => true
  | .Starred _ _ :: _ => false
  | _ :: r => plainEs r
noncomputable def lenV (μ : M) : List V → Option V
  | [.ref r] => (match μ[r]? with
    | some l => if l.length ≤ maxLen then some (.int l.length) else none
    | none => none)
  | [.lst l] => if l.length ≤ maxLen then some (.int l.length) else none
  | [.str s] => if s.length ≤ maxLen then some (.int s.length) else none
  | _ => none
noncomputable def intsOf : List V → Option (List Int)
  | [] => some []
  | .int i :: r => (intsOf r).map (i :: ·)
  | _ => none
noncomputable def sumV : List V → Option V
  | [.lst l] => (match intsOf l with
    | some ns => if ns.length ≤ 1000 ∧ ∀ n ∈ ns, 0 ≤ n ∧ n ≤ 1000 then some (.int ns.sum) else none
    | none => none)
  | _ => none
noncomputable def ordV : List V → Option V
  | [.str s] => if s.length = 1 then some (.int (s.cps.getD 0 0 : Nat)) else none
  | _ => none
noncomputable def absV : List V → Option V
  | [.int i] => some (.int (if i < 0 then -i else i))
  | _ => none
noncomputable def intV : List V → Option V
  | [.int i] => some (.int i)
  | _ => none
noncomputable def builtV (μ : M) (x : Str) (args : List V) : Option V :=
  if x = ("len" : Str) then lenV μ args else if x = ("sum" : Str) then sumV args else if x = ("ord" : Str) then ordV args else if x = ("abs" : Str) then absV args
  else if x = ("int" : Str) then intV args else none
noncomputable def bltFn (x : Str) : Value :=
  if x = ("len" : Str) then .builtin "len" else if x = ("sum" : Str) then .builtin "sum" else if x = ("ord" : Str) then .builtin "ord" else if x = ("abs" : Str) then .builtin "abs" else .type "int"
noncomputable def bltNames : List Str := ["len", "sum", "ord", "abs", "int"]
noncomputable def callOk (tab : Str → Option DefRec) (f : Str) : Bool := (tab f).isSome || f == ("Level" : Str) || bltNames.contains f
noncomputable def callAs (e : Expr) : Option (Expr × List Expr × List Keyword) := match view e with
  | .call f as kw _ => some (f, as, kw)
  | _ => none
noncomputable def turns : List Expr → Bool
  | e :: _ => (match callAs e with
    | some q => (match nmOf q.1 with
      | some x => x == ("Level" : Str)
      | none => false)
    | none => (match nmOf e with
      | some x => x == ("cells" : Str)
      | none => false))
  | [] => false
noncomputable def zipArgs (ps : List Arg) (vs : List V) : Option Rho := if ps.length = vs.length then some (ps.map (·.arg) |>.zip vs) else none
noncomputable def plainArgs (a : Arguments) : Bool := a.posonlyargs.isEmpty && a.vararg.isNone && a.kwonlyargs.isEmpty && a.kwarg.isNone && a.defaults.isEmpty
noncomputable def defOk (fd : DefRec) : Bool :=
  plainArgs fd.params && decide ((fd.params.args.map (·.arg)).Nodup) && fd.scope.kind == .function && !fd.scope.isCoroutine && !fd.scope.isGenerator &&
  (fd.params.args.all fun a => fd.scope.names.lookup a.arg == some .local || fd.scope.names.lookup a.arg == some .cell) && decide (((cellsFrom 0 fd.scope.names []).map (·.1)).Nodup)
noncomputable def isGlobal (sc : Scope) (x : Str) : Bool := sc.names.lookup x == some .globalImplicit && !(x == ("__debug__" : Str))
inductive Src where
  | list (l : List V)
  | range (n : Int)
  | enum (l : List V)
noncomputable def rangeFrom (i : Nat) : Nat → List V
  | 0 => []
  | n + 1 => .int i :: rangeFrom (i + 1) n
noncomputable def enumFrom (i : Nat) : List V → List V
  | [] => []
  | v :: r => .tup [.int i, v] :: enumFrom (i + 1) r
noncomputable def Src.flat : Src → Bool
  | .enum _ => false
  | _ => true
noncomputable def tupE (e : Expr) : Option (List Expr) := match view e with
  | .tup es _ _ => some es
  | _ => none
noncomputable def srcOk (e : Expr) (s : Src) : Bool := match view e with
  | .nm _ _ => s.flat
  | .tup _ _ _ => !s.flat
  | _ => false
noncomputable def Src.items : Src → List V
  | .list l => l
  | .range n => rangeFrom 0 n.toNat
  | .enum l => enumFrom 0 l
noncomputable def namesOf : List Expr → Option (List Str)
  | [] => some []
  | e :: r => (nmOf e).bind fun x => (namesOf r).map (x :: ·)
noncomputable def setAll (ρ : Rho) : List Str → List V → Rho
  | x :: xs, v :: vs => setAll (ρ.set x v) xs vs
  | _, _ => ρ
noncomputable def tupOf : V → Option (List V)
  | .tup l => some l
  | _ => none
noncomputable def nmsOk (sc : Scope) (xs : List Str) : Bool := xs.all (fun x => sc.names.lookup x == some .local) && decide xs.Nodup
noncomputable def assignN (sc : Scope) (ρ : Rho) (e : Expr) (v : V) : Option Rho := match view e with
  | .nm x _ => if sc.names.lookup x = some .local then some (ρ.set x v) else none
  | .tup es _ _ => (namesOf es).bind fun xs => (tupOf v).bind fun l => if xs.length = l.length ∧ nmsOk sc xs = true then some (setAll ρ xs l) else none
  | _ => none
noncomputable def swOk (t e : Expr) : Bool := match tupE t, tupE e with
  | some _, some vs => plainEs vs && (vs.all (foldedForSure 8) || !vs.all (constantsAlone 8))
  | _, _ => true
noncomputable def augV (op : Operator) (a b : V) : Option Int := match op with
  | .Add => ii a b fun i j => some (i + j)
  | .Mult => ii a b fun i j => if small i && small j then some (i * j) else none
  | _ => none
noncomputable def compOk (sc sc' : Scope) (x : Str) : Bool :=
  sc'.kind == .function && decide (sc'.names.lookup x = some .local) && sc'.names.all (fun p => p.2 != .cell && (p.2 != .local || sc'.names.lookup p.1 == some .local) && (p.2 != .free || sc.names.lookup p.1 == some .cell)) &&
  decide ((sc'.names.map (·.1)).Nodup)
noncomputable def nameR (db : Bool) (k : Option NameKind) (c l : Option V) (μ : M) : Out V := if db then .no else (match k with
      | some .globalImplicit => .of μ c
      | some .local | some .cell | some .free => .of μ l
      | _ => .no)
noncomputable def constR (μ : M) : Const → Out V
  | .none => .ok .none μ
  | .bool b => .ok (.bool b) μ
  | .int i => .ok (.int i) μ
  | .str s => .ok (.str s) μ
  | _ => .no
noncomputable def lstE (e : Expr) : Option (List Expr) := match view e with
  | .list es _ => some es
  | _ => none
noncomputable def isMul : Operator → Bool
  | .Mult => true
  | _ => false
noncomputable def isRep (e : Expr) (op : Operator) : Option (List Expr) := (lstE e).bind fun es => bif isMul op then some es else none
noncomputable def isCall (e : Expr) : Bool := (callAs e).isSome
noncomputable def isNm (e : Expr) : Bool := (nmP e).isSome
noncomputable def sliceOf (e : Expr) : Option (Option Expr × Option Expr × Option Expr) := match view e with
  | .slice lo hi st _ => some (lo, hi, st)
  | _ => none
inductive CK where
  | no
  | meth (o : Expr) (x : Str) (ap : Pos)
  | fn (f : Str)
noncomputable def callK (f : Expr) (kw : List Keyword) : CK := bif kw.isEmpty then (match view f with
  | .attr o x ap => bif isCall o then .no else .meth o x ap
  | .nm f _ => .fn f
  | _ => .no) else .no
noncomputable def genOf : List Comprehension → Option (Str × Expr)
  | [⟨t, it, [], k⟩] => if k = 0 then (nmOf t).map (·, it) else none
  | _ => none
noncomputable def isNot : UnaryOp → Bool
  | .Not => true
  | _ => false
noncomputable def plainCall (e : Expr) : Bool := match callAs e with
  | some q => q.2.2.isEmpty
  | none => false
inductive TK where
  | no
  | sub (o : Str) (p : Pos) (i : Expr)
  | one (t : Expr)
noncomputable def subN (e : Expr) : Option (Str × Pos × Expr) := match view e with
  | .sub o i _ => (nmP o).map fun q => (q.1, q.2, i)
  | _ => none
noncomputable def tgtK : List Expr → TK
  | [t] => (match subN t with
    | some q => .sub q.1 q.2.1 q.2.2
    | none => .one t)
  | _ => .no
noncomputable def callN (e : Expr) : Option (Str × List Expr) := (callAs e).bind fun q => bif q.2.2.isEmpty then (nmOf q.1).map (·, q.2.1) else none
noncomputable def raiseOf : Option Expr → Option Expr → Option (Str × List Expr)
  | some e, none => callN e
  | _, _ => none
noncomputable def attrN (e : Expr) : Option (Str × Str) := match view e with
  | .attr o a _ => (nmOf o).map (·, a)
  | _ => none
noncomputable def retA : Stmt → Option (Str × Str)
  | .Return (some e) _ => attrN e
  | _ => none
noncomputable def tryOf : List ExceptHandler → Option (Str × Str × Str × Str)
  | [.ExceptHandler (some e) (some y) [s] _] => (nmOf e).bind fun x => (retA s).map fun q => (x, y, q.1, q.2)
  | _ => none
noncomputable def srcK (e : Expr) : Option (Str × Expr) := (callN e).bind fun q => (oneE q.2).map (q.1, ·)
section
variable (tab : Str → Option DefRec) (cst : Str → Option V)
mutual
noncomputable def evE : Nat → Nat → Scope → Rho → M → Expr → Out V
  | 0, _, _, _, _, _ => .no
  | n + 1, d, sc, ρ, μ, e => match e with
    | .Constant c _ _ => constR μ c
    | .Name x _ => nameR (x == ("__debug__" : Str)) (sc.names.lookup x) (cst x) (ρ.lookup x) μ
    | .BinOp l op r _ => (match isRep l op with
      | some es => if !plainEs es || decide (10 < es.length) then .no else (evEs n d sc ρ μ es).bind fun vs μ => (evE n d sc ρ μ r).bind fun b μ => (match b with
        | .int j => if !turns es && decide (0 ≤ j) && decide (j ≤ 1000) && !vs.isEmpty then .ok (.lst (List.replicate j.toNat vs).flatten) μ else .no
        | _ => .no)
      | none => (evE n d sc ρ μ l).bind fun a μ => (evE n d sc ρ μ r).bind fun b μ => .of μ (binV μ op a b))
    | .UnaryOp op x _ => (evE n d sc ρ μ x).bind fun a μ => .of μ (unV op a)
    | .IfExp t b o _ => (evT n d sc ρ μ t).bind fun c μ => if c then evE n d sc ρ μ b else evE n d sc ρ μ o
    | .Tuple es _ _ => if plainEs es then (evEs n d sc ρ μ es).bind fun vs μ => if vs.length ≤ maxLen then .ok (.tup vs) μ else .no else .no
    | .List es _ => if plainEs es then (evEs n d sc ρ μ es).bind fun vs μ => if vs.length ≤ maxLen then (if turns es then .ok (.ref μ.length) (μ ++ [vs]) else .ok (.lst vs) μ) else .no else .no
    | .Dict ks vs _ => (match litKs ks, litIs vs with
      | some xs, some is => if xs.length = is.length ∧ xs ≠ [] ∧ xs.Nodup ∧ xs.length ≤ 16 then .ok (.dict (xs.zip (is.map .int))) μ else .no
      | _, _ => .no)
    | .Attribute o x _ => bif isCall o then .no else (evE n d sc ρ μ o).bind fun a μ => .of μ (attrV a x)
    | .Subscript o i _ => (match sliceOf i with
      | some (lo, hi, st) => bif isNm o && st.isNone then (evE n d sc ρ μ o).bind fun a μ => if !slOk a then .no else (evO n d sc ρ μ lo).bind fun i μ => (evO n d sc ρ μ hi).bind fun j μ => .of μ (sliceV a i j) else .no
      | none => (evE n d sc ρ μ o).bind fun a μ => (evE n d sc ρ μ i).bind fun b μ => .of μ (idxV μ a b))
    | .Compare l ops rs _ => if lastMarks ops rs then .no else (evE n d sc ρ μ l).bind fun a μ => (evC n d sc ρ μ a ops rs).bind fun b μ => .ok (.bool b) μ
    | .Call f as kw pos => (match callK f kw with
      | .no => .no
      | .meth o x ap => if !(ap.endLine == pos.line) || decide (10 ≤ as.length) || !plainEs as then .no else (evE n d sc ρ μ o).bind fun a μ => if methOk a x then (evEs n d sc ρ μ as).bind fun vs μ => methV μ a x vs else .no
      | .fn f => if isGlobal sc f && plainEs as && callOk tab f then (evEs n d sc ρ μ as).bind fun vs μ => (match tab f with
        | some fd => evCall n d μ fd vs
        | none => if f == ("Level" : Str) then (match vs with
            | [.str k, .str w] => if d = 0 then .no else .ok (.level (.str k) (.str w) μ.length) (μ ++ [[], [], []])
            | _ => .no) else .of μ (builtV μ f vs)) else .no)
    | .ListComp elt gens sc' _ => (match genOf gens with
      | none => .no
      | some (x, it) =>
      if compOk sc sc' x && decide (1 ≤ d) then (evSrc n d sc ρ μ it).bind fun src μ =>
        if src.flat then (match evComp n (d - 1) sc' (ρ.filter fun p => sc'.names.lookup p.1 = some .free) x μ elt src.items with
          | .ok vs μ => if vs.length ≤ maxLen then .ok (.lst vs) μ else .no
          | _ => .no)
        else .no
      else .no)
    | _ => .no
termination_by structural n => n
noncomputable def evEs : Nat → Nat → Scope → Rho → M → List Expr → Out (List V)
  | 0, _, _, _, _, _ => .no
  | n + 1, d, sc, ρ, μ, es => match es with
    | [] => .ok [] μ
    | e :: r => (evE n d sc ρ μ e).bind fun v μ => (evEs n d sc ρ μ r).bind fun vs μ => .ok (v :: vs) μ
termination_by structural n => n
noncomputable def evO : Nat → Nat → Scope → Rho → M → Option Expr → Out (Option Int)
  | 0, _, _, _, _, _ => .no
  | n + 1, d, sc, ρ, μ, e => match e with
    | none => .ok none μ
    | some e => (evE n d sc ρ μ e).bind fun v μ => match v with
      | .int i => .ok (some i) μ
      | _ => .no
termination_by structural n => n
noncomputable def evSrc : Nat → Nat → Scope → Rho → M → Expr → Out Src
  | 0, _, _, _, _, _ => .no
  | n + 1, d, sc, ρ, μ, e => match srcK e with
    | some (f, a) => if !plainEs [a] then .no else if isGlobal sc f && f == ("range" : Str) && (tab f).isNone then (evE n d sc ρ μ a).bind fun v μ => (match v with
          | .int i => if small i then .ok (.range i) μ else .no
          | _ => .no)
        else if isGlobal sc f && f == ("enumerate" : Str) && (tab f).isNone then (evE n d sc ρ μ a).bind fun v μ => (match v with
          | .lst l => .ok (.enum l) μ
          | _ => .no)
        else .no
    | none => (evE n d sc ρ μ e).bind fun v μ => match v with
      | .lst l => .ok (.list l) μ
      | _ => .no
termination_by structural n => n
noncomputable def evT : Nat → Nat → Scope → Rho → M → Expr → Out Bool
  | 0, _, _, _, _, _ => .no
  | n + 1, d, sc, ρ, μ, e => match e with
    | .UnaryOp op x p => bif isNot op then (evT n d sc ρ μ x).bind fun b μ => .ok (!b) μ else (evE n d sc ρ μ (.UnaryOp op x p)).bind fun v μ => .of μ (truthV v)
    | .BoolOp op es _ => evA n d sc ρ μ op es
    | .IfExp .. => .no
    | .Compare l ops rs _ => if lastMarks ops rs then .no else (evE n d sc ρ μ l).bind fun a μ => evC n d sc ρ μ a ops rs
    | e => (evE n d sc ρ μ e).bind fun v μ => .of μ (truthV v)
termination_by structural n => n
noncomputable def evA : Nat → Nat → Scope → Rho → M → BoolOp → List Expr → Out Bool
  | 0, _, _, _, _, _, _ => .no
  | n + 1, d, sc, ρ, μ, op, es => match es with
    | [] => .ok (op == .And) μ
    | e :: r => (evT n d sc ρ μ e).bind fun b μ => match op, b with
      | .And, false => .ok false μ
      | .Or, true => .ok true μ
      | _, _ => evA n d sc ρ μ op r
termination_by structural n => n
noncomputable def evC : Nat → Nat → Scope → Rho → M → V → List CmpOp → List Expr → Out Bool
  | 0, _, _, _, _, _, _, _ => .no
  | n + 1, d, sc, ρ, μ, a, ops, rs => match ops, rs with
    | [op], [r] => (evE n d sc ρ μ r).bind fun b μ => .of μ (cmpV op a b)
    | op :: op' :: ops, r :: r' :: rs => (evE n d sc ρ μ r).bind fun b μ => (Out.of μ (cmpV op a b)).bind fun c μ => if c then evC n d sc ρ μ b (op' :: ops) (r' :: rs) else .ok false μ
    | _, _ => .no
termination_by structural n => n
noncomputable def evComp : Nat → Nat → Scope → Rho → Str → M → Expr → List V → Out (List V)
  | 0, _, _, _, _, _, _, _ => .no
  | n + 1, d, sc, ρ, x, μ, elt, items => match items with
    | [] => .ok [] μ
    | v :: r => (evE n d sc ((x, v) :: ρ) μ elt).bind fun w μ => (evComp n d sc ρ x μ elt r).bind fun ws μ => .ok (w :: ws) μ
termination_by structural n => n
noncomputable def evCall : Nat → Nat → M → DefRec → List V → Out V
  | 0, _, _, _, _ => .no
  | n + 1, d, μ, fd, vs => match d with
    | 0 => .no
    | d + 1 => if defOk fd then (match zipArgs fd.params.args vs with
      | some ρ => (evSs n d fd.scope ρ μ fd.body).bind fun r μ => match r.1 with
        | .ret v => .ok v μ
        | .next => .ok .none μ
      | none => .no) else .no
termination_by structural n => n
noncomputable def evS : Nat → Nat → Scope → Rho → M → Stmt → Out (Fl × Rho)
  | 0, _, _, _, _, _ => .no
  | n + 1, d, sc, ρ, μ, s => match s with
    | .Expr e _ => bif plainCall e then (evE n d sc ρ μ e).bind fun _ μ => .ok (.next, ρ) μ else .no
    | .Return oe _ => (match oe with
      | none => .ok (.ret .none, ρ) μ
      | some e => (evE n d sc ρ μ e).bind fun v μ => .ok (.ret v, ρ) μ)
    | .Assign ts e _ => (match tgtK ts with
      | .no => .no
      | .sub o op i => (evE n d sc ρ μ e).bind fun v μ => (evE n d sc ρ μ (.Name o op)).bind fun q μ => (evE n d sc ρ μ i).bind fun j μ => (match q, j with
        | .ref r, .int j => (match μ[r]? with
          | some l => if 0 ≤ j ∧ j < l.length ∧ small j = true then .ok (.next, ρ) (μ.set r (l.set j.toNat v)) else .no
          | none => .no)
        | _, _ => .no)
      | .one t => if !swOk t e then .no else (evE n d sc ρ μ e).bind fun v μ => (match assignN sc ρ t v with
        | some ρ => .ok (.next, ρ) μ
        | none => .no))
    | .AugAssign t op e _ => (match nmOf t with
      | none => .no
      | some x => if sc.names.lookup x = some .local then (match ρ.lookup x with
        | some a => (evE n d sc ρ μ e).bind fun v μ => (match augV op a v with
          | some r => .ok (.next, ρ.set x (.int r)) μ
          | none => .no)
        | none => .no) else .no)
    | .If t b o _ => (evT n d sc ρ μ t).bind fun c μ => if c then evSs n d sc ρ μ b else evSs n d sc ρ μ o
    | .While t b oe _ => bif !oe.isEmpty then .no else if d = 0 then .no else evW n (d - 1) sc ρ μ t b
    | .For t it b oe _ => bif !oe.isEmpty then .no else if d = 0 then .no else (evSrc n d sc ρ μ it).bind fun src μ => if srcOk t src then evF n (d - 1) sc ρ μ t b src.items else .no
    | .Raise ex ca _ => (match raiseOf ex ca with
      | none => .no
      | some (x, as) => if isGlobal sc x && x == ("BasicError" : Str) && plainEs as then (evEs n d sc ρ μ as).bind fun vs μ => (match vs with
        | [.str c] => .exc c μ
        | [.str c, _] => .exc c μ
        | _ => .no) else .no)
    | .Try b hs oe fb _ => (match tryOf hs with
      | none => .no
      | some (x, y, y', a) => bif !(oe.isEmpty && fb.isEmpty) then .no else
      if isGlobal sc x && x == ("BasicError" : Str) && y == y' && a == ("code" : Str) && sc.names.lookup y == some .local && !(y == ("__debug__" : Str)) then (match evSs n d sc ρ μ b with
        | .exc c μ => .ok (.ret (.str c), []) μ
        | r => r) else .no)
    | _ => .no
termination_by structural n => n
noncomputable def evSs : Nat → Nat → Scope → Rho → M → List Stmt → Out (Fl × Rho)
  | 0, _, _, _, _, _ => .no
  | n + 1, d, sc, ρ, μ, ss => match ss with
    | [] => .ok (.next, ρ) μ
    | s :: r => (evS n d sc ρ μ s).bind fun x μ => match x.1 with
      | .next => evSs n d sc x.2 μ r
      | .ret v => .ok (.ret v, x.2) μ
termination_by structural n => n
noncomputable def evW : Nat → Nat → Scope → Rho → M → Expr → List Stmt → Out (Fl × Rho)
  | 0, _, _, _, _, _, _ => .no
  | n + 1, d, sc, ρ, μ, t, b => (evT n d sc ρ μ t).bind fun c μ => if c then (evSs n d sc ρ μ b).bind fun x μ => (match x.1 with
      | .next => evW n d sc x.2 μ t b
      | .ret v => .ok (.ret v, x.2) μ) else .ok (.next, ρ) μ
termination_by structural n => n
noncomputable def evF : Nat → Nat → Scope → Rho → M → Expr → List Stmt → List V → Out (Fl × Rho)
  | 0, _, _, _, _, _, _, _ => .no
  | n + 1, d, sc, ρ, μ, t, b, items => match items with
    | [] => .ok (.next, ρ) μ
    | v :: r => (match assignN sc ρ t v with
      | some ρ => (evSs n d sc ρ μ b).bind fun x μ => (match x.1 with
        | .next => evF n d sc x.2 μ t b r
        | .ret v => .ok (.ret v, x.2) μ)
      | none => .no)
termination_by structural n => n
end
end
noncomputable def theBody : List Stmt := PySem.Challenge.pw_pc0007_01.main.body
noncomputable def tab (x : Str) : Option DefRec := tabIn theBody x
noncomputable def cst (x : Str) : Option V := if x == ("__name__" : Str) then none else cstIn theBody x
end Mine
namespace Mine
theorem nn {α : Type} {a : α} {G : Prop} (h : (none : Option α) = some a) : G := by cases h
theorem nof {G : Prop} (h : false = true) : G := by cases h
theorem ite_some {α : Type} {c : Prop} [Decidable c] {a v : α} {G : Prop} (h : (if c then some a else none) = some v) (k : c → a = v → G) : G := by
  by_cases q : c
  · rw [if_pos q] at h; exact k q (Option.some.inj h)
  · rw [if_neg q] at h; exact nn h
theorem ite_none {α : Type} {c : Prop} [Decidable c] {a v : α} {G : Prop} (h : (if c then none else some a) = some v) (k : ¬ c → a = v → G) : G := by
  by_cases q : c
  · rw [if_pos q] at h; exact nn h
  · rw [if_neg q] at h; exact k q (Option.some.inj h)
theorem map_some {α β : Type} {o : Option α} {f : α → β} {v : β} {G : Prop} (h : o.map f = some v) (k : ∀ a, o = some a → f a = v → G) : G := by
  cases o with
  | none => exact nn h
  | some a => exact k a rfl (Option.some.inj h)
theorem bind_some {α β : Type} {o : Option α} {f : α → Option β} {v : β} {G : Prop} (h : o.bind f = some v) (k : ∀ a, o = some a → f a = some v → G) : G := by
  cases o with
  | none => exact nn h
  | some a => exact k a rfl h
inductive BinI (μ : M) : Operator → V → V → V → Prop
  | add (i j : Int) : BinI μ .Add (.int i) (.int j) (.int (i + j))
  | sub (i j : Int) : BinI μ .Sub (.int i) (.int j) (.int (i - j))
  | mul (i j : Int) (h : (small i && small j) = true) : BinI μ .Mult (.int i) (.int j) (.int (i * j))
  | fdiv (i j : Int) (h : (small i && small j && decide (0 < j)) = true) : BinI μ .FloorDiv (.int i) (.int j) (.int (i.fdiv j))
  | mod (i j : Int) (h : ¬ j = 0) : BinI μ .Mod (.int i) (.int j) (.int (i.fmod j))
  | pow (i j : Int) (h : (decide (i = 10) && decide (0 ≤ j) && decide (j ≤ 100)) = true) : BinI μ .Pow (.int i) (.int j) (.int (i ^ j.toNat))
  | lst (l m : List V) (h : l.length + m.length ≤ maxLen) : BinI μ .Add (.lst l) (.lst m) (.lst (l ++ m))
  | ref (r : Nat) (l m : List V) (hl : μ[r]? = some l) (h : l.length + m.length ≤ maxLen) : BinI μ .Add (.ref r) (.lst m) (.lst (l ++ m))
  | tup (l m : List V) (h : l.length + m.length ≤ maxLen) : BinI μ .Add (.tup l) (.tup m) (.tup (l ++ m))
inductive IntEI (i : Int) : V → Prop
  | mk : IntEI i (.int i)
theorem intE_inv {v : V} {i : Int} (h : intE v = some i) : IntEI i v := by
  cases v with
  | int j => exact Option.some.inj h ▸ ⟨⟩
  | _ => exact nn h
inductive StrEI (i : Str) : V → Prop
  | mk : StrEI i (.str i)
theorem strE_inv {v : V} {i : Str} (h : strE v = some i) : StrEI i v := by
  cases v with
  | str j => exact Option.some.inj h ▸ ⟨⟩
  | _ => exact nn h
theorem ii_inv {α : Type} {a b : V} {k : Int → Int → Option α} {r : α} {G : V → V → Prop} (h : ii a b k = some r) (g : ∀ i j, k i j = some r → G (.int i) (.int j)) : G a b :=
  bind_some h fun i h1 h => bind_some h fun j h2 h => by cases intE_inv h1; cases intE_inv h2; exact g i j h
inductive LstVI (l : List V) : V → Prop
  | mk : LstVI l (.lst l)
theorem lstV_inv {v : V} {l : List V} (h : lstV v = some l) : LstVI l v := by
  cases v with
  | lst j => exact Option.some.inj h ▸ ⟨⟩
  | _ => exact nn h
theorem addL_inv {l : List V} {b v : V} {G : V → V → Prop} (h : addL l b = some v) (g : ∀ m, l.length + m.length ≤ maxLen → G (.lst m) (.lst (l ++ m))) : G b v :=
  bind_some h fun m h1 h => ite_some h fun c e => by cases lstV_inv h1; exact e ▸ g m c
theorem addV_inv {μ : M} {a b v : V} (h : addV μ b a = some v) : BinI μ .Add a b v := by
  cases a with
  | int i => exact map_some h fun j h1 e => by cases intE_inv h1; exact e ▸ .add i j
  | lst l => exact addL_inv (G := fun b v => BinI μ .Add (.lst l) b v) h fun m c => .lst l m c
  | ref r => exact bind_some h fun l hl h => addL_inv (G := fun b v => BinI μ .Add (.ref r) b v) h fun m c => .ref r l m hl c
  | tup l => cases b with
    | tup m => exact ite_some h fun c e => e ▸ .tup l m c
    | _ => exact nn h
  | _ => exact nn h
theorem binV_inv {μ : M} {op : Operator} {a b v : V} (h : binV μ op a b = some v) : BinI μ op a b v := by
  cases op with
  | Add => exact addV_inv h
  | Sub => exact ii_inv (G := fun a b => BinI μ .Sub a b v) h fun i j h => Option.some.inj h ▸ .sub i j
  | Mult => exact ii_inv (G := fun a b => BinI μ .Mult a b v) h fun i j h => ite_some h fun c e => e ▸ .mul i j c
  | FloorDiv => exact ii_inv (G := fun a b => BinI μ .FloorDiv a b v) h fun i j h => ite_some h fun c e => e ▸ .fdiv i j c
  | Mod => exact ii_inv (G := fun a b => BinI μ .Mod a b v) h fun i j h => ite_none h fun c e => e ▸ .mod i j c
  | Pow => exact ii_inv (G := fun a b => BinI μ .Pow a b v) h fun i j h => ite_some h fun c e => e ▸ .pow i j c
  | _ => exact nn h
inductive CmpI : CmpOp → V → V → Bool → Prop
  | eq (a b : V) (r : Bool) (h : eqV a b = some r) : CmpI .Eq a b r
  | ne (a b : V) (r : Bool) (h : eqV a b = some r) : CmpI .NotEq a b (!r)
  | lt (i j : Int) : CmpI .Lt (.int i) (.int j) (decide (i < j))
  | le (i j : Int) : CmpI .LtE (.int i) (.int j) (decide (i ≤ j))
  | gt (i j : Int) : CmpI .Gt (.int i) (.int j) (decide (j < i))
  | ge (i j : Int) : CmpI .GtE (.int i) (.int j) (decide (j ≤ i))
  | les (x y : Str) : CmpI .LtE (.str x) (.str y) (!decide (y.cps.toList < x.cps.toList))
  | inT (v : V) (l : List V) (r : Bool) (h : inL v l = some r) : CmpI .In v (.tup l) r
  | inL (v : V) (l : List V) (r : Bool) (h : inL v l = some r) : CmpI .In v (.lst l) r
  | ninT (v : V) (l : List V) (r : Bool) (h : Mine.inL v l = some r) : CmpI .NotIn v (.tup l) (!r)
  | inD (x : Str) (l : List (Str × V)) : CmpI .In (.str x) (.dict l) (keyIn x l).isSome
  | inS (x y : Str) : CmpI .In (.str x) (.str y) (Txt.contains y x)
  | nn : CmpI .IsNot .none .none false
  | tn (l : List V) : CmpI .IsNot (.tup l) .none true
theorem inV_inv {a b : V} {r : Bool} (h : inV a b = some r) : CmpI .In a b r := by
  cases b with
  | tup l => exact .inT a l r h
  | lst l => exact .inL a l r h
  | dict l => exact map_some h fun x h1 e => by cases strE_inv h1; exact e ▸ .inD x l
  | str y => exact map_some h fun x h1 e => by cases strE_inv h1; exact e ▸ .inS x y
  | _ => exact nn h
theorem leV_inv {a b : V} {r : Bool} (h : leV b a = some r) : CmpI .LtE a b r := by
  cases a with
  | int i => exact map_some h fun x h1 e => by cases intE_inv h1; exact e ▸ .le i x
  | str i => exact map_some h fun x h1 e => by cases strE_inv h1; exact e ▸ .les i x
  | _ => exact nn h
theorem cmpV_inv {op : CmpOp} {a b : V} {r : Bool} (h : cmpV op a b = some r) : CmpI op a b r := by
  cases op with
  | Eq => exact .eq a b r h
  | NotEq => exact map_some h fun q e e' => e' ▸ .ne a b q e
  | In => exact inV_inv h
  | NotIn => cases b with
    | tup l => exact map_some (f := (!·)) (show (inL a l).map (!·) = some r from h) fun q e e' => e' ▸ .ninT a l q e
    | _ => exact nn h
  | Lt => exact ii_inv (G := fun a b => CmpI .Lt a b r) h fun i j h => Option.some.inj h ▸ .lt i j
  | LtE => exact leV_inv h
  | Gt => exact ii_inv (G := fun a b => CmpI .Gt a b r) h fun i j h => Option.some.inj h ▸ .gt i j
  | GtE => exact ii_inv (G := fun a b => CmpI .GtE a b r) h fun i j h => Option.some.inj h ▸ .ge i j
  | IsNot => cases b with
    | none => cases a with
      | none => exact Option.some.inj h ▸ .nn
      | tup l => exact Option.some.inj h ▸ .tn l
      | _ => exact nn h
    | _ => exact nn h
  | _ => exact nn h
inductive UnI : UnaryOp → V → V → Prop
  | neg (i : Int) : UnI .USub (.int i) (.int (-i))
  | not (b : Bool) : UnI .Not (.bool b) (.bool (!b))
theorem unV_inv {op : UnaryOp} {a v : V} (h : unV op a = some v) : UnI op a v := by
  cases op with
  | USub => cases a with
    | int i => exact Option.some.inj h ▸ .neg i
    | _ => exact nn h
  | Not => cases a with
    | bool i => exact Option.some.inj h ▸ .not i
    | _ => exact nn h
  | _ => exact nn h
inductive TruI : V → Bool → Prop
  | mk (b : Bool) : TruI (.bool b) b
theorem truthV_inv {v : V} {b : Bool} (h : truthV v = some b) : TruI v b := by
  cases v with
  | bool i => exact Option.some.inj h ▸ .mk i
  | _ => exact nn h
inductive IdxI (μ : M) : V → V → V → Prop
  | tup (l : List V) (i : Int) (v : V) (h : small i = true) (e : (seqIndex? i l.length).bind (l[·]?) = some v) : IdxI μ (.tup l) (.int i) v
  | lst (l : List V) (i : Int) (v : V) (h : small i = true) (e : (seqIndex? i l.length).bind (l[·]?) = some v) : IdxI μ (.lst l) (.int i) v
  | ref (r : Nat) (l : List V) (i : Int) (v : V) (hl : μ[r]? = some l) (h : small i = true) (e : (seqIndex? i l.length).bind (l[·]?) = some v) : IdxI μ (.ref r) (.int i) v
  | str (s : Str) (i : Int) (h : (decide (-(s.length : Int) ≤ i) && decide (i < s.length) && decide (s.length ≤ 1000)) = true) : IdxI μ (.str s) (.int i) (.str (Txt.item s i))
  | dict (l : List (Str × V)) (x : Str) (v : V) (e : keyIn x l = some v) : IdxI μ (.dict l) (.str x) v
theorem ite_some' {α : Type} {c : Prop} [Decidable c] {o : Option α} {v : α} {G : Prop} (h : (if c then o else none) = some v) (k : c → o = some v → G) : G := by
  by_cases q : c
  · rw [if_pos q] at h; exact k q h
  · rw [if_neg q] at h; exact nn h
theorem idxV_inv {μ : M} {a i v : V} (h : idxV μ a i = some v) : IdxI μ a i v := by
  cases a with
  | tup l => cases i with
    | int i => exact ite_some' h fun c e => .tup l i v c e
    | _ => exact nn h
  | lst l => cases i with
    | int i => exact ite_some' h fun c e => .lst l i v c e
    | _ => exact nn h
  | ref r => cases i with
    | int i => exact ite_some' h fun c e => bind_some e fun l hl e => .ref r l i v hl c e
    | _ => exact nn h
  | str s => cases i with
    | int i => exact ite_some h fun c e => e ▸ .str s i c
    | _ => exact nn h
  | dict l => cases i with
    | str x => exact .dict l x v h
    | _ => exact nn h
  | _ => exact nn h
inductive AugI : Operator → V → V → Int → Prop
  | add (i j : Int) : AugI .Add (.int i) (.int j) (i + j)
  | mul (i j : Int) (h : (small i && small j) = true) : AugI .Mult (.int i) (.int j) (i * j)
theorem augV_inv {op : Operator} {a b : V} {r : Int} (h : augV op a b = some r) : AugI op a b r := by
  cases op with
  | Add => exact ii_inv (G := fun a b => AugI .Add a b r) h fun i j h => Option.some.inj h ▸ .add i j
  | Mult => exact ii_inv (G := fun a b => AugI .Mult a b r) h fun i j h => ite_some h fun c e => e ▸ .mul i j c
  | _ => exact nn h
theorem ite_else {α : Type} {c : Prop} [Decidable c] {o : Option α} {a v : α} {G : Prop} (h : (if c then some a else o) = some v) (k : c → a = v → G) (k2 : o = some v → G) : G := by
  by_cases q : c
  · rw [if_pos q] at h; exact k q (Option.some.inj h)
  · rw [if_neg q] at h; exact k2 h
inductive AttI : V → Str → V → Prop
  | kind (k w : V) (n : Nat) : AttI (.level k w n) "kind" k
  | word (k w : V) (n : Nat) : AttI (.level k w n) "word" w
  | args (k w : V) (n : Nat) : AttI (.level k w n) "args" (.ref n)
  | operands (k w : V) (n : Nat) : AttI (.level k w n) "operands" (.ref (n + 1))
  | operators (k w : V) (n : Nat) : AttI (.level k w n) "operators" (.ref (n + 2))
theorem attrV_inv {a v : V} {x : Str} (h : attrV a x = some v) : AttI a x v := by
  cases a with
  | level k w n =>
    refine ite_else h (fun c e => ?_) fun h => ite_else h (fun c e => ?_) fun h => ite_else h (fun c e => ?_) fun h => ite_else h (fun c e => ?_) fun h => ite_some h fun c e => ?_
    · rw [← e, beq_iff_eq.mp c]; exact .kind k w n
    · rw [← e, beq_iff_eq.mp c]; exact .word k w n
    · rw [← e, beq_iff_eq.mp c]; exact .args k w n
    · rw [← e, beq_iff_eq.mp c]; exact .operands k w n
    · rw [← e, beq_iff_eq.mp c]; exact .operators k w n
  | _ => exact nn h
inductive MApp (r : Nat) : V → Str → Prop
  | mk : MApp r (.ref r) "append"
inductive MPop (r : Nat) : V → Str → Prop
  | mk : MPop r (.ref r) "pop"
inductive MGet (l : List (Str × V)) : V → Str → Prop
  | mk : MGet l (.dict l) "get"
inductive MSpl (s : Str) : V → Str → Prop
  | mk : MSpl s (.str s) "split"
def MtI (a : V) (x : Str) : Mt → Prop
  | .app r => MApp r a x
  | .pop r => MPop r a x
  | .get l => MGet l a x
  | .split s => MSpl s a x
theorem mtOf_inv {a : V} {x : Str} {m : Mt} (h : mtOf a x = some m) : MtI a x m := by
  cases a with
  | ref r => exact ite_else h (fun c e => by rw [c, ← e]; exact MApp.mk) fun h => ite_some h fun c e => by rw [c, ← e]; exact MPop.mk
  | dict l => exact ite_some h fun c e => by rw [c, ← e]; exact MGet.mk
  | str s => exact ite_some h fun c e => by rw [c, ← e]; exact MSpl.mk
  | _ => exact nn h
inductive RunI (μ : M) : Mt → List V → Out V → Prop
  | app (r : Nat) (v : V) (l : List V) (hl : μ[r]? = some l) (hz : l.length < maxLen) : RunI μ (.app r) [v] (.ok .none (μ.set r (l ++ [v])))
  | pop (r : Nat) (v : V) (l : List V) (hl : μ[r]? = some l) (hv : l.getLast? = some v) (hz : l.length ≤ maxLen) : RunI μ (.pop r) [] (.ok v (μ.set r l.dropLast))
  | get (l : List (Str × V)) (k : Str) (d : V) : RunI μ (.get l) [.str k, d] (.ok ((keyIn k l).getD d) μ)
  | split (s c : Str) (h : splitOk s c = true) : RunI μ (.split s) [.str c] (.ok (.lst ((Builtin.Str.partsBetween s (Builtin.Str.occurrences s c 0 s.length (s.length + 1)) c.length).map .str)) μ)
theorem ite_no {α : Type} {c : Prop} [Decidable c] {o o' : Out α} {G : Out α → Prop} (h : (if c then o else .no) = o') (hn : o' ≠ .no) (k : c → G o) : G o' := by
  by_cases q : c
  · rw [if_pos q] at h; exact h ▸ k q
  · rw [if_neg q] at h; exact absurd h.symm hn
theorem append_inv {μ : M} {r : Nat} {v : V} {o : Out V} {q : Option (List V)} (hq : μ[r]? = q) (h : (match (generalizing := false) q with
    | some l => if l.length < maxLen then .ok .none (μ.set r (l ++ [v])) else .no
    | none => .no) = o) (hn : o ≠ .no) : RunI μ (.app r) [v] o := by
  cases q with
  | none => exact absurd h.symm hn
  | some l => exact ite_no h hn fun c => .app r v l hq c
theorem pop_inv' {μ : M} {r : Nat} {l : List V} {o : Out V} {q : Option V} (hl : μ[r]? = some l) (hq : l.getLast? = q) (h : (match (generalizing := false) q with
      | some v => if l.length ≤ maxLen then .ok v (μ.set r l.dropLast) else .no
      | none => .no) = o) (hn : o ≠ .no) : RunI μ (.pop r) [] o := by
  cases q with
  | none => exact absurd h.symm hn
  | some v => exact ite_no h hn fun c => .pop r v l hl hq c
theorem pop_inv {μ : M} {r : Nat} {o : Out V} {q : Option (List V)} (hq : μ[r]? = q) (h : (match (generalizing := false) q with
    | some l => (match l.getLast? with
      | some v => if l.length ≤ maxLen then .ok v (μ.set r l.dropLast) else .no
      | none => .no)
    | none => .no) = o) (hn : o ≠ .no) : RunI μ (.pop r) [] o := by
  cases q with
  | none => exact absurd h.symm hn
  | some l => exact pop_inv' hq rfl h hn
theorem run_inv {μ : M} {m : Mt} {args : List V} {o : Out V} (h : m.run μ args = o) (hn : o ≠ .no) : RunI μ m args o := by
  cases m with
  | app r => cases args with
    | nil => exact absurd h.symm hn
    | cons v l => cases l with
      | nil => exact append_inv rfl h hn
      | cons _ _ => exact absurd h.symm hn
  | pop r => cases args with
    | nil => exact pop_inv rfl h hn
    | cons _ _ => exact absurd h.symm hn
  | get l => cases args with
    | nil => exact absurd h.symm hn
    | cons v r => cases v with
      | str k => cases r with
        | nil => exact absurd h.symm hn
        | cons d r => cases r with
          | nil => exact h ▸ .get l k d
          | cons _ _ => exact absurd h.symm hn
      | _ => exact absurd h.symm hn
  | split s => cases args with
    | nil => exact absurd h.symm hn
    | cons v r => cases v with
      | str k => cases r with
        | nil => exact ite_no h hn fun c => .split s k c
        | cons d r => exact absurd h.symm hn
      | _ => exact absurd h.symm hn
inductive LenI (μ : M) : List V → V → Prop
  | ref (r : Nat) (l : List V) (hl : μ[r]? = some l) (h : l.length ≤ maxLen) : LenI μ [.ref r] (.int l.length)
  | lst (l : List V) (h : l.length ≤ maxLen) : LenI μ [.lst l] (.int l.length)
  | str (s : Str) (h : s.length ≤ maxLen) : LenI μ [.str s] (.int s.length)
theorem lenV_ref {μ : M} {r : Nat} {v : V} {q : Option (List V)} (hq : μ[r]? = q) (h : (match (generalizing := false) q with
    | some l => if l.length ≤ maxLen then some (V.int l.length) else none
    | none => none) = some v) : LenI μ [.ref r] v := by
  cases q with
  | none => exact nn h
  | some l => exact ite_some h fun c e => e ▸ .ref r l hq c
theorem lenV_inv {μ : M} {vs : List V} {v : V} (h : lenV μ vs = some v) : LenI μ vs v := by
  cases vs with
  | nil => exact nn h
  | cons w r => cases r with
    | nil => cases w with
      | ref r => exact lenV_ref rfl h
      | lst l => exact ite_some h fun c e => e ▸ .lst l c
      | str l => exact ite_some h fun c e => e ▸ .str l c
      | _ => exact nn h
    | cons _ _ => cases w <;> exact nn h
inductive SumI : List V → V → Prop
  | mk (l : List V) (ns : List Int) (h : intsOf l = some ns) (hb : ns.length ≤ 1000 ∧ ∀ n ∈ ns, 0 ≤ n ∧ n ≤ 1000) : SumI [.lst l] (.int ns.sum)
theorem sumV_lst {l : List V} {v : V} {q : Option (List Int)} (hq : intsOf l = q) (h : (match (generalizing := false) q with
    | some ns => if ns.length ≤ 1000 ∧ ∀ n ∈ ns, 0 ≤ n ∧ n ≤ 1000 then some (V.int ns.sum) else none
    | none => none) = some v) : SumI [.lst l] v := by
  cases q with
  | none => exact nn h
  | some ns => exact ite_some h fun c e => e ▸ .mk l ns hq c
theorem sumV_inv {vs : List V} {v : V} (h : sumV vs = some v) : SumI vs v := by
  cases vs with
  | nil => exact nn h
  | cons w r => cases r with
    | nil => cases w with
      | lst l => exact sumV_lst rfl h
      | _ => exact nn h
    | cons _ _ => cases w <;> exact nn h
inductive OrdI : List V → V → Prop
  | mk (s : Str) (h : s.length = 1) : OrdI [.str s] (.int (s.cps.getD 0 0 : Nat))
inductive AbsI : List V → V → Prop
  | mk (i : Int) : AbsI [.int i] (.int (if i < 0 then -i else i))
inductive IntI : List V → V → Prop
  | mk (i : Int) : IntI [.int i] (.int i)
theorem ordV_inv {vs : List V} {v : V} (h : ordV vs = some v) : OrdI vs v := by
  cases vs with
  | nil => exact nn h
  | cons w r => cases r with
    | nil => cases w with
      | str s => exact ite_some h fun c e => e ▸ .mk s c
      | _ => exact nn h
    | cons _ _ => cases w <;> exact nn h
theorem absV_inv {vs : List V} {v : V} (h : absV vs = some v) : AbsI vs v := by
  cases vs with
  | nil => exact nn h
  | cons w r => cases r with
    | nil => cases w with
      | int i => exact Option.some.inj h ▸ .mk i
      | _ => exact nn h
    | cons _ _ => cases w <;> exact nn h
theorem intV_inv {vs : List V} {v : V} (h : intV vs = some v) : IntI vs v := by
  cases vs with
  | nil => exact nn h
  | cons w r => cases r with
    | nil => cases w with
      | int i => exact Option.some.inj h ▸ .mk i
      | _ => exact nn h
    | cons _ _ => cases w <;> exact nn h
inductive BltI (μ : M) (args : List V) (v : V) : Str → Value → Prop
  | len (h : LenI μ args v) : BltI μ args v "len" (.builtin "len")
  | sum (h : SumI args v) : BltI μ args v "sum" (.builtin "sum")
  | ord (h : OrdI args v) : BltI μ args v "ord" (.builtin "ord")
  | abs (h : AbsI args v) : BltI μ args v "abs" (.builtin "abs")
  | int (h : IntI args v) : BltI μ args v "int" (.type "int")
theorem builtV_inv {μ : M} {x : Str} {args : List V} {v : V} (h : builtV μ x args = some v) : BltI μ args v x (bltFn x) := by
  unfold builtV at h
  unfold bltFn
  by_cases c1 : x = ("len" : Str)
  · rw [if_pos c1] at h ⊢; rw [c1]; exact .len (lenV_inv h)
  rw [if_neg c1] at h ⊢
  by_cases c2 : x = ("sum" : Str)
  · rw [if_pos c2] at h ⊢; rw [c2]; exact .sum (sumV_inv h)
  rw [if_neg c2] at h ⊢
  by_cases c3 : x = ("ord" : Str)
  · rw [if_pos c3] at h ⊢; rw [c3]; exact .ord (ordV_inv h)
  rw [if_neg c3] at h ⊢
  by_cases c4 : x = ("abs" : Str)
  · rw [if_pos c4] at h ⊢; rw [c4]; exact .abs (absV_inv h)
  rw [if_neg c4] at h ⊢
  refine ite_some' h fun c5 h => ?_
  rw [c5]; exact .int (intV_inv h)
inductive BltF : Value → Prop
  | fn (n : String) : BltF (.builtin n)
  | ty (n : String) : BltF (.type n)
theorem bltF (x : Str) : BltF (bltFn x) := by
  unfold bltFn
  by_cases c1 : x = ("len" : Str)
  · rw [if_pos c1]; exact .fn _
  rw [if_neg c1]
  by_cases c2 : x = ("sum" : Str)
  · rw [if_pos c2]; exact .fn _
  rw [if_neg c2]
  by_cases c3 : x = ("ord" : Str)
  · rw [if_pos c3]; exact .fn _
  rw [if_neg c3]
  by_cases c4 : x = ("abs" : Str)
  · rw [if_pos c4]; exact .fn _
  rw [if_neg c4]; exact .ty _
inductive IntsI : List V → List Int → Prop
  | nil : IntsI [] []
  | cons (i : Int) {l : List V} {r : List Int} (h : IntsI l r) : IntsI (.int i :: l) (i :: r)
theorem intsOf_inv {l : List V} : ∀ {ns : List Int}, intsOf l = some ns → IntsI l ns := by
  induction l with
  | nil => exact fun h => Option.some.inj h ▸ .nil
  | cons v l ih =>
    intro ns h
    cases v with
    | int i => exact map_some (show (intsOf l).map (i :: ·) = some ns from h) fun a q e => e ▸ .cons i (ih q)
    | _ => exact nn h
def VI (e : Expr) : EV → Prop
  | .nm x p => e = .Name x p
  | .call f as kw p => e = .Call f as kw p
  | .attr o x p => e = .Attribute o x p
  | .list es p => e = .List es p
  | .tup es k p => e = .Tuple es k p
  | .slice lo hi st p => e = .Slice lo hi st p
  | .sub o i p => e = .Subscript o i p
  | .no => True
theorem view_spec (e : Expr) : VI e (view e) := by
  cases e <;> first | exact trivial | exact rfl
inductive NmPI (x : Str) (p : Pos) : Expr → Prop
  | mk : NmPI x p (.Name x p)
theorem nmP_inv {e : Expr} {q : Str × Pos} (h : nmP e = some q) : NmPI q.1 q.2 e := by
  have s := view_spec e
  unfold nmP at h
  revert s h
  generalize view e = v
  intro h s
  cases v with
  | nm y p => cases s; exact Option.some.inj h ▸ ⟨⟩
  | _ => exact nn h
inductive NmI (x : Str) : Expr → Prop
  | mk (p : Pos) : NmI x (.Name x p)
theorem nmOf_inv {e : Expr} {x : Str} (h : nmOf e = some x) : NmI x e :=
  map_some h fun q h1 e => by cases nmP_inv h1; exact e ▸ ⟨_⟩
inductive NmL : List Expr → List Str → Prop
  | nil : NmL [] []
  | cons (x : Str) (p : Pos) {es : List Expr} {xs : List Str} (r : NmL es xs) : NmL (.Name x p :: es) (x :: xs)
theorem namesOf_inv {es : List Expr} : ∀ {xs : List Str}, namesOf es = some xs → NmL es xs := by
  induction es with
  | nil => exact fun h => Option.some.inj h ▸ .nil
  | cons e r ih => exact fun h => bind_some h fun x q h => map_some h fun xs f e => by cases nmOf_inv q with | mk p => exact e ▸ .cons x p (ih f)
inductive AsgI (sc : Scope) (ρ : Rho) : Expr → V → Rho → Prop
  | one (x : Str) (p : Pos) (v : V) (h : sc.names.lookup x = some .local) : AsgI sc ρ (.Name x p) v (ρ.set x v)
  | tup (es : List Expr) (k : Nat) (p : Pos) (xs : List Str) (l : List V) (n : NmL es xs) (hl : xs.length = l.length) (ok : nmsOk sc xs = true) : AsgI sc ρ (.Tuple es k p) (.tup l) (setAll ρ xs l)
theorem assignN_inv {sc : Scope} {ρ ρ' : Rho} {e : Expr} {v : V} (h : assignN sc ρ e v = some ρ') : AsgI sc ρ e v ρ' := by
  have s := view_spec e
  unfold assignN at h
  revert s h
  generalize view e = w
  intro h s
  cases w with
  | nm x p => cases s; exact ite_some h fun c e => e ▸ .one x p v c
  | tup es k p =>
    cases s
    refine bind_some h fun xs n h => bind_some h fun l t h => ?_
    cases v with
    | tup l' => cases Option.some.inj t; exact ite_some h fun c e => e ▸ .tup es k p xs l (namesOf_inv n) c.1 c.2
    | _ => exact nn t
  | _ => exact nn h
theorem nmsOk_inv {sc : Scope} {xs : List Str} (h : nmsOk sc xs = true) : (∀ x ∈ xs, sc.names.lookup x = some .local) ∧ xs.Nodup :=
  ⟨fun x hx => beq_iff_eq.mp (List.all_eq_true.mp (Bool.and_eq_true_iff.mp h).1 x hx), of_decide_eq_true (Bool.and_eq_true_iff.mp h).2⟩
inductive CallI (x : Str) (as : List Expr) : Expr → Prop
  | mk (p q : Pos) : CallI x as (.Call (.Name x p) as [] q)
inductive CaI (f : Expr) (as : List Expr) (kw : List Keyword) : Expr → Prop
  | mk (q : Pos) : CaI f as kw (.Call f as kw q)
theorem callAs_inv {e : Expr} {q : Expr × List Expr × List Keyword} (h : callAs e = some q) : CaI q.1 q.2.1 q.2.2 e := by
  have s := view_spec e
  unfold callAs at h
  revert s h
  generalize view e = v
  intro h s
  cases v with
  | call f as kw p => cases s; exact Option.some.inj h ▸ ⟨p⟩
  | _ => exact nn h
theorem callN_inv {e : Expr} {x : Str} {as : List Expr} (h : callN e = some (x, as)) : CallI x as e := by
  refine bind_some h fun q h1 h2 => ?_
  obtain ⟨f, as', kw⟩ := q
  cases callAs_inv h1 with | mk q =>
  cases kw with
  | nil => exact map_some h2 fun y e f => by cases f; cases nmOf_inv e with | mk p => exact ⟨p, q⟩
  | cons _ _ => exact nn h2
inductive SrcKI (x : Str) (a : Expr) : Expr → Prop
  | mk (p q : Pos) : SrcKI x a (.Call (.Name x p) [a] [] q)
theorem srcK_inv {e a : Expr} {x : Str} (h : srcK e = some (x, a)) : SrcKI x a e := by
  refine bind_some h fun q h1 h2 => map_some h2 fun b h3 h4 => ?_
  obtain ⟨y, as⟩ := q
  cases h4
  cases callN_inv h1 with
  | mk p q => cases as with
    | nil => exact nn h3
    | cons c r => cases r with
      | nil => exact Option.some.inj h3 ▸ ⟨p, q⟩
      | cons _ _ => exact nn h3
inductive RaiI (x : Str) (as : List Expr) : Option Expr → Option Expr → Prop
  | mk (p q : Pos) : RaiI x as (some (.Call (.Name x p) as [] q)) none
theorem raiseOf_inv {a b : Option Expr} {x : Str} {as : List Expr} (h : raiseOf a b = some (x, as)) : RaiI x as a b := by
  cases a with
  | none => exact nn h
  | some e => cases b with
    | none => cases callN_inv h with | mk p q => exact ⟨p, q⟩
    | some _ => exact nn h
inductive AttrI (x a : Str) : Expr → Prop
  | mk (p q : Pos) : AttrI x a (.Attribute (.Name x p) a q)
theorem attrN_inv {e : Expr} {x a : Str} (h : attrN e = some (x, a)) : AttrI x a e := by
  have s := view_spec e
  unfold attrN at h
  revert s h
  generalize view e = v
  intro h s
  cases v with
  | attr f a' q => cases s; exact map_some h fun y e f => by cases f; cases nmOf_inv e with | mk p => exact ⟨p, q⟩
  | _ => exact nn h
inductive RetI (x a : Str) : Stmt → Prop
  | mk (p q r : Pos) : RetI x a (.Return (some (.Attribute (.Name x p) a q)) r)
theorem retA_inv {e : Stmt} {x a : Str} (h : retA e = some (x, a)) : RetI x a e := by
  cases e with
  | Return o r => cases o with
    | none => exact nn h
    | some e => cases attrN_inv h with | mk p q => exact ⟨p, q, r⟩
  | _ => exact nn h
inductive TryI (x y z a : Str) : List ExceptHandler → Prop
  | mk (p q r s t : Pos) : TryI x y z a [.ExceptHandler (some (.Name x p)) (some y) [.Return (some (.Attribute (.Name z q) a r)) s] t]
theorem tryOf_inv {hs : List ExceptHandler} {x y z a : Str} (h : tryOf hs = some (x, y, z, a)) : TryI x y z a hs := by
  cases hs with
  | nil => exact nn h
  | cons h0 r => cases h0 with
    | ExceptHandler e n b t => cases e with
      | none => exact nn h
      | some e => cases n with
        | none => exact nn h
        | some n => cases b with
          | nil => exact nn h
          | cons s b => cases b with
            | cons _ _ => exact nn h
            | nil => cases r with
              | cons _ _ => exact nn h
              | nil => exact bind_some h fun x' h1 h2 => map_some h2 fun q h3 h4 => by cases h4; cases nmOf_inv h1 with | mk p => cases retA_inv h3 with | mk q r s => exact ⟨p, q, r, s, t⟩
inductive SubI (o : Str) (p : Pos) (i : Expr) : Expr → Prop
  | mk (z : Pos) : SubI o p i (.Subscript (.Name o p) i z)
theorem subN_inv {e : Expr} {q : Str × Pos × Expr} (h : subN e = some q) : SubI q.1 q.2.1 q.2.2 e := by
  have s := view_spec e
  unfold subN at h
  revert s h
  generalize view e = v
  intro h s
  cases v with
  | sub o i z => cases s; exact map_some h fun q h1 h2 => by cases h2; cases nmP_inv h1; exact ⟨z⟩
  | _ => exact nn h
def TgtI (ts : List Expr) : TK → Prop
  | .no => True
  | .sub o p i => ∃ z, ts = [.Subscript (.Name o p) i z]
  | .one t => ts = [t]
theorem tgtK_inv (ts : List Expr) : TgtI ts (tgtK ts) := by
  cases ts with
  | nil => exact trivial
  | cons t r => cases r with
    | cons _ _ => exact trivial
    | nil =>
      show TgtI [t] (match subN t with
        | some q => .sub q.1 q.2.1 q.2.2
        | none => .one t)
      cases h : subN t with
      | none => exact rfl
      | some q => cases subN_inv h with | mk z => exact ⟨z, rfl⟩
inductive GenI (x : Str) (it : Expr) : List Comprehension → Prop
  | mk (p : Pos) : GenI x it [⟨.Name x p, it, [], 0⟩]
theorem genOf_inv {g : List Comprehension} {x : Str} {it : Expr} (h : genOf g = some (x, it)) : GenI x it g := by
  cases g with
  | nil => exact nn h
  | cons c r => cases c with
    | mk t i ifs k => cases ifs with
      | cons _ _ => exact nn h
      | nil => cases r with
        | cons _ _ => exact nn h
        | nil => exact ite_some' h fun c h => map_some h fun y e f => by cases f; cases c; cases nmOf_inv e with | mk p => exact ⟨p⟩
inductive SrcI : Expr → Src → Prop
  | flat (x : Str) (p : Pos) (s : Src) (h : s.flat = true) : SrcI (.Name x p) s
  | enum (ts : List Expr) (k : Nat) (p : Pos) (s : Src) (h : (!s.flat) = true) : SrcI (.Tuple ts k p) s
theorem srcOk_inv {e : Expr} {r : Src} (h : srcOk e r = true) : SrcI e r := by
  have s := view_spec e
  unfold srcOk at h
  revert s h
  generalize view e = v
  intro h s
  cases v with
  | nm x p => cases s; exact .flat x p r h
  | tup ts k p => cases s; exact .enum ts k p r h
  | _ => exact nof h
inductive RepI (es : List Expr) : Expr → Operator → Prop
  | mk (p : Pos) : RepI es (.List es p) .Mult
inductive LstEI (es : List Expr) : Expr → Prop
  | mk (p : Pos) : LstEI es (.List es p)
theorem lstE_inv {e : Expr} {es : List Expr} (h : lstE e = some es) : LstEI es e := by
  have s := view_spec e
  unfold lstE at h
  revert s h
  generalize view e = v
  intro h s
  cases v with
  | list l p => cases s; exact Option.some.inj h ▸ ⟨p⟩
  | _ => exact nn h
theorem isRep_inv {e : Expr} {op : Operator} {es : List Expr} (h : isRep e op = some es) : RepI es e op :=
  bind_some h fun l h1 h2 => by
    cases lstE_inv h1 with | mk p =>
    cases op with
    | Mult => exact Option.some.inj h2 ▸ ⟨p⟩
    | _ => exact nn h2
inductive SliI (lo hi st : Option Expr) : Expr → Prop
  | mk (p : Pos) : SliI lo hi st (.Slice lo hi st p)
theorem sliceOf_inv {e : Expr} {lo hi st : Option Expr} (h : sliceOf e = some (lo, hi, st)) : SliI lo hi st e := by
  have s := view_spec e
  unfold sliceOf at h
  revert s h
  generalize view e = v
  intro h s
  cases v with
  | slice a b c p => cases s; cases Option.some.inj h; exact ⟨p⟩
  | _ => exact nn h
inductive IsNmI : Expr → Prop
  | mk (x : Str) (p : Pos) : IsNmI (.Name x p)
theorem isNm_inv {e : Expr} (h : isNm e = true) : IsNmI e := by
  replace h : (nmP e).isSome = true := h
  cases q : nmP e with
  | none => rw [q] at h; exact nof h
  | some y => cases nmP_inv q; exact ⟨_, _⟩
inductive PlCI : Expr → Prop
  | mk (f : Expr) (as : List Expr) (p : Pos) : PlCI (.Call f as [] p)
theorem plainCall_inv {e : Expr} (h : plainCall e = true) : PlCI e := by
  unfold plainCall at h
  cases q : callAs e with
  | none => rw [q] at h; exact nof h
  | some y =>
    rw [q] at h
    obtain ⟨f, as, kw⟩ := y
    cases kw with
    | nil => cases callAs_inv q with | mk p => exact ⟨f, as, p⟩
    | cons _ _ => exact nof h
def CKI (f : Expr) (kw : List Keyword) : CK → Prop
  | .no => True
  | .meth o x ap => f = .Attribute o x ap ∧ kw = [] ∧ isCall o = false
  | .fn x => kw = [] ∧ ∃ p, f = .Name x p
theorem callK_inv (f : Expr) (kw : List Keyword) : CKI f kw (callK f kw) := by
  cases kw with
  | cons _ _ => exact trivial
  | nil =>
    show CKI f [] (match view f with
      | .attr o x ap => bif isCall o then .no else .meth o x ap
      | .nm f _ => .fn f
      | _ => .no)
    have s := view_spec f
    revert s
    generalize view f = v
    intro s
    cases v with
    | attr o x ap =>
      show CKI f [] (bif isCall o then .no else .meth o x ap)
      cases h : isCall o with
      | true => exact trivial
      | false => exact ⟨s, rfl, h⟩
    | nm x p => exact ⟨rfl, p, s⟩
    | _ => exact trivial
end Mine
namespace Mine
structure Par where
  prog : Program
  w : World
  K : Frag
  C : Addr
  B : Addr
  h₀ : Heap
  mg : Str → Option Value
  mb : Str → Option Value
variable (P : Par)
inductive LevelAt (h : Heap) (ad : List Addr) (k w : Str) (n : Nat) (x : Addr) : Prop
  | mk : ∀ dx od m a0 a1 a2 t1 t2, h.get? x = some (instObj P.C dx) → h.get? dx = some od → h.Ns dx m → m "kind" = some (.str k t1) → m "word" = some (.str w t2) → m "args" = some (.ref a0) → m "operands" = some (.ref a1) → m "operators" = some (.ref a2) → ad[n]? = some a0 → ad[n + 1]? = some a1 → ad[n + 2]? = some a2 → LevelAt h ad k w n x
mutual
inductive Rel (P : Par) (h : Heap) (ad fs : List Addr) : V → Value → Prop
  | none : Rel P h ad fs .none .none
  | bool (b : Bool) : Rel P h ad fs (.bool b) (.bool b)
  | int (i : Int) (t : Tok) : Rel P h ad fs (.int i) (.int i t)
  | str (s : Str) (t : Tok) : Rel P h ad fs (.str s) (.str s t)
  | tup {l : List V} {a : Addr} {items : Array Value} (ho : IsTup h a items) (ha : a ∉ ad) (hf : a ∉ fs) (r : RelL P h ad fs l items.toList) : Rel P h ad fs (.tup l) (.ref a)
  | lst {l : List V} {a : Addr} {items : Array Value} (ho : h.IsList a items) (ha : a ∉ ad) (hf : a ∉ fs) (r : RelL P h ad fs l items.toList) : Rel P h ad fs (.lst l) (.ref a)
  | ref {n : Nat} {a : Addr} (hn : ad[n]? = some a) : Rel P h ad fs (.ref n) (.ref a)
  | dict {l : List (Str × V)} {a : Addr} {f : Str → Option Value} (g : Str → Value) (ho : h.MapOf (strKind P.prog P.w) a f) (hs : (a == sysModules) = false) (ha : a ∉ ad) (hf : a ∉ fs)
      (hy : ∀ x v, keyIn x l = some v → f x = some (g x)) (hv : ∀ x v, keyIn x l = some v → Rel P h ad fs v (g x)) (hn : ∀ x, keyIn x l = none → f x = none) : Rel P h ad fs (.dict l) (.ref a)
  | level {k w : Str} {n : Nat} {x : Addr} (ho : LevelAt P h ad k w n x) (ha : x ∉ ad) (hf : x ∉ fs) (hd : ∀ dx, h.get? x = some (instObj P.C dx) → dx ∉ ad ∧ dx ∉ fs) : Rel P h ad fs (.level (.str k) (.str w) n) (.ref x)
inductive RelL (P : Par) (h : Heap) (ad fs : List Addr) : List V → List Value → Prop
  | nil : RelL P h ad fs [] []
  | cons {v : V} {x : Value} {l : List V} {xs : List Value} (r : Rel P h ad fs v x) (rs : RelL P h ad fs l xs) : RelL P h ad fs (v :: l) (x :: xs)
end
variable {P}
inductive RNone : Value → Prop
  | mk : RNone .none
inductive RBool (b : Bool) : Value → Prop
  | mk : RBool b (.bool b)
inductive RInt (i : Int) : Value → Prop
  | mk (t : Tok) : RInt i (.int i t)
inductive RStr (s : Str) : Value → Prop
  | mk (t : Tok) : RStr s (.str s t)
inductive RTup (P : Par) (h : Heap) (ad fs : List Addr) (l : List V) : Value → Prop
  | mk {a : Addr} {items : Array Value} (ho : IsTup h a items) (ha : a ∉ ad) (hf : a ∉ fs) (r : RelL P h ad fs l items.toList) : RTup P h ad fs l (.ref a)
inductive RLst (P : Par) (h : Heap) (ad fs : List Addr) (l : List V) : Value → Prop
  | mk {a : Addr} {items : Array Value} (ho : h.IsList a items) (ha : a ∉ ad) (hf : a ∉ fs) (r : RelL P h ad fs l items.toList) : RLst P h ad fs l (.ref a)
inductive RRef (ad : List Addr) (n : Nat) : Value → Prop
  | mk {a : Addr} (hn : ad[n]? = some a) : RRef ad n (.ref a)
inductive RDict (P : Par) (h : Heap) (ad fs : List Addr) (l : List (Str × V)) : Value → Prop
  | mk {a : Addr} {f : Str → Option Value} (g : Str → Value) (ho : h.MapOf (strKind P.prog P.w) a f) (hs : (a == sysModules) = false) (ha : a ∉ ad) (hf : a ∉ fs)
      (hy : ∀ x v, keyIn x l = some v → f x = some (g x)) (hv : ∀ x v, keyIn x l = some v → Rel P h ad fs v (g x)) (hn : ∀ x, keyIn x l = none → f x = none) : RDict P h ad fs l (.ref a)
inductive RLevel (P : Par) (h : Heap) (ad fs : List Addr) : V → V → Nat → Value → Prop
  | mk {k w : Str} {n : Nat} {x : Addr} (ho : LevelAt P h ad k w n x) (ha : x ∉ ad) (hf : x ∉ fs) (hd : ∀ dx, h.get? x = some (instObj P.C dx) → dx ∉ ad ∧ dx ∉ fs) : RLevel P h ad fs (.str k) (.str w) n (.ref x)
def RelI (P : Par) (h : Heap) (ad fs : List Addr) : V → Value → Prop
  | .none => RNone
  | .bool b => RBool b
  | .int i => RInt i
  | .str s => RStr s
  | .tup l => RTup P h ad fs l
  | .lst l => RLst P h ad fs l
  | .ref n => RRef ad n
  | .dict l => RDict P h ad fs l
  | .level k w n => RLevel P h ad fs k w n
theorem Rel.inv {h : Heap} {ad fs : List Addr} {v : V} {x : Value} (r : Rel P h ad fs v x) : RelI P h ad fs v x :=
  Rel.casesOn (motive_1 := fun v x _ => RelI P h ad fs v x) r .mk (fun _ => .mk) (fun _ t => .mk t) (fun _ t => .mk t) .mk .mk .mk .mk .mk
inductive RNil : List Value → Prop
  | mk : RNil []
inductive RCons (P : Par) (h : Heap) (ad fs : List Addr) (v : V) (l : List V) : List Value → Prop
  | mk {x : Value} {xs : List Value} (r : Rel P h ad fs v x) (rs : RelL P h ad fs l xs) : RCons P h ad fs v l (x :: xs)
def RelLI (P : Par) (h : Heap) (ad fs : List Addr) : List V → List Value → Prop
  | [] => RNil
  | v :: l => RCons P h ad fs v l
theorem RelL.inv {h : Heap} {ad fs : List Addr} {v : List V} {x : List Value} (r : RelL P h ad fs v x) : RelLI P h ad fs v x :=
  RelL.casesOn (motive_2 := fun v x _ => RelLI P h ad fs v x) r .mk .mk
structure Carry (h h' : Heap) (ad ad' fs fs' : List Addr) : Prop where
  keep : ∀ b o, h.get? b = some o → (∀ vs, o.data ≠ .fields vs) → b ∉ ad → b ∉ fs → h'.get? b = some o
  kAd : ∀ b o, h.get? b = some o → b ∉ ad → b ∉ ad'
  kFs : ∀ b o, h.get? b = some o → b ∉ fs → b ∉ fs'
  at_ : ∀ (n : Nat) (a : Addr), ad[n]? = some a → ad'[n]? = some a
theorem IsTup.some {h : Heap} {a : Addr} {items : Array Value} (ho : IsTup h a items) : ∃ o, h.get? a = some o := let ⟨o, e, _⟩ := ho; ⟨o, e⟩
theorem lst_some {h : Heap} {a : Addr} {items : Array Value} (ho : h.IsList a items) : ∃ o, h.get? a = some o := let ⟨o, e, _⟩ := ho; ⟨o, e⟩
theorem Carry.tup {h h' : Heap} {ad ad' fs fs' : List Addr} (c : Carry h h' ad ad' fs fs') {a : Addr} {items : Array Value} (ho : IsTup h a items) (ha : a ∉ ad) (hf : a ∉ fs) : IsTup h' a items ∧ a ∉ ad' ∧ a ∉ fs' := by
  obtain ⟨o, e, e2, n, z⟩ := ho
  exact ⟨⟨o, c.keep _ _ e (fun vs q => by rw [z] at q; cases q) ha hf, e2, n, z⟩, c.kAd _ _ e ha, c.kFs _ _ e hf⟩
theorem Carry.lst {h h' : Heap} {ad ad' fs fs' : List Addr} (c : Carry h h' ad ad' fs fs') {a : Addr} {items : Array Value} (ho : h.IsList a items) (ha : a ∉ ad) (hf : a ∉ fs) : h'.IsList a items ∧ a ∉ ad' ∧ a ∉ fs' := by
  obtain ⟨o, e, e2, n, z⟩ := ho
  exact ⟨⟨o, c.keep _ _ e (fun vs q => by rw [z] at q; cases q) ha hf, e2, n, z⟩, c.kAd _ _ e ha, c.kFs _ _ e hf⟩
theorem Carry.map {h h' : Heap} {ad ad' fs fs' : List Addr} (c : Carry h h' ad ad' fs fs') {a : Addr} {f : Str → Option Value} (ho : h.MapOf (strKind P.prog P.w) a f) (ha : a ∉ ad) (hf : a ∉ fs) : h'.MapOf (strKind P.prog P.w) a f ∧ a ∉ ad' ∧ a ∉ fs' := by
  obtain ⟨o, es, ep, e, e2, z, y⟩ := ho
  exact ⟨⟨o, es, ep, c.keep _ _ e (fun vs q => by rw [z] at q; cases q) ha hf, e2, z, y⟩, c.kAd _ _ e ha, c.kFs _ _ e hf⟩
theorem Carry.ns {h h' : Heap} {ad ad' fs fs' : List Addr} (c : Carry h h' ad ad' fs fs') {a : Addr} {f : Str → Option Value} (ho : h.Ns a f) (ha : a ∉ ad) (hf : a ∉ fs) : h'.Ns a f ∧ a ∉ ad' ∧ a ∉ fs' := by
  obtain ⟨o, es, ep, e, z, y⟩ := ho
  exact ⟨⟨o, es, ep, c.keep _ _ e (fun vs q => by rw [z] at q; cases q) ha hf, z, y⟩, c.kAd _ _ e ha, c.kFs _ _ e hf⟩
theorem Carry.level {h h' : Heap} {ad ad' fs fs' : List Addr} (c : Carry h h' ad ad' fs fs') {k w : Str} {n : Nat} {x : Addr} (ho : LevelAt P h ad k w n x) (ha : x ∉ ad) (hf : x ∉ fs) (hd : ∀ dx, h.get? x = some (instObj P.C dx) → dx ∉ ad ∧ dx ∉ fs) : Rel P h' ad' fs' (.level (.str k) (.str w) n) (.ref x) := by
  obtain ⟨dx, od, m, a0, a1, a2, t1, t2, e1, e2, e3, e4, e5, e6, e7, e8, e9, e10, e11⟩ := ho
  have d := hd dx e1
  have k1 := c.keep _ _ e1 (fun vs q => by cases q) ha hf
  have n3 := c.ns e3 d.1 d.2
  have nf2 : ∀ vs, od.data ≠ .fields vs := fun vs q => by
    obtain ⟨o, es, ep, q1, q2, _⟩ := e3
    rw [e2] at q1; cases q1
    rw [q2] at q; cases q
  refine .level ⟨dx, od, m, a0, a1, a2, t1, t2, k1, c.keep _ _ e2 nf2 d.1 d.2, n3.1, e4, e5, e6, e7, e8, c.at_ _ _ e9, c.at_ _ _ e10, c.at_ _ _ e11⟩ (c.kAd _ _ e1 ha) (c.kFs _ _ e1 hf) fun dx' q => ?_
  rw [k1] at q
  cases q
  exact n3.2
theorem Rel.carry {h h' : Heap} {ad ad' fs fs' : List Addr} (c : Carry h h' ad ad' fs fs') {v : V} {x : Value} (r : Rel P h ad fs v x) : Rel P h' ad' fs' v x :=
  Rel.rec (motive_1 := fun v x _ => Rel P h' ad' fs' v x) (motive_2 := fun l xs _ => RelL P h' ad' fs' l xs) .none (fun b => .bool b) (fun i t => .int i t) (fun s t => .str s t)
    (fun ho ha hf _ ih => let ⟨a, b, d⟩ := c.tup ho ha hf; .tup a b d ih) (fun ho ha hf _ ih => let ⟨a, b, d⟩ := c.lst ho ha hf; .lst a b d ih) (fun hn => .ref (c.at_ _ _ hn))
    (fun g ho hs ha hf hy _ hn ih => let ⟨a, b, d⟩ := c.map ho ha hf; .dict g a hs b d hy ih hn) (fun ho ha hf hd => c.level ho ha hf hd) .nil (fun _ _ i1 i2 => .cons i1 i2) r
theorem RelL.carry {h h' : Heap} {ad ad' fs fs' : List Addr} (c : Carry h h' ad ad' fs fs') {l : List V} {xs : List Value} (r : RelL P h ad fs l xs) : RelL P h' ad' fs' l xs := by
  induction l generalizing xs with
  | nil => cases r.inv; exact .nil
  | cons v l ih => cases r.inv with | mk r1 rs => exact .cons (r1.carry c) (ih rs)
theorem RelL.length {h : Heap} {ad fs : List Addr} {l : List V} {xs : List Value} (r : RelL P h ad fs l xs) : xs.length = l.length := by
  induction l generalizing xs with
  | nil => cases r.inv; exact rfl
  | cons v l ih => cases r.inv with | mk r1 rs => exact congrArg (· + 1) (ih rs)
theorem RelL.get {h : Heap} {ad fs : List Addr} {l : List V} {xs : List Value} (r : RelL P h ad fs l xs) {i : Nat} {v : V} (q : l[i]? = some v) : ∃ x, xs[i]? = some x ∧ Rel P h ad fs v x := by
  induction l generalizing xs i with
  | nil => exact nn q
  | cons w l ih => cases r.inv with
    | mk r1 rs => cases i with
      | zero => exact ⟨_, rfl, Option.some.inj q ▸ r1⟩
      | succ i => exact ih rs q
theorem RelL.append {h : Heap} {ad fs : List Addr} {l m : List V} {xs ys : List Value} (r : RelL P h ad fs l xs) (q : RelL P h ad fs m ys) : RelL P h ad fs (l ++ m) (xs ++ ys) := by
  induction l generalizing xs with
  | nil => cases r.inv; exact q
  | cons w l ih => cases r.inv with | mk r1 rs => exact .cons r1 (ih rs)
theorem RelL.take {h : Heap} {ad fs : List Addr} {l : List V} {xs : List Value} (r : RelL P h ad fs l xs) (n : Nat) : RelL P h ad fs (l.take n) (xs.take n) := by
  induction l generalizing xs n with
  | nil => cases r.inv; rw [List.take_nil, List.take_nil]; exact .nil
  | cons w l ih => cases r.inv with
    | mk r1 rs => cases n with
      | zero => exact .nil
      | succ n => exact .cons r1 (ih rs n)
theorem RelL.drop {h : Heap} {ad fs : List Addr} {l : List V} {xs : List Value} (r : RelL P h ad fs l xs) (n : Nat) : RelL P h ad fs (l.drop n) (xs.drop n) := by
  induction l generalizing xs n with
  | nil => cases r.inv; rw [List.drop_nil, List.drop_nil]; exact .nil
  | cons w l ih => cases r.inv with
    | mk r1 rs => cases n with
      | zero => exact .cons r1 rs
      | succ n => exact ih rs n
theorem RelL.set {h : Heap} {ad fs : List Addr} {v : V} {x : Value} (r : Rel P h ad fs v x) {l : List V} {xs : List Value} (q : RelL P h ad fs l xs) (n : Nat) : RelL P h ad fs (l.set n v) (xs.set n x) := by
  induction l generalizing xs n with
  | nil => cases q.inv; exact .nil
  | cons w l ih => cases q.inv with
    | mk r0 rs => cases n with
      | zero => exact .cons r rs
      | succ n => exact .cons r0 (ih rs n)
theorem RelL.flatten {h : Heap} {ad fs : List Addr} {l : List V} {xs : List Value} (r : RelL P h ad fs l xs) : ∀ n : Nat, RelL P h ad fs (List.replicate n l).flatten (List.replicate n xs).flatten
  | 0 => .nil
  | n + 1 => by rw [List.replicate_succ, List.replicate_succ, List.flatten_cons, List.flatten_cons]; exact r.append (r.flatten n)
def Like (h h' : Heap) (b : Addr) : Prop := ∀ o, h.get? b = some o → ∃ sl, h'.get? b = some { o with slots := sl }
theorem Like.of_keep {h h' : Heap} {b : Addr} (k : ∀ o, h.get? b = some o → h'.get? b = some o) : Like h h' b := fun o e => ⟨o.slots, k o e⟩
theorem Like.trans {h h' h'' : Heap} {b : Addr} (x : Like h h' b) (y : Like h' h'' b) : Like h h'' b := fun o e => let ⟨_, q⟩ := x o e; let ⟨sl, q'⟩ := y _ q; ⟨sl, q'⟩
theorem Like.ns {h h' : Heap} {b : Addr} {m : Str → Option Value} (x : Like h h' b) (n : h.Ns b m) : h'.Ns b m := let ⟨o, es, ep, e, z⟩ := n; let ⟨_, q⟩ := x o e; ⟨_, es, ep, q, z⟩
theorem Like.isList {h h' : Heap} {b : Addr} {items : Array Value} (x : Like h h' b) (n : h.IsList b items) : h'.IsList b items := let ⟨o, e, z⟩ := n; let ⟨_, q⟩ := x o e; ⟨_, q, z⟩
theorem Like.solid {h h' : Heap} {b : Addr} (x : Like h h' b) (n : ∃ o, h.get? b = some o ∧ ∀ vs, o.data ≠ .fields vs) : ∃ o, h'.get? b = some o ∧ ∀ vs, o.data ≠ .fields vs := let ⟨o, e, z⟩ := n; let ⟨_, q⟩ := x o e; ⟨_, q, z⟩
theorem solid_ns {h : Heap} {b : Addr} {m : Str → Option Value} (n : h.Ns b m) : ∃ o, h.get? b = some o ∧ ∀ vs, o.data ≠ .fields vs := let ⟨o, _, _, e, d, _⟩ := n; ⟨o, e, fun vs q => by rw [d] at q; cases q⟩
structure Sim (P : Par) (fs ad : List Addr) (μ : M) (h : Heap) : Prop where
  base : ∀ b o, P.h₀.get? b = some o → h.get? b = some o
  len : ad.length = μ.length
  nd : ad.Nodup
  cell : ∀ (i : Nat) (a : Addr) (l : List V), ad[i]? = some a → μ[i]? = some l → ∃ items, h.PlainList a items ∧ RelL P h ad fs l items.toList
  adNew : ∀ a ∈ ad, P.h₀.get? a = none
  fsNew : ∀ a ∈ fs, P.h₀.get? a = none
  fsAt : ∀ a ∈ fs, ∃ o, h.get? a = some o ∧ ∀ vs, o.data ≠ .fields vs
  dj : ∀ a ∈ ad, a ∉ fs
theorem Sim.listAt {fs ad : List Addr} {μ : M} {h : Heap} (S : Sim P fs ad μ h) {a : Addr} (ha : a ∈ ad) : ∃ items, h.IsList a items := by
  refine el_e (List.mem_iff_getElem?.mp ha) fun i hi => ?_
  have hlt : i < μ.length := by rw [← S.len]; exact (List.getElem?_eq_some_iff.mp hi).1
  refine el_ea (S.cell i a μ[i] hi (List.getElem?_eq_getElem hlt)) fun items x _ => ?_
  exact ⟨items, x.isList⟩
theorem Sim.adFs {fs ad : List Addr} {μ : M} {h : Heap} (S : Sim P fs ad μ h) {a : Addr} (ha : a ∈ ad) : a ∉ fs := S.dj a ha
theorem Sim.fsAd {fs ad : List Addr} {μ : M} {h : Heap} (S : Sim P fs ad μ h) {a : Addr} (ha : a ∈ fs) : a ∉ ad := fun hf => S.adFs hf ha
theorem Sim.baseAd {fs ad : List Addr} {μ : M} {h : Heap} (S : Sim P fs ad μ h) {a : Addr} {o : Obj} (e : P.h₀.get? a = some o) : a ∉ ad := fun q => by rw [S.adNew a q] at e; cases e
theorem Sim.baseFs {fs ad : List Addr} {μ : M} {h : Heap} (S : Sim P fs ad μ h) {a : Addr} {o : Obj} (e : P.h₀.get? a = some o) : a ∉ fs := fun q => by rw [S.fsNew a q] at e; cases e
structure Step (U fs ad ad' : List Addr) (h h' : Heap) : Prop where
  grow : ∃ new, ad' = ad ++ new ∧ ∀ a ∈ new, h.get? a = none
  keep : ∀ b o, h.get? b = some o → b ∉ ad → b ∉ fs → h'.get? b = some o
  like : ∀ b ∈ fs, b ∉ U → Like h h' b
  kind : ∀ b ∈ fs, ∀ m, h.Ns b m → ∃ m', h'.Ns b m'
  dom : ∀ b o, h.get? b = some o → ∃ o', h'.get? b = some o'
theorem Step.of_keeps {U fs ad : List Addr} {h h' : Heap} (k : ∀ b o, h.get? b = some o → h'.get? b = some o) : Step U fs ad ad h h' :=
  ⟨⟨[], by simp, fun _ q => nomatch q⟩, fun b o e _ _ => k b o e, fun b _ _ => .of_keep (k b), fun b _ m n => ⟨m, n.keeps k⟩, fun b o e => ⟨o, k b o e⟩⟩
theorem Step.refl {U fs ad : List Addr} {h : Heap} : Step U fs ad ad h h := .of_keeps fun _ _ e => e
theorem Step.fresh {U fs ad ad' : List Addr} {h h' : Heap} (s : Step U fs ad ad' h h') {a : Addr} (e : h'.get? a = none) : h.get? a = none := by
  cases q : h.get? a with
  | none => rfl
  | some o => obtain ⟨o', q'⟩ := s.dom a o q; rw [e] at q'; cases q'
theorem Step.nAd {U fs ad ad' : List Addr} {h h' : Heap} (s : Step U fs ad ad' h h') {b : Addr} {o : Obj} (e : h.get? b = some o) (hb : b ∉ ad) : b ∉ ad' := by
  refine el_ea (s.grow) fun new hq1n151 hn => ?_; subst hq1n151
  intro q
  rcases List.mem_append.mp q with q | q
  · exact hb q
  · rw [hn b q] at e; cases e
theorem Step.trans {U fs ad ad' ad'' : List Addr} {h h' h'' : Heap} (s : Step U fs ad ad' h h') (t : Step U fs ad' ad'' h' h'') : Step U fs ad ad'' h h'' := by
  refine ⟨?_, fun b o e ha hf => t.keep b o (s.keep b o e ha hf) (s.nAd e ha) hf, fun b hb hu => (s.like b hb hu).trans (t.like b hb hu), fun b hb m n => let ⟨m', n'⟩ := s.kind b hb m n; t.kind b hb m' n', fun b o e => let ⟨o', e'⟩ := s.dom b o e; t.dom b o' e'⟩
  refine el_ea (s.grow) fun n1 hq1n158 f1 => ?_; subst hq1n158
  refine el_ea (t.grow) fun n2 hq1n159 f2 => ?_; subst hq1n159
  refine ⟨n1 ++ n2, by rw [List.append_assoc], fun a q => ?_⟩
  rcases List.mem_append.mp q with q | q
  · exact f1 a q
  · exact s.fresh (f2 a q)
theorem Step.weaken {U U' fs ad ad' : List Addr} {h h' : Heap} (s : Step U fs ad ad' h h') (hu : ∀ b ∈ U, b ∈ U') : Step U' fs ad ad' h h' :=
  ⟨s.grow, s.keep, fun b hb hn => s.like b hb (fun q => hn (hu b q)), s.kind, s.dom⟩
theorem Step.ns {U fs ad ad' : List Addr} {h h' : Heap} (s : Step U fs ad ad' h h') : ∀ b ∈ fs, b ∉ U → ∀ m, h.Ns b m → h'.Ns b m := fun b hb hu _ n => (s.like b hb hu).ns n
theorem Step.at_ {U fs ad ad' : List Addr} {h h' : Heap} (s : Step U fs ad ad' h h') {n : Nat} {a : Addr} (e : ad[n]? = some a) : ad'[n]? = some a := by
  refine el_ea (s.grow) fun new hq1n168 _ => ?_; subst hq1n168
  rw [List.getElem?_append_left (List.getElem?_eq_some_iff.mp e).1]; exact e
theorem Step.carry {U fs ad ad' : List Addr} {h h' : Heap} (s : Step U fs ad ad' h h') : Carry h h' ad ad' fs fs := ⟨fun b o e _ => s.keep b o e, fun _ _ e q => s.nAd e q, fun _ _ _ q => q, fun _ _ e => s.at_ e⟩
theorem Sim.keeps {fs ad : List Addr} {μ : M} {h h' : Heap} (S : Sim P fs ad μ h) (k : ∀ b o, h.get? b = some o → h'.get? b = some o) : Sim P fs ad μ h' := by
  have c : Carry h h' ad ad fs fs := (Step.of_keeps (U := []) k).carry
  refine ⟨fun b o e => k b o (S.base b o e), S.len, S.nd, fun i a l e1 e2 => ?_, S.adNew, S.fsNew, fun a ha => let ⟨o, e, n⟩ := S.fsAt a ha; ⟨o, k _ _ e, n⟩, S.dj⟩
  refine el_ea (S.cell i a l e1 e2) fun items hn1n176 r => ?_; obtain ⟨o, e⟩ := hn1n176
  exact ⟨items, ⟨o, k _ _ e⟩, r.carry c⟩
inductive TrAt (P : Par) (h h' : Heap) (ad fs : List Addr) (e : Addr) (vs : Array Value) (f : Value) : Prop
  | mk : ∀ T oT ts, vs[1]? = some (.ref T) → T ≠ e → h.get? T = none → P.h₀.get? T = none → T ∉ ad → T ∉ fs → h'.get? T = some oT → oT.data = .fields ts → ts[3]? = some f → TrAt P h h' ad fs e vs f
def Traced (P : Par) (h h' : Heap) (ad fs : List Addr) (e : Addr) (vs : Array Value) : Option Value → Prop
  | none => vs[1]? = some .none
  | some f => TrAt P h h' ad fs e vs f
def FlOk (L : Addr) : Option Value → Prop
  | none => True
  | some f => f = .none ∨ f = rawInt L
inductive ExcObj (P : Par) (fs ad : List Addr) (h h' : Heap) (e : Addr) (c : Str) (fl : Option Value) : Prop
  | mk : ∀ oe vs dx od m t a0, h'.get? e = some oe → oe.cls = .ref P.B → oe.dict = some dx → oe.data = .fields vs → vs[0]? = some a0 → h.get? dx = none → dx ∉ ad → dx ∉ fs → h'.get? dx = some od → h'.Ns dx m → m "code" = some (.str c t) → Traced P h h' ad fs e vs fl → ExcObj P fs ad h h' e c fl
structure ExcAt (P : Par) (fs ad : List Addr) (h h' : Heap) (e : Addr) (c : Str) (fl : Option Value) : Prop where
  new : h.get? e = none
  newB : P.h₀.get? e = none
  nAd : e ∉ ad
  nFs : e ∉ fs
  obj : ExcObj P fs ad h h' e c fl
theorem ExcAt.before {fs ad ad0 ad1 U : List Addr} {h h1 h' : Heap} {e : Addr} {c : Str} {fl : Option Value} (x : ExcAt P fs ad h1 h' e c fl) (s : Step U fs ad0 ad1 h h1) : ExcAt P fs ad h h' e c fl := by
  obtain ⟨a, a', b, d, oe, vs, dx, od, m, t, a0, e1, e2, e3, e4, e5, e6, e7, e8, e9, e10, e11, e12⟩ := x
  refine ⟨s.fresh a, a', b, d, oe, vs, dx, od, m, t, a0, e1, e2, e3, e4, e5, s.fresh e6, e7, e8, e9, e10, e11, ?_⟩
  cases fl with
  | none => exact e12
  | some f =>
    obtain ⟨T, oT, ts, q1, q2, q3, q4, q5, q6, q7, q8, q9⟩ := e12
    exact ⟨T, oT, ts, q1, q2, s.fresh q3, q4, q5, q6, q7, q8, q9⟩
def PostG (P : Par) (U fs : List Addr) (L : Addr) {α β : Type} (R : Heap → List Addr → α → β → Prop) (o : Out α) (ad : List Addr) (s : Shared) (Q : β → Shared → Prop) (E : Value → Shared → Prop) : Prop := match o with
  | .ok a μ' => ∀ b ad' h' tk, Step U fs ad ad' s.heap h' → Sim P fs ad' μ' h' → R h' ad' a b → Q b { s with heap := h', toks := tk }
  | .exc c μ' => ∀ e fl ad' h' tk, Step U fs ad ad' s.heap h' → Sim P fs ad' μ' h' → ExcAt P fs ad' s.heap h' e c fl → FlOk L fl → E (.ref e) { s with heap := h', toks := tk }
  | .no => False
section
variable {U fs : List Addr} {L : Addr} {α β γ δ : Type} {R : Heap → List Addr → α → β → Prop} {R₂ : Heap → List Addr → γ → δ → Prop} {o : Out α} {ad ad1 : List Addr} {s : Shared} {Q : β → Shared → Prop} {Q₂ : δ → Shared → Prop} {E : Value → Shared → Prop} {h1 : Heap} {tk1 : Nat}
theorem PostG.after (p : PostG P U fs L R o ad s Q E) (st : Step U fs ad ad1 s.heap h1) : PostG P U fs L R o ad1 { s with heap := h1, toks := tk1 } Q E := by
  cases o with
  | ok a μ => exact fun b ad' h' tk s2 sm r => p b ad' h' tk (st.trans s2) sm r
  | exc c μ => exact fun e fl ad' h' tk s2 sm x f => p e fl ad' h' tk (st.trans s2) sm (x.before st) f
  | no => exact p
theorem next {f : α → M → Out γ} (hp : PostG P U fs L R₂ (o.bind f) ad s Q₂ E)
    (hk : ∀ a μ1 b ad1 h1 tk1, Step U fs ad ad1 s.heap h1 → Sim P fs ad1 μ1 h1 → R h1 ad1 a b → PostG P U fs L R₂ (f a μ1) ad1 { s with heap := h1, toks := tk1 } Q₂ E → Q b { s with heap := h1, toks := tk1 }) : PostG P U fs L R o ad s Q E := by
  cases o with
  | ok a μ => exact fun b ad' h' tk s2 sm r => hk a μ b ad' h' tk s2 sm r (PostG.after (show PostG P U fs L R₂ (f a μ) ad s Q₂ E from hp) s2)
  | exc c μ => exact hp
  | no => exact hp
theorem nextE {f : α → M → Out γ} (hp : PostG P U fs L R₂ (o.bind f) ad s Q₂ E)
    (hk : ∀ a μ1 b ad1 h1 tk1, o = .ok a μ1 → Step U fs ad ad1 s.heap h1 → Sim P fs ad1 μ1 h1 → R h1 ad1 a b → PostG P U fs L R₂ (f a μ1) ad1 { s with heap := h1, toks := tk1 } Q₂ E → Q b { s with heap := h1, toks := tk1 }) : PostG P U fs L R o ad s Q E := by
  cases o with
  | ok a μ => exact fun b ad' h' tk s2 sm r => hk a μ b ad' h' tk rfl s2 sm r (PostG.after (show PostG P U fs L R₂ (f a μ) ad s Q₂ E from hp) s2)
  | exc c μ => exact hp
  | no => exact hp
theorem PostG.mono {Q' : β → Shared → Prop} {R' : Heap → List Addr → α → β → Prop} (p : PostG P U fs L R o ad s Q E) (hR : ∀ h ad a b, R' h ad a b → R h ad a b) (hQ : ∀ b s, Q b s → Q' b s) : PostG P U fs L R' o ad s Q' E := by
  cases o with
  | ok a μ => exact fun b ad' h' tk s2 sm r => hQ _ _ (p b ad' h' tk s2 sm (hR _ _ _ _ r))
  | exc c μ => exact p
  | no => exact p
theorem PostG.iteT {c : Prop} [Decidable c] (p : PostG P U fs L R (if c then o else .no) ad s Q E) : c ∧ PostG P U fs L R o ad s Q E := by
  by_cases q : c
  · rw [if_pos q] at p; exact ⟨q, p⟩
  · rw [if_neg q] at p; exact p.elim
theorem PostG.iteF {c : Prop} [Decidable c] (p : PostG P U fs L R (if c then .no else o) ad s Q E) : ¬ c ∧ PostG P U fs L R o ad s Q E := by
  by_cases q : c
  · rw [if_pos q] at p; exact p.elim
  · rw [if_neg q] at p; exact ⟨q, p⟩
theorem PostG.bifF {c : Bool} (p : PostG P U fs L R (bif c then .no else o) ad s Q E) : c = false ∧ PostG P U fs L R o ad s Q E := by
  cases c with
  | true => exact p.elim
  | false => exact ⟨rfl, p⟩
theorem PostG.bifT {c : Bool} (p : PostG P U fs L R (bif c then o else .no) ad s Q E) : c = true ∧ PostG P U fs L R o ad s Q E := by
  cases c with
  | true => exact ⟨rfl, p⟩
  | false => exact p.elim
inductive POf (P : Par) (U fs : List Addr) (L : Addr) {α β : Type} (R : Heap → List Addr → α → β → Prop) (ad : List Addr) (s : Shared) (Q : β → Shared → Prop) (E : Value → Shared → Prop) (μ : M) (o : Option α) : Prop
  | mk (v : α) (h : o = some v) (p : PostG P U fs L R (.ok v μ) ad s Q E) : POf P U fs L R ad s Q E μ o
theorem PostG.ofO {μ : M} {o : Option α} (p : PostG P U fs L R (.of μ o) ad s Q E) : POf P U fs L R ad s Q E μ o := by
  cases o with
  | none => exact p.elim
  | some v => exact ⟨v, rfl, p⟩
inductive POpt (P : Par) (U fs : List Addr) (L : Addr) {α β γ : Type} (R : Heap → List Addr → α → β → Prop) (ad : List Addr) (s : Shared) (Q : β → Shared → Prop) (E : Value → Shared → Prop) (k : γ → Out α) (o : Option γ) : Prop
  | mk (v : γ) (h : o = some v) (p : PostG P U fs L R (k v) ad s Q E) : POpt P U fs L R ad s Q E k o
theorem PostG.optR {k : Rho → Out α} {o : Option Rho} (p : PostG P U fs L R (match (generalizing := false) o with | some v => k v | none => .no) ad s Q E) : POpt P U fs L R ad s Q E k o := by
  cases o with
  | none => exact p.elim
  | some v => exact ⟨v, rfl, p⟩
theorem PostG.optV {k : V → Out α} {o : Option V} (p : PostG P U fs L R (match (generalizing := false) o with | some v => k v | none => .no) ad s Q E) : POpt P U fs L R ad s Q E k o := by
  cases o with
  | none => exact p.elim
  | some v => exact ⟨v, rfl, p⟩
theorem PostG.optI {k : Int → Out α} {o : Option Int} (p : PostG P U fs L R (match (generalizing := false) o with | some v => k v | none => .no) ad s Q E) : POpt P U fs L R ad s Q E k o := by
  cases o with
  | none => exact p.elim
  | some v => exact ⟨v, rfl, p⟩
theorem PostG.optL {k : List V → Out α} {o : Option (List V)} (p : PostG P U fs L R (match (generalizing := false) o with | some v => k v | none => .no) ad s Q E) : POpt P U fs L R ad s Q E k o := by
  cases o with
  | none => exact p.elim
  | some v => exact ⟨v, rfl, p⟩
inductive PInt (Φ : Out α → Prop) (k : Int → Out α) : V → Prop
  | mk (i : Int) (p : Φ (k i)) : PInt Φ k (.int i)
theorem PostG.intK {k : Int → Out α} {v : V} (p : PostG P U fs L R (match (generalizing := false) v with | .int i => k i | _ => .no) ad s Q E) : PInt (fun o => PostG P U fs L R o ad s Q E) k v := by
  cases v with
  | int i => exact ⟨i, p⟩
  | _ => exact p.elim
inductive PLst (Φ : Out α → Prop) (k : List V → Out α) : V → Prop
  | mk (l : List V) (p : Φ (k l)) : PLst Φ k (.lst l)
theorem PostG.lstK {k : List V → Out α} {v : V} (p : PostG P U fs L R (match (generalizing := false) v with | .lst i => k i | _ => .no) ad s Q E) : PLst (fun o => PostG P U fs L R o ad s Q E) k v := by
  cases v with
  | lst i => exact ⟨i, p⟩
  | _ => exact p.elim
theorem PostG.done {a : α} {μ : M} {b : β} {h' : Heap} {tk : Nat} (p : PostG P U fs L R (.ok a μ) ad s Q E) (S : Sim P fs ad μ s.heap) (k : ∀ b o, s.heap.get? b = some o → h'.get? b = some o) (r : R h' ad a b) : Q b { s with heap := h', toks := tk } :=
  p b ad h' tk (.of_keeps k) (S.keeps k) r
theorem PostG.same {a : α} {μ : M} {b : β} {tk : Nat} (p : PostG P U fs L R (.ok a μ) ad s Q E) (S : Sim P fs ad μ s.heap) (r : R s.heap ad a b) : Q b { s with toks := tk } :=
  p b ad s.heap tk .refl S r
end
abbrev RV (P : Par) (fs : List Addr) : Heap → List Addr → V → Value → Prop := fun h ad v x => Rel P h ad fs v x
abbrev RVs (P : Par) (fs : List Addr) : Heap → List Addr → List V → List Value → Prop := fun h ad v x => RelL P h ad fs v x
abbrev RB : Heap → List Addr → Bool → Bool → Prop := fun _ _ a b => a = b
structure Cx (A : Around) (d : Nat) (fenv : Env) (outer : List Env) (L : Addr) (fs : List Addr) : Prop where
  frames : A.frames = some (fenv :: outer)
  frame : fenv.frame = some L
  all : ∀ env ∈ fenv :: outer, env.scope.kind ≠ .module ∧ ∃ b, env.frame = some b ∧ b ∈ fs
  handled : A.handled = none
  depth : A.depth + d ≤ 900
  units : A.units + 10 * d ≤ 9000
theorem Cx.in1 {A : Around} {d : Nat} {fenv : Env} {outer : List Env} {L : Addr} {fs : List Addr} (c : Cx A (d + 1) fenv outer L fs) : Cx A.in1 d fenv outer L fs :=
  ⟨c.frames, c.frame, c.all, c.handled, by have := c.depth; show A.depth + d ≤ 900; omega, by have := c.units; show A.units + 1 + 10 * d ≤ 9000; omega⟩
theorem Cx.room {A : Around} {d : Nat} {fenv : Env} {outer : List Env} {L : Addr} {fs : List Addr} (c : Cx A d fenv outer L fs) : A.depth < recursionLimit := by have := c.depth; show A.depth < 1000; omega
theorem Cx.cunits {A : Around} {d : Nat} {fenv : Env} {outer : List Env} {L : Addr} {fs : List Addr} (c : Cx A d fenv outer L fs) : A.units + 500 < cLine := by have := c.units; show A.units + 500 < 9900; omega
structure EnvOk (env : Env) (sc : Scope) (L : Addr) (fs : List Addr) : Prop where
  kind : env.scope.kind = .function
  frame : env.frame = some L
  globals : env.globals = mainGlobals
  builtins : env.builtins = builtinsNs
  loc : env.locals ∈ fs
  glob : ∀ x, sc.names.lookup x = some .globalImplicit → env.kindOf x = some .globalImplicit
  loc_ : ∀ x, sc.names.lookup x = some .local → env.kindOf x = some .local
  cell_ : ∀ x, sc.names.lookup x = some .cell → env.kindOf x = some .cell ∧ ∃ c, env.cells.lookup x = some c
def Loc (P : Par) (env : Env) (fs ad : List Addr) (ρ : Rho) (h : Heap) : Prop :=
  ∃ m, h.Ns env.locals m ∧ ∀ x v, ρ.lookup x = some v → ∃ v', Rel P h ad fs v v' ∧
    ((env.kindOf x = some .local ∧ m x = some v') ∨ (env.kindOf x = some .cell ∧ ∃ c o, env.cells.lookup x = some c ∧ c ∉ ad ∧ c ∉ fs ∧ h.get? c = some o ∧ o.data = .cell (some v')))
theorem Loc.step {env : Env} {U fs ad ad' : List Addr} {ρ : Rho} {h h' : Heap} (l : Loc P env fs ad ρ h) (s : Step U fs ad ad' h h') (hl : env.locals ∈ fs) (hu : env.locals ∉ U) : Loc P env fs ad' ρ h' := by
  refine el_ea (l) fun m n z => ?_; try clear l
  refine ⟨m, s.ns _ hl hu m n, fun x v q => ?_⟩
  refine el_ea (z x v q) fun v' r y => ?_
  refine ⟨v', r.carry s.carry, y.imp id fun ⟨k, c, o, e1, e2, e3, e4, e5⟩ => ⟨k, c, o, e1, s.nAd e4 e2, e3, s.keep _ _ e4 e2 e3, e5⟩⟩
structure GF (P : Par) (tab : Str → Option DefRec) (cst : Str → Option V) : Prop where
  K : P.K.In P.h₀
  g : P.h₀.Ns mainGlobals P.mg
  b : P.h₀.Ns builtinsNs P.mb
  nolimit : P.h₀.NoLimit
  fn : ∀ x fd, tab x = some fd → ∃ a o pm code doc, P.mg x = some (.ref a) ∧ P.h₀.get? a = some o ∧ o.data = .func (Calls.docDef fd.name fd.params fd.body fd.scope pm code doc) ∧ P.h₀.CodeRec code fd.name
  cst : ∀ x v, cst x = some v → ∃ v', P.mg x = some v' ∧ Rel P P.h₀ [] [] v v'
end Mine
namespace Mine
section leaf
variable {P : Par} {U fs ad : List Addr} {L : Addr} {μ : M} {A : Around} {s : Shared} {Q : Value → Shared → Prop} {E : Value → Shared → Prop}
theorem Sim.newAd {fs ad : List Addr} {μ : M} {h : Heap} (S : Sim P fs ad μ h) : h.objs.size ∉ ad := fun q => by
  refine el_eea (S.listAt q) fun items o e _ => ?_
  exact absurd (Heap.lt_size e) (Nat.lt_irrefl _)
theorem Sim.newFs {fs ad : List Addr} {μ : M} {h : Heap} (S : Sim P fs ad μ h) : h.objs.size ∉ fs := fun q => by
  refine el_ea (S.fsAt _ q) fun o e _ => ?_
  exact absurd (Heap.lt_size e) (Nat.lt_irrefl _)
theorem Carry.of_keeps {fs ad : List Addr} {h h' : Heap} (k : ∀ b o, h.get? b = some o → h'.get? b = some o) : Carry h h' ad ad fs fs := (Step.of_keeps (U := []) k).carry
theorem push_keeps {h : Heap} (o : Obj) : ∀ b o', h.get? b = some o' → (h.push o).get? b = some o' := fun _ _ e => Heap.get?_push_of_some o e
theorem PostG.newTup {l : List V} {xs : List Value} {tk : Nat} (p : PostG P U fs L (RV P fs) (.ok (.tup l) μ) ad s Q E) (S : Sim P fs ad μ s.heap) (r : RelL P s.heap ad fs l xs) :
    Q (.ref s.heap.objs.size) { s with heap := s.heap.push { cls := .type "tuple", data := .seq xs.toArray }, toks := tk } :=
  p.done S (push_keeps _) (.tup ⟨_, Heap.get?_push_size _ rfl, rfl, _, rfl⟩ S.newAd S.newFs (by simpa using r.carry (Carry.of_keeps (push_keeps _))))
theorem PostG.newLst {l : List V} {xs : List Value} {tk : Nat} (p : PostG P U fs L (RV P fs) (.ok (.lst l) μ) ad s Q E) (S : Sim P fs ad μ s.heap) (r : RelL P s.heap ad fs l xs) :
    Q (.ref s.heap.objs.size) { s with heap := s.heap.push { cls := .type "list", data := .seq xs.toArray }, toks := tk } :=
  p.done S (push_keeps _) (.lst ⟨_, Heap.get?_push_size _ rfl, rfl, _, rfl⟩ S.newAd S.newFs (by simpa using r.carry (Carry.of_keeps (push_keeps _))))
theorem PostG.int {i : Int} {t tk : Nat} (p : PostG P U fs L (RV P fs) (.ok (.int i) μ) ad s Q E) (S : Sim P fs ad μ s.heap) : Q (.int i t) { s with toks := tk } := p.same S (.int i t)
theorem PostG.str {i : Str} {t tk : Nat} (p : PostG P U fs L (RV P fs) (.ok (.str i) μ) ad s Q E) (S : Sim P fs ad μ s.heap) : Q (.str i t) { s with toks := tk } := p.same S (.str i t)
theorem PostG.bool {b : Bool} {tk : Nat} (p : PostG P U fs L (RV P fs) (.ok (.bool b) μ) ad s Q E) (S : Sim P fs ad μ s.heap) : Q (.bool b) { s with toks := tk } := p.same S (.bool b)
theorem small_bits {i : Int} (h : small i = true) : Builtin.Int.intBits i ≤ 64 := by
  have := of_decide_eq_true h
  exact intBits_le_64 (by omega) (by omega)
theorem maxLen_le {n : Nat} (h : n ≤ maxLen) : n ≤ sizeLine := by rw [sizeLine_eq]; unfold maxLen at h; omega
theorem add_lsts {a b : Addr} {xs ys : Array Value} {l m : List V} (S : Sim P fs ad μ s.heap) (ha : s.heap.IsList a xs) (hb : s.heap.IsList b ys) (ra : RelL P s.heap ad fs l xs.toList) (rb : RelL P s.heap ad fs m ys.toList)
    (hl : l.length + m.length ≤ maxLen) (p : PostG P U fs L (RV P fs) (.ok (.lst (l ++ m)) μ) ad s Q E) : wpAny (model P.prog P.w) A (binaryOp .Add (.ref a) (.ref b)) Q E s := by
  refine el_eaae (ha) fun hn0n33 ho hc n hd => ?_; try clear ha; obtain ⟨cls, dd, data, sl⟩ := hn0n33
  refine el_eaae (hb) fun hn0n34 ho2 hc2 n2 hd2 => ?_; try clear hb; obtain ⟨cls2, dd2, data2, sl2⟩ := hn0n34
  simp only at hc hd hc2 hd2
  subst hc hd hc2 hd2
  have e1 := ra.length
  have e2 := rb.length
  simp only [Array.length_toList] at e1 e2
  refine concat_meets ⟨_, ho, rfl⟩ ⟨_, ho2, rfl⟩ noFill_list_add seq_list_add PySem.F.slot_list_add PySem.F.entry_list_add (PySem.F.args_list_add_2 _ _) (list_addW a b xs ys n n2 dd dd2 sl sl2 (maxLen_le (by omega))) ⟨ho, ho2, ?_⟩
  have := p.newLst (tk := s.toks) S (ra.append rb)
  rwa [show (xs.toList ++ ys.toList).toArray = xs ++ ys from by simp] at this
theorem add_tups {a b : Addr} {xs ys : Array Value} {l m : List V} (S : Sim P fs ad μ s.heap) (ha : IsTup s.heap a xs) (hb : IsTup s.heap b ys) (na : a ∉ ad) (na' : a ∉ fs) (nb : b ∉ ad) (nb' : b ∉ fs) (ra : RelL P s.heap ad fs l xs.toList) (rb : RelL P s.heap ad fs m ys.toList)
    (hl : l.length + m.length ≤ maxLen) (p : PostG P U fs L (RV P fs) (.ok (.tup (l ++ m)) μ) ad s Q E) : wpAny (model P.prog P.w) A (binaryOp .Add (.ref a) (.ref b)) Q E s := by
  have ha' := ha
  have hb' := hb
  refine el_eaae (ha) fun hn0n48 ho hc n hd => ?_; try clear ha; obtain ⟨cls, dd, data, sl⟩ := hn0n48
  refine el_eaae (hb) fun hn0n49 ho2 hc2 n2 hd2 => ?_; try clear hb; obtain ⟨cls2, dd2, data2, sl2⟩ := hn0n49
  simp only at hc hd hc2 hd2
  subst hc hd hc2 hd2
  have e1 := ra.length
  have e2 := rb.length
  simp only [Array.length_toList] at e1 e2
  by_cases hv : xs.isEmpty = true
  · refine concat_meets ⟨_, ho, rfl⟩ ⟨_, ho2, rfl⟩ noFill_tuple_add seq_tuple_add PySem.F.slot_tuple_add PySem.F.entry_tuple_add (PySem.F.args_tuple_add_2 _ _) (tuple_addW0 a b xs ys n n2 dd dd2 sl sl2 hv) ⟨ho, ho2, ?_⟩
    have : l = [] := List.eq_nil_of_length_eq_zero (by rw [← e1]; simpa using hv)
    subst this
    exact p.same (tk := s.toks) S (.tup hb' nb nb' rb)
  · by_cases hw : ys.isEmpty = true
    · refine concat_meets ⟨_, ho, rfl⟩ ⟨_, ho2, rfl⟩ noFill_tuple_add seq_tuple_add PySem.F.slot_tuple_add PySem.F.entry_tuple_add (PySem.F.args_tuple_add_2 _ _) (tuple_addW1 a b xs ys n n2 dd dd2 sl sl2 hv hw) ⟨ho, ho2, ?_⟩
      have : m = [] := List.eq_nil_of_length_eq_zero (by rw [← e2]; simpa using hw)
      subst this
      rw [List.append_nil] at p
      exact p.same (tk := s.toks) S (.tup ha' na na' ra)
    · refine concat_meets ⟨_, ho, rfl⟩ ⟨_, ho2, rfl⟩ noFill_tuple_add seq_tuple_add PySem.F.slot_tuple_add PySem.F.entry_tuple_add (PySem.F.args_tuple_add_2 _ _) (tuple_addW2 a b xs ys n n2 dd dd2 sl sl2 hv hw (maxLen_le (by omega))) ⟨ho, ho2, ?_⟩
      have := p.newTup (tk := s.toks) S (ra.append rb)
      rwa [show (xs.toList ++ ys.toList).toArray = xs ++ ys from by simp] at this
theorem ref_isList (S : Sim P fs ad μ s.heap) {r : Nat} {a : Addr} {l : List V} (hn : ad[r]? = some a) (hl : μ[r]? = some l) {G : Prop} (k : ∀ items, s.heap.IsList a items → RelL P s.heap ad fs l items.toList → G) : G :=
  el_ea (S.cell _ _ _ hn hl) fun items x r => k items x.isList r
theorem fdiv_ok {i j : Int} (h : (small i && small j && decide (0 < j)) = true) : 0 < j ∧ i.natAbs.log2 < 60 := by
  simp only [Bool.and_eq_true, decide_eq_true_eq] at h
  refine ⟨h.2, ?_⟩
  by_cases q : i.natAbs = 0
  · rw [q]; decide
  · exact (Nat.log2_lt q).mpr (of_decide_eq_true h.1.1)
theorem binV_ok {op : Operator} {a b v : V} {x y : Value} (S : Sim P fs ad μ s.heap) (ra : Rel P s.heap ad fs a x) (rb : Rel P s.heap ad fs b y) (e : binV μ op a b = some v)
    (p : PostG P U fs L (RV P fs) (.ok v μ) ad s Q E) : wpAny (model P.prog P.w) A (binaryOp op x y) Q E s := by
  replace e := binV_inv e
  cases e with
  | add i j => replace ra := ra.inv; replace rb := rb.inv; cases ra; cases rb; exact add_int (p.int S)
  | sub i j => replace ra := ra.inv; replace rb := rb.inv; cases ra; cases rb; exact sub_int (p.int S)
  | mul i j h => replace ra := ra.inv; replace rb := rb.inv; cases ra; cases rb; exact mul_int (p.int S) (.of_left (small_bits (Bool.and_eq_true_iff.mp h).1))
  | fdiv i j h =>
    replace ra := ra.inv; replace rb := rb.inv; cases ra; cases rb
    refine floordiv_int (Int.ne_of_gt (fdiv_ok h).1) (p.int S) (.inl (PyProof.noPylong_of_log2 ?_))
    have h1 := of_decide_eq_true (Bool.and_eq_true_iff.mp (Bool.and_eq_true_iff.mp h).1).2
    have h2 := (Nat.log2_lt (n := _) (k := 60) (Nat.ne_of_gt (Int.natAbs_pos.mpr (Int.ne_of_gt (fdiv_ok h).1)))).mpr h1
    omega
  | mod i j h => replace ra := ra.inv; replace rb := rb.inv; cases ra; cases rb; exact mod_int h (p.int S)
  | pow i j h =>
    replace ra := ra.inv; replace rb := rb.inv; cases ra; cases rb
    simp only [Bool.and_eq_true, decide_eq_true_eq] at h
    have h1 := h.1.1
    subst h1
    refine pow_int h.1.2 ?_ (p.int S)
    rw [show (Builtin.Int.intBits 10 : Int) = 4 from by decide]
    have h2 := h.2
    omega
  | lst l m h => cases ra.inv with | mk ho ha hf r => cases rb.inv with | mk ho' ha' hf' r' => exact add_lsts S ho ho' r r' h p
  | ref r l m hl h => cases ra.inv with | mk hn => cases rb.inv with | mk ho' ha' hf' r' => exact ref_isList S hn hl fun items x r => add_lsts S x ho' r r' h p
  | tup l m h => cases ra.inv with | mk ho ha hf r => cases rb.inv with | mk ho' ha' hf' r' => exact add_tups S ho ho' ha hf ha' hf' r r' h p
theorem truthV_ok {v : V} {b : Bool} {x : Value} {Q : Bool → Shared → Prop} (S : Sim P fs ad μ s.heap) (r : Rel P s.heap ad fs v x) (e : truthV v = some b)
    (p : PostG P U fs L RB (.ok b μ) ad s Q E) : wpAny (model P.prog P.w) A (truthy x) Q E s := by
  replace e := truthV_inv e; cases e; replace r := r.inv; cases r; exact wpAny_truthy_bool (p.same (tk := s.toks) S rfl)
theorem unV_ok {op : UnaryOp} {a v : V} {x : Value} (S : Sim P fs ad μ s.heap) (ra : Rel P s.heap ad fs a x) (e : unV op a = some v)
    (p : PostG P U fs L (RV P fs) (.ok v μ) ad s Q E) : wpAny (model P.prog P.w) A (unaryOp op x) Q E s := by
  replace e := unV_inv e
  cases e with
  | neg i => replace ra := ra.inv; cases ra; exact neg_int (p.int S)
  | not i => replace ra := ra.inv; cases ra; exact not_of (wpAny_truthy_bool (p.bool S (tk := s.toks)))
inductive ReadsI (h : Heap) (x : Value) (d : PyData) : Prop
  | mk {as : List Addr} (r : Reads h x d as)
inductive ReadsLI (h : Heap) (x : List Value) (d : List PyData) : Prop
  | mk {as : List Addr} (r : ReadsAll h x d as)
theorem reads_of {h : Heap} {v : V} {x : Value} (r : Rel P h ad fs v x) : ∀ {d : PyData}, v.toPy = some d → ReadsI h x d :=
  Rel.rec (motive_1 := fun v x _ => ∀ {d : PyData}, v.toPy = some d → ReadsI h x d) (motive_2 := fun l xs _ => ∀ {ds : List PyData}, V.toPys l = some ds → ReadsLI h xs ds)
    (fun e => Option.some.inj e ▸ ⟨.none⟩) (fun b _ e => Option.some.inj e ▸ ⟨.bool b⟩) (fun i t _ e => Option.some.inj e ▸ ⟨.int i t⟩) (fun s t _ e => Option.some.inj e ▸ ⟨.str s t⟩)
    (fun ho _ _ _ ih _ e => map_some e fun ds q f => f ▸ let ⟨z⟩ := ih q; let ⟨_, e1, e2, _, e3⟩ := ho; ⟨.tuple e1 e2 e3 z⟩)
    (fun ho _ _ _ ih _ e => map_some e fun ds q f => f ▸ let ⟨z⟩ := ih q; let ⟨_, e1, e2, _, e3⟩ := ho; ⟨.list e1 e2 e3 z⟩)
    (fun _ _ e => nn e) (fun _ _ _ _ _ _ _ _ _ _ e => nn e) (fun _ _ _ _ _ e => nn e)
    (fun e => Option.some.inj e ▸ ⟨.nil⟩) (fun _ _ i1 i2 _ e => bind_some e fun d q1 e => map_some e fun ds q2 f => f ▸ let ⟨z1⟩ := i1 q1; let ⟨z2⟩ := i2 q2; ⟨.cons z1 z2⟩) r
theorem readsL_of {h : Heap} {l : List V} {xs : List Value} (r : RelL P h ad fs l xs) : ∀ {ds : List PyData}, V.toPys l = some ds → ReadsLI h xs ds := by
  induction l generalizing xs with
  | nil => intro ds e; cases r.inv; exact Option.some.inj e ▸ ⟨.nil⟩
  | cons v l ih => intro ds e; cases r.inv with | mk r1 rs => exact bind_some e fun d q1 e => map_some e fun ds q2 f => f ▸ let ⟨z1⟩ := reads_of r1 q1; let ⟨z2⟩ := ih rs q2; ⟨.cons z1 z2⟩
inductive EqI (a b : V) (r : Bool) : Prop
  | mk {d e : PyData} (e1 : a.toPy = some d) (e2 : b.toPy = some e) (h : (d.canLay0 && e.canLay0 && decide (min d.depth e.depth ≤ 60)) = true) (hr : PyData.eqv d e = r)
theorem eqV_inv {a b : V} {r : Bool} (h : eqV a b = some r) : EqI a b r := by
  unfold eqV at h
  cases q1 : a.toPy with
  | none => rw [q1] at h; exact nn h
  | some d =>
    rw [q1] at h
    cases q2 : b.toPy with
    | none => rw [q2] at h; exact nn h
    | some e => rw [q2] at h; exact ite_some h fun c f => ⟨q1, q2, c, f⟩
inductive InI (a : V) (l : List V) (r : Bool) : Prop
  | mk {d : PyData} {ds : List PyData} (e1 : a.toPy = some d) (e2 : V.toPys l = some ds) (h : (PyData.canLayAll0 ds && d.canLay0 && decide (min (PyData.depthAll ds) d.depth ≤ 60)) = true) (hr : (ds.any fun y => PyData.eqv y d) = r)
theorem inL_inv {a : V} {l : List V} {r : Bool} (h : inL a l = some r) : InI a l r := by
  unfold inL at h
  cases q1 : a.toPy with
  | none => rw [q1] at h; exact nn h
  | some d =>
    rw [q1] at h
    cases q2 : V.toPys l with
    | none => rw [q2] at h; exact nn h
    | some e => rw [q2] at h; exact ite_some h fun c f => ⟨q1, q2, c, f⟩
theorem lay_ok {a b : Bool} {m u : Nat} (h : (a && b && decide (m ≤ 60)) = true) (hu : u + 500 < cLine) : a = true ∧ b = true ∧ m ≤ 60 ∧ u + m < cLine := by
  simp only [Bool.and_eq_true, decide_eq_true_eq] at h
  exact ⟨h.1.1, h.1.2, h.2, by have := h.2; omega⟩
theorem eqV_ok {a b : V} {r : Bool} {x y : Value} (S : Sim P fs ad μ s.heap) (ra : Rel P s.heap ad fs a x) (rb : Rel P s.heap ad fs b y) (e : eqV a b = some r) (hu : A.units + 500 < cLine)
    (p : PostG P U fs L (RV P fs) (.ok (.bool r) μ) ad s Q E) : wpAny (model P.prog P.w) A (compareOp .Eq x y) Q E s := by
  cases eqV_inv e with | mk e1 e2 h hr =>
  subst hr
  cases reads_of ra e1 with | mk z1 => cases reads_of rb e2 with | mk z2 =>
  exact SeqAt.compareEq_reads z1 z2 (lay_ok h hu).1 (lay_ok h hu).2.1 (by have := (lay_ok h hu).2.2.1; omega) (p.bool S (tk := s.toks))
theorem neV_ok {a b : V} {r : Bool} {x y : Value} (S : Sim P fs ad μ s.heap) (ra : Rel P s.heap ad fs a x) (rb : Rel P s.heap ad fs b y) (e : eqV a b = some r) (hu : A.units + 500 < cLine)
    (p : PostG P U fs L (RV P fs) (.ok (.bool !r) μ) ad s Q E) : wpAny (model P.prog P.w) A (compareOp .NotEq x y) Q E s := by
  cases eqV_inv e with | mk e1 e2 h hr =>
  subst hr
  cases reads_of ra e1 with | mk z1 => cases reads_of rb e2 with | mk z2 =>
  exact SeqAt.compareNe_reads z1 z2 (lay_ok h hu).1 (lay_ok h hu).2.1 (by have := (lay_ok h hu).2.2.1; omega) (p.bool S (tk := s.toks))
theorem inT_ok {a : V} {l : List V} {r : Bool} {x y : Value} (S : Sim P fs ad μ s.heap) (ra : Rel P s.heap ad fs a x) (rb : Rel P s.heap ad fs (.tup l) y) (e : inL a l = some r) (hu : A.units + 500 < cLine)
    (p : PostG P U fs L (RV P fs) (.ok (.bool r) μ) ad s Q E) : wpAny (model P.prog P.w) A (compareOp .In x y) Q E s := by
  cases inL_inv e with | mk e1 e2 h hr =>
  subst hr
  cases rb.inv with | mk ho ha hf rr =>
  cases reads_of ra e1 with | mk z1 => cases readsL_of rr e2 with | mk z2 =>
  refine el_eaae (ho) fun o f1 f2 n f3 => ?_
  exact SeqAt.in_tuple_reads (.tuple f1 f2 f3 z2) z1 (lay_ok h hu).1 (lay_ok h hu).2.1 (by have := (lay_ok h hu).2.2.1; omega) (p.bool S (tk := s.toks))
theorem inL_ok {a : V} {l : List V} {r : Bool} {x y : Value} (S : Sim P fs ad μ s.heap) (ra : Rel P s.heap ad fs a x) (rb : Rel P s.heap ad fs (.lst l) y) (e : inL a l = some r) (hu : A.units + 500 < cLine)
    (p : PostG P U fs L (RV P fs) (.ok (.bool r) μ) ad s Q E) : wpAny (model P.prog P.w) A (compareOp .In x y) Q E s := by
  cases inL_inv e with | mk e1 e2 h hr =>
  subst hr
  cases rb.inv with | mk ho ha hf rr =>
  cases reads_of ra e1 with | mk z1 => cases readsL_of rr e2 with | mk z2 =>
  refine el_eaae (ho) fun o f1 f2 n f3 => ?_
  exact SeqAt.in_list_reads (.list f1 f2 f3 z2) z1 (lay_ok h hu).1 (lay_ok h hu).2.1 (by have := (lay_ok h hu).2.2.1; omega) (p.bool S (tk := s.toks))
theorem ninT_ok {a : V} {l : List V} {r : Bool} {x y : Value} (S : Sim P fs ad μ s.heap) (ra : Rel P s.heap ad fs a x) (rb : Rel P s.heap ad fs (.tup l) y) (e : inL a l = some r) (hu : A.units + 500 < cLine)
    (p : PostG P U fs L (RV P fs) (.ok (.bool !r) μ) ad s Q E) : wpAny (model P.prog P.w) A (compareOp .NotIn x y) Q E s := by
  cases inL_inv e with | mk e1 e2 h hr =>
  subst hr
  cases rb.inv with | mk ho ha hf rr =>
  cases reads_of ra e1 with | mk z1 => cases readsL_of rr e2 with | mk z2 =>
  refine el_eaae (ho) fun o f1 f2 n f3 => ?_
  exact SeqAt.notIn_tuple_reads (.tuple f1 f2 f3 z2) z1 (lay_ok h hu).1 (lay_ok h hu).2.1 (by have := (lay_ok h hu).2.2.1; omega) (p.bool S (tk := s.toks))
theorem some_eq {l : List (Str × V)} {f : Str → Option Value} {g : Str → Value} (k : Str) (hy : ∀ x v, keyIn x l = some v → f x = some (g x)) (hn : ∀ x, keyIn x l = none → f x = none) : (f k).isSome = (keyIn k l).isSome := by
  cases h : keyIn k l with
  | none => rw [hn k h]; rfl
  | some v => rw [hy k v h]; rfl
theorem inD_ok {z : Str} {l : List (Str × V)} {x y : Value} (S : Sim P fs ad μ s.heap) (ra : Rel P s.heap ad fs (.str z) x) (rb : Rel P s.heap ad fs (.dict l) y)
    (p : PostG P U fs L (RV P fs) (.ok (.bool (keyIn z l).isSome) μ) ad s Q E) : wpAny (model P.prog P.w) A (compareOp .In x y) Q E s := by
  replace ra := ra.inv; replace rb := rb.inv; cases ra; cases rb with | mk g ho hs ha hf hy hv hn =>
  refine wpAny_in_of (strKind_is _ _ _ _) hs ho ?_
  rw [some_eq z hy hn]
  exact p.bool S
theorem cmpV_ok {op : CmpOp} {a b : V} {r : Bool} {x y : Value} (S : Sim P fs ad μ s.heap) (ra : Rel P s.heap ad fs a x) (rb : Rel P s.heap ad fs b y) (e : cmpV op a b = some r) (hu : A.units + 500 < cLine)
    (p : PostG P U fs L (RV P fs) (.ok (.bool r) μ) ad s Q E) : wpAny (model P.prog P.w) A (compareOp op x y) Q E s := by
  replace e := cmpV_inv e
  cases e with
  | eq _ _ _ h => exact eqV_ok S ra rb h hu p
  | ne _ _ _ h => exact neV_ok S ra rb h hu p
  | lt => replace ra := ra.inv; replace rb := rb.inv; cases ra; cases rb; exact lt_int (p.bool S (tk := s.toks))
  | le => replace ra := ra.inv; replace rb := rb.inv; cases ra; cases rb; exact le_int (p.bool S (tk := s.toks))
  | gt => replace ra := ra.inv; replace rb := rb.inv; cases ra; cases rb; exact gt_int (p.bool S (tk := s.toks))
  | ge => replace ra := ra.inv; replace rb := rb.inv; cases ra; cases rb; exact ge_int (p.bool S (tk := s.toks))
  | les => replace ra := ra.inv; replace rb := rb.inv; cases ra; cases rb; exact PySem.P.le_str (p.bool S (tk := s.toks))
  | inT _ _ _ h => exact inT_ok S ra rb h hu p
  | inL _ _ _ h => exact inL_ok S ra rb h hu p
  | ninT _ _ _ h => exact ninT_ok S ra rb h hu p
  | inD => exact inD_ok S ra rb p
  | inS => replace ra := ra.inv; replace rb := rb.inv; cases ra; cases rb; exact SB.contains (p.bool S (tk := s.toks))
  | nn => replace ra := ra.inv; replace rb := rb.inv; cases ra; cases rb; exact wpAny_isNot_plain rfl (p.bool S (tk := s.toks))
  | tn => replace ra := ra.inv; replace rb := rb.inv; cases ra; cases rb; exact wpAny_isNot_plain rfl (p.bool S (tk := s.toks))
end leaf
end Mine
namespace Mine
structure CF (P : Par) : Prop where
  K : P.K.In P.h₀
  ga : findIn P.K (.ref P.C) "__getattribute__" = some (some (.builtin "object.__getattribute__"))
  get : ∀ (od : Obj) (x : Str) (v : Value), x = "kind" ∨ x = "word" ∨ x = "args" ∨ x = "operands" ∨ x = "operators" → lookIn x od = some (some v) → findObj P.K P.C (some od) x = some (.value v)
theorem lookIn_of {h : Heap} {a : Addr} {od : Obj} {m : Str → Option Value} {x : Str} {v : Value} (n : h.Ns a m) (e : h.get? a = some od) (q : m x = some v) : lookIn x od = some (some v) := by
  refine el_eeeaaa (n) fun o es ep e' d hk hm => ?_; try clear n
  rw [e] at e'; cases e'
  have := hm x
  rw [q] at this
  unfold nsFind findBy at this
  refine el_ea (Option.map_eq_some_iff.mp this) fun en f1 f2 => ?_
  unfold lookIn
  rw [d]
  dsimp only
  rw [show es.toList.find? (fun d => d.key.isStr x) = some en from by rw [Array.find?_toList]; exact f1]
  dsimp only
  rw [f2]
section leaf
variable {P : Par} {U fs ad : List Addr} {L : Addr} {μ : M} {A : Around} {s : Shared} {Q : Value → Shared → Prop} {E : Value → Shared → Prop}
theorem getLevel {k w : Str} {n : Nat} {a : Addr} {x : Str} {v : Value} {expr : Bool} (G : CF P) (S : Sim P fs ad μ s.heap) (ho : LevelAt P s.heap ad k w n a) (hd : ∀ dx, s.heap.get? a = some (instObj P.C dx) → dx ∉ ad ∧ dx ∉ fs)
    (hx : x = "kind" ∨ x = "word" ∨ x = "args" ∨ x = "operands" ∨ x = "operators") (hv : ∀ m : Str → Option Value, (∃ dx, s.heap.get? a = some (instObj P.C dx) ∧ s.heap.Ns dx m) → m x = some v) (hh : handedIn v = true)
    (q : Q v { s with toks := s.toks + 1 }) : wpAny (model P.prog P.w) A (getAttr (.ref a) x expr) Q E s := by
  obtain ⟨dx, od, m, a0, a1, a2, t1, t2, e1, e2, e3, r⟩ := ho
  have I : InstAt s.heap a (instObj P.C dx) P.C (some od) := ⟨e1, rfl, rfl, e2⟩
  exact get_value (fun b o e => S.base b o (G.K b o e)) I G.ga (G.get od x v hx (lookIn_of e3 e2 (hv m ⟨dx, e1, e3⟩))) hh q
theorem nsUnique {h : Heap} {a : Addr} {m m' : Str → Option Value} (n : h.Ns a m) (n' : h.Ns a m') : m = m' := by
  refine el_eeeaaa (n) fun o es ep e d _ hm => ?_; try clear n
  refine el_eeeaaa (n') fun o' es' ep' e' d' _ hm' => ?_; try clear n'
  rw [e] at e'; cases e'
  rw [d] at d'; cases d'
  funext x
  rw [← hm x, ← hm' x]
theorem lvGet {a : Addr} {h : Heap} {m m' : Str → Option Value} {dx : Addr} (e1 : h.get? a = some (instObj P.C dx)) (e3 : h.Ns dx m) (q : ∃ dx, h.get? a = some (instObj P.C dx) ∧ h.Ns dx m') : m' = m := by
  obtain ⟨dx', q1, q2⟩ := q
  rw [e1] at q1; cases q1
  exact nsUnique q2 e3
inductive LvV (P : Par) (h : Heap) (ad : List Addr) (k w : Str) (n : Nat) (a : Addr) : Prop
  | mk (t1 t2 : Tok) (a0 a1 a2 : Addr) (g0 : ad[n]? = some a0) (g1 : ad[n + 1]? = some a1) (g2 : ad[n + 2]? = some a2)
    (f : ∀ m : Str → Option Value, (∃ dx, h.get? a = some (instObj P.C dx) ∧ h.Ns dx m) → m "kind" = some (.str k t1) ∧ m "word" = some (.str w t2) ∧ m "args" = some (.ref a0) ∧ m "operands" = some (.ref a1) ∧ m "operators" = some (.ref a2)) : LvV P h ad k w n a
theorem lvV {h : Heap} {k w : Str} {n : Nat} {a : Addr} (ho : LevelAt P h ad k w n a) : LvV P h ad k w n a := by
  obtain ⟨dx, od, m, a0, a1, a2, t1, t2, e1, e2, e3, e4, e5, e6, e7, e8, e9, e10, e11⟩ := ho
  exact ⟨t1, t2, a0, a1, a2, e9, e10, e11, fun m' q => by rw [lvGet e1 e3 q]; exact ⟨e4, e5, e6, e7, e8⟩⟩
theorem attrV_ok {a v : V} {x : Str} {o : Value} {expr : Bool} (G : CF P) (S : Sim P fs ad μ s.heap) (ra : Rel P s.heap ad fs a o) (e : attrV a x = some v)
    (p : PostG P U fs L (RV P fs) (.ok v μ) ad s Q E) : wpAny (model P.prog P.w) A (getAttr o x expr) Q E s := by
  replace e := attrV_inv e
  replace ra := ra.inv
  cases e with
  | kind => cases ra with | mk ho ha hf hd => cases lvV ho with | mk t1 t2 a0 a1 a2 g0 g1 g2 f => exact getLevel G S ho hd (.inl rfl) (fun m' q => (f m' q).1) rfl (p.same S (.str _ _))
  | word => cases ra with | mk ho ha hf hd => cases lvV ho with | mk t1 t2 a0 a1 a2 g0 g1 g2 f => exact getLevel G S ho hd (.inr (.inl rfl)) (fun m' q => (f m' q).2.1) rfl (p.same S (.str _ _))
  | args => cases ra with | mk ho ha hf hd => cases lvV ho with | mk t1 t2 a0 a1 a2 g0 g1 g2 f => exact getLevel G S ho hd (.inr (.inr (.inl rfl))) (fun m' q => (f m' q).2.2.1) rfl (p.same S (.ref g0))
  | operands => cases ra with | mk ho ha hf hd => cases lvV ho with | mk t1 t2 a0 a1 a2 g0 g1 g2 f => exact getLevel G S ho hd (.inr (.inr (.inr (.inl rfl)))) (fun m' q => (f m' q).2.2.2.1) rfl (p.same S (.ref g1))
  | operators => cases ra with | mk ho ha hf hd => cases lvV ho with | mk t1 t2 a0 a1 a2 g0 g1 g2 f => exact getLevel G S ho hd (.inr (.inr (.inr (.inr rfl)))) (fun m' q => (f m' q).2.2.2.2) rfl (p.same S (.ref g2))
theorem seqIndex_lt {i : Int} {n j : Nat} (e : seqIndex? i n = some j) : j < n ∧ (0 ≤ i → i.toNat = j) ∧ (i < 0 → (i + n).toNat = j ∧ -(n : Int) ≤ i) := by
  unfold seqIndex? at e
  dsimp only at e
  split at e
  · rename_i h
    split at e
    · rename_i h2
      simp only [Bool.and_eq_true, decide_eq_true_eq] at h2
      cases e
      omega
    · cases e
  · rename_i h
    split at e
    · rename_i h2
      simp only [Bool.and_eq_true, decide_eq_true_eq] at h2
      cases e
      omega
    · cases e
theorem small_lt {i : Int} (h : small i = true) : -(2 ^ 63) ≤ i ∧ i < 2 ^ 63 := by
  have := of_decide_eq_true h
  omega
theorem itemList {l : Addr} {items : Array Value} {i : Int} {t : Tok} {j : Nat} {x : Value} (hl : s.heap.IsList l items) (hs : small i = true) (hj : seqIndex? i items.size = some j) (hx : items[j]? = some x) (q : Q x s) :
    wpAny (model P.prog P.w) A (getItem (.ref l) (.int i t)) Q E s := by
  refine el_aa (seqIndex_lt hj) fun h1 h2 h3 => ?_
  refine el_a (small_lt hs) fun b1 b2 => ?_
  by_cases h0 : 0 ≤ i
  · exact wpAny_getItem_list hl h0 b2 (by rw [h2 h0]; exact hx) q
  · refine el_a (h3 (by omega)) fun c1 c2 => ?_
    exact wpAny_getItem_list_neg hl (by omega) c2 b1 (by rw [c1]; exact hx) q
theorem idx_lst {l : List V} {i : Int} {t : Tok} {v : V} {o : Addr} {items : Array Value} {value slice : Expr} (S : Sim P fs ad μ s.heap) (ho : s.heap.IsList o items) (r : RelL P s.heap ad fs l items.toList) (hsm : small i = true) (e : (seqIndex? i l.length).bind (l[·]?) = some v)
    (hs : subscripted slice false (.ref o) (.int i t) = operate [.ref o, .int i t] (getItem (.ref o) (.int i t))) (p : PostG P U fs L (RV P fs) (.ok v μ) ad s Q E) : wpAny (model P.prog P.w) A (subscriptTail value slice (.ref o) (.int i t)) Q E s := by
  refine bind_some e fun j hj hv => ?_
  refine el_ea (r.get hv) fun x hx rx => ?_
  have e1 := r.length
  exact tail_any ho.typeIs slot_list_getitem.lookup (itemList ho hsm (by rw [← Array.length_toList, e1]; exact hj) (by rw [← Array.getElem?_toList]; exact hx) (p.same (tk := s.toks) S rx)) hs
theorem idx_tup {l : List V} {i : Int} {t : Tok} {v : V} {o : Addr} {items : Array Value} {value slice : Expr} (S : Sim P fs ad μ s.heap) (ho : IsTup s.heap o items) (r : RelL P s.heap ad fs l items.toList) (hsm : small i = true) (e : (seqIndex? i l.length).bind (l[·]?) = some v)
    (hs : subscripted slice false (.ref o) (.int i t) = operate [.ref o, .int i t] (getItem (.ref o) (.int i t))) (p : PostG P U fs L (RV P fs) (.ok v μ) ad s Q E) : wpAny (model P.prog P.w) A (subscriptTail value slice (.ref o) (.int i t)) Q E s := by
  refine bind_some e fun j hj hv => ?_
  refine el_ea (r.get hv) fun x hx rx => ?_
  have e1 := r.length
  exact item_tupleT (l := _) (by rw [Array.toArray_toList]; exact ho) (small_lt hsm).1 (small_lt hsm).2 (by rw [e1]; exact hj) hx (p.same (tk := s.toks) S rx) hs
theorem idx_str {z : Str} {i : Int} {t u : Tok} {value slice : Expr} (S : Sim P fs ad μ s.heap) (h : (decide (-(z.length : Int) ≤ i) && decide (i < z.length) && decide (z.length ≤ 1000)) = true)
    (hs : subscripted slice false (.str z u) (.int i t) = operate [.str z u, .int i t] (getItem (.str z u) (.int i t))) (p : PostG P U fs L (RV P fs) (.ok (.str (Txt.item z i)) μ) ad s Q E) : wpAny (model P.prog P.w) A (subscriptTail value slice (.str z u) (.int i t)) Q E s := by
  simp only [Bool.and_eq_true, decide_eq_true_eq] at h
  exact item_str (fitsSsize_of (N := 9223372036854775808) (by omega) (by omega) (Int.le_refl _)) h.1.1 h.1.2 (fun _ => p.str S) hs (fun r => by cases value <;> rfl)
theorem idxV_ok {a b v : V} {o i : Value} {value slice : Expr} (S : Sim P fs ad μ s.heap) (ra : Rel P s.heap ad fs a o) (rb : Rel P s.heap ad fs b i) (e : idxV μ a b = some v)
    (hs : subscripted slice false o i = operate [o, i] (getItem o i)) (p : PostG P U fs L (RV P fs) (.ok v μ) ad s Q E) : wpAny (model P.prog P.w) A (subscriptTail value slice o i) Q E s := by
  replace e := idxV_inv e
  replace ra := ra.inv
  replace rb := rb.inv
  cases e with
  | tup _ _ _ hsm e => cases rb; cases ra with | mk ho ha hf r => exact idx_tup S ho r hsm e hs p
  | lst _ _ _ hsm e => cases rb; cases ra with | mk ho ha hf r => exact idx_lst S ho r hsm e hs p
  | ref _ _ _ _ hl hsm e => cases rb; cases ra with | mk hn => exact ref_isList S hn hl fun items x r => idx_lst S x r hsm e hs p
  | str _ _ h => cases rb; cases ra; exact idx_str S h hs p
  | dict _ _ _ e => cases rb; cases ra with | mk g ho hm ha hf hy hv hn => exact tail_any ho.typeIs slot_dict_getitem.lookup (wpAny_getItem_of (strKind_is _ _ _ _) ho (hy _ _ e) (p.same S (hv _ _ e))) hs
end leaf
end Mine
namespace Mine
section leaf
variable {P : Par} {U fs ad : List Addr} {L : Addr} {μ : M} {A : Around} {s : Shared} {Q : Value → Shared → Prop} {E : Value → Shared → Prop}
theorem Sim.turn {h h' : Heap} {r : Nat} {a : Addr} {l : List V} {items : Array Value} (S : Sim P fs ad μ h) (hn : ad[r]? = some a) (hs : Heap.SameBut a h h') (hp : h'.PlainList a items) (rl : RelL P h ad fs l items.toList) :
    Sim P fs ad (μ.set r l) h' ∧ Step U fs ad ad h h' := by
  have ha : a ∈ ad := List.mem_iff_getElem?.mpr ⟨r, hn⟩
  have keep : ∀ b o, h.get? b = some o → b ∉ ad → b ∉ fs → h'.get? b = some o := fun b o e hb _ => (hs.2 b fun q => hb (q ▸ ha)).trans e
  have c : Carry h h' ad ad fs fs := ⟨fun b o e _ => keep b o e, fun _ _ _ q => q, fun _ _ _ q => q, fun _ _ e => e⟩
  have hr : r < μ.length := by rw [← S.len]; exact (List.getElem?_eq_some_iff.mp hn).1
  refine ⟨⟨fun b o e => (hs.2 b fun q => S.baseAd e (q ▸ ha)).trans (S.base b o e), by rw [List.length_set]; exact S.len, S.nd, ?_, S.adNew, S.fsNew, fun b hb => ?_, S.dj⟩,
    ⟨⟨[], by simp, fun _ q => nomatch q⟩, keep, fun b hb _ => ?_, fun b hb m n => ⟨m, n.sameBut hs (fun q => S.adFs ha (q ▸ hb))⟩, fun b o e => ?_⟩⟩
  · intro i a' l' e1 e2
    by_cases hi : i = r
    · subst hi
      rw [hn] at e1; cases e1
      rw [List.getElem?_set_self hr] at e2; cases e2
      exact ⟨items, hp, rl.carry c⟩
    · rw [List.getElem?_set_ne (fun q => hi q.symm)] at e2
      refine el_ea (S.cell i a' l' e1 e2) fun its hn1n24 z => ?_; obtain ⟨n, e⟩ := hn1n24
      have hne : a' ≠ a := fun q => by
        subst q
        have h1 := (List.getElem?_eq_some_iff.mp e1)
        have h2 := (List.getElem?_eq_some_iff.mp hn)
        exact hi ((List.getElem_inj S.nd).mp (h1.2.trans h2.2.symm))
      exact ⟨its, ⟨n, (hs.2 a' hne).trans e⟩, z.carry c⟩
  · refine el_ea (S.fsAt b hb) fun o e n => ?_
    exact ⟨o, (hs.2 b (fun q => S.adFs ha (q ▸ hb))).trans e, n⟩
  · exact .of_keep fun o e => (hs.2 b (fun q => S.adFs ha (q ▸ hb))).trans e
  · by_cases q : b = a
    · subst q; obtain ⟨n, e'⟩ := hp; exact ⟨_, e'⟩
    · exact ⟨o, (hs.2 b q).trans e⟩
theorem append_ok {r : Nat} {a : Addr} {l : List V} {v : V} {x : Value} (S : Sim P fs ad μ s.heap) (hn : ad[r]? = some a) (hl : μ[r]? = some l) (rv : Rel P s.heap ad fs v x) (hz : l.length < maxLen)
    (p : PostG P U fs L (RV P fs) (.ok .none (μ.set r (l ++ [v]))) ad s Q E) : wpAny (model P.prog P.w) A (call (.builtin "list.append") [.ref a, x]) Q E s := by
  refine el_ea (S.cell r a l hn hl) fun items hp rl => ?_
  have e1 := rl.length
  simp only [Array.length_toList] at e1
  refine wpAny_list_append_plain hp (fun h' hp' hs => ?_) (maxLen_le (by omega))
  refine el_a (S.turn (U := U) (l := l ++ [v]) hn hs hp' (by simpa using rl.append (.cons rv .nil))) fun S' st => ?_
  exact p _ _ _ s.toks st S' .none
theorem pop_ok {r : Nat} {a : Addr} {l : List V} {v : V} (S : Sim P fs ad μ s.heap) (hn : ad[r]? = some a) (hl : μ[r]? = some l) (hv : l.getLast? = some v) (hz : l.length ≤ maxLen)
    (p : PostG P U fs L (RV P fs) (.ok v (μ.set r l.dropLast)) ad s Q E) : wpAny (model P.prog P.w) A (call (.builtin "list.pop") [.ref a]) Q E s := by
  refine el_ea (S.cell r a l hn hl) fun items hp rl => ?_
  have e1 := rl.length
  simp only [Array.length_toList] at e1
  rw [List.getLast?_eq_getElem?] at hv
  refine el_ea (rl.get hv) fun y hy ry => ?_
  have hpos : l.length - 1 < l.length := (List.getElem?_eq_some_iff.mp hv).1
  refine el_e (hp) fun n ho => ?_; try clear hp
  refine call_meets PySem.F.slot_list_pop ⟨_, ho, rfl⟩ PySem.F.entry_list_pop (PySem.F.args_list_pop_1 _) (PySem.MeetsSeq.list_pop_last a items n y (by rw [e1, ← Array.getElem?_toList]; exact hy) (maxLen_le (by omega))) ⟨ho, ?_⟩
  have hs := Heap.SameBut.update s.heap a (Obj.mapSeq fun xs => xs.eraseIdxIfInBounds (items.size - 1))
  have hsz : items.eraseIdxIfInBounds (items.size - 1) = items.pop := by
    unfold Array.eraseIdxIfInBounds
    rw [dif_pos (by omega)]
    apply Array.toList_inj.mp
    rw [Array.toList_eraseIdx, Array.toList_pop, List.eraseIdx_eq_dropLast (by simp; omega)]
  have hp' : (s.heap.update a (Obj.mapSeq fun xs => xs.eraseIdxIfInBounds (items.size - 1))).PlainList a items.pop := by
    refine ⟨n + 1, ?_⟩
    have hne : ((items.pop).size == items.size) = false := by simp; omega
    have e : Obj.mapSeq (fun xs => xs.eraseIdxIfInBounds (items.size - 1)) { cls := .type "list", data := .seq items n } = { cls := .type "list", data := .seq items.pop (n + 1) } := by
      simp only [Obj.mapSeq, hsz, hne, Bool.false_eq_true, if_false]
    rw [Heap.get?_update_self _ ho (by rw [e]; rfl), e]
  refine el_a (S.turn (U := U) (l := l.dropLast) hn hs hp' (by rw [Array.toList_pop, List.dropLast_eq_take, List.dropLast_eq_take, rl.length]; exact rl.take _)) fun S' st => ?_
  exact p _ _ _ s.toks st S' (ry.carry st.carry)
theorem relL_strs {h : Heap} : ∀ (l : List Str) (tk : Nat), RelL P h ad fs (l.map .str) (strsFrom tk l)
  | [], _ => .nil
  | x :: r, tk => .cons (.str x tk) (relL_strs r (tk + 1))
theorem str_ne {a b : String} (h : (Str.ofString a == Str.ofString b) = false) : ¬ Str.ofString a = Str.ofString b := fun e => by rw [e] at h; simp at h
noncomputable def Mt.ty : Mt → String
  | .app _ => "list"
  | .pop _ => "list"
  | .get _ => "dict"
  | .split _ => "str"
noncomputable def Mt.id : Mt → String
  | .app _ => "list.append"
  | .pop _ => "list.pop"
  | .get _ => "dict.get"
  | .split _ => "str.split"
theorem ref_plain (S : Sim P fs ad μ s.heap) {r : Nat} {a : Addr} (hn : ad[r]? = some a) {G : Prop} (k : ∀ items n, s.heap.get? a = some { cls := .type "list", data := .seq items n } → G) : G := by
  have hr : r < μ.length := by rw [← S.len]; exact (List.getElem?_eq_some_iff.mp hn).1
  exact el_ea (S.cell r a _ hn (List.getElem?_eq_getElem hr)) fun items h _ => el_e h fun n ho => k items n ho
inductive MethAt (s : Shared) (ov : Value) (x : Str) (T id : String) : Prop
  | mk (pa : PlainAttrs T) (sl : Slot T x id) (ty : typeOf (.builtin id) = pure (.type "method_descriptor")) (ti : s.TypeIs ov T) (nd : ∀ b, ov = .ref b → ∃ ob, s.heap.get? b = some ob ∧ ob.dict = none)
theorem meth_on {a : V} {ov : Value} {x : Str} {m : Mt} (S : Sim P fs ad μ s.heap) (ra : Rel P s.heap ad fs a ov) (k : MtI a x m) : MethAt s ov x m.ty m.id := by
  replace ra := ra.inv
  cases m with
  | app r => cases k; cases ra with | mk hn => exact ref_plain S hn fun items n ho => ⟨PySem.F.plainAttrs_list, PySem.F.slot_list_append, PySem.F.type_list_append, ⟨_, ho, rfl⟩, fun c e => by cases e; exact ⟨_, ho, rfl⟩⟩
  | pop r => cases k; cases ra with | mk hn => exact ref_plain S hn fun items n ho => ⟨PySem.F.plainAttrs_list, PySem.F.slot_list_pop, PySem.F.type_list_pop, ⟨_, ho, rfl⟩, fun c e => by cases e; exact ⟨_, ho, rfl⟩⟩
  | get l => cases k; cases ra with | mk g ho hm ha hf hy hv hn => exact ⟨PySem.F.plainAttrs_dict, PySem.F.slot_dict_get, PySem.F.type_dict_get, ho.typeIs, fun c e => by cases e; obtain ⟨o, es, ep, e1, e2, _⟩ := ho; exact ⟨o, e1, e2.2.1⟩⟩
  | split z => cases k; cases ra with | mk t => exact ⟨PySem.F.plainAttrs_str, PySem.F.slot_str_split, PySem.F.type_str_split, typeIs_str _ _ _, fun c e => by cases e⟩
theorem PostG.ne_no {α β : Type} {R : Heap → List Addr → α → β → Prop} {o : Out α} {Q : β → Shared → Prop} (p : PostG P U fs L R o ad s Q E) : o ≠ .no := fun e => by rw [e] at p; exact p
theorem get_go {l : List (Str × V)} {k : Str} {d : V} {ov xk xd : Value} (S : Sim P fs ad μ s.heap) (ra : RDict P s.heap ad fs l ov) (rk : RStr k xk) (rd : Rel P s.heap ad fs d xd)
    (p : PostG P U fs L (RV P fs) (.ok ((keyIn k l).getD d) μ) ad s Q E) : wpAny (model P.prog P.w) A (call (.builtin "dict.get") [ov, xk, xd]) Q E s := by
  cases ra with | mk g ho hm ha hf hy hv hn =>
  cases rk with | mk t =>
  refine call_meetsIn PySem.F.slot_dict_get ho.typeIs PySem.F.entry_dict_get (PySem.F.args_dict_get_3 _ _ _) (meets_dict_get_default (strKind P.prog P.w) _ (strKind_is _ _ k _) hm _) ⟨_, ho, ?_⟩
  cases h : keyIn k l with
  | none => rw [hn k h]; rw [h] at p; exact p.same S rd
  | some v => rw [hy k v h]; rw [h] at p; exact p.same S (hv k v h)
theorem split_go {z c : Str} {t u : Tok} (S : Sim P fs ad μ s.heap) (h : splitOk z c = true)
    (p : PostG P U fs L (RV P fs) (.ok (.lst ((Builtin.Str.partsBetween z (Builtin.Str.occurrences z c 0 z.length (z.length + 1)) c.length).map .str)) μ) ad s Q E) : wpAny (model P.prog P.w) A (call (.builtin "str.split") [.str z t, .str c u]) Q E s := by
  simp only [splitOk, Bool.and_eq_true, Bool.not_eq_true', decide_eq_true_eq] at h
  refine call_meets PySem.F.slot_str_split (typeIs_str _ _ _) PySem.F.entry_str_split (PySem.F.args_str_split_2 _ _) (meets_str_split_sep z c t u h.1.1.1.1 h.1.1.1.2 h.1.1.2 (maxLen_le h.1.2) (maxLen_le h.2)) ?_
  exact p.newLst S (relL_strs _ _)
theorem meth_go {a : V} {ov : Value} {x : Str} {m : Mt} {vs : List V} {xs : List Value} (S : Sim P fs ad μ s.heap) (k : MtI a x m) (ra : Rel P s.heap ad fs a ov) (rs : RelL P s.heap ad fs vs xs)
    (p : PostG P U fs L (RV P fs) (m.run μ vs) ad s Q E) : wpAny (model P.prog P.w) A (call (.builtin m.id) (ov :: xs)) Q E s := by
  have i := run_inv rfl p.ne_no
  revert p i
  generalize m.run μ vs = o
  intro p i
  replace ra := ra.inv
  replace rs := rs.inv
  cases i with
  | app r v l hl hz => cases k; cases ra with | mk hn => cases rs with | mk rv rr => cases rr.inv; exact append_ok S hn hl rv hz p
  | pop r v l hl hv hz => cases k; cases ra with | mk hn => cases rs; exact pop_ok S hn hl hv hz p
  | get l k d => cases k; cases rs with | mk rk rr => replace rr := rr.inv; cases rr with | mk rd rr => cases rr.inv; exact get_go S ra rk.inv rd p
  | split z c h => cases k; cases ra with | mk t => cases rs with | mk rk rr => cases rk.inv; cases rr.inv; exact split_go S h p
end leaf
end Mine
namespace Mine
section leaf
variable {P : Par} {U fs ad : List Addr} {L : Addr} {μ : M} {A : Around} {s : Shared} {Q : Value → Shared → Prop} {E : Value → Shared → Prop}
theorem maxLen_63 {n : Nat} (h : n ≤ maxLen) : (n : Int) < 2 ^ 63 := by unfold maxLen at h; omega
inductive IntsAt (xs : List Value) (ns : List Int) : Prop
  | mk (ps : List (Int × Tok)) (e1 : xs = ps.map (fun p => Value.int p.1 p.2)) (e2 : ps.map (·.1) = ns)
theorem ints_rel {h : Heap} {l : List V} {xs : List Value} {ns : List Int} (r : RelL P h ad fs l xs) (e : IntsI l ns) : IntsAt xs ns := by
  induction e generalizing xs with
  | nil => cases r.inv; exact ⟨[], rfl, rfl⟩
  | cons i _ ih => cases r.inv with | mk r1 rs => cases r1.inv with | mk t => cases ih rs with | mk ps e1 e2 => exact ⟨(i, t) :: ps, congrArg (Value.int i t :: ·) e1, congrArg (i :: ·) e2⟩
theorem sum_take_bound (ns : List Int) (h : ∀ n ∈ ns, 0 ≤ n ∧ n ≤ 1000) : ∀ j, 0 ≤ (ns.take j).sum ∧ (ns.take j).sum ≤ 1000 * j := by
  induction ns with
  | nil => intro j; simp; omega
  | cons a r ih =>
    intro j
    cases j with
    | zero => simp
    | succ j =>
      have h1 := h a (.head _)
      have h2 := ih (fun n hn => h n (.tail _ hn)) j
      rw [List.take_succ_cons, List.sum_cons]
      omega
inductive ROne (P : Par) (h : Heap) (ad fs : List Addr) (w : V) : List Value → Prop
  | mk (x : Value) (r : RelI P h ad fs w x) : ROne P h ad fs w [x]
theorem RelL.one {h : Heap} {w : V} {xs : List Value} (r : RelL P h ad fs [w] xs) : ROne P h ad fs w xs := by
  replace r := r.inv
  cases r with | mk r1 rs => cases rs.inv; exact ⟨_, r1.inv⟩
theorem len_go {l : List V} {a : Addr} {items : Array Value} (ho : s.heap.IsList a items) (rl : RelL P s.heap ad fs l items.toList) (hz : l.length ≤ maxLen) (S : Sim P fs ad μ s.heap) (p : PostG P U fs L (RV P fs) (.ok (.int l.length) μ) ad s Q E) :
    wpAny (model P.prog P.w) A (call (.builtin "len") [.ref a]) Q E s := by
  have e1 := rl.length
  rw [Array.length_toList] at e1
  refine Calls.call_len_list ho (by rw [e1]; exact maxLen_63 hz) ?_
  rw [e1]; exact p.int S
theorem lenV_ok {vs : List V} {xs : List Value} {v : V} (S : Sim P fs ad μ s.heap) (rs : RelL P s.heap ad fs vs xs) (e : LenI μ vs v) (p : PostG P U fs L (RV P fs) (.ok v μ) ad s Q E) :
    wpAny (model P.prog P.w) A (call (.builtin "len") xs) Q E s := by
  cases e with
  | ref r l hl hz => replace rs := rs.one; cases rs with | mk x r => cases r with | mk hn => exact ref_isList S hn hl fun items ho rl => len_go ho rl hz S p
  | lst l hz => replace rs := rs.one; cases rs with | mk x r => cases r with | mk ho ha hf rl => exact len_go ho rl hz S p
  | str z hz => replace rs := rs.one; cases rs with | mk x r => cases r; exact PySem.P.len_str (by have := maxLen_63 hz; omega) (p.int S)
theorem sum_go {l : List V} {ns : List Int} {a : Addr} {items : Array Value} (S : Sim P fs ad μ s.heap) (ho : s.heap.IsList a items) (rl : RelL P s.heap ad fs l items.toList) (hns : IntsI l ns) (hb : ns.length ≤ 1000 ∧ ∀ n ∈ ns, 0 ≤ n ∧ n ≤ 1000) (hh : A.handled = none)
    (p : PostG P U fs L (RV P fs) (.ok (.int ns.sum) μ) ad s Q E) : wpAny (model P.prog P.w) A (call (.builtin "sum") [.ref a]) Q E s := by
  cases ints_rel rl hns with | mk ps e1 e2 =>
  have ei : items = intItems ps.toArray := by
    apply Array.toList_inj.mp
    rw [e1]; simp [intItems]
  subst ei
  refine sum_intList hh ho (fun j hj => ?_) fun h' tk t' hk => ?_
  · rw [numAt_eq, preSum_eq]
    have e3 : ps.toArray.toList.map (·.1) = ns := by rw [← e2]
    rw [e3]
    have h1 := sum_take_bound ns hb.2 (j + 1)
    have hj' : j < ns.length := by rw [← e2]; simpa using hj
    have h2 := hb.2 (ns.getD j 0) (by rw [List.getD_eq_getElem?_getD, List.getElem?_eq_getElem hj']; exact List.getElem_mem hj')
    unfold InLong
    omega
  · have e3 : preSum (numAt ps.toArray) ps.toArray.size = ns.sum := by
      rw [preSum_eq, show ps.toArray.toList.map (·.1) = ns from by rw [← e2], List.take_of_length_le (by rw [← e2]; simp)]
    rw [e3]
    exact p.done S hk (.int _ _)
theorem sumV_ok {vs : List V} {xs : List Value} {v : V} (S : Sim P fs ad μ s.heap) (rs : RelL P s.heap ad fs vs xs) (e : SumI vs v) (hh : A.handled = none) (p : PostG P U fs L (RV P fs) (.ok v μ) ad s Q E) :
    wpAny (model P.prog P.w) A (call (.builtin "sum") xs) Q E s := by
  cases e with | mk l ns hns hb => replace rs := rs.one; cases rs with | mk x r => cases r with | mk ho ha hf rl => exact sum_go S ho rl (intsOf_inv hns) hb hh p
theorem builtV_ok {f : Str} {vs : List V} {xs : List Value} {v : V} (S : Sim P fs ad μ s.heap) (rs : RelL P s.heap ad fs vs xs) (e : builtV μ f vs = some v) (hh : A.handled = none) (p : PostG P U fs L (RV P fs) (.ok v μ) ad s Q E) :
    wpAny (model P.prog P.w) A (call (bltFn f) xs) Q E s := by
  replace e := builtV_inv e
  revert e
  generalize bltFn f = b
  intro e
  cases e with
  | len h => exact lenV_ok S rs h p
  | sum h => exact sumV_ok S rs h hh p
  | ord h => cases h with | mk z h => replace rs := rs.one; cases rs with | mk x r => cases r; exact ord_of_one h (p.int S)
  | abs h => cases h with | mk i => replace rs := rs.one; cases rs with | mk x r => cases r; exact call_abs_int (fun u tk => p.int S)
  | int h => cases h with | mk i => replace rs := rs.one; cases rs with | mk x r => cases r; exact call_int_int (p.int (tk := s.toks) S)
theorem RelL.pick {h : Heap} {l : List V} {items : Array Value} (r : RelL P h ad fs l items.toList) : ∀ ix : List Nat, RelL P h ad fs (ix.filterMap (l[·]?)) (ix.filterMap (items[·]?))
  | [] => .nil
  | i :: ix => by
    rw [List.filterMap_cons, List.filterMap_cons]
    cases q : l[i]? with
    | none =>
      have : items[i]? = none := by
        rw [← Array.getElem?_toList, List.getElem?_eq_none_iff, r.length]
        exact List.getElem?_eq_none_iff.mp q
      rw [this]; exact r.pick ix
    | some v =>
      refine el_ea (r.get q) fun x e rx => ?_
      rw [Array.getElem?_toList] at e
      rw [e]
      exact .cons rx (r.pick ix)
theorem slice_str {x : Str} {t : Tok} {l u : Option (Int × Tok)} {s1 : Shared} (S : Sim P fs ad μ s1.heap)
    (p : PostG P U fs L (RV P fs) (.ok (.str (if ((Builtin.Str.strSliceIndices (l.map (·.1)) (u.map (·.1)) 1 x.length).length == x.length) = true then x else ⟨((Builtin.Str.strSliceIndices (l.map (·.1)) (u.map (·.1)) 1 x.length).filterMap (x.cps[·]?)).toArray⟩)) μ) ad s1 Q E)
    (hl : (Builtin.Str.strSliceIndices (l.map (·.1)) (u.map (·.1)) 1 x.length).length ≤ maxLen) :
    (sliceMade x t l u none).post Q s1 := by
  unfold sliceMade slicePicked
  simp only [Option.map_none, Option.getD_none, beq_self_eq_true, Bool.true_and]
  split
  · rename_i h
    rw [if_pos h] at p
    exact p.str (tk := s1.toks) S
  · rename_i h
    rw [if_neg h] at p
    refine ⟨?_, p.str S⟩
    refine maxLen_le (Nat.le_trans ?_ hl)
    show (List.toArray _).size ≤ _
    rw [List.size_toArray]
    exact List.length_filterMap_le _ _
end leaf
end Mine
namespace Mine
section leaf
variable {P : Par} {U fs ad : List Addr} {L : Addr} {μ : M} {A : Around} {s : Shared} {Q : Value → Shared → Prop} {E : Value → Shared → Prop}
inductive Lits : List Str → List Int → List (Value × Value) → List (Str × Value) → Prop
  | nil : Lits [] [] [] []
  | cons {x : Str} {i : Int} {t u : Tok} {xs : List Str} {is : List Int} {vs : List (Value × Value)} {kvs : List (Str × Value)} (r : Lits xs is vs kvs) : Lits (x :: xs) (i :: is) ((.str x t, .int i u) :: vs) ((x, .int i u) :: kvs)
theorem Lits.carries {prog : Program} {w : World} {xs : List Str} {is : List Int} {vs : List (Value × Value)} {kvs : List (Str × Value)} (r : Lits xs is vs kvs) : Carries (strKind prog w) vs kvs := by
  induction r with
  | nil => exact trivial
  | cons _ ih => exact ⟨strKind_is _ _ _ _, rfl, ih⟩
theorem Lits.keys {xs : List Str} {is : List Int} {vs : List (Value × Value)} {kvs : List (Str × Value)} (r : Lits xs is vs kvs) : kvs.map (·.1) = xs := by
  induction r with
  | nil => rfl
  | cons _ ih => exact congrArg (_ :: ·) ih
inductive FindI (x : Str) : Option V → Option Value → Prop
  | some (i : Int) (u : Tok) : FindI x (some (.int i)) (some (.int i u))
  | none : FindI x none none
theorem Lits.find {xs : List Str} {is : List Int} {vs : List (Value × Value)} {kvs : List (Str × Value)} (r : Lits xs is vs kvs) (x : Str) : FindI x (keyIn x (xs.zip (is.map V.int))) (valueAt kvs x) := by
  induction r with
  | nil => exact .none
  | cons r ih =>
    rename_i y i t u xs is vs kvs
    by_cases h : y = x
    · rw [show keyIn x ((y :: xs).zip ((i :: is).map V.int)) = some (.int i) from if_pos (by rw [h]; exact beq_self_eq_true x), show valueAt ((y, Value.int i u) :: kvs) x = some (.int i u) from by simp [valueAt, h]]
      exact .some i u
    · rw [show keyIn x ((y :: xs).zip ((i :: is).map V.int)) = keyIn x (xs.zip (is.map V.int)) from if_neg (by simpa using h), show valueAt ((y, Value.int i u) :: kvs) x = valueAt kvs x from by simp [valueAt, h]]
      exact ih
theorem stored_new {kvs : List (Str × Value)} {k : Str} {v : Value} (h : k ∉ kvs.map (·.1)) : stored kvs k v = kvs ++ [(k, v)] := by
  unfold stored
  rw [if_neg]
  intro q
  refine el_ea (List.any_eq_true.mp q) fun p hp e => ?_
  exact h (List.mem_map.mpr ⟨p, hp, of_decide_eq_true e⟩)
theorem merged_new : ∀ (kvs acc : List (Str × Value)), (kvs.map (·.1)).Nodup → (∀ k ∈ kvs.map (·.1), k ∉ acc.map (·.1)) → merged acc kvs = acc ++ kvs
  | [], acc, _, _ => by simp [merged]
  | (k, v) :: r, acc, h1, h2 => by
    rw [List.map_cons, List.nodup_cons] at h1
    show merged (stored acc k v) r = _
    rw [stored_new (h2 k (by simp)), merged_new r _ h1.2, List.append_assoc]; rfl
    intro q hq
    rw [List.map_append]
    intro hm
    rcases List.mem_append.mp hm with hm | hm
    · exact h2 q (by rw [List.map_cons]; exact .tail _ hq) hm
    · simp only [List.map_cons, List.map_nil, List.mem_singleton] at hm
      exact h1.1 (hm ▸ hq)
theorem dict_done {h' : Heap} {xs : List Str} {is : List Int} {vs : List (Value × Value)} {kvs : List (Str × Value)} {tk : Nat} (S : Sim P fs ad μ s.heap) (r : Lits xs is vs kvs) (nd : xs.Nodup)
    (hd : h'.DictOf (strKind P.prog P.w) s.heap.objs.size (merged [] kvs)) (hs : Heap.SameBut s.heap.objs.size (s.heap.push { cls := .type "dict", data := .dict #[] }) h') (big : sysModules < s.heap.objs.size)
    (p : PostG P U fs L (RV P fs) (.ok (.dict (xs.zip (is.map .int))) μ) ad s Q E) : Q (.ref s.heap.objs.size) { s with heap := h', toks := tk } := by
  rw [merged_new kvs [] (by rw [r.keys]; exact nd) (by simp), List.nil_append] at hd
  have k : ∀ b o, s.heap.get? b = some o → h'.get? b = some o := fun b o e => (hs.2 b (Nat.ne_of_lt (Heap.lt_size e))).trans (push_keeps _ b o e)
  refine p.done S k (.dict (fun x => (valueAt kvs x).getD .none) hd.mapOf (by simpa using Nat.ne_of_gt big) S.newAd S.newFs (fun x v e => ?_) (fun x v e => ?_) fun x e => ?_)
  · have f := r.find x
    rw [e] at f
    revert f; generalize valueAt kvs x = o; intro f; cases f; rfl
  · have f := r.find x
    rw [e] at f
    revert f; generalize valueAt kvs x = o; intro f; cases f; exact .int _ _
  · have f := r.find x
    rw [e] at f
    revert f; generalize valueAt kvs x = o; intro f; cases f; rfl
inductive KVs : List (Option Expr) → List Expr → List Str → List Int → Prop
  | nil : KVs [] [] [] []
  | cons (x : Str) (i : Int) (k1 k2 : Nat) (p1 p2 : Pos) {ks : List (Option Expr)} {vs : List Expr} {xs : List Str} {is : List Int} (r : KVs ks vs xs is) : KVs (some (.Constant (.str x) k1 p1) :: ks) (.Constant (.int i) k2 p2 :: vs) (x :: xs) (i :: is)
inductive KOne : Option Expr → Str → Prop
  | mk (x : Str) (k1 : Nat) (p1 : Pos) : KOne (some (.Constant (.str x) k1 p1)) x
theorem litK_inv {k : Option Expr} {ks : List (Option Expr)} {xs : List Str} {G : Prop} (h : litKs (k :: ks) = some xs) (q : ∀ x xs', KOne k x → litKs ks = some xs' → x :: xs' = xs → G) : G := by
  cases k with
  | none => exact nn h
  | some e => cases e with
    | Constant c k p => cases c with
      | str x => exact map_some (show (litKs ks).map (x :: ·) = some xs from h) fun xs' f e => q x xs' ⟨x, k, p⟩ f e
      | _ => exact nn h
    | _ => exact nn h
inductive VOne : Expr → Int → Prop
  | mk (i : Int) (k1 : Nat) (p1 : Pos) : VOne (.Constant (.int i) k1 p1) i
theorem litI_inv {k : Expr} {ks : List Expr} {xs : List Int} {G : Prop} (h : litIs (k :: ks) = some xs) (q : ∀ x xs', VOne k x → litIs ks = some xs' → x :: xs' = xs → G) : G := by
  cases k with
  | Constant c k p => cases c with
    | int x => exact map_some (show (litIs ks).map (x :: ·) = some xs from h) fun xs' f e => q x xs' ⟨x, k, p⟩ f e
    | _ => exact nn h
  | _ => exact nn h
theorem kvs_of {ks : List (Option Expr)} : ∀ {vs : List Expr} {xs : List Str} {is : List Int}, litKs ks = some xs → litIs vs = some is → xs.length = is.length → KVs ks vs xs is := by
  induction ks with
  | nil =>
    intro vs xs is e1 e2 el
    cases Option.some.inj e1
    cases is with
    | nil => cases vs with
      | nil => exact .nil
      | cons v vs => exact litI_inv e2 fun x r _ _ e => by cases e
    | cons _ _ => cases el
  | cons k ks ih =>
    intro vs xs is e1 e2 el
    refine litK_inv e1 fun x xs' k1 f1 g1 => ?_
    subst g1
    cases vs with
    | nil => cases Option.some.inj e2; cases el
    | cons v vs =>
      refine litI_inv e2 fun i is' k2 f2 g2 => ?_
      subst g2
      cases k1 with | mk _ a b => cases k2 with | mk _ c d => exact .cons x i a c b d (ih f1 f2 (Nat.succ.inj el))
theorem lit_pairs {env : Env} {pos : Pos} {ks : List (Option Expr)} {vs : List Expr} {xs : List Str} {is : List Int} (k : KVs ks vs xs is) : ∀ {s : Shared} {Q : List (Value × Value) → Shared → Prop} {E : Value → Shared → Prop},
    (∀ ps kvs tk, Lits xs is ps kvs → Q ps { s with toks := tk }) → wpAny (model P.prog P.w) A (evalPairs (pairTrees ks vs env pos)) Q E s := by
  induction k with
  | nil => exact fun q => evalPairs_nil (q [] [] _ .nil)
  | cons x i k1 k2 p1 p2 _ ih => exact fun q => evalPairs_cons (wpAny_Constant_str (wpAny_bind (wpAny_Constant_int (wpAny_bind (wpAny_standAt (wpAny_pure (ih fun ps kvs tk r => q _ _ tk (.cons r))))))))
theorem lit_loop {env : Env} {pos : Pos} {d : Addr} {h1 : Heap} {ks : List (Option Expr)} {vs : List Expr} {xs : List Str} {is : List Int} (k : KVs ks vs xs is) : ∀ {acc : List (Str × Value)} {s : Shared} {Q : PUnit → Shared → Prop} {E : Value → Shared → Prop},
    s.heap.DictOf (strKind P.prog P.w) d acc → acc.length + xs.length ≤ 100 → Heap.SameBut d h1 s.heap →
    (∀ h' tk ps kvs, Lits xs is ps kvs → h'.DictOf (strKind P.prog P.w) d (merged acc kvs) → Heap.SameBut d h1 h' → Q PUnit.unit { s with heap := h', toks := tk }) →
    wpAny (model P.prog P.w) A (forIn (pairTrees ks vs env pos) PUnit.unit fun (x : Sem Value × Sem Value) (_ : PUnit) => (do
      let kv ← x.1
      let vv ← holding [kv] x.2
      holding [kv, vv] (dictSet d kv vv)
      pure (ForInStep.yield PUnit.unit) : Sem (ForInStep PUnit))) Q E s := by
  induction k with
  | nil => exact fun hd _ hs q => wpAny_pure (q _ _ [] [] .nil hd hs)
  | cons x i k1 k2 p1 p2 _ ih =>
    rename_i ks vs xs is _
    intro acc s Q E hd hz hs q
    rw [List.length_cons] at hz
    show wpAny _ A (forIn (_ :: pairTrees ks vs env pos) PUnit.unit _) Q E s
    rw [List.forIn_cons]
    refine wpAny_bind (wpAny_bind (wpAny_Constant_str (env := env) (k := k1) (pos := p1) (wpAny_bind (wpAny_holding (wpAny_bind (wpAny_Constant_int (env := env) (k := k2) (pos := p2) (wpAny_bind (wpAny_standAt (wpAny_pure ?_)))))))))
    refine wpAny_bind (wpAny_holding (wpAny_dictSet_pairs (strKind_is _ _ x _) hd (fun h' hd' hs' => wpAny_pure ?_) (by rw [sizeLine_eq]; omega)))
    exact ih hd' (by have e := stored_length_le acc x (Value.int i ({ heap := s.heap, gens := s.gens, drawn := s.drawn, toks := s.toks + 1, os := s.os } : Shared).toks); omega) (hs.trans hs') fun h'' tk ps kvs r hd'' hs'' => q h'' tk _ _ (.cons (t := 0) r) hd'' hs''
theorem KVs.ks {ks : List (Option Expr)} {vs : List Expr} {xs : List Str} {is : List Int} (k : KVs ks vs xs is) : ks.all (·.isSome) = true ∧ ks.length = xs.length ∧ vs.length = xs.length := by
  induction k with
  | nil => exact ⟨rfl, rfl, rfl⟩
  | cons x i k1 k2 p1 p2 _ ih => exact ⟨ih.1, congrArg (· + 1) ih.2.1, congrArg (· + 1) ih.2.2⟩
theorem dict_node {env : Env} {pos : Pos} {ks : List (Option Expr)} {vs : List Expr} {xs : List Str} {is : List Int} (S : Sim P fs ad μ s.heap) (big : sysModules < s.heap.objs.size) (e1 : litKs ks = some xs) (e2 : litIs vs = some is) (el : xs.length = is.length) (h0 : xs ≠ []) (nd : xs.Nodup) (hz : xs.length ≤ 16)
    (p : PostG P U fs L (RV P fs) (.ok (.dict (xs.zip (is.map .int))) μ) ad s Q E) : wpAny (model P.prog P.w) A (eval (.Dict ks vs pos) env) Q E s := by
  have kv := kvs_of e1 e2 el
  have k1 := kv.ks.1
  have k2 := kv.ks.2.1
  have kl : ks.length = vs.length := k2.trans kv.ks.2.2.symm
  have hn := pairTrees_length ks vs env pos k1 kl
  have hp0 : pairTrees ks vs env pos ≠ [] := fun q => by
    rw [q] at hn
    exact h0 (List.eq_nil_of_length_eq_zero (by rw [← k2, ← hn]; rfl))
  rw [arm_eval_Dict, zip_pairTrees ks vs env pos k1 kl, dictDisplay_pairs _ hp0 (by omega)]
  refine wpAny_bind (wpAny_standAt (wpAny_bind ?_))
  have d0 : (s.heap.push { cls := .type "dict", data := .dict #[] }).DictOf (strKind P.prog P.w) s.heap.objs.size [] :=
    Heap.DictOf.new _
  by_cases h15 : xs.length ≤ 15
  · refine wpAny_subDict (knd := strKind P.prog P.w) (by omega) (lit_pairs kv fun ps kvs tk r => ?_)
    exact ⟨kvs, r.carries, d0, fun h' hd hs => wpAny_pure (dict_done (h' := h') S r nd hd hs big p)⟩
  · unfold subDict
    refine wpAny_bind (wpAny_alloc (wpAny_bind (wpAny_holding ?_)))
    rw [if_neg (by omega)]
    refine wpAny_bind (wpAny_rule (wpAny_bind ?_))
    refine lit_loop (s := { s with heap := s.heap.push { cls := .type "dict", data := .dict #[] } }) (h1 := s.heap.push { cls := .type "dict", data := .dict #[] }) kv d0 (by simp; omega) (Heap.SameBut.refl _ _) fun h' tk ps kvs r hd hs => ?_
    exact wpAny_pure (wpAny_pure (wpAny_pure (dict_done (h' := h') S r nd hd hs big p)))
end leaf
end Mine
namespace Mine
structure Zc (A : Around) (d : Nat) (fenv : Env) (outer : List Env) (L : Addr) (fs : List Addr) (env : Env) (sc : Scope) : Prop where
  cx : Cx A d fenv outer L fs
  ev : EnvOk env sc L fs
structure St (P : Par) (env : Env) (fs ad : List Addr) (ρ : Rho) (μ : M) (h : Heap) : Prop where
  S : Sim P fs ad μ h
  l : Loc P env fs ad ρ h
theorem St.step {P : Par} {env : Env} {fs ad ad' : List Addr} {ρ : Rho} {μ μ' : M} {h h' : Heap} (t : St P env fs ad ρ μ h) (s : Step [] fs ad ad' h h') (S' : Sim P fs ad' μ' h') (hl : env.locals ∈ fs) : St P env fs ad' ρ μ' h' :=
  ⟨S', t.l.step s hl (by simp)⟩
structure GG (P : Par) (tab : Str → Option DefRec) (cst : Str → Option V) : Prop where
  gf : GF P tab cst
  cf : CF P
  big : ∃ b o, sysModules ≤ b ∧ P.h₀.get? b = some o
  blt : ∀ x ∈ bltNames, P.mg x = none ∧ P.mb x = some (bltFn x)
  rng : P.mg "range" = none ∧ P.mb "range" = some (.type "range")
  enm : P.mg "enumerate" = none ∧ P.mb "enumerate" = some (.type "enumerate")
  lvl : P.mg "Level" = some (.ref P.C)
  exc : P.mg "BasicError" = some (.ref P.B)
  lvlKeep : keepIn P.K (.ref P.C) = true
  excKeep : keepIn P.K (.ref P.B) = true
  make : ∀ {A : Around} {d : Nat} {fenv : Env} {outer : List Env} {L : Addr} {fs ad : List Addr} {μ : M} {s : Shared} {k w : Str} {t u : Tok} {Q : Value → Shared → Prop} {E : Value → Shared → Prop}, Cx A (d + 1) fenv outer L fs → Sim P fs ad μ s.heap →
    PostG P [] fs L (RV P fs) (.ok (.level (.str k) (.str w) μ.length) (μ ++ [[], [], []])) ad s Q E → wpAny (model P.prog P.w) A (call (.ref P.C) [.str k t, .str w u]) Q E s
section
variable (tab : Str → Option DefRec) (cst : Str → Option V) (P : Par)
def SE (n : Nat) : Prop := ∀ {A : Around} {d : Nat} {fenv : Env} {outer : List Env} {L : Addr} {fs : List Addr} {env : Env} {sc : Scope}, Zc A d fenv outer L fs env sc →
  ∀ {ρ : Rho} {μ : M} {e : Expr} {ad : List Addr} {s : Shared} {Q : Value → Shared → Prop} {E : Value → Shared → Prop}, St P env fs ad ρ μ s.heap →
  PostG P [] fs L (RV P fs) (evE tab cst n d sc ρ μ e) ad s Q E → wpAny (model P.prog P.w) A (eval e env) Q E s
def SEs (n : Nat) : Prop := ∀ {A : Around} {d : Nat} {fenv : Env} {outer : List Env} {L : Addr} {fs : List Addr} {env : Env} {sc : Scope}, Zc A d fenv outer L fs env sc →
  ∀ {ρ : Rho} {μ : M} {es : List Expr} {ad : List Addr} {s : Shared} {Q : List Value → Shared → Prop} {E : Value → Shared → Prop}, St P env fs ad ρ μ s.heap →
  PostG P [] fs L (RVs P fs) (evEs tab cst n d sc ρ μ es) ad s Q E → wpAny (model P.prog P.w) A (spliced (es.map fun e => (false, eval e env))) Q E s
def RPart : Heap → List Addr → Option Int → Value → Prop := fun _ _ a v => IsPart v a
def SO (n : Nat) : Prop := ∀ {A : Around} {d : Nat} {fenv : Env} {outer : List Env} {L : Addr} {fs : List Addr} {env : Env} {sc : Scope}, Zc A d fenv outer L fs env sc →
  ∀ {ρ : Rho} {μ : M} {e : Option Expr} {ad : List Addr} {s : Shared} {Q : Value → Shared → Prop} {E : Value → Shared → Prop}, St P env fs ad ρ μ s.heap →
  PostG P [] fs L RPart (evO tab cst n d sc ρ μ e) ad s Q E → wpAny (model P.prog P.w) A (evalPart e env) Q E s
def ST (n : Nat) : Prop := ∀ {A : Around} {d : Nat} {fenv : Env} {outer : List Env} {L : Addr} {fs : List Addr} {env : Env} {sc : Scope}, Zc A d fenv outer L fs env sc →
  ∀ {ρ : Rho} {μ : M} {e : Expr} {ad : List Addr} {s : Shared} {Q : Bool → Shared → Prop} {E : Value → Shared → Prop}, St P env fs ad ρ μ s.heap →
  PostG P [] fs L RB (evT tab cst n d sc ρ μ e) ad s Q E → wpAny (model P.prog P.w) A (isTrue e env (eval e env)) Q E s
def SA (n : Nat) : Prop := ∀ {A : Around} {d : Nat} {fenv : Env} {outer : List Env} {L : Addr} {fs : List Addr} {env : Env} {sc : Scope}, Zc A d fenv outer L fs env sc →
  ∀ {ρ : Rho} {μ : M} {op : BoolOp} {es : List Expr} {ad : List Addr} {s : Shared} {Q : Bool → Shared → Prop} {E : Value → Shared → Prop}, St P env fs ad ρ μ s.heap →
  PostG P [] fs L RB (evA tab cst n d sc ρ μ op es) ad s Q E → wpAny (model P.prog P.w) A (allTrue op es env) Q E s
def SC (n : Nat) : Prop := ∀ {A : Around} {d : Nat} {fenv : Env} {outer : List Env} {L : Addr} {fs : List Addr} {env : Env} {sc : Scope}, Zc A d fenv outer L fs env sc →
  ∀ {ρ : Rho} {μ : M} {pos : Pos} {a : V} {x : Value} {ops : List CmpOp} {rs : List Expr} {ad : List Addr} {s : Shared} {Q : Bool → Shared → Prop} {E : Value → Shared → Prop}, St P env fs ad ρ μ s.heap → Rel P s.heap ad fs a x →
  PostG P [] fs L RB (evC tab cst n d sc ρ μ a ops rs) ad s Q E →
    wpAny (model P.prog P.w) A (compareChain pos x ops (evalEach rs env)) (fun v s => ∃ b, v = .bool b ∧ Q b s) E s ∧ wpAny (model P.prog P.w) A (testChain pos x ops (evalEach rs env)) Q E s
def SCall (n : Nat) : Prop := ∀ {A : Around} {d : Nat} {fenv : Env} {outer : List Env} {L : Addr} {fs : List Addr}, Cx A d fenv outer L fs →
  ∀ {μ : M} {fd : DefRec} {vs : List V} {xs : List Value} {ad : List Addr} {s : Shared} {Q : Value → Shared → Prop} {E : Value → Shared → Prop} {a : Addr} {o : Obj} {pm code doc : Value},
  P.h₀.get? a = some o → o.data = .func (Calls.docDef fd.name fd.params fd.body fd.scope pm code doc) → P.h₀.CodeRec code fd.name →
  Sim P fs ad μ s.heap → RelL P s.heap ad fs vs xs →
  PostG P [] fs L (RV P fs) (evCall tab cst n d μ fd vs) ad s Q E → wpAny (model P.prog P.w) A (call (.ref a) xs) Q E s
end
section
variable {tab : Str → Option DefRec} {cst : Str → Option V} {P : Par} {n : Nat} {A : Around} {d : Nat} {fenv : Env} {outer : List Env} {L : Addr} {fs : List Addr} {env : Env} {sc : Scope} {ρ : Rho} {μ : M} {ad : List Addr} {s : Shared} {E : Value → Shared → Prop}
theorem starEach_plain {es : List Expr} : plainEs es = true → starEach es env = es.map fun e => (false, eval e env) := by
  induction es with
  | nil => exact fun _ => rfl
  | cons e r ih => intro h; cases e <;> first | exact nof h | exact congrArg (_ :: ·) (ih h)
theorem backTo_plain {pos : Pos} (es : List Expr) : backTo pos (es.map fun e => (false, eval e env)) = es.map fun e => (false, eval e env) := by
  unfold backTo
  rw [List.map_map]
  exact List.map_congr_left fun e _ => rfl
theorem args_plain {pos : Pos} {es : List Expr} (h : plainEs es = true) : backTo pos (starEach es env) = es.map fun e => (false, eval e env) := by rw [starEach_plain h, backTo_plain]
theorem args_any {es : List Expr} : (es.map fun e => (false, eval e env)).any (·.1) = false := by induction es with | nil => rfl | cons e r ih => simp
theorem evalArgs_of {f : Value} {es : List Expr} {Q : Args → Shared → Prop} (h : wpAny (model P.prog P.w) A (spliced (es.map fun e => (false, eval e env))) (fun vs s' => Q ⟨vs, []⟩ s') E s) :
    wpAny (model P.prog P.w) A (evalArgs f true (es.map fun e => (false, eval e env)) []) Q E s := by
  cases es with
  | nil =>
    unfold evalArgs
    show wpAny _ A (spliced [] >>= _) Q E s
    refine wpAny_bind (wpAny_mono h (fun vs s' h' => ?_) fun _ _ x => x)
    exact wpAny_bind (wpAny_pure (wpAny_holding (wpAny_bind (wpAny_pure (wpAny_bind (wpAny_pure (wpAny_pure h')))))))
  | cons e r => exact Calls.evalArgs_plain h
theorem ses_succ (he : SE tab cst P n) (hs : SEs tab cst P n) : SEs tab cst P (n + 1) := by
  intro A d fenv outer L fs env sc Z ρ μ es ad s Q E t p
  cases es with
  | nil => exact Calls.spliced_nil (p.same (tk := s.toks) t.S RelL.nil)
  | cons e r =>
    refine Calls.spliced_cons (he Z t (next p fun v μ1 x ad1 h1 tk1 st1 S1 r1 p1 => ?_))
    have t1 := t.step st1 S1 Z.ev.loc
    refine hs Z t1 (next p1 fun vs μ2 xs ad2 h2 tk2 st2 S2 r2 p2 => ?_)
    exact p2.same (tk := tk2) S2 (RelL.cons (r1.carry st2.carry) r2)
end
end Mine
namespace Mine
section
variable {tab : Str → Option DefRec} {cst : Str → Option V} {P : Par} {n : Nat} {A : Around} {d : Nat} {fenv : Env} {outer : List Env} {L : Addr} {fs : List Addr} {env : Env} {sc : Scope} {ρ : Rho} {μ : M} {ad : List Addr} {s : Shared} {E : Value → Shared → Prop} {U : List Addr}
theorem base_carry {h : Heap} (S : Sim P fs ad μ h) : Carry P.h₀ h [] ad [] fs :=
  ⟨fun b o e _ _ _ => S.base b o e, fun b o e _ => S.baseAd e, fun b o e _ => S.baseFs e, fun n a e => by simp at e⟩
theorem global_name {x : Str} {pos : Pos} {v : Value} {Q : Value → Shared → Prop} (G : GF P tab cst) (Z : EnvOk env sc L fs) (S : Sim P fs ad μ s.heap) (hx : isGlobal sc x = true) (hv : P.mg x = some v) (q : Q v s) : wpAny (model P.prog P.w) A (eval (.Name x pos) env) Q E s := by
  simp only [isGlobal, Bool.and_eq_true, beq_iff_eq, Bool.not_eq_true'] at hx
  exact Calls.Name_function_global Z.kind (Z.glob x hx.1) (Calls.loadGlobal_global (by rw [Z.globals]; exact G.g.keeps S.base) hv q) hx.2
theorem builtin_name {x : Str} {pos : Pos} {v : Value} {Q : Value → Shared → Prop} (G : GF P tab cst) (Z : EnvOk env sc L fs) (S : Sim P fs ad μ s.heap) (hx : isGlobal sc x = true) (h0 : P.mg x = none) (hv : P.mb x = some v) (q : Q v s) : wpAny (model P.prog P.w) A (eval (.Name x pos) env) Q E s := by
  simp only [isGlobal, Bool.and_eq_true, beq_iff_eq, Bool.not_eq_true'] at hx
  exact Calls.Name_function_global Z.kind (Z.glob x hx.1) (Calls.loadGlobal_builtin (by rw [Z.globals]; exact G.g.keeps S.base) h0 (by rw [Z.builtins]; exact G.b.keeps S.base) hv q) hx.2
theorem local_name {x : Str} {pos : Pos} {v : V} {Q : Value → Shared → Prop} (Z : EnvOk env sc L fs) (t : St P env fs ad ρ μ s.heap) (hx : (x == ("__debug__" : Str)) = false) (hv : ρ.lookup x = some v) (q : ∀ w, Rel P s.heap ad fs v w → Q w s) : wpAny (model P.prog P.w) A (eval (.Name x pos) env) Q E s := by
  refine el_ea (t.l) fun m hm z => ?_
  refine el_ea (z x v hv) fun w r h => ?_
  rcases h with ⟨k, e⟩ | ⟨k, c, o, e1, e2, e3, e4, e5⟩
  · exact wpAny_Name (wpAny_loadName_local Z.kind k hm e (q w r)) hx
  · exact wpAny_Name (wpAny_loadName_cell Z.kind k e1 ⟨o, e4, e5⟩ (q w r)) hx
theorem name_node {x : Str} {pos : Pos} {Q : Value → Shared → Prop} (G : GG P tab cst) (Z : Zc A d fenv outer L fs env sc) (t : St P env fs ad ρ μ s.heap) (p : PostG P [] fs L (RV P fs) (evE tab cst (n + 1) d sc ρ μ (.Name x pos)) ad s Q E) :
    wpAny (model P.prog P.w) A (eval (.Name x pos) env) Q E s := by
  replace p : PostG P [] fs L (RV P fs) (nameR (x == ("__debug__" : Str)) (sc.names.lookup x) (cst x) (ρ.lookup x) μ) ad s Q E := p
  replace p := p.iteF
  have hd := Bool.not_eq_true _ ▸ p.1
  have loc : PostG P [] fs L (RV P fs) (Out.of μ (ρ.lookup x)) ad s Q E → wpAny (model P.prog P.w) A (eval (.Name x pos) env) Q E s := fun p => by
    cases p.ofO with | mk v h p => exact local_name Z.ev t hd h fun w r => p.same (tk := s.toks) t.S r
  replace p := p.2
  cases hk : sc.names.lookup x with
  | none => rw [hk] at p; exact p.elim
  | some k =>
    rw [hk] at p
    cases k with
    | globalImplicit =>
      cases (show PostG P [] fs L (RV P fs) (Out.of μ (cst x)) ad s Q E from p).ofO with | mk v h p =>
      refine el_ea (G.gf.cst x v h) fun v' e r => ?_
      exact global_name G.gf Z.ev t.S (by simp [isGlobal, hk, hd]) e (p.same (tk := s.toks) t.S (r.carry (base_carry t.S)))
    | «local» => exact loc p
    | cell => exact loc p
    | free => exact loc p
    | _ => exact p.elim
theorem binop_node {l r : Expr} {op : Operator} {pos : Pos} {Q : Value → Shared → Prop} (he : SE tab cst P n) (Z : Zc A d fenv outer L fs env sc) (t : St P env fs ad ρ μ s.heap)
    (p : PostG P [] fs L (RV P fs) ((evE tab cst n d sc ρ μ l).bind fun a μ => (evE tab cst n d sc ρ μ r).bind fun b μ => .of μ (binV μ op a b)) ad s Q E) : wpAny (model P.prog P.w) A (eval (.BinOp l op r pos) env) Q E s := by
  refine wpAny_BinOp (he Z t (next p fun a μ1 x ad1 h1 tk1 st1 S1 r1 p1 => ?_))
  have t1 := t.step st1 S1 Z.ev.loc
  refine he Z t1 (next p1 fun b μ2 y ad2 h2 tk2 st2 S2 r2 p2 => ?_)
  cases p2.ofO with | mk v h p2 => exact binV_ok S2 (r1.carry st2.carry) r2 h p2
theorem unary_node {e : Expr} {op : UnaryOp} {pos : Pos} {Q : Value → Shared → Prop} (he : SE tab cst P n) (Z : Zc A d fenv outer L fs env sc) (t : St P env fs ad ρ μ s.heap)
    (p : PostG P [] fs L (RV P fs) ((evE tab cst n d sc ρ μ e).bind fun a μ => .of μ (unV op a)) ad s Q E) : wpAny (model P.prog P.w) A (eval (.UnaryOp op e pos) env) Q E s := by
  refine wpAny_UnaryOp (he Z t (next p fun a μ1 x ad1 h1 tk1 st1 S1 r1 p1 => ?_))
  cases p1.ofO with | mk v h p1 => exact unV_ok S1 r1 h p1
theorem ifexp_node {c a b : Expr} {pos : Pos} {Q : Value → Shared → Prop} (he : SE tab cst P n) (ht : ST tab cst P n) (Z : Zc A d fenv outer L fs env sc) (t : St P env fs ad ρ μ s.heap)
    (p : PostG P [] fs L (RV P fs) ((evT tab cst n d sc ρ μ c).bind fun q μ => if q then evE tab cst n d sc ρ μ a else evE tab cst n d sc ρ μ b) ad s Q E) : wpAny (model P.prog P.w) A (eval (.IfExp c a b pos) env) Q E s := by
  refine wpAny_IfExp (ht Z t (next p fun q μ1 x ad1 h1 tk1 st1 S1 r1 p1 => ?_))
  have t1 := t.step st1 S1 Z.ev.loc
  cases r1
  cases q with
  | true => exact he Z t1 p1
  | false => exact he Z t1 p1
theorem tuple_node {es : List Expr} {k : Nat} {pos : Pos} {Q : Value → Shared → Prop} (hs : SEs tab cst P n) (Z : Zc A d fenv outer L fs env sc) (t : St P env fs ad ρ μ s.heap) (hp : plainEs es = true)
    (p : PostG P [] fs L (RV P fs) ((evEs tab cst n d sc ρ μ es).bind fun vs μ => if vs.length ≤ maxLen then .ok (.tup vs) μ else .no) ad s Q E) : wpAny (model P.prog P.w) A (eval (.Tuple es k pos) env) Q E s := by
  refine Tuple_ ?_
  rw [args_plain hp]
  refine hs Z t (next p fun vs μ1 xs ad1 h1 tk1 st1 S1 r1 p1 => ?_)
  exact wpAny_newObj_type (p1.iteT.2.newTup (tk := tk1) S1 r1) (by show xs.toArray.size ≤ sizeLine; rw [List.size_toArray, r1.length]; exact maxLen_le p1.iteT.1)
theorem Sim.newCell {h : Heap} {l : List V} {xs : List Value} (S : Sim P fs ad μ h) (r : RelL P h ad fs l xs) :
    Sim P fs (ad ++ [h.objs.size]) (μ ++ [l]) (h.push { cls := .type "list", data := .seq xs.toArray }) ∧ Step U fs ad (ad ++ [h.objs.size]) h (h.push { cls := .type "list", data := .seq xs.toArray }) := by
  have k := push_keeps (h := h) { cls := .type "list", data := .seq xs.toArray }
  have fr : ∀ {b : Addr} {o : Obj}, h.get? b = some o → b ≠ h.objs.size := fun e => Nat.ne_of_lt (Heap.lt_size e)
  have st : Step U fs ad (ad ++ [h.objs.size]) h (h.push { cls := .type "list", data := .seq xs.toArray }) := by
    refine ⟨⟨[h.objs.size], rfl, fun a q => ?_⟩, fun b o e _ _ => k b o e, fun b _ _ => .of_keep (k b), fun b _ m n => ⟨m, n.keeps k⟩, fun b o e => ⟨o, k b o e⟩⟩
    obtain rfl := List.mem_singleton.mp q
    cases q : h.get? h.objs.size with
    | none => rfl
    | some o => exact absurd (Heap.lt_size q) (Nat.lt_irrefl _)
  refine ⟨⟨fun b o e => k b o (S.base b o e), by simp [S.len], ?_, fun i a l' e1 e2 => ?_, fun a ha => ?_, S.fsNew, fun a ha => let ⟨o, e, n⟩ := S.fsAt a ha; ⟨o, k _ _ e, n⟩, fun a ha => ?_⟩, st⟩
  · exact List.nodup_append.mpr ⟨S.nd, by simp, fun a ha b hb e => S.newAd (by rw [List.mem_singleton] at hb; rw [← hb, ← e]; exact ha)⟩
  · by_cases hi : i < ad.length
    · rw [List.getElem?_append_left hi] at e1
      rw [List.getElem?_append_left (by rw [← S.len]; exact hi)] at e2
      refine el_ea (S.cell i a l' e1 e2) fun items hn1n101 z => ?_; obtain ⟨m, e⟩ := hn1n101
      exact ⟨items, ⟨m, k _ _ e⟩, z.carry st.carry⟩
    · rw [List.getElem?_append_right (by omega)] at e1
      rw [List.getElem?_append_right (by rw [← S.len]; omega)] at e2
      have h0 : i - ad.length = 0 := by
        have := (List.getElem?_eq_some_iff.mp e1).1
        simp at this; omega
      rw [h0] at e1
      rw [← S.len, h0] at e2
      cases e1; cases e2
      exact ⟨xs.toArray, ⟨_, Heap.get?_push_size _ rfl⟩, by simpa using r.carry st.carry⟩
  · rcases List.mem_append.mp ha with ha | ha
    · exact S.adNew a ha
    · obtain rfl := List.mem_singleton.mp ha
      cases q : P.h₀.get? h.objs.size with
      | none => rfl
      | some o => exact absurd (Heap.lt_size (S.base _ _ q)) (Nat.lt_irrefl _)
  · rcases List.mem_append.mp ha with ha | ha
    · exact S.dj a ha
    · obtain rfl := List.mem_singleton.mp ha
      exact S.newFs
theorem list_node {es : List Expr} {pos : Pos} {Q : Value → Shared → Prop} (hs : SEs tab cst P n) (Z : Zc A d fenv outer L fs env sc) (t : St P env fs ad ρ μ s.heap) (hp : plainEs es = true)
    (p : PostG P [] fs L (RV P fs) ((evEs tab cst n d sc ρ μ es).bind fun vs μ => if vs.length ≤ maxLen then (if turns es then .ok (.ref μ.length) (μ ++ [vs]) else .ok (.lst vs) μ) else .no) ad s Q E) : wpAny (model P.prog P.w) A (eval (.List es pos) env) Q E s := by
  refine List_ ?_
  rw [args_plain hp]
  refine hs Z t (next p fun vs μ1 xs ad1 h1 tk1 st1 S1 r1 p1 => ?_)
  refine wpAny_newObj_type ?_ (by show xs.toArray.size ≤ sizeLine; rw [List.size_toArray, r1.length]; exact maxLen_le p1.iteT.1)
  replace p1 := p1.iteT.2
  by_cases q : turns es = true
  · rw [if_pos q] at p1
    exact p1 _ _ _ tk1 (S1.newCell (U := []) r1).2 (S1.newCell (U := []) r1).1 (.ref (by rw [← S1.len]; simp))
  · rw [if_neg q] at p1
    exact p1.newLst (tk := tk1) S1 r1
theorem attr_node {o : Expr} {x : Str} {pos : Pos} {Q : Value → Shared → Prop} (G : CF P) (he : SE tab cst P n) (Z : Zc A d fenv outer L fs env sc) (t : St P env fs ad ρ μ s.heap) (hb : attributeBase o x env (eval o env) = eval o env)
    (p : PostG P [] fs L (RV P fs) ((evE tab cst n d sc ρ μ o).bind fun a μ => .of μ (attrV a x)) ad s Q E) : wpAny (model P.prog P.w) A (eval (.Attribute o x pos) env) Q E s := by
  refine Attribute_any_ (he Z t (next p fun a μ1 v ad1 h1 tk1 st1 S1 r1 p1 => ?_)) (by rw [arm_eval_Attribute, hb])
  cases p1.ofO with | mk v h p1 => exact attrV_ok G S1 r1 h p1
theorem sub_node {o i : Expr} {pos : Pos} {Q : Value → Shared → Prop} (he : SE tab cst P n) (Z : Zc A d fenv outer L fs env sc) (t : St P env fs ad ρ μ s.heap) (hs : ∀ a b, subscripted i false a b = operate [a, b] (getItem a b))
    (p : PostG P [] fs L (RV P fs) ((evE tab cst n d sc ρ μ o).bind fun a μ => (evE tab cst n d sc ρ μ i).bind fun b μ => .of μ (idxV μ a b)) ad s Q E) : wpAny (model P.prog P.w) A (eval (.Subscript o i pos) env) Q E s := by
  refine Subscript_ (he Z t (next p fun a μ1 x ad1 h1 tk1 st1 S1 r1 p1 => ?_))
  have t1 := t.step st1 S1 Z.ev.loc
  refine he Z t1 (next p1 fun b μ2 y ad2 h2 tk2 st2 S2 r2 p2 => ?_)
  cases p2.ofO with | mk v h p2 => exact idxV_ok S2 (r1.carry st2.carry) r2 h (hs _ _) p2
theorem so_succ (he : SE tab cst P n) : SO tab cst P (n + 1) := by
  intro A d fenv outer L fs env sc Z ρ μ e ad s Q E t p
  cases e with
  | none => exact wpAny_pure (p.same (tk := s.toks) t.S .none)
  | some e =>
    refine he Z t (next p fun a μ1 x ad1 h1 tk1 st1 S1 r1 p1 => ?_)
    replace p1 := p1.intK
    cases p1 with | mk i p1 => cases r1.inv with | mk u => exact p1.same (tk := tk1) S1 (.int i u)
inductive NameOk (P : Par) (U fs : List Addr) (L : Addr) {α β : Type} (R : Heap → List Addr → α → β → Prop) (ad : List Addr) (s : Shared) (Q : β → Shared → Prop) (E : Value → Shared → Prop) (μ : M) (o : Out V) (f : V → M → Out α) : Prop
  | mk (v : V) (h : o = .ok v μ) (p : PostG P U fs L R (f v μ) ad s Q E) : NameOk P U fs L R ad s Q E μ o f
theorem of_ok {α β : Type} {R : Heap → List Addr → α → β → Prop} {Q : β → Shared → Prop} {q : Option V} {f : V → M → Out α} (p : PostG P U fs L R ((Out.of μ q).bind f) ad s Q E) : NameOk P U fs L R ad s Q E μ (Out.of μ q) f := by
  cases q with
  | none => exact p.elim
  | some v => exact ⟨v, rfl, p⟩
theorem nameR_ok {α β : Type} {R : Heap → List Addr → α → β → Prop} {Q : β → Shared → Prop} {b : Bool} {k : Option NameKind} {c l : Option V} {f : V → M → Out α} (p : PostG P U fs L R ((nameR b k c l μ).bind f) ad s Q E) : NameOk P U fs L R ad s Q E μ (nameR b k c l μ) f := by
  cases b with
  | true => exact p.elim
  | false => cases k with
    | none => exact p.elim
    | some k => cases k <;> first | exact p.elim | exact of_ok p
theorem name_ok {α β : Type} {R : Heap → List Addr → α → β → Prop} {Q : β → Shared → Prop} {y : Str} {yp : Pos} {f : V → M → Out α} (p : PostG P U fs L R ((evE tab cst n d sc ρ μ (.Name y yp)).bind f) ad s Q E) : NameOk P U fs L R ad s Q E μ (evE tab cst n d sc ρ μ (.Name y yp)) f := by
  cases n with
  | zero => exact p.elim
  | succ n => exact nameR_ok p
inductive SlI : V → Prop
  | lst (l : List V) (h : l.length ≤ maxLen) : SlI (.lst l)
  | str (s : Str) (h : s.length ≤ maxLen) : SlI (.str s)
theorem slOk_inv {a : V} (h : slOk a = true) : SlI a := by
  cases a with
  | lst l => exact .lst l (of_decide_eq_true h)
  | str l => exact .str l (of_decide_eq_true h)
  | _ => exact nof h
inductive PartI (v : Value) (q : Option Int) : Prop
  | mk (l : Option (Int × Tok)) (e : v = partValue l) (f : l.map (·.1) = q) : PartI v q
theorem part_inv {v : Value} {q : Option Int} (h : IsPart v q) : PartI v q := by
  cases h with
  | none => exact ⟨none, rfl, rfl⟩
  | int i t => exact ⟨some (i, t), rfl, rfl⟩
theorem slice_lst {y : Str} {yp pos sp : Pos} {lo hi : Option Expr} {l : List V} {Q : Value → Shared → Prop} (he : SE tab cst P n) (ho : SO tab cst P n) (Z : Zc A d fenv outer L fs env sc) (t : St P env fs ad ρ μ s.heap) (h : evE tab cst n d sc ρ μ (.Name y yp) = .ok (.lst l) μ) (hz : l.length ≤ maxLen)
    (p : PostG P [] fs L (RV P fs) ((evO tab cst n d sc ρ μ lo).bind fun i μ => (evO tab cst n d sc ρ μ hi).bind fun j μ => .of μ (sliceV (.lst l) i j)) ad s Q E) :
    wpAny (model P.prog P.w) A (eval (.Subscript (.Name y yp) (.Slice lo hi none sp) pos) env) Q E s := by
  refine wpAny_Subscript_list_slice (he Z t ?_)
  rw [h]
  intro x ad1 h1 tk1 st1 S1 r1
  have t1 := t.step st1 S1 Z.ev.loc
  refine ho Z t1 (next (p.after st1) fun i μ2 y ad2 h2 tk2 st2 S2 r2 p2 => ?_)
  have t2 := t1.step st2 S2 Z.ev.loc
  refine ho Z t2 (next p2 fun j μ3 z ad3 h3 tk3 st3 S3 r3 p3 => ?_)
  cases ((r1.carry st2.carry).carry st3.carry).inv with | @mk a' items hl ha' hf rl =>
  have e1 := rl.length
  rw [Array.length_toList] at e1
  refine ⟨a', items, i, j, rfl, hl, maxLen_le (by rw [e1]; exact hz), r2, r3, ?_⟩
  have k1 := push_keeps (h := h3) { cls := .type "slice", data := .fields #[y, z, .none] }
  have S4 := S3.keeps k1
  have p4 := (show PostG P [] fs L (RV P fs) (.ok (.lst ((sliceRange (sliceBounds i j none l.length).1 (sliceBounds i j none l.length).2.1 (sliceBounds i j none l.length).2.2).filterMap (l[·]?))) μ3) ad3 _ Q E from p3).after (Step.of_keeps (U := []) (fs := fs) (ad := ad3) k1) (tk1 := tk3)
  have := p4.newLst (tk := tk3) S4 ((rl.carry (Carry.of_keeps k1)).pick (sliceRange (sliceBounds i j none l.length).1 (sliceBounds i j none l.length).2.1 (sliceBounds i j none l.length).2.2))
  rw [Heap.size_push] at this
  rw [← e1] at this
  exact this
theorem slice_txt {y : Str} {yp pos sp : Pos} {lo hi : Option Expr} {z : Str} {Q : Value → Shared → Prop} (he : SE tab cst P n) (ho : SO tab cst P n) (Z : Zc A d fenv outer L fs env sc) (t : St P env fs ad ρ μ s.heap) (h : evE tab cst n d sc ρ μ (.Name y yp) = .ok (.str z) μ)
    (p : PostG P [] fs L (RV P fs) ((evO tab cst n d sc ρ μ lo).bind fun i μ => (evO tab cst n d sc ρ μ hi).bind fun j μ => .of μ (sliceV (.str z) i j)) ad s Q E) :
    wpAny (model P.prog P.w) A (eval (.Subscript (.Name y yp) (.Slice lo hi none sp) pos) env) Q E s := by
  refine wpAny_Subscript_str_slice (he Z t ?_)
  rw [h]
  intro x ad1 h1 tk1 st1 S1 r1
  have t1 := t.step st1 S1 Z.ev.loc
  refine ho Z t1 (next (p.after st1) fun i μ2 y ad2 h2 tk2 st2 S2 r2 p2 => ?_)
  have t2 := t1.step st2 S2 Z.ev.loc
  refine ho Z t2 (next p2 fun j μ3 w ad3 h3 tk3 st3 S3 r3 p3 => ?_)
  cases r1.inv with | mk u =>
  cases part_inv r2 with | mk l1 e1 f1 =>
  cases part_inv r3 with | mk l2 e2 f2 =>
  refine ⟨z, u, l1, l2, rfl, e1, e2, ?_⟩
  subst f1 f2
  have k1 := push_keeps (h := h3) { cls := .type "slice", data := .fields #[y, w, .none] }
  cases p3.ofO with | mk v hv p3 =>
  refine ite_none hv fun hm e => ?_
  subst e
  exact slice_str (S3.keeps k1) (PostG.after p3 (Step.of_keeps (U := []) k1) (tk1 := tk3)) (Nat.le_of_not_lt hm)
theorem slice_node {y : Str} {yp pos sp : Pos} {lo hi : Option Expr} {Q : Value → Shared → Prop} (he : SE tab cst P n) (ho : SO tab cst P n) (Z : Zc A d fenv outer L fs env sc) (t : St P env fs ad ρ μ s.heap)
    (p : PostG P [] fs L (RV P fs) ((evE tab cst n d sc ρ μ (.Name y yp)).bind fun a μ => if !slOk a then .no else (evO tab cst n d sc ρ μ lo).bind fun i μ => (evO tab cst n d sc ρ μ hi).bind fun j μ => .of μ (sliceV a i j)) ad s Q E) :
    wpAny (model P.prog P.w) A (eval (.Subscript (.Name y yp) (.Slice lo hi none sp) pos) env) Q E s := by
  cases name_ok p with | mk v h p =>
  replace p := p.iteF
  have q := slOk_inv (a := v) (by simpa using p.1)
  replace p := p.2
  cases q with
  | lst l hz => exact slice_lst he ho Z t h hz p
  | str z hz => exact slice_txt he ho Z t h p
end
end Mine
namespace Mine
section
variable {tab : Str → Option DefRec} {cst : Str → Option V} {P : Par} {n : Nat} {A : Around} {d : Nat} {fenv : Env} {outer : List Env} {L : Addr} {fs : List Addr} {env : Env} {sc : Scope} {ρ : Rho} {μ : M} {ad : List Addr} {s : Shared} {E : Value → Shared → Prop} {U : List Addr}
inductive OfOk (P : Par) (U fs : List Addr) (L : Addr) {α β γ : Type} (R : Heap → List Addr → α → β → Prop) (ad : List Addr) (s : Shared) (Q : β → Shared → Prop) (E : Value → Shared → Prop) (μ : M) (o : Option γ) (f : γ → M → Out α) : Prop
  | mk (v : γ) (h : o = some v) (p : PostG P U fs L R (f v μ) ad s Q E) : OfOk P U fs L R ad s Q E μ o f
theorem of_ok' {α β γ : Type} {R : Heap → List Addr → α → β → Prop} {Q : β → Shared → Prop} {q : Option γ} {f : γ → M → Out α} (p : PostG P U fs L R ((Out.of μ q).bind f) ad s Q E) : OfOk P U fs L R ad s Q E μ q f := by
  cases q with
  | none => exact p.elim
  | some v => exact ⟨v, rfl, p⟩
theorem bind_ok {α : Type} (o : Out α) : o.bind (fun c μ => .ok c μ) = o := by cases o <;> rfl
theorem cmp_step {op : CmpOp} {a b : V} {x y : Value} {Q : Value → Shared → Prop} (S : Sim P fs ad μ s.heap) (ra : Rel P s.heap ad fs a x) (rb : Rel P s.heap ad fs b y) (hu : A.units + 500 < cLine) {α β : Type} {R : Heap → List Addr → α → β → Prop} {Q₂ : β → Shared → Prop} {k : Bool → M → Out α}
    (p : PostG P [] fs L R ((Out.of μ (cmpV op a b)).bind k) ad s Q₂ E)
    (q : ∀ c ad1 h1 tk1, Step [] fs ad ad1 s.heap h1 → Sim P fs ad1 μ h1 → PostG P [] fs L R (k c μ) ad1 { s with heap := h1, toks := tk1 } Q₂ E → Q (.bool c) { s with heap := h1, toks := tk1 }) :
    wpAny (model P.prog P.w) A (compareOp op x y) Q E s := by
  cases of_ok' p with | mk c h p =>
  refine cmpV_ok (U := []) (L := L) S ra rb h hu fun w ad1 h1 tk1 st1 S1 r1 => ?_
  cases r1.inv
  exact q c ad1 h1 tk1 st1 S1 (PostG.after p st1)
theorem sc_succ (he : SE tab cst P n) (hc : SC tab cst P n) : SC tab cst P (n + 1) := by
  intro A d fenv outer L fs env sc Z ρ μ pos a x ops rs ad s Q E t ra p
  cases ops with
  | nil => exact p.elim
  | cons op ops => cases ops with
    | nil => cases rs with
      | nil => exact p.elim
      | cons r rs => cases rs with
        | nil =>
          constructor
          · refine chain_last (he Z t (next p fun b μ1 y ad1 h1 tk1 st1 S1 r1 p1 => ?_))
            refine cmp_step (k := fun c μ => .ok c μ) S1 (ra.carry st1.carry) r1 Z.cx.cunits (by rw [bind_ok]; exact p1) fun c ad2 h2 tk2 st2 S2 p2 => ?_
            exact ⟨c, rfl, p2.same (tk := tk2) S2 rfl⟩
          · refine test_last (he Z t (next p fun b μ1 y ad1 h1 tk1 st1 S1 r1 p1 => ?_))
            refine cmp_step (k := fun c μ => .ok c μ) S1 (ra.carry st1.carry) r1 Z.cx.cunits (by rw [bind_ok]; exact p1) fun c ad2 h2 tk2 st2 S2 p2 => ?_
            exact wpAny_truthy_bool (p2.same (tk := tk2) S2 rfl)
        | cons _ _ => exact p.elim
    | cons op' ops => cases rs with
      | nil => exact p.elim
      | cons r rs => cases rs with
        | nil => exact p.elim
        | cons r' rs =>
          constructor
          · refine chain_link (he Z t (next p fun b μ1 y ad1 h1 tk1 st1 S1 r1 p1 => ?_))
            have t1 := t.step st1 S1 Z.ev.loc
            refine cmp_step S1 (ra.carry st1.carry) r1 Z.cx.cunits p1 fun c ad2 h2 tk2 st2 S2 p2 => ?_
            refine wpAny_truthy_bool ?_
            have t2 := t1.step st2 S2 Z.ev.loc
            cases c with
            | true => exact (hc Z t2 (r1.carry st2.carry) p2).1
            | false => exact ⟨false, rfl, p2.same (tk := tk2) S2 rfl⟩
          · refine test_link (he Z t (next p fun b μ1 y ad1 h1 tk1 st1 S1 r1 p1 => ?_))
            have t1 := t.step st1 S1 Z.ev.loc
            refine cmp_step S1 (ra.carry st1.carry) r1 Z.cx.cunits p1 fun c ad2 h2 tk2 st2 S2 p2 => ?_
            refine wpAny_truthy_bool ?_
            have t2 := t1.step st2 S2 Z.ev.loc
            cases c with
            | true => exact (hc Z t2 (r1.carry st2.carry) p2).2
            | false => exact p2.same (tk := tk2) S2 rfl
theorem compare_node {l : Expr} {ops : List CmpOp} {rs : List Expr} {pos : Pos} {Q : Value → Shared → Prop} (he : SE tab cst P n) (hc : SC tab cst P n) (Z : Zc A d fenv outer L fs env sc) (t : St P env fs ad ρ μ s.heap) (hm : lastMarks ops rs = false)
    (p : PostG P [] fs L (RV P fs) ((evE tab cst n d sc ρ μ l).bind fun a μ => (evC tab cst n d sc ρ μ a ops rs).bind fun b μ => .ok (.bool b) μ) ad s Q E) : wpAny (model P.prog P.w) A (eval (.Compare l ops rs pos) env) Q E s := by
  show wpAny _ A (do compareChain pos (← eval l env) ops (markedEach ops rs (evalEach rs env))) Q E s
  rw [markedEach_of_false _ _ _ hm]
  refine wpAny_bind (he Z t (next p fun a μ1 x ad1 h1 tk1 st1 S1 r1 p1 => ?_))
  have t1 := t.step st1 S1 Z.ev.loc
  have := (hc Z (pos := pos) t1 r1 (next (Q := fun b s => Q (.bool b) s) p1 fun b μ2 c ad2 h2 tk2 st2 S2 r2 p2 => by cases r2; exact p2.bool S2 (tk := tk2))).1
  exact wpAny_mono this (fun v s' ⟨b, e, q⟩ => by rw [e]; exact q) fun _ _ x => x
theorem test_node {l : Expr} {ops : List CmpOp} {rs : List Expr} {pos : Pos} {Q : Bool → Shared → Prop} {whole : Sem Value} (he : SE tab cst P n) (hc : SC tab cst P n) (Z : Zc A d fenv outer L fs env sc) (t : St P env fs ad ρ μ s.heap) (hm : lastMarks ops rs = false)
    (p : PostG P [] fs L RB ((evE tab cst n d sc ρ μ l).bind fun a μ => evC tab cst n d sc ρ μ a ops rs) ad s Q E) : wpAny (model P.prog P.w) A (isTrue (.Compare l ops rs pos) env whole) Q E s := by
  rw [arm_isTrue_Compare, markedEach_of_false _ _ _ hm]
  refine wpAny_bind (he Z t (next p fun a μ1 x ad1 h1 tk1 st1 S1 r1 p1 => ?_))
  exact (hc Z (t.step st1 S1 Z.ev.loc) r1 p1).2
theorem sa_succ (ht : ST tab cst P n) (ha : SA tab cst P n) : SA tab cst P (n + 1) := by
  intro A d fenv outer L fs env sc Z ρ μ op es ad s Q E t p
  cases es with
  | nil => exact wpAny_pure (p.same (tk := s.toks) t.S rfl)
  | cons e r =>
    cases op with
    | And =>
      refine wpAny_allTrue_And_cons (ht Z t (next p fun b μ1 x ad1 h1 tk1 st1 S1 r1 p1 => ?_))
      cases r1
      cases b with
      | true => exact ha Z (t.step st1 S1 Z.ev.loc) p1
      | false => exact p1.same (tk := tk1) S1 rfl
    | Or =>
      refine wpAny_allTrue_Or_cons (ht Z t (next p fun b μ1 x ad1 h1 tk1 st1 S1 r1 p1 => ?_))
      cases r1
      cases b with
      | true => exact p1.same (tk := tk1) S1 rfl
      | false => exact ha Z (t.step st1 S1 Z.ev.loc) p1
theorem truth_node {e : Expr} {Q : Bool → Shared → Prop} (he : SE tab cst P n) (Z : Zc A d fenv outer L fs env sc) (t : St P env fs ad ρ μ s.heap) (h : isTrue e env (eval e env) = (do let v ← eval e env; standAt e.pos; holding [v] (truthy v)))
    (p : PostG P [] fs L RB ((evE tab cst n d sc ρ μ e).bind fun v μ => .of μ (truthV v)) ad s Q E) : wpAny (model P.prog P.w) A (isTrue e env (eval e env)) Q E s := by
  refine wpAny_isTrue_value (he Z t (next p fun a μ1 x ad1 h1 tk1 st1 S1 r1 p1 => ?_)) h
  cases p1.ofO with | mk b q p1 => exact truthV_ok S1 r1 q p1
theorem st_succ (he : SE tab cst P n) (ht : ST tab cst P n) (ha : SA tab cst P n) (hc : SC tab cst P n) : ST tab cst P (n + 1) := by
  intro A d fenv outer L fs env sc Z ρ μ e ad s Q E t p
  cases e with
  | UnaryOp op x pos =>
    cases op with
    | Not =>
      refine wpAny_isTrue_Not (ht Z t (next p fun b μ1 x ad1 h1 tk1 st1 S1 r1 p1 => ?_))
      cases r1
      exact p1.same (tk := tk1) S1 rfl
    | _ => exact truth_node he Z t rfl p
  | BoolOp op es pos => exact wpAny_isTrue_BoolOp (ha Z t p)
  | IfExp a b c pos => exact False.elim p
  | Compare l ops rs pos =>
    replace p : PostG P [] fs L RB (if lastMarks ops rs then .no else (evE tab cst n d sc ρ μ l).bind fun a μ => evC tab cst n d sc ρ μ a ops rs) ad s Q E := p
    exact test_node he hc Z t (by simpa using p.iteF.1) p.iteF.2
  | _ => exact truth_node he Z t rfl p
end
end Mine
namespace Mine
section
variable {tab : Str → Option DefRec} {cst : Str → Option V} {P : Par} {n : Nat} {A : Around} {d : Nat} {fenv : Env} {outer : List Env} {L : Addr} {fs : List Addr} {env : Env} {sc : Scope} {ρ : Rho} {μ : M} {ad : List Addr} {s : Shared} {E : Value → Shared → Prop} {U : List Addr}
theorem bind_inv {α β : Type} {o : Out α} {f : α → M → Out β} {b : β} {μ' : M} {G : Prop} (h : o.bind f = .ok b μ') (k : ∀ a μ1, o = .ok a μ1 → f a μ1 = .ok b μ' → G) : G := by
  cases o with
  | ok a μ1 => exact k a μ1 rfl h
  | exc _ _ => cases (show Out.exc _ _ = Out.ok b μ' from h)
  | no => cases (show Out.no = Out.ok b μ' from h)
theorem ok_inj {α : Type} {a b : α} {μ μ' : M} (h : Out.ok a μ = Out.ok b μ') : a = b := by cases h; rfl
theorem evEs_length {n : Nat} {es : List Expr} : ∀ {μ μ' : M} {vs : List V}, evEs tab cst n d sc ρ μ es = .ok vs μ' → vs.length = es.length := by
  induction n generalizing es with
  | zero => intro μ μ' vs h; cases (show Out.no = Out.ok vs μ' from h)
  | succ n ih =>
    intro μ μ' vs h
    cases es with
    | nil => exact ok_inj h ▸ rfl
    | cons e r => exact bind_inv h fun v μ1 _ h => bind_inv h fun ws μ2 h2 h => ok_inj h ▸ congrArg (· + 1) (ih h2)
theorem rep_fold (xs : List Value) (m : Nat) : ∀ (acc : List Value), List.foldl (fun x1 x2 => x1 ++ x2) acc.toArray (List.replicate m xs.toArray) = (acc ++ (List.replicate m xs).flatten).toArray := by
  induction m with
  | zero => intro acc; simp
  | succ m ih =>
    intro acc
    rw [List.replicate_succ, List.foldl_cons, List.replicate_succ, List.flatten_cons]
    have := ih (acc ++ xs)
    simp only [List.append_toArray] at this ⊢
    rw [this, List.append_assoc]
theorem rep_eq {xs : List Value} (hx : xs.toArray.isEmpty = false) (m : Nat) : (List.replicate m xs).flatten.toArray = List.foldl (fun x1 x2 => x1 ++ x2) #[] (List.replicate (if xs.toArray.isEmpty = true then 0 else m) xs.toArray) := by
  rw [hx, if_neg (by decide)]
  have := rep_fold xs m []
  simpa using this.symm
theorem rep_ok {es : Bool} {j : Int} {e : Bool} (h : (!es && decide (0 ≤ j) && decide (j ≤ 1000) && !e) = true) : 0 ≤ j ∧ j ≤ 1000 ∧ e = false := by
  simp only [Bool.and_eq_true, Bool.not_eq_true', decide_eq_true_eq] at h
  exact ⟨h.1.1.2, h.1.2, h.2⟩
theorem rep_bounds {n : Nat} {j : Int} (hn : n ≤ 10) (h0 : 0 ≤ j) (h1 : j ≤ 1000) : n * j.toNat ≤ 10000 := by
  have : n * j.toNat ≤ 10 * 1000 := Nat.mul_le_mul hn (by omega)
  omega
theorem rep_list {xs : List Value} {a : Addr} {j : Int} {u : Tok} {Q : Value → Shared → Prop} (ho : s.heap.get? a = some { cls := .type "list", data := .seq xs.toArray }) (hn : xs.length ≤ 10) (h0 : 0 ≤ j) (h1 : j ≤ 1000) (hx : xs.toArray.isEmpty = false)
    (q : Q (.ref s.heap.objs.size) { s with heap := s.heap.push { cls := .type "list", data := .seq (List.replicate j.toNat xs).flatten.toArray } }) : wpAny (model P.prog P.w) A (binaryOp .Mult (.ref a) (.int j u)) Q E s := by
  have h2 : xs.toArray.size * j.toNat ≤ 10000 := rep_bounds (by rw [List.size_toArray]; exact hn) h0 h1
  refine wpAny_binaryOp_repeat_ref (T := "list") (U := "int") (by decide) ⟨_, ho, rfl⟩ (fun s' => typeIs_int s' j u) noFill_list_mul F.fills_int_mul F.slot_int_rmul repeat_list F.slot_int_index.lookup
    (call_meets F.slot_int_rmul (typeIs_int _ j u) F.entry_int_rmul (F.args_int_rmul_2 _ _) (int___rmul___int_list j u a xs.toArray 0)
      ⟨ho, rfl, ⟨_, ho, rfl⟩, call_meets F.slot_list_mul ⟨_, ho, rfl⟩ F.entry_list_mul (F.args_list_mul_2 _ _)
        (AutoListH.list___mul___list_int_3 a xs.toArray 0 j u (by simp [Builtin.List.listFitsIndex]; omega) (by omega) (by simp [Builtin.List.listTooLong, sizeLine]; simp at h2; omega))
        ⟨ho, ?_⟩⟩)
  rw [rep_eq hx] at q
  exact q
theorem repeat_node {es : List Expr} {r : Expr} {pos lp : Pos} {Q : Value → Shared → Prop} (he : SE tab cst P n) (hs : SEs tab cst P n) (Z : Zc A d fenv outer L fs env sc) (t : St P env fs ad ρ μ s.heap) (hp : plainEs es = true) (hz : es.length ≤ 10)
    (p : PostG P [] fs L (RV P fs) ((evEs tab cst n d sc ρ μ es).bind fun vs μ => (evE tab cst n d sc ρ μ r).bind fun b μ => (match b with
        | .int j => if !turns es && decide (0 ≤ j) && decide (j ≤ 1000) && !vs.isEmpty then .ok (.lst (List.replicate j.toNat vs).flatten) μ else .no
        | _ => .no)) ad s Q E) : wpAny (model P.prog P.w) A (eval (.BinOp (.List es lp) .Mult r pos) env) Q E s := by
  refine wpAny_BinOp (List_ ?_)
  rw [args_plain hp]
  refine hs Z t (nextE p fun vs μ1 xs ad1 h1 tk1 eq st1 S1 r1 p1 => ?_)
  have t1 := t.step st1 S1 Z.ev.loc
  have hz : vs.length ≤ 10 := by rw [evEs_length eq]; exact hz
  have hx' : xs.length ≤ 10 := by rw [r1.length]; exact hz
  refine wpAny_newObj_type ?_ (by show xs.toArray.size ≤ sizeLine; rw [List.size_toArray, sizeLine_eq]; omega)
  have k := push_keeps (h := h1) { cls := .type "list", data := .seq xs.toArray }
  have st2 : Step [] fs ad1 ad1 h1 (h1.push { cls := .type "list", data := .seq xs.toArray }) := .of_keeps k
  have S2 := S1.keeps k
  refine he Z (t1.step st2 S2 Z.ev.loc) (next (PostG.after p1 st2 (tk1 := tk1)) fun b μ3 y ad3 h3 tk3 st3 S3 r3 p3 => ?_)
  replace p3 := p3.intK
  cases p3 with | mk j p3 =>
  have h := rep_ok p3.iteT.1
  cases r3.inv with | mk u =>
  have ho : h3.get? h1.objs.size = some { cls := .type "list", data := .seq xs.toArray } := st3.keep _ _ (Heap.get?_push_size _ rfl) (fun q => S1.newAd q) S1.newFs
  refine rep_list ho hx' h.1 h.2.1 ?_ (p3.iteT.2.newLst (tk := tk3) S3 (((r1.carry st2.carry).carry st3.carry).flatten j.toNat))
  have e1 := r1.length
  have hne := h.2.2
  cases xs with
  | nil => cases vs with
    | nil => cases hne
    | cons _ _ => cases e1
  | cons _ _ => rfl
end
end Mine
namespace Mine
section
variable {tab : Str → Option DefRec} {cst : Str → Option V} {P : Par} {n : Nat} {A : Around} {d : Nat} {fenv : Env} {outer : List Env} {L : Addr} {fs : List Addr} {env : Env} {sc : Scope} {ρ : Rho} {μ : M} {ad : List Addr} {s : Shared} {E : Value → Shared → Prop} {U : List Addr}
theorem wpAny_of_eqv {v v' : Value} {xs : List Value} {Q : Value → Shared → Prop} (e : v = v') (h : wpAny (model P.prog P.w) A (call v xs) Q E s) : wpAny (model P.prog P.w) A (call v' xs) Q E s := e ▸ h
inductive PLvl (Φ : Out V → Prop) (d : Nat) (μ : M) : List V → Prop
  | mk (k w : Str) (hd : ¬ d = 0) (p : Φ (.ok (.level (.str k) (.str w) μ.length) (μ ++ [[], [], []]))) : PLvl Φ d μ [.str k, .str w]
theorem PostG.lvlK {R : Heap → List Addr → V → Value → Prop} {Q : Value → Shared → Prop} {vs : List V} (p : PostG P U fs L R (match (generalizing := false) vs with
            | [.str k, .str w] => if d = 0 then .no else .ok (.level (.str k) (.str w) μ.length) (μ ++ [[], [], []])
            | _ => .no) ad s Q E) : PLvl (fun o => PostG P U fs L R o ad s Q E) d μ vs := by
  cases vs with
  | nil => exact p.elim
  | cons v r => cases v with
    | str k => cases r with
      | nil => exact p.elim
      | cons v r => cases v with
        | str w => cases r with
          | nil => exact ⟨k, w, p.iteF.1, p.iteF.2⟩
          | cons _ _ => exact p.elim
        | _ => exact p.elim
    | _ => exact p.elim
theorem call_level {np pos : Pos} {as : List Expr} {Q : Value → Shared → Prop} (G : GG P tab cst) (hs : SEs tab cst P n) (Z : Zc A d fenv outer L fs env sc) (t : St P env fs ad ρ μ s.heap)
    (hg : isGlobal sc "Level" = true) (hp : plainEs as = true)
    (p : PostG P [] fs L (RV P fs) ((evEs tab cst n d sc ρ μ as).bind fun vs μ => (match vs with
            | [.str k, .str w] => if d = 0 then .no else .ok (.level (.str k) (.str w) μ.length) (μ ++ [[], [], []])
            | _ => .no)) ad s Q E) : wpAny (model P.prog P.w) A (eval (.Call (.Name "Level" np) as [] pos) env) Q E s := by
  refine wpAny_Call_NameR ?_
  rw [args_plain hp]
  refine global_name G.gf Z.ev t.S hg G.lvl ?_
  refine callWith_of (P := fun h => P.K.In h) (by rw [args_any]; rfl) (keeps_K G.lvlKeep) (evalArgs_of (hs Z t (next p fun vs μ1 xs ad1 h1 tk1 st1 S1 r1 p1 => ?_)))
  refine ⟨fun b o e => S1.base b o (G.cf.K b o e), ?_⟩
  replace p1 := p1.lvlK
  cases p1 with | mk k w hd p1 =>
  replace r1 := r1.inv
  cases r1 with | mk r1 rs =>
  replace rs := rs.inv
  cases rs with | mk r2 rs =>
  cases rs.inv; cases r1.inv; cases r2.inv
  cases d with
  | zero => exact absurd rfl hd
  | succ d => exact G.make Z.cx S1 p1
theorem call_blt {f : Str} {np pos : Pos} {as : List Expr} {Q : Value → Shared → Prop} (G : GG P tab cst) (hs : SEs tab cst P n) (Z : Zc A d fenv outer L fs env sc) (t : St P env fs ad ρ μ s.heap)
    (hg : isGlobal sc f = true) (hp : plainEs as = true) (hb : f ∈ bltNames)
    (p : PostG P [] fs L (RV P fs) ((evEs tab cst n d sc ρ μ as).bind fun vs μ => .of μ (builtV μ f vs)) ad s Q E) : wpAny (model P.prog P.w) A (eval (.Call (.Name f np) as [] pos) env) Q E s := by
  refine wpAny_Call_NameR ?_
  rw [args_plain hp]
  refine builtin_name G.gf Z.ev t.S hg (G.blt f hb).1 (G.blt f hb).2 ?_
  have fin : wpAny (model P.prog P.w) A (evalArgs (bltFn f) true (as.map fun e => (false, eval e env)) []) (fun a s₁ => wpAny (model P.prog P.w) A (call (bltFn f) ([] ++ a.pos) a.kw) Q E s₁) E s :=
    evalArgs_of (hs Z t (next p fun vs μ1 xs ad1 h1 tk1 st1 S1 r1 p1 => by cases p1.ofO with | mk v q p1 => exact builtV_ok S1 r1 q Z.cx.handled p1))
  revert fin
  have bf := bltF f
  generalize bltFn f = b at bf
  intro fin
  cases bf with
  | fn => exact Calls.callWith_builtin args_any fin
  | ty => exact PySem.callWith_type args_any fin
theorem call_node {f : Str} {np pos : Pos} {as : List Expr} {Q : Value → Shared → Prop} (G : GG P tab cst) (hs : SEs tab cst P n) (hC : SCall tab cst P n) (Z : Zc A d fenv outer L fs env sc) (t : St P env fs ad ρ μ s.heap)
    (hg : isGlobal sc f = true) (hp : plainEs as = true) (hok : callOk tab f = true)
    (p : PostG P [] fs L (RV P fs) ((evEs tab cst n d sc ρ μ as).bind fun vs μ => (match tab f with
        | some fd => evCall tab cst n d μ fd vs
        | none => if f == ("Level" : Str) then (match vs with
            | [.str k, .str w] => if d = 0 then .no else .ok (.level (.str k) (.str w) μ.length) (μ ++ [[], [], []])
            | _ => .no) else .of μ (builtV μ f vs))) ad s Q E) : wpAny (model P.prog P.w) A (eval (.Call (.Name f np) as [] pos) env) Q E s := by
  cases htab : tab f with
  | some fd =>
    rw [htab] at p
    refine wpAny_Call_NameR ?_
    rw [args_plain hp]
    refine el_eeeeeaaa (G.gf.fn f fd htab) fun a o pm code doc hm ho hd hc => ?_
    refine global_name G.gf Z.ev t.S hg hm ?_
    refine Calls.callWith_function (o := o) (fd := Calls.docDef fd.name fd.params fd.body fd.scope pm code doc) (evalArgs_of (hs Z t (next p fun vs μ1 xs ad1 h1 tk1 st1 S1 r1 p1 => ?_)))
    exact ⟨⟨S1.base a o ho, hd⟩, hC Z.cx ho hd hc S1 r1 p1⟩
  | none =>
    rw [htab] at p
    dsimp only at p
    simp only [callOk, htab, Option.isSome_none, Bool.false_or, Bool.or_eq_true] at hok
    revert p hok
    generalize hl : (f == ("Level" : Str)) = b
    intro p hok
    cases b with
    | true => cases beq_iff_eq.mp hl; exact call_level G hs Z t hg hp p
    | false => exact call_blt G hs Z t hg hp (List.contains_iff_mem.mp (hok.resolve_left (by decide))) p
theorem few_args {as : List Expr} {pos : Pos} (hp : plainEs as = true) (hz : as.length < 10) : ((backTo pos (starEach as env)).all (fun x => !x.1) && (backToKw pos (keywordEach [] env)).all (fun x => x.1.isSome)
      && decide (as.length + ([] : List Keyword).length + (if ([] : List Keyword).isEmpty then 0 else 1) < 30)) = true := by
  rw [args_plain hp]
  have h1 : (as.map fun e => (false, eval e env)).all (fun x => !x.1) = true := by
    clear hp hz
    induction as with
    | nil => rfl
    | cons e r ih => simp
  rw [h1]
  have h2 : decide (as.length + ([] : List Keyword).length + (if ([] : List Keyword).isEmpty then 0 else 1) < 30) = true := by
    simp; omega
  rw [h2]
  rfl
theorem method_node {o : Expr} {x : Str} {ap pos : Pos} {as : List Expr} {Q : Value → Shared → Prop} (he : SE tab cst P n) (hs : SEs tab cst P n) (Z : Zc A d fenv outer L fs env sc) (t : St P env fs ad ρ μ s.heap)
    (hb : attributeBase o x env (eval o env) = eval o env) (hl : (ap.endLine == pos.line) = true) (hz : as.length < 10) (hp : plainEs as = true)
    (p : PostG P [] fs L (RV P fs) ((evE tab cst n d sc ρ μ o).bind fun a μ => if methOk a x then (evEs tab cst n d sc ρ μ as).bind fun vs μ => methV μ a x vs else .no) ad s Q E) :
    wpAny (model P.prog P.w) A (eval (.Call (.Attribute o x ap) as [] pos) env) Q E s := by
  refine wpAny_Call_method_late hb (few_args hp hz) hl (args_plain hp) (he Z t (next p fun a μ1 ov ad1 h1 tk1 st1 S1 r1 p1 => ?_))
  cases hm : mtOf a x with
  | none => rw [if_neg (by unfold methOk; rw [hm]; decide)] at p1; exact p1.elim
  | some m =>
    rw [if_pos (by unfold methOk; rw [hm]; rfl)] at p1
    have k := mtOf_inv hm
    cases meth_on (s := { s with heap := h1, toks := tk1 }) S1 r1 k with | mk pa slot hty hT hd =>
    refine ⟨_, _, pa, slot, hty, hT, hd, ?_⟩
    have t1 := t.step st1 S1 Z.ev.loc
    refine Calls.callWith_builtin args_any (evalArgs_of (hs Z t1 (next p1 fun vs μ2 xs ad2 h2 tk2 st2 S2 r2 p2 => ?_)))
    refine meth_go (U := []) (L := L) S2 k (r1.carry st2.carry) r2 ?_
    have e : methV μ2 a x vs = m.run μ2 vs := by unfold methV; rw [hm]
    rw [← e]; exact p2
end
end Mine
namespace Mine
structure Side (P : Par) (hs : Heap) (fs ad : List Addr) (h h' : Heap) : Prop where
  fs_ : ∀ b ∈ fs, ∀ o, h.get? b = some o → ∃ sl, h'.get? b = some { o with slots := sl }
  keep : ∀ b o, h.get? b = some o → b ∉ fs → h'.get? b = some o ∨ (P.h₀.get? b = none ∧ hs.get? b = none ∧ b ∉ ad ∧ ∃ vs, o.data = .fields vs)
section
variable {P : Par} {hs h h' h'' : Heap} {fs ad ad0 U : List Addr} {μ : M}
theorem Side.of_keeps (k : ∀ b o, h.get? b = some o → h'.get? b = some o) : Side P hs fs ad h h' := ⟨fun b _ o e => ⟨o.slots, k b o e⟩, fun b o e _ => .inl (k b o e)⟩
theorem Side.refl : Side P hs fs ad h h := .of_keeps fun _ _ e => e
theorem Side.trans (a : Side P hs fs ad h h') (b : Side P hs fs ad h' h'') : Side P hs fs ad h h'' := by
  refine ⟨fun x hx o e => ?_, fun x o e hx => ?_⟩
  · refine el_e (a.fs_ x hx o e) fun sl e1 => ?_
    refine el_e (b.fs_ x hx _ e1) fun sl' e2 => ?_
    exact ⟨sl', e2⟩
  · rcases a.keep x o e hx with e1 | q
    · exact b.keep x o e1 hx
    · exact .inr q
theorem Side.like (a : Side P hs fs ad h h') {b : Addr} (hb : b ∈ fs) : Like h h' b := fun o e => a.fs_ b hb o e
theorem Side.ns (a : Side P hs fs ad h h') {b : Addr} (hb : b ∈ fs) {m : Str → Option Value} (n : h.Ns b m) : h'.Ns b m := by
  refine el_eeea (n) fun o es ep e z => ?_; try clear n
  refine el_e (a.fs_ b hb o e) fun sl q => ?_
  exact ⟨_, es, ep, q, z⟩
theorem Side.keepN (a : Side P hs fs ad h h') {b : Addr} {o : Obj} (e : h.get? b = some o) (hn : ∀ vs, o.data ≠ .fields vs) (hf : b ∉ fs) : h'.get? b = some o := by
  rcases a.keep b o e hf with q | ⟨_, _, _, vs, q⟩
  · exact q
  · exact absurd q (hn vs)
theorem Side.carry (a : Side P hs fs ad h h') : Carry h h' ad ad fs fs := ⟨fun b o e hn _ hf => a.keepN e hn hf, fun _ _ _ q => q, fun _ _ _ q => q, fun _ _ e => e⟩
theorem Sim.side (S : Sim P fs ad μ h) (a : Side P hs fs ad h h') : Sim P fs ad μ h' := by
  refine ⟨fun b o e => ?_, S.len, S.nd, fun i x l e1 e2 => ?_, S.adNew, S.fsNew, fun x hx => (a.like hx).solid (S.fsAt x hx), S.dj⟩
  · rcases a.keep b o (S.base b o e) (S.baseFs e) with q | ⟨q, _⟩
    · exact q
    · rw [q] at e; cases e
  · refine el_ea (S.cell i x l e1 e2) fun items hn1n37 r => ?_; obtain ⟨cls, q⟩ := hn1n37
    have hx : x ∈ ad := List.mem_iff_getElem?.mpr ⟨i, e1⟩
    rcases a.keep x _ q (S.adFs hx) with q' | ⟨_, _, q', _⟩
    · exact ⟨items, ⟨cls, q'⟩, r.carry a.carry⟩
    · exact absurd hx q'
theorem Step.side (s : Step U fs ad0 ad hs h) (a : Side P hs fs ad h h') : Step U fs ad0 ad hs h' := by
  refine ⟨s.grow, fun b o e ha hf => ?_, fun b hb hu => (s.like b hb hu).trans (a.like hb), fun b hb m n => let ⟨m', n'⟩ := s.kind b hb m n; ⟨m', a.ns hb n'⟩, fun b o e => ?_⟩
  · rcases a.keep b o (s.keep b o e ha hf) hf with q | ⟨_, q, _⟩
    · exact q
    · rw [q] at e; cases e
  · refine el_e (s.dom b o e) fun o' e' => ?_
    by_cases hb : b ∈ fs
    · refine el_e (a.fs_ b hb o' e') fun _ q => ?_; exact ⟨_, q⟩
    · rcases a.keep b o' e' hb with q | ⟨_, q, _⟩
      · exact ⟨_, q⟩
      · rw [q] at e; cases e
end
section
variable {P : Par} {hs h h' h'' : Heap} {fs ad ad0 U : List Addr} {μ : M} {A : Around} {d : Nat} {fenv : Env} {outer : List Env} {L : Addr} {s : Shared} {E : Value → Shared → Prop}
theorem Side.update {a : Addr} {o : Obj} {vs : Array Value} {f : Array Value → Array Value} (n1 : P.h₀.get? a = none) (n2 : hs.get? a = none) (n3 : a ∉ ad) (n4 : a ∉ fs) (e : h.get? a = some o) (hd : o.data = .fields vs) :
    Side P hs fs ad h (h.update a (Obj.mapFields f)) := by
  refine ⟨fun b hb o' e' => ⟨o'.slots, ?_⟩, fun b o' e' hb => ?_⟩
  · rw [Heap.get?_update_other _ _ (fun q => n4 (by rw [q]; exact hb))]; exact e'
  · by_cases q : a = b
    · subst q
      rw [e] at e'; cases e'
      exact .inr ⟨n1, n2, n3, vs, hd⟩
    · exact .inl (by rw [Heap.get?_update_other _ _ q]; exact e')
theorem Cx.fun_ (c : Cx A d fenv outer L fs) (S : Sim P fs ad μ h) : h.FunFrames P.h₀ (fenv :: outer) := by
  have key : ∀ l : List Env, (∀ env ∈ l, env.scope.kind ≠ .module ∧ ∃ b, env.frame = some b ∧ b ∈ fs) → h.FunFrames P.h₀ l := fun l => by
    induction l with
    | nil => exact fun _ => trivial
    | cons env r ih =>
      intro z
      refine el_aea (z env List.mem_cons_self) fun k b e hb => ?_
      refine el_ea (S.fsAt b hb) fun o ho hd => ?_
      exact ⟨k, ⟨b, o, e, S.fsNew b hb, ho, hd⟩, ih fun env he => z env (List.mem_cons_of_mem _ he)⟩
  exact key _ c.all
theorem Cx.mem (c : Cx A d fenv outer L fs) {b : Addr} (hb : b ∈ (fenv :: outer).filterMap (·.frame)) : b ∈ fs := by
  refine el_ea (List.mem_filterMap.mp hb) fun env he hf => ?_
  refine el_aea (c.all env he) fun _ b' e q => ?_
  rw [e] at hf; cases hf; exact q
theorem Side.slots {l : List Addr} (z : Heap.SlotsOnly l h h') (hl : ∀ b ∈ l, b ∈ fs) : Side P hs fs ad h h' :=
  ⟨fun b _ o e => z.2.2 b o e, fun b o e hb => .inl ((z.2.1 b fun q => hb (hl b q)).trans e)⟩
theorem dict_mapFields (o : Obj) (f : Array Value → Array Value) : (o.mapFields f).dict = o.dict := by
  unfold Obj.mapFields; split <;> rfl
inductive RecAt (h : Heap) (e : Addr) (cls : Value) (dx : Option Addr) (a0 hd : Value) : Prop
  | mk : ∀ oe vs, h.get? e = some oe → oe.cls = cls → oe.dict = dx → oe.data = .fields vs → vs[0]? = some a0 → vs[1]? = some hd → RecAt h e cls dx a0 hd
structure Rec (h : Heap) (e : Addr) (cls : Value) (dx : Option Addr) (a0 hd : Value) : Prop where
  r : RecAt h e cls dx a0 hd
structure New (P : Par) (hs : Heap) (fs ad : List Addr) (e : Addr) : Prop where
  new : hs.get? e = none
  newB : P.h₀.get? e = none
  nAd : e ∉ ad
  nFs : e ∉ fs
structure Entry (P : Par) (hs : Heap) (fs ad : List Addr) (h : Heap) (e T : Addr) (f : Value) : Prop where
  n : New P hs fs ad T
  ne : T ≠ e
  r : ∃ oT ts, h.get? T = some oT ∧ oT.data = .fields ts ∧ ts[3]? = some f
theorem entry_ok {e : Addr} {cls a0 hd head : Value} {dx : Option Addr} {hadNext : Bool} {Q : Unit → Shared → Prop} (c : Cx A d fenv outer L fs) (S : Sim P fs ad μ s.heap) (st : Step U fs ad0 ad hs s.heap) (n : New P hs fs ad e)
    (r : Rec s.heap e cls dx a0 hd) (h : ∀ h' T, Side P hs fs ad s.heap h' → Rec h' e cls dx a0 (.ref T) → Entry P hs fs ad h' e T (rawInt L) → Q () { s with heap := h' }) :
    wpAny (model P.prog P.w) A (do let a ← frameOf fenv; let pl ← entryPlaceOf L hadNext; let b ← EntryCells.newEntry head a .none (rawInt L) .none pl; setField (.ref e) 1 b) Q E s := by
  obtain ⟨oe, vs, he, hc, hx, hdd, h0, h1⟩ := r.r
  refine wpAny_bind (wpAny_frameOf_fun c.frames (c.fun_ S) c.frame fun h₁ hs₁ => ?_)
  have sd1 : Side P hs fs ad s.heap h₁ := .slots hs₁ fun b hb => c.mem hb
  refine wpAny_bind (wpAny_entryPlaceOf fun pl hpl => ?_)
  unfold EntryCells.newEntry newFields
  refine wpAny_bind (wpAny_newObj_type ?_ (hpl.sizeOk5 _ _ _ _ _))
  have he₁ : h₁.get? e = some oe := (hs₁.2.1 e fun q => n.nFs (c.mem q)).trans he
  have k2 := push_keeps (h := h₁) { cls := .type "traceback", dict := none, data := .fields ([head, .ref L, .none, rawInt L, .none] ++ (if pl.isEmpty then List.replicate 6 Value.none else pl)).toArray }
  have he₂ := k2 _ _ he₁
  have sd2 := sd1.trans (.of_keeps k2)
  have hsz : 1 < vs.size := (Array.getElem?_eq_some_iff.mp h1).1
  refine wpAny_setField he₂ hdd hsz (h _ h₁.objs.size (sd2.trans (.update n.newB n.new n.nAd n.nFs he₂ hdd)) ?_ ?_)
  · refine ⟨_, _, Heap.get?_update_self _ he₂ (Obj.isFreed_of_fields (Obj.data_mapFields hdd _)), by rw [Obj.cls_mapFields]; exact hc, ?_, Obj.data_mapFields hdd _, ?_, ?_⟩
    · rw [← hx]; exact dict_mapFields _ _
    · rw [Array.getElem?_setIfInBounds_ne (by decide)]; exact h0
    · simp [hsz]
  · have hTe : h₁.objs.size ≠ e := Nat.ne_of_gt (Heap.lt_size he₁)
    have big : ∀ b : Addr, (∃ o, h₁.get? b = some o) → b ≠ h₁.objs.size := fun b ⟨o, q⟩ => Nat.ne_of_lt (Heap.lt_size q)
    refine ⟨⟨?_, ?_, ?_, ?_⟩, hTe, _, _, (Heap.get?_update_other _ _ (Ne.symm hTe)).trans (Heap.get?_push_size h₁ rfl), rfl, ?_⟩
    · cases q : hs.get? h₁.objs.size with
      | none => rfl
      | some o => obtain ⟨o1, q1⟩ := st.dom _ _ q; exact absurd rfl (big _ ⟨_, (hs₁.2.2 _ _ q1).choose_spec⟩)
    · cases q : P.h₀.get? h₁.objs.size with
      | none => rfl
      | some o => exact absurd rfl (big _ ⟨_, (hs₁.2.2 _ _ (S.base _ _ q)).choose_spec⟩)
    · intro q
      refine el_eea (S.listAt q) fun items o e1 _ => ?_
      exact absurd rfl (big _ ⟨_, (hs₁.2.2 _ _ e1).choose_spec⟩)
    · intro q
      refine el_ea (S.fsAt _ q) fun o e1 _ => ?_
      exact absurd rfl (big _ ⟨_, (hs₁.2.2 _ _ e1).choose_spec⟩)
    · rcases hpl with rfl | ⟨_, _, _, _, _, _, _, rfl⟩ <;> simp
def Tr (P : Par) (hs : Heap) (fs ad : List Addr) (h : Heap) (e : Addr) (hd : Value) : Option Value → Prop
  | none => hd = .none
  | some f => ∃ T, hd = .ref T ∧ Entry P hs fs ad h e T f
inductive Opened (P : Par) (fs ad : List Addr) (hs h : Heap) (e : Addr) (k : Str) (fl : Option Value) : Prop
  | mk : ∀ dx od m t a0 hd, Rec h e (.ref P.B) (some dx) a0 hd → hs.get? dx = none → dx ∉ ad → dx ∉ fs → h.get? dx = some od → h.Ns dx m → m "code" = some (.str k t) → Tr P hs fs ad h e hd fl → Opened P fs ad hs h e k fl
theorem ExcAt.open_ {e : Addr} {k : Str} {fl : Option Value} (x : ExcAt P fs ad hs h e k fl) : New P hs fs ad e ∧ Opened P fs ad hs h e k fl := by
  obtain ⟨a, a', b, c, oe, vs, dx, od, m, t, a0, e1, e2, e3, e4, e5, e6, e7, e8, e9, e10, e11, e12⟩ := x
  refine ⟨⟨a, a', b, c⟩, ?_⟩
  cases fl with
  | none => exact ⟨dx, od, m, t, a0, _, ⟨oe, vs, e1, e2, e3, e4, e5, e12⟩, e6, e7, e8, e9, e10, e11, rfl⟩
  | some f =>
    obtain ⟨T, oT, ts, q0, q1, q2, q3, q4, q5, q6, q7, q8⟩ := e12
    exact ⟨dx, od, m, t, a0, _, ⟨oe, vs, e1, e2, e3, e4, e5, q0⟩, e6, e7, e8, e9, e10, e11, T, rfl, ⟨q2, q3, q4, q5⟩, q1, oT, ts, q6, q7, q8⟩
theorem ExcAt.shut {e dx : Addr} {k : Str} {fl : Option Value} {od : Obj} {m : Str → Option Value} {t : Tok} {a0 hd : Value} (n : New P hs fs ad e) (r : Rec h e (.ref P.B) (some dx) a0 hd) (n1 : hs.get? dx = none) (n2 : dx ∉ ad) (n3 : dx ∉ fs)
    (e1 : h.get? dx = some od) (e2 : h.Ns dx m) (e3 : m "code" = some (.str k t)) (tr : Tr P hs fs ad h e hd fl) : ExcAt P fs ad hs h e k fl := by
  obtain ⟨oe, vs, q1, q2, q3, q4, q5, q6⟩ := r.r
  refine ⟨n.new, n.newB, n.nAd, n.nFs, oe, vs, dx, od, m, t, a0, q1, q2, q3, q4, q5, n1, n2, n3, e1, e2, e3, ?_⟩
  cases fl with
  | none => subst tr; exact q6
  | some f =>
    refine el_ea (tr) fun T hq1n164 hn2n164 => ?_; try clear tr; subst hq1n164; obtain ⟨⟨n1, n2, n3, n4⟩, ne, oT, ts, z1, z2, z3⟩ := hn2n164
    exact ⟨T, oT, ts, q6, ne, n1, n2, n3, n4, z1, z2, z3⟩
theorem dict_side {dx : Addr} {od : Obj} {m : Str → Option Value} (a : Side P hs fs ad h h') (e1 : h.get? dx = some od) (e2 : h.Ns dx m) (nf : dx ∉ fs) : h'.get? dx = some od ∧ h'.Ns dx m := by
  refine el_eeeaa (e2) fun o es ep q1 q2 z => ?_; try clear e2
  rw [e1] at q1; cases q1
  have q := a.keepN e1 (fun vs q => by rw [q2] at q; cases q) nf
  exact ⟨q, _, es, ep, q, q2, z⟩
theorem note_ok {e : Addr} {k : Str} {fl : Option Value} {Q : Unit → Shared → Prop} (c : Cx A d fenv outer L fs) (S : Sim P fs ad μ s.heap) (st : Step U fs ad0 ad hs s.heap) (x : ExcAt P fs ad hs s.heap e k fl) (hf : FlOk L fl)
    (h : ∀ h', Side P hs fs ad s.heap h' → ExcAt P fs ad hs h' e k (some (rawInt L)) → Q () { s with heap := h' }) : wpAny (model P.prog P.w) A (noteFrame (.ref e) fenv) Q E s := by
  obtain ⟨n, dx, od, m, t, a0, hd, r, n1, n2, n3, e1, e2, e3, tr⟩ := x.open_
  obtain ⟨oe, vs, he, hc, hx, hdd, h0, h1⟩ := r.r
  unfold noteFrame
  simp only [c.frame]
  refine wpAny_bind (wpAny_field he hdd h1 ?_)
  have fin : ∀ {s' : Shared} {head : Value} {b : Bool}, s' = { s with heap := s'.heap } → Side P hs fs ad s.heap s'.heap → Rec s'.heap e (.ref P.B) (some dx) a0 hd →
      wpAny (model P.prog P.w) A (do let a ← frameOf fenv; let pl ← entryPlaceOf L b; let b ← EntryCells.newEntry head a .none (rawInt L) .none pl; setField (.ref e) 1 b) Q E s' := fun {s'} {head} {b} q sd r' => by
    refine entry_ok c (S.side sd) (st.side sd) n r' fun h' T sd' r'' en => ?_
    have sd2 := sd.trans sd'
    refine el_a (dict_side sd2 e1 e2 n3) fun x1 x2 => ?_
    rw [q]
    exact h h' sd2 (.shut n r'' n1 n2 n3 x1 x2 e3 ⟨T, rfl, en⟩)
  cases fl with
  | none =>
    subst tr
    rw [if_neg (by decide)]
    exact fin rfl .refl r
  | some f =>
    refine el_ea (tr) fun T hq1n194 hn2n194 => ?_; try clear tr; subst hq1n194; obtain ⟨nT, ne, oT, ts, hT, hdT, h3⟩ := hn2n194
    rw [if_pos (show (Value.ref T != Value.none) = true from by simp)]
    refine wpAny_bind (wpAny_field hT hdT h3 ?_)
    rcases hf with rfl | rfl
    · rw [if_neg (show ¬ ((Value.none == rawInt L) = true) from by simp [rawInt])]
      refine wpAny_bind (wpAny_setField hT hdT (Array.getElem?_eq_some_iff.mp h3).1 ?_)
      refine fin (s' := { s with heap := s.heap.update T (Obj.mapFields (·.setIfInBounds 3 Value.none)) }) rfl (.update nT.newB nT.new nT.nAd nT.nFs hT hdT) ⟨oe, vs, ?_, hc, hx, hdd, h0, h1⟩
      rw [Heap.get?_update_other _ _ ne]; exact he
    · rw [if_pos (by simp)]
      exact wpAny_pure (h _ .refl (.shut n r n1 n2 n3 e1 e2 e3 ⟨T, rfl, nT, ne, oT, ts, hT, hdT, h3⟩))
theorem flight_ok {e : Addr} {k : Str} {f : Value} {x : Option Addr} {Q : Unit → Shared → Prop} (st : Step U fs ad0 ad hs s.heap) (z : ExcAt P fs ad hs s.heap e k (some f))
    (h : ∀ h', Side P hs fs ad s.heap h' → ExcAt P fs ad hs h' e k (some (x.elim .none fun f => rawInt f)) → Q () { s with heap := h' }) : wpAny (model P.prog P.w) A (setFlight (.ref e) x) Q E s := by
  obtain ⟨n, dx, od, m, t, a0, hd, r, n1, n2, n3, e1, e2, e3, T, rfl, nT, ne, oT, ts, hT, hdT, h3⟩ := z.open_
  obtain ⟨oe, vs, he, hc, hx, hdd, h0, h1⟩ := r.r
  unfold setFlight
  refine wpAny_bind (wpAny_field he hdd h1 ?_)
  rw [if_pos (show (Value.ref T != Value.none) = true from by simp)]
  have hsz := (Array.getElem?_eq_some_iff.mp h3).1
  refine wpAny_setField hT hdT hsz ?_
  have sd : Side P hs fs ad s.heap (s.heap.update T (Obj.mapFields (·.setIfInBounds 3 (x.elim .none fun f => rawInt f)))) := .update nT.newB nT.new nT.nAd nT.nFs hT hdT
  refine el_a (dict_side sd e1 e2 n3) fun x1 x2 => ?_
  refine h _ sd (.shut n ⟨oe, vs, ?_, hc, hx, hdd, h0, h1⟩ n1 n2 n3 x1 x2 e3 ⟨T, rfl, nT, ne, _, _, Heap.get?_update_self _ hT (Obj.isFreed_of_fields (Obj.data_mapFields hdT _)), Obj.data_mapFields hdT _, by simp [hsz]⟩)
  rw [Heap.get?_update_other _ _ ne]; exact he
theorem leaving_ok {e : Addr} {k : Str} {fl : Option Value} {Q : Unit → Shared → Prop} (c : Cx A d fenv outer L fs) (S : Sim P fs ad μ s.heap) (st : Step U fs ad0 ad hs s.heap) (x : ExcAt P fs ad hs s.heap e k fl) (hf : FlOk L fl)
    (h : ∀ h', Side P hs fs ad s.heap h' → ExcAt P fs ad hs h' e k (some .none) → Q () { s with heap := h' }) : wpAny (model P.prog P.w) A (leaving fenv (.ref e)) Q E s := by
  unfold leaving
  refine wpAny_bind (note_ok c S st x hf fun h1 sd1 x1 => ?_)
  exact flight_ok (st.side sd1) x1 fun h2 sd2 x2 => h h2 (sd1.trans sd2) x2
end
end Mine
namespace Mine
theorem zip_skip {α : Type} {n : Str} {x : α} {zs : List (Str × α)} {l : List Str} (q : n ∉ l) : l.filterMap (fun y => (List.lookup y ((n, x) :: zs)).map (y, ·)) = l.filterMap (fun y => (List.lookup y zs).map (y, ·)) := by
  induction l with
  | nil => rfl
  | cons y l ih =>
    rw [List.filterMap_cons, List.filterMap_cons, List.lookup_cons, beq_eq_false_iff_ne.mpr fun e => q (by rw [e]; exact List.mem_cons_self), ih fun z => q (List.mem_cons_of_mem _ z)]
theorem zip_look {α : Type} {names : List Str} : ∀ {xs : List α}, names.Nodup → names.length = xs.length → names.filterMap (fun n => ((names.zip xs).lookup n).map (n, ·)) = names.zip xs := by
  induction names with
  | nil => exact fun _ _ => rfl
  | cons n r ih =>
    intro xs hn h
    cases xs with
    | nil => cases h
    | cons x xs =>
      rw [List.nodup_cons] at hn
      rw [List.zip_cons_cons, List.filterMap_cons, List.lookup_cons, beq_self_eq_true]
      exact congrArg ((n, x) :: ·) ((zip_skip hn.1).trans (ih hn.2 (Nat.succ.inj h)))
theorem zip_isSome {α : Type} {n : Str} {names : List Str} : ∀ {xs : List α}, names.length = xs.length → n ∈ names → ((names.zip xs).lookup n).isSome = true := by
  induction names with
  | nil => exact fun _ h => absurd h List.not_mem_nil
  | cons m r ih =>
    intro xs h hn
    cases xs with
    | nil => cases h
    | cons x xs =>
      rw [List.zip_cons_cons, List.lookup_cons]
      by_cases q : n = m
      · rw [q, beq_self_eq_true]; rfl
      · rw [beq_eq_false_iff_ne.mpr q]
        exact (List.mem_cons.mp hn).elim (fun e => absurd e q) fun hn => ih (Nat.succ.inj h) hn
theorem pb {α β : Type} (a : α) (f : α → Sem β) : (pure a : Sem α) >>= f = f a := rfl
theorem seq_none : seqItems? Value.none = pure none := rfl
theorem if_f {β : Type} {c : Bool} {X Y r : β} (h : c = false) (e : Y = r) : (if c = true then X else Y) = r := by rw [h]; exact e
theorem for_0 {α β γ : Type} {L : List α} {a : β} {g : α → β → Sem (ForInStep β)} {f : β → Sem γ} {r : Sem γ} (h : L = []) (e : f a = r) : (forIn L a g >>= f) = r := by rw [h]; exact e
theorem bind_core {n q : Str} {kwd : List (Option Expr)} {dfs : List Expr} {args : List Arg} {b : FuncBody} {sc : Scope} {g : Addr} {cl : List (Str × Addr)} {kd dc pm : Value} {an : Option Addr} {cd ct : Value} {bl : Addr} {xs : List Value} {ns : List Str} (hns : args.map (·.arg) = ns)
    (hg : decide (xs.length > ns.length) = false) (hm : ((ns.take (ns.length - 0)).filter fun n => ((ns.zip xs).lookup n).isNone) = []) (hz : ns.drop (ns.length - 0) = []) (hb : (ns ++ []).filterMap (fun n => ((ns.zip xs).lookup n).map (n, ·)) = ns.zip xs) :
    bindArgs ⟨n, q, ⟨[], args, none, [], kwd, none, dfs⟩, b, sc, g, cl, .none, kd, dc, pm, an, cd, ct, bl⟩ ⟨xs, []⟩ = pure (ns.zip xs) := by
  subst hns
  delta bindArgs
  dsimp only [List.map_nil, List.nil_append, List.forIn_nil, pb, seq_none, Option.getD_none]
  refine if_f (congrArg (fun b => b && true) hg) (if_f ?_ (for_0 ?_ (for_0 rfl (if_f rfl (congrArg pure hb)))))
  · rw [List.drop_nil]; exact congrArg (fun l => !l.isEmpty) hm
  · rw [List.drop_nil, List.zip_nil_right]
theorem par_eq {p : Arguments} {A K : List Arg} {v k : Option Arg} (h1 : p.posonlyargs = A) (h2 : p.vararg = v) (h3 : p.kwonlyargs = K) (h4 : p.kwarg = k) : p = ⟨A, p.args, v, K, p.kw_defaults, k, p.defaults⟩ := by subst h1 h2 h3 h4; cases p; rfl
theorem fd_eq {fd : FuncData} {p : Arguments} {d : Value} (h1 : fd.params = p) (h2 : fd.defaults = d) : fd = ⟨fd.name, fd.qualname, p, fd.body, fd.scope, fd.globals, fd.closure, d, fd.kwdefaults, fd.doc, fd.pyModule, fd.annotations, fd.code, fd.closureTuple, fd.builtins⟩ := by subst h1 h2; rfl
theorem zip_none {ns : List Str} {xs : List Value} (hl : ns.length = xs.length) : (ns.filter fun n => ((ns.zip xs).lookup n).isNone) = [] := by
  rw [List.filter_eq_nil_iff]
  intro n hx
  have := zip_isSome hl hx
  revert this
  generalize List.lookup n (ns.zip xs) = o
  intro h; cases o with
  | none => cases h
  | some v => exact fun h => by cases h
theorem bind_fd {fd : FuncData} {xs : List Value} (hp : plainArgs fd.params = true) (hdf : fd.defaults = .none) (hn : (fd.params.args.map (·.arg)).Nodup) (hl : (fd.params.args.map (·.arg)).length = xs.length) :
    bindArgs fd ⟨xs, []⟩ = pure ((fd.params.args.map (·.arg)).zip xs) := by
  simp only [plainArgs, Bool.and_eq_true, List.isEmpty_iff, Option.isNone_iff_eq_none] at hp
  refine (congrArg (bindArgs · ⟨xs, []⟩) (fd_eq (par_eq hp.1.1.1.1 hp.1.1.1.2 hp.1.1.2 hp.1.2) hdf)).trans ?_
  refine bind_core rfl (by rw [hl]; exact decide_eq_false (Nat.lt_irrefl _)) ?_ List.drop_length (by rw [List.append_nil]; exact zip_look hn hl)
  rw [Nat.sub_zero, List.take_length]; exact zip_none hl
theorem bind_plain {name : Str} {params : Arguments} {body : List Stmt} {scope : Scope} {pm code doc : Value} {xs : List Value} (hp : plainArgs params = true) (hn : (params.args.map (·.arg)).Nodup) (hl : (params.args.map (·.arg)).length = xs.length) :
    bindArgs (Calls.docDef name params body scope pm code doc) ⟨xs, []⟩ = pure ((params.args.map (·.arg)).zip xs) := bind_fd (fd := Calls.docDef name params body scope pm code doc) hp rfl hn hl
theorem Sim.enter {P : Par} {fs ad : List Addr} {μ : M} {h h' : Heap} {L : Addr} (S : Sim P fs ad μ h) (k : ∀ b o, h.get? b = some o → h'.get? b = some o) (hn : ∃ o, h'.get? L = some o ∧ ∀ vs, o.data ≠ .fields vs) (hf : h.objs.size ≤ L) :
    Sim P (L :: fs) ad μ h' ∧ Carry h h' ad ad fs (L :: fs) := by
  have fr : ∀ b o, h.get? b = some o → b ≠ L := fun b o e q => Nat.lt_irrefl _ (Nat.lt_of_lt_of_le (Heap.lt_size (q ▸ e)) hf)
  have c : Carry h h' ad ad fs (L :: fs) := ⟨fun b o e _ _ _ => k b o e, fun _ _ _ q => q, fun b o e hb q => (List.mem_cons.mp q).elim (fr b o e) hb, fun _ _ q => q⟩
  refine ⟨⟨fun b o e => k b o (S.base b o e), S.len, S.nd, fun i a l e1 e2 => ?_, S.adNew, fun a ha => ?_, fun a ha => ?_, fun a ha q => ?_⟩, c⟩
  · refine el_ea (S.cell i a l e1 e2) fun items hn1n63 r => ?_; obtain ⟨o, e⟩ := hn1n63
    exact ⟨items, ⟨o, k _ _ e⟩, r.carry c⟩
  · rcases List.mem_cons.mp ha with rfl | ha
    · cases q : P.h₀.get? a with
      | none => rfl
      | some o => exact absurd rfl (fr _ _ (S.base _ _ q))
    · exact S.fsNew a ha
  · rcases List.mem_cons.mp ha with rfl | ha
    · exact hn
    · refine el_ea (S.fsAt a ha) fun o e n => ?_
      exact ⟨o, k _ _ e, n⟩
  · refine el_eea (S.listAt ha) fun _ o e _ => ?_
    rcases List.mem_cons.mp q with q | q
    · exact fr _ _ e q
    · exact S.dj a ha q
theorem leave_carry {fs ad : List Addr} {h : Heap} {L : Addr} : Carry h h ad ad (L :: fs) fs := ⟨fun _ _ e _ _ _ => e, fun _ _ _ q => q, fun _ _ _ q z => q (List.mem_cons_of_mem _ z), fun _ _ e => e⟩
theorem Sim.leave {P : Par} {fs ad : List Addr} {μ : M} {h : Heap} {L : Addr} (S : Sim P (L :: fs) ad μ h) : Sim P fs ad μ h := by
  refine ⟨S.base, S.len, S.nd, fun i a l e1 e2 => ?_, S.adNew, fun a ha => S.fsNew a (List.mem_cons_of_mem _ ha), fun a ha => S.fsAt a (List.mem_cons_of_mem _ ha), fun a ha q => S.dj a ha (List.mem_cons_of_mem _ q)⟩
  refine el_ea (S.cell i a l e1 e2) fun items e r => ?_
  exact ⟨items, e, r.carry leave_carry⟩
theorem Step.call {fs ad ad' : List Addr} {h h1 h2 : Heap} {L : Addr} (k : ∀ b o, h.get? b = some o → h1.get? b = some o) (hf : h.objs.size ≤ L) (s : Step [L] (L :: fs) ad ad' h1 h2) : Step [] fs ad ad' h h2 := by
  have fr : ∀ b o, h.get? b = some o → b ≠ L := fun b o e q => Nat.lt_irrefl _ (Nat.lt_of_lt_of_le (Heap.lt_size (q ▸ e)) hf)
  refine ⟨?_, fun b o e ha hb => s.keep b o (k b o e) ha fun q => (List.mem_cons.mp q).elim (fr b o e) hb, fun b hb _ o e => s.like b (List.mem_cons_of_mem _ hb) (fun q => fr b o e (List.mem_singleton.mp q)) o (k b o e), fun b hb m n => s.kind b (List.mem_cons_of_mem _ hb) m (n.keeps k), fun b o e => s.dom b o (k b o e)⟩
  refine el_ea (s.grow) fun new e z => ?_
  refine ⟨new, e, fun a ha => ?_⟩
  cases q : h.get? a with
  | none => rfl
  | some o => have := z a ha; rw [k a o q] at this; cases this
theorem ExcAt.leave {P : Par} {fs ad : List Addr} {h h' h0 : Heap} {L e : Addr} {c : Str} {fl : Option Value} (x : ExcAt P (L :: fs) ad h h' e c fl) (k : ∀ b o, h0.get? b = some o → h.get? b = some o) : ExcAt P fs ad h0 h' e c fl := by
  have fr : ∀ {b : Addr}, h.get? b = none → h0.get? b = none := fun {b} q => by
    cases z : h0.get? b with
    | none => rfl
    | some o => rw [k b o z] at q; cases q
  have nf : ∀ {b : Addr}, b ∉ L :: fs → b ∉ fs := fun q z => q (List.mem_cons_of_mem _ z)
  obtain ⟨a, a', b, d, oe, vs, dx, od, m, t, a0, e1, e2, e3, e4, e5, e6, e7, e8, e9, e10, e11, e12⟩ := x
  refine ⟨fr a, a', b, nf d, oe, vs, dx, od, m, t, a0, e1, e2, e3, e4, e5, fr e6, e7, nf e8, e9, e10, e11, ?_⟩
  cases fl with
  | none => exact e12
  | some f =>
    obtain ⟨T, oT, ts, q1, q2, q3, q4, q5, q6, q7, q8, q9⟩ := e12
    exact ⟨T, oT, ts, q1, q2, fr q3, q4, q5, nf q6, q7, q8, q9⟩
def FlIs (P : Par) (fs : List Addr) (h : Heap) (ad : List Addr) : Fl → Flow → Prop
  | .next, f => f = .next
  | .ret v, f => ∃ y, f = .ret y ∧ Rel P h ad fs v y
def RFl (P : Par) (env : Env) (fs : List Addr) : Heap → List Addr → Fl × Rho → Flow → Prop := fun h ad x f => FlIs P fs h ad x.1 f ∧ Loc P env fs ad x.2 h
section
variable (tab : Str → Option DefRec) (cst : Str → Option V) (P : Par)
def SS (n : Nat) : Prop := ∀ {A : Around} {d : Nat} {outer : List Env} {L : Addr} {fs : List Addr} {env : Env} {sc : Scope}, Zc A d env outer L fs env sc → env.locals = L →
  ∀ {ρ : Rho} {μ : M} {b : Stmt} {ad : List Addr} {s : Shared} {Q : Flow → Shared → Prop} {E : Value → Shared → Prop}, St P env fs ad ρ μ s.heap →
  PostG P [L] fs L (RFl P env fs) (evS tab cst n d sc ρ μ b) ad s Q E → wpAny (model P.prog P.w) A (exec b env) Q E s
def SSs (n : Nat) : Prop := ∀ {A : Around} {d : Nat} {outer : List Env} {L : Addr} {fs : List Addr} {env : Env} {sc : Scope}, Zc A d env outer L fs env sc → env.locals = L →
  ∀ {ρ : Rho} {μ : M} {b : List Stmt} {ad : List Addr} {s : Shared} {Q : Flow → Shared → Prop} {E : Value → Shared → Prop}, St P env fs ad ρ μ s.heap →
  PostG P [L] fs L (RFl P env fs) (evSs tab cst n d sc ρ μ b) ad s Q E → wpAny (model P.prog P.w) A (execs b env) Q E s
end
theorem bindL_keep {kindOf : Str → Option NameKind} {x : Str} : ∀ {binds : List (Str × Value)} {m : Str → Option Value}, (∀ y ∈ binds, y.1 ≠ x) → bindL kindOf binds m x = m x
  | [], _, _ => rfl
  | (n, v) :: r, m, h => by
    have hn : x ≠ n := fun q => h (n, v) List.mem_cons_self q.symm
    unfold bindL
    rw [bindL_keep fun y hy => h y (List.mem_cons_of_mem _ hy)]
    split
    · exact if_neg hn
    · rfl
theorem bindC_keep {kindOf : Str → Option NameKind} {x : Str} : ∀ {binds : List (Str × Value)} {m : Str → Option Value}, (∀ y ∈ binds, y.1 ≠ x) → bindC kindOf binds m x = m x
  | [], _, _ => rfl
  | (n, v) :: r, m, h => by
    have hn : x ≠ n := fun q => h (n, v) List.mem_cons_self q.symm
    unfold bindC
    rw [bindC_keep fun y hy => h y (List.mem_cons_of_mem _ hy)]
    split
    · rfl
    · exact if_neg hn
theorem zip_not {x : Str} {names : List Str} {xs : List Value} (h : x ∉ names) : ∀ y ∈ names.zip xs, y.1 ≠ x := fun y hy q => h (q ▸ (List.of_mem_zip hy).1)
inductive PRel (P : Par) (h : Heap) (ad fs : List Addr) (kindOf : Str → Option NameKind) (x : Str) (v : V) (binds : List (Str × Value)) (m cm : Str → Option Value) : Prop
  | mk (y : Value) (r : Rel P h ad fs v y) (k1 : kindOf x = some .local → bindL kindOf binds m x = some y) (k2 : kindOf x ≠ some .local → bindC kindOf binds cm x = some y) : PRel P h ad fs kindOf x v binds m cm
theorem params_rel {P : Par} {h : Heap} {ad fs : List Addr} {kindOf : Str → Option NameKind} {x : Str} {v : V} {names : List Str} : ∀ {vs : List V} {xs : List Value} {m cm : Str → Option Value}, names.Nodup → RelL P h ad fs vs xs → (names.zip vs).lookup x = some v →
    PRel P h ad fs kindOf x v (names.zip xs) m cm := by
  induction names with
  | nil => intro vs xs m cm _ _ e; exact nn e
  | cons n r ih =>
    intro vs xs m cm hn rl e
    cases vs with
    | nil => exact nn e
    | cons w vs =>
      replace rl := rl.inv
      cases rl with | @mk y ys r1 rs =>
      rw [List.nodup_cons] at hn
      rw [List.zip_cons_cons, List.lookup_cons] at e
      by_cases q : x = n
      · subst q
        rw [beq_self_eq_true] at e
        cases Option.some.inj e
        exact ⟨y, r1, fun k => (bindL_keep (zip_not hn.1)).trans (by rw [if_pos k]; exact if_pos rfl), fun k => (bindC_keep (zip_not hn.1)).trans (by rw [if_neg k]; exact if_pos rfl)⟩
      · rw [beq_eq_false_iff_ne.mpr q] at e
        cases ih (m := if kindOf n = some .local then fun a => if a = n then some y else m a else m) (cm := if kindOf n = some .local then cm else fun a => if a = n then some y else cm a) hn.2 rs e with
        | mk z r2 k1 k2 => exact ⟨z, r2, k1, k2⟩
theorem look_more {x y : Str} {c : Addr} {acc : List (Str × Addr)} (q : (acc.lookup x).isSome = true) : (((y, c) :: acc).lookup x).isSome = true := by
  rw [List.lookup_cons]
  cases (x == y) with
  | true => rfl
  | false => exact q
theorem cells_some {x : Str} {names : List (Str × NameKind)} : ∀ {n : Nat} {acc : List (Str × Addr)}, (names.lookup x = some .cell ∨ (acc.lookup x).isSome = true) → ((cellsFrom n names acc).lookup x).isSome = true := by
  induction names with
  | nil => exact fun h => h.elim (fun h => nn h) id
  | cons p r ih =>
    obtain ⟨y, k⟩ := p
    intro n acc h
    show ((if (k == NameKind.cell) = true then cellsFrom (n + 1) r ((y, n) :: acc) else cellsFrom n r acc).lookup x).isSome = true
    rw [List.lookup_cons] at h
    by_cases hk : (k == NameKind.cell) = true
    · rw [if_pos hk]
      refine ih ?_
      by_cases q : x = y
      · exact .inr (by rw [List.lookup_cons, q, beq_self_eq_true]; rfl)
      · rw [beq_eq_false_iff_ne.mpr q] at h
        exact h.imp id look_more
    · rw [if_neg hk]
      refine ih ?_
      by_cases q : x = y
      · rw [q, beq_self_eq_true] at h
        exact h.elim (fun h => absurd (by rw [Option.some.inj h]; rfl) hk) (fun h => .inr (by rw [q]; exact h))
      · rw [beq_eq_false_iff_ne.mpr q] at h
        exact h
structure Cx0 (A : Around) (d : Nat) (fr : List Env) (fs : List Addr) : Prop where
  frames : A.frames = some fr
  all : ∀ env ∈ fr, env.scope.kind ≠ .module ∧ ∃ b, env.frame = some b ∧ b ∈ fs
  handled : A.handled = none
  depth : A.depth + d ≤ 900
  units : A.units + 10 * d ≤ 9000
theorem zip_out {x : Str} {l : List Str} : ∀ {vs : List V}, x ∉ l → (l.zip vs).lookup x = none := by
  induction l with
  | nil => exact fun _ => rfl
  | cons w l ih =>
    intro vs z
    cases vs with
    | nil => rfl
    | cons v vs =>
      rw [List.zip_cons_cons, List.lookup_cons, beq_eq_false_iff_ne.mpr fun q => z (by rw [q]; exact List.mem_cons_self)]
      exact ih fun q => z (List.mem_cons_of_mem _ q)
theorem zip_in {x : Str} {v : V} {l : List Str} {vs : List V} (q : (l.zip vs).lookup x = some v) : x ∈ l := by
  by_cases z : x ∈ l
  · exact z
  · rw [zip_out z] at q; exact nn q
structure DefOk (fd : DefRec) : Prop where
  plain : plainArgs fd.params = true
  nd : (fd.params.args.map (·.arg)).Nodup
  kind : fd.scope.kind = .function
  co : fd.scope.isCoroutine = false
  gen : fd.scope.isGenerator = false
  kinds : ∀ x ∈ fd.params.args.map (·.arg), fd.scope.names.lookup x = some .local ∨ fd.scope.names.lookup x = some .cell
theorem DefOk.of {fd : DefRec} (hok : defOk fd = true) : DefOk fd := by
  simp only [defOk, Bool.and_eq_true, decide_eq_true_eq, beq_iff_eq, Bool.not_eq_true', List.all_eq_true, Bool.or_eq_true] at hok
  obtain ⟨⟨⟨⟨⟨⟨hp, hn⟩, hk⟩, hco⟩, hgen⟩, hkinds⟩, _⟩ := hok
  exact ⟨hp, hn, hk, hco, hgen, fun x hx => by obtain ⟨b, hb, rfl⟩ := List.mem_map.mp hx; exact hkinds b hb⟩
theorem call_loc {P : Par} {fd : DefRec} {env : Env} {h h1 : Heap} {L : Addr} {ad fs : List Addr} {vs : List V} {xs : List Value} {μ : M} (D : DefOk fd) (S : Sim P fs ad μ h) (hL : env.locals = L) (hsc : env.scope = fd.scope) (hcl : env.cells = cellsFrom (L + 1) fd.scope.names []) (hf : h.objs.size ≤ L)
    (hns : h1.Ns L (bindL env.kindOf ((fd.params.args.map (·.arg)).zip xs) fun _ => none)) (hcell : ∀ x c, env.cells.lookup x = some c → ∃ o, h1.get? c = some o ∧ o.data = .cell (bindC env.kindOf ((fd.params.args.map (·.arg)).zip xs) (fun _ => none) x)) (habove : ∀ x c, (x, c) ∈ env.cells → L < c)
    (r : RelL P h1 ad (L :: fs) vs xs) : Loc P env (L :: fs) ad ((fd.params.args.map (·.arg)).zip vs) h1 := by
  refine ⟨_, by rw [hL]; exact hns, fun x v q => ?_⟩
  have kk : env.kindOf x = fd.scope.names.lookup x := by unfold Env.kindOf; rw [hsc]
  cases params_rel (kindOf := env.kindOf) (m := fun _ => none) (cm := fun _ => none) D.nd r q with | mk y r1 k1 k2 =>
  refine ⟨y, r1, (D.kinds x (zip_in q)).imp (fun z => ⟨by rw [kk]; exact z, k1 (by rw [kk]; exact z)⟩) fun z => ⟨by rw [kk]; exact z, ?_⟩⟩
  obtain ⟨cc, hcc⟩ := Option.isSome_iff_exists.mp (cells_some (x := x) (n := L + 1) (acc := []) (.inl z))
  rw [← hcl] at hcc
  have hlt := habove x cc (mem_of_lookup hcc)
  obtain ⟨oc, eo, ed⟩ := hcell x cc hcc
  have nx : ∀ {o : Obj}, h.get? cc = some o → False := fun e => Nat.lt_irrefl _ (Nat.lt_trans (Nat.lt_of_le_of_lt hf hlt) (Heap.lt_size e))
  refine ⟨cc, oc, hcc, fun q => ?_, fun q => ?_, eo, by rw [ed, k2 (by rw [kk, z]; decide)]⟩
  · refine el_eea (S.listAt q) fun _ o e _ => ?_; exact nx e
  · rcases List.mem_cons.mp q with q | q
    · exact Nat.lt_irrefl _ (q ▸ hlt)
    · refine el_ea (S.fsAt _ q) fun o e _ => ?_; exact nx e
theorem call_zc {fd : DefRec} {env : Env} {A : Around} {d : Nat} {fr : List Env} {L : Addr} {fs : List Addr} (c : Cx0 A (d + 1) fr fs) (D : DefOk fd) (hL : env.locals = L) (hf : env.frame = some L) (hsc : env.scope = fd.scope) (hg : env.globals = mainGlobals) (hb : env.builtins = builtinsNs) (hcl : env.cells = cellsFrom (L + 1) fd.scope.names []) :
    Zc (A.deeper env) d env fr L (L :: fs) env fd.scope := by
  refine ⟨⟨?_, hf, ?_, c.handled, ?_, ?_⟩, ⟨by rw [hsc]; exact D.kind, hf, hg, hb, by rw [hL]; exact List.mem_cons_self, fun x q => by unfold Env.kindOf; rw [hsc]; exact q, fun x q => by unfold Env.kindOf; rw [hsc]; exact q,
      fun x q => ⟨by unfold Env.kindOf; rw [hsc]; exact q, Option.isSome_iff_exists.mp (by rw [hcl]; exact cells_some (.inl q))⟩⟩⟩
  · show A.frames.map (env :: ·) = _; rw [c.frames]; rfl
  · intro e he
    rcases List.mem_cons.mp he with he | he
    · exact ⟨by rw [he, hsc, D.kind]; decide, _, by rw [he]; exact hf, List.mem_cons_self⟩
    · refine el_aea (c.all e he) fun z b z1 z2 => ?_
      exact ⟨z, b, z1, List.mem_cons_of_mem _ z2⟩
  · have := c.depth; show A.depth + 1 + d ≤ 900; omega
  · have := c.units; show A.units + 3 + 10 * d ≤ 9000; omega
theorem call_body {tab : Str → Option DefRec} {cst : Str → Option V} {P : Par} {n : Nat} {fd : DefRec} {A : Around} {d : Nat} {fr : List Env} {L L0 : Addr} {fs ad : List Addr} {env : Env} {μ : M} {ρ : Rho} {s : Shared} {h1 : Heap} {tk1 : Nat} {Q : Value → Shared → Prop} {E : Value → Shared → Prop} (hs : SSs tab cst P n)
    (Z : Zc A d env fr L (L :: fs) env fd.scope) (hL : env.locals = L) (hf : s.heap.objs.size ≤ L) (kp : ∀ b o, s.heap.get? b = some o → h1.get? b = some o) (S1 : Sim P (L :: fs) ad μ h1) (loc : Loc P env (L :: fs) ad ρ h1)
    (p : PostG P [] fs L0 (RV P fs) ((evSs tab cst n d fd.scope ρ μ fd.body).bind fun r μ => match r.1 with
        | .ret v => .ok v μ
        | .next => .ok .none μ) ad s Q E) :
    wpAny (model P.prog P.w) A (execs fd.body env) (fun fl s' => Q (match fl with | .ret v => v | _ => .none) s') (fun e s' => wpAny (model P.prog P.w) A (leaving env e) (fun _ s'' => E e s'') (fun e' s'' => E e' s'') s') { s with heap := h1, toks := tk1 } := by
  refine hs Z hL ⟨S1, loc⟩ ?_
  revert p
  generalize evSs tab cst n d fd.scope ρ μ fd.body = o
  intro p
  cases o with
  | no => exact p.elim
  | exc k μ' =>
    intro e fl ad' h' tk st2 S2 x2 f2
    refine leaving_ok Z.cx S2 st2 x2 f2 fun h3 sd x3 => ?_
    exact p e (some .none) ad' h3 tk (Step.call kp hf (st2.side sd)) (S2.side sd).leave (x3.leave kp) (.inl rfl)
  | ok z μ' =>
    intro f ad' h' tk st2 S2 rf
    obtain ⟨fl, ρ'⟩ := z
    cases fl with
    | next =>
      cases rf.1
      exact p .none ad' h' tk (Step.call kp hf st2) S2.leave .none
    | ret v =>
      refine el_ea (rf.1) fun y e ry => ?_; subst e
      exact p y ad' h' tk (Step.call kp hf st2) S2.leave (ry.carry leave_carry)
theorem call_succ {tab : Str → Option DefRec} {cst : Str → Option V} {P : Par} {n : Nat} (G : GF P tab cst) (hs : SSs tab cst P n) {A : Around} {d : Nat} {fr : List Env} {L : Addr} {fs : List Addr} (c : Cx0 A d fr fs)
    {μ : M} {fd : DefRec} {vs : List V} {xs : List Value} {ad : List Addr} {s : Shared} {Q : Value → Shared → Prop} {E : Value → Shared → Prop} {a : Addr} {o : Obj} {pm code doc : Value}
    (ho : P.h₀.get? a = some o) (hd : o.data = .func (Calls.docDef fd.name fd.params fd.body fd.scope pm code doc)) (hc : P.h₀.CodeRec code fd.name)
    (S : Sim P fs ad μ s.heap) (r : RelL P s.heap ad fs vs xs) (p : PostG P [] fs L (RV P fs) (evCall tab cst (n + 1) d μ fd vs) ad s Q E) : wpAny (model P.prog P.w) A (call (.ref a) xs) Q E s := by
  cases d with
  | zero => exact p.elim
  | succ d =>
    replace p : PostG P [] fs L (RV P fs) (if defOk fd then (match (if fd.params.args.length = vs.length then some ((fd.params.args.map (·.arg)).zip vs) else none) with
      | some ρ => (evSs tab cst n d fd.scope ρ μ fd.body).bind fun r μ => match r.1 with
        | .ret v => .ok v μ
        | .next => .ok .none μ
      | none => .no) else .no) ad s Q E := p
    have D := DefOk.of p.iteT.1
    cases p.iteT.2.optR with | mk ρ hρ p =>
    refine ite_some hρ fun hl e => ?_
    subst e
    have hlx : (fd.params.args.map (·.arg)).length = xs.length := by rw [r.length, List.length_map]; exact hl
    refine wpAny_call (codeAny_call_cells (body := fd.body) (by have := c.depth; show A.depth < 1000; omega) (S.base a o ho) hd (G.nolimit.keeps S.base) (hc.keeps S.base) rfl (bind_plain D.plain D.nd hlx) rfl (fun x hx => (D.kinds x.1 (List.of_mem_zip hx).1).imp id fun q => ⟨q, cells_some (.inl q)⟩) (fun s₁ IC => ?_) D.co D.gen D.kind)
    refine el_ee (IC.toInCall.same) fun h1 tk1 e1 => ?_
    have kp : ∀ b o, s.heap.get? b = some o → s₁.heap.get? b = some o := IC.toInCall.keep
    have hns := IC.toInCall.ns
    have hcell := IC.cell
    have habove := IC.above
    subst e1
    have Z := call_zc (env := callEnvC (Calls.docDef fd.name fd.params fd.body fd.scope pm code doc) s.heap.objs.size a) c D rfl rfl rfl rfl rfl rfl
    have SC := S.enter (L := s.heap.objs.size) kp (solid_ns hns) (Nat.le_refl _)
    exact call_body (Q := Q) (E := E) hs Z rfl (Nat.le_refl _) kp SC.1 (call_loc D S rfl rfl rfl (Nat.le_refl _) hns hcell habove (r.carry SC.2)) p
theorem scall_succ {tab : Str → Option DefRec} {cst : Str → Option V} {P : Par} {n : Nat} (G : GF P tab cst) (hs : SSs tab cst P n) : SCall tab cst P (n + 1) := by
  intro A d fenv outer L fs c μ fd vs xs ad s Q E a o pm code doc ho hd hc S r p
  exact call_succ G hs ⟨c.frames, c.all, c.handled, c.depth, c.units⟩ ho hd hc S r p
end Mine
namespace Mine
theorem look_set {ρ : Rho} {x y : Str} {v : V} : (ρ.set x v).lookup y = if y = x then some v else ρ.lookup y := by
  unfold Rho.set
  rw [List.lookup_cons]
  by_cases h : y = x
  · subst h; simp
  · rw [beq_eq_false_iff_ne.mpr h, if_neg h]
    dsimp only
    induction ρ with
    | nil => rfl
    | cons p r ih =>
      rw [List.filter_cons]
      by_cases q : p.1 = x
      · have : (!(p.1 == x)) = false := by rw [q]; simp
        rw [this, if_neg (by decide), ih]
        obtain ⟨p1, p2⟩ := p
        rw [List.lookup_cons]
        cases q
        rw [beq_eq_false_iff_ne.mpr h]
      · have : (!(p.1 == x)) = true := by simpa using q
        rw [this, if_pos rfl]
        obtain ⟨p1, p2⟩ := p
        rw [List.lookup_cons, List.lookup_cons, ih]
section
variable {tab : Str → Option DefRec} {cst : Str → Option V} {P : Par} {n : Nat} {A : Around} {d : Nat} {fenv : Env} {outer : List Env} {L : Addr} {fs : List Addr} {env : Env} {sc : Scope} {ρ : Rho} {μ : M} {ad : List Addr} {s : Shared} {E : Value → Shared → Prop} {U : List Addr}
theorem Loc.same {ρ' : Rho} {h : Heap} (l : Loc P env fs ad ρ h) (e : ∀ x, ρ'.lookup x = ρ.lookup x) : Loc P env fs ad ρ' h := by
  refine el_ea (l) fun m n z => ?_; try clear l
  exact ⟨m, n, fun x v q => z x v (by rw [← e]; exact q)⟩
theorem Sim.frame {h h' : Heap} {a : Addr} (S : Sim P fs ad μ h) (ha : a ∈ fs) (hs : Heap.SameBut a h h') (hn : ∃ o, h'.get? a = some o ∧ ∀ vs, o.data ≠ .fields vs) (hk : ∀ m, h.Ns a m → ∃ m', h'.Ns a m') : Sim P fs ad μ h' ∧ Step [a] fs ad ad h h' := by
  have keep : ∀ b o, h.get? b = some o → b ∉ ad → b ∉ fs → h'.get? b = some o := fun b o e _ hb => (hs.2 b fun q => hb (q ▸ ha)).trans e
  have c : Carry h h' ad ad fs fs := ⟨fun b o e _ => keep b o e, fun _ _ _ q => q, fun _ _ _ q => q, fun _ _ e => e⟩
  refine ⟨⟨fun b o e => (hs.2 b fun q => S.baseFs e (q ▸ ha)).trans (S.base b o e), S.len, S.nd, fun i b l e1 e2 => ?_, S.adNew, S.fsNew, fun b hb => ?_, S.dj⟩,
    ⟨⟨[], by simp, fun _ q => nomatch q⟩, keep, fun b hb hu => .of_keep fun o e => (hs.2 b (fun q => hu (by rw [q]; simp))).trans e, fun b hb m n => ?_, fun b o e => ?_⟩⟩
  · refine el_ea (S.cell i b l e1 e2) fun items hn1n41 r => ?_; obtain ⟨o, e⟩ := hn1n41
    have hb : b ∈ ad := List.mem_iff_getElem?.mpr ⟨i, e1⟩
    exact ⟨items, ⟨o, (hs.2 b fun q => S.adFs hb (q ▸ ha)).trans e⟩, r.carry c⟩
  · by_cases q : b = a
    · subst q; exact hn
    · refine el_ea (S.fsAt b hb) fun o e n => ?_
      exact ⟨o, (hs.2 b q).trans e, n⟩
  · by_cases q : b = a
    · subst q; exact hk m n
    · exact ⟨m, n.sameBut hs q⟩
  · by_cases q : b = a
    · subst q; obtain ⟨o, e, _⟩ := hn; exact ⟨o, e⟩
    · exact ⟨o, (hs.2 b q).trans e⟩
def Stored (P : Par) (env : Env) (fs ad : List Addr) (μ : M) (ρ : Rho) (s : Shared) (Q : Unit → Shared → Prop) : Prop :=
  ∀ h' tk, Sim P fs ad μ h' → Step [env.locals] fs ad ad s.heap h' → Loc P env fs ad ρ h' → Q () { s with heap := h', toks := tk }
theorem store_local {x : Str} {v : V} {y : Value} {Q : Unit → Shared → Prop} (hk : env.scope.kind = .function) (hl : env.kindOf x = some .local) (hL : env.locals ∈ fs) (S : Sim P fs ad μ s.heap) (l : Loc P env fs ad ρ s.heap) (r : Rel P s.heap ad fs v y)
    (h : Stored P env fs ad μ (ρ.set x v) s Q) : wpAny (model P.prog P.w) A (storeName env x y) Q E s := by
  refine el_ea (l) fun m hn z => ?_; try clear l
  refine wpAny_storeName_local hl hn (fun h' hn' hs' => ?_) (by rw [hk]; rfl)
  refine el_a (S.frame hL hs' (solid_ns hn') fun _ _ => ⟨_, hn'⟩) fun S' st => ?_
  refine h h' _ S' st ⟨_, hn', fun w u q => ?_⟩
  rw [look_set] at q
  by_cases e : w = x
  · subst e
    rw [if_pos rfl] at q; cases q
    exact ⟨y, r.carry st.carry, .inl ⟨hl, if_pos rfl⟩⟩
  · rw [if_neg e] at q
    refine el_ea (z w u q) fun v' r' k => ?_
    refine ⟨v', r'.carry st.carry, k.imp (fun ⟨k1, k2⟩ => ⟨k1, by rw [if_neg e]; exact k2⟩) fun ⟨k, c, o, e1, e2, e3, e4, e5⟩ => ⟨k, c, o, e1, e2, e3, st.keep _ _ e4 e2 e3, e5⟩⟩
theorem Stored.after {h1 : Heap} {tk1 : Nat} {Q : Unit → Shared → Prop} (h : Stored P env fs ad μ ρ s Q) (st : Step [env.locals] fs ad ad s.heap h1) : Stored P env fs ad μ ρ { s with heap := h1, toks := tk1 } Q :=
  fun h' tk S' st' l => h h' tk S' (st.trans st') l
theorem bind_local {x : Str} {v : V} {y : Value} {Q : Unit → Shared → Prop} (hk : env.scope.kind = .function) (hl : env.kindOf x = some .local) (hL : env.locals ∈ fs) (S : Sim P fs ad μ s.heap) (l : Loc P env fs ad ρ s.heap) (r : Rel P s.heap ad fs v y)
    (h : Stored P env fs ad μ (ρ.set x v) s Q) : wpAny (model P.prog P.w) A (bindName env x y) Q E s := wpAny_bindName (store_local hk hl hL S l r h)
theorem assign_local {x : Str} {p : Pos} {v : V} {y : Value} {Q : Unit → Shared → Prop} (hk : env.scope.kind = .function) (hl : env.kindOf x = some .local) (hL : env.locals ∈ fs) (S : Sim P fs ad μ s.heap) (l : Loc P env fs ad ρ s.heap) (r : Rel P s.heap ad fs v y)
    (h : Stored P env fs ad μ (ρ.set x v) s Q) : wpAny (model P.prog P.w) A (assign (.Name x p) env y) Q E s := wpAny_assign_Name (store_local hk hl hL S l r h)
theorem store_chain {xs : List Str} {f : List (Value → Sem Unit)} (Z : EnvOk env sc L fs) (ok : ∀ x ∈ xs, sc.names.lookup x = some .local) (hf : f.length = xs.length)
    (hs : ∀ (i : Nat) x g, xs[i]? = some x → f[i]? = some g → ∀ {s : Shared} {ρ : Rho} {v : V} {y : Value} {Q : Unit → Shared → Prop}, Sim P fs ad μ s.heap → Loc P env fs ad ρ s.heap → Rel P s.heap ad fs v y → Stored P env fs ad μ (ρ.set x v) s Q → wpAny (model P.prog P.w) A (g y) Q E s) :
    ∀ {l : List V} {ys : List Value} {s : Shared} {ρ : Rho} {Q : Unit → Shared → Prop}, xs.length = l.length → Sim P fs ad μ s.heap → Loc P env fs ad ρ s.heap → RelL P s.heap ad fs l ys → Stored P env fs ad μ (setAll ρ xs l) s Q → wpAny (model P.prog P.w) A (assignInOrder f ys) Q E s := by
  induction xs generalizing f with
  | nil =>
    intro l ys s ρ Q hl S lc r h
    cases f with
    | cons _ _ => cases hf
    | nil => cases l with
      | cons _ _ => cases hl
      | nil => cases r.inv; exact wpAny_assignInOrder_none (h _ s.toks S .refl lc)
  | cons x xs ih =>
    intro l ys s ρ Q hl S lc r h
    cases f with
    | nil => cases hf
    | cons g f => cases l with
      | nil => cases hl
      | cons v l =>
        replace r := r.inv
        cases r with | mk r1 rs =>
        exact wpAny_assignInOrder_more (hs 0 x g rfl rfl S lc r1 fun h2 tk2 S2 st2 l2 =>
          ih (fun x hx => ok x (List.mem_cons_of_mem _ hx)) (Nat.succ.inj hf) (fun i x g e1 e2 => hs (i + 1) x g e1 e2) (Nat.succ.inj hl) S2 l2 (rs.carry st2.carry) fun h3 tk3 S3 st3 l3 => h h3 tk3 S3 (st2.trans st3) l3)
theorem NmL.each {es : List Expr} {xs : List Str} (n : NmL es xs) : (assignEach es env).length = xs.length ∧ (assignEach es env).findIdx? (·.1) = none ∧ ∀ (i : Nat) x g, xs[i]? = some x → ((assignEach es env).map (·.2))[i]? = some g → ∃ p, g = assign (.Name x p) env := by
  induction n with
  | nil => exact ⟨rfl, rfl, fun i x g e _ => by cases e⟩
  | cons x p _ ih =>
    refine ⟨congrArg (· + 1) ih.1, ?_, fun i y g e1 e2 => ?_⟩
    · show List.findIdx? (·.1) ((false, _) :: assignEach _ env) = none
      rw [List.findIdx?_cons, if_neg Bool.false_ne_true, ih.2.1]; rfl
    · cases i with
      | zero => exact ⟨p, (Option.some.inj e1) ▸ (Option.some.inj e2).symm⟩
      | succ i => exact ih.2.2 i y g e1 e2
theorem assign_ok {t : Expr} {v : V} {y : Value} {ρ' : Rho} {Q : Unit → Shared → Prop} (Z : EnvOk env sc L fs) (hh : A.handled = none) (S : Sim P fs ad μ s.heap) (l : Loc P env fs ad ρ s.heap) (r : Rel P s.heap ad fs v y) (e : AsgI sc ρ t v ρ')
    (h : Stored P env fs ad μ ρ' s Q) : wpAny (model P.prog P.w) A (assign t env y) Q E s := by
  cases e with
  | one x p v hk => exact assign_local Z.kind (Z.loc_ _ hk) Z.loc S l r h
  | tup es k p xs vs n hl ok =>
    replace r := r.inv
    cases r with | mk ho ha hf rr =>
    refine wpAny_assign_Tuple hh ho (by rw [n.each.1, hl, ← rr.length, Array.length_toList]) n.each.2.1 fun h1 hx => ?_
    have kp : ∀ b o, s.heap.get? b = some o → h1.get? b = some o := fun b o q => hx b o (Nat.ne_of_lt (Heap.lt_size q)) q
    have st1 : Step [] fs ad ad s.heap h1 := .of_keeps kp
    refine store_chain Z (nmsOk_inv ok).1 (by rw [List.length_map, n.each.1]) (fun i x g e1 e2 => ?_) hl (S.keeps kp) (l.step st1 Z.loc (by simp)) (rr.carry st1.carry) (h.after (st1.weaken (by simp)))
    intro _ _ _ _ _ S l r h
    obtain ⟨q, rfl⟩ := n.each.2.2 i x g e1 e2
    exact assign_local Z.kind (Z.loc_ _ ((nmsOk_inv ok).1 x (List.mem_of_getElem? e1))) Z.loc S l r h
end
end Mine
namespace Mine
section
variable {tab : Str → Option DefRec} {cst : Str → Option V} {P : Par} {n : Nat} {A : Around} {d : Nat} {fenv : Env} {outer : List Env} {L : Addr} {fs : List Addr} {env : Env} {sc : Scope} {ρ : Rho} {μ : M} {ad : List Addr} {s : Shared} {E : Value → Shared → Prop} {U : List Addr}
theorem blockKind_fn (hk : env.scope.kind = .function) : env.blockKind = .function := by unfold Env.blockKind; rw [hk]; rfl
theorem or_ite {α : Type} {c : Prop} [Decidable c] {a b z : α} (h : ¬ c → b = a ∨ b = z) : (if c then a else b) = a ∨ (if c then a else b) = z := by
  by_cases q : c
  · exact .inl (if_pos q)
  · rw [if_neg q]; exact h q
theorem NmL.lines {es : List Expr} {xs : List Str} (n : NmL es xs) {f : Expr → Option Str} (k : ∀ (x : Str) (p : Pos), f (.Name x p) = some x ∨ f (.Name x p) = none) : es.filterMap f = xs ∨ (es.filterMap f).length ≠ es.length := by
  induction n with
  | nil => exact .inl rfl
  | cons x p n ih =>
    rename_i es xs
    rw [List.filterMap_cons]
    rcases k x p with q | q
    · rw [q]
      exact ih.imp (fun e => congrArg (x :: ·) e) fun e h => e (Nat.succ.inj h)
    · rw [q]
      exact .inr fun h => Nat.not_succ_le_self es.length (Nat.le_trans (Nat.le_of_eq h.symm) (List.length_filterMap_le _ es))
theorem lines_end {l names : List Str} {m : Nat} {c : Bool} (h : ¬ (l.length != m || c) = true) (e : l = names ∨ l.length ≠ m) : (pure (some l) : Sem (Option (List Str))) = pure (some names) :=
  e.elim (fun q => congrArg (fun z => pure (some z)) q) fun q => absurd (Bool.or_eq_true_iff.mpr (.inl (bne_iff_ne.mpr q))) h
theorem sw_core {vs ts : List Expr} {nj ni : Nat} {i j : Pos} {names : List Str} (ok : swOk (.Tuple ts ni i) (.Tuple vs nj j) = true) (n : NmL ts names) :
    swappedStores [.Tuple ts ni i] (.Tuple vs nj j) env = pure none ∨ swappedStores [.Tuple ts ni i] (.Tuple vs nj j) env = pure (some names) := by
  have ok2 := Bool.or_eq_true_iff.mp (Bool.and_eq_true_iff.mp ok).2
  delta swappedStores
  refine or_ite fun _ => or_ite fun _ => or_ite fun h3 => or_ite fun h4 => .inr ?_
  have h5 : ¬ (vs.all (constantsAlone 8)) = true := fun h => by
    rcases ok2 with q | q
    · exact h4 q
    · rw [h] at q; cases q
  rw [if_neg h5]
  exact lines_end h3 (n.lines fun x p => (Classical.em _).imp (fun h => if_pos h) fun h => if_neg h)
theorem zip_has {xs : List Str} {l : List V} {w : Str} (h : w ∈ xs) (hl : xs.length = l.length) : ∃ v, (w, v) ∈ xs.zip l := by
  induction xs generalizing l with
  | nil => exact absurd h List.not_mem_nil
  | cons x xs ih => cases l with
    | nil => cases hl
    | cons v l =>
      rcases List.mem_cons.mp h with e | h
      · exact ⟨v, e ▸ List.mem_cons_self⟩
      · obtain ⟨v, q⟩ := ih h (Nat.succ.inj hl); exact ⟨v, List.mem_cons_of_mem _ q⟩
theorem setAll_out {xs : List Str} {w : Str} (h : w ∉ xs) : ∀ {ρ : Rho} {l : List V}, (setAll ρ xs l).lookup w = ρ.lookup w := by
  induction xs with
  | nil => intro ρ l; cases l <;> rfl
  | cons x xs ih =>
    intro ρ l
    cases l with
    | nil => rfl
    | cons v l => exact (ih (fun q => h (List.mem_cons_of_mem _ q))).trans (look_set.trans (if_neg fun q => h (by rw [q]; exact List.mem_cons_self)))
theorem setAll_in {xs : List Str} {w : Str} {v : V} (nd : xs.Nodup) : ∀ {ρ : Rho} {l : List V}, (w, v) ∈ xs.zip l → (setAll ρ xs l).lookup w = some v := by
  induction xs with
  | nil => intro ρ l h; exact absurd h List.not_mem_nil
  | cons x xs ih =>
    intro ρ l h
    cases l with
    | nil => exact absurd h List.not_mem_nil
    | cons u l =>
      rcases List.mem_cons.mp h with e | h
      · cases e; exact (setAll_out (List.nodup_cons.mp nd).1).trans (by rw [look_set, if_pos rfl])
      · exact ih (List.nodup_cons.mp nd).2 h
theorem setAll_rev {xs : List Str} {l : List V} (nd : xs.Nodup) (hl : xs.length = l.length) {ρ : Rho} (w : Str) : (setAll ρ xs l).lookup w = (setAll ρ xs.reverse l.reverse).lookup w := by
  by_cases h : w ∈ xs
  · obtain ⟨v, q⟩ := zip_has h hl
    rw [setAll_in nd q, setAll_in (List.pairwise_reverse.mpr (List.Pairwise.imp Ne.symm nd)) (v := v)]
    exact (show xs.reverse.zip l.reverse = (xs.zip l).reverse from (List.reverse_zipWith hl).symm) ▸ List.mem_reverse.mpr q
  · rw [setAll_out h, setAll_out (fun q => h (List.mem_reverse.mp q))]
theorem RelL.reverse {h : Heap} {l : List V} {xs : List Value} (r : RelL P h ad fs l xs) : RelL P h ad fs l.reverse xs.reverse := by
  induction l generalizing xs with
  | nil => cases r.inv; exact .nil
  | cons v l ih => cases r.inv with | mk r1 rs => rw [List.reverse_cons, List.reverse_cons]; exact (ih rs).append (.cons r1 .nil)
theorem swap_ok {es : List Expr} {k : Nat} {p : Pos} {xs : List Str} {vs : List V} {e : Expr} {y : Value} {Q : Flow → Shared → Prop} {st : List (Value → Sem Unit)} (Z : EnvOk env sc L fs) (hh : A.handled = none) (S : Sim P fs ad μ s.heap) (l : Loc P env fs ad ρ s.heap) (r : RTup P s.heap ad fs vs y)
    (hl : xs.length = vs.length) (ok : nmsOk sc xs = true) (q : swappedStores [.Tuple es k p] e env = pure (some xs)) (h : Stored P env fs ad μ (setAll ρ xs vs) s fun _ => Q .next) : wpAny (model P.prog P.w) A (do assignStores env y (← swappedStores [.Tuple es k p] e env) st) Q E s := by
  rw [q]
  refine wpAny_bind (wpAny_pure (wpAny_bind (wpAny_rule ?_)))
  cases r with | @mk a items ho ha hf rr =>
  rw [hl, ← rr.length, Array.length_toList]
  refine wpAny_bind (wpAny_unpackItems_tuple hh ho fun h1 hx => ?_)
  have kp : ∀ b o, s.heap.get? b = some o → h1.get? b = some o := fun b o q => hx b o (Nat.ne_of_lt (Heap.lt_size q)) q
  have st1 : Step [] fs ad ad s.heap h1 := .of_keeps kp
  have hin : ∀ x ∈ xs.reverse, sc.names.lookup x = some .local := fun x hx => (nmsOk_inv ok).1 x (List.mem_reverse.mp hx)
  refine wpAny_bind (store_chain (l := vs.reverse) Z hin (List.length_map ..) (fun i x g e1 e2 => ?_) (by rw [List.length_reverse, List.length_reverse, hl]) (S.keeps kp) (l.step st1 Z.loc (by simp)) (rr.carry st1.carry).reverse ?_)
  · intro _ _ _ _ _ S l r h
    rw [List.getElem?_map, e1] at e2
    cases Option.some.inj e2
    exact bind_local Z.kind (Z.loc_ _ (hin x (List.mem_of_getElem? e1))) Z.loc S l r h
  · exact fun h' tk S' st' l' => wpAny_pure (h h' tk S' ((st1.weaken (by simp)).trans st') (l'.same (setAll_rev (nmsOk_inv ok).2 hl)))
theorem stores_ok {t e : Expr} {v : V} {y : Value} {ρ' : Rho} {Q : Flow → Shared → Prop} (Z : EnvOk env sc L fs) (hh : A.handled = none) (S : Sim P fs ad μ s.heap) (l : Loc P env fs ad ρ s.heap) (r : Rel P s.heap ad fs v y) (ok : swOk t e = true) (ea : AsgI sc ρ t v ρ')
    (h : Stored P env fs ad μ ρ' s fun _ => Q .next) : wpAny (model P.prog P.w) A (do assignStores env y (← swappedStores [t] e env) ((assignEach [t] env).map (·.2))) Q E s := by
  have plain : (assignEach [t] env).map (·.2) = [assign t env] → swappedStores [t] e env = pure none → wpAny (model P.prog P.w) A (do assignStores env y (← swappedStores [t] e env) ((assignEach [t] env).map (·.2))) Q E s := fun e1 q => by
    rw [q, e1]
    refine wpAny_bind (wpAny_pure (wpAny_bind ?_))
    show wpAny _ A (assign t env y) _ E s
    exact wpAny_mono (assign_ok (Q := fun _ s' => Q .next s') Z hh S l r ea h) (fun _ _ x => wpAny_pure x) fun _ _ x => x
  cases ea with
  | one x p v hk => exact plain rfl rfl
  | tup es k p xs vs n hl okn =>
    cases e with
    | Tuple us nj j => exact (sw_core ok n).elim (plain rfl) fun q => swap_ok Z hh S l r.inv hl okn q h
    | _ => exact plain rfl rfl
end
end Mine
namespace Mine
section
variable {tab : Str → Option DefRec} {cst : Str → Option V} {P : Par} {n : Nat} {A : Around} {d : Nat} {fenv : Env} {outer : List Env} {L : Addr} {fs : List Addr} {env : Env} {sc : Scope} {ρ : Rho} {μ : M} {ad : List Addr} {s : Shared} {E : Value → Shared → Prop} {U : List Addr}
theorem nextU {α β γ δ : Type} {o : Out α} {R : Heap → List Addr → α → β → Prop} {R₂ : Heap → List Addr → γ → δ → Prop} {Q : β → Shared → Prop} {Q₂ : δ → Shared → Prop} {f : α → M → Out γ} (hp : PostG P U fs L R₂ (o.bind f) ad s Q₂ E)
    (hk : ∀ a μ1 b ad1 h1 tk1, o = .ok a μ1 → Step [] fs ad ad1 s.heap h1 → Sim P fs ad1 μ1 h1 → R h1 ad1 a b → PostG P U fs L R₂ (f a μ1) ad1 { s with heap := h1, toks := tk1 } Q₂ E → Q b { s with heap := h1, toks := tk1 }) : PostG P [] fs L R o ad s Q E := by
  cases o with
  | ok a μ => exact fun b ad' h' tk s2 sm r => hk a μ b ad' h' tk rfl s2 sm r (PostG.after (show PostG P U fs L R₂ (f a μ) ad s Q₂ E from hp) (s2.weaken (by simp)))
  | exc c μ => exact fun e fl ad' h' tk s2 sm x y => hp e fl ad' h' tk (s2.weaken (by simp)) sm x y
  | no => exact hp
theorem PostG.flow {fl : Fl} {ρ' : Rho} {f : Flow} {h' : Heap} {tk : Nat} {Q : Flow → Shared → Prop} (p : PostG P [L] fs L (RFl P env fs) (.ok (fl, ρ') μ) ad s Q E) (st : Step [L] fs ad ad s.heap h') (S : Sim P fs ad μ h')
    (hf : FlIs P fs h' ad fl f) (l : Loc P env fs ad ρ' h') : Q f { s with heap := h', toks := tk } :=
  p f ad h' tk st S ⟨hf, l⟩
theorem not_inter (Z : EnvOk env sc L fs) : interactive env = false := by unfold interactive; rw [Z.kind]; rfl
theorem expr_node {f : Expr} {as : List Expr} {cp pos : Pos} {Q : Flow → Shared → Prop} (he : SE tab cst P n) (Z : Zc A d env outer L fs env sc) (hL : env.locals = L) (t : St P env fs ad ρ μ s.heap)
    (p : PostG P [L] fs L (RFl P env fs) ((evE tab cst n d sc ρ μ (.Call f as [] cp)).bind fun _ μ => .ok (.next, ρ) μ) ad s Q E) : wpAny (model P.prog P.w) A (exec (.Expr (.Call f as [] cp) pos) env) Q E s := by
  refine wpAny_Expr_any (he Z t (nextU p fun v μ1 x ad1 h1 tk1 _ st1 S1 r1 p1 => ?_)) (not_inter Z.ev) rfl
  have t1 := t.step st1 S1 Z.ev.loc
  exact p1.flow (tk := tk1) .refl S1 rfl t1.l
theorem return_node {e : Expr} {pos : Pos} {Q : Flow → Shared → Prop} (he : SE tab cst P n) (Z : Zc A d env outer L fs env sc) (t : St P env fs ad ρ μ s.heap)
    (p : PostG P [L] fs L (RFl P env fs) ((evE tab cst n d sc ρ μ e).bind fun v μ => .ok (.ret v, ρ) μ) ad s Q E) : wpAny (model P.prog P.w) A (exec (.Return (some e) pos) env) Q E s := by
  refine wpAny_Return_some (he Z t (nextU p fun v μ1 x ad1 h1 tk1 _ st1 S1 r1 p1 => ?_))
  have t1 := t.step st1 S1 Z.ev.loc
  exact p1.flow (tk := tk1) .refl S1 ⟨x, rfl, r1⟩ t1.l
theorem return_none {pos : Pos} {Q : Flow → Shared → Prop} (t : St P env fs ad ρ μ s.heap)
    (p : PostG P [L] fs L (RFl P env fs) (.ok (.ret .none, ρ) μ) ad s Q E) : wpAny (model P.prog P.w) A (exec (.Return none pos) env) Q E s :=
  wpAny_Return_none (p.flow (tk := s.toks) .refl t.S ⟨.none, rfl, .none⟩ t.l)
theorem stored_flow {ρ' : Rho} {Q : Flow → Shared → Prop} (hL : env.locals = L) (p : PostG P [L] fs L (RFl P env fs) (.ok (.next, ρ') μ) ad s Q E) : Stored P env fs ad μ ρ' s fun _ => Q .next :=
  fun h' tk S st l => p.flow (tk := tk) (by rw [← hL]; exact st) S rfl l
theorem swaps_none {e : Expr} {t : Option Expr} {line : Nat} (h : ∀ a b c d, e ≠ .ListComp a b c d) (h2 : ∀ a b c d, e ≠ .SetComp a b c d) (h3 : ∀ a b c d f, e ≠ .DictComp a b c d f) : swapsWith e t line env = pure false := by
  cases e <;> first | rfl | exact absurd rfl (h _ _ _ _) | exact absurd rfl (h2 _ _ _ _) | exact absurd rfl (h3 _ _ _ _ _)
theorem assign_node {t e : Expr} {pos : Pos} {Q : Flow → Shared → Prop} (he : SE tab cst P n) (Z : Zc A d env outer L fs env sc) (hL : env.locals = L) (st : St P env fs ad ρ μ s.heap) (hs : swapsWith e (some t) pos.line env = pure false) (ok : swOk t e = true)
    (p : PostG P [L] fs L (RFl P env fs) ((evE tab cst n d sc ρ μ e).bind fun v μ => (match assignN sc ρ t v with
        | some ρ => .ok (.next, ρ) μ
        | none => .no)) ad s Q E) : wpAny (model P.prog P.w) A (exec (.Assign [t] e pos) env) Q E s := by
  rw [exec_Assign_arm]
  refine wpAny_bind (wpAny_standAt ?_)
  have hs' : swapsWithSole [t] e pos.line env = pure false := hs
  rw [hs']
  refine wpAny_bind (wpAny_pure ?_)
  rw [if_neg (by decide)]
  refine wpAny_bind (he Z st (nextU p fun v μ1 x ad1 h1 tk1 _ st1 S1 r1 p1 => ?_))
  have t1 := st.step st1 S1 Z.ev.loc
  cases p1.optR with | mk ρ' ea p1 => exact stores_ok Z.ev Z.cx.handled S1 t1.l r1 ok (assignN_inv ea) (stored_flow hL p1)
theorem setItem_ok {r : Nat} {a : Addr} {l : List V} {v : V} {x : Value} {j : Int} {tk : Tok} {Q : Unit → Shared → Prop} (S : Sim P fs ad μ s.heap) (hn : ad[r]? = some a) (hl : μ[r]? = some l) (rv : Rel P s.heap ad fs v x) (h0 : 0 ≤ j) (hj : j < l.length) (hz : small j = true)
    (h : ∀ h', Sim P fs ad (μ.set r (l.set j.toNat v)) h' → Step [] fs ad ad s.heap h' → Q () { s with heap := h' }) : wpAny (model P.prog P.w) A (setItem (.ref a) (.int j tk) x) Q E s := by
  refine el_ea (S.cell r a l hn hl) fun items hp rl => ?_
  have e1 := rl.length
  simp only [Array.length_toList] at e1
  have hL := hp.isList
  refine el_e (hp) fun k ho => ?_; try clear hp
  have hfit : j < 2 ^ 63 := by have := of_decide_eq_true hz; omega
  have fin : ∀ h', (s.heap.update a (Obj.mapSeq (·.setIfInBounds j.toNat x))) = h' → Q () { s with heap := h' } := fun h' e => by
    have hs := Heap.SameBut.update s.heap a (Obj.mapSeq fun xs => xs.setIfInBounds j.toNat x)
    rw [e] at hs
    have hp' : h'.PlainList a (items.setIfInBounds j.toNat x) := by
      rw [← e]
      have hq : ∃ k', Obj.mapSeq (fun xs => xs.setIfInBounds j.toNat x) { cls := .type "list", data := .seq items k } = { cls := .type "list", data := .seq (items.setIfInBounds j.toNat x) k' } := ⟨_, rfl⟩
      refine el_e (hq) fun k' hq => ?_
      exact ⟨k', by rw [Heap.get?_update_self _ ho (by rw [hq]; rfl), hq]⟩
    refine el_a (S.turn (U := []) (l := l.set j.toNat v) hn hs hp' (by rw [Array.toList_setIfInBounds]; exact RelL.set rv rl _)) fun S' st => ?_
    exact h h' S' st
  exact ki_setAt ho h0 hfit (by omega) (fin _ rfl)
theorem local_eval {x : Str} {pos : Pos} {Q : Value → Shared → Prop} (he : SE tab cst P n) (Z : Zc A d env outer L fs env sc) (t : St P env fs ad ρ μ s.heap) (p : PostG P [] fs L (RV P fs) (evE tab cst n d sc ρ μ (.Name x pos)) ad s Q E) :
    wpAny (model P.prog P.w) A (eval (.Name x pos) env) Q E s := he Z t p
inductive PRI {α : Type} (Φ : Out α → Prop) (k : Nat → Int → Out α) : V → V → Prop
  | mk (r : Nat) (j : Int) (p : Φ (k r j)) : PRI Φ k (.ref r) (.int j)
theorem PostG.refInt {α β : Type} {R : Heap → List Addr → α → β → Prop} {Q : β → Shared → Prop} {k : Nat → Int → Out α} {q j : V} (p : PostG P U fs L R (match (generalizing := false) q, j with | .ref r, .int j => k r j | _, _ => .no) ad s Q E) : PRI (fun o => PostG P U fs L R o ad s Q E) k q j := by
  cases q with
  | ref r => cases j with
    | int j => exact ⟨r, j, p⟩
    | _ => exact p.elim
  | _ => exact p.elim
theorem substore_node {o : Str} {i e : Expr} {op pp pos : Pos} {Q : Flow → Shared → Prop} (he : SE tab cst P n) (Z : Zc A d env outer L fs env sc) (hL : env.locals = L) (t : St P env fs ad ρ μ s.heap)
    (p : PostG P [L] fs L (RFl P env fs) ((evE tab cst n d sc ρ μ e).bind fun v μ => (evE tab cst n d sc ρ μ (.Name o op)).bind fun q μ => (evE tab cst n d sc ρ μ i).bind fun j μ => (match q, j with
        | .ref r, .int j => (match μ[r]? with
          | some l => if 0 ≤ j ∧ j < l.length ∧ small j = true then .ok (.next, ρ) (μ.set r (l.set j.toNat v)) else .no
          | none => .no)
        | _, _ => .no)) ad s Q E) : wpAny (model P.prog P.w) A (exec (.Assign [.Subscript (.Name o op) i pp] e pos) env) Q E s := by
  refine wpAny_Assign_Subscript (he Z t (nextU p fun v μ1 x ad1 h1 tk1 _ st1 S1 r1 p1 => ?_)) (by cases e <;> rfl)
  have t1 := t.step st1 S1 Z.ev.loc
  refine he Z t1 (nextU p1 fun q μ2 y ad2 h2 tk2 _ st2 S2 r2 p2 => ?_)
  have t2 := t1.step st2 S2 Z.ev.loc
  refine he Z t2 (nextU p2 fun j μ3 z ad3 h3 tk3 _ st3 S3 r3 p3 => ?_)
  have t3 := t2.step st3 S3 Z.ev.loc
  have rv := (r1.carry st2.carry).carry st3.carry
  replace p3 := p3.refInt
  replace r2 := (r2.carry st3.carry).inv
  replace r3 := r3.inv
  cases p3 with | mk r j p3 =>
  cases r2 with | mk hn =>
  cases r3 with | mk u =>
  cases p3.optL with | mk l hl p3 =>
  have hj := p3.iteT.1
  exact setItem_ok S3 hn hl rv hj.1 hj.2.1 hj.2.2 fun h4 S4 st4 => p3.iteT.2 .next ad3 h4 tk3 (st4.weaken (by simp)) S4 ⟨rfl, t3.l.step st4 Z.ev.loc (by simp)⟩
theorem aug_ok {op : Operator} {a v : V} {x y : Value} {r : Int} {Q : Value → Shared → Prop} (ra : Rel P s.heap ad fs a x) (rb : Rel P s.heap ad fs v y) (e : augV op a v = some r) (h : ∀ t tk, Q (.int r t) { s with toks := tk }) : wpAny (model P.prog P.w) A (inplaceOp op x y) Q E s := by
  replace e := augV_inv e
  replace ra := ra.inv
  replace rb := rb.inv
  cases e with
  | add i j => cases ra; cases rb; exact iadd_int (h _ _)
  | mul i j hs => cases ra; cases rb; exact imul_int (h _ _) (.of_left (small_bits (Bool.and_eq_true_iff.mp hs).1))
theorem aug_node {x : Str} {op : Operator} {e : Expr} {np pos : Pos} {Q : Flow → Shared → Prop} (he : SE tab cst P n) (Z : Zc A d env outer L fs env sc) (hL : env.locals = L) (t : St P env fs ad ρ μ s.heap)
    (p : PostG P [L] fs L (RFl P env fs) (if sc.names.lookup x = some .local then (match ρ.lookup x with
        | some a => (evE tab cst n d sc ρ μ e).bind fun v μ => (match augV op a v with
          | some r => .ok (.next, ρ.set x (.int r)) μ
          | none => .no)
        | none => .no) else .no) ad s Q E) : wpAny (model P.prog P.w) A (exec (.AugAssign (.Name x np) op e pos) env) Q E s := by
  have hl := Z.ev.loc_ _ p.iteT.1
  cases p.iteT.2.optV with | mk a ha p =>
  refine el_ea (t.l) fun m hm z => ?_
  refine el_ea (z x a ha) fun w rw_ k => ?_
  rcases k with ⟨_, hv⟩ | ⟨k, _⟩
  · refine wpAny_AugAssign_Name (wpAny_loadName_local Z.ev.kind hl hm hv ?_)
    refine he Z t (nextU p fun v μ1 y ad1 h1 tk1 _ st1 S1 r1 p1 => ?_)
    have t1 := t.step st1 S1 Z.ev.loc
    cases p1.optI with | mk r q p1 =>
    refine aug_ok (rw_.carry st1.carry) r1 q fun u tk => ?_
    exact store_local (Q := fun _ => Q .next) Z.ev.kind hl Z.ev.loc S1 t1.l (.int r u) fun h' tk' S' st' l' => stored_flow hL p1 h' tk' S' st' l'
  · rw [hl] at k; cases k
theorem if_node {c : Expr} {b o : List Stmt} {pos : Pos} {Q : Flow → Shared → Prop} (ht : ST tab cst P n) (hs : SSs tab cst P n) (Z : Zc A d env outer L fs env sc) (hL : env.locals = L) (t : St P env fs ad ρ μ s.heap)
    (p : PostG P [L] fs L (RFl P env fs) ((evT tab cst n d sc ρ μ c).bind fun c μ => if c then evSs tab cst n d sc ρ μ b else evSs tab cst n d sc ρ μ o) ad s Q E) : wpAny (model P.prog P.w) A (exec (.If c b o pos) env) Q E s := by
  refine wpAny_If (ht Z t (nextU p fun q μ1 x ad1 h1 tk1 _ st1 S1 r1 p1 => ?_))
  have t1 := t.step st1 S1 Z.ev.loc
  cases r1
  cases q with
  | true => exact hs Z hL t1 p1
  | false => exact hs Z hL t1 p1
theorem sss_succ (he : SS tab cst P n) (hs : SSs tab cst P n) : SSs tab cst P (n + 1) := by
  intro A d outer L fs env sc Z hL ρ μ b ad s Q E t p
  cases b with
  | nil => exact wpAny_execs_nil (p.flow (tk := s.toks) .refl t.S rfl t.l)
  | cons st r =>
    refine wpAny_execs_cons (he Z hL t (next p fun x μ1 f ad1 h1 tk1 st1 S1 rf p1 => ?_))
    obtain ⟨fl, ρ'⟩ := x
    refine el_a (rf) fun r1 l1 => ?_; try clear rf
    cases fl with
    | next =>
      cases r1
      exact hs Z hL ⟨S1, l1⟩ p1
    | ret v =>
      refine el_ea (r1) fun y hq1n200 ry => ?_; try clear r1; subst hq1n200
      exact PostG.flow (P := P) (ρ' := ρ') (fl := .ret v) (s := { s with heap := h1, toks := tk1 }) (h' := h1) (tk := tk1) p1 .refl S1 ⟨y, rfl, ry⟩ l1
end
end Mine
namespace Mine
section
variable {tab : Str → Option DefRec} {cst : Str → Option V} {P : Par} {n : Nat} {A : Around} {d : Nat} {fenv : Env} {outer : List Env} {L : Addr} {fs : List Addr} {env : Env} {sc : Scope} {ρ : Rho} {μ : M} {ad ad0 : List Addr} {s : Shared} {E : Value → Shared → Prop} {U : List Addr} {hs h h' : Heap}
theorem Side.ext {a : Addr} {o : Obj} {vs : Array Value} (n : New P hs fs ad a) (e : h.get? a = some o) (hd : o.data = .fields vs) (x : ∀ b o, b ≠ a → h.get? b = some o → h'.get? b = some o) : Side P hs fs ad h h' := by
  refine ⟨fun b hb o' e' => ⟨o'.slots, x b o' (fun q => n.nFs (q ▸ hb)) e'⟩, fun b o' e' hb => ?_⟩
  by_cases q : b = a
  · subst q
    rw [e] at e'; cases e'
    exact .inr ⟨n.newB, n.new, n.nAd, vs, hd⟩
  · exact .inl (x b o' q e')
theorem Side.ext2 {a b : Addr} {o u : Obj} {vs ws : Array Value} (n : New P hs fs ad a) (e : h.get? a = some o) (hd : o.data = .fields vs) (m : New P hs fs ad b) (f : h.get? b = some u) (hf : u.data = .fields ws)
    (x : ∀ c o, c ≠ a → c ≠ b → h.get? c = some o → h'.get? c = some o) : Side P hs fs ad h h' := by
  refine ⟨fun c hc o' e' => ⟨o'.slots, x c o' (fun q => n.nFs (q ▸ hc)) (fun q => m.nFs (q ▸ hc)) e'⟩, fun c o' e' hc => ?_⟩
  by_cases q : c = a
  · subst q
    rw [e] at e'; cases e'
    exact .inr ⟨n.newB, n.new, n.nAd, vs, hd⟩
  · by_cases q' : c = b
    · subst q'
      rw [f] at e'; cases e'
      exact .inr ⟨m.newB, m.new, m.nAd, ws, hf⟩
    · exact .inl (x c o' q q' e')
theorem New.step {U : List Addr} {ad' : List Addr} {a : Addr} {o : Obj} (n : New P hs fs ad a) (e : h.get? a = some o) (st : Step U fs ad ad' h h') : New P hs fs ad' a := ⟨n.new, n.newB, st.nAd e n.nAd, n.nFs⟩
theorem New.size {μ : M} (S : Sim P fs ad μ h) (st : Step U fs ad0 ad hs h) {a : Addr} (ha : h.objs.size ≤ a) : New P hs fs ad a := by
  have no : ∀ o, h.get? a = some o → False := fun o e => Nat.lt_irrefl _ (Nat.lt_of_lt_of_le (Heap.lt_size e) ha)
  refine ⟨?_, ?_, fun q => ?_, fun q => ?_⟩
  · cases q : hs.get? a with
    | none => rfl
    | some o => obtain ⟨o', q'⟩ := st.dom a o q; exact (no _ q').elim
  · cases q : P.h₀.get? a with
    | none => rfl
    | some o => exact (no _ (S.base a o q)).elim
  · refine el_eea (S.listAt q) fun _ o e _ => ?_; exact no _ e
  · refine el_ea (S.fsAt _ q) fun o e _ => ?_; exact no _ e
structure Iter (P : Par) (fs : List Addr) (hs : Heap) (it : Value) (tgt : Expr) (I : List V → List Addr → Heap → Prop) (J : List V → Value → List Addr → Heap → Prop) : Prop where
  next : ∀ {A : Around} {E : Value → Shared → Prop} {s : Shared} {Q : Option Value → Shared → Prop} {v : V} {r : List V} {ad : List Addr} {μ : M}, A.handled = none → I (v :: r) ad s.heap → Sim P fs ad μ s.heap →
    (∀ x h' tk, Side P hs fs ad s.heap h' → J r x ad h' → Rel P h' ad fs v x → Q (some x) { s with heap := h', toks := tk }) → wpAny (model P.prog P.w) A (pyNext it) Q E s
  go : ∀ {A : Around} {E : Value → Shared → Prop} {s : Shared} {Q : Unit → Shared → Prop} {r : List V} {x : Value} {ad : List Addr}, J r x ad s.heap → (∀ h', Side P hs fs ad s.heap h' → I r ad h' → Q () { s with heap := h' }) → wpAny (model P.prog P.w) A (letOwnedTupleGo tgt it x) Q E s
  stop : ∀ {A : Around} {E : Value → Shared → Prop} {s : Shared} {Q : Option Value → Shared → Prop} {ad : List Addr} {μ : M}, A.handled = none → I [] ad s.heap → Sim P fs ad μ s.heap →
    (∀ h', Side P hs fs ad s.heap h' → Q none { s with heap := h' }) → wpAny (model P.prog P.w) A (pyNext it) Q E s
  keep : ∀ {U : List Addr} {l : List V} {ad ad' : List Addr} {h h' : Heap}, I l ad h → Step U fs ad ad' h h' → I l ad' h'
  self : ∀ {A : Around} {E : Value → Shared → Prop} {s : Shared} {Q : Value → Shared → Prop} {l : List V} {ad : List Addr}, (∀ y z, letOwnedTupleGo tgt y z = pure ()) → I l ad s.heap → Q it s → wpAny (model P.prog P.w) A (pyIter it) Q E s
  same : (∀ y z, letOwnedTupleGo tgt y z = pure ()) → ∀ {r : List V} {x : Value} {ad : List Addr} {h : Heap}, J r x ad h → I r ad h
theorem drop_cons {xs : List Value} {i : Nat} {x : Value} {r : List Value} (h : xs.drop i = x :: r) : xs[i]? = some x ∧ xs.drop (i + 1) = r := by
  have h1 : (xs.drop i)[0]? = some x := by rw [h]; rfl
  rw [List.getElem?_drop] at h1
  refine ⟨by simpa using h1, ?_⟩
  have : (xs.drop i).drop 1 = r := by rw [h]; rfl
  rw [List.drop_drop] at this
  exact this
theorem drop_nil {xs : List Value} {i : Nat} (h : xs.drop i = []) : xs[i]? = none := by
  rw [List.getElem?_eq_none_iff]
  exact List.drop_eq_nil_iff.mp h
inductive LI (P : Par) (fs : List Addr) (hs : Heap) (a la : Addr) (l : List V) (ad : List Addr) (h : Heap) : Prop
  | mk : ∀ items i, New P hs fs ad a → h.IsListIter a la i → h.IsList la items → la ∉ ad → la ∉ fs → RelL P h ad fs l (items.toList.drop i) → LI P fs hs a la l ad h
theorem iter_list {x : Str} {p : Pos} {a la : Addr} : Iter P fs hs (.ref a) (.Name x p) (LI P fs hs a la) (fun r _ ad h => LI P fs hs a la r ad h) := by
  refine ⟨fun hh I S k => ?_, fun {A E s Q r x ad} J k => ?_, fun hh I S k => ?_, fun I st => ?_, fun _ I q => ?_, fun _ r x ad h J => J⟩
  · obtain ⟨items, i, n, hit, hl, f1, f2, rl⟩ := I
    generalize hd : items.toList.drop i = ds at rl
    cases rl with | cons rv rr =>
    refine el_a (drop_cons hd) fun e1 e2 => ?_
    rw [Array.getElem?_toList] at e1
    have hit0 := hit
    refine el_eaa (hit) fun o ho _ hod => ?_; try clear hit
    have hne : la ≠ a := fun q => by
      subst q
      refine el_eaae (hl) fun o' e' _ _ hd' => ?_; try clear hl
      rw [ho] at e'; cases e'; rw [hod] at hd'; cases hd'
    refine wpAny_pyNext_list_item hit0 hl e1 fun h' hit' hsb => ?_
    have sd : Side P hs fs _ _ h' := .ext n ho hod fun b o q e => (hsb.2 b q).trans e
    exact k _ h' _ sd ⟨items, i + 1, n, hit', hl.at fun o e => (hsb.2 _ hne).trans e, f1, f2, by rw [e2]; exact rr.carry sd.carry⟩ (rv.carry sd.carry)
  · exact wpAny_of_eq (a := ()) rfl (k _ .refl J)
  · obtain ⟨items, i, n, hit, hl, f1, f2, rl⟩ := I
    generalize hd : items.toList.drop i = ds at rl
    cases rl with | nil =>
    have e1 := drop_nil hd
    rw [Array.getElem?_toList] at e1
    have hit0 := hit
    refine el_eaa (hit) fun o ho _ hod => ?_; try clear hit
    exact wpAny_pyNext_list_end hh hit0 hl e1 fun h' x => k h' (.ext n ho hod x)
  · obtain ⟨items, i, n, hit, hl, f1, f2, rl⟩ := I
    refine el_ea (hit) fun o ho r => ?_; try clear hit
    refine el_ea (hl) fun ol hol r' => ?_; try clear hl
    exact ⟨items, i, n.step ho st, ⟨o, st.keep _ _ ho n.nAd n.nFs, r⟩, ⟨ol, st.keep _ _ hol f1 f2, r'⟩, st.nAd hol f1, f2, rl.carry st.carry⟩
  · obtain ⟨items, i, n, hit, hl, f1, f2, rl⟩ := I
    exact wpAny_pyIter_listiter hit q
def RI (P : Par) (fs : List Addr) (hs : Heap) (a : Addr) (l : List V) (ad : List Addr) (h : Heap) : Prop :=
  ∃ i m : Nat, New P hs fs ad a ∧ IsRangeIter h a i m 1 ∧ l = rangeFrom i m
theorem iter_range {x : Str} {p : Pos} {a : Addr} : Iter P fs hs (.ref a) (.Name x p) (RI P fs hs a) (fun r _ ad h => RI P fs hs a r ad h) := by
  refine ⟨fun hh I S k => ?_, fun {A E s Q r x ad} J k => ?_, fun hh I S k => ?_, fun I st => ?_, fun _ I q => ?_, fun _ r x ad h J => J⟩
  · refine el_eeaa (I) fun i m n hit hl => ?_; try clear I
    cases m with
    | zero => cases hl
    | succ m =>
      cases hl
      refine wpAny_pyNext_range_item hit (by omega) fun h' hit' hsb => ?_
      have sd : Side P hs fs _ _ h' := .ext n hit rfl fun b o q e => (hsb.2 b q).trans e
      refine k _ h' _ sd ⟨i + 1, m, n, ?_, rfl⟩ (.int _ _)
      have e : ((m + 1 : Nat) : Int) - 1 = m := by omega
      have e' : ((i : Nat) : Int) + 1 = ((i + 1 : Nat) : Int) := by omega
      rw [e, e'] at hit'
      exact hit'
  · exact wpAny_of_eq (a := ()) rfl (k _ .refl J)
  · refine el_eeaa (I) fun i m n hit hl => ?_; try clear I
    cases m with
    | succ m => cases hl
    | zero => exact wpAny_pyNext_range_end hh hit (by simp) fun h' x => k h' (.ext n hit rfl x)
  · refine el_eeaa (I) fun i m n hit hl => ?_; try clear I
    exact ⟨i, m, n.step hit st, st.keep _ _ hit n.nAd n.nFs, hl⟩
  · refine el_eeaa (I) fun i m n hit hl => ?_; try clear I
    exact wpAny_pyIter_rangeiter hit q
inductive EI (P : Par) (fs : List Addr) (hs : Heap) (e a la : Addr) (l : List V) (ad : List Addr) (h : Heap) : Prop
  | mk : ∀ items i old rest, New P hs fs ad e → New P hs fs ad a → e ≠ a → IsEnum h e a ((i : Nat) : Int) old → h.IsListIter a la i → h.IsList la items → la ∉ ad → la ∉ fs → l = enumFrom i rest → RelL P h ad fs rest (items.toList.drop i) → EI P fs hs e a la l ad h
inductive EJ (P : Par) (fs : List Addr) (hs : Heap) (e a la : Addr) (l : List V) (x : Value) (ad : List Addr) (h : Heap) : Prop
  | mk : ∀ items i old rest T, x = .ref T → New P hs fs ad e → New P hs fs ad a → e ≠ a → IsEnumOut h e a ((i : Nat) : Int) old T → h.IsListIter a la i → h.IsList la items → la ∉ ad → la ∉ fs → l = enumFrom i rest → RelL P h ad fs rest (items.toList.drop i) → EJ P fs hs e a la l x ad h
theorem list_ne {h : Heap} {la a : Addr} {items : Array Value} {o : Obj} {vs : Array Value} (hl : h.IsList la items) (e : h.get? a = some o) (hd : o.data = .fields vs) : la ≠ a := fun q => by
  subst q
  refine el_eaae (hl) fun o' e' _ _ hd' => ?_; try clear hl
  rw [e] at e'; cases e'; rw [hd] at hd'; cases hd'
theorem iter_enum {ts : List Expr} {k : Nat} {p : Pos} {e a la : Addr} : Iter P fs hs (.ref e) (.Tuple ts k p) (EI P fs hs e a la) (EJ P fs hs e a la) := by
  refine ⟨fun hh I S k => ?_, fun {A E s Q r x ad} J k => ?_, fun hh I S k => ?_, fun I st => ?_, fun bad => ?_, fun bad => ?_⟩
  · obtain ⟨items, i, old, rest, n1, n2, hne, he, hit, hl, f1, f2, hx, rl⟩ := I
    generalize hd : items.toList.drop i = ds at rl
    cases rl with
    | nil => cases hx
    | cons rv rr =>
    cases hx
    refine el_a (drop_cons hd) fun e1 e2 => ?_
    rw [Array.getElem?_toList] at e1
    have hit0 := hit
    refine el_eaa (hit) fun o ho _ hod => ?_; try clear hit
    have l1 := list_ne hl ho hod
    have l2 := list_ne hl he rfl
    refine wpAny_pyNext_enum_item he hit0 hl e1 hne fun h' out hit' tup hz kp => ?_
    have sd : Side P hs fs _ _ h' := .ext2 n1 he rfl n2 ho hod fun c o q q' e => kp c o q q' e
    have rv' := rv.carry sd.carry
    have e' : ((i : Nat) : Int) + 1 = ((i + 1 : Nat) : Int) := by omega
    rw [e'] at out
    refine k _ h' _ sd ⟨items, i + 1, _, _, _, rfl, n1, n2, hne, out, hit', hl.at fun o e => kp _ o l2 l1 e, f1, f2, rfl, by rw [e2]; exact rr.carry sd.carry⟩
      (.tup ⟨_, tup, rfl, _, rfl⟩ S.newAd S.newFs (.cons (.int _ _) (.cons rv' .nil)))
  · obtain ⟨items, i, old, rest, T, rfl, n1, n2, hne, he, hit, hl, f1, f2, hx, rl⟩ := J
    refine wpAny_letOwnedTupleGo_enum he fun h' he' hsb => ?_
    have sd : Side P hs fs _ _ h' := .ext n1 he rfl fun b o q e => (hsb.2 b q).trans e
    exact k h' sd ⟨items, i, old, rest, n1, n2, hne, he', hit.at fun o e => (hsb.2 _ (Ne.symm hne)).trans e, hl.at fun o e => (hsb.2 _ (list_ne hl he rfl)).trans e, f1, f2, hx, rl.carry sd.carry⟩
  · obtain ⟨items, i, old, rest, n1, n2, hne, he, hit, hl, f1, f2, hx, rl⟩ := I
    generalize hd : items.toList.drop i = ds at rl
    cases rl with
    | cons rv rr => cases hx
    | nil =>
    have e1 := drop_nil hd
    rw [Array.getElem?_toList] at e1
    have hit0 := hit
    refine el_eaa (hit) fun o ho _ hod => ?_; try clear hit
    exact wpAny_pyNext_enum_end hh he hit0 hl e1 fun h' x => k h' (.ext n2 ho hod x)
  · obtain ⟨items, i, old, rest, n1, n2, hne, he, hit, hl, f1, f2, hx, rl⟩ := I
    refine el_ea (hit) fun o ho r => ?_; try clear hit
    refine el_ea (hl) fun ol hol r' => ?_; try clear hl
    exact ⟨items, i, old, rest, n1.step he st, n2.step ho st, hne, st.keep _ _ he n1.nAd n1.nFs, ⟨o, st.keep _ _ ho n2.nAd n2.nFs, r⟩, ⟨ol, st.keep _ _ hol f1 f2, r'⟩, st.nAd hol f1, f2, hx, rl.carry st.carry⟩
  · exfalso
    have := bad (.ref 0) (.ref 0)
    unfold letOwnedTupleGo at this
    cases this
  · exfalso
    have := bad (.ref 0) (.ref 0)
    unfold letOwnedTupleGo at this
    cases this
structure IterF (P : Par) (hs : Heap) (it : Value) (tgt : Expr) (I : List Addr → List V → List Addr → Heap → Prop) (J : List Addr → List V → Value → List Addr → Heap → Prop) : Prop where
  at_ : ∀ fs, Iter P fs hs it tgt (I fs) (J fs)
  lift : ∀ {fs fs' : List Addr} {l : List V} {ad : List Addr} {h h' : Heap}, I fs l ad h → (∀ b o, h.get? b = some o → h'.get? b = some o) → (∀ b o, h.get? b = some o → b ∉ fs → b ∉ fs') → I fs' l ad h'
theorem New.lift {fs' : List Addr} {a : Addr} {o : Obj} (n : New P hs fs ad a) (e : h.get? a = some o) (k : ∀ b o, h.get? b = some o → b ∉ fs → b ∉ fs') : New P hs fs' ad a := ⟨n.new, n.newB, n.nAd, k _ _ e n.nFs⟩
theorem lift_carry {fs fs' : List Addr} (kp : ∀ b o, h.get? b = some o → h'.get? b = some o) (k : ∀ b o, h.get? b = some o → b ∉ fs → b ∉ fs') : Carry h h' ad ad fs fs' := ⟨fun b o e _ _ _ => kp b o e, fun _ _ _ q => q, k, fun _ _ q => q⟩
theorem iterF_list {x : Str} {p : Pos} {a la : Addr} : IterF P hs (.ref a) (.Name x p) (fun fs => LI P fs hs a la) (fun fs r _ ad h => LI P fs hs a la r ad h) := by
  refine ⟨fun fs => iter_list, fun I kp k => ?_⟩
  obtain ⟨items, i, n, ⟨o, ho, z⟩, ⟨ol, hol, z'⟩, f1, f2, rl⟩ := I
  exact ⟨items, i, n.lift ho k, ⟨o, kp _ _ ho, z⟩, ⟨ol, kp _ _ hol, z'⟩, f1, k _ _ hol f2, rl.carry (lift_carry kp k)⟩
theorem iterF_range {x : Str} {p : Pos} {a : Addr} : IterF P hs (.ref a) (.Name x p) (fun fs => RI P fs hs a) (fun fs r _ ad h => RI P fs hs a r ad h) := by
  refine ⟨fun fs => iter_range, fun I kp k => ?_⟩
  refine el_eeaa (I) fun i m n hit hl => ?_; try clear I
  exact ⟨i, m, n.lift hit k, kp _ _ hit, hl⟩
theorem iterF_enum {ts : List Expr} {k : Nat} {p : Pos} {e a la : Addr} : IterF P hs (.ref e) (.Tuple ts k p) (fun fs => EI P fs hs e a la) (fun fs => EJ P fs hs e a la) := by
  refine ⟨fun fs => iter_enum, fun I kp k => ?_⟩
  obtain ⟨items, i, old, rest, n1, n2, hne, he, ⟨o, ho, z⟩, ⟨ol, hol, z'⟩, f1, f2, hx, rl⟩ := I
  exact ⟨items, i, old, rest, n1.lift he k, n2.lift ho k, hne, kp _ _ he, ⟨o, kp _ _ ho, z⟩, ⟨ol, kp _ _ hol, z'⟩, f1, k _ _ hol f2, hx, rl.carry (lift_carry kp k)⟩
end
end Mine
namespace Mine
def RSrc (P : Par) (fs : List Addr) (hs : Heap) (tgt : Expr) : Heap → List Addr → Src → Value → Prop := fun h ad src it =>
  srcOk tgt src = true → ∃ I J, IterF P hs it tgt I J ∧ I fs src.items ad h
section
variable (tab : Str → Option DefRec) (cst : Str → Option V) (P : Par)
def SSrc (n : Nat) : Prop := ∀ {A : Around} {d : Nat} {fenv : Env} {outer : List Env} {L : Addr} {fs : List Addr} {env : Env} {sc : Scope}, Zc A d fenv outer L fs env sc →
  ∀ {ρ : Rho} {μ : M} {e : Expr} (tgt : Expr) {ad : List Addr} {s : Shared} {Q : Value → Shared → Prop} {E : Value → Shared → Prop}, St P env fs ad ρ μ s.heap →
  PostG P [] fs L (RSrc P fs s.heap tgt) (evSrc tab cst n d sc ρ μ e) ad s Q E → wpAny (model P.prog P.w) A (eval e env) (fun x s₁ => wpAny (model P.prog P.w) A (pyIter x) Q E s₁) E s
end
section
variable {tab : Str → Option DefRec} {cst : Str → Option V} {P : Par} {n : Nat} {A : Around} {d : Nat} {fenv : Env} {outer : List Env} {L : Addr} {fs : List Addr} {env : Env} {sc : Scope} {ρ : Rho} {μ : M} {ad ad0 : List Addr} {s : Shared} {E : Value → Shared → Prop} {U : List Addr} {hs h h' : Heap}
theorem tgt_flat {tgt : Expr} {src : Src} (ok : srcOk tgt src = true) (hf : src.flat = true) : IsNmI tgt := by
  cases srcOk_inv ok with
  | flat x p _ _ => exact ⟨x, p⟩
  | enum _ _ _ _ h => rw [hf] at h; exact nof h
inductive IsTupE : Expr → Prop
  | mk (ts : List Expr) (k : Nat) (p : Pos) : IsTupE (.Tuple ts k p)
theorem tgt_enum {tgt : Expr} {src : Src} (ok : srcOk tgt src = true) (hf : src.flat = false) : IsTupE tgt := by
  cases srcOk_inv ok with
  | flat x p _ h => rw [hf] at h; exact nof h
  | enum ts k p _ _ => exact ⟨ts, k, p⟩
theorem one_arg {a : Expr} {Q : List Value → Shared → Prop} (h : wpAny (model P.prog P.w) A (eval a env) (fun x s₁ => Q [x] s₁) E s) : wpAny (model P.prog P.w) A (spliced ([a].map fun e => (false, eval e env))) Q E s :=
  Calls.spliced_cons (wpAny_mono h (fun _ _ x => Calls.spliced_nil x) fun _ _ x => x)
theorem src_plain {e : Expr} {tgt : Expr} {Q : Value → Shared → Prop} (he : SE tab cst P n) (Z : Zc A d fenv outer L fs env sc) (t : St P env fs ad ρ μ s.heap)
    (p : PostG P [] fs L (RSrc P fs s.heap tgt) ((evE tab cst n d sc ρ μ e).bind fun v μ => match v with
      | .lst l => .ok (.list l) μ
      | _ => .no) ad s Q E) : wpAny (model P.prog P.w) A (eval e env) (fun x s₁ => wpAny (model P.prog P.w) A (pyIter x) Q E s₁) E s := by
  refine he Z t (next p fun v μ1 x ad1 h1 tk1 st1 S1 r1 p1 => ?_)
  replace p1 := p1.lstK
  replace r1 := r1.inv
  cases p1 with | mk l p1 =>
  cases r1 with | @mk a items ho ha hf rl =>
  refine wpAny_pyIter_list ho ?_
  refine p1 _ ad1 _ tk1 (.of_keeps (push_keeps _)) (S1.keeps (push_keeps _)) fun ok => ?_
  cases tgt_flat ok rfl with | mk x px =>
  refine el_ea (ho) fun o e0 z => ?_
  exact ⟨_, _, iterF_list, items, 0, New.size S1 st1 (Nat.le_refl _), ⟨_, Heap.get?_push_size _ rfl, rfl, rfl⟩, ⟨o, push_keeps _ _ _ e0, z⟩, ha, hf, by rw [List.drop_zero]; exact rl.carry (Carry.of_keeps (push_keeps _))⟩
theorem range_nat (i : Int) : Builtin.Range.rangeSize 0 i 1 = ((i.toNat : Nat) : Int) := by rw [rangeSize_one]; split <;> omega
theorem src_range {a : Expr} {np pos : Pos} {tgt : Expr} {Q : Value → Shared → Prop} (G : GG P tab cst) (he : SE tab cst P n) (Z : Zc A d fenv outer L fs env sc) (t : St P env fs ad ρ μ s.heap) (hp : plainEs [a] = true) (hg : isGlobal sc "range" = true)
    (p : PostG P [] fs L (RSrc P fs s.heap tgt) ((evE tab cst n d sc ρ μ a).bind fun v μ => (match v with
          | .int i => if small i then .ok (.range i) μ else .no
          | _ => .no)) ad s Q E) : wpAny (model P.prog P.w) A (eval (.Call (.Name "range" np) [a] [] pos) env) (fun x s₁ => wpAny (model P.prog P.w) A (pyIter x) Q E s₁) E s := by
  refine wpAny_Call_NameR ?_
  rw [args_plain hp]
  refine builtin_name G.gf Z.ev t.S hg G.rng.1 G.rng.2 ?_
  refine PySem.callWith_type args_any (evalArgs_of (one_arg (he Z t (next p fun v μ1 x ad1 h1 tk1 st1 S1 r1 p1 => ?_))))
  replace p1 := p1.intK
  replace r1 := r1.inv
  cases p1 with | mk i p1 =>
  cases r1 with | mk u =>
  have hz' := of_decide_eq_true p1.iteT.1
  replace p1 := p1.iteT.2
  refine call_range_1 ?_
  have S2 := S1.keeps (push_keeps (h := h1) { cls := .type "range", data := .fields #[.int 0 tk1, .int i u, .int 1 (tk1 + 1)] })
  have st2 : Step [] fs ad1 ad1 h1 (h1.push { cls := .type "range", data := .fields #[.int 0 tk1, .int i u, .int 1 (tk1 + 1)] }) := .of_keeps (push_keeps _)
  refine wpAny_pyIter_range (IsRange.new ..) (small_one (by decide) (by decide) (by omega) (by omega)) ?_
  refine PostG.after p1 st2 (tk1 := tk1 + 1 + 1) _ ad1 _ _ (.of_keeps (push_keeps _)) (S2.keeps (push_keeps _)) fun ok => ?_
  cases tgt_flat ok rfl with | mk x px =>
  refine ⟨_, _, iterF_range, 0, i.toNat, New.size S2 (st1.trans st2) (Nat.le_refl _), ?_, rfl⟩
  show Heap.get? _ _ = some _
  rw [Heap.get?_push_size _ rfl, range_nat]
  rfl
theorem src_enum {a : Expr} {np pos : Pos} {tgt : Expr} {Q : Value → Shared → Prop} (G : GG P tab cst) (he : SE tab cst P n) (Z : Zc A d fenv outer L fs env sc) (t : St P env fs ad ρ μ s.heap) (hp : plainEs [a] = true) (hg : isGlobal sc "enumerate" = true)
    (p : PostG P [] fs L (RSrc P fs s.heap tgt) ((evE tab cst n d sc ρ μ a).bind fun v μ => (match v with
          | .lst l => .ok (.enum l) μ
          | _ => .no)) ad s Q E) : wpAny (model P.prog P.w) A (eval (.Call (.Name "enumerate" np) [a] [] pos) env) (fun x s₁ => wpAny (model P.prog P.w) A (pyIter x) Q E s₁) E s := by
  refine wpAny_Call_NameR ?_
  rw [args_plain hp]
  refine builtin_name G.gf Z.ev t.S hg G.enm.1 G.enm.2 ?_
  refine PySem.callWith_type args_any (evalArgs_of (one_arg (he Z t (next p fun v μ1 x ad1 h1 tk1 st1 S1 r1 p1 => ?_))))
  replace p1 := p1.lstK
  replace r1 := r1.inv
  cases p1 with | mk l p1 =>
  cases r1 with | @mk a' items ho ha hf rl =>
  refine call_enumerate_list ho fun h2 en li _ kp => ?_
  refine wpAny_pyIter_enum en ?_
  refine p1 _ ad1 h2 tk1 (.of_keeps kp) (S1.keeps kp) fun ok => ?_
  cases tgt_enum ok rfl with | mk ts k px =>
  refine el_ea (ho) fun o e0 z => ?_
  exact ⟨_, _, iterF_enum, items, 0, _, l, New.size S1 st1 (Nat.le_succ _), New.size S1 st1 (Nat.le_refl _), Nat.succ_ne_self _, en, li, ⟨o, kp _ _ e0, z⟩, ha, hf, rfl, by rw [List.drop_zero]; exact rl.carry (Carry.of_keeps kp)⟩
theorem src_name {sc : Scope} {f x : Str} {b : Bool} (h : (isGlobal sc f && f == x && b) = true) : isGlobal sc f = true ∧ f = x := by
  simp only [Bool.and_eq_true, beq_iff_eq] at h; exact h.1
theorem ssrc_succ (G : GG P tab cst) (he : SE tab cst P n) : SSrc tab cst P (n + 1) := by
  intro A d fenv outer L fs env sc Z ρ μ e tgt ad s Q E t p
  replace p : PostG P [] fs L (RSrc P fs s.heap tgt) (match srcK e with
    | some (f, a) => if !plainEs [a] then .no else if isGlobal sc f && f == ("range" : Str) && (tab f).isNone then (evE tab cst n d sc ρ μ a).bind fun v μ => (match v with
          | .int i => if small i then .ok (.range i) μ else .no
          | _ => .no)
        else if isGlobal sc f && f == ("enumerate" : Str) && (tab f).isNone then (evE tab cst n d sc ρ μ a).bind fun v μ => (match v with
          | .lst l => .ok (.enum l) μ
          | _ => .no)
        else .no
    | none => (evE tab cst n d sc ρ μ e).bind fun v μ => match v with
      | .lst l => .ok (.list l) μ
      | _ => .no) ad s Q E := p
  cases hk : srcK e with
  | none => rw [hk] at p; exact src_plain he Z t p
  | some q =>
    rw [hk] at p
    obtain ⟨f, a⟩ := q
    cases srcK_inv hk with | mk np pos =>
    replace p := p.iteF
    have hp : plainEs [a] = true := by simpa using p.1
    replace p := p.2
    by_cases hc : (isGlobal sc f && f == ("range" : Str) && (tab f).isNone) = true
    · rw [if_pos hc] at p
      obtain ⟨hg, rfl⟩ := src_name hc
      exact src_range G he Z t hp hg p
    · rw [if_neg hc] at p
      obtain ⟨hg, rfl⟩ := src_name p.iteT.1
      exact src_enum G he Z t hp hg p.iteT.2
end
end Mine
namespace Mine
section
variable {tab : Str → Option DefRec} {cst : Str → Option V} {P : Par} {n : Nat} {A : Around} {d : Nat} {fenv : Env} {outer : List Env} {L : Addr} {fs : List Addr} {env : Env} {sc : Scope} {ρ : Rho} {μ : M} {ad ad0 : List Addr} {s : Shared} {E : Value → Shared → Prop} {U : List Addr} {hs h h' : Heap}
theorem Cx.less {d' : Nat} (c : Cx A d fenv outer L fs) (h : d' ≤ d) : Cx A d' fenv outer L fs :=
  ⟨c.frames, c.frame, c.all, c.handled, by have := c.depth; omega, by have := c.units; omega⟩
theorem PostG.loop {α β : Type} {R : Heap → List Addr → α → β → Prop} {o : Out α} {Q : β → Shared → Prop} (c : Cx A d env outer L fs) (p : PostG P U fs L R o ad s Q E) :
    PostG P U fs L R o ad s Q (notedBy (model P.prog P.w) A env (cameBackBy (model P.prog P.w) A env E)) := by
  cases o with
  | ok a μ => exact p
  | no => exact p
  | exc k μ =>
    intro e fl ad' h1 tk st S x f
    unfold notedBy
    refine note_ok (s := { s with heap := h1, toks := tk }) c S st x f fun h2 sd x2 => ?_
    unfold cameBackBy
    obtain ⟨n, dx, od, m, t, a0, hd, r, n1, n2, n3, e1, e2, e3, T, hT, _⟩ := x2.open_
    subst hT
    obtain ⟨oe, vs, q1, q2, q3, q4, q5, q6⟩ := r.r
    refine wpAny_bind (wpAny_field q1 q4 q6 ?_)
    rw [if_neg (by simp)]
    refine flight_ok (s := { s with heap := h2, toks := tk }) (st.side sd) x2 fun h3 sd3 x3 => ?_
    refine p e _ ad' h3 tk ((st.side sd).side sd3) ((S.side sd).side sd3) x3 ?_
    rw [c.frame]
    exact .inr rfl
theorem Loc.side {h h' : Heap} (l : Loc P env fs ad ρ h) (sd : Side P hs fs ad h h') (hl : env.locals ∈ fs) : Loc P env fs ad ρ h' := by
  refine el_ea (l) fun m n z => ?_; try clear l
  refine ⟨m, sd.ns hl n, fun x v q => ?_⟩
  refine el_ea (z x v q) fun v' r y => ?_
  refine ⟨v', r.carry sd.carry, y.imp id fun ⟨k, c, o, e1, e2, e3, e4, e5⟩ => ⟨k, c, o, e1, e2, e3, sd.keepN e4 (fun vs q => by rw [e5] at q; cases q) e3, e5⟩⟩
inductive WInv (tab : Str → Option DefRec) (cst : Str → Option V) (P : Par) (n d : Nat) (sc : Scope) (env : Env) (fs : List Addr) (L : Addr) (c : Expr) (b : List Stmt) (Q : Flow → Shared → Prop) (E : Value → Shared → Prop) (k : Nat) (s' : Shared) : Prop
  | mk (hk : k ≤ n) (ρ' : Rho) (μ' : M) (ad' : List Addr) (t' : St P env fs ad' ρ' μ' s'.heap) (p' : PostG P [L] fs L (RFl P env fs) (evW tab cst k (d - 1) sc ρ' μ' c b) ad' s' Q E) : WInv tab cst P n d sc env fs L c b Q E k s'
theorem while_node {c : Expr} {b : List Stmt} {pos : Pos} {Q : Flow → Shared → Prop} (ht : ∀ m ≤ n, ST tab cst P m) (hs : ∀ m ≤ n, SSs tab cst P m) (Z : Zc A d env outer L fs env sc) (hL : env.locals = L) (t : St P env fs ad ρ μ s.heap)
    (p : PostG P [L] fs L (RFl P env fs) (if d = 0 then .no else evW tab cst n (d - 1) sc ρ μ c b) ad s Q E) : wpAny (model P.prog P.w) A (exec (.While c b [] pos) env) Q E s := by
  replace p := p.iteF.2
  have Z' : Zc A (d - 1) env outer L fs env sc := ⟨Z.cx.less (Nat.sub_le _ _), Z.ev⟩
  refine wpAny_While (codeAny_whileLoop (R := fun r s' => match r with | .ok f => Q f s' | .error e => cameBackBy (model P.prog P.w) A env E e s')
    (WInv tab cst P n d sc env fs L c b Q E) (fun k s' I => ?_) n ⟨Nat.le_refl _, ρ, μ, ad, t, p⟩)
  cases I with | mk hk ρ' μ' ad' t' p' =>
  cases k with
  | zero => exact p'.elim
  | succ k =>
    have hk' : k ≤ n := Nat.le_of_succ_le hk
    replace p' : PostG P [L] fs L (RFl P env fs) ((evT tab cst k (d - 1) sc ρ' μ' c).bind fun c' μ => if c' then (evSs tab cst k (d - 1) sc ρ' μ b).bind fun x μ => (match x.1 with
      | .next => evW tab cst k (d - 1) sc x.2 μ c b
      | .ret v => .ok (.ret v, x.2) μ) else .ok (.next, ρ') μ) ad' s' Q E := p'
    refine ht k hk' Z' t' (nextU (p'.loop Z.cx) fun q μ1 x ad1 h1 tk1 ev1 st1 S1 r1 p1 => ?_)
    have t1 := t'.step st1 S1 Z.ev.loc
    cases r1
    rw [ev1] at p'
    have p2 := PostG.after (tk1 := tk1) (show PostG P [L] fs L (RFl P env fs) (if q = true then (evSs tab cst k (d - 1) sc ρ' μ1 b).bind fun x μ => (match x.1 with
      | .next => evW tab cst k (d - 1) sc x.2 μ c b
      | .ret v => .ok (.ret v, x.2) μ) else .ok (.next, ρ') μ1) ad' s' Q E from p') (st1.weaken (by simp))
    cases q with
    | false => exact wpAny_execs_nil (p2 .next ad1 h1 tk1 .refl S1 ⟨rfl, t1.l⟩)
    | true =>
      refine hs k hk' Z' hL t1 (nextE (f := fun x μ => (match x.1 with
        | .next => evW tab cst k (d - 1) sc x.2 μ c b
        | .ret v => .ok (.ret v, x.2) μ)) p1 fun x μ3 f ad3 h3 tk3 ev3 st3 S3 rf _ => ?_)
      replace p2 : PostG P [L] fs L (RFl P env fs) ((evSs tab cst k (d - 1) sc ρ' μ1 b).bind fun x μ => (match x.1 with
        | .next => evW tab cst k (d - 1) sc x.2 μ c b
        | .ret v => .ok (.ret v, x.2) μ)) ad1 _ Q E := p2
      rw [ev3] at p2
      obtain ⟨fl, ρ3⟩ := x
      cases fl with
      | next =>
        cases rf.1
        exact ⟨k, Nat.lt_succ_self k, hk', ρ3, μ3, ad3, ⟨S3, rf.2⟩, PostG.after p2 st3⟩
      | ret v =>
        refine el_ea (rf.1) fun y e ry => ?_; subst e
        exact p2 (.ret y) ad3 h3 tk3 st3 S3 ⟨⟨y, rfl, ry⟩, rf.2⟩
theorem src_fold {e : Expr} {o : Out Src} (h : evSrc tab cst n d sc ρ μ e = o) (hn : o ≠ .no) : ∀ x, foldedSetIterable e env x = pure x := by
  cases e with
  | Set es k p =>
    exfalso
    apply hn
    rw [← h]
    cases n with
    | zero => rfl
    | succ n =>
      cases n with
      | zero => rfl
      | succ n => rfl
  | _ => intro x; rfl
inductive FInv (tab : Str → Option DefRec) (cst : Str → Option V) (P : Par) (n d : Nat) (sc : Scope) (env : Env) (fs ad : List Addr) (L : Addr) (s : Shared) (tgt : Expr) (b : List Stmt) (I : List V → List Addr → Heap → Prop) (Q : Flow → Shared → Prop) (E : Value → Shared → Prop) (k : Nat) (s' : Shared) : Prop
  | mk : k ≤ n → ∀ l ρ' μ' ad' h' tk', s' = { s with heap := h', toks := tk' } → Step [L] fs ad ad' s.heap h' → St P env fs ad' ρ' μ' h' → I l ad' h' →
      PostG P [L] fs L (RFl P env fs) (evF tab cst k (d - 1) sc ρ' μ' tgt b l) ad s Q E → FInv tab cst P n d sc env fs ad L s tgt b I Q E k s'
theorem for_node {tgt it : Expr} {b : List Stmt} {pos : Pos} {Q : Flow → Shared → Prop} (hsrc : SSrc tab cst P n) (hs : ∀ m ≤ n, SSs tab cst P m) (Z : Zc A d env outer L fs env sc) (hL : env.locals = L) (t : St P env fs ad ρ μ s.heap)
    (p : PostG P [L] fs L (RFl P env fs) (if d = 0 then .no else (evSrc tab cst n d sc ρ μ it).bind fun src μ => if srcOk tgt src then evF tab cst n (d - 1) sc ρ μ tgt b src.items else .no) ad s Q E) :
    wpAny (model P.prog P.w) A (exec (.For tgt it b [] pos) env) Q E s := by
  replace p := p.iteF.2
  have Z' : Zc A (d - 1) env outer L fs env sc := ⟨Z.cx.less (Nat.sub_le _ _), Z.ev⟩
  have hne : evSrc tab cst n d sc ρ μ it ≠ .no := fun q => by rw [q] at p; exact p
  refine wpAny_For (hsrc Z tgt t (nextU p fun src μ1 itv ad1 h1 tk1 ev1 st1 S1 r1 _ => ?_)) (src_fold rfl hne)
  have t1 := t.step st1 S1 Z.ev.loc
  rw [ev1] at p
  replace p : PostG P [L] fs L (RFl P env fs) (if srcOk tgt src = true then evF tab cst n (d - 1) sc ρ μ1 tgt b src.items else .no) ad s Q E := p
  have hok := p.iteT.1
  replace p := p.iteT.2
  refine el_eea (r1 hok) fun IF JF WF hI => ?_
  have W := WF.at_ fs
  generalize IF fs = I at W hI
  generalize JF fs = J at W
  refine codeAny_forLoop_any (R := fun r s' => match r with | .ok f => Q f s' | .error e => cameBackBy (model P.prog P.w) A env E e s')
    (FInv tab cst P n d sc env fs ad L s tgt b I Q E) (fun k s' Iv => ?_) n
    ⟨Nat.le_refl _, src.items, ρ, μ1, ad1, h1, tk1, rfl, st1.weaken (by simp), t1, hI, p⟩
  obtain ⟨hk, l, ρ', μ', ad', h', tk', rfl, sd0, t', hI', p'⟩ := Iv
  cases k with
  | zero => exact p'.elim
  | succ k =>
    have hk' : k ≤ n := Nat.le_of_succ_le hk
    cases l with
    | nil =>
      refine W.stop (s := { s with heap := h', toks := tk' }) Z.cx.handled hI' t'.S fun h2 sd => wpAny_execs_nil ?_
      exact p' .next ad' h2 tk' (sd0.side sd) (t'.S.side sd) ⟨rfl, t'.l.side sd Z.ev.loc⟩
    | cons v r =>
      replace p' : PostG P [L] fs L (RFl P env fs) (match assignN sc ρ' tgt v with
        | some ρ => (evSs tab cst k (d - 1) sc ρ μ' b).bind fun x μ => (match x.1 with
          | .next => evF tab cst k (d - 1) sc x.2 μ tgt b r
          | .ret v => .ok (.ret v, x.2) μ)
        | none => .no) ad s Q E := p'
      cases p'.optR with | mk ρ2 ea p' =>
      refine W.next (s := { s with heap := h', toks := tk' }) Z.cx.handled hI' t'.S fun x h2 tk2 sd2 hJ rx => ?_
      refine W.go (s := { s with heap := h2, toks := tk2 }) hJ fun h3 sd3 hI3 => ?_
      have sd0' := (sd0.side sd2).side sd3
      refine assign_ok (s := { s with heap := h3, toks := tk2 }) Z.ev Z.cx.handled ((t'.S.side sd2).side sd3) ((t'.l.side sd2 Z.ev.loc).side sd3 Z.ev.loc) (rx.carry sd3.carry) (assignN_inv ea) fun h4 tk4 S4 st4 l4 => ?_
      rw [hL] at st4
      have st40 := sd0'.trans st4
      have pl := PostG.after (tk1 := tk4) (p'.loop Z.cx) st40
      refine hs k hk' Z' hL ⟨S4, l4⟩ (nextE pl fun x μ3 f ad5 h5 tk5 ev5 st5 S5 rf _ => ?_)
      rw [ev5] at p'
      obtain ⟨fl, ρ3⟩ := x
      cases fl with
      | next =>
        cases rf.1
        exact ⟨k, Nat.lt_succ_self k, hk', r, ρ3, μ3, ad5, h5, tk5, rfl, st40.trans st5, ⟨S5, rf.2⟩, W.keep (W.keep hI3 st4) st5, p'⟩
      | ret v =>
        refine el_ea (rf.1) fun y e ry => ?_; subst e
        exact p' (.ret y) ad5 h5 tk5 (st40.trans st5) S5 ⟨⟨y, rfl, ry⟩, rf.2⟩
end
end Mine
namespace Mine
theorem look_filter {q : Str → Bool} {y : Str} {ρ : Rho} : (ρ.filter fun p => q p.1).lookup y = if q y then ρ.lookup y else none := by
  induction ρ with
  | nil => exact (ite_self _).symm
  | cons p r ih =>
    obtain ⟨x, v⟩ := p
    rw [List.filter_cons, List.lookup_cons]
    by_cases h : y = x
    · subst h
      rw [beq_self_eq_true]
      cases hq : q y with
      | true => show List.lookup y ((y, v) :: _) = _; rw [List.lookup_cons, beq_self_eq_true]; rfl
      | false => rw [hq] at ih; exact ih
    · rw [beq_eq_false_iff_ne.mpr h]
      refine Eq.trans ?_ ih
      cases hq : q x with
      | true => show List.lookup y ((x, v) :: _) = _; rw [List.lookup_cons, beq_eq_false_iff_ne.mpr h]
      | false => rfl
theorem look_map {g : Str → NameKind → NameKind} {x : Str} {l : List (Str × NameKind)} : (l.map fun p => (p.1, g p.1 p.2)).lookup x = (l.lookup x).map (g x) := by
  induction l with
  | nil => rfl
  | cons p r ih =>
    rw [List.map_cons, List.lookup_cons, List.lookup_cons]
    cases hx : x == p.1 with
    | true => rw [beq_iff_eq.mp hx]; rfl
    | false => exact ih
theorem lookup_relabel {env : Env} {names : List (Str × NameKind)} {x : Str} {k : NameKind} (h : names.lookup x = some k) :
    (names.map fun (n, k) => if (k == NameKind.free && env.scope.kind == .function && env.kindOf n == some .cell) then (n, NameKind.cell) else (n, k)).lookup x =
      some (if (k == NameKind.free && env.scope.kind == .function && env.kindOf x == some .cell) then .cell else k) := by
  have e := look_map (g := fun n k => if (k == NameKind.free && env.scope.kind == .function && env.kindOf n == some .cell) then .cell else k) (x := x) (l := names)
  rw [h] at e
  refine Eq.trans (congrArg (List.lookup x) (congrArg (fun f => names.map f) (funext fun p => ?_))) e
  obtain ⟨n, k⟩ := p
  exact (apply_ite (Prod.mk n) _ _ _).symm
noncomputable def clFrom (env : Env) : List (Str × NameKind) → List (Str × Addr) → List (Str × Addr)
  | [], acc => acc
  | (n, k) :: r, acc => clFrom env r (if k == .free then (n, (env.cells.lookup n).getD 0) :: acc else acc)
theorem cl_cons {env : Env} {n : Str} {k : NameKind} {r : List (Str × NameKind)} {acc : List (Str × Addr)} : clFrom env ((n, k) :: r) acc = clFrom env r (if k == .free then (n, (env.cells.lookup n).getD 0) :: acc else acc) := rfl
theorem clFrom_look {env : Env} {y : Str} {names : List (Str × NameKind)} : ∀ {acc : List (Str × Addr)}, (acc.lookup y = some ((env.cells.lookup y).getD 0) ∨ (y, NameKind.free) ∈ names) → (clFrom env names acc).lookup y = some ((env.cells.lookup y).getD 0) := by
  induction names with
  | nil => exact fun h => h.elim id fun h => absurd h List.not_mem_nil
  | cons p r ih =>
    intro acc h
    obtain ⟨n, k⟩ := p
    rw [cl_cons]
    refine ih (h.elim (fun h => .inl ?_) fun h => (List.mem_cons.mp h).elim (fun h => .inl ?_) .inr)
    · cases k == NameKind.free with
      | true =>
        show List.lookup y ((n, _) :: acc) = _
        rw [List.lookup_cons]
        cases q : y == n with
        | true => rw [beq_iff_eq.mp q]
        | false => exact h
      | false => exact h
    · cases h
      show List.lookup y ((y, _) :: acc) = _
      rw [List.lookup_cons, beq_self_eq_true]
theorem closure_ok {env : Env} {names : List (Str × NameKind)} : ∀ {acc : List (Str × Addr)}, (∀ p ∈ names, p.2 = .free → ∃ c, env.cells.lookup p.1 = some c) →
    (forIn names acc fun x cs => if (x.2 == NameKind.free) = true then do let c ← cellOf env x.1; pure (ForInStep.yield ((x.1, c) :: cs)) else pure (ForInStep.yield cs)) = (pure (clFrom env names acc) : Sem (List (Str × Addr))) := by
  induction names with
  | nil => exact fun _ => rfl
  | cons p r ih =>
    intro acc h
    rw [List.forIn_cons]
    by_cases hk : (p.2 == NameKind.free) = true
    · refine el_e (h p List.mem_cons_self (beq_iff_eq.mp hk)) fun c hc => ?_
      rw [cl_cons, if_pos hk, if_pos hk]
      have : cellOf env p.1 = pure c := by unfold cellOf; rw [hc]
      rw [this, hc]
      exact ih fun p hp => h p (List.mem_cons_of_mem _ hp)
    · rw [cl_cons, if_neg hk, if_neg hk]
      exact ih fun p hp => h p (List.mem_cons_of_mem _ hp)
end Mine
namespace Mine
section
variable {tab : Str → Option DefRec} {cst : Str → Option V} {P : Par} {n : Nat} {A : Around} {d : Nat} {fenv : Env} {outer : List Env} {L : Addr} {fs : List Addr} {env : Env} {sc sc' : Scope} {ρ : Rho} {μ : M} {ad ad0 : List Addr} {s : Shared} {E : Value → Shared → Prop} {U : List Addr} {hs h h' : Heap}
theorem closureFor_ok (hf : ∀ p ∈ sc'.names, p.2 = .free → ∃ c, env.cells.lookup p.1 = some c) : closureFor sc' env = pure (clFrom env sc'.names []) := by
  unfold closureFor
  dsimp only
  have := closure_ok (env := env) (names := sc'.names) (acc := []) hf
  show (forIn sc'.names [] _ >>= fun r => pure r) = _
  refine Eq.trans (congrArg (· >>= fun r => pure r) (Eq.trans ?_ this)) rfl
  rfl
structure CompOk (sc sc' : Scope) (x : Str) : Prop where
  kind : sc'.kind = .function
  x : sc'.names.lookup x = some .local
  cell : ∀ y ∈ sc'.names, y.2 ≠ .cell
  loc : ∀ y ∈ sc'.names, y.2 = .local → sc'.names.lookup y.1 = some .local
  free : ∀ y ∈ sc'.names, y.2 = .free → sc.names.lookup y.1 = some .cell
theorem CompOk.of {x : Str} (h : compOk sc sc' x = true) : CompOk sc sc' x := by
  simp only [compOk, Bool.and_eq_true, beq_iff_eq, decide_eq_true_eq, List.all_eq_true, Bool.or_eq_true, bne_iff_ne, ne_eq] at h
  refine el_a (h) fun hn0n23 _ => ?_; try clear h; obtain ⟨⟨h1, h2⟩, h3⟩ := hn0n23
  refine ⟨h1, h2, fun y hy => (h3 y hy).1.1, fun y hy q => ?_, fun y hy q => ?_⟩
  · rcases (h3 y hy).1.2 with z | z
    · exact absurd q z
    · exact z
  · rcases (h3 y hy).2 with z | z
    · exact absurd q z
    · exact z
theorem Step.enter2 {fs' : List Addr} {ad' : List Addr} {D C : Addr} (s : Step U fs ad ad' hs h) (k : ∀ b o, h.get? b = some o → h'.get? b = some o) (hU : ∀ b ∈ fs', b ∈ fs ∨ b ∈ [C, D]) (fr : ∀ b ∈ [C, D], hs.get? b = none) (hf : ∀ b ∈ fs, b ∈ fs') : Step (C :: D :: U) fs' ad ad' hs h' := by
  refine ⟨s.grow, fun b o e ha hb => k b o (s.keep b o e ha fun q => hb (hf b q)), fun b hb hu => ?_, fun b hb m n => ?_, fun b o e => let ⟨_, q⟩ := s.dom b o e; ⟨_, k b _ q⟩⟩
  case refine_2 =>
    rcases hU b hb with q | q
    · refine el_e (s.kind b q m n) fun m' n' => ?_; exact ⟨m', n'.keeps k⟩
    · refine el_eeea (n) fun o _ _ e _ => ?_; try clear n; rw [fr b q] at e; cases e
  have hb' : b ∈ fs := by
    rcases hU b hb with q | q
    · exact q
    · exfalso; apply hu; simp at q; rcases q with rfl | rfl <;> simp
  exact (s.like b hb' fun q => hu (by simp [q])).trans (.of_keep (k b))
theorem comp_env {x : Str} {C : Addr} {fs' : List Addr} (Z : EnvOk env sc L fs) (co : CompOk sc sc' x) (hC : C ∈ fs') : EnvOk (compEnvC sc' (clFrom env sc'.names []) C env) sc' L fs' := by
  refine ⟨co.kind, Z.frame, Z.globals, Z.builtins, hC, fun y q => ?_, fun y q => ?_, fun y q => ?_⟩
  · have := lookup_relabel (env := env) q
    simpa [Env.kindOf, compEnvC, relabel] using this
  · have := lookup_relabel (env := env) q
    simpa [Env.kindOf, compEnvC, relabel] using this
  · exact absurd rfl (co.cell _ (mem_of_lookup q))
inductive CInv (tab : Str → Option DefRec) (cst : Str → Option V) (P : Par) (n d : Nat) (sc' : Scope) (ρ0 : Rho) (fs ad : List Addr) (s : Shared) (x : Str) (elt : Expr) (C D : Addr) (I' : List V → List Addr → Heap → Prop) (ws : List V) (μf : M) (k : Nat) (s' : Shared) : Prop
  | mk : k ≤ n → ∀ l ad' μ' h' tk' vs ws' items m, s' = { s with heap := h', toks := tk' } → Step [C, D] (C :: D :: fs) ad ad' s.heap h' → Sim P (C :: D :: fs) ad' μ' h' → h'.Ns C m → h'.IsList D items →
      RelL P h' ad' (C :: D :: fs) vs items.toList → I' l ad' h' → evComp tab cst k (d - 1) sc' ρ0 x μ' elt l = .ok ws' μf → vs ++ ws' = ws → CInv tab cst P n d sc' ρ0 fs ad s x elt C D I' ws μf k s'
theorem comp_out {h1 : Heap} {D C : Addr} (hDa : h1.objs.size = D) (hCD : C = D + 1) (b : Addr) (o : Obj) (e : h1.get? b = some o) (hb : b ∉ fs) : b ∉ C :: D :: fs := fun q => by
  have lt : b < D := by rw [← hDa]; exact Heap.lt_size e
  rcases List.mem_cons.mp q with q | q
  · rw [q, hCD] at lt; exact absurd lt (Nat.not_lt.mpr (Nat.le_succ _))
  · rcases List.mem_cons.mp q with q | q
    · rw [q] at lt; exact Nat.lt_irrefl _ lt
    · exact hb q
theorem comp_loc {cenv : Env} {x : Str} {v : V} {y : Value} {C D : Addr} {ad' : List Addr} {h0 h4 : Heap} {m : Str → Option Value} (Z : EnvOk env sc L fs) (co : CompOk sc sc' x) (l : Loc P env fs ad ρ h0) (cs : Carry h0 h4 ad ad' fs (C :: D :: fs)) (hloc : cenv.locals = C) (hcel : cenv.cells = clFrom env sc'.names [])
    (hkd : ∀ y, sc'.names.lookup y = some .free → cenv.kindOf y = some .cell) (hkx : cenv.kindOf x = some .local) (hn : h4.Ns C (fun a => if a = x then some y else m a)) (ry : Rel P h4 ad' (C :: D :: fs) v y) : Loc P cenv (C :: D :: fs) ad' ((x, v) :: (ρ.filter fun p => sc'.names.lookup p.1 = some .free)) h4 := by
  refine ⟨_, by rw [hloc]; exact hn, fun z u q => ?_⟩
  rw [List.lookup_cons] at q
  by_cases hzx : z = x
  · rw [hzx, beq_self_eq_true] at q
    cases Option.some.inj q
    exact ⟨y, ry, .inl ⟨by rw [hzx]; exact hkx, if_pos hzx⟩⟩
  · rw [beq_eq_false_iff_ne.mpr hzx] at q
    replace q := (look_filter (q := fun y => decide (sc'.names.lookup y = some .free))).symm.trans q
    refine ite_some' q fun hfr q => ?_
    have hfr := of_decide_eq_true hfr
    refine el_ea (l) fun mo hno zl => ?_
    refine el_ea (zl z u q) fun u' ru kk => ?_
    refine el_ae (Z.cell_ z (co.free _ (mem_of_lookup hfr) rfl)) fun ck c0 hc0 => ?_
    rcases kk with ⟨k1, _⟩ | ⟨_, c, o, e1, e2, e3, e4, e5⟩
    · rw [ck] at k1; cases k1
    · refine ⟨u', ru.carry cs, .inr ⟨hkd z hfr, c, o, ?_, cs.kAd _ _ e4 e2, cs.kFs _ _ e4 e3, cs.keep _ _ e4 (fun vs q => by rw [e5] at q; cases q) e2 e3, e5⟩⟩
      rw [hcel, clFrom_look (.inr (mem_of_lookup hfr)), e1]; rfl
theorem comp_push {fs' : List Addr} {D : Addr} {items : Array Value} {y : Value} {tk : Nat} {Q : Value → Shared → Prop} {μ' : M} {h5 : Heap} (S5 : Sim P fs' ad μ' h5) (hDm : D ∈ fs') (hl : h5.IsList D items) (hlen : items.size ≤ sizeLine)
    (k : ∀ h6, h6.IsList D (items.push y) → Heap.SameBut D h5 h6 → Sim P fs' ad μ' h6 → Step [D] fs' ad ad h5 h6 → Q .none { s with heap := h6, toks := tk }) : wpAny (model P.prog P.w) A (call (.builtin "list.append") [.ref D, y]) Q E { s with heap := h5, toks := tk } := by
  refine wpAny_list_append (s := { s with heap := h5, toks := tk }) hl (fun h6 hl6 hs6 => ?_) hlen
  obtain ⟨S6, f6⟩ := S5.frame hDm hs6 (let ⟨o, e, _, _, q⟩ := hl6; ⟨o, e, fun vs q' => by rw [q] at q'; cases q'⟩) fun m n => by
    exfalso
    refine el_eaae (hl) fun o e _ _ q => ?_
    refine el_eeeaa (n) fun o' _ _ e' q' _ => ?_
    rw [show h5.get? D = some o from e] at e'; cases e'; rw [q] at q'; cases q'
  exact k h6 hl6 hs6 S6 f6
theorem comp_core {elt it : Expr} {x : Str} {px pos : Pos} {itv : Value} {I : List Addr → List V → List Addr → Heap → Prop} {J : List Addr → List V → Value → List Addr → Heap → Prop} {l ws : List V} {ad1 : List Addr} {h1 : Heap} {tk1 : Nat} {μ1 μf : M} {RR : Value → Addr → Result → Shared → Prop}
    (hE : ∀ m ≤ n, SE tab cst P m) (Z : Zc A d fenv outer L fs env sc) (t : St P env fs ad ρ μ s.heap) (co : CompOk sc sc' x)
    (st1 : Step [] fs ad ad1 s.heap h1) (S1 : Sim P fs ad1 μ1 h1) (WF : IterF P s.heap itv (.Name x px) I J) (hI : I fs l ad1 h1)
    (hev : evComp tab cst n (d - 1) sc' (ρ.filter fun p => sc'.names.lookup p.1 = some .free) x μ1 elt l = .ok ws μf) (hz : ws.length ≤ maxLen)
    (K : ∀ D C ad' h' tk m items, s.heap.get? D = none → s.heap.get? C = none → P.h₀.get? D = none → P.h₀.get? C = none → D ∉ fs → C ∉ fs → D ≠ C → h'.Ns C m → Step [C, D] (C :: D :: fs) ad ad' s.heap h' → Sim P (C :: D :: fs) ad' μf h' → h'.IsList D items → RelL P h' ad' (C :: D :: fs) ws items.toList →
      RR (.ref D) C (.ok .next) { s with heap := h', toks := tk }) :
    wpAny (model P.prog P.w) A (newList []) (fun acc s₃ => wpAny (model P.prog P.w) A (newFunctionEnv sc' env.globals (clFrom env sc'.names []) [] env.qual none .none (some env)) (fun cenv s₄ =>
      codeAny (model P.prog P.w) A (.compStart (.ListComp elt [⟨.Name x px, it, [], 0⟩] sc' pos) 0 itv acc { cenv with scope := relabel sc' env }) (RR acc cenv.locals) s₄) E s₃) E { s with heap := h1, toks := tk1 } := by
  refine wpAny_newObj_type (wpAny_newFunctionEnv co.cell (by intro y hy; simp at hy) (fun h₂ hns₂ hsb₂ => ?_) co.kind)
  dsimp only at hns₂ hsb₂ ⊢
  generalize hHD : h1.push { cls := .type "list", dict := none, data := .seq ([] : List Value).toArray } = hD at hns₂ hsb₂ ⊢
  have kD : ∀ b o, h1.get? b = some o → hD.get? b = some o := fun b o e => hHD ▸ push_keeps _ b o e
  have szD : hD.objs.size = h1.objs.size + 1 := by rw [← hHD, Heap.size_push]
  have lD : hD.get? h1.objs.size = some { cls := .type "list", dict := none, data := .seq ([] : List Value).toArray } := by rw [← hHD]; exact Heap.get?_push_size _ rfl
  have k2 : ∀ b o, hD.get? b = some o → h₂.get? b = some o := fun b o e => hsb₂.extBut b o (Nat.ne_of_lt (Heap.lt_size e)) (Heap.get?_push_of_some _ e)
  generalize hDa : h1.objs.size = D at szD lD hns₂ hsb₂ ⊢
  generalize hCa : hD.objs.size = C at hns₂ hsb₂ ⊢
  have hDC : D ≠ C := by rw [← hCa, szD]; exact Nat.ne_of_lt (Nat.lt_succ_self _)
  have nD : New P s.heap fs ad1 D := New.size S1 st1 (Nat.le_of_eq hDa)
  refine el_a (S1.enter (L := D) kD ⟨_, lD, fun vs q => by cases q⟩ (Nat.le_of_eq hDa)) fun SD cD => ?_
  refine el_a (SD.enter (L := C) k2 (solid_ns hns₂) (Nat.le_of_eq hCa)) fun S2 c2 => ?_
  have nC : New P s.heap fs ad1 C := New.size S1 st1 (by rw [← hCa, szD, hDa]; exact Nat.le_succ _)
  have k12 : ∀ b o, h1.get? b = some o → h₂.get? b = some o := fun b o e => k2 b o (kD b o e)
  have st2 : Step [C, D] (C :: D :: fs) ad ad1 s.heap h₂ := st1.enter2 k12 (fun b hb => by
    rcases List.mem_cons.mp hb with rfl | hb
    · exact .inr (by simp)
    · rcases List.mem_cons.mp hb with rfl | hb
      · exact .inr (by simp)
      · exact .inl hb) (fun b hb => by simp at hb; rcases hb with q | q; (rw [q]; exact nC.new); (rw [q]; exact nD.new)) (fun b hb => by simp [hb])
  have hCm : C ∈ C :: D :: fs := by simp
  have hDm : D ∈ C :: D :: fs := by simp
  have hCD : C = D + 1 := by rw [← hCa]; exact szD
  have out := comp_out (fs := fs) hDa hCD
  have W := WF.at_ (C :: D :: fs)
  have hI2 := WF.lift (fs' := C :: D :: fs) hI k12 out
  generalize I (C :: D :: fs) = I' at W hI2
  generalize J (C :: D :: fs) = J' at W
  have cx : Cx A (d - 1) fenv outer L (C :: D :: fs) := by
    have c := Z.cx.less (Nat.sub_le d 1)
    exact ⟨c.frames, c.frame, fun e he => let ⟨z, b, z1, z2⟩ := c.all e he; ⟨z, b, z1, by simp [z2]⟩, c.handled, c.depth, c.units⟩
  have Zc' : Zc A (d - 1) fenv outer L (C :: D :: fs) (compEnvC sc' (clFrom env sc'.names []) C env) sc' := ⟨cx, comp_env Z.ev co hCm⟩
  have hkx := Zc'.ev.loc_ _ co.x
  have hkf : (compEnvC sc' (clFrom env sc'.names []) C env).scope.kind = .function := Zc'.ev.kind
  show codeAny _ A (.compStart _ 0 itv (.ref D) (compEnvC sc' (clFrom env sc'.names []) C env)) (RR (.ref D) C) _
  generalize henv : compEnvC sc' (clFrom env sc'.names []) C env = cenv at Zc' hkx hkf ⊢
  have hloc : cenv.locals = C := by rw [← henv]; rfl
  have hcel : cenv.cells = clFrom env sc'.names [] := by rw [← henv]; rfl
  have hkd : ∀ y, sc'.names.lookup y = some .free → cenv.kindOf y = some .cell := fun y q => by
    have := lookup_relabel (env := env) q
    rw [← henv]
    have h1 := Z.ev.kind
    have h2 : List.lookup y env.scope.names = some .cell := (Z.ev.cell_ y (co.free _ (mem_of_lookup q) rfl)).1
    simpa [Env.kindOf, compEnvC, relabel, h1, h2] using this
  clear henv
  have loop : ∀ s', s' = { s with heap := h₂, toks := tk1 + ([] : List (Str × Value)).length } → codeAny (model P.prog P.w) A (.compLoop (.ListComp elt [⟨.Name x px, it, [], 0⟩] sc' pos) 0 itv (.ref D) cenv) (RR (.ref D) C) s' := by
    rintro s' rfl
    refine codeAny_compLoop_list (CInv tab cst P n d sc' (ρ.filter fun p => sc'.names.lookup p.1 = some .free) fs ad s x elt C D I' ws μf) (fun k s' Iv => ?_) n
      ⟨Nat.le_refl _, l, ad1, μ1, h₂, _, [], ws, #[], _, rfl, st2, S2, hns₂, ⟨_, k2 _ _ lD, rfl, _, rfl⟩, .nil, hI2, hev, rfl⟩
    obtain ⟨hk, l, ad', μ', h', tk', vs, ws', items, m, rfl, st, S', hn, hl, ra, hI', hev', hws⟩ := Iv
    cases k with
    | zero => cases (show Out.no = Out.ok ws' μf from hev')
    | succ k =>
      have hk' : k ≤ n := Nat.le_of_succ_le hk
      cases l with
      | nil =>
        cases (show Out.ok [] μ' = Out.ok ws' μf from hev')
        refine W.stop (s := { s with heap := h', toks := tk' }) Z.cx.handled hI' S' fun h3 sd => ?_
        rw [List.append_nil] at hws
        subst hws
        exact K D C ad' h3 tk' m items nD.new nC.new nD.newB nC.newB nD.nFs nC.nFs hDC (sd.ns hCm hn) (st.side sd) (S'.side sd) ((sd.like hDm).isList hl) (ra.carry sd.carry)
      | cons v r =>
        refine bind_inv (show ((evE tab cst k (d - 1) sc' ((x, v) :: (ρ.filter fun p => sc'.names.lookup p.1 = some .free)) μ' elt).bind fun w μ => (evComp tab cst k (d - 1) sc' (ρ.filter fun p => sc'.names.lookup p.1 = some .free) x μ elt r).bind fun ws μ => .ok (w :: ws) μ) = .ok ws' μf from hev') fun w μ2 he hev2 => bind_inv hev2 fun ws2 μ3 hr hev3 => ?_
        cases hev3
        clear hev2 hev'
        refine W.next (s := { s with heap := h', toks := tk' }) Z.cx.handled hI' S' fun y h3 tk3 sd hJ ry => ?_
        have hI3 := W.same (fun _ _ => rfl) hJ
        have st3 := st.side sd
        have S3 := S'.side sd
        have hn3 := sd.ns hCm hn
        refine wpAny_assign_Name (wpAny_storeName_local (s := { s with heap := h3, toks := tk3 }) hkx (by rw [hloc]; exact hn3) (fun h4 hn4 hs4 => ?_) (by rw [hkf]; rfl))
        rw [hloc] at hn4 hs4
        refine el_a (S3.frame hCm hs4 (solid_ns hn4) fun _ _ => ⟨_, hn4⟩) fun S4 f4 => ?_
        have st4 := st3.trans (f4.weaken (U' := [C, D]) (by simp))
        have cs : Carry s.heap h4 ad ad' fs (C :: D :: fs) := ⟨fun b o e _ ha hf => st4.keep b o e ha (out b o (by rcases Classical.em (b ∈ fs) with q | q; exact absurd q hf; exact st1.keep b o e ha hf) hf), fun b o e q => st4.nAd e q,
          fun b o e hf q => by
            rcases List.mem_cons.mp q with rfl | q
            · rw [nC.new] at e; cases e
            · rcases List.mem_cons.mp q with rfl | q
              · rw [nD.new] at e; cases e
              · exact hf q, fun _ _ e => st4.at_ e⟩
        have loc := comp_loc Z.ev co t.l cs hloc hcel hkd hkx hn4 (ry.carry f4.carry)
        refine hE k hk' Zc' ⟨S4, loc⟩ ?_
        rw [he]
        intro y5 ad5 h5 tk5 st5 S5 r5
        have rl5 := ((ra.carry sd.carry).carry f4.carry).carry st5.carry
        have hl5 := (st5.like D hDm (by simp)).isList (b := D) (show h4.IsList D items from by
          refine el_ea ((sd.like hDm).isList hl) fun o e z => ?_
          exact ⟨o, (hs4.2 D hDC).trans e, z⟩)
        have hn5 := st5.ns C hCm (by simp) _ hn4
        have hvs : items.size = vs.length := by have := ra.length; simpa using this
        have hlen : items.size ≤ sizeLine := maxLen_le (by rw [hvs]; have := congrArg List.length hws; simp at this; omega)
        refine comp_push S5 hDm hl5 hlen fun h6 hl6 hs6 S6 f6 => ?_
        have hn6 := hn5.sameBut hs6 (Ne.symm hDC)
        refine ⟨k, Nat.lt_succ_self k, hk', r, ad5, μ2, h6, tk5, vs ++ [w], ws2, _, _, rfl, (st4.trans (st5.weaken (by simp))).trans (f6.weaken (U' := [C, D]) (by simp)), S6, hn6, hl6, ?_, W.keep (W.keep (W.keep hI3 f4) st5) f6, hr, by rw [List.append_assoc]; exact hws⟩
        rw [Array.toList_push]; exact (rl5.carry f6.carry).append (.cons (r5.carry f6.carry) .nil)
  exact codeAny_compStart_list (loop _ rfl) (W.self (s := { s with heap := h₂, toks := tk1 + ([] : List (Str × Value)).length }) (fun _ _ => rfl) hI2 (loop _ rfl))
end
end Mine
namespace Mine
section
variable {tab : Str → Option DefRec} {cst : Str → Option V} {P : Par} {n : Nat} {A : Around} {d : Nat} {fenv : Env} {outer : List Env} {L : Addr} {fs fs' : List Addr} {env : Env} {sc sc' : Scope} {ρ : Rho} {μ : M} {ad ad' ad0 : List Addr} {s : Shared} {E : Value → Shared → Prop} {U : List Addr} {hs h h' : Heap}
theorem Sim.fewer (S : Sim P fs ad μ h) (k : ∀ b ∈ fs', b ∈ fs) : Sim P fs' ad μ h ∧ Carry h h ad ad fs fs' := by
  have c : Carry h h ad ad fs fs' := ⟨fun _ _ e _ _ _ => e, fun _ _ _ q => q, fun b _ _ q z => q (k b z), fun _ _ e => e⟩
  refine ⟨⟨S.base, S.len, S.nd, fun i a l e1 e2 => ?_, S.adNew, fun a ha => S.fsNew a (k a ha), fun a ha => S.fsAt a (k a ha), fun a ha q => S.dj a ha (k a q)⟩, c⟩
  refine el_ea (S.cell i a l e1 e2) fun items e r => ?_
  exact ⟨items, e, r.carry c⟩
theorem Step.fewer {U' : List Addr} (s : Step U fs ad ad' hs h) (k : ∀ b ∈ fs', b ∈ fs) (f : ∀ b ∈ fs, b ∉ fs' → hs.get? b = none) (u : ∀ b ∈ fs', b ∉ U' → b ∉ U) : Step U' fs' ad ad' hs h :=
  ⟨s.grow, fun b o e ha hb => s.keep b o e ha fun q => (by rw [f b q hb] at e; cases e), fun b hb hu => s.like b (k b hb) (u b hb hu), fun b hb => s.kind b (k b hb), s.dom⟩
theorem Step.carryTo (s : Step U fs' ad ad' hs h) (f : ∀ b o, hs.get? b = some o → b ∉ fs → b ∉ fs') : Carry hs h ad ad' fs fs' :=
  ⟨fun b o e _ ha hf => s.keep b o e ha (f b o e hf), fun _ _ e q => s.nAd e q, f, fun _ _ e => s.at_ e⟩
theorem Loc.carry (l : Loc P env fs ad ρ h) (c : Carry h h' ad ad' fs fs') (k : ∀ m, h.Ns env.locals m → h'.Ns env.locals m) : Loc P env fs' ad' ρ h' := by
  refine el_ea (l) fun m n z => ?_; try clear l
  refine ⟨m, k m n, fun x v q => ?_⟩
  refine el_ea (z x v q) fun v' r y => ?_
  refine ⟨v', r.carry c, y.imp id fun ⟨k, cc, o, e1, e2, e3, e4, e5⟩ => ⟨k, cc, o, e1, c.kAd _ _ e4 e2, c.kFs _ _ e4 e3, c.keep _ _ e4 (fun vs q => by rw [e5] at q; cases q) e2 e3, e5⟩⟩
theorem comp_leave {C : Addr} {h3 : Heap} (st : Step (C :: U) (C :: fs) ad ad' hs h') (S : Sim P (C :: fs) ad' μ h') (x : Heap.SameBut C h' h3) (n1 : hs.get? C = none) (n2 : P.h₀.get? C = none) (n3 : C ∉ fs) :
    Step U fs ad ad' hs h3 ∧ Sim P fs ad' μ h3 ∧ Carry h' h3 ad' ad' (C :: fs) fs := by
  have c : Carry h' h3 ad' ad' (C :: fs) fs := ⟨fun b o e _ _ hf => (x.2 b fun q => hf (by simp [q])).trans e, fun _ _ _ q => q, fun b _ _ q z => q (by simp [z]), fun _ _ e => e⟩
  refine ⟨⟨st.grow, fun b o e ha hb => ?_, fun b hb hu => ?_, fun b hb m n => let ⟨m', n'⟩ := st.kind b (by simp [hb]) m n; ⟨m', n'.sameBut x fun q => n3 (q ▸ hb)⟩, fun b o e => ?_⟩, ⟨fun b o e => ?_, S.len, S.nd, fun i a l e1 e2 => ?_, S.adNew, fun a ha => S.fsNew a (by simp [ha]), fun a ha => ?_, fun a ha q => S.dj a ha (by simp [q])⟩, c⟩
  · have hne : b ≠ C := fun q => by rw [q, n1] at e; cases e
    exact (x.2 b hne).trans (st.keep b o e ha (by simp [hne, hb]))
  · have hne : b ≠ C := fun q => n3 (q ▸ hb)
    exact (st.like b (by simp [hb]) (by simp [hne, hu])).trans (.of_keep fun o e => (x.2 b hne).trans e)
  · refine el_e (st.dom b o e) fun o' e' => ?_
    exact ⟨o', (x.2 b fun q => by rw [q, n1] at e; cases e).trans e'⟩
  · exact (x.2 b fun q => by rw [q, n2] at e; cases e).trans (S.base b o e)
  · refine el_ea (S.cell i a l e1 e2) fun items hn1n33 r => ?_; obtain ⟨k, e⟩ := hn1n33
    have ha : a ∈ ad' := List.mem_iff_getElem?.mpr ⟨i, e1⟩
    exact ⟨items, ⟨k, (x.2 a fun q => S.dj a ha (by simp [q])).trans e⟩, r.carry c⟩
  · refine el_ea (S.fsAt a (by simp [ha])) fun o e z => ?_
    exact ⟨o, (x.2 a fun q => n3 (q ▸ ha)).trans e, z⟩
theorem free_cells {x : Str} (Z : EnvOk env sc L fs) (co : CompOk sc sc' x) : ∀ p ∈ sc'.names, p.2 = .free → ∃ c, env.cells.lookup p.1 = some c := fun p hp q => (Z.cell_ _ (co.free p hp q)).2
theorem comp_last {D C : Addr} {tk : Nat} {items : Array Value} {ws : List V} {μf : M} (st : Step [C, D] (C :: D :: fs) ad ad' hs h') (S' : Sim P (C :: D :: fs) ad' μf h') (hl : h'.IsList D items) (ra : RelL P h' ad' (C :: D :: fs) ws items.toList)
    (nD : hs.get? D = none) (fD : D ∉ fs) (hDC : D ≠ C) : Step [C] (C :: fs) ad ad' hs h' ∧ Sim P (C :: fs) ad' μf h' ∧ Rel P h' ad' (C :: fs) (.lst ws) (.ref D) := by
  have sub : ∀ b ∈ C :: fs, b ∈ C :: D :: fs := fun b hb => by simp at hb ⊢; rcases hb with q | q <;> simp [q]
  refine el_a (S'.fewer sub) fun S2 c2 => ?_
  refine ⟨st.fewer sub (fun b hb hn => ?_) (fun b hb hu => ?_), S2, .lst hl (fun q => S'.dj D q (by simp)) (by simp [hDC, fD]) (ra.carry c2)⟩
  · have : b = D := by simp at hb hn; rcases hb with q | q | q; exact absurd q hn.1; exact q; exact absurd q hn.2
    rw [this]; exact nD
  · simp at hb hu ⊢
    refine ⟨hu, fun q => ?_⟩
    rcases hb with z | z
    · exact hu z
    · exact fD (q ▸ z)
noncomputable def compTail (tab : Str → Option DefRec) (cst : Str → Option V) (n d : Nat) (sc' : Scope) (ρ : Rho) (x : Str) (elt : Expr) (src : Src) (μ : M) : Out V :=
  if src.flat then (match evComp tab cst n (d - 1) sc' (ρ.filter fun p => sc'.names.lookup p.1 = some .free) x μ elt src.items with
          | .ok vs μ => if vs.length ≤ maxLen then .ok (.lst vs) μ else .no
          | _ => .no)
        else .no
inductive CtI (tab : Str → Option DefRec) (cst : Str → Option V) (n d : Nat) (sc' : Scope) (ρ : Rho) (x : Str) (elt : Expr) (src : Src) (μ : M) : Out V → Prop
  | mk (ws : List V) (μf : M) (hf : src.flat = true) (hev : evComp tab cst n (d - 1) sc' (ρ.filter fun p => sc'.names.lookup p.1 = some .free) x μ elt src.items = .ok ws μf) (hz : ws.length ≤ maxLen) : CtI tab cst n d sc' ρ x elt src μ (.ok (.lst ws) μf)
theorem compTail_inv {x : Str} {elt : Expr} {src : Src} {o : Out V} (h : compTail tab cst n d sc' ρ x elt src μ = o) (hn : o ≠ .no) : CtI tab cst n d sc' ρ x elt src μ o := by
  have hf : src.flat = true := by
    by_cases q : src.flat = true
    · exact q
    · exact absurd (show _ = Out.no from h.symm.trans (if_neg q)) hn
  replace h : (if src.flat then (match evComp tab cst n (d - 1) sc' (ρ.filter fun p => sc'.names.lookup p.1 = some .free) x μ elt src.items with
          | .ok vs μ => if vs.length ≤ maxLen then .ok (.lst vs) μ else .no
          | _ => .no) else .no) = o := h
  rw [if_pos hf] at h
  cases hev : evComp tab cst n (d - 1) sc' (ρ.filter fun p => sc'.names.lookup p.1 = some .free) x μ elt src.items with
  | ok ws μf =>
    rw [hev] at h
    exact ite_no (G := CtI tab cst n d sc' ρ x elt src μ) h hn fun hz => ⟨ws, μf, hf, hev, hz⟩
  | _ => rw [hev] at h; exact absurd h.symm hn
theorem comp_inv {R : Heap → List Addr → V → Value → Prop} {Q : Value → Shared → Prop} {x : Str} {elt : Expr} {src : Src} (p : PostG P U fs L R (compTail tab cst n d sc' ρ x elt src μ) ad s Q E) : CtI tab cst n d sc' ρ x elt src μ (compTail tab cst n d sc' ρ x elt src μ) :=
  compTail_inv rfl fun q => by rw [q] at p; exact p
theorem comp_invB {α β : Type} {R : Heap → List Addr → α → β → Prop} {Q : β → Shared → Prop} {x : Str} {elt : Expr} {src : Src} {F : V → M → Out α} (p : PostG P U fs L R ((compTail tab cst n d sc' ρ x elt src μ).bind F) ad s Q E) : CtI tab cst n d sc' ρ x elt src μ (compTail tab cst n d sc' ρ x elt src μ) :=
  compTail_inv rfl fun q => by rw [q] at p; exact p
theorem listcomp_node {elt it : Expr} {x : Str} {px pos : Pos} {Q : Value → Shared → Prop} (hE : ∀ m ≤ n, SE tab cst P m) (hsrc : SSrc tab cst P n) (Z : Zc A d fenv outer L fs env sc) (t : St P env fs ad ρ μ s.heap)
    (p : PostG P [] fs L (RV P fs) (if compOk sc sc' x && decide (1 ≤ d) then (evSrc tab cst n d sc ρ μ it).bind (compTail tab cst n d sc' ρ x elt) else .no) ad s Q E) : wpAny (model P.prog P.w) A (eval (.ListComp elt [⟨.Name x px, it, [], 0⟩] sc' pos) env) Q E s := by
  have co := CompOk.of (Bool.and_eq_true_iff.mp p.iteT.1).1
  replace p := p.iteT.2
  have hne : evSrc tab cst n d sc ρ μ it ≠ .no := fun q => by rw [q] at p; exact p
  rw [eval_ListComp]
  refine wpAny_comprehension_free (use := none) rfl (src_fold rfl hne) (closureFor_ok (free_cells Z.ev co)) co.kind co.loc ?_
  refine hsrc Z (.Name x px) t (nextE p fun src μ1 itv ad1 h1 tk1 ev1 st1 S1 r1 _ => ?_)
  rw [ev1] at p
  replace p : PostG P [] fs L (RV P fs) (compTail tab cst n d sc' ρ x elt src μ1) ad s Q E := p
  have ct := comp_inv p
  revert p ct
  generalize compTail tab cst n d sc' ρ x elt src μ1 = o
  intro p ct
  cases ct with
  | mk ws μf hf hev hz =>
    refine el_eea (r1 hf) fun I J WF hI => ?_
    refine comp_core (RR := fun acc C => compPost (model P.prog P.w) A E none Q acc C) hE Z t co st1 S1 WF hI hev hz fun D C ad' h' tk m items nD nC bD bC fD fC hDC hn st S' hl ra => ?_
    refine ⟨m, hn, fun h3 sb => ?_⟩
    refine el_aa (comp_last (tk := 0) st S' hl ra nD fD hDC) fun st' S2 r2 => ?_
    refine el_aa (comp_leave st' S2 sb nC bC fC) fun st3 S3 c3 => ?_
    exact p _ ad' h3 tk st3 S3 (r2.carry c3)
theorem Out.bind_assoc {α β γ : Type} (o : Out α) (f : α → M → Out β) (g : β → M → Out γ) : (o.bind f).bind g = o.bind fun a μ => (f a μ).bind g := by cases o <;> rfl
theorem assign_comp_node {elt it : Expr} {x y : Str} {px py pos spos : Pos} {Q : Flow → Shared → Prop} (hE : ∀ m ≤ n, SE tab cst P m) (hsrc : SSrc tab cst P n) (Z : Zc A d env outer L fs env sc) (hL : env.locals = L) (t : St P env fs ad ρ μ s.heap)
    (hsw : swapsWith (.ListComp elt [⟨.Name x px, it, [], 0⟩] sc' pos) (some (.Name y py)) spos.line env = pure true)
    (p : PostG P [L] fs L (RFl P env fs) ((if compOk sc sc' x && decide (1 ≤ d) then (evSrc tab cst n d sc ρ μ it).bind (compTail tab cst n d sc' ρ x elt) else .no).bind fun v μ => (match assignN sc ρ (.Name y py) v with
        | some ρ => .ok (.next, ρ) μ
        | none => .no)) ad s Q E) : wpAny (model P.prog P.w) A (exec (.Assign [.Name y py] (.ListComp elt [⟨.Name x px, it, [], 0⟩] sc' pos) spos) env) Q E s := by
  have hco : (compOk sc sc' x && decide (1 ≤ d)) = true := by
    by_cases q : (compOk sc sc' x && decide (1 ≤ d)) = true
    · exact q
    · rw [if_neg q] at p; exact p.elim
  rw [if_pos hco] at p
  have co := CompOk.of (Bool.and_eq_true_iff.mp hco).1
  have hne : evSrc tab cst n d sc ρ μ it ≠ .no := fun q => by rw [q] at p; exact p
  rw [exec_Assign_Name_used _ _ _ _ hsw]
  refine wpAny_bind (wpAny_standAt (wpAny_bind ?_))
  show wpAny _ A (do let _ ← comprehension (.ListComp elt [⟨.Name x px, it, [], 0⟩] sc' pos) sc' env _ (newList []) false (eval it env) (some (assign (.Name y py) env))) _ _ s
  refine wpAny_bind (wpAny_mono (wpAny_comprehension_free (use := some (assign (.Name y py) env)) (Q := fun _ s' => Q .next s') rfl (src_fold rfl hne) (closureFor_ok (free_cells Z.ev co)) co.kind co.loc ?_) (fun _ s' hq => wpAny_pure (wpAny_pure hq)) fun _ _ e => e)
  rw [Out.bind_assoc] at p
  refine hsrc Z (.Name x px) t (nextU p fun src μ1 itv ad1 h1 tk1 ev1 st1 S1 r1 _ => ?_)
  rw [ev1] at p
  replace p : PostG P [L] fs L (RFl P env fs) ((compTail tab cst n d sc' ρ x elt src μ1).bind fun v μ => (match assignN sc ρ (.Name y py) v with
        | some ρ => .ok (.next, ρ) μ
        | none => .no)) ad s Q E := p
  have ct := comp_invB p
  revert p ct
  generalize compTail tab cst n d sc' ρ x elt src μ1 = o
  intro p ct
  cases ct with
  | mk ws μf hf hev hz =>
    refine el_eea (r1 hf) fun I J WF hI => ?_
    replace p : PostG P [L] fs L (RFl P env fs) (match assignN sc ρ (.Name y py) (.lst ws) with
        | some ρ => .ok (.next, ρ) μf
        | none => .no) ad s Q E := p
    cases p.optR with | mk ρ' ea p =>
    refine ite_some ea fun hy ee => ?_
    subst ee
    refine comp_core (RR := fun acc C => compPost (model P.prog P.w) A E (some (assign (.Name y py) env)) (fun _ s' => Q .next s') acc C) hE Z t co st1 S1 WF hI hev hz fun D C ad' h' tk m items nD nC bD bC fD fC hDC hn st S' hl ra => ?_
    refine el_aa (comp_last (tk := 0) st S' hl ra nD fD hDC) fun st' S2 r2 => ?_
    have hneC : env.locals ≠ C := fun q => fC (q ▸ Z.ev.loc)
    have hLm : env.locals ∈ C :: fs := by simp [Z.ev.loc]
    have l2 : Loc P env (C :: fs) ad' ρ h' := t.l.carry (st'.carryTo fun b o e hb => by
      have : b ≠ C := fun q => by rw [q, nC] at e; cases e
      simp [this, hb]) fun m n => st'.ns _ hLm (by simp [hneC]) m n
    show wpAny _ A (assign (.Name y py) env (.ref D)) _ E { s with heap := h', toks := tk }
    refine assign_local (s := { s with heap := h', toks := tk }) Z.ev.kind (Z.ev.loc_ _ hy) hLm S2 l2 r2 fun h2 tk2 S4 st4 l4 => ?_
    rw [hL] at st4 hneC
    refine ⟨m, st4.ns C (by simp) (by simp [Ne.symm hneC]) m hn, fun h3 sb => ?_⟩
    refine el_aa (comp_leave (U := [L]) ((st'.weaken (U' := [C, L]) (by simp)).trans (st4.weaken (by simp))) S4 sb nC bC fC) fun st5 S5 c5 => ?_
    exact p .next ad' h3 tk2 st5 S5 ⟨rfl, l4.carry c5 fun m n => n.sameBut sb (by rw [hL]; exact hneC)⟩
end
end Mine
namespace Mine
structure GX (P : Par) : Prop where
  make : ∀ {A : Around} {d : Nat} {fenv : Env} {outer : List Env} {L : Addr} {fs ad : List Addr} {μ : M} {s : Shared} {c : Str} {t : Tok} {rest : List Value} {Q : Value → Shared → Prop} {E : Value → Shared → Prop}, Cx A d fenv outer L fs → Sim P fs ad μ s.heap → rest.length ≤ 1 →
    (∀ e h' tk, Step [] fs ad ad s.heap h' → Sim P fs ad μ h' → ExcAt P fs ad s.heap h' e c none → Q (.ref e) { s with heap := h', toks := tk }) → wpAny (model P.prog P.w) A (call (.ref P.B) (.str c t :: rest)) Q E s
  code : ∀ {A : Around} {s : Shared} {e dx : Addr} {oe od : Obj} {vs : Array Value} {m : Str → Option Value} {k : Str} {t : Tok} {Q : Value → Shared → Prop} {E : Value → Shared → Prop}, (∀ b o, P.h₀.get? b = some o → s.heap.get? b = some o) →
    s.heap.get? e = some oe → oe.cls = .ref P.B → oe.dict = some dx → oe.data = .fields vs → s.heap.get? dx = some od → s.heap.Ns dx m → m "code" = some (.str k t) → (∀ tk, Q (.str k t) { s with toks := tk }) → wpAny (model P.prog P.w) A (getAttr (.ref e) "code" true) Q E s
  catch_ : ∀ {A : Around} {s : Shared} {e : Addr} {oe : Obj} {vs : Array Value} {Q : Bool → Shared → Prop} {E : Value → Shared → Prop}, (∀ b o, P.h₀.get? b = some o → s.heap.get? b = some o) →
    s.heap.get? e = some oe → oe.cls = .ref P.B → oe.data = .fields vs → Q true s → wpAny (model P.prog P.w) A (excMatches (.ref e) (.ref P.B)) Q E s
  from_ : ∀ {A : Around} {s : Shared} {e : Addr} {oe : Obj} {vs : Array Value} {msg : String} {Q : Value → Shared → Prop} {E : Value → Shared → Prop}, (∀ b o, P.h₀.get? b = some o → s.heap.get? b = some o) →
    s.heap.get? e = some oe → oe.cls = .ref P.B → oe.data = .fields vs → Q (.ref e) s → wpAny (model P.prog P.w) A (excFromValue (.ref e) msg) Q E s
  raised : ∀ {A : Around} {s : Shared} {e : Addr} {oe : Obj} {vs : Array Value} {Q : Value → Shared → Prop} {E : Value → Shared → Prop}, (∀ b o, P.h₀.get? b = some o → s.heap.get? b = some o) →
    s.heap.get? e = some oe → oe.cls = .ref P.B → oe.data = .fields vs → Q (.ref e) s → wpAny (model P.prog P.w) A (raisedInstance (.ref e)) Q E s
section
variable {tab : Str → Option DefRec} {cst : Str → Option V} {P : Par} {n : Nat} {A : Around} {d : Nat} {fenv : Env} {outer : List Env} {L : Addr} {fs fs' : List Addr} {env : Env} {sc sc' : Scope} {ρ : Rho} {μ : M} {ad ad' ad0 : List Addr} {s : Shared} {E : Value → Shared → Prop} {U : List Addr} {hs h h' : Heap}
inductive Goes (P : Par) (E : Value → Shared → Prop) : Value → Shared → Prop
  | mk (e : Addr) (oe : Obj) (vs : Array Value) (s : Shared) (k : ∀ b o, P.h₀.get? b = some o → s.heap.get? b = some o) (a : s.heap.get? e = some oe) (c : oe.cls = .ref P.B) (f : oe.data = .fields vs) (n : vs[1]? = some .none) (l : E (.ref e) s) : Goes P E (.ref e) s
theorem raise_own {x : Sem Value} {Q : Flow → Shared → Prop} (X : GX P) (hh : A.handled = none) (m : wpAny (model P.prog P.w) A x (Goes P E) E s) : wpAny (model P.prog P.w) A (raiseStmt env (some x) none) Q E s := by
  refine wpAny_bind (wpAny_mono m (fun v s₁ w => ?_) fun _ _ z => z)
  cases w with | mk e oe vs s₁ k a c f n l =>
  refine wpAny_bind (wpAny_pure (wpAny_bind (wpAny_holding (X.from_ k a c f (wpAny_bind (m := isType (.ref e)) (wpAny_bind (wpAny_loadPart a ?_)))))))
  rw [f]
  refine wpAny_pure (wpAny_bind (m := raisedInstance (.ref e)) (X.raised k a c f (wpAny_bind (m := setFlight (.ref e) none) ?_)))
  refine wpAny_bind (wpAny_field a f n (wpAny_pure (wpAny_bind (wpAny_handled ?_))))
  rw [hh]
  exact wpAny_bind (wpAny_pure (wpAny_throw l))
theorem made_own {pos : Pos} {c : Str} {u : Tok} {rest : List Value} (X : GX P) (Z : Zc A d env outer L fs env sc) (S : Sim P fs ad μ s.heap) (hr : rest.length ≤ 1) (p2 : PostG P [L] fs L (RFl P env fs) (.exc c μ) ad s Q E) :
    wpAny (model P.prog P.w) A (call (.ref P.B) (.str c u :: rest)) (fun a s' => wpAny (model P.prog P.w) A (standAt pos >>= fun _ => pure a) (Goes P E) E s') E s := by
  refine X.make Z.cx S hr fun e h2 tk2 st2 S2 x2 => ?_
  cases x2.obj with | mk oe vs dx od m t a0 e1 e2 e3 e4 e5 e6 e7 e8 e9 e10 e11 e12 =>
  exact wpAny_bind (wpAny_standAt (wpAny_pure (.mk e oe vs _ S2.base e1 e2 e4 e12 (p2 e none ad h2 tk2 (st2.weaken (by simp)) S2 x2 trivial))))
inductive PRa (Φ : Str → Prop) : List V → Prop
  | one (c : Str) (p : Φ c) : PRa Φ [.str c]
  | two (c : Str) (v : V) (p : Φ c) : PRa Φ [.str c, v]
theorem PostG.raiK {α β : Type} {R : Heap → List Addr → α → β → Prop} {Q : β → Shared → Prop} {vs : List V} (p : PostG P U fs L R (match (generalizing := false) vs with
        | [.str c] => .exc c μ
        | [.str c, _] => .exc c μ
        | _ => .no) ad s Q E) : PRa (fun c => PostG P U fs L R (.exc c μ) ad s Q E) vs := by
  cases vs with
  | nil => exact p.elim
  | cons v r => cases v with
    | str k => cases r with
      | nil => exact .one k p
      | cons w r => cases r with
        | nil => exact .two k w p
        | cons _ _ => exact p.elim
    | _ => exact p.elim
theorem raise_node {x : Str} {np cp pos : Pos} {as : List Expr} {Q : Flow → Shared → Prop} (G : GG P tab cst) (X : GX P) (hs : SEs tab cst P n) (Z : Zc A d env outer L fs env sc) (t : St P env fs ad ρ μ s.heap)
    (p : PostG P [L] fs L (RFl P env fs) (if isGlobal sc x && x == ("BasicError" : Str) && plainEs as then (evEs tab cst n d sc ρ μ as).bind fun vs μ => (match vs with
        | [.str c] => .exc c μ
        | [.str c, _] => .exc c μ
        | _ => .no) else .no) ad s Q E) : wpAny (model P.prog P.w) A (exec (.Raise (some (.Call (.Name x np) as [] cp)) none pos) env) Q E s := by
  have hc := p.iteT.1
  replace p := p.iteT.2
  simp only [Bool.and_eq_true, beq_iff_eq] at hc
  obtain ⟨⟨hg, rfl⟩, hp⟩ := hc
  rw [arm_exec_Raise]
  refine wpAny_bind (wpAny_standAt ?_)
  refine raise_own X Z.cx.handled (wpAny_bind ?_)
  refine wpAny_Call_NameR ?_
  rw [args_plain hp]
  refine global_name G.gf Z.ev t.S hg G.exc ?_
  refine callWith_of (P := fun h => P.K.In h) (by rw [args_any]; rfl) (keeps_K G.excKeep) (evalArgs_of (hs Z t (nextU p fun vs μ1 xs ad1 h1 tk1 _ st1 S1 r1 p1 => ?_)))
  refine ⟨fun b o e => S1.base b o (G.cf.K b o e), ?_⟩
  replace p1 := p1.raiK
  replace r1 := r1.inv
  cases p1 with
  | one c p1 => cases r1 with | mk r1 rs => cases rs.inv; cases r1.inv; exact made_own X Z S1 (Nat.zero_le _) p1
  | two c v p1 => cases r1 with | mk r1 rs => replace rs := rs.inv; cases rs with | mk _ rs => cases rs.inv; cases r1.inv; exact made_own X Z S1 (Nat.le_refl _) p1
theorem ExcAt.kept {e : Addr} {k : Str} {fl : Option Value} (x : ExcAt P fs ad hs h e k fl) (kp : ∀ b o, h.get? b = some o → b ∉ ad → b ∉ fs → h'.get? b = some o) : ExcAt P fs ad hs h' e k fl := by
  obtain ⟨a, a', b, c, oe, vs, dx, od, m, t, a0, e1, e2, e3, e4, e5, e6, e7, e8, e9, e10, e11, e12⟩ := x
  refine ⟨a, a', b, c, oe, vs, dx, od, m, t, a0, kp _ _ e1 b c, e2, e3, e4, e5, e6, e7, e8, kp _ _ e9 e7 e8, ?_, e11, ?_⟩
  · refine el_eeea (e10) fun o es ep q z => ?_; try clear e10
    exact ⟨o, es, ep, kp _ _ q e7 e8, z⟩
  · cases fl with
    | none => exact e12
    | some f =>
      obtain ⟨T, oT, ts, q1, q2, q3, q4, q5, q6, q7, q8, q9⟩ := e12
      exact ⟨T, oT, ts, q1, q2, q3, q4, q5, q6, kp _ _ q7 q5 q6, q8, q9⟩
theorem try_node {x y : Str} {xp yp ap rp hp pos : Pos} {b : List Stmt} {Q : Flow → Shared → Prop} (G : GG P tab cst) (X : GX P) (hs : SSs tab cst P n) (Z : Zc A d env outer L fs env sc) (hL : env.locals = L) (t : St P env fs ad ρ μ s.heap)
    (p : PostG P [L] fs L (RFl P env fs) (if isGlobal sc x && x == ("BasicError" : Str) && sc.names.lookup y == some .local && !(y == ("__debug__" : Str)) then (match evSs tab cst n d sc ρ μ b with
        | .exc c μ => .ok (.ret (.str c), []) μ
        | r => r) else .no) ad s Q E) :
    wpAny (model P.prog P.w) A (exec (.Try b [.ExceptHandler (some (.Name x xp)) (some y) [.Return (some (.Attribute (.Name y yp) "code" ap)) rp] hp] [] [] pos) env) Q E s := by
  have hc := p.iteT.1
  replace p := p.iteT.2
  simp only [Bool.and_eq_true, beq_iff_eq, Bool.not_eq_true'] at hc
  obtain ⟨⟨⟨hg, rfl⟩, hy⟩, hdb⟩ := hc
  have hly := Z.ev.loc_ _ hy
  have hpk : (env.scope.kind == .class || (env.scope.kind == .module && env.locals != env.globals)) = false := by rw [Z.ev.kind]; rfl
  refine wpAny_Try_except (hs Z hL t ?_)
  cases hev : evSs tab cst n d sc ρ μ b with
  | no => rw [hev] at p; exact p.elim
  | ok z μ' =>
    rw [hev] at p
    intro f ad' h' tk st S rf
    obtain ⟨fl, ρ'⟩ := z
    cases fl with
    | next =>
      refine el_a (rf) fun hq0n121 l => ?_; try clear rf; subst hq0n121
      exact wpAny_execs_nil (p .next ad' h' tk st S ⟨rfl, l⟩)
    | ret v =>
      refine el_a (rf) fun hn0n124 l => ?_; try clear rf; obtain ⟨w, rfl, rw_⟩ := hn0n124
      exact p (.ret w) ad' h' tk st S ⟨⟨w, rfl, rw_⟩, l⟩
  | exc c μ' =>
    rw [hev] at p
    replace p : PostG P [L] fs L (RFl P env fs) (.ok (.ret (.str c), []) μ') ad s Q E := p
    intro e fl ad' h' tk st S x f
    refine note_ok (s := { s with heap := h', toks := tk }) Z.cx S st x f fun h1 sd1 x1 => ?_
    refine flight_ok (s := { s with heap := h1, toks := tk }) (st.side sd1) x1 fun h2 sd2 x2 => ?_
    refine wpAny_handleBy_cons (codeAny_handlers_test ?_) (by intro q; cases q)
    have st2 := (st.side sd1).side sd2
    have S2 := (S.side sd1).side sd2
    refine global_name (s := { s with heap := h2, toks := tk }) G.gf Z.ev S2 hg G.exc ?_
    cases x2.obj with | mk oe vs dx od m u a0 e1 e2 e3 e4 e5 e6 e7 e8 e9 e10 e11 e12 =>
    refine X.catch_ (s := { s with heap := h2, toks := tk }) S2.base e1 e2 e4 ?_
    refine codeAny_handlers_suite_as ?_
    refine flight_ok (s := { s with heap := h2, toks := tk }) st2 x2 fun h3 sd3 x3 => ?_
    have st3 := st2.side sd3
    have S3 := S2.side sd3
    refine el_ea (t.l) fun m0 hm0 _ => ?_
    have hLm : L ∈ fs := hL ▸ Z.ev.loc
    refine el_e (st3.kind L hLm m0 (hL ▸ hm0)) fun m3 hn3 => ?_
    refine wpAny_storeName_local (s := { s with heap := h3, toks := tk }) hly (by rw [hL]; exact hn3) (fun h4 hn4 hs4 => ?_) hpk
    rw [hL] at hn4 hs4
    refine el_a (S3.frame hLm hs4 (solid_ns hn4) fun _ _ => ⟨_, hn4⟩) fun S4 f4 => ?_
    have x4 := x3.kept f4.keep
    refine wpAny_execs_cons (wpAny_Return_some (Attribute_any_ ?_ (by rw [arm_eval_Attribute]; rfl)))
    refine wpAny_Name (wpAny_loadName_local (s := { s with heap := h4, toks := tk + 1 }) Z.ev.kind hly (by rw [hL]; exact hn4) (if_pos rfl) ?_) ?_
    · cases x4.obj with | mk oe4 vs4 dx4 od4 m4 u4 a4 q1 q2 q3 q4 q5 q6 q7 q8 q9 q10 q11 q12 =>
      refine X.code (s := { s with heap := h4, toks := tk + 1 }) S4.base q1 q2 q3 q4 q9 q10 q11 fun tk5 => ?_
      refine wpAny_nameGoes (s := { s with heap := h4, toks := tk5 }) hly (by rw [hL]; exact hn4) hpk fun h6 m6 hn6 hs6 => ?_
      rw [hL] at hn6 hs6
      refine el_a (S4.frame hLm hs6 (solid_ns hn6) fun _ _ => ⟨_, hn6⟩) fun S6 f6 => ?_
      exact p (.ret (.str c u4)) ad' h6 _ ((st3.trans f4).trans f6) S6 ⟨⟨_, rfl, .str c u4⟩, m6, by rw [hL]; exact hn6, fun w v q => by cases q⟩
    · exact hdb
end
end Mine
namespace Mine
section
variable {tab : Str → Option DefRec} {cst : Str → Option V} {P : Par} {n : Nat}
theorem isCall_no {o : Expr} {x : Str} {env : Env} (h : isCall o = false) : attributeBase o x env (eval o env) = eval o env := by
  cases o <;> first | rfl | cases h
theorem sliceOf_no {i : Expr} {a b : Value} (h : sliceOf i = none) : subscripted i false a b = operate [a, b] (getItem a b) := by
  cases i <;> first | rfl | cases h
theorem se_bin {A : Around} {d : Nat} {fenv : Env} {outer : List Env} {L : Addr} {fs : List Addr} {env : Env} {sc : Scope} {ρ : Rho} {μ : M} {ad : List Addr} {s : Shared} {Q : Value → Shared → Prop} {E : Value → Shared → Prop} {l r : Expr} {op : Operator} {pos : Pos} (he : SE tab cst P n) (hs : SEs tab cst P n) (Z : Zc A d fenv outer L fs env sc) (t : St P env fs ad ρ μ s.heap) (p : PostG P [] fs L (RV P fs) (evE tab cst (n + 1) d sc ρ μ (.BinOp l op r pos)) ad s Q E) : wpAny (model P.prog P.w) A (eval (.BinOp l op r pos) env) Q E s := by
  replace p : PostG P [] fs L (RV P fs) (match isRep l op with
      | some es => if !plainEs es || decide (10 < es.length) then .no else (evEs tab cst n d sc ρ μ es).bind fun vs μ => (evE tab cst n d sc ρ μ r).bind fun b μ => (match b with
        | .int j => if !turns es && decide (0 ≤ j) && decide (j ≤ 1000) && !vs.isEmpty then .ok (.lst (List.replicate j.toNat vs).flatten) μ else .no
        | _ => .no)
      | none => (evE tab cst n d sc ρ μ l).bind fun a μ => (evE tab cst n d sc ρ μ r).bind fun b μ => .of μ (binV μ op a b)) ad s Q E := p
  cases hr : isRep l op with
  | none => rw [hr] at p; exact binop_node he Z t p
  | some es =>
    rw [hr] at p
    cases isRep_inv hr with | mk q =>
    have h := p.iteF.1
    simp only [Bool.or_eq_true, Bool.not_eq_true', decide_eq_true_eq, not_or, Bool.not_eq_false, Nat.not_lt] at h
    exact repeat_node he hs Z t h.1 h.2 p.iteF.2
theorem se_tup {A : Around} {d : Nat} {fenv : Env} {outer : List Env} {L : Addr} {fs : List Addr} {env : Env} {sc : Scope} {ρ : Rho} {μ : M} {ad : List Addr} {s : Shared} {Q : Value → Shared → Prop} {E : Value → Shared → Prop} {es : List Expr} {k : Nat} {pos : Pos} (hs : SEs tab cst P n) (Z : Zc A d fenv outer L fs env sc) (t : St P env fs ad ρ μ s.heap) (p : PostG P [] fs L (RV P fs) (evE tab cst (n + 1) d sc ρ μ (.Tuple es k pos)) ad s Q E) : wpAny (model P.prog P.w) A (eval (.Tuple es k pos) env) Q E s := by
  replace p : PostG P [] fs L (RV P fs) (if plainEs es then (evEs tab cst n d sc ρ μ es).bind fun vs μ => if vs.length ≤ maxLen then .ok (.tup vs) μ else .no else .no) ad s Q E := p
  exact tuple_node hs Z t p.iteT.1 p.iteT.2
theorem se_lst {A : Around} {d : Nat} {fenv : Env} {outer : List Env} {L : Addr} {fs : List Addr} {env : Env} {sc : Scope} {ρ : Rho} {μ : M} {ad : List Addr} {s : Shared} {Q : Value → Shared → Prop} {E : Value → Shared → Prop} {es : List Expr} {pos : Pos} (hs : SEs tab cst P n) (Z : Zc A d fenv outer L fs env sc) (t : St P env fs ad ρ μ s.heap) (p : PostG P [] fs L (RV P fs) (evE tab cst (n + 1) d sc ρ μ (.List es pos)) ad s Q E) : wpAny (model P.prog P.w) A (eval (.List es pos) env) Q E s := by
  replace p : PostG P [] fs L (RV P fs) (if plainEs es then (evEs tab cst n d sc ρ μ es).bind fun vs μ => if vs.length ≤ maxLen then (if turns es then .ok (.ref μ.length) (μ ++ [vs]) else .ok (.lst vs) μ) else .no else .no) ad s Q E := p
  exact list_node hs Z t p.iteT.1 p.iteT.2
theorem se_dict {A : Around} {d : Nat} {fenv : Env} {outer : List Env} {L : Addr} {fs : List Addr} {env : Env} {sc : Scope} {ρ : Rho} {μ : M} {ad : List Addr} {s : Shared} {Q : Value → Shared → Prop} {E : Value → Shared → Prop} {ks : List (Option Expr)} {vs : List Expr} {pos : Pos} (G : GG P tab cst) (Z : Zc A d fenv outer L fs env sc) (t : St P env fs ad ρ μ s.heap) (p : PostG P [] fs L (RV P fs) (evE tab cst (n + 1) d sc ρ μ (.Dict ks vs pos)) ad s Q E) : wpAny (model P.prog P.w) A (eval (.Dict ks vs pos) env) Q E s := by
  replace p : PostG P [] fs L (RV P fs) (match litKs ks, litIs vs with
      | some xs, some is => if xs.length = is.length ∧ xs ≠ [] ∧ xs.Nodup ∧ xs.length ≤ 16 then .ok (.dict (xs.zip (is.map .int))) μ else .no
      | _, _ => .no) ad s Q E := p
  cases e1 : litKs ks with
  | none => rw [e1] at p; exact p.elim
  | some xs => cases e2 : litIs vs with
    | none => rw [e1, e2] at p; exact p.elim
    | some is =>
      rw [e1, e2] at p
      have h := p.iteT.1
      refine el_eea (G.big) fun b o hb e => ?_
      exact dict_node t.S (Nat.lt_of_le_of_lt hb (Heap.lt_size (t.S.base b o e))) e1 e2 h.1 h.2.1 h.2.2.1 h.2.2.2 p.iteT.2
theorem se_attr {A : Around} {d : Nat} {fenv : Env} {outer : List Env} {L : Addr} {fs : List Addr} {env : Env} {sc : Scope} {ρ : Rho} {μ : M} {ad : List Addr} {s : Shared} {Q : Value → Shared → Prop} {E : Value → Shared → Prop} {o : Expr} {x : Str} {pos : Pos} (G : GG P tab cst) (he : SE tab cst P n) (Z : Zc A d fenv outer L fs env sc) (t : St P env fs ad ρ μ s.heap) (p : PostG P [] fs L (RV P fs) (evE tab cst (n + 1) d sc ρ μ (.Attribute o x pos)) ad s Q E) : wpAny (model P.prog P.w) A (eval (.Attribute o x pos) env) Q E s := by
  replace p : PostG P [] fs L (RV P fs) (bif isCall o then .no else (evE tab cst n d sc ρ μ o).bind fun a μ => .of μ (attrV a x)) ad s Q E := p
  exact attr_node G.cf he Z t (isCall_no p.bifF.1) p.bifF.2
theorem se_sub {A : Around} {d : Nat} {fenv : Env} {outer : List Env} {L : Addr} {fs : List Addr} {env : Env} {sc : Scope} {ρ : Rho} {μ : M} {ad : List Addr} {s : Shared} {Q : Value → Shared → Prop} {E : Value → Shared → Prop} {o i : Expr} {pos : Pos} (he : SE tab cst P n) (ho : SO tab cst P n) (Z : Zc A d fenv outer L fs env sc) (t : St P env fs ad ρ μ s.heap) (p : PostG P [] fs L (RV P fs) (evE tab cst (n + 1) d sc ρ μ (.Subscript o i pos)) ad s Q E) : wpAny (model P.prog P.w) A (eval (.Subscript o i pos) env) Q E s := by
  replace p : PostG P [] fs L (RV P fs) (match sliceOf i with
      | some (lo, hi, st) => bif isNm o && st.isNone then (evE tab cst n d sc ρ μ o).bind fun a μ => if !slOk a then .no else (evO tab cst n d sc ρ μ lo).bind fun i μ => (evO tab cst n d sc ρ μ hi).bind fun j μ => .of μ (sliceV a i j) else .no
      | none => (evE tab cst n d sc ρ μ o).bind fun a μ => (evE tab cst n d sc ρ μ i).bind fun b μ => .of μ (idxV μ a b)) ad s Q E := p
  cases hi : sliceOf i with
  | none => rw [hi] at p; exact sub_node he Z t (fun a b => sliceOf_no hi) p
  | some q =>
    rw [hi] at p
    obtain ⟨lo, hi', st⟩ := q
    cases sliceOf_inv hi with | mk sp =>
    have hb := Bool.and_eq_true_iff.mp p.bifT.1
    cases isNm_inv hb.1 with | mk y yp =>
    cases st with
    | some _ => exact nof hb.2
    | none => exact slice_node he ho Z t p.bifT.2
theorem se_cmp {A : Around} {d : Nat} {fenv : Env} {outer : List Env} {L : Addr} {fs : List Addr} {env : Env} {sc : Scope} {ρ : Rho} {μ : M} {ad : List Addr} {s : Shared} {Q : Value → Shared → Prop} {E : Value → Shared → Prop} {l : Expr} {ops : List CmpOp} {rs : List Expr} {pos : Pos} (he : SE tab cst P n) (hc : SC tab cst P n) (Z : Zc A d fenv outer L fs env sc) (t : St P env fs ad ρ μ s.heap) (p : PostG P [] fs L (RV P fs) (evE tab cst (n + 1) d sc ρ μ (.Compare l ops rs pos)) ad s Q E) : wpAny (model P.prog P.w) A (eval (.Compare l ops rs pos) env) Q E s := by
  replace p : PostG P [] fs L (RV P fs) (if lastMarks ops rs then .no else (evE tab cst n d sc ρ μ l).bind fun a μ => (evC tab cst n d sc ρ μ a ops rs).bind fun b μ => .ok (.bool b) μ) ad s Q E := p
  exact compare_node he hc Z t (by simpa using p.iteF.1) p.iteF.2
theorem se_call {A : Around} {d : Nat} {fenv : Env} {outer : List Env} {L : Addr} {fs : List Addr} {env : Env} {sc : Scope} {ρ : Rho} {μ : M} {ad : List Addr} {s : Shared} {Q : Value → Shared → Prop} {E : Value → Shared → Prop} {f : Expr} {as : List Expr} {kw : List Keyword} {pos : Pos} (G : GG P tab cst) (he : SE tab cst P n) (hs : SEs tab cst P n) (hC : SCall tab cst P n) (Z : Zc A d fenv outer L fs env sc) (t : St P env fs ad ρ μ s.heap) (p : PostG P [] fs L (RV P fs) (evE tab cst (n + 1) d sc ρ μ (.Call f as kw pos)) ad s Q E) : wpAny (model P.prog P.w) A (eval (.Call f as kw pos) env) Q E s := by
  replace p : PostG P [] fs L (RV P fs) (match callK f kw with
      | .no => .no
      | .meth o x ap => if !(ap.endLine == pos.line) || decide (10 ≤ as.length) || !plainEs as then .no else (evE tab cst n d sc ρ μ o).bind fun a μ => if methOk a x then (evEs tab cst n d sc ρ μ as).bind fun vs μ => methV μ a x vs else .no
      | .fn f => if isGlobal sc f && plainEs as && callOk tab f then (evEs tab cst n d sc ρ μ as).bind fun vs μ => (match tab f with
        | some fd => evCall tab cst n d μ fd vs
        | none => if f == ("Level" : Str) then (match vs with
            | [.str k, .str w] => if d = 0 then .no else .ok (.level (.str k) (.str w) μ.length) (μ ++ [[], [], []])
            | _ => .no) else .of μ (builtV μ f vs)) else .no) ad s Q E := p
  have i := callK_inv f kw
  revert p i
  generalize callK f kw = k
  intro p i
  cases k with
  | no => exact p.elim
  | meth o x ap =>
    obtain ⟨rfl, rfl, hn⟩ := i
    have h := p.iteF.1
    simp only [Bool.or_eq_true, Bool.not_eq_true', decide_eq_true_eq, not_or, Bool.not_eq_false, Nat.not_le] at h
    exact method_node he hs Z t (isCall_no hn) h.1.1 h.1.2 h.2 p.iteF.2
  | fn x =>
    obtain ⟨rfl, q, rfl⟩ := i
    have h := p.iteT.1
    simp only [Bool.and_eq_true] at h
    exact call_node G hs hC Z t h.1.1 h.1.2 h.2 p.iteT.2
theorem se_comp {A : Around} {d : Nat} {fenv : Env} {outer : List Env} {L : Addr} {fs : List Addr} {env : Env} {sc : Scope} {ρ : Rho} {μ : M} {ad : List Addr} {s : Shared} {Q : Value → Shared → Prop} {E : Value → Shared → Prop} {elt : Expr} {gens : List Comprehension} {sc' : Scope} {pos : Pos} (hE : ∀ m ≤ n, SE tab cst P m) (hsrc : SSrc tab cst P n) (Z : Zc A d fenv outer L fs env sc) (t : St P env fs ad ρ μ s.heap) (p : PostG P [] fs L (RV P fs) (evE tab cst (n + 1) d sc ρ μ (.ListComp elt gens sc' pos)) ad s Q E) : wpAny (model P.prog P.w) A (eval (.ListComp elt gens sc' pos) env) Q E s := by
  replace p : PostG P [] fs L (RV P fs) (match genOf gens with
      | none => .no
      | some (x, it) =>
      if compOk sc sc' x && decide (1 ≤ d) then (evSrc tab cst n d sc ρ μ it).bind fun src μ =>
        if src.flat then (match evComp tab cst n (d - 1) sc' (ρ.filter fun p => sc'.names.lookup p.1 = some .free) x μ elt src.items with
          | .ok vs μ => if vs.length ≤ maxLen then .ok (.lst vs) μ else .no
          | _ => .no)
        else .no
      else .no) ad s Q E := p
  cases hg : genOf gens with
  | none => rw [hg] at p; exact p.elim
  | some q =>
    rw [hg] at p
    obtain ⟨x, it⟩ := q
    cases genOf_inv hg with | mk px => exact listcomp_node hE hsrc Z t p
theorem se_succ (G : GG P tab cst) (hE : ∀ m ≤ n, SE tab cst P m) (hs : SEs tab cst P n) (ho : SO tab cst P n) (ht : ST tab cst P n) (hc : SC tab cst P n) (hC : SCall tab cst P n) (hsrc : SSrc tab cst P n) : SE tab cst P (n + 1) := by
  have he : SE tab cst P n := hE n (Nat.le_refl n)
  intro A d fenv outer L fs env sc Z ρ μ e ad s Q E t p
  cases e with
  | Constant c k pos =>
    cases c with
    | none => exact wpAny_Constant_none (PostG.same (tk := s.toks) p t.S .none)
    | bool b => exact wpAny_Constant_bool (PostG.same p t.S (.bool _))
    | int i => exact wpAny_Constant_int (PostG.same (tk := s.toks + 1) p t.S (.int _ _))
    | str x => exact wpAny_Constant_str (PostG.same (tk := s.toks + 1) p t.S (.str _ _))
    | _ => exact False.elim p
  | Name x pos => exact name_node G Z t p
  | BinOp l op r pos => exact se_bin he hs Z t p
  | UnaryOp op x pos => exact unary_node he Z t p
  | IfExp a b c pos => exact ifexp_node he ht Z t p
  | Tuple es k pos => exact se_tup hs Z t p
  | List es pos => exact se_lst hs Z t p
  | Dict ks vs pos => exact se_dict G Z t p
  | Attribute o x pos => exact se_attr G he Z t p
  | Subscript o i pos => exact se_sub he ho Z t p
  | Compare l ops rs pos => exact se_cmp he hc Z t p
  | Call f as kw pos => exact se_call G he hs hC Z t p
  | ListComp elt gens sc' pos => exact se_comp hE hsrc Z t p
  | _ => exact False.elim p
theorem assign_lc {elt : Expr} {gens : List Comprehension} {sc' : Scope} {cp : Pos} {tg : Expr} {pos : Pos} {A : Around} {d : Nat} {outer : List Env} {L : Addr} {fs : List Addr} {env : Env} {sc : Scope} {ρ : Rho} {μ : M} {ad : List Addr} {s : Shared} {Q : Flow → Shared → Prop} {E : Value → Shared → Prop} (hE : ∀ m ≤ n, SE tab cst P m) (hsrc' : ∀ m < n, SSrc tab cst P m) (Z : Zc A d env outer L fs env sc) (hL : env.locals = L) (t : St P env fs ad ρ μ s.heap)
    (hok : swOk tg (.ListComp elt gens sc' cp) = true) (p : PostG P [L] fs L (RFl P env fs) ((evE tab cst n d sc ρ μ (.ListComp elt gens sc' cp)).bind fun v μ => (match assignN sc ρ tg v with
        | some ρ => .ok (.next, ρ) μ
        | none => .no)) ad s Q E) : wpAny (model P.prog P.w) A (exec (.Assign [tg] (.ListComp elt gens sc' cp) pos) env) Q E s := by
  by_cases hsw : swapsWith (.ListComp elt gens sc' cp) (some tg) pos.line env = pure false
  · exact assign_node (hE n (Nat.le_refl n)) Z hL t hsw hok p
  cases tg with
  | Name y py =>
    cases n with
    | zero => exact False.elim p
    | succ n =>
      have htr : swapsWith (.ListComp elt gens sc' cp) (some (.Name y py)) pos.line env = pure true := by
        replace hsw : ¬ (pure (env.blockKind == ScopeKind.function && env.kindOf y == some NameKind.local && py.line == (Expr.ListComp elt gens sc' cp).pos.line && !(sc'.names.any fun x => x.1 == y && (x.2 == NameKind.local || x.2 == NameKind.cell))) : Sem Bool) = pure false := hsw
        show (pure (env.blockKind == ScopeKind.function && env.kindOf y == some NameKind.local && py.line == (Expr.ListComp elt gens sc' cp).pos.line && !(sc'.names.any fun x => x.1 == y && (x.2 == NameKind.local || x.2 == NameKind.cell))) : Sem Bool) = pure true
        revert hsw
        generalize (env.blockKind == ScopeKind.function && env.kindOf y == some NameKind.local && py.line == (Expr.ListComp elt gens sc' cp).pos.line && !(sc'.names.any fun x => x.1 == y && (x.2 == NameKind.local || x.2 == NameKind.cell))) = bb
        intro hsw
        cases bb with
        | true => rfl
        | false => exact absurd rfl hsw
      replace p : PostG P [L] fs L (RFl P env fs) (((match genOf gens with
  | none => .no
  | some (x, it) =>
  if compOk sc sc' x && decide (1 ≤ d) then (evSrc tab cst n d sc ρ μ it).bind fun src μ =>
    if src.flat then (match evComp tab cst n (d - 1) sc' (ρ.filter fun p => sc'.names.lookup p.1 = some .free) x μ elt src.items with
      | .ok vs μ => if vs.length ≤ maxLen then .ok (.lst vs) μ else .no
      | _ => .no)
    else .no
  else .no : Out V)).bind fun v μ => (match assignN sc ρ (.Name y py) v with
        | some ρ => .ok (.next, ρ) μ
        | none => .no)) ad s Q E := p
      cases hg : genOf gens with
      | none => rw [hg] at p; exact False.elim p
      | some q =>
        rw [hg] at p
        obtain ⟨x, it⟩ := q
        cases genOf_inv hg with | mk px => exact assign_comp_node (fun m hm => hE m (Nat.le_succ_of_le hm)) (hsrc' n (Nat.lt_succ_self n)) Z hL t htr p
  | _ => exact absurd rfl hsw
theorem assign_any {tg e : Expr} {pos : Pos} {A : Around} {d : Nat} {outer : List Env} {L : Addr} {fs : List Addr} {env : Env} {sc : Scope} {ρ : Rho} {μ : M} {ad : List Addr} {s : Shared} {Q : Flow → Shared → Prop} {E : Value → Shared → Prop} (hE : ∀ m ≤ n, SE tab cst P m) (hsrc' : ∀ m < n, SSrc tab cst P m) (Z : Zc A d env outer L fs env sc) (hL : env.locals = L) (t : St P env fs ad ρ μ s.heap)
    (p : PostG P [L] fs L (RFl P env fs) (if !swOk tg e then .no else (evE tab cst n d sc ρ μ e).bind fun v μ => (match assignN sc ρ tg v with
        | some ρ => .ok (.next, ρ) μ
        | none => .no)) ad s Q E) : wpAny (model P.prog P.w) A (exec (.Assign [tg] e pos) env) Q E s := by
  have hok : swOk tg e = true := by simpa using p.iteF.1
  replace p := p.iteF.2
  cases e with
  | ListComp elt gens sc' cp => exact assign_lc hE hsrc' Z hL t hok p
  | SetComp a b c d => cases n <;> exact False.elim p
  | DictComp a b c d f => cases n <;> exact False.elim p
  | _ => exact assign_node (hE n (Nat.le_refl n)) Z hL t rfl hok p
theorem ss_expr {A : Around} {d : Nat} {outer : List Env} {L : Addr} {fs : List Addr} {env : Env} {sc : Scope} {ρ : Rho} {μ : M} {ad : List Addr} {s : Shared} {Q : Flow → Shared → Prop} {E : Value → Shared → Prop} {e0 : Expr} {pos : Pos} (he : SE tab cst P n) (Z : Zc A d env outer L fs env sc) (hL : env.locals = L) (t : St P env fs ad ρ μ s.heap) (p : PostG P [L] fs L (RFl P env fs) (evS tab cst (n + 1) d sc ρ μ (.Expr e0 pos)) ad s Q E) : wpAny (model P.prog P.w) A (exec (.Expr e0 pos) env) Q E s := by
  replace p : PostG P [L] fs L (RFl P env fs) (bif plainCall e0 then (evE tab cst n d sc ρ μ e0).bind fun _ μ => .ok (.next, ρ) μ else .no) ad s Q E := p
  cases plainCall_inv p.bifT.1 with | mk f as q => exact expr_node he Z hL t p.bifT.2
theorem ss_assign {A : Around} {d : Nat} {outer : List Env} {L : Addr} {fs : List Addr} {env : Env} {sc : Scope} {ρ : Rho} {μ : M} {ad : List Addr} {s : Shared} {Q : Flow → Shared → Prop} {E : Value → Shared → Prop} {ts : List Expr} {e : Expr} {pos : Pos} (hE : ∀ m ≤ n, SE tab cst P m) (hsrc' : ∀ m < n, SSrc tab cst P m) (Z : Zc A d env outer L fs env sc) (hL : env.locals = L) (t : St P env fs ad ρ μ s.heap) (p : PostG P [L] fs L (RFl P env fs) (evS tab cst (n + 1) d sc ρ μ (.Assign ts e pos)) ad s Q E) : wpAny (model P.prog P.w) A (exec (.Assign ts e pos) env) Q E s := by
  replace p : PostG P [L] fs L (RFl P env fs) (match tgtK ts with
      | .no => .no
      | .sub o op i => (evE tab cst n d sc ρ μ e).bind fun v μ => (evE tab cst n d sc ρ μ (.Name o op)).bind fun q μ => (evE tab cst n d sc ρ μ i).bind fun j μ => (match q, j with
        | .ref r, .int j => (match μ[r]? with
          | some l => if 0 ≤ j ∧ j < l.length ∧ small j = true then .ok (.next, ρ) (μ.set r (l.set j.toNat v)) else .no
          | none => .no)
        | _, _ => .no)
      | .one t => if !swOk t e then .no else (evE tab cst n d sc ρ μ e).bind fun v μ => (match assignN sc ρ t v with
        | some ρ => .ok (.next, ρ) μ
        | none => .no)) ad s Q E := p
  have i := tgtK_inv ts
  revert p i
  generalize tgtK ts = k
  intro p i
  cases k with
  | no => exact p.elim
  | sub o q i' => obtain ⟨z, rfl⟩ := i; exact substore_node (hE n (Nat.le_refl n)) Z hL t p
  | one tg => obtain rfl : ts = [tg] := i; exact assign_any hE hsrc' Z hL t p
theorem ss_aug {A : Around} {d : Nat} {outer : List Env} {L : Addr} {fs : List Addr} {env : Env} {sc : Scope} {ρ : Rho} {μ : M} {ad : List Addr} {s : Shared} {Q : Flow → Shared → Prop} {E : Value → Shared → Prop} {tg e : Expr} {op : Operator} {pos : Pos} (he : SE tab cst P n) (Z : Zc A d env outer L fs env sc) (hL : env.locals = L) (t : St P env fs ad ρ μ s.heap) (p : PostG P [L] fs L (RFl P env fs) (evS tab cst (n + 1) d sc ρ μ (.AugAssign tg op e pos)) ad s Q E) : wpAny (model P.prog P.w) A (exec (.AugAssign tg op e pos) env) Q E s := by
  replace p : PostG P [L] fs L (RFl P env fs) (match nmOf tg with
      | none => .no
      | some x => if sc.names.lookup x = some .local then (match ρ.lookup x with
        | some a => (evE tab cst n d sc ρ μ e).bind fun v μ => (match augV op a v with
          | some r => .ok (.next, ρ.set x (.int r)) μ
          | none => .no)
        | none => .no) else .no) ad s Q E := p
  cases hk : nmOf tg with
  | none => rw [hk] at p; exact p.elim
  | some x => rw [hk] at p; cases nmOf_inv hk with | mk q => exact aug_node he Z hL t p
theorem ss_raise {A : Around} {d : Nat} {outer : List Env} {L : Addr} {fs : List Addr} {env : Env} {sc : Scope} {ρ : Rho} {μ : M} {ad : List Addr} {s : Shared} {Q : Flow → Shared → Prop} {E : Value → Shared → Prop} {a c : Option Expr} {pos : Pos} (G : GG P tab cst) (X : GX P) (hs : SEs tab cst P n) (Z : Zc A d env outer L fs env sc) (hL : env.locals = L) (t : St P env fs ad ρ μ s.heap) (p : PostG P [L] fs L (RFl P env fs) (evS tab cst (n + 1) d sc ρ μ (.Raise a c pos)) ad s Q E) : wpAny (model P.prog P.w) A (exec (.Raise a c pos) env) Q E s := by
  replace p : PostG P [L] fs L (RFl P env fs) (match raiseOf a c with
      | none => .no
      | some (x, as) => if isGlobal sc x && x == ("BasicError" : Str) && plainEs as then (evEs tab cst n d sc ρ μ as).bind fun vs μ => (match vs with
        | [.str c] => .exc c μ
        | [.str c, _] => .exc c μ
        | _ => .no) else .no) ad s Q E := p
  cases hk : raiseOf a c with
  | none => rw [hk] at p; exact p.elim
  | some q => rw [hk] at p; obtain ⟨x, as⟩ := q; cases raiseOf_inv hk with | mk q r => exact raise_node G X hs Z t p
theorem ss_try {A : Around} {d : Nat} {outer : List Env} {L : Addr} {fs : List Addr} {env : Env} {sc : Scope} {ρ : Rho} {μ : M} {ad : List Addr} {s : Shared} {Q : Flow → Shared → Prop} {E : Value → Shared → Prop} {b oe fb : List Stmt} {hs : List ExceptHandler} {pos : Pos} (G : GG P tab cst) (X : GX P) (hb : SSs tab cst P n) (Z : Zc A d env outer L fs env sc) (hL : env.locals = L) (t : St P env fs ad ρ μ s.heap) (p : PostG P [L] fs L (RFl P env fs) (evS tab cst (n + 1) d sc ρ μ (.Try b hs oe fb pos)) ad s Q E) : wpAny (model P.prog P.w) A (exec (.Try b hs oe fb pos) env) Q E s := by
  replace p : PostG P [L] fs L (RFl P env fs) (match tryOf hs with
      | none => .no
      | some (x, y, y', a) => bif !(oe.isEmpty && fb.isEmpty) then .no else
      if isGlobal sc x && x == ("BasicError" : Str) && y == y' && a == ("code" : Str) && sc.names.lookup y == some .local && !(y == ("__debug__" : Str)) then (match evSs tab cst n d sc ρ μ b with
        | .exc c μ => .ok (.ret (.str c), []) μ
        | r => r) else .no) ad s Q E := p
  cases hk : tryOf hs with
  | none => rw [hk] at p; exact p.elim
  | some q =>
    rw [hk] at p
    obtain ⟨x, y, y', a⟩ := q
    cases tryOf_inv hk with | mk xp yp ap rp hp =>
    have he := p.bifF.1
    replace p := p.bifF.2
    cases oe with
    | cons _ _ => exact nof he.symm
    | nil =>
      cases fb with
      | cons _ _ => exact nof he.symm
      | nil =>
        have h := p.iteT.1
        simp only [Bool.and_eq_true, beq_iff_eq] at h
        obtain ⟨⟨⟨⟨⟨h1, h2⟩, rfl⟩, rfl⟩, h5⟩, h6⟩ := h
        refine try_node G X hb Z hL t ?_
        rw [if_pos (by simp only [Bool.and_eq_true, beq_iff_eq]; exact ⟨⟨⟨h1, h2⟩, h5⟩, h6⟩)]
        exact p.iteT.2
theorem ss_succ (G : GG P tab cst) (X : GX P) (hE : ∀ m ≤ n, SE tab cst P m) (hT : ∀ m ≤ n, ST tab cst P m) (hSS : ∀ m ≤ n, SSs tab cst P m) (hs : SEs tab cst P n) (hsrc : SSrc tab cst P n) (hsrc' : ∀ m < n, SSrc tab cst P m) : SS tab cst P (n + 1) := by
  have he : SE tab cst P n := hE n (Nat.le_refl n)
  have hb : SSs tab cst P n := hSS n (Nat.le_refl n)
  intro A d outer L fs env sc Z hL ρ μ b ad s Q E t p
  cases b with
  | Expr e0 pos => exact ss_expr he Z hL t p
  | Return oe pos =>
    cases oe with
    | none => exact return_none t p
    | some e0 => exact return_node he Z t p
  | Assign ts e pos => exact ss_assign hE hsrc' Z hL t p
  | AugAssign tg op e pos => exact ss_aug he Z hL t p
  | If c b1 b2 pos => exact if_node (hT n (Nat.le_refl n)) hb Z hL t p
  | While c b1 oe pos =>
    cases oe with
    | nil => exact while_node hT hSS Z hL t p
    | cons _ _ => exact False.elim p
  | For tg it b1 oe pos =>
    cases oe with
    | nil => exact for_node hsrc hSS Z hL t p
    | cons _ _ => exact False.elim p
  | Raise a c pos => exact ss_raise G X hs Z hL t p
  | Try b1 hh oe fb pos => exact ss_try G X hb Z hL t p
  | _ => exact False.elim p
structure All (tab : Str → Option DefRec) (cst : Str → Option V) (P : Par) (n : Nat) : Prop where
  e : SE tab cst P n
  es : SEs tab cst P n
  o : SO tab cst P n
  t : ST tab cst P n
  a : SA tab cst P n
  c : SC tab cst P n
  call : SCall tab cst P n
  src : SSrc tab cst P n
  s : SS tab cst P n
  ss : SSs tab cst P n
theorem all_zero : All tab cst P 0 := by
  constructor
  · intro A d fenv outer L fs env sc Z ρ μ e ad s Q E t p; exact False.elim p
  · intro A d fenv outer L fs env sc Z ρ μ e ad s Q E t p; exact False.elim p
  · intro A d fenv outer L fs env sc Z ρ μ e ad s Q E t p; exact False.elim p
  · intro A d fenv outer L fs env sc Z ρ μ e ad s Q E t p; exact False.elim p
  · intro A d fenv outer L fs env sc Z ρ μ op e ad s Q E t p; exact False.elim p
  · intro A d fenv outer L fs env sc Z ρ μ pos a x ops rs ad s Q E t ra p; exact False.elim p
  · intro A d fenv outer L fs c μ fd vs xs ad s Q E a o pm code doc ho hd hc S r p; exact False.elim p
  · intro A d fenv outer L fs env sc Z ρ μ e tgt ad s Q E t p; exact False.elim p
  · intro A d outer L fs env sc Z hL ρ μ b ad s Q E t p; exact False.elim p
  · intro A d outer L fs env sc Z hL ρ μ b ad s Q E t p; exact False.elim p
theorem all_le (G : GG P tab cst) (X : GX P) : ∀ n, ∀ m ≤ n, All tab cst P m
  | 0, m, h => by obtain rfl := Nat.le_zero.mp h; exact all_zero
  | n + 1, m, h => by
    have ih := all_le G X n
    rcases Nat.lt_or_eq_of_le h with q | rfl
    · exact ih m (Nat.le_of_lt_succ q)
    · have a := ih n (Nat.le_refl n)
      exact ⟨se_succ G (fun m hm => (ih m hm).e) a.es a.o a.t a.c a.call a.src, ses_succ a.e a.es, so_succ a.e, st_succ a.e a.t a.a a.c, sa_succ a.t a.a, sc_succ a.e a.c, scall_succ G.gf a.ss, ssrc_succ G a.e,
        ss_succ G X (fun m hm => (ih m hm).e) (fun m hm => (ih m hm).t) (fun m hm => (ih m hm).ss) a.es a.src (fun m hm => (ih m (Nat.le_of_lt hm)).src), sss_succ a.s a.ss⟩
theorem sound (G : GG P tab cst) (X : GX P) (n : Nat) : All tab cst P n := all_le G X n n (Nat.le_refl n)
end
end Mine
namespace Mine
section
variable {P : Par} {s₁ : Shared} {R : WRecords} {cl : Str → Option Addr}
theorem walk_end {tab : Str → Option DefRec} {cst : Str → Option V} (G : GG P tab cst) (X : GX P) (hb : P.h₀ = s₁.heap) {a : Addr} {vals : List Value} {fd : DefRec} (hm : P.mg "law" = some (.ref a)) (hl : tab "law" = some fd) {is : List Int}
    (hr : RelL P s₁.heap [] [] [.lst (is.map .int)] vals) {n : Nat} {μ : M} (hev : evCall tab cst n 40 [] fd [.lst (is.map .int)] = .ok (.bool true) μ) {Q : Value → Shared → Prop} {E : Value → Shared → Prop}
    (K : ∀ h' tk, (∀ b o, s₁.heap.get? b = some o → h'.get? b = some o) → Q (.bool true) { s₁ with heap := h', toks := tk }) : wpAny (model P.prog P.w) callerA (call (.ref a) vals) Q E s₁ := by
  obtain ⟨a', o, pm, code, doc, hm', ho, hd, hc⟩ := G.gf.fn "law" fd hl
  rw [hm] at hm'
  cases hm'
  cases n with
  | zero => cases (show (Out.no : Out V) = Out.ok (V.bool true) μ from hev)
  | succ n =>
    have S : Sim P [] [] [] s₁.heap := ⟨fun b o e => hb ▸ e, rfl, List.nodup_nil, fun i a l e => by simp at e, by simp, by simp, by simp, by simp⟩
    refine call_succ (L := 0) G.gf (sound G X n).ss (fr := []) (d := 40) ⟨rfl, by simp, rfl, by decide, by decide⟩ ho hd hc S hr ?_
    rw [hev]
    intro b ad' h' tk st S' r
    cases r
    exact K h' tk fun b o e => S'.base b o (hb ▸ e)
end
end Mine
namespace Mine
section
variable {P : Par} {A : Around} {s : Shared} {E : Value → Shared → Prop} {e : Addr} {oe : Obj} {vs : Array Value}
theorem K_keeps (X : P.K.In P.h₀) (k : ∀ b o, P.h₀.get? b = some o → s.heap.get? b = some o) : P.K.In s.heap := fun b o q => k b o (X b o q)
theorem type_at {M : Model} (e1 : s.heap.get? e = some oe) (e2 : oe.cls = .ref P.B) : Looks M s.heap (typeOf (.ref e)) (.ref P.B) := by
  rw [← e2]
  exact (Looks.ld e1).andThen .now
theorem catch_ok {Q : Bool → Shared → Prop} (X : P.K.In P.h₀) (hx : exmOne P.K (.ref P.B) (.ref P.B) = some true) (k : ∀ b o, P.h₀.get? b = some o → s.heap.get? b = some o)
    (e1 : s.heap.get? e = some oe) (e2 : oe.cls = .ref P.B) (q : Q true s) : wpAny (model P.prog P.w) A (excMatches (.ref e) (.ref P.B)) Q E s :=
  (exm_one (K_keeps X k) (type_at e1 e2) hx).here q
theorem isType_ok {Q : Bool → Shared → Prop} (e1 : s.heap.get? e = some oe) (e3 : oe.data = .fields vs) (q : Q false s) : wpAny (model P.prog P.w) A (isType (.ref e)) Q E s := by
  obtain ⟨h, g, d, t, os⟩ := s
  exact ks_wpAny_isType_inst e1 (fun c q => by rw [e3] at q; cases q) q
theorem from_ok {msg : String} {Q : Value → Shared → Prop} (X : P.K.In P.h₀) (hx : mroIn P.K P.B (.type "BaseException") = some true) (k : ∀ b o, P.h₀.get? b = some o → s.heap.get? b = some o)
    (e1 : s.heap.get? e = some oe) (e2 : oe.cls = .ref P.B) (e3 : oe.data = .fields vs) (q : Q (.ref e) s) : wpAny (model P.prog P.w) A (excFromValue (.ref e) msg) Q E s := by
  unfold excFromValue isExcClass
  refine wpAny_bind (wpAny_bind (isType_ok e1 e3 ?_))
  rw [if_neg Bool.false_ne_true]
  refine wpAny_pure ?_
  rw [if_neg Bool.false_ne_true]
  refine wpAny_bind ?_
  have L : Looks (model P.prog P.w) s.heap (isInstance (.ref e) (.type "BaseException")) true := (type_at e1 e2).andThen (looks_mroIn (K_keeps X k) hx)
  refine L.here ?_
  rw [if_pos rfl]
  exact wpAny_pure q
theorem raised_ok {Q : Value → Shared → Prop} (X : P.K.In P.h₀) (hx : typeIn P.K (.ref P.B) = some (.type "type")) (k : ∀ b o, P.h₀.get? b = some o → s.heap.get? b = some o)
    (e1 : s.heap.get? e = some oe) (e2 : oe.cls = .ref P.B) (q : Q (.ref e) s) : wpAny (model P.prog P.w) A (raisedInstance (.ref e)) Q E s := by
  unfold raisedInstance
  refine wpAny_bind ((type_at e1 e2).here ?_)
  refine wpAny_bind ((looks_typeIn (K_keeps X k) hx).here ?_)
  rw [if_pos (by decide)]
  exact wpAny_pure q
end
end Mine
namespace Mine
section
variable {P : Par} {A : Around} {s : Shared} {E : Value → Shared → Prop} {e dx : Addr} {oe od : Obj} {vs : Array Value}
theorem pl_ga : plainId "BaseException.__getattribute__" = true := by decide +kernel
theorem bk_ga : builtinKind "BaseException.__getattribute__" = some .slot := by decide +kernel
theorem sp_ga : splitId "BaseException.__getattribute__" = some ("BaseException", "__getattribute__") := by decide +kernel
theorem ga_check {n : Value} {Q : Unit → Shared → Prop} (LI : Looks (model P.prog P.w) s.heap (isInstance (.ref e) (.type "BaseException")) true) (q : Q () s) :
    wpAny (model P.prog P.w) A (checkBuiltinCall "BaseException.__getattribute__" ⟨[.ref e, n], []⟩) Q E s := by
  have ha := PySem.F.args_bexc_ga (.ref e) n
  simp only [checkBuiltinCall, bk_ga, sp_ga]
  refine wpAny_bind (LI.here ?_)
  obtain ⟨hh, g, dd, tt, os⟩ := s
  repeat wp_step
  exact q
open PySem.Builtin.ObjectAttr in
theorem ga_run {v : Value} {tk : Nat} {Q : Fin → Shared → Prop} {x : Str} {T : Value} (L0 : Looks (model P.prog P.w) s.heap (typeOf (.ref e)) T) (L1 : Looks (model P.prog P.w) s.heap (find (.ref e) T x) (Found.value v)) (q : Q (.done (.ret v)) s) :
    wpAny (model P.prog P.w) A (Builtin.«object.__getattribute__» ⟨[.ref e, .str x tk], []⟩) Q E s := by
  obtain ⟨hh, g, dd, tt, os⟩ := s
  repeat (any_goals (first | (with_reducible refine Looks.at L0 ?_) | (with_reducible refine Looks.at L1 ?_) | wp_step))
  exact q
open PySem.Builtin.ObjectAttr in
theorem ga_call {v : Value} {tk : Nat} {R : Result → Shared → Prop} {x : Str} {T : Value} (LI : Looks (model P.prog P.w) s.heap (isInstance (.ref e) (.type "BaseException")) true)
    (L0 : Looks (model P.prog P.w) s.heap (typeOf (.ref e)) T) (L1 : Looks (model P.prog P.w) s.heap (find (.ref e) T x) (Found.value v)) (q : R (.ok (.ret v)) s) :
    codeAny (model P.prog P.w) A (.call (.builtin "BaseException.__getattribute__") ⟨[.ref e, .str x tk], []⟩) R s :=
  codeAny_call_builtin pl_ga PySem.F.entry_bexc_ga (ga_check LI (ga_run L0 L1 q))
theorem bexc_bind (v : Value) : bindSpecial (.builtin "BaseException.__getattribute__") v = pure (.builtin "BaseException.__getattribute__", [v]) := PySem.F.attr_Exception.ga.bind v
theorem by_own {prog : Program} {w : World} {o nm t v : Value} {ga : String} {fill expr : Bool} {s' : Shared} {Q : Value → Shared → Prop} (ht : Looks (model prog w) s.heap (typeOf o) t) (hl : Looks (model prog w) s.heap (typeLookup t "__getattribute__") (some (.builtin ga)))
    (hd : ga ≠ "object.__getattribute__") (hk : Looks (model prog w) s.heap (hookBefore t) none) (hb : ∀ x : Value, bindSpecial (.builtin ga) x = pure (.builtin ga, [x])) (hh : handedIn v = true)
    (told : ∀ {A : Around}, wpAny (model prog w) A (call (.builtin ga) [o, nm]) (fun u z => u = v ∧ z = s') (fun _ _ => False) s) (q : Q v s') : wpAny (model prog w) A (getAttrBy o nm fill expr) Q E s := by
  have usual : (Value.builtin ga == Value.builtin "object.__getattribute__") = false := beq_eq_false_iff_ne.mpr fun e => hd (Value.builtin.inj e)
  refine wpAny_holding (wpAny_bind (ht.here (wpAny_bind (hl.here (KFB.if_not ((congrArg (onTheHeap t && ·) usual).trans (Bool.and_false _)) ?_)))))
  refine wpAny_bind (m := hookBefore t) (hk.here (wpAny_bind (wpAny_attempt (wpAny_holding ?_))))
  have e : callGetattribute o nm (.builtin ga) expr = boundAndCalled (.builtin ga) o nm := by cases expr <;> rfl
  rw [e]
  clear e
  refine wpAny_bind (wpAny_of_eq (hb o) (wpAny_mono told (fun u z e => ?_) fun _ _ z => z.elim))
  cases e.1
  cases e.2
  exact wpAny_of_eq (handedOut_of hh) q
theorem code_ok {k : Str} {t : Tok} {m : Str → Option Value} {Q : Value → Shared → Prop} (X : P.K.In P.h₀) (hbe : mroIn P.K P.B (.type "BaseException") = some true) (hga : findIn P.K (.ref P.B) "__getattribute__" = some (some (.builtin "BaseException.__getattribute__")))
    (hgt : findIn P.K (.ref P.B) "__getattr__" = some none) (hf : ∀ (od : Obj) (v : Value), lookIn "code" od = some (some v) → findObj P.K P.B (some od) "code" = some (.value v))
    (kp : ∀ b o, P.h₀.get? b = some o → s.heap.get? b = some o) (e1 : s.heap.get? e = some oe) (e2 : oe.cls = .ref P.B) (e3 : oe.dict = some dx) (e4 : oe.data = .fields vs) (e5 : s.heap.get? dx = some od) (e6 : s.heap.Ns dx m) (e7 : m "code" = some (.str k t))
    (q : ∀ tk, Q (.str k t) { s with toks := tk }) : wpAny (model P.prog P.w) A (getAttr (.ref e) "code" true) Q E s := by
  have XK := K_keeps X kp
  have I : PySem.W.InstAt s.heap e oe P.B (some od) := ⟨e1, e2, by unfold notCls; rw [e4], by rw [e3]; exact e5⟩
  unfold getAttr
  refine wpAny_bind (wpAny_mkText ?_)
  exact by_own (s := { s with toks := s.toks + 1 }) I.type (looks_findIn XK hga) (by decide) (looks_findIn XK hgt) bexc_bind rfl (wpAny_call (ga_call ((type_at e1 e2).andThen (looks_mroIn XK hbe)) I.type (looks_find XK I (hf od _ (lookIn_of e6 e5 e7))) ⟨rfl, rfl⟩)) (q _)
end
end Mine
namespace Mine
inductive LVObj (P : Par) : Prop
  | mk : ∀ nm q N bs sn sub ab col dd k0 k1 k2 k3 k5 newId mN, P.h₀.get? P.C = some (excClassObj nm q P.C N bs [.type "object"] true sn sub ab col dd k0 k1 k2 k3 k5 newId) → P.h₀.Ns N mN → mN "__setattr__" = none → mN "kind" = none → mN "word" = none → mN "args" = none → mN "operands" = none → mN "operators" = none → LVObj P
inductive LVInit (P : Par) : Prop
  | mk : ∀ (fI : Addr) (o : Obj) (fd : FuncData) (p : Nat → Pos), findIn P.K (.ref P.C) "__init__" = some (some (.ref fI)) → typeIn P.K (.ref fI) = some (.type "function") → P.h₀.get? fI = some o → o.data = .func fd → P.h₀.CodeRec fd.code fd.qualname → fd.closure = [] → fd.defaults = .none → plainArgs fd.params = true → fd.params.args.map (·.arg) = (["self", "kind", "word"] : List Str) → fd.scope.kind = .function → fd.scope.isCoroutine = false → fd.scope.isGenerator = false → ((∀ x ∈ fd.scope.names, x.2 ≠ .cell)) → fd.scope.names.lookup ("self" : Str) = some .local → fd.scope.names.lookup ("kind" : Str) = some .local → fd.scope.names.lookup ("word" : Str) = some .local → fd.body = .stmts [.Assign [.Attribute (.Name "self" (p 0)) "kind" (p 1)] (.Name "kind" (p 2)) (p 3), .Assign [.Attribute (.Name "self" (p 4)) "word" (p 5)] (.Name "word" (p 6)) (p 7), .Assign [.Attribute (.Name "self" (p 8)) "args" (p 9)] (.List [] (p 10)) (p 11), .Assign [.Attribute (.Name "self" (p 12)) "operands" (p 13)] (.List [] (p 14)) (p 15), .Assign [.Attribute (.Name "self" (p 16)) "operators" (p 17)] (.List [] (p 18)) (p 19)] → LVInit P
structure LV (P : Par) : Prop where
  makes : makesIn P.K P.C = true
  obj : LVObj P
  init : LVInit P
section
variable {prog : Program} {w : World} {A : Around} {s : Shared} {E : Value → Shared → Prop} {env : Env}
structure Mid (s₀ : Heap) (C L x dx : Addr) (mL mA : Str → Option Value) (h : Heap) : Prop where
  keep : ∀ b o, s₀.get? b = some o → h.get? b = some o
  ns : h.Ns L mL
  at_ : h.get? x = some (instObj C dx)
  dict : h.Ns1 dx mA
theorem self_store {nm q : Str} {C N L x dx : Addr} {bs : List Value} {sn : List Str} {sub : List Value} {ab : Bool} {col : Option Bool} {dd : Option Addr} {k0 k1 k2 k3 k5 : Option Value} {newId : String} {mN mL mA : Str → Option Value} {ns : List Str} {s₀ : Heap}
    {name : Str} {p1 p2 pos : Pos} {value : Expr} {Q : Flow → Shared → Prop} (hk : env.scope.kind = .function) (hl : env.kindOf "self" = some .local) (hL : env.locals = L) (hself : mL "self" = some (.ref x))
    (hC : s₀.get? C = some (excClassObj nm q C N bs [.type "object"] true sn sub ab col dd k0 k1 k2 k3 k5 newId)) (hN : s₀.Ns N mN) (h1 : mN "__setattr__" = none) (h2 : mN name = none) (hB : typeLookup (.type "object") name = pure none)
    (n1 : s₀.get? x = none) (n2 : s₀.get? dx = none) (nL : L ≠ dx) (nx : x ≠ dx) (hw : Within mA ns) (hz : ns.length ≤ 100)
    (h : wpAny (model prog w) A (eval value env) (fun v s₁ => Mid s₀ C L x dx mL mA s₁.heap ∧ ∀ h' tk, Mid s₀ C L x dx mL (fun y => if y = name then some v else mA y) h' →
      (∀ b o, b ≠ dx → s₁.heap.get? b = some o → h'.get? b = some o) → Q .next { s₁ with heap := h', toks := tk }) E s)
    (hs : swapsWith value (some (.Attribute (.Name "self" p1) name p2)) pos.line env = pure false) :
    wpAny (model prog w) A (exec (.Assign [.Attribute (.Name "self" p1) name p2] value pos) env) Q E s := by
  refine plainObj_wpAny_Assign_Attribute (wpAny_mono h (fun v s₁ h₁ => ?_) fun _ _ e => e) hs
  refine el_a (h₁) fun mid k => ?_; try clear h₁
  refine wpAny_Name (wpAny_loadName_local hk hl (by rw [hL]; exact mid.ns) hself ?_)
  obtain ⟨hh, g, d, t, os⟩ := s₁
  have hxC : x ≠ C := fun e => by rw [e, hC] at n1; cases n1
  have I : hh.Inst x C mA := ⟨_, mid.at_, rfl, fun c q => (by cases q), .inr ⟨dx, rfl, Ne.symm nx, mid.dict⟩⟩
  refine store_attr PySem.F.store_object (mid.keep _ _ hC) (hN.keeps mid.keep) h1 h2 hB hxC I (fun h' tk' I' hk' hsame => ?_) hw (by rw [sizeLine_eq]; omega)
  refine el_eaaaa (hsame _ mid.at_) fun o₁ q1 q2 q3 q4 q5 => ?_
  have e1 : o₁ = instObj C dx := by
    obtain ⟨a, b, c, e⟩ := o₁
    dsimp only at q2 q3 q4 q5
    rw [q2, q3, q4, q5 dx rfl]
  have kp : ∀ b o, b ≠ dx → hh.get? b = some o → h'.get? b = some o := fun b o hb e => by
    by_cases hx : b = x
    · subst hx
      have := mid.at_
      rw [show hh.get? b = some o from e] at this
      cases this
      rw [q1, e1]
    · exact hk' b o hx (fun o₀ dx' e0 e1 => by rw [mid.at_] at e0; cases e0; cases e1; exact hb) e
  refine k h' tk' ⟨fun b o e => kp b o (fun q => by rw [q, n2] at e; cases e) (mid.keep b o e), ?_, by rw [q1, e1], ?_⟩ kp
  · refine el_eeea (mid.ns) fun o es ep e z => ?_
    exact ⟨o, es, ep, kp _ _ nL e, z⟩
  · refine el_eaaa (I') fun o r1 r2 r3 r4 => ?_; try clear I'
    rw [q1, e1] at r1
    cases r1
    rcases r4 with ⟨r, _⟩ | ⟨d', r, _, r'⟩
    · cases r
    · cases r; exact r'
end
end Mine
namespace Mine
section
variable {P : Par} {A : Around} {s : Shared} {E : Value → Shared → Prop} {fs ad : List Addr} {μ : M} {h h' : Heap}
theorem Mid.push {s₀ : Heap} {C L x dx : Addr} {mL mA : Str → Option Value} (m : Mid s₀ C L x dx mL mA h) (o : Obj) : Mid s₀ C L x dx mL mA (h.push o) := by
  refine ⟨fun b o' e => push_keeps _ _ _ (m.keep b o' e), m.ns.keeps (push_keeps _), push_keeps _ _ _ m.at_, ?_⟩
  refine el_eeea (m.dict) fun o' es ep e z => ?_
  exact ⟨o', es, ep, push_keeps _ _ _ e, z⟩
theorem Sim.cells {U : List Addr} {as : List Addr} (S : Sim P fs ad μ h) (k : ∀ b o, h.get? b = some o → h'.get? b = some o) (ha : ∀ a ∈ as, h.get? a = none ∧ h'.PlainList a #[]) (hn : as.Nodup) :
    Sim P fs (ad ++ as) (μ ++ as.map fun _ => []) h' ∧ Step U fs ad (ad ++ as) h h' := by
  have st : Step U fs ad (ad ++ as) h h' := ⟨⟨as, rfl, fun a q => (ha a q).1⟩, fun b o e _ _ => k b o e, fun b _ _ => .of_keep (k b), fun b _ m n => ⟨m, n.keeps k⟩, fun b o e => ⟨o, k b o e⟩⟩
  refine ⟨⟨fun b o e => k b o (S.base b o e), by simp [S.len], ?_, fun i a l e1 e2 => ?_, fun a q => ?_, S.fsNew, fun a q => let ⟨o, e, n⟩ := S.fsAt a q; ⟨o, k _ _ e, n⟩, fun a q => ?_⟩, st⟩
  · refine List.nodup_append.mpr ⟨S.nd, hn, fun a q b q' e => ?_⟩
    refine el_eea (S.listAt q) fun _ o e' _ => ?_
    rw [e, (ha b q').1] at e'; cases e'
  · by_cases hi : i < ad.length
    · rw [List.getElem?_append_left hi] at e1
      rw [List.getElem?_append_left (by rw [← S.len]; exact hi)] at e2
      refine el_ea (S.cell i a l e1 e2) fun items hn1n23 r => ?_; obtain ⟨o, e⟩ := hn1n23
      exact ⟨items, ⟨o, k _ _ e⟩, r.carry st.carry⟩
    · rw [List.getElem?_append_right (Nat.not_lt.mp hi)] at e1
      rw [List.getElem?_append_right (by rw [← S.len]; exact Nat.not_lt.mp hi)] at e2
      have hm : a ∈ as := List.mem_iff_getElem?.mpr ⟨_, e1⟩
      rw [List.getElem?_map] at e2
      have hl : l = [] := by
        cases q : as[i - μ.length]? with
        | none => rw [q] at e2; cases e2
        | some _ => rw [q] at e2; cases e2; rfl
      subst hl
      exact ⟨#[], (ha a hm).2, .nil⟩
  · rcases List.mem_append.mp q with q | q
    · exact S.adNew a q
    · cases e : P.h₀.get? a with
      | none => rfl
      | some o => have := S.base a o e; rw [(ha a q).1] at this; cases this
  · rcases List.mem_append.mp q with q | q
    · exact S.dj a q
    · intro q'
      refine el_ea (S.fsAt a q') fun o e _ => ?_
      rw [(ha a q).1] at e; cases e
theorem tl_object (x : Str) (h : x = "kind" ∨ x = "word" ∨ x = "args" ∨ x = "operands" ∨ x = "operators") : typeLookup (.type "object") x = pure none := by
  rcases h with rfl | rfl | rfl | rfl | rfl <;> (rw [typeLookup_type, builtinLookup_eq_fast]; kernel_rfl)
end
end Mine
namespace Mine
section
variable {P : Par} {A : Around} {s : Shared} {E : Value → Shared → Prop} {fs ad : List Addr} {μ : M} {h h' : Heap}
theorem name_val {env : Env} {x : Str} {p : Pos} {m : Str → Option Value} {v : Value} {Q : Value → Shared → Prop} (hk : env.scope.kind = .function) (hl : env.kindOf x = some .local) (hn : s.heap.Ns env.locals m) (hv : m x = some v) (hd : (x == ("__debug__" : Str)) = false) (q : Q v s) :
    wpAny (model P.prog P.w) A (eval (.Name x p) env) Q E s := wpAny_Name (wpAny_loadName_local hk hl hn hv q) hd
theorem nil_val {env : Env} {p : Pos} {Q : Value → Shared → Prop} (q : Q (.ref s.heap.objs.size) { s with heap := s.heap.push { cls := .type "list", data := .seq #[] } }) : wpAny (model P.prog P.w) A (eval (.List [] p) env) Q E s := by
  refine List_ ?_
  rw [args_plain rfl]
  exact Calls.spliced_nil (wpAny_newObj_type q (by show 0 ≤ sizeLine; exact Nat.zero_le _))
theorem make_ok {d : Nat} {fenv : Env} {outer : List Env} {L : Addr} {k w : Str} {t u : Tok} {Q : Value → Shared → Prop} (V : LV P) (XK : P.K.In P.h₀) (nolim : P.h₀.NoLimit) (c : Cx A d fenv outer L fs) (S : Sim P fs ad μ s.heap)
    (p : PostG P [] fs L (RV P fs) (.ok (.level (.str k) (.str w) μ.length) (μ ++ [[], [], []])) ad s Q E) : wpAny (model P.prog P.w) A (call (.ref P.C) [.str k t, .str w u]) Q E s := by
  obtain ⟨nm, q, N, bs, sn, sub, ab, col, dd, k0, k1, k2, k3, k5, newId, mN, hC, hN, hNs, hN1, hN2, hN3, hN4, hN5⟩ := V.obj
  obtain ⟨fI, fo, fd, ps, hin, hfn, hfo, hfd, hcd, hclo, hdf, hpl, har, hkd, hco, hgen, hcell, hl1, hl2, hl3, hbody⟩ := V.init
  have X : P.K.In s.heap := fun b o e => S.base b o (XK b o e)
  obtain ⟨hh, g, dr, tt, os⟩ := s
  refine wpAny_call (make_core (makes_of X V.makes) (looks_findIn X hin) (fun self => bind_fn X self hfn) (.inl rfl) ?_)
  have kp0 : ∀ b o, hh.get? b = some o → ((hh.push emptyDict).push (instObj P.C hh.objs.size)).get? b = some o := fun b o e => push_keeps _ _ _ (push_keeps _ _ _ e)
  have hx : ((hh.push emptyDict).push (instObj P.C hh.objs.size)).get? (hh.objs.size + 1) = some (instObj P.C hh.objs.size) := by
    have := Heap.get?_push_size (hh.push emptyDict) (o := instObj P.C hh.objs.size) rfl
    rw [Heap.size_push] at this; exact this
  have hdx : ((hh.push emptyDict).push (instObj P.C hh.objs.size)).get? hh.objs.size = some emptyDict := push_keeps _ _ _ (Heap.get?_push_size _ rfl)
  have hz : ((hh.push emptyDict).push (instObj P.C hh.objs.size)).objs.size = hh.objs.size + 2 := by rw [Heap.size_push, Heap.size_push]
  generalize hH : (hh.push emptyDict).push (instObj P.C hh.objs.size) = H0 at kp0 hx hdx hz ⊢
  have fr : ∀ a, hh.objs.size ≤ a → hh.get? a = none := fun a ha => by
    cases e : hh.get? a with
    | none => rfl
    | some o => exact absurd (Heap.lt_size e) (Nat.not_lt.mpr ha)
  refine codeAny_call_plain (fd := fd) (binds := (["self", "kind", "word"] : List Str).zip [.ref (hh.objs.size + 1), .str k t, .str w u]) (by have := c.depth; show A.depth + 1 < 1000; omega) (kp0 _ _ (S.base _ _ hfo)) hfd ((nolim.keeps S.base).keeps kp0) ((hcd.keeps S.base).keeps kp0) hbody
    (by rw [← har]; exact bind_fd hpl hdf (by rw [har]; decide) (by rw [har]; rfl)) hcell (fun y hy => ?_) (fun h₀ hns hk => ?_) hco hgen hkd
  · simp at hy
    rcases hy with rfl | rfl | rfl
    · exact hl1
    · exact hl2
    · exact hl3
  · generalize henv : callEnv fd H0.objs.size fI = env
    have hL : env.locals = H0.objs.size := by rw [← henv]; rfl
    have hsc : env.scope = fd.scope := by rw [← henv]; rfl
    have hk' : env.scope.kind = .function := by rw [hsc]; exact hkd
    have e1 : env.kindOf "self" = some .local := by unfold Env.kindOf; rw [hsc]; exact hl1
    have e2 : env.kindOf "kind" = some .local := by unfold Env.kindOf; rw [hsc]; exact hl2
    have e3 : env.kindOf "word" = some .local := by unfold Env.kindOf; rw [hsc]; exact hl3
    clear henv
    have hxd : hh.objs.size + 1 ≠ hh.objs.size := Nat.succ_ne_self _
    have hLd : H0.objs.size ≠ hh.objs.size := by rw [hz]; exact Nat.ne_of_gt (Nat.lt_succ_of_lt (Nat.lt_succ_self _))
    generalize hmL : (fun x => ((["self", "kind", "word"] : List Str).zip [Value.ref (hh.objs.size + 1), .str k t, .str w u]).reverse.lookup x) = mL at hns
    have m1 : mL "self" = some (.ref (hh.objs.size + 1)) := by rw [← hmL]; rfl
    have m2 : mL "kind" = some (.str k t) := by rw [← hmL]; rfl
    have m3 : mL "word" = some (.str w u) := by rw [← hmL]; rfl
    clear hmL
    have mid0 : Mid hh P.C H0.objs.size (hh.objs.size + 1) hh.objs.size mL (fun _ => none) h₀ := by
      refine ⟨fun b o e => hk _ _ (kp0 b o e), hns, hk _ _ hx, Heap.Ns1.of_empty ⟨emptyDict, #[], _, hk _ _ hdx, rfl, fun e he => absurd he (by simp), fun _ => rfl⟩⟩
    have hC' := S.base _ _ hC
    have hN' : hh.Ns N mN := hN.keeps S.base
    have fx := fr (hh.objs.size + 1) (Nat.le_succ _)
    have fd' := fr hh.objs.size (Nat.le_refl _)
    generalize hh.objs.size + 1 = x at mid0 hx m1 fx hxd ⊢
    generalize hdxe : hh.objs.size = dx at mid0 hdx fd' hxd hLd ⊢
    generalize H0.objs.size = L' at mid0 hns hL hLd ⊢
    refine wpAny_execs_cons (self_store (ns := []) hk' e1 hL m1 hC' hN' hNs hN1 (tl_object _ (by simp)) fx fd' hLd hxd (fun y hy => absurd rfl hy) (by decide)
      (name_val hk' e2 (by rw [hL]; exact mid0.ns) m2 (by decide) ⟨mid0, fun h1 tk1 mid1 kp1 => ?_⟩) rfl)
    refine wpAny_execs_cons (self_store (ns := ["kind"]) hk' e1 hL m1 hC' hN' hNs hN2 (tl_object _ (by simp)) fx fd' hLd hxd (by within_ways) (by decide)
      (name_val hk' e3 (by rw [hL]; exact mid1.ns) m3 (by decide) ⟨mid1, fun h2 tk2 mid2 kp2 => ?_⟩) rfl)
    refine wpAny_execs_cons (self_store (ns := ["word", "kind"]) hk' e1 hL m1 hC' hN' hNs hN3 (tl_object _ (by simp)) fx fd' hLd hxd (by within_ways) (by decide)
      (nil_val ⟨mid2.push _, fun h3 tk3 mid3 kp3 => ?_⟩) rfl)
    refine wpAny_execs_cons (self_store (ns := ["args", "word", "kind"]) hk' e1 hL m1 hC' hN' hNs hN4 (tl_object _ (by simp)) fx fd' hLd hxd (by within_ways) (by decide)
      (nil_val ⟨mid3.push _, fun h4 tk4 mid4 kp4 => ?_⟩) rfl)
    refine wpAny_execs_cons (self_store (ns := ["operands", "args", "word", "kind"]) hk' e1 hL m1 hC' hN' hNs hN5 (tl_object _ (by simp)) fx fd' hLd hxd (by within_ways) (by decide)
      (nil_val ⟨mid4.push _, fun h5 tk5 mid5 kp5 => ?_⟩) rfl)
    refine wpAny_execs_nil ⟨rfl, ?_⟩
    dsimp only at kp3 kp4 kp5
    have dxAt : ∀ {hq : Heap} {mq : Str → Option Value}, Mid hh P.C L' x dx mL mq hq → dx < hq.objs.size := fun m => let ⟨_, _, _, e, _⟩ := m.dict; Heap.lt_size e
    have l0 : h3.get? h2.objs.size = some { cls := .type "list", data := .seq #[] } := kp3 _ _ (Nat.ne_of_gt (dxAt mid2)) (Heap.get?_push_size _ rfl)
    have l0' : h4.get? h2.objs.size = some { cls := .type "list", data := .seq #[] } := kp4 _ _ (Nat.ne_of_gt (dxAt mid2)) (push_keeps _ _ _ l0)
    have l0'' : h5.get? h2.objs.size = some { cls := .type "list", data := .seq #[] } := kp5 _ _ (Nat.ne_of_gt (dxAt mid2)) (push_keeps _ _ _ l0')
    have l1 : h4.get? h3.objs.size = some { cls := .type "list", data := .seq #[] } := kp4 _ _ (Nat.ne_of_gt (dxAt mid3)) (Heap.get?_push_size _ rfl)
    have l1' : h5.get? h3.objs.size = some { cls := .type "list", data := .seq #[] } := kp5 _ _ (Nat.ne_of_gt (dxAt mid3)) (push_keeps _ _ _ l1)
    have l2 : h5.get? h4.objs.size = some { cls := .type "list", data := .seq #[] } := kp5 _ _ (Nat.ne_of_gt (dxAt mid4)) (Heap.get?_push_size _ rfl)
    have lt1 : h2.objs.size < h3.objs.size := Heap.lt_size l0
    have lt2 : h3.objs.size < h4.objs.size := Heap.lt_size l1
    have new : ∀ {hq : Heap}, (∀ b o, hh.get? b = some o → hq.get? b = some o) → hh.get? hq.objs.size = none := fun {hq} kq => by
      cases e : hh.get? hq.objs.size with
      | none => rfl
      | some o => exact absurd (Heap.lt_size (kq _ _ e)) (Nat.lt_irrefl _)
    obtain ⟨S', st⟩ := S.cells (U := []) (h' := h5) (as := [h2.objs.size, h3.objs.size, h4.objs.size]) mid5.keep (by
      intro a ha
      simp only [List.mem_cons, List.not_mem_nil, or_false] at ha
      rcases ha with rfl | rfl | rfl
      · exact ⟨new mid2.keep, _, l0''⟩
      · exact ⟨new mid3.keep, _, l1'⟩
      · exact ⟨new mid4.keep, _, l2⟩) (by simp [Nat.ne_of_lt lt1, Nat.ne_of_lt lt2, Nat.ne_of_lt (Nat.lt_trans lt1 lt2)])
    have notL : ∀ {a : Addr} {o : Obj}, hh.get? a = none → h5.get? a = some o → (∀ it n, o.data ≠ .seq it n) → a ∉ ad ++ [h2.objs.size, h3.objs.size, h4.objs.size] ∧ a ∉ fs := fun {a o} e e' hd => by
      refine ⟨fun q => ?_, fun q => by obtain ⟨_, e2, _⟩ := S.fsAt _ q; rw [e] at e2; cases e2⟩
      rcases List.mem_append.mp q with q | q
      · refine el_eea (S.listAt q) fun _ _ e2 _ => ?_; rw [show hh.get? a = none from e] at e2; cases e2
      · refine el_eeaae (S'.listAt (List.mem_append_right ad q)) fun it o2 e2 _ n d2 => ?_
        rw [show h5.get? a = some o from e'] at e2; cases e2
        exact hd _ _ d2
    refine el_eeeaa (mid5.dict) fun od es ep e5 dd5 z5 => ?_
    have hl := S.len
    have x1 := notL fx mid5.at_ (fun _ _ q => by cases q)
    have x2 := notL fd' e5 (fun _ _ q => by rw [dd5] at q; cases q)
    refine p (.ref x) _ h5 tk5 st S' (.level ⟨dx, od, _, h2.objs.size, h3.objs.size, h4.objs.size, t, u, mid5.at_, e5, ⟨od, es, ep, e5, dd5, z5.1, z5.2.2⟩, rfl, rfl, rfl, rfl, rfl, ?_, ?_, ?_⟩ x1.1 x1.2 fun dx' q => ?_)
    · rw [← hl]; simp
    · rw [← hl]; simp
    · rw [← hl]; simp
    · rw [mid5.at_] at q
      cases q
      exact x2
end
end Mine
namespace Mine
section
open Builtin Builtin.ObjectAttr
variable {prog : Program} {w : World} {A : Around} {E : Value → Shared → Prop} {s : Shared} {name : Str} {v : Value}
theorem dict_put {a : Addr} {tk : Tok} {Q : Fin → Shared → Prop} (e : s.heap.get? a = some { cls := .type "dict", data := .dict #[] })
    (q : ∀ h' tk', h'.Ns1 a (fun y => if y = name then some v else none) → Heap.SameBut a s.heap h' → Q (.done (.ret .none)) { s with heap := h', toks := tk' }) :
    wpAny (model prog w) A (storeInDict a (.str name tk) name v) Q E s := by
  have z : s.heap.Ns1 a fun _ => none := .of_empty ⟨_, _, _, e, rfl, fun _ m => absurd m (by simp), fun _ => rfl⟩
  refine wpAny_bind (wpAny_pure (wpAny_bind (wpAny_nsSet1 z fun h' n same => ?_)))
  refine el_eeeaa (n.count (Within.cons name v Within.nil)) fun _ _ _ ho hd hc => ?_
  exact wpAny_bind (wpAny_lookBehind ho (hd ▸ pastItsLine_dict (Nat.le_trans hc (Nat.le_add_left 1 _))) (wpAny_pure (q h' _ n same)))
theorem dict_born {x C : Addr} {fields : Array Value} {oC : Obj} {cd : ClassData} {Q : Option Addr → Shared → Prop} (hC : s.heap.get? C = some oC) (hd : oC.data = .cls cd) (has : cd.hasDict = true)
    (hx : s.heap.get? x = some { cls := .ref C, data := .fields fields })
    (q : ∀ h', h'.get? s.heap.objs.size = some { cls := .type "dict", data := .dict #[] } → h'.get? x = some { cls := .ref C, dict := some s.heap.objs.size, data := .fields fields } →
      (∀ b o, b ≠ x → s.heap.get? b = some o → h'.get? b = some o) → Q (some s.heap.objs.size) { s with heap := h' }) : wpAny (model prog w) A (ownDictForStores (.ref x)) Q E s := by
  have apart : s.heap.objs.size ≠ x := Nat.ne_of_gt (Heap.lt_size hx)
  have kept := Heap.get?_push_of_some (h := s.heap) { cls := .type "dict", data := .dict #[] } hx
  refine wpAny_bind (m := loadPart x (some headPart)) (wpAny_loadPart hx (wpAny_bind (m := classData C) (wpAny_bind (wpAny_load hC ?_))))
  rw [hd]
  refine wpAny_pure ?_
  rw [has]
  refine wpAny_bind (wpAny_alloc (wpAny_bind (wpAny_update kept (wpAny_pure (q _ ?_ ?_ ?_)))))
  · exact (Heap.get?_update_other _ _ apart.symm).trans (Heap.get?_push_size _ rfl)
  · exact Heap.get?_update_self _ kept rfl
  · exact fun b o hb e => (Heap.get?_update_other _ _ (Ne.symm hb)).trans (Heap.get?_push_of_some _ e)
theorem first_attr {nm q : Str} {C N x : Addr} {bs bm : List Value} {sn : List Str} {sub : List Value} {ab : Bool} {col : Option Bool} {dd : Option Addr} {k0 k1 k2 k3 k5 : Option Value} {B newId sa owner : String} {mN : Str → Option Value}
    {h : Heap} {g : Array GenState} {d : Drawn} {t : Nat} {os : OsState} {fields : Array Value} {Q : Unit → Shared → Prop} (SF : StoreFacts B bm sa owner)
    (own : h.get? C = some (excClassObj nm q C N bs bm true sn sub ab col dd k0 k1 k2 k3 k5 newId)) (names : h.Ns N mN) (plain : mN "__setattr__" = none) (free : mN name = none ∧ typeLookup (.type B) name = pure none)
    (bare : h.get? x = some { cls := .ref C, data := .fields fields })
    (k : ∀ h' tk, h'.Ns1 h.objs.size (fun y => if y = name then some v else none) → h'.get? x = some { cls := .ref C, dict := some h.objs.size, data := .fields fields } →
      (∀ b o, b ≠ x → h.get? b = some o → h'.get? b = some o) → Q () ⟨h', g, d, tk, os⟩) : wpAny (model prog w) A (setAttr (.ref x) name v) Q E ⟨h, g, d, t, os⟩ := by
  have typed : ∀ {A : Around} {tk : Nat} {R : Value → Shared → Prop} {E : Value → Shared → Prop}, R (.ref C) ⟨h, g, d, tk, os⟩ → wpAny (model prog w) A (typeOf (.ref x)) R E ⟨h, g, d, tk, os⟩ := fun r => wpAny_bind (wpAny_loadPart bare (wpAny_pure r))
  refine wpAny_bind (wpAny_mkText (wpAny_bind (m := callSpecial? (.ref x) "__setattr__" _) (wpAny_bind (wpAny_specialOf_inst bare rfl own names plain SF.mro SF.slot.lookup ?_))))
  refine wpAny_holding (wpAny_bind (wpAny_of_eq (SF.slot.bind _) (wpAny_bind (wpAny_call (codeAny_call_builtin SF.slot.plain SF.entry (wpAny_check_sa SF own bare rfl ?_))))))
  refine wpAny_bind (m := refuseIfOverridden (.ref x) "__setattr__") ?_
  rw [refuse_eq]
  refine wpAny_bind (typed (wpAny_bind (wpAny_mroOf_exc own ?_)))
  rw [refuseLoop_ref, SF.passes]
  refine wpAny_pure (wpAny_bind (wpAny_of_eq (t := attrName (.str name t)) (a := name) rfl (wpAny_bind (typed (wpAny_bind (wpAny_typeLookup_exc own names SF.mro free.2 ?_))))))
  rw [free.1]
  refine wpAny_bind (wpAny_of_eq (t := storeTaker? none) (a := none) rfl (wpAny_bind (wpAny_of_eq (t := ownStreamTells (.ref x) (.ref C)) (a := ()) rfl (wpAny_bind (dict_born (s := ⟨h, g, d, t + 1, os⟩) own rfl rfl bare fun h1 e1 e2 e3 => dict_put (s := ⟨h1, g, d, t + 1, os⟩) e1 fun h2 tk n same => ?_)))))
  exact wpAny_pure (wpAny_pure (k h2 tk n ((same.2 x (Nat.ne_of_lt (Heap.lt_size bare))).trans e2) fun b o hb e => (same.2 b (Nat.ne_of_lt (Heap.lt_size e))).trans (e3 b o hb e)))
end
end Mine
namespace Mine
abbrev xi : String := "Exception.__init__"
theorem slot_wget : Slot "wrapper_descriptor" "__get__" "wrapper_descriptor.__get__" :=
  .of (owner := "wrapper_descriptor") (n := "__get__") (by rw [typeLookup_type, builtinLookup_eq_fast]; kernel_rfl) (by decide +kernel) (by decide +kernel) (by decide +kernel)
    (by first | exact .inl (by decide +kernel) | exact .inr (by decide +kernel)) (by rw [isSubtype_type]; kernel_rfl)
theorem entry_wget : entryFor table "wrapper_descriptor.__get__" = some Builtin.«wrapper_descriptor.__get__» := entryFor_of_tree (by kernel_rfl)
theorem args_wget (a b c : Value) : argsOk "wrapper_descriptor.__get__" ⟨[a, b, c], []⟩ := by unfold argsOk; kernel_rfl
theorem type_xi : typeOf (.builtin xi) = pure (.type "wrapper_descriptor") := by show builtinType _ = _; rw [builtinType_eq_fast]; kernel_rfl
section
variable {prog : Program} {w : World} {M : Model} {A : Around} {E : Value → Shared → Prop} {h : Heap} {g : Array GenState} {d : Drawn} {t : Nat} {os : OsState}
abbrev wrapObj (x : Addr) : Obj := { cls := .type "method-wrapper", data := .fields #[.builtin xi, .ref x] }
theorem run_wget {x C : Addr} {Q : Fin → Shared → Prop} (hI : Looks M h (isInstance (.ref x) (.type "Exception")) true)
    (hq : Q (.done (.ret (.ref h.objs.size))) ⟨h.push (wrapObj x), g, d, t, os⟩) :
    wpAny M A (Builtin.«wrapper_descriptor.__get__» ⟨[.builtin xi, .ref x, .ref C], []⟩) Q E ⟨h, g, d, t, os⟩ := by
  unfold Builtin.«wrapper_descriptor.__get__»
  refine wpAny_bind (wpAny_of_eq (a := (.builtin xi, some (.ref x), some (.ref C))) (by first | rfl | kernel_rfl) ?_)
  refine wpAny_bind (wpAny_bind (wpAny_of_eq (a := (("__init__" : Str), Value.type "Exception")) (by first | rfl | kernel_rfl) ?_))
  refine wpAny_bind (hI.here ?_)
  rw [if_neg (by decide)]
  refine wpAny_pure ?_
  exact wpAny_bind (wpAny_newObj_type (wpAny_pure hq))
theorem sup_attr {so : Addr} {o : Obj} {name : Str} {y : Addr} {σ σ' : Shared} {Q : Value → Shared → Prop} (there : σ.heap.get? so = some o) (cl : o.cls = .type "super")
    (run : ∀ {A : Around}, wpAny (model prog w) A (Builtin.«super.__getattribute__» ⟨[.ref so, .str name σ.toks], []⟩) (fun r s => r = .done (.ret (.ref y)) ∧ s = σ') (fun _ _ => False) { σ with toks := σ.toks + 1 })
    (q : Q (.ref y) σ') : wpAny (model prog w) A (getAttr (.ref so) name) Q E σ := by
  refine wpAny_bind (wpAny_mkText (by_own (s := { σ with toks := σ.toks + 1 }) (fun _ _ _ _ k q => wpAny_typeOf ⟨_, k _ _ there, cl⟩ q) (.of_pure F.ks_slot_super_ga.lookup) (by decide) (.of_pure rfl) F.ks_slot_super_ga.bind rfl ?_ q))
  exact wpAny_call_entry F.ks_slot_super_ga ⟨_, there, cl⟩ F.ks_entry_super_ga (wpAny_mono run (fun _ _ e => ⟨_, e.1, rfl, e.2⟩) fun _ _ z => z) (F.ks_gaArgs_super _ _)
theorem super_method {so D x C : Addr} {l : List Value} {K : Frag} {name : Str} {pl : Sem Bool} {Q : Value × List Value → Shared → Prop} (X : K.In h) (there : h.get? so = some (ks_superObj D x C))
    (known : Looks (model prog w) h (opaqueClassAbove (.ref C)) none) (order : Looks (model prog w) h (mroOf (.ref C)) l) (below : Looks (model prog w) h (isInstance (.ref x) (.type "Exception")) true) (apart : x ≠ C)
    (plain : (name == ("__class__" : Str)) = false) (found : alongIn K name ((l.dropWhile (· != .ref D)).drop 1) = some (some (.builtin xi)))
    (q : Q (.ref h.objs.size, []) ⟨h.push (wrapObj x), g, d, t + 1, os⟩) : wpAny (model prog w) A (getMethod (.ref so) name pl) Q E ⟨h, g, d, t, os⟩ := by
  refine wpAny_bind (wpAny_specialOf ⟨_, there, rfl⟩ F.ks_slot_super_ga.lookup (KFB.if_so F.ks_canon_super_ga (wpAny_bind (m := getAttr (.ref so) name) (sup_attr there rfl ?_ (wpAny_pure q)))))
  intro A
  have part : ∀ {A : Around} {i : Nat} {v : Value} {R : Value → Shared → Prop} {k : Nat}, (#[Value.ref D, .ref x, .ref C] : Array Value)[i]? = some v → R v ⟨h, g, d, k, os⟩ → wpAny (model prog w) A (field (.ref so) i) R (fun _ _ => False) ⟨h, g, d, k, os⟩ :=
    fun e r => wpAny_field there rfl e r
  have other : (Value.ref x == Value.ref C) = false := beq_eq_false_iff_ne.mpr fun e => apart (Value.ref.inj e)
  delta Builtin.«super.__getattribute__»
  repeat first
    | with_reducible refine part (i := 0) (v := .ref D) rfl ?_
    | with_reducible refine part (i := 1) (v := .ref x) rfl ?_
    | with_reducible refine part (i := 2) (v := .ref C) rfl ?_
    | with_reducible refine ks_wpAny_notOpaque known ?_
    | with_reducible refine order.here ?_
    | wp_step
  refine ks_forIn_along X (fun _ _ => rfl) rfl ?_ found
  refine wpAny_bind (wpAny_of_eq type_xi (wpAny_bind (wpAny_of_eq slot_wget.lookup ?_)))
  rw [other]
  refine wpAny_bind (wpAny_holding (wpAny_call_entry slot_wget type_xi entry_wget (run_wget below ⟨_, rfl, ?_⟩) (args_wget _ _ _)))
  exact wpAny_bind (wpAny_pure (wpAny_pure (wpAny_pure ⟨rfl, rfl⟩)))
theorem keeps_wrap {u x : Addr} (h : Heap) (e : h.get? u = some (wrapObj x)) : ∃ k, (k = Keeper.frame ∨ k = Keeper.machine ∨ k = Keeper.boundFrame) ∧ Looks M h (keeperOf (.ref u)) k := by
  refine ⟨.machine, .inr (.inl rfl), fun _ _ _ _ k q => wpAny_bind (wpAny_load (k _ _ e) ?_)⟩
  exact KFB.if_so rfl (wpAny_of_eq (a := .machine) rfl q)
theorem check_xi {nm q : Str} {C N x : Addr} {bs bm : List Value} {hdct : Bool} {sn : List Str} {sub : List Value} {ab : Bool} {col : Option Bool} {dd : Option Addr} {k0 k1 k2 k3 k5 : Option Value} {newId : String} {ox : Obj} {v : Value} {Q : Unit → Shared → Prop}
    (hC : h.get? C = some (excClassObj nm q C N bs bm hdct sn sub ab col dd k0 k1 k2 k3 k5 newId)) (hx : h.get? x = some ox) (hc : ox.cls = .ref C) (hq : Q () ⟨h, g, d, t, os⟩) :
    wpAny M A (checkBoundCall xi ⟨[.ref x, v], []⟩) Q E ⟨h, g, d, t, os⟩ := by
  have h1 : builtinKind xi = some .slot := PySem.F.excBase_Exception.initKind
  have h2 : Manifest.signature? xi = _ := PySem.F.excBase_Exception.initRow
  delta checkBoundCall
  dsimp only
  rw [h1]
  dsimp only
  rw [h2]
  dsimp only
  repeat (first | (with_reducible refine wpAny_loadPart_at hx ?_; rw [hc]) | with_reducible refine wpAny_loadPart_at hC ?_ | wp_step)
  all_goals exact hq
theorem wrap_call {nm q : Str} {C N : Addr} {bs bm : List Value} {hdct : Bool} {sn : List Str} {sub : List Value} {ab : Bool} {col : Option Bool} {dd : Option Addr} {k0 k1 k2 k3 k5 : Option Value} {newId : String} {u x : Addr} {v : Value} {t0 : Addr} {vs : Array Value} {ox : Obj} {Q : Value → Shared → Prop} (ho : h.get? u = some (wrapObj x)) (hx : h.get? x = some ox) (hd : ox.data = .fields vs) (h0 : vs[0]? = some (.ref t0))
    (hC : h.get? C = some (excClassObj nm q C N bs bm hdct sn sub ab col dd k0 k1 k2 k3 k5 newId)) (hc : ox.cls = .ref C) (hq : Q .none ⟨(h.push { cls := .type "tuple", data := .seq #[v] }).update x (Obj.mapFields (·.setIfInBounds 0 (.ref h.objs.size))), g, d, t, os⟩) :
    wpAny (model prog w) A (call (.ref u) [v]) Q E ⟨h, g, d, t, os⟩ := by
  refine wpAny_call (codeAny_of_tree ?_)
  show wpAny _ A.in1 (callAny (.ref u) ⟨[v], []⟩) _ _ _
  delta callAny
  dsimp only
  refine wpAny_bind (wpAny_load ho ?_)
  dsimp only [wrapObj]
  rw [if_pos (show (Value.type "method-wrapper" == Value.type "method" || Value.type "method-wrapper" == Value.type "builtin_function_or_method" || Value.type "method-wrapper" == Value.type "method-wrapper") = true by decide)]
  refine KFB.if_so (by decide) ?_
  refine wpAny_bind (check_xi hC hx hc ?_)
  refine wpAny_bind (wpAny_pure (wpAny_pure ?_))
  refine ⟨Code.quiet_builtin _ (by decide +kernel), codeAny_builtin PySem.F.excBase_Exception.initEntry ?_⟩
  unfold Builtin.«BaseException.__init__»
  dsimp only
  rw [if_neg (by simp)]
  unfold newTuple Builtin.BaseException.bexcPut
  have hsz : 0 < vs.size := (Array.getElem?_eq_some_iff.mp h0).1
  have he₁ := Heap.get?_push_of_some (h := h) { cls := .type "tuple", data := .seq #[v] } hx
  refine wpAny_bind (wpAny_newObj_type (wpAny_bind (wpAny_bind (wpAny_field he₁ hd h0 (wpAny_bind (wpAny_setField he₁ hd hsz ?_))))) (by show (#[v] : Array Value).size ≤ sizeLine; rw [sizeLine_eq]; show 1 ≤ _; omega))
  exact wpAny_letGo (wpAny_pure hq)
end
end Mine
namespace Mine
set_option genInjectivity false in
set_option genSizeOf false in
structure BV (P : Par) where
  nm : Str
  q : Str
  N : Addr
  bs : List Value
  sn : List Str
  sub : List Value
  ab : Bool
  col : Option Bool
  dd : Option Addr
  k0 : Option Value
  k1 : Option Value
  k2 : Option Value
  k3 : Option Value
  k5 : Option Value
  mN : Str → Option Value
  fI : Addr
  oI : Obj
  fd : FuncData
  ar : Arg
  cd : ClassData
  cc : Addr
  oc : Obj
  ca : Addr
  oa : Obj
  vs : Array Value
  file : Str
  tf : Tok
  p : Nat → Pos
  pl : Env → Sem Bool
  hC : P.h₀.get? P.B = some (excClassObj nm q P.B N bs [.type "Exception", .type "BaseException", .type "object"] true sn sub ab col dd k0 k1 k2 k3 k5 "Exception.__new__")
  hN : P.h₀.Ns N mN
  hi : mN "__init__" = some (.ref fI)
  hs : mN "__setattr__" = none
  h1 : mN "code" = none
  h2 : mN "told" = none
  hf : P.h₀.get? fI = some oI
  hfc : oI.cls = .type "function"
  hfd : oI.data = .func fd
  hcr : P.h₀.CodeRec fd.code fd.qualname
  hbind : ∀ (s : Shared) (x c : Value) (rest : List Value), (∀ b o, P.h₀.get? b = some o → s.heap.get? b = some o) → rest.length ≤ 1 → ∃ v, BindsTo s fd ⟨x :: c :: rest, []⟩ [("self", x), ("code", c), ("told", v)]
  hcells : ∀ x ∈ fd.scope.names, x.2 ≠ .cell
  hself : fd.scope.names.lookup ("self" : Str) = some .local
  hcode : fd.scope.names.lookup ("code" : Str) = some .local
  htold : fd.scope.names.lookup ("told" : Str) = some .local
  hsup : fd.scope.names.lookup ("super" : Str) = some .globalImplicit
  hcls : fd.scope.names.lookup ("__class__" : Str) = some .free
  hco : fd.scope.isCoroutine = false
  hgen : fd.scope.isGenerator = false
  hk : fd.scope.kind = .function
  hglob : fd.globals = mainGlobals
  hblt : fd.builtins = builtinsNs
  hclos : fd.closure = [(("__class__" : Str), cc)]
  hcc : P.h₀.get? cc = some oc
  hcd : oc.data = .cell (some (.ref P.B))
  har : (fd.params.posonlyargs ++ fd.params.args).head? = some ar
  harn : ar.arg = "self"
  hca : fd.code = .ref ca
  hoa : P.h₀.get? ca = some oa
  hvs : oa.data = .fields vs
  hv2 : vs[2]? = some (.str file tf)
  hfile : ((P.prog.main.file : Str) == file) = true
  htop : (P.prog.main.scope.names.lookup ("super" : Str)).isSome = false
  hmg : P.mg "super" = none
  hmb : P.mb "super" = some (.type "super")
  hsub : mroIn P.K P.B (.ref P.B) = some true
  hexc : mroIn P.K P.B (.type "Exception") = some true
  hcl : clsIn P.K P.B = some cd
  hal : alongIn P.K "__init__" ((cd.mro.dropWhile (· != .ref P.B)).drop 1) = some (some (.builtin xi))
  hop : nsIn P.K cStatics "thirdparty.any" = some none
  hev : ∀ env : Env, eval (.Call (.Attribute (.Call (.Name "super" (p 0)) [] [] (p 1)) "__init__" (p 2)) [.Name "code" (p 3)] [] (p 4)) env = (do
      let ov ← attributeBase (.Call (.Name "super" (p 0)) [] [] (p 1)) "__init__" env (eval (.Call (.Name "super" (p 0)) [] [] (p 1)) env)
      standAt (p 2).atName
      let (f, first) ← holding [ov] (getMethod ov "__init__" (pl env))
      callWith (p 4) f first (backTo (p 4) (starEach [.Name "code" (p 3)] env)) [])
  hbody : fd.body = .stmts [.Expr (.Call (.Attribute (.Call (.Name "super" (p 0)) [] [] (p 1)) "__init__" (p 2)) [.Name "code" (p 3)] [] (p 4)) (p 5),
    .Assign [.Attribute (.Name "self" (p 6)) "code" (p 7)] (.Name "code" (p 8)) (p 9), .Assign [.Attribute (.Name "self" (p 10)) "told" (p 11)] (.Name "told" (p 12)) (p 13)]
theorem tl_exc (x : Str) (h : x = "code" ∨ x = "told") : typeLookup (.type "Exception") x = pure none := by
  rcases h with rfl | rfl <;> (rw [typeLookup_type, builtinLookup_eq_fast]; kernel_rfl)
section
variable {P : Par} {A : Around} {s : Shared} {E : Value → Shared → Prop} {fs ad : List Addr} {μ : M} {h h' : Heap}
theorem exc_make {d : Nat} {fenv : Env} {outer : List Env} {L : Addr} {k : Str} {t : Tok} {rest : List Value} {Q : Value → Shared → Prop} (V : BV P) (XK : P.K.In P.h₀) (hg : P.h₀.Ns mainGlobals P.mg) (hb : P.h₀.Ns builtinsNs P.mb) (nolim : P.h₀.NoLimit)
    (c : Cx A d fenv outer L fs) (S : Sim P fs ad μ s.heap) (hr : rest.length ≤ 1)
    (hq : ∀ e h' tk, Step [] fs ad ad s.heap h' → Sim P fs ad μ h' → ExcAt P fs ad s.heap h' e k none → Q (.ref e) { s with heap := h', toks := tk }) : wpAny (model P.prog P.w) A (call (.ref P.B) (.str k t :: rest)) Q E s := by
  obtain ⟨hh, g, dr, tt, os⟩ := s
  refine wpAny_call_exc_init PySem.F.excBase_Exception (S.base _ _ V.hC) (V.hN.keeps S.base) V.hi (S.base _ _ V.hf) V.hfc (fun h1 e hm => ?_) (by rw [sizeLine_eq, List.length_cons]; omega)
  obtain ⟨k1, new, t0, he, ht0n, ht0⟩ := hm
  have B1 : ∀ b o, P.h₀.get? b = some o → h1.get? b = some o := fun b o q => k1 _ _ (S.base _ _ q)
  refine el_e (V.hbind ⟨h1, g, dr, tt, os⟩ (.ref e) (.str k t) rest B1 hr) fun told hbd => ?_
  refine wpAny_call (ks_codeAny_call_defAt (fd := V.fd) (binds := [("self", .ref e), ("code", .str k t), ("told", told)]) ?_ (B1 _ _ V.hf) V.hfd (nolim.keeps B1) (V.hcr.keeps B1) V.hbody hbd V.hcells (fun y hy => ?_) (fun h2 hns k2 => ?_) V.hco V.hgen V.hk)
  · have := c.depth
    first | (show A.depth < 1000; omega) | (show A.depth + 1 < 1000; omega) | (show A.depth + 2 < 1000; omega)
  · simp at hy
    rcases hy with rfl | rfl | rfl
    · exact V.hself
    · exact V.hcode
    · exact V.htold
  · have B2 : ∀ b o, P.h₀.get? b = some o → h2.get? b = some o := fun b o q => k2 _ _ (B1 _ _ q)
    generalize henv : callEnv V.fd h1.objs.size V.fI = env
    have hL : env.locals = h1.objs.size := by rw [← henv]; rfl
    have hsc : env.scope = V.fd.scope := by rw [← henv]; rfl
    have hk' : env.scope.kind = .function := by rw [hsc]; exact V.hk
    have eK : ∀ x, env.kindOf x = V.fd.scope.names.lookup x := fun x => by unfold Env.kindOf; rw [hsc]
    have e1 := (eK _).trans V.hself
    have e2 := (eK _).trans V.hcode
    have e3 := (eK _).trans V.htold
    have e4 := (eK _).trans V.hsup
    have e5 := (eK _).trans V.hcls
    have hfun : env.func = some V.fI := by rw [← henv]; rfl
    have hcode : env.code = .ref V.ca := by rw [← henv]; exact V.hca
    have hgl : env.globals = mainGlobals := by rw [← henv]; exact V.hglob
    have hbl : env.builtins = builtinsNs := by rw [← henv]; exact V.hblt
    have hcells : env.cells.lookup ("__class__" : Str) = some V.cc := by
      rw [← henv]
      show V.fd.closure.lookup _ = _
      rw [V.hclos]; rfl
    clear henv
    generalize hmL : (fun x => ([(("self" : Str), Value.ref e), ("code", .str k t), ("told", told)] : List (Str × Value)).reverse.lookup x) = mL at hns
    have m1 : mL "self" = some (.ref e) := by rw [← hmL]; rfl
    have m2 : mL "code" = some (.str k t) := by rw [← hmL]; rfl
    have m3 : mL "told" = some told := by rw [← hmL]; rfl
    clear hmL
    have he2 := k2 _ _ he
    have X2 : P.K.In h2 := fun b o q => B2 _ _ (XK _ _ q)
    refine ks_wpAt_execs_cons (ks_wpAt_Expr_any (ks_wpAt_MethodCall (ks_wpAt_super_base e4 e5 rfl hfun (B2 _ _ V.hf) V.hfd V.har hcode (B2 _ _ V.hoa) V.hvs V.hv2 V.hfile V.htop ?_) (V.hev env)) ?_ ?_)
    · refine ks_loadName_global hk' e4 (Calls.loadGlobal_builtin (by rw [hgl]; exact hg.keeps B2) V.hmg (by rw [hbl]; exact hb.keeps B2) V.hmb ⟨rfl, ?_⟩)
      refine wpAny_loadName_free hk' e5 hcells ⟨_, B2 _ _ V.hcc, V.hcd⟩ ?_
      rw [V.harn]
      refine wpAny_loadName_local hk' e1 (by rw [hL]; exact hns) m1 ?_
      refine ks_wpAny_isType_cls (B2 _ _ V.hC) rfl ⟨rfl, ?_⟩
      refine ks_wpAny_call_super (B2 _ _ V.hC) rfl he2 rfl (fun c q => by cases q) (looks_mroIn X2 V.hsub) (fun h3 hso k3 => ?_)
      have he3 := k3 _ _ he2
      have X3 : P.K.In h3 := fun b o q => k3 _ _ (X2 _ _ q)
      have B3 : ∀ b o, P.h₀.get? b = some o → h3.get? b = some o := fun b o q => k3 _ _ (B2 _ _ q)
      have hne : e ≠ P.B := fun q => by
        have q1 := S.base _ _ V.hC
        rw [← q] at q1
        rw [show hh.get? e = none from new] at q1; cases q1
      have LI : Looks (model P.prog P.w) h3 (isInstance (.ref e) (.type "Exception")) true := (type_at (s := ⟨h3, g, dr, 0, os⟩) he3 rfl).andThen (looks_mroIn X3 V.hexc)
      refine super_method X3 hso (looks_opaque X3 V.hop) (l := V.cd.mro) (fun A Q E s k q => wpAny_bind ((looks_clsIn X3 V.hcl) A _ E s k (wpAny_pure q))) LI hne rfl V.hal ?_
      rw [args_plain rfl]
      refine callWith_of (P := fun h => h.get? h3.objs.size = some (wrapObj e)) rfl keeps_wrap (evalArgs_of ?_)
      have hns3 := hns.keeps k3
      refine Calls.spliced_cons (name_val hk' e2 (by rw [hL]; exact hns3.push _) m2 (by decide) (Calls.spliced_nil ⟨Heap.get?_push_size _ rfl, ?_⟩))
      refine wrap_call (Heap.get?_push_size _ rfl) (push_keeps _ _ _ he3) rfl rfl (push_keeps _ _ _ (B3 _ _ V.hC)) rfl ?_
      have eL : h1.objs.size ≠ e := Nat.ne_of_gt (Heap.lt_size he)
      have kH : ∀ b o, hh.get? b = some o → b ≠ e := fun b o q z => by rw [z, show hh.get? e = none from new] at q; cases q
      have he4 := Heap.get?_update_self (Obj.mapFields fun x => x.setIfInBounds 0 (.ref (h3.push (wrapObj e)).objs.size)) (push_keeps { cls := .type "tuple", data := .seq #[Value.str k t] } _ _ (push_keeps (wrapObj e) _ _ he3)) rfl
      have k4 : ∀ b o, b ≠ e → h3.get? b = some o → (((h3.push (wrapObj e)).push { cls := .type "tuple", data := .seq #[Value.str k t] }).update e (Obj.mapFields fun x => x.setIfInBounds 0 (.ref (h3.push (wrapObj e)).objs.size))).get? b = some o :=
        fun b o hb q => (Heap.get?_update_other _ _ (Ne.symm hb)).trans (push_keeps _ _ _ (push_keeps _ _ _ q))
      dsimp only
      generalize ((h3.push (wrapObj e)).push { cls := .type "tuple", data := .seq #[Value.str k t] }).update e (Obj.mapFields fun x => x.setIfInBounds 0 (.ref (h3.push (wrapObj e)).objs.size)) = h4 at he4 k4 ⊢
      have hns4 : h4.Ns h1.objs.size mL := by
        refine el_eeea (hns3) fun o es ep q z => ?_; try clear hns3
        exact ⟨o, es, ep, k4 _ _ eL q, z⟩
      have H4 : ∀ b o, hh.get? b = some o → h4.get? b = some o := fun b o q => k4 _ _ (kH _ _ q) (k3 _ _ (k2 _ _ (k1 _ _ q)))
      replace hne : e ≠ P.B := hne
      have B4 : ∀ b o, P.h₀.get? b = some o → h4.get? b = some o := fun b o q => H4 _ _ (S.base _ _ q)
      obtain ⟨tup, he4⟩ : ∃ tup, h4.get? e = some { cls := .ref P.B, data := .fields #[.ref tup, .none, .none, .none, .bool false, .none] } := ⟨_, he4⟩
      clear hso X3 B3 LI hns3 k4 hns X2 B2 k3 he3
      refine wpAt_of_wpAny (wpAny_execs_cons (plainObj_wpAny_Assign_Attribute (name_val hk' e2 (by rw [hL]; exact hns4) m2 (by decide) ?_) rfl))
      refine name_val hk' e1 (by rw [hL]; exact hns4) m1 (by decide) ?_
      refine first_attr PySem.F.store_Exception (B4 _ _ V.hC) (V.hN.keeps B4) V.hs ⟨V.h1, tl_exc _ (.inl rfl)⟩ he4 (fun h5 tk5 hd5 he5 k5 => ?_)
      have hns5 : h5.Ns h1.objs.size mL := by
        refine el_eeea (hns4) fun o es ep q z => ?_; try clear hns4
        exact ⟨o, es, ep, k5 _ _ eL q, z⟩
      have H5 : ∀ b o, hh.get? b = some o → h5.get? b = some o := fun b o q => k5 _ _ (kH _ _ q) (H4 _ _ q)
      have B5 : ∀ b o, P.h₀.get? b = some o → h5.get? b = some o := fun b o q => H5 _ _ (S.base _ _ q)
      have dN : hh.get? h4.objs.size = none := by
        cases q : hh.get? h4.objs.size with
        | none => rfl
        | some o => exact absurd (Heap.lt_size (H4 _ _ q)) (Nat.lt_irrefl _)
      have dL : h1.objs.size ≠ h4.objs.size := fun q => by
        refine el_eeea (hns4) fun o es ep q' z => ?_; try clear hns4
        rw [q] at q'
        exact absurd (Heap.lt_size q') (Nat.lt_irrefl _)
      have de : h4.objs.size ≠ e := Nat.ne_of_gt (Heap.lt_size he4)
      generalize h4.objs.size = dx at hd5 he5 dN dL de ⊢
      have I5 : h5.Inst e P.B (fun y => if y = ("code" : Str) then some (.str k t) else none) := ⟨_, he5, rfl, fun c q => (by cases q), .inr ⟨dx, rfl, de, hd5⟩⟩
      refine wpAny_execs_cons (plainObj_wpAny_Assign_Attribute (name_val hk' e3 (by rw [hL]; exact hns5) m3 (by decide) ?_) rfl)
      refine name_val hk' e1 (by rw [hL]; exact hns5) m1 (by decide) ?_
      refine store_attr (ns := ["code"]) PySem.F.store_Exception (B5 _ _ V.hC) (V.hN.keeps B5) V.hs V.h2 (tl_exc _ (.inr rfl)) hne I5 (fun h6 tk6 I6 k6 same => ?_)
      refine wpAny_execs_nil ⟨rfl, ?_⟩
      have hdx : ∀ b o, hh.get? b = some o → b ≠ dx := fun b o q z => by rw [z, dN] at q; cases q
      have H6 : ∀ b o, hh.get? b = some o → h6.get? b = some o := fun b o q => k6 b o (kH _ _ q) (fun o₀ d' q0 q1 => by rw [he5] at q0; cases q0; cases q1; exact hdx _ _ q) (H5 _ _ q)
      refine el_eaaaa (same _ he5) fun o1 q1 q2 q3 q4 q5 => ?_
      have q6 := q5 dx rfl
      refine el_eaaa (I6) fun o2 r1 r2 r3 r4 => ?_; try clear I6
      rw [q1] at r1; cases r1
      have dNs : h6.Ns1 dx (fun y => if y = ("told" : Str) then some told else if y = ("code" : Str) then some (.str k t) else none) := by
        rcases r4 with ⟨r, _⟩ | ⟨d', r, _, r'⟩
        · rw [q6] at r; cases r
        · rw [q6] at r; cases r; exact r'
      refine el_eeeaa (dNs) fun od es ep w1 w2 w3 => ?_; try clear dNs
      have pB : ∀ {a : Addr}, hh.get? a = none → P.h₀.get? a = none := fun {a} q => by
        cases z : P.h₀.get? a with
        | none => rfl
        | some o => have := S.base _ _ z; rw [show hh.get? a = none from q] at this; cases this
      have pA : ∀ {a : Addr}, hh.get? a = none → a ∉ ad := fun {a} q z => by
        refine el_eea (S.listAt z) fun _ o e' _ => ?_
        rw [show hh.get? a = none from q] at e'; cases e'
      have pF : ∀ {a : Addr}, hh.get? a = none → a ∉ fs := fun {a} q z => by
        refine el_ea (S.fsAt _ z) fun o e' _ => ?_
        rw [show hh.get? a = none from q] at e'; cases e'
      exact hq e h6 tk6 (.of_keeps H6) (S.keeps H6) ⟨new, pB new, pA new, pF new, o1, _, dx, od, _, t, .ref tup, q1, q2, q6, q3, rfl, dN, pA dN, pF dN, w1, ⟨od, es, ep, w1, w2, w3.1, w3.2.2⟩, rfl, rfl⟩
    · unfold interactive; rw [hk']; rfl
    · rfl
end
end Mine
namespace Mine
inductive Found {α β γ : Type} (f : α → Option β) (g : β → Option γ) (l : List α) (c : γ) : Prop
  | mk (b : β) (h : b ∈ l.filterMap f) (e : g b = some c) : Found f g l c
theorem find_mem {α β γ : Type} {f : α → Option β} {g : β → Option γ} {c : γ} {l : List α} : l.findSome? (fun a => (f a).bind g) = some c → Found f g l c := by
  induction l with
  | nil => exact nn
  | cons a l ih =>
    intro h
    rw [List.findSome?_cons] at h
    cases q : f a with
    | none =>
      rw [q] at h
      cases ih h with | mk b hb e => exact ⟨b, by rw [List.filterMap_cons, q]; exact hb, e⟩
    | some b =>
      rw [q] at h
      cases q2 : g b with
      | none =>
        rw [show (some b).bind g = none from q2] at h
        cases ih h with | mk b' hb e => exact ⟨b', by rw [List.filterMap_cons, q]; exact List.mem_cons_of_mem _ hb, e⟩
      | some c' =>
        rw [show (some b).bind g = some c' from q2] at h
        exact ⟨b, by rw [List.filterMap_cons, q]; exact List.mem_cons_self, q2.trans h⟩
theorem tab_mem {x : Str} {fd : DefRec} {body : List Stmt} (h : tabIn body x = some fd) : fd ∈ body.filterMap defOf ∧ fd.name = x := by
  cases find_mem h with | mk b hb e => exact ite_some e fun c e => e ▸ ⟨hb, beq_iff_eq.mp c⟩
theorem fn_of {p : Program} {loose : List Str} {mean : ExcName → Option Value} {mg mb : Str → Option Value} {h : Heap} (T : Top p loose mean mg mb h) (e : theBody.filterMap defOf = recsOf p) {x : Str} {fd : DefRec} (ht : tab x = some fd) :
    ∃ a o pm code doc, mg x = some (.ref a) ∧ h.get? a = some o ∧ o.data = .func (Calls.docDef fd.name fd.params fd.body fd.scope pm code doc) ∧ h.CodeRec code fd.name := by
  obtain ⟨h1, h2⟩ := tab_mem ht
  rw [e] at h1
  obtain ⟨a, o, pm, code, doc, q1, q2, q3, q4⟩ := T.fn fd h1
  exact ⟨a, o, pm, code, doc, h2 ▸ q1, q2, q3, q4⟩
end Mine
namespace Mine
noncomputable def isS (v : Value) : Bool := match v with
  | .str .. => true
  | _ => false
theorem isS_of {v : Value} (h : isS v = true) : ∃ n t, v = .str n t := by
  cases v with
  | str n t => exact ⟨n, t, rfl⟩
  | _ => exact nof h
theorem strKeys_of {es : Array DictEntry} (h : (es.toList.all fun e => isS e.key) = true) : StrKeys es := fun e he => isS_of (List.all_eq_true.mp h e (Array.mem_def.mp he))
theorem ns_of {K : Frag} {h : Heap} (X : K.In h) {a : Addr} {c : Value} {d : Option Addr} {es : Array DictEntry} {ep : Nat} {sl : Array (Option Value)} (e : K.lookup a = some ⟨c, d, .dict es ep, sl⟩)
    (hs : (es.toList.all fun e => isS e.key) = true) : h.Ns a (nsFind es) := ⟨_, es, ep, X _ _ e, rfl, strKeys_of hs, fun _ => rfl⟩
theorem code_of {K : Frag} {h : Heap} (X : K.In h) {a : Addr} {q : Str} (e : codeIn K (.ref a) q = true) : h.CodeRec (.ref a) q := codeRec_of X e
noncomputable def p1 (e : Expr) : List Pos := match view e with
  | .nm _ p => [p]
  | .list _ p => [p]
  | _ => []
noncomputable def p2 (f : Expr → List Pos) (e : Expr) : List Pos := match view e with
  | .attr o _ p => f o ++ [p]
  | .call g as _ p => f g ++ as.flatMap p1 ++ [p]
  | _ => p1 e
noncomputable def stPos (s : Stmt) : List Pos := match sv s with
  | .asg ts v d => ts.flatMap (p2 p1) ++ p1 v ++ [d]
  | .ex e f => p2 (p2 (p2 p1)) e ++ [f]
  | _ => []
noncomputable def posAt (K : Frag) (a : Addr) (n : Nat) : Pos := match K.lookup a with
  | some ⟨_, _, .func fd, _⟩ => (match fd.body with
    | .stmts l => ((l.flatMap stPos)[n]?).getD ⟨0, 0, 0, 0⟩
    | _ => ⟨0, 0, 0, 0⟩)
  | _ => ⟨0, 0, 0, 0⟩
theorem cst_mem {x : Str} {v : V} {body : List Stmt} (h : cstIn body x = some v) : (x, v) ∈ body.filterMap asgOf := by
  cases find_mem h with | mk b hb e => exact ite_some e fun c e => by obtain ⟨y, w⟩ := b; cases e; cases beq_iff_eq.mp c; exact hb
noncomputable def csts : List (Str × V) := theBody.filterMap asgOf
noncomputable def AllC (R : Str → V → Prop) : List (Str × V) → Prop
  | [] => True
  | p :: r => (p.1 = "__name__" ∨ R p.1 p.2) ∧ AllC R r
theorem AllC.mem {R : Str → V → Prop} {p : Str × V} : ∀ {l}, AllC R l → p ∈ l → p.1 = "__name__" ∨ R p.1 p.2
  | _ :: _, h, m => (List.mem_cons.mp m).elim (fun e => e ▸ h.1) fun m => AllC.mem h.2 m
theorem cst_all {R : Str → V → Prop} (h : AllC R csts) {x : Str} {v : V} (e : cst x = some v) : R x v := by
  unfold cst at e
  by_cases hn : (x == ("__name__" : Str)) = true
  · rw [if_pos hn] at e; cases e
  · rw [if_neg hn] at e
    exact (h.mem (cst_mem e)).elim (fun q => absurd (by rw [show x = _ from q]; rfl) hn) id
noncomputable abbrev kv (a : String) (v : V) : Str × V := (a, v)
theorem csts_are : csts = [(kv "__name__" <| .str "basicplus.tokens"), (kv "FUNCTION_WORDS" <| .str "ABS ASC CHR$ CINT CSNG CVI CVS EDIT$ EOF ERL ERR FIX FRE HEX$ INSTR INT LCASE$ LEFT$ LEN LOC LOF LPOS LTRIM$ MAX MID$ MIN MKI$ MKS$ OCT$ PI POS RIGHT$ RND RTRIM$ SEG$ SGN SPACE$ SPC SQR STR$ STRING$ SWAP% TAB UCASE$ VAL XLATE$"),
    (kv "__name__" <| .str "basicplus.values"), (kv "MOST_EXPONENT" <| .int 99), (kv "__name__" <| .str "basicplus.exprread"),
    (kv "STRENGTH" <| .dict [(kv "IMP" <| .int 1), (kv "EQV" <| .int 2), (kv "XOR" <| .int 3), (kv "OR" <| .int 4), (kv "AND" <| .int 5), (kv "=" <| .int 7), (kv "<>" <| .int 7), (kv "<" <| .int 7), (kv ">" <| .int 7), (kv "<=" <| .int 7), (kv ">=" <| .int 7), (kv "+" <| .int 8), (kv "-" <| .int 8), (kv "MOD" <| .int 9), (kv "\\" <| .int 10), (kv "*" <| .int 11), (kv "/" <| .int 11), (kv "^" <| .int 13)]),
    (kv "NOT_STRENGTH" <| .int 6), (kv "MINUS_STRENGTH" <| .int 12), (kv "MOST_OPEN" <| .int 60), (kv "NO_ARGS" <| .tup [.str "ERL", .str "ERR", .str "FRE", .str "PI", .str "POS", .str "RND"]), (kv "NO_TOKEN" <| .tup [.str "end", .str ""]), (kv "MOST_FIGURES" <| .int 60), (kv "MOST_POWER" <| .int 999), (kv "__name__" <| .str "law_pc0007_01")] := by rfl
inductive Ent (w : World) : List (Str × V) → List DictEntry → Prop
  | nil : Ent w [] []
  | cons {x : Str} {i : Int} {t u : Tok} {r : List (Str × V)} {es : List DictEntry} (e : Ent w r es) : Ent w ((x, .int i) :: r) (⟨hashStr w x, .str x t, .int i u⟩ :: es)
theorem Ent.keys {w : World} {p : Program} {l : List (Str × V)} {es : List DictEntry} (h : Ent w l es) : ∀ e ∈ es, ∃ k, (strKind p w).is k e.key = true ∧ e.hash = (strKind p w).hash k := by
  induction h with
  | nil => intro e h; exact absurd h List.not_mem_nil
  | cons _ ih =>
    rename_i x i t u r es _
    intro d hd
    refine (List.mem_cons.mp hd).elim (fun q => ?_) (ih d)
    rw [q]
    exact ⟨x, by show (x == x) = true; exact beq_self_eq_true x, rfl⟩
def LookOk (es : List DictEntry) (x : Str) : Option V → Prop
  | some v => ∃ i u, v = .int i ∧ (es.find? fun e => e.key.isStrOf x).map (·.val) = some (.int i u)
  | none => (es.find? fun e => e.key.isStrOf x).map (·.val) = none
theorem Ent.look {w : World} {l : List (Str × V)} {es : List DictEntry} (h : Ent w l es) (x : Str) : LookOk es x (keyIn x l) := by
  induction h with
  | nil => exact rfl
  | cons e ih =>
    rename_i y i t u r es
    rw [show keyIn x ((y, V.int i) :: r) = if y == x then some (.int i) else keyIn x r from rfl]
    by_cases q : (y == x) = true
    · rw [if_pos q]
      exact ⟨i, u, rfl, by rw [List.find?_cons]; simp [Value.isStrOf, q]⟩
    · rw [if_neg q]
      have q' : (y == x) = false := by simpa using q
      have z : (List.find? (fun e => e.key.isStrOf x) ((⟨hashStr w y, .str y t, .int i u⟩ : DictEntry) :: es)) = es.find? fun e => e.key.isStrOf x := by
        rw [List.find?_cons]; simp only [Value.isStrOf, q']
      revert ih
      generalize keyIn x r = o
      intro ih
      cases o with
      | none => exact (congrArg (Option.map _) z).trans ih
      | some v => exact ih.elim fun i h => h.elim fun u h => ⟨i, u, h.1, (congrArg (Option.map _) z).trans h.2⟩
theorem ent_rel {P : Par} {h : Heap} {a : Addr} {o : Obj} {l : List (Str × V)} {es : List DictEntry} {ep : Nat} (e : Ent P.w l es) (ho : h.get? a = some o) (hx : o.ExactDict) (hd : o.data = .dict es.toArray ep) (hs : (a == sysModules) = false) : Rel P h [] [] (.dict l) (.ref a) := by
  have fb : ∀ k, findBy (strKind P.prog P.w).is es.toArray k = (es.find? fun e => e.key.isStrOf k).map (·.val) := fun k => by
    show Option.map _ (Array.find? _ _) = _
    rw [List.find?_toArray]; rfl
  refine .dict (f := fun k => (es.find? fun e => e.key.isStrOf k).map (·.val)) (fun k => ((es.find? fun e => e.key.isStrOf k).map (·.val)).getD .none) ⟨o, _, ep, ho, hx, hd, fun d hd => e.keys d (by simpa using hd), fb⟩ hs List.not_mem_nil List.not_mem_nil (fun x v q => ?_) (fun x v q => ?_) (fun x q => ?_)
  · have := e.look x
    rw [q] at this
    exact this.elim fun i h => h.elim fun u h => by rw [h.2]; rfl
  · have := e.look x
    rw [q] at this
    exact this.elim fun i h => h.elim fun u h => by rw [h.2, h.1]; exact .int i u
  · have := e.look x
    rw [q] at this
    exact this
theorem find_own {K : Frag} {C : Addr} {cd : ClassData} {od : Obj} {x : Str} {v : Value} (hc : clsIn K C = some cd) (hn : findIn K (.ref C) x = some none) (ho : ownOf cd (some od) x = lookIn x od) (e : lookIn x od = some (some v)) : findObj K C (some od) x = some (.value v) := by
  unfold findObj
  rw [hc, hn]
  simp only [Option.bind]
  rw [ho, e]
noncomputable def fB (b : Bool) : Bool := WTm.holds [] (.and (.not (.lit (.bool b))) (.lit (.bool true))) { args := [] }
theorem most_len {xs : List WData} (h : WTm.holds [] PySem.Challenge.rw_pc0007_01.pre { args := [.list xs] } = true) : xs.length ≤ 63 := by
  have h' : fB (decide ((63 : Int) < (xs.length : Int))) = true := h
  refine Nat.le_of_not_lt fun q => ?_
  exact nof ((congrArg fB (decide_eq_true (show (63 : Int) < (xs.length : Int) from Int.ofNat_lt.mpr q))).symm.trans h')
noncomputable def fH (b : Bool) : Bool := WTm.holds [] (.lit (.bool b)) { args := [] }
inductive LstAt (R : WRecords) (cl : Str → Option Addr) (h : Heap) (xs : List WData) : Value → Prop
  | mk {a : Addr} {o : Obj} {vs : Array Value} {n : Nat} {as : List Addr} (e : h.get? a = some o) (c : o.cls = .type "list") (d : o.data = .seq vs n) (r : ReadsAllW R cl h vs.toList xs as) : LstAt R cl h xs (.ref a)
def RdI (R : WRecords) (cl : Str → Option Addr) (h : Heap) (v : Value) (d : WData) : Prop := match d with
  | .int i => ∃ t, v = .int i t
  | .list xs => LstAt R cl h xs v
  | _ => True
theorem rdI {R : WRecords} {cl : Str → Option Addr} {h : Heap} {v : Value} {d : WData} {as : List Addr} (r : ReadsW R cl h v d as) : RdI R cl h v d := by
  cases r with
  | int i t => exact ⟨t, rfl⟩
  | list a b c d => exact .mk a b c d
  | _ => exact trivial
inductive ConsAt (R : WRecords) (cl : Str → Option Addr) (h : Heap) (d : WData) (ds : List WData) : List Value → Prop
  | mk {v : Value} {vs : List Value} {bs : List Addr} (q : RdI R cl h v d) (rs : ReadsAllW R cl h vs ds bs) : ConsAt R cl h d ds (v :: vs)
theorem rdC {R : WRecords} {cl : Str → Option Addr} {h : Heap} {vs : List Value} {d : WData} {ds : List WData} {as : List Addr} (r : ReadsAllW R cl h vs (d :: ds) as) : ConsAt R cl h d ds vs := by
  cases r with
  | cons r rs => exact ⟨rdI r, rs⟩
theorem rdN {R : WRecords} {cl : Str → Option Addr} {h : Heap} {vs : List Value} {as : List Addr} (r : ReadsAllW R cl h vs [] as) : vs = [] := by
  cases r; rfl
theorem has_int {R : WRecords} {d : WData} (h : WShape.has R d .int = true) : ∃ i, d = .int i := by
  cases d with
  | int i => exact ⟨i, rfl⟩
  | _ => exact nof h
theorem has_lst {R : WRecords} {d : WData} (h : WShape.has R d (.list .int) = true) : ∃ xs, d = .list xs ∧ WShape.hasItems R xs .int = true := by
  cases d with
  | list xs => exact ⟨xs, rfl, (Bool.or_false _).symm.trans (show (WShape.hasItems R xs .int || false) = true from h)⟩
  | _ => exact nof h
inductive ArgInts (P : Par) (h : Heap) (n : Nat) (xs : List Value) : Prop
  | mk (is : List Int) (hl : is.length = n) (r : RelL P h [] [] (is.map .int) xs)
theorem reads_len {P : Par} {s₁ : Shared} {R : WRecords} {cl : Str → Option Addr} {xs : List Value} {ds : List WData} : ∀ {as : List Addr}, ReadsAllW R cl s₁.heap xs ds as → WShape.hasItems R ds .int = true → ArgInts P s₁.heap ds.length xs := by
  induction ds generalizing xs with
  | nil => intro as r _; cases rdN r; exact ⟨[], rfl, .nil⟩
  | cons d ds ih =>
    intro as r h
    cases rdC r with
    | mk q rs =>
      rw [WShape.hasItems, Bool.and_eq_true] at h
      cases ih rs h.2 with
      | mk is hl hr =>
        cases has_int h.1 with
        | intro i e =>
          subst e
          exact q.elim fun t e => ⟨i :: is, congrArg (· + 1) hl, e ▸ .cons (.int i t) hr⟩
inductive ScriptAt (P : Par) (h : Heap) (args : List WData) (vals : List Value) : Prop
  | mk (is : List Int) (xs : List WData) (e : args = [.list xs]) (hl : is.length = xs.length) (r : RelL P h [] [] [.lst (is.map .int)] vals)
theorem reads_all {P : Par} {s₁ : Shared} {R : WRecords} {cl : Str → Option Addr} {vals : List Value} {args : List WData} {as : List Addr} (r : ReadsAllW R cl s₁.heap vals args as) (h : WShape.hasAll R args [.list .int] = true) :
    ScriptAt P s₁.heap args vals := by
  cases args with
  | nil => exact nof h
  | cons d ds =>
    rw [WShape.hasAll, Bool.and_eq_true] at h
    cases ds with
    | cons _ _ => exact nof h.2
    | nil =>
      cases rdC r with
      | mk q rs =>
        cases rdN rs
        cases has_lst h.1 with
        | intro xs e =>
          obtain ⟨rfl, h2⟩ := e
          cases q with
          | mk e c d rr =>
            cases reads_len (P := P) rr h2 with
            | mk is hl hr => exact ⟨is, xs, rfl, hl, .cons (.lst ⟨_, e, c, _, d⟩ List.not_mem_nil List.not_mem_nil hr) .nil⟩
theorem OldK.of_keeps {h h' : Heap} (k : ∀ b o, h.get? b = some o → h'.get? b = some o) : OldK h h' := ⟨fun b o e => .inl (k b o e), fun b o e => ⟨o, k b o e⟩⟩
theorem good_true {cl : Str → Option Addr} {mean : ExcName → Option Value} {args : List WData} {s₁ : Shared} {h' : Heap} {tk : Nat} (hg : s₁.gens = #[]) (k : ∀ b o, s₁.heap.get? b = some o → h'.get? b = some o) :
    GoodWG PySem.Challenge.rw_pc0007_01.row.claim cl mean args s₁ (.ok (.ret (.bool true))) { s₁ with heap := h', toks := tk } := by
  refine ⟨.inl ⟨.bool true, .bool true, [], rfl, fun cls => rfl, .bool true, ?_, fun _ => ⟨List.nodup_nil, by simp⟩⟩, OldK.of_keeps k, rfl, ?_⟩
  · show (WShape.has [] (.bool true) .bool && WTm.holds [] (.eq .res (.lit (.bool true))) _) = true
    rw [Bool.and_eq_true]
    exact ⟨rfl, (show WTm.holds _ _ _ = fH (same (.bool true) (.bool true)) from rfl).trans (congrArg fH (show same (.bool true) (.bool true) = true by decide +kernel))⟩
  · show AllBare s₁.gens
    rw [hg]; intro y hy; simp at hy
abbrev TheLaw : Prop := ∀ is : List Int, is.length ≤ 63 → ∃ fd n μ, tab "law" = some fd ∧ evCall tab cst n 40 [] fd [.lst (is.map .int)] = .ok (.bool true) μ
theorem fin (law : TheLaw) {P : Par} {R : WRecords} {cl : Str → Option Addr} {mean : ExcName → Option Value} {s₁ : Shared} (GGP : GG P tab cst) (GXP : GX P) (hP : P.h₀ = s₁.heap) (hprog : P.prog = PySem.Challenge.rw_pc0007_01.prog)
    {a : Addr} (hm : P.mg "law" = some (.ref a)) (hg : s₁.gens = #[]) {args : List WData} {vals : List Value} {as : List Addr} (hpre : PySem.Challenge.rw_pc0007_01.row.claim.pre args = true) (hrd : ReadsAllW R cl s₁.heap vals args as)
    (hR : R = []) : wpAny (model PySem.Challenge.rw_pc0007_01.prog P.w) callerA (call (.ref a) vals) (fun v s' => GoodWG PySem.Challenge.rw_pc0007_01.row.claim cl mean args s₁ (.ok (.ret v)) s')
        (fun e s' => GoodWG PySem.Challenge.rw_pc0007_01.row.claim cl mean args s₁ (.error e) s') s₁ := by
  subst hR
  have hpre' : (WShape.hasAll [] args [.list .int] && WTm.holds [] PySem.Challenge.rw_pc0007_01.pre { args := args }) = true := hpre
  rw [Bool.and_eq_true] at hpre'
  have ⟨is, xs, e, hl, hr⟩ := reads_all (P := P) hrd hpre'.1
  subst e
  obtain ⟨fd, n, μ, hlaw, hev⟩ := law is (hl ▸ most_len hpre'.2)
  rw [← hprog]
  exact walk_end (P := P) GGP GXP hP hm hlaw hr hev fun h' tk k => good_true hg k
noncomputable abbrev PP (K : Frag) (w : World) (h : Heap) (mg mb : Str → Option Value) : Par := ⟨PySem.Challenge.rw_pc0007_01.prog, w, K, 128, 41, h, mg, mb⟩
section
variable {w : World} {s₁ : Shared} {mg mb : Str → Option Value} {K : Frag}
theorem bind_told {o30 : Obj} {fd : FuncData} (h30 : K.lookup 30 = some o30)
    (b1 : ∀ (s : Shared) (x c : Value), s.heap.get? 30 = some o30 → ∃ v, BindsTo s fd ⟨x :: c :: [], []⟩ [("self", x), ("code", c), ("told", v)])
    (b2 : ∀ (s : Shared) (x c y : Value), s.heap.get? 30 = some o30 → ∃ v, BindsTo s fd ⟨x :: c :: [y], []⟩ [("self", x), ("code", c), ("told", v)]) (X : K.In s₁.heap)
    (s : Shared) (x c : Value) (rest : List Value) (k : ∀ b o, s₁.heap.get? b = some o → s.heap.get? b = some o) (hr : rest.length ≤ 1) :
    ∃ v, BindsTo s fd ⟨x :: c :: rest, []⟩ [("self", x), ("code", c), ("told", v)] := by
  have ht := k _ _ (X 30 _ h30)
  cases rest with
  | nil => exact b1 s x c ht
  | cons y r =>
    cases r with
    | nil => exact b2 s x c y ht
    | cons _ _ => exact absurd hr (by simp)
theorem cf_of (X : K.In s₁.heap) (ga : findIn K (.ref 128) "__getattribute__" = some (some (.builtin "object.__getattribute__"))) {cd : ClassData} (hc : clsIn K 128 = some cd)
    (ho : ∀ (od : Obj) (x : Str), x = "kind" ∨ x = "word" ∨ x = "args" ∨ x = "operands" ∨ x = "operators" → findIn K (.ref 128) x = some none ∧ ownOf cd (some od) x = lookIn x od) : CF (PP K w s₁.heap mg mb) :=
  ⟨X, ga, fun od x _ h e => find_own hc (ho od x h).1 (ho od x h).2 e⟩
end
end Mine
namespace Mine
theorem ofString_inj {a b : String} : (Str.ofString a = Str.ofString b) ↔ a = b := by
  constructor
  · intro h
    rw [Str.ofString_eq_toList, Str.ofString_eq_toList] at h
    have h1 : (a.toList.map Char.toNat).toArray = (b.toList.map Char.toNat).toArray := by injection h
    have h2 : a.toList.map Char.toNat = b.toList.map Char.toNat := by simpa using congrArg Array.toList h1
    have h3 : a.toList = b.toList := by
      have inj : ∀ (l m : List Char), l.map Char.toNat = m.map Char.toNat → l = m := fun l => by
        induction l with
        | nil => intro m h; cases m with | nil => rfl | cons _ _ => cases h
        | cons x l ih =>
          intro m h
          cases m with
          | nil => cases h
          | cons y m =>
            simp only [List.map_cons, List.cons.injEq] at h
            rw [ih m h.2, Char.toNat_inj.mp h.1]
      exact inj _ _ h2
    exact String.toList_inj.mp h3
  · rintro rfl; rfl
theorem ofString_beq {a b : String} : (Str.ofString a == Str.ofString b) = decide (a = b) := by
  rw [Bool.eq_iff_iff, beq_iff_eq, decide_eq_true_eq, ofString_inj]
theorem seq_at {i : Nat} {n : Nat} (h : i < n) : seqIndex? (i : Int) n = some i := by
  unfold seqIndex?
  simp
  omega
theorem gp : tab "len" = none := by rfl
theorem gq : ("len" : Str) ∈ bltNames := by simp [bltNames]
end Mine
namespace Mine
theorem lookup_set {ρ : Rho} {x y : Str} {v : V} : (Rho.set ρ x v).lookup y = if y = x then some v else ρ.lookup y := by
  unfold Rho.set
  rw [List.lookup_cons]
  by_cases h : y = x
  · subst h; simp
  · rw [if_neg h, beq_eq_false_iff_ne.mpr h]
    dsimp only
    induction ρ with
    | nil => rfl
    | cons p r ih =>
      rw [List.filter_cons, List.lookup_cons]
      by_cases q : p.1 = x
      · have : (y == p.1) = false := beq_eq_false_iff_ne.mpr fun e => h (e.trans q)
        simp only [q, beq_self_eq_true, Bool.not_true, Bool.false_eq_true, if_false, ih]
        rw [beq_eq_false_iff_ne.mpr h]
      · simp [q]
        rw [List.lookup_cons, ih]
section
variable {α β : Type} {μ : M} {a b : V} {i j : Int} {l m : List V} {r : Nat} {x y : Str}
theorem lk_cons {β : Type} {x y : Str} {v : β} {r : List (Str × β)} : List.lookup x ((y, v) :: r) = if x = y then some v else List.lookup x r := by
  rw [List.lookup_cons]
  by_cases h : x = y
  · subst h; simp
  · rw [beq_eq_false_iff_ne.mpr h, if_neg h]
theorem lk_filter {ρ : Rho} {y : Str} {ns : List (Str × NameKind)} {k : NameKind} : List.lookup y (ρ.filter fun p => decide (ns.lookup p.1 = some k)) = if ns.lookup y = some k then ρ.lookup y else none := by
  induction ρ with
  | nil => simp
  | cons p r ih =>
    obtain ⟨z, v⟩ := p
    rw [List.filter_cons]
    by_cases h : z = y
    · subst h
      by_cases q : ns.lookup z = some k
      · simp [q, lk_cons]
      · simp [q, ih]
    · by_cases q : ns.lookup z = some k
      · simp only [q, decide_true, if_true, lk_cons, ih, if_neg (Ne.symm h)]
      · simp only [q, decide_false, Bool.false_eq_true, if_false, lk_cons, ih, if_neg (Ne.symm h)]
noncomputable def fil (ns : List (Str × NameKind)) (k : NameKind) (ρ : Rho) : Rho := ρ.filter fun p => decide (ns.lookup p.1 = some k)
theorem iz {ρ : Rho} {ns : List (Str × NameKind)} {k : NameKind} : (List.filter (fun p => decide (List.lookup p.1 ns = some k)) ρ) = fil ns k ρ := rfl
theorem i0 {ρ : Rho} {y : Str} {ns : List (Str × NameKind)} {k : NameKind} : List.lookup y (fil ns k ρ) = if ns.lookup y = some k then ρ.lookup y else none := lk_filter
theorem fi {sc sc' : Scope} {z : Str} (h : compOk sc sc' z = true) : compOk sc sc' z = true := h
theorem di {i : Int} (h : i.natAbs < 2 ^ 60) : small i = true := decide_eq_true h
theorem iy {β : Type} {x : Str} : List.lookup x ([] : List (Str × β)) = none := rfl
abbrev Tg {α β : Type} (_f : α → M → Out β) : Type := Out α
noncomputable def bindD {α β : Type} (f : α → M → Out β) (o : Tg f) : Out β := Out.bind o f
theorem lz {o : Out α} {f : α → M → Out β} : o.bind f = bindD f o := rfl
theorem lf {v : α} {f : α → M → Out β} : bindD f (Out.ok v μ : Out α) = f v μ := rfl
theorem jv {c : Str} {f : α → M → Out β} : bindD f (Out.exc c μ : Out α) = .exc c μ := rfl
theorem as1 {sc : Scope} {ρ : Rho} {p : Pos} {v : V} : assignN sc ρ (.Name x p) v = if sc.names.lookup x = some .local then some (ρ.set x v) else none := rfl
theorem as2 {sc : Scope} {ρ : Rho} {p q s : Pos} {k : Nat} (h : nmsOk sc [x, y] = true) : assignN sc ρ (.Tuple [.Name x p, .Name y q] k s) (.tup [a, b]) = some ((ρ.set x a).set y b) := if_pos ⟨rfl, h⟩
theorem as3 {sc : Scope} {ρ : Rho} {p q s t : Pos} {k : Nat} {z : Str} {c : V} (h : nmsOk sc [x, y, z] = true) : assignN sc ρ (.Tuple [.Name x p, .Name y q, .Name z t] k s) (.tup [a, b, c]) = some (((ρ.set x a).set y b).set z c) := if_pos ⟨rfl, h⟩
theorem b_ok {v : α} {f : α → M → Out β} : (Out.ok v μ).bind f = f v μ := rfl
theorem b_exc {c : Str} {f : α → M → Out β} : (Out.exc c μ : Out α).bind f = .exc c μ := rfl
theorem ib {v : α} : Out.of μ (some v) = .ok v μ := rfl
theorem lg : cmpV .Eq a b = eqV a b := rfl
theorem lh : cmpV .NotEq a b = (eqV a b).map (!·) := rfl
theorem lj : cmpV .Lt (.int i) (.int j) = some (decide (i < j)) := rfl
theorem ll : cmpV .LtE (.int i) (.int j) = some (decide (i ≤ j)) := rfl
theorem lq : cmpV .Gt (.int i) (.int j) = some (decide (j < i)) := rfl
theorem ls : cmpV .GtE (.int i) (.int j) = some (decide (j ≤ i)) := rfl
theorem c9 : cmpV .In a (.tup l) = inL a l := rfl
theorem da : cmpV .In a (.lst l) = inL a l := rfl
theorem cq {d : List (Str × V)} : cmpV .In (.str x) (.dict d) = some (keyIn x d).isSome := rfl
theorem dg : cmpV .In (.str x) (.str y) = some (Txt.contains y x) := rfl
theorem cr : cmpV .NotIn a (.tup l) = (inL a l).map (!·) := rfl
theorem b6 : cmpV .IsNot .none .none = some false := rfl
theorem cu : cmpV .IsNot (.tup l) .none = some true := rfl
theorem i_tup (h : i.natAbs < 2 ^ 60) : idxV μ (.tup l) (.int i) = (seqIndex? i l.length).bind (l[·]?) := by unfold idxV; dsimp only; exact if_pos (by unfold small; exact decide_eq_true h)
theorem i_lst (h : i.natAbs < 2 ^ 60) : idxV μ (.lst l) (.int i) = (seqIndex? i l.length).bind (l[·]?) := by unfold idxV; dsimp only; exact if_pos (by unfold small; exact decide_eq_true h)
theorem l6 : idxV μ (.tup (a :: l)) (.int 0) = some a := by rw [i_tup (by decide)]; simp [seqIndex?]
theorem l7 {c : V} : idxV μ (.tup (a :: c :: l)) (.int 1) = some c := by
  rw [i_tup (by decide)]
  unfold seqIndex?
  simp
  rw [if_pos (by omega)]; simp
theorem l8 {c e : V} : idxV μ (.tup (a :: c :: e :: l)) (.int 2) = some e := by
  rw [i_tup (by decide)]
  unfold seqIndex?
  simp
  rw [if_pos (by omega)]; simp
theorem l9 {c e f : V} : idxV μ (.tup (a :: c :: e :: f :: l)) (.int 3) = some f := by
  rw [i_tup (by decide)]
  unfold seqIndex?
  simp
  rw [if_pos (by omega)]; simp
theorem jw : idxV μ (.ref r) (.int (-1)) = (μ[r]?).bind fun l => l.getLast? := by
  unfold idxV small
  simp
  congr 1
  funext l
  cases l with
  | nil => rfl
  | cons v l =>
    rw [List.length_cons]
    unfold seqIndex?
    simp
    rw [if_pos (by omega)]
    rw [show (-1 + ((l.length : Int) + 1)).toNat = l.length by omega]
    simp [List.getLast?_eq_getElem?]
theorem ic {d : List (Str × V)} : idxV μ (.dict d) (.str x) = keyIn x d := rfl
theorem jx : binV μ .Add (.int i) (.int j) = some (.int (i + j)) := rfl
theorem jy : binV μ .Sub (.int i) (.int j) = some (.int (i - j)) := rfl
theorem ie (h : l.length + m.length ≤ 100000) : binV μ .Add (.lst l) (.lst m) = some (.lst (l ++ m)) := if_pos h
theorem ig (h : l.length + m.length ≤ 100000) : binV μ .Add (.tup l) (.tup m) = some (.tup (l ++ m)) := if_pos h
theorem n_radd' : binV μ .Add (.ref r) (.lst m) = (μ[r]?).bind fun l => if l.length + m.length ≤ maxLen then some (.lst (l ++ m)) else none := rfl
theorem sm_ok (h : i.natAbs < 2 ^ 60) : small i = true := decide_eq_true h
theorem jz (h : i.natAbs < 2 ^ 60) (h' : j.natAbs < 2 ^ 60) : binV μ .Mult (.int i) (.int j) = some (.int (i * j)) := if_pos (by rw [sm_ok h, sm_ok h']; rfl)
theorem ij (h : i.natAbs < 2 ^ 60) (h' : j.natAbs < 2 ^ 60) (h2 : 0 < j) : binV μ .FloorDiv (.int i) (.int j) = some (.int (i.fdiv j)) := if_pos (by rw [sm_ok h, sm_ok h', decide_eq_true h2]; rfl)
theorem j0 (h : j ≠ 0) : binV μ .Mod (.int i) (.int j) = some (.int (i.fmod j)) := if_neg h
theorem i_rn {k : Nat} (h : k < 1000) : idxV μ (.ref r) (.int (k : Int)) = (μ[r]?).bind fun l => l[k]? := by
  unfold idxV small
  have : (k : Int).natAbs < 2 ^ 60 := by omega
  dsimp only
  rw [decide_eq_true this, if_pos rfl]
  congr 1
  funext l
  by_cases q : k < l.length
  · rw [seq_at q]; rfl
  · have e : seqIndex? (k : Int) l.length = none := by
      unfold seqIndex?
      have hk : ¬ ((k : Int) < 0) := by omega
      rw [if_neg hk]
      have hn : decide ((k : Int) < (l.length : Int)) = false := decide_eq_false (by omega)
      dsimp only
      rw [hn, Bool.and_false]; rfl
    rw [e, List.getElem?_eq_none (by omega)]; rfl
theorem i_r1 : idxV μ (.ref r) (.int 1) = (μ[r]?).bind fun l => l[1]? := i_rn (k := 1) (by decide)
theorem i_r2 : idxV μ (.ref r) (.int 2) = (μ[r]?).bind fun l => l[2]? := i_rn (k := 2) (by decide)
theorem i_r0' : idxV μ (.ref r) (.int 0) = (μ[r]?).bind fun l => l[0]? := i_rn (k := 0) (by decide)
theorem j1 : unV .USub (.int i) = some (.int (-i)) := rfl
theorem j2 {b : Bool} : unV .Not (.bool b) = some (.bool !b) := rfl
theorem j3 : augV .Add (.int i) (.int j) = some (i + j) := rfl
theorem ik {b : Bool} : truthV (.bool b) = some b := rfl
theorem fc {k w : V} {n : Nat} : attrV (.level k w n) "kind" = some k := rfl
theorem fe {k w : V} {n : Nat} : attrV (.level k w n) "word" = some w := by kernel_rfl
theorem fg {k w : V} {n : Nat} : attrV (.level k w n) "args" = some (.ref n) := by kernel_rfl
theorem bp {k w : V} {n : Nat} : attrV (.level k w n) "operands" = some (.ref (n + 1)) := by kernel_rfl
theorem be {k w : V} {n : Nat} : attrV (.level k w n) "operators" = some (.ref (n + 2)) := by kernel_rfl
theorem dh (v : V) : methV μ (.ref r) "append" [v] = appendV μ r [v] := by kernel_rfl
theorem j4 : methV μ (.ref r) "pop" [] = popV μ r [] := by kernel_rfl
theorem cv : methOk (.ref r) "append" = true := by kernel_rfl
theorem im : methOk (.ref r) "pop" = true := by kernel_rfl
theorem j5 : lenV μ [.ref r] = (match μ[r]? with
    | some l => if l.length ≤ maxLen then some (.int l.length) else none
    | none => none) := rfl
theorem j6 : lenV μ [.lst l] = if l.length ≤ maxLen then some (.int l.length) else none := rfl
theorem j7 : lenV μ [.str x] = if x.length ≤ maxLen then some (.int x.length) else none := rfl
theorem io {vs : List V} : builtV μ "len" vs = lenV μ vs := by unfold builtV; rw [if_pos rfl]
theorem ip {vs : List V} : builtV μ "sum" vs = sumV vs := by kernel_rfl
theorem iq {vs : List V} : builtV μ "abs" vs = absV vs := by kernel_rfl
theorem ir {vs : List V} : builtV μ "int" vs = intV vs := by kernel_rfl
end
theorem je {μ : M} {i : Nat} {x : List V} : (μ.set i x)[i]? = (μ[i]?).map fun _ => x := by
  rw [List.getElem?_set]
  simp
  by_cases h : i < μ.length
  · simp [h]
  · simp [h]
theorem mh {μ : M} {i j : Nat} {x : List V} (h : i ≠ j) : (μ.set i x)[j]? = μ[j]? := List.getElem?_set_ne h
section
variable {α : Type} {x y : α}
theorem gs {e : Expr} {z : Str} {p : Pos} : swOk (.Name z p) e = true := rfl
theorem gu {ts : List Expr} {k : Nat} {f : Expr} {as : List Expr} {kw : List Keyword} {p q : Pos} : swOk (.Tuple ts k p) (.Call f as kw q) = true := rfl
theorem jf {ts vs : List Expr} {k k' : Nat} {p q : Pos} : swOk (.Tuple ts k p) (.Tuple vs k' q) = (plainEs vs && (vs.all (foldedForSure 8) || !vs.all (constantsAlone 8))) := rfl
theorem d6 {n : Nat} {c : Const} {k : Nat} {p : Pos} : constantsAlone (n + 1) (.Constant c k p) = true := rfl
theorem gv {n : Nat} {z : Str} {p : Pos} : constantsAlone (n + 1) (.Name z p) = (z == ("__debug__" : Str)) := rfl
theorem jg {n : Nat} {l r : Expr} {o : Operator} {p : Pos} : constantsAlone (n + 1) (.BinOp l o r p) = (constantsAlone n l && constantsAlone n r) := rfl
theorem jh {n : Nat} {l r : Expr} {p : Pos} : constantsAlone (n + 1) (.Subscript l r p) = (constantsAlone n l && constantsAlone n r) := rfl
theorem ji {n : Nat} {es : List Expr} {k : Nat} {p : Pos} : constantsAlone (n + 1) (.Tuple es k p) = es.all (constantsAlone n) := rfl
theorem gw {n : Nat} {es : List Expr} {p : Pos} : constantsAlone (n + 1) (.List es p) = false := rfl
theorem gx {n : Nat} {f : Expr} {as : List Expr} {kw : List Keyword} {q : Pos} : constantsAlone (n + 1) (.Call f as kw q) = false := rfl
theorem j8 {a : Nat} {_ : Decidable (a ≤ maxLen)} (h : a ≤ 100000) : (if a ≤ maxLen then x else y) = x := if_pos h
theorem iu {a : Nat} {_ : Decidable (a < maxLen)} (h : a < 100000) : (if a < maxLen then x else y) = x := if_pos h
theorem ma {a b : Nat} {_ : Decidable (a ≤ b)} (h : a ≤ b) : (if a ≤ b then x else y) = x := if_pos h
theorem mc {a b : Nat} {_ : Decidable (a < b)} (h : a < b) : (if a < b then x else y) = x := if_pos h
theorem q_le' {a b : Nat} {_ : Decidable (a ≤ b)} (h : b < a) : (if a ≤ b then x else y) = y := if_neg (by omega)
theorem q_lt' {a b : Nat} {_ : Decidable (a < b)} (h : b ≤ a) : (if a < b then x else y) = y := if_neg (by omega)
theorem md {a b : Int} {_ : Decidable (a ≤ b)} (h : a ≤ b) : (if a ≤ b then x else y) = x := if_pos h
theorem me {a b : Int} {_ : Decidable (a < b)} (h : a < b) : (if a < b then x else y) = x := if_pos h
theorem z_le' {a b : Int} {_ : Decidable (a ≤ b)} (h : b < a) : (if a ≤ b then x else y) = y := if_neg (by omega)
theorem z_lt' {a b : Int} {_ : Decidable (a < b)} (h : b ≤ a) : (if a < b then x else y) = y := if_neg (by omega)
end
section
variable {x : Str} {p q : Pos} {k : Nat} {op : Operator} {uop : UnaryOp} {c : Const} {e1 e2 e3 : Expr} {es1 r : List Expr} {kos : List (Option Expr)} {kw : List Keyword} {cops : List CmpOp} {gens : List Comprehension} {sc1 : Scope} {s : Src}
theorem i7 : plainEs [] = true := rfl
theorem ft : plainEs (.Name x p :: r) = plainEs r := rfl
theorem fu : plainEs (.Call e1 es1 kw p :: r) = plainEs r := rfl
theorem dm : plainEs (.BinOp e1 op e2 p :: r) = plainEs r := rfl
theorem dq : plainEs (.Constant c k p :: r) = plainEs r := rfl
theorem i9 : plainEs (.Subscript e1 e2 p :: r) = plainEs r := rfl
theorem fv : plainEs (.List es1 p :: r) = plainEs r := rfl
theorem dt : plainEs (.Tuple es1 k p :: r) = plainEs r := rfl
theorem fw : plainEs (.Attribute e1 x p :: r) = plainEs r := rfl
theorem du : plainEs (.UnaryOp uop e1 p :: r) = plainEs r := rfl
theorem ja : plainEs (.Compare e1 cops es1 p :: r) = plainEs r := rfl
theorem dw : plainEs (.IfExp e1 e2 e3 p :: r) = plainEs r := rfl
theorem fy : plainEs (.ListComp e1 gens sc1 p :: r) = plainEs r := rfl
theorem fz : plainEs (.Dict kos es1 p :: r) = plainEs r := rfl
theorem jb : turns [] = false := rfl
theorem f0 : turns (.Call (.Name x q) es1 kw p :: r) = (x == ("Level" : Str)) := rfl
theorem f5 : turns (.Name x p :: r) = (x == ("cells" : Str)) := rfl
theorem dy : turns (.BinOp e1 op e2 p :: r) = false := rfl
theorem dz : turns (.Constant c k p :: r) = false := rfl
theorem jc : turns (.Subscript e1 e2 p :: r) = false := rfl
theorem f7 : turns (.List es1 p :: r) = false := rfl
theorem d3 : turns (.Tuple es1 k p :: r) = false := rfl
theorem f8 : turns (.Attribute e1 x p :: r) = false := rfl
theorem d4 : turns (.UnaryOp uop e1 p :: r) = false := rfl
theorem jd : turns (.Compare e1 cops es1 p :: r) = false := rfl
theorem d5 : turns (.IfExp e1 e2 e3 p :: r) = false := rfl
theorem f9 : turns (.ListComp e1 gens sc1 p :: r) = false := rfl
theorem gn : turns (.Dict kos es1 p :: r) = false := rfl
theorem fq : srcOk (.Name x p) s = s.flat := rfl
theorem i6 : srcOk (.Tuple es1 k p) s = !s.flat := rfl
theorem fj {l : List V} : (Src.list l).flat = true := rfl
theorem dk {i : Int} : (Src.range i).flat = true := rfl
theorem fk {l : List V} : (Src.enum l).flat = false := rfl
theorem fm {l : List V} : (Src.list l).items = l := rfl
theorem dl {i : Int} : (Src.range i).items = rangeFrom 0 i.toNat := rfl
theorem fp {l : List V} : (Src.enum l).items = enumFrom 0 l := rfl
end
end Mine
namespace Mine
theorem nm_g {c l : Option V} {μ : M} : nameR false (some .globalImplicit) c l μ = .of μ c := rfl
theorem nm_l {c l : Option V} {μ : M} : nameR false (some .local) c l μ = .of μ l := rfl
theorem nm_c {c l : Option V} {μ : M} : nameR false (some .cell) c l μ = .of μ l := rfl
theorem nm_f {c l : Option V} {μ : M} : nameR false (some .free) c l μ = .of μ l := rfl
noncomputable def callR (tab : Str → Option DefRec) (cst : Str → Option V) (n d : Nat) (f : Str) (μ : M) (vs : List V) : Option DefRec → Out V
  | some fd => evCall tab cst n d μ fd vs
  | none => if f == ("Level" : Str) then (match vs with
            | [.str k, .str w] => if d = 0 then .no else .ok (.level (.str k) (.str w) μ.length) (μ ++ [[], [], []])
            | _ => .no) else .of μ (builtV μ f vs)
noncomputable def compR : Out (List V) → Out V
  | .ok vs μ => if vs.length ≤ maxLen then .ok (.lst vs) μ else .no
  | _ => .no
noncomputable def asgR (o : Option Rho) (μ : M) : Out (Fl × Rho) := match o with
  | some ρ => .ok (.next, ρ) μ
  | none => .no
theorem c7 {ρ : Rho} {μ : M} : asgR (some ρ) μ = .ok (.next, ρ) μ := rfl
theorem ci {vs : List V} {μ : M} : compR (.ok vs μ) = if vs.length ≤ maxLen then .ok (.lst vs) μ else .no := rfl
theorem cj {tab : Str → Option DefRec} {cst : Str → Option V} {n d : Nat} {f : Str} {μ : M} {vs : List V} {fd : DefRec} : callR tab cst n d f μ vs (some fd) = evCall tab cst n d μ fd vs := rfl
theorem cn {tab : Str → Option DefRec} {cst : Str → Option V} {n d : Nat} {f : Str} {μ : M} {vs : List V} : callR tab cst n d f μ vs none = if f == ("Level" : Str) then (match vs with
            | [.str k, .str w] => if d = 0 then .no else .ok (.level (.str k) (.str w) μ.length) (μ ++ [[], [], []])
            | _ => .no) else .of μ (builtV μ f vs) := rfl
noncomputable def aR (op : BoolOp) (b : Bool) (x : Out Bool) (μ : M) : Out Bool := match op, b with
      | .And, false => .ok false μ
      | .Or, true => .ok true μ
      | _, _ => x
theorem k7 {x : Out Bool} {μ : M} : aR .And true x μ = x := rfl
theorem k8 {x : Out Bool} {μ : M} : aR .And false x μ = .ok false μ := rfl
theorem k9 {x : Out Bool} {μ : M} : aR .Or true x μ = .ok true μ := rfl
theorem lb {x : Out Bool} {μ : M} : aR .Or false x μ = x := rfl
noncomputable def retR (o : Out (Fl × Rho)) : Out V := o.bind fun r μ => match r.1 with
        | .ret v => .ok v μ
        | .next => .ok .none μ
theorem ez {v : V} {ρ : Rho} {μ : M} : retR (.ok (.ret v, ρ) μ) = .ok v μ := rfl
theorem c8 {ρ : Rho} {μ : M} : retR (.ok (.next, ρ) μ) = .ok .none μ := rfl
theorem fa {c : Str} {μ : M} : retR (.exc c μ) = .exc c μ := rfl
theorem bd_t {α : Type} {x y : α} : (bif true then x else y) = x := rfl
section
variable {tab : Str → Option DefRec} {cst : Str → Option V} {n d : Nat} {sc : Scope} {ρ : Rho} {μ : M} {l r e e2 e3 t b o i : Expr} {x y z : Str} {p q s ap : Pos} {j : Int} {k : Nat} {es es2 as rs : List Expr} {kw : List Keyword} {c : Const} {f : Expr} {st : Stmt} {ss bd oe : List Stmt} {op o2 : Operator} {uo : UnaryOp} {cops : List CmpOp} {cop cop2 : CmpOp} {ks : List (Option Expr)} {a v : V} {vs items : List V} {tv : Bool} {lo hi : Option Expr} {sc2 : Scope} {fd : DefRec} {bo : BoolOp}
theorem gy : evE tab cst (n + 1) d sc ρ μ (.Constant .none k p) = .ok .none μ := rfl
theorem gz : evE tab cst (n + 1) d sc ρ μ (.Constant (.bool tv) k p) = .ok (.bool tv) μ := rfl
theorem jk : evE tab cst (n + 1) d sc ρ μ (.Constant (.int j) k p) = .ok (.int j) μ := rfl
theorem jm : evE tab cst (n + 1) d sc ρ μ (.Constant (.str x) k p) = .ok (.str x) μ := rfl
theorem r_name : evE tab cst (n + 1) d sc ρ μ (.Name x p) = nameR (x == ("__debug__" : Str)) (sc.names.lookup x) (cst x) (ρ.lookup x) μ := rfl
theorem bq : evE tab cst (n + 1) d sc ρ μ (.BinOp (.Name y q) op r p) = (evE tab cst n d sc ρ μ (.Name y q)).bind fun a μ => (evE tab cst n d sc ρ μ r).bind fun b μ => .of μ (binV μ op a b) := rfl
theorem bg : evE tab cst (n + 1) d sc ρ μ (.BinOp (.Constant c k q) op r p) = (evE tab cst n d sc ρ μ (.Constant c k q)).bind fun a μ => (evE tab cst n d sc ρ μ r).bind fun b μ => .of μ (binV μ op a b) := rfl
theorem br : evE tab cst (n + 1) d sc ρ μ (.BinOp (.Call f as kw q) op r p) = (evE tab cst n d sc ρ μ (.Call f as kw q)).bind fun a μ => (evE tab cst n d sc ρ μ r).bind fun b μ => .of μ (binV μ op a b) := rfl
theorem b7 : evE tab cst (n + 1) d sc ρ μ (.BinOp (.BinOp l o2 e2 q) op r p) = (evE tab cst n d sc ρ μ (.BinOp l o2 e2 q)).bind fun a μ => (evE tab cst n d sc ρ μ r).bind fun b μ => .of μ (binV μ op a b) := rfl
theorem b8 : evE tab cst (n + 1) d sc ρ μ (.BinOp (.Subscript l e2 q) op r p) = (evE tab cst n d sc ρ μ (.Subscript l e2 q)).bind fun a μ => (evE tab cst n d sc ρ μ r).bind fun b μ => .of μ (binV μ op a b) := rfl
theorem bt : evE tab cst (n + 1) d sc ρ μ (.BinOp (.Attribute l y q) op r p) = (evE tab cst n d sc ρ μ (.Attribute l y q)).bind fun a μ => (evE tab cst n d sc ρ μ r).bind fun b μ => .of μ (binV μ op a b) := rfl
theorem bu : evE tab cst (n + 1) d sc ρ μ (.BinOp (.List es2 q) .Add r p) = (evE tab cst n d sc ρ μ (.List es2 q)).bind fun a μ => (evE tab cst n d sc ρ μ r).bind fun b μ => .of μ (binV μ .Add a b) := rfl
theorem jn : evE tab cst (n + 1) d sc ρ μ (.BinOp (.List es q) .Mult r p) = if !plainEs es || decide (10 < es.length) then .no else (evEs tab cst n d sc ρ μ es).bind fun vs μ => (evE tab cst n d sc ρ μ r).bind fun b μ => (match b with
        | .int j => if !turns es && decide (0 ≤ j) && decide (j ≤ 1000) && !vs.isEmpty then .ok (.lst (List.replicate j.toNat vs).flatten) μ else .no
        | _ => .no) := rfl
theorem km : evE tab cst (n + 1) d sc ρ μ (.UnaryOp uo l p) = (evE tab cst n d sc ρ μ l).bind fun a μ => .of μ (unV uo a) := rfl
theorem ko : evE tab cst (n + 1) d sc ρ μ (.IfExp t b o p) = (evT tab cst n d sc ρ μ t).bind fun c μ => if c then evE tab cst n d sc ρ μ b else evE tab cst n d sc ρ μ o := rfl
theorem jo : evE tab cst (n + 1) d sc ρ μ (.Tuple es k p) = if plainEs es then (evEs tab cst n d sc ρ μ es).bind fun vs μ => if vs.length ≤ maxLen then .ok (.tup vs) μ else .no else .no := rfl
theorem g5 : evE tab cst (n + 1) d sc ρ μ (.List es p) = if plainEs es then (evEs tab cst n d sc ρ μ es).bind fun vs μ => if vs.length ≤ maxLen then (if turns es then .ok (.ref μ.length) (μ ++ [vs]) else .ok (.lst vs) μ) else .no else .no := rfl
theorem g6 : evE tab cst (n + 1) d sc ρ μ (.Dict ks es p) = (match litKs ks, litIs es with
      | some xs, some is => if xs.length = is.length ∧ xs ≠ [] ∧ xs.Nodup ∧ xs.length ≤ 16 then .ok (.dict (xs.zip (is.map .int))) μ else .no
      | _, _ => .no) := rfl
theorem bh : evE tab cst (n + 1) d sc ρ μ (.Attribute (.Name y q) x p) = (evE tab cst n d sc ρ μ (.Name y q)).bind fun a μ => .of μ (attrV a x) := rfl
theorem bv : evE tab cst (n + 1) d sc ρ μ (.Attribute (.Subscript l e2 q) x p) = (evE tab cst n d sc ρ μ (.Subscript l e2 q)).bind fun a μ => .of μ (attrV a x) := rfl
theorem bi : evE tab cst (n + 1) d sc ρ μ (.Attribute (.Attribute l y q) x p) = (evE tab cst n d sc ρ μ (.Attribute l y q)).bind fun a μ => .of μ (attrV a x) := rfl
theorem d7 : evE tab cst (n + 1) d sc ρ μ (.Subscript (.Name y q) (.Slice lo hi none s) p) = (evE tab cst n d sc ρ μ (.Name y q)).bind fun a μ => if !slOk a then .no else (evO tab cst n d sc ρ μ lo).bind fun i μ => (evO tab cst n d sc ρ μ hi).bind fun j μ => .of μ (sliceV a i j) := rfl
theorem aa : evE tab cst (n + 1) d sc ρ μ (.Subscript (.Name y q) (.Constant c k s) p) = (evE tab cst n d sc ρ μ (.Name y q)).bind fun a μ => (evE tab cst n d sc ρ μ (.Constant c k s)).bind fun b μ => .of μ (idxV μ a b) := rfl
theorem ag : evE tab cst (n + 1) d sc ρ μ (.Subscript (.Name y q) (.Name z s) p) = (evE tab cst n d sc ρ μ (.Name y q)).bind fun a μ => (evE tab cst n d sc ρ μ (.Name z s)).bind fun b μ => .of μ (idxV μ a b) := rfl
theorem a5 : evE tab cst (n + 1) d sc ρ μ (.Subscript (.Name y q) (.UnaryOp uo r s) p) = (evE tab cst n d sc ρ μ (.Name y q)).bind fun a μ => (evE tab cst n d sc ρ μ (.UnaryOp uo r s)).bind fun b μ => .of μ (idxV μ a b) := rfl
theorem ah : evE tab cst (n + 1) d sc ρ μ (.Subscript (.Name y q) (.Call r rs [] s) p) = (evE tab cst n d sc ρ μ (.Name y q)).bind fun a μ => (evE tab cst n d sc ρ μ (.Call r rs [] s)).bind fun b μ => .of μ (idxV μ a b) := rfl
theorem au : evE tab cst (n + 1) d sc ρ μ (.Subscript (.Name y q) (.Subscript r b s) p) = (evE tab cst n d sc ρ μ (.Name y q)).bind fun a μ => (evE tab cst n d sc ρ μ (.Subscript r b s)).bind fun b μ => .of μ (idxV μ a b) := rfl
theorem ac : evE tab cst (n + 1) d sc ρ μ (.Subscript (.Call f as kw q) (.Constant c k s) p) = (evE tab cst n d sc ρ μ (.Call f as kw q)).bind fun a μ => (evE tab cst n d sc ρ μ (.Constant c k s)).bind fun b μ => .of μ (idxV μ a b) := rfl
theorem ai : evE tab cst (n + 1) d sc ρ μ (.Subscript (.Call f as kw q) (.Name z s) p) = (evE tab cst n d sc ρ μ (.Call f as kw q)).bind fun a μ => (evE tab cst n d sc ρ μ (.Name z s)).bind fun b μ => .of μ (idxV μ a b) := rfl
theorem a6 : evE tab cst (n + 1) d sc ρ μ (.Subscript (.Call f as kw q) (.UnaryOp uo r s) p) = (evE tab cst n d sc ρ μ (.Call f as kw q)).bind fun a μ => (evE tab cst n d sc ρ μ (.UnaryOp uo r s)).bind fun b μ => .of μ (idxV μ a b) := rfl
theorem aj : evE tab cst (n + 1) d sc ρ μ (.Subscript (.Call f as kw q) (.Call r rs [] s) p) = (evE tab cst n d sc ρ μ (.Call f as kw q)).bind fun a μ => (evE tab cst n d sc ρ μ (.Call r rs [] s)).bind fun b μ => .of μ (idxV μ a b) := rfl
theorem av : evE tab cst (n + 1) d sc ρ μ (.Subscript (.Call f as kw q) (.Subscript r b s) p) = (evE tab cst n d sc ρ μ (.Call f as kw q)).bind fun a μ => (evE tab cst n d sc ρ μ (.Subscript r b s)).bind fun b μ => .of μ (idxV μ a b) := rfl
theorem ak : evE tab cst (n + 1) d sc ρ μ (.Subscript (.Subscript l e2 q) (.Constant c k s) p) = (evE tab cst n d sc ρ μ (.Subscript l e2 q)).bind fun a μ => (evE tab cst n d sc ρ μ (.Constant c k s)).bind fun b μ => .of μ (idxV μ a b) := rfl
theorem aw : evE tab cst (n + 1) d sc ρ μ (.Subscript (.Subscript l e2 q) (.Name z s) p) = (evE tab cst n d sc ρ μ (.Subscript l e2 q)).bind fun a μ => (evE tab cst n d sc ρ μ (.Name z s)).bind fun b μ => .of μ (idxV μ a b) := rfl
theorem ba : evE tab cst (n + 1) d sc ρ μ (.Subscript (.Subscript l e2 q) (.UnaryOp uo r s) p) = (evE tab cst n d sc ρ μ (.Subscript l e2 q)).bind fun a μ => (evE tab cst n d sc ρ μ (.UnaryOp uo r s)).bind fun b μ => .of μ (idxV μ a b) := rfl
theorem ax : evE tab cst (n + 1) d sc ρ μ (.Subscript (.Subscript l e2 q) (.Call r rs [] s) p) = (evE tab cst n d sc ρ μ (.Subscript l e2 q)).bind fun a μ => (evE tab cst n d sc ρ μ (.Call r rs [] s)).bind fun b μ => .of μ (idxV μ a b) := rfl
theorem a7 : evE tab cst (n + 1) d sc ρ μ (.Subscript (.Subscript l e2 q) (.Subscript r b s) p) = (evE tab cst n d sc ρ μ (.Subscript l e2 q)).bind fun a μ => (evE tab cst n d sc ρ μ (.Subscript r b s)).bind fun b μ => .of μ (idxV μ a b) := rfl
theorem ae : evE tab cst (n + 1) d sc ρ μ (.Subscript (.Attribute l y q) (.Constant c k s) p) = (evE tab cst n d sc ρ μ (.Attribute l y q)).bind fun a μ => (evE tab cst n d sc ρ μ (.Constant c k s)).bind fun b μ => .of μ (idxV μ a b) := rfl
theorem al : evE tab cst (n + 1) d sc ρ μ (.Subscript (.Attribute l y q) (.Name z s) p) = (evE tab cst n d sc ρ μ (.Attribute l y q)).bind fun a μ => (evE tab cst n d sc ρ μ (.Name z s)).bind fun b μ => .of μ (idxV μ a b) := rfl
theorem a8 : evE tab cst (n + 1) d sc ρ μ (.Subscript (.Attribute l y q) (.UnaryOp uo r s) p) = (evE tab cst n d sc ρ μ (.Attribute l y q)).bind fun a μ => (evE tab cst n d sc ρ μ (.UnaryOp uo r s)).bind fun b μ => .of μ (idxV μ a b) := rfl
theorem am : evE tab cst (n + 1) d sc ρ μ (.Subscript (.Attribute l y q) (.Call r rs [] s) p) = (evE tab cst n d sc ρ μ (.Attribute l y q)).bind fun a μ => (evE tab cst n d sc ρ μ (.Call r rs [] s)).bind fun b μ => .of μ (idxV μ a b) := rfl
theorem ay : evE tab cst (n + 1) d sc ρ μ (.Subscript (.Attribute l y q) (.Subscript r b s) p) = (evE tab cst n d sc ρ μ (.Attribute l y q)).bind fun a μ => (evE tab cst n d sc ρ μ (.Subscript r b s)).bind fun b μ => .of μ (idxV μ a b) := rfl
theorem af : evE tab cst (n + 1) d sc ρ μ (.Subscript (.List es2 q) (.Constant c k s) p) = (evE tab cst n d sc ρ μ (.List es2 q)).bind fun a μ => (evE tab cst n d sc ρ μ (.Constant c k s)).bind fun b μ => .of μ (idxV μ a b) := rfl
theorem ao : evE tab cst (n + 1) d sc ρ μ (.Subscript (.List es2 q) (.Name z s) p) = (evE tab cst n d sc ρ μ (.List es2 q)).bind fun a μ => (evE tab cst n d sc ρ μ (.Name z s)).bind fun b μ => .of μ (idxV μ a b) := rfl
theorem a9 : evE tab cst (n + 1) d sc ρ μ (.Subscript (.List es2 q) (.UnaryOp uo r s) p) = (evE tab cst n d sc ρ μ (.List es2 q)).bind fun a μ => (evE tab cst n d sc ρ μ (.UnaryOp uo r s)).bind fun b μ => .of μ (idxV μ a b) := rfl
theorem aq : evE tab cst (n + 1) d sc ρ μ (.Subscript (.List es2 q) (.Call r rs [] s) p) = (evE tab cst n d sc ρ μ (.List es2 q)).bind fun a μ => (evE tab cst n d sc ρ μ (.Call r rs [] s)).bind fun b μ => .of μ (idxV μ a b) := rfl
theorem az : evE tab cst (n + 1) d sc ρ μ (.Subscript (.List es2 q) (.Subscript r b s) p) = (evE tab cst n d sc ρ μ (.List es2 q)).bind fun a μ => (evE tab cst n d sc ρ μ (.Subscript r b s)).bind fun b μ => .of μ (idxV μ a b) := rfl
theorem jp : evE tab cst (n + 1) d sc ρ μ (.Compare l cops rs p) = if lastMarks cops rs then .no else (evE tab cst n d sc ρ μ l).bind fun a μ => (evC tab cst n d sc ρ μ a cops rs).bind fun b μ => .ok (.bool b) μ := rfl
theorem bj : evE tab cst (n + 1) d sc ρ μ (.Call (.Attribute (.Name y q) x ap) as [] p) = if !(ap.endLine == p.line) || decide (10 ≤ as.length) || !plainEs as then .no else (evE tab cst n d sc ρ μ (.Name y q)).bind fun a μ => if methOk a x then (evEs tab cst n d sc ρ μ as).bind fun vs μ => methV μ a x vs else .no := rfl
theorem bw : evE tab cst (n + 1) d sc ρ μ (.Call (.Attribute (.Subscript l e2 q) x ap) as [] p) = if !(ap.endLine == p.line) || decide (10 ≤ as.length) || !plainEs as then .no else (evE tab cst n d sc ρ μ (.Subscript l e2 q)).bind fun a μ => if methOk a x then (evEs tab cst n d sc ρ μ as).bind fun vs μ => methV μ a x vs else .no := rfl
theorem bk : evE tab cst (n + 1) d sc ρ μ (.Call (.Attribute (.Attribute l y q) x ap) as [] p) = if !(ap.endLine == p.line) || decide (10 ≤ as.length) || !plainEs as then .no else (evE tab cst n d sc ρ μ (.Attribute l y q)).bind fun a μ => if methOk a x then (evEs tab cst n d sc ρ μ as).bind fun vs μ => methV μ a x vs else .no := rfl
theorem bn : evE tab cst (n + 1) d sc ρ μ (.Call (.Attribute (.Dict ks es2 q) x ap) as [] p) = if !(ap.endLine == p.line) || decide (10 ≤ as.length) || !plainEs as then .no else (evE tab cst n d sc ρ μ (.Dict ks es2 q)).bind fun a μ => if methOk a x then (evEs tab cst n d sc ρ μ as).bind fun vs μ => methV μ a x vs else .no := rfl
theorem bc : evE tab cst (n + 1) d sc ρ μ (.Call (.Attribute (.Constant c k q) x ap) as [] p) = if !(ap.endLine == p.line) || decide (10 ≤ as.length) || !plainEs as then .no else (evE tab cst n d sc ρ μ (.Constant c k q)).bind fun a μ => if methOk a x then (evEs tab cst n d sc ρ μ as).bind fun vs μ => methV μ a x vs else .no := rfl
theorem g8 : evE tab cst (n + 1) d sc ρ μ (.Call (.Name x q) as [] p) = if isGlobal sc x && plainEs as && callOk tab x then (evEs tab cst n d sc ρ μ as).bind fun vs μ => callR tab cst n d x μ vs (tab x) else .no := rfl
theorem g9 : evE tab cst (n + 1) d sc ρ μ (.ListComp e [⟨.Name x q, t, [], 0⟩] sc2 p) = if compOk sc sc2 x && decide (1 ≤ d) then (evSrc tab cst n d sc ρ μ t).bind fun src μ =>
        if src.flat then compR (evComp tab cst n (d - 1) sc2 (fil sc2.names .free ρ) x μ e src.items) else .no
      else .no := rfl
theorem jq : evEs tab cst (n + 1) d sc ρ μ [] = .ok [] μ := rfl
theorem jr : evEs tab cst (n + 1) d sc ρ μ (e :: es) = (evE tab cst n d sc ρ μ e).bind fun v μ => (evEs tab cst n d sc ρ μ es).bind fun vs μ => .ok (v :: vs) μ := rfl
theorem kr : evO tab cst (n + 1) d sc ρ μ none = .ok none μ := rfl
theorem kt : evO tab cst (n + 1) d sc ρ μ (some e) = (evE tab cst n d sc ρ μ e).bind fun v μ => match v with
      | .int i => .ok (some i) μ
      | _ => .no := rfl
theorem bz : evSrc tab cst (n + 1) d sc ρ μ (.Call (.Name x q) [e] [] p) = if !plainEs [e] then .no else if isGlobal sc x && x == ("range" : Str) && (tab x).isNone then (evE tab cst n d sc ρ μ e).bind fun v μ => (match v with
          | .int i => if small i then .ok (.range i) μ else .no
          | _ => .no)
        else if isGlobal sc x && x == ("enumerate" : Str) && (tab x).isNone then (evE tab cst n d sc ρ μ e).bind fun v μ => (match v with
          | .lst l => .ok (.enum l) μ
          | _ => .no)
        else .no := rfl
theorem b4 : evSrc tab cst (n + 1) d sc ρ μ (.Name y q) = (evE tab cst n d sc ρ μ (.Name y q)).bind fun v μ => match v with
      | .lst l => .ok (.list l) μ
      | _ => .no := rfl
theorem b9 : evSrc tab cst (n + 1) d sc ρ μ (.Subscript l e2 q) = (evE tab cst n d sc ρ μ (.Subscript l e2 q)).bind fun v μ => match v with
      | .lst l => .ok (.list l) μ
      | _ => .no := rfl
theorem b5 : evSrc tab cst (n + 1) d sc ρ μ (.Attribute l y q) = (evE tab cst n d sc ρ μ (.Attribute l y q)).bind fun v μ => match v with
      | .lst l => .ok (.list l) μ
      | _ => .no := rfl
theorem ce : evSrc tab cst (n + 1) d sc ρ μ (.BinOp l o2 e2 q) = (evE tab cst n d sc ρ μ (.BinOp l o2 e2 q)).bind fun v μ => match v with
      | .lst l => .ok (.list l) μ
      | _ => .no := rfl
theorem d9 : evT tab cst (n + 1) d sc ρ μ (.UnaryOp .Not e p) = (evT tab cst n d sc ρ μ e).bind fun b μ => .ok (!b) μ := rfl
theorem cw : evT tab cst (n + 1) d sc ρ μ (.BoolOp bo es p) = evA tab cst n d sc ρ μ bo es := rfl
theorem eb : evT tab cst (n + 1) d sc ρ μ (.Compare l cops rs p) = if lastMarks cops rs then .no else (evE tab cst n d sc ρ μ l).bind fun a μ => evC tab cst n d sc ρ μ a cops rs := rfl
theorem cy : evT tab cst (n + 1) d sc ρ μ (.Name y q) = (evE tab cst n d sc ρ μ (.Name y q)).bind fun v μ => .of μ (truthV v) := rfl
theorem cz : evT tab cst (n + 1) d sc ρ μ (.Call f as kw q) = (evE tab cst n d sc ρ μ (.Call f as kw q)).bind fun v μ => .of μ (truthV v) := rfl
theorem ku : evA tab cst (n + 1) d sc ρ μ bo [] = .ok (bo == .And) μ := rfl
theorem kx : evA tab cst (n + 1) d sc ρ μ bo (e :: es) = (evT tab cst n d sc ρ μ e).bind fun b μ => aR bo b (evA tab cst n d sc ρ μ bo es) μ := rfl
theorem enter0 : evCall tab cst (n + 1) (d + 1) μ fd vs = if defOk fd then (match zipArgs fd.params.args vs with
      | some ρ => retR (evSs tab cst n d fd.scope ρ μ fd.body)
      | none => .no) else .no := rfl
theorem ky : evC tab cst (n + 1) d sc ρ μ a [cop] [r] = (evE tab cst n d sc ρ μ r).bind fun b μ => .of μ (cmpV cop a b) := rfl
theorem kz : evC tab cst (n + 1) d sc ρ μ a (cop :: cop2 :: cops) (r :: e :: rs) = (evE tab cst n d sc ρ μ r).bind fun b μ => (Out.of μ (cmpV cop a b)).bind fun c μ => if c then evC tab cst n d sc ρ μ b (cop2 :: cops) (e :: rs) else .ok false μ := rfl
theorem ec : evComp tab cst (n + 1) d sc ρ x μ e [] = .ok [] μ := rfl
theorem eg : evComp tab cst (n + 1) d sc ρ x μ e (v :: vs) = (evE tab cst n d sc ((x, v) :: ρ) μ e).bind fun w μ => (evComp tab cst n d sc ρ x μ e vs).bind fun ws μ => .ok (w :: ws) μ := rfl
theorem c6 : evS tab cst (n + 1) d sc ρ μ (.Expr (.Call f as [] p) q) = (evE tab cst n d sc ρ μ (.Call f as [] p)).bind fun _ μ => .ok (.next, ρ) μ := rfl
theorem eh : evS tab cst (n + 1) d sc ρ μ (.Return (some e) p) = (evE tab cst n d sc ρ μ e).bind fun v μ => .ok (.ret v, ρ) μ := rfl
theorem ej : evS tab cst (n + 1) d sc ρ μ (.Assign [.Subscript (.Name x q) i s] e p) = (evE tab cst n d sc ρ μ e).bind fun v μ => (evE tab cst n d sc ρ μ (.Name x q)).bind fun q μ => (evE tab cst n d sc ρ μ i).bind fun j μ => (match q, j with
        | .ref r, .int j => (match μ[r]? with
          | some l => if 0 ≤ j ∧ j < l.length ∧ small j = true then .ok (.next, ρ) (μ.set r (l.set j.toNat v)) else .no
          | none => .no)
        | _, _ => .no) := rfl
theorem ek : evS tab cst (n + 1) d sc ρ μ (.Assign [.Name x q] e p) = if !swOk (.Name x q) e then .no else (evE tab cst n d sc ρ μ e).bind fun v μ => asgR (assignN sc ρ (.Name x q) v) μ := rfl
theorem er : evS tab cst (n + 1) d sc ρ μ (.Assign [.Tuple es k q] e p) = if !swOk (.Tuple es k q) e then .no else (evE tab cst n d sc ρ μ e).bind fun v μ => asgR (assignN sc ρ (.Tuple es k q) v) μ := rfl
theorem h9 : evS tab cst (n + 1) d sc ρ μ (.If t bd oe p) = (evT tab cst n d sc ρ μ t).bind fun c μ => if c then evSs tab cst n d sc ρ μ bd else evSs tab cst n d sc ρ μ oe := rfl
theorem cg : evS tab cst (n + 1) d sc ρ μ (.While t bd [] p) = if d = 0 then .no else evW tab cst n (d - 1) sc ρ μ t bd := rfl
theorem et : evS tab cst (n + 1) d sc ρ μ (.For t e bd [] p) = if d = 0 then .no else (evSrc tab cst n d sc ρ μ e).bind fun src μ => if srcOk t src then evF tab cst n (d - 1) sc ρ μ t bd src.items else .no := rfl
theorem ch : evS tab cst (n + 1) d sc ρ μ (.Raise (some (.Call (.Name x q) as [] s)) none p) = if isGlobal sc x && x == ("BasicError" : Str) && plainEs as then (evEs tab cst n d sc ρ μ as).bind fun vs μ => (match vs with
        | [.str c] => .exc c μ
        | [.str c, _] => .exc c μ
        | _ => .no) else .no := rfl
theorem jt : evSs tab cst (n + 1) d sc ρ μ [] = .ok (.next, ρ) μ := rfl
theorem ju : evSs tab cst (n + 1) d sc ρ μ (st :: ss) = (evS tab cst n d sc ρ μ st).bind fun x μ => match x.1 with
      | .next => evSs tab cst n d sc x.2 μ ss
      | .ret v => .ok (.ret v, x.2) μ := rfl
theorem r_w : evW tab cst (n + 1) d sc ρ μ t bd = (evT tab cst n d sc ρ μ t).bind fun c μ => if c then (evSs tab cst n d sc ρ μ bd).bind fun x μ => (match x.1 with
      | .next => evW tab cst n d sc x.2 μ t bd
      | .ret v => .ok (.ret v, x.2) μ) else .ok (.next, ρ) μ := rfl
theorem r_f0 : evF tab cst (n + 1) d sc ρ μ t bd [] = .ok (.next, ρ) μ := rfl
theorem r_f1 : evF tab cst (n + 1) d sc ρ μ t bd (v :: vs) = (match assignN sc ρ t v with
      | some ρ => (evSs tab cst n d sc ρ μ bd).bind fun x μ => (match x.1 with
        | .next => evF tab cst n d sc x.2 μ t bd vs
        | .ret v => .ok (.ret v, x.2) μ)
      | none => .no) := rfl
theorem enter (h : defOk fd = true) (hz : zipArgs fd.params.args vs = some ρ) : evCall tab cst (n + 1) (d + 1) μ fd vs = retR (evSs tab cst n d fd.scope ρ μ fd.body) := by
  rw [enter0, if_pos h, hz]
end
end Mine
namespace Mine
theorem mm {β : Type} {x : Str} {v : β} {r : List (Str × β)} : List.lookup x ((x, v) :: r) = some v := List.lookup_cons_self
theorem mn {β : Type} {x y : Str} {v : β} {r : List (Str × β)} (h : (x == y) = false) : List.lookup x ((y, v) :: r) = List.lookup x r := by rw [List.lookup_cons, h]
theorem mr {ρ : Rho} {x : Str} {v : V} : List.lookup x (Rho.set ρ x v) = some v := List.lookup_cons_self
theorem mf {ρ : Rho} {x y : Str} {v : V} (h : (x == y) = false) : List.lookup x (Rho.set ρ y v) = List.lookup x ρ := by
  rw [lookup_set, if_neg (by intro e; subst e; simp at h)]
theorem iv {x y : Str} (h : decide (x = y) = false) : (x == y) = false := by rw [beq_eq_false_iff_ne]; simpa using h
theorem fh {x : Str} : (x == x) = true := beq_self_eq_true x
theorem iw {x y : Str} (h : (x == y) = false) : decide (x = y) = false := by simpa using h
theorem j9 {x y : Str} (h : (x == y) = false) : (x = y) = False := by simpa using h
theorem ms {sc : Scope} {x : Str} (h : isGlobal sc x = true) : isGlobal sc x = true := h
theorem mt {x : Str} (h : callOk tab x = true) : callOk tab x = true := h
theorem mu {a : List CmpOp} {b : List Expr} (h : lastMarks a b = false) : lastMarks a b = false := h
theorem as1' {sc : Scope} {ρ : Rho} {x : Str} {p : Pos} {v : V} (h : decide (sc.names.lookup x = some .local) = true) : assignN sc ρ (.Name x p) v = some (ρ.set x v) := by rw [as1, if_pos (of_decide_eq_true h)]
theorem as2' {sc : Scope} {ρ : Rho} {x y : Str} {p q s : Pos} {k : Nat} {a b : V} (h : nmsOk sc [x, y] = true) : assignN sc ρ (.Tuple [.Name x p, .Name y q] k s) (.tup [a, b]) = some ((ρ.set x a).set y b) := as2 h
theorem as3' {sc : Scope} {ρ : Rho} {x y z : Str} {p q s t : Pos} {k : Nat} {a b c : V} (h : nmsOk sc [x, y, z] = true) : assignN sc ρ (.Tuple [.Name x p, .Name y q, .Name z t] k s) (.tup [a, b, c]) = some (((ρ.set x a).set y b).set z c) := as3 h
theorem ki {tab : Str → Option DefRec} {cst : Str → Option V} {n d : Nat} {sc : Scope} {ρ : Rho} {μ : M} {x : Str} {p : Pos} (h : (!(x == ("__debug__" : Str)) && (sc.names.lookup x == some .local || sc.names.lookup x == some .cell || sc.names.lookup x == some .free)) = true) : evE tab cst (n + 1) d sc ρ μ (.Name x p) = .of μ (ρ.lookup x) := by
  rw [r_name]
  simp only [Bool.and_eq_true, Bool.not_eq_true', Bool.or_eq_true, beq_iff_eq] at h
  rw [h.1]
  rcases h.2 with (q | q) | q <;> rw [q] <;> rfl
theorem kj {tab : Str → Option DefRec} {cst : Str → Option V} {n d : Nat} {sc : Scope} {ρ : Rho} {μ : M} {x : Str} {p : Pos} (h : (!(x == ("__debug__" : Str)) && sc.names.lookup x == some .globalImplicit) = true) : evE tab cst (n + 1) d sc ρ μ (.Name x p) = .of μ (cst x) := by
  rw [r_name]
  simp only [Bool.and_eq_true, Bool.not_eq_true', beq_iff_eq] at h
  rw [h.1, h.2]; rfl
theorem g7 {cst : Str → Option V} {n d : Nat} {sc : Scope} {ρ : Rho} {μ : M} {x : Str} {p q : Pos} {as : List Expr} {fd : DefRec} (ht : tab x = some fd) (h : (isGlobal sc x && plainEs as) = true) : evE tab cst (n + 1) d sc ρ μ (.Call (.Name x q) as [] p) = (evEs tab cst n d sc ρ μ as).bind fun vs μ => evCall tab cst n d μ fd vs := by
  rw [g8, if_pos (by simp only [Bool.and_eq_true] at h ⊢; exact ⟨h, by simp [callOk, ht]⟩), ht]; rfl
noncomputable def tryR : Out (Fl × Rho) → Out (Fl × Rho)
  | .exc c μ => .ok (.ret (.str c), []) μ
  | .ok a μ => .ok a μ
  | .no => .no
theorem ia {a : Fl × Rho} {μ : M} : tryR (.ok a μ) = .ok a μ := rfl
theorem ey {c : Str} {μ : M} : tryR (.exc c μ) = .ok (.ret (.str c), []) μ := rfl
theorem eu {cst : Str → Option V} {n d : Nat} {sc : Scope} {ρ : Rho} {μ : M} {x y z w : Str} {p q s ap hp tp : Pos} {bd : List Stmt} (h : (isGlobal sc x && x == ("BasicError" : Str) && y == z && w == ("code" : Str) && sc.names.lookup y == some .local && !(y == ("__debug__" : Str))) = true) :
    evS tab cst (n + 1) d sc ρ μ (.Try bd [.ExceptHandler (some (.Name x p)) (some y) [.Return (some (.Attribute (.Name z q) w s)) ap] hp] [] [] tp) = tryR (evSs tab cst n d sc ρ μ bd) := by
  refine (if_pos h).trans ?_
  cases evSs tab cst n d sc ρ μ bd <;> rfl
noncomputable def fdOf (x : Str) (h : (tab x).isSome = true) : DefRec := (tab x).get h
theorem tab_fd {x : Str} (h : (tab x).isSome = true) : tab x = some (fdOf x h) := (Option.some_get h).symm
theorem atFd {x : Str} {h : (tab x).isSome = true} {p : DefRec → Prop} (e : ∃ fd, tab x = some fd ∧ p fd) : p (fdOf x h) := by
  obtain ⟨fd, q, k⟩ := e
  have : fdOf x h = fd := Option.some.inj ((tab_fd h).symm.trans q)
  rw [this]; exact k
def Ev (K : Nat) (fd : DefRec) (μ : M) (vs : List V) (o : Out V) : Prop := ∃ N, ∀ n, N ≤ n → ∀ d, K ≤ d → evCall tab cst n d μ fd vs = o
theorem ev_of {K N : Nat} {fd : DefRec} {μ : M} {vs : List V} {o : Out V} (h : ∀ n d, evCall tab cst (n + N) (d + K) μ fd vs = o) : Ev K fd μ vs o :=
  ⟨N, fun n hn d hd => by rw [← Nat.sub_add_cancel hn, ← Nat.sub_add_cancel hd]; exact h _ _⟩
theorem ev_in (N C : Nat) {K : Nat} {fd : DefRec} {μ : M} {vs : List V} {o : Out V} (h : ∀ m d, evCall tab cst (m + N + C) (d + K) μ fd vs = o) : Ev K fd μ vs o :=
  ⟨N + C, fun n hn d hd => by have e := h (n - (N + C)) (d - K); rw [Nat.add_assoc, Nat.sub_add_cancel hn, Nat.sub_add_cancel hd] at e; exact e⟩
theorem mi {N m j : Nat} : N ≤ m + N + j := Nat.le_trans (Nat.le_add_left N m) (Nat.le_add_right _ j)
theorem kc {N N2 m j : Nat} : N ≤ m + (N + N2) + j := Nat.le_trans (Nat.le_add_right N N2) mi
theorem ke {N N2 m j : Nat} : N2 ≤ m + (N + N2) + j := Nat.le_trans (Nat.le_add_left N2 N) mi
theorem kf {N N2 N3 m j : Nat} : N ≤ m + (N + N2 + N3) + j := Nat.le_trans (Nat.le_trans (Nat.le_add_right N N2) (Nat.le_add_right _ _)) mi
theorem kg {N N2 N3 m j : Nat} : N2 ≤ m + (N + N2 + N3) + j := Nat.le_trans (Nat.le_trans (Nat.le_add_left N2 N) (Nat.le_add_right _ _)) mi
theorem jj {a b d : Nat} (h : Nat.ble a b = true) : a ≤ d + b := Nat.le_trans (Nat.le_of_ble_eq_true h) (Nat.le_add_left b d)
theorem ev_inx (N C X c : Nat) {fd : DefRec} {μ : M} {vs : List V} {o : Out V} (h : ∀ m d, X ≤ d → evCall tab cst (m + N + C) (d + c) μ fd vs = o) : Ev (X + c) fd μ vs o :=
  ⟨N + C, fun n hn d hd => by have e := h (n - (N + C)) (d - c) (Nat.le_sub_of_add_le hd); rw [Nat.add_assoc, Nat.sub_add_cancel hn, Nat.sub_add_cancel (Nat.le_trans (Nat.le_add_left c X) hd)] at e; exact e⟩
theorem kh {X a b d : Nat} (hx : X ≤ d) (h : Nat.ble a b = true) : X + a ≤ d + b := Nat.add_le_add hx (Nat.le_of_ble_eq_true h)
theorem ml {a x y m j : Nat} (h : a ≤ m + x + j) : a ≤ m + (x + y) + j := Nat.le_trans h (Nat.add_le_add_right (Nat.add_le_add_left (Nat.le_add_right x y) m) j)
theorem sub_ex1 {C m : Nat} (h : C ≤ m) : ∃ e, m = e + C := ⟨m - C, (Nat.sub_add_cancel h).symm⟩
theorem sub_ex2 {N C m : Nat} (h : N + C ≤ m) : ∃ e, m = e + C ∧ N ≤ e := ⟨m - C, (Nat.sub_add_cancel (Nat.le_trans (Nat.le_add_left C N) h)).symm, Nat.le_sub_of_add_le h⟩
theorem mv {a m k : Nat} (h : a ≤ m) : a ≤ m + k := Nat.le_trans h (Nat.le_add_right m k)
theorem mw {a x m k : Nat} (h : a + x ≤ m) : a ≤ m + k := mv (Nat.le_trans (Nat.le_add_right a x) h)
theorem mx {a x m k : Nat} (h : x + a ≤ m) : a ≤ m + k := mv (Nat.le_trans (Nat.le_add_left a x) h)
theorem my {a x y m k : Nat} (h : a + x + y ≤ m) : a ≤ m + k := mw (Nat.le_trans (Nat.le_add_right (a + x) y) h)
theorem mz {a x y m k : Nat} (h : x + a + y ≤ m) : a ≤ m + k := mx (Nat.le_trans (Nat.le_add_right (x + a) y) h)
theorem lu {a b c : Nat} (h : a < b) (k : Nat.ble b c = true) : a < c := Nat.lt_of_lt_of_le h (Nat.le_of_ble_eq_true k)
theorem lv {a b c : Nat} (h : a ≤ b) (k : Nat.ble b c = true) : a ≤ c := Nat.le_trans h (Nat.le_of_ble_eq_true k)
theorem lw {a b c : Nat} (h : a ≤ b) (k : Nat.blt b c = true) : a < c := Nat.lt_of_le_of_lt h (Nat.le_of_ble_eq_true k)
theorem lx {a b c : Nat} (h : a < b) (k : Nat.ble (b + 1) c = true) : a + 1 < c := Nat.lt_of_lt_of_le (Nat.succ_lt_succ h) (Nat.le_of_ble_eq_true k)
theorem ly {a b c : Nat} (h : a ≤ b) (k : Nat.ble (b + 1) c = true) : a + 1 ≤ c := Nat.le_trans (Nat.succ_le_succ h) (Nat.le_of_ble_eq_true k)
theorem k_0 {j n : Nat} (h : j < n ∨ n + 2 < j) : n ≠ j := by omega
theorem k_1 {j n : Nat} (h : j < n ∨ n + 2 < j) : n + 1 ≠ j := by omega
theorem k_2 {j n : Nat} (h : j < n ∨ n + 2 < j) : n + 2 ≠ j := by omega
theorem k_3 {n : Nat} : n ≠ n + 1 := Nat.ne_of_lt (Nat.lt_succ_self n)
theorem k_4 {n : Nat} : n ≠ n + 2 := Nat.ne_of_lt (Nat.lt_add_of_pos_right (by decide))
theorem k_5 {n : Nat} : n + 1 ≠ n + 2 := Nat.ne_of_lt (Nat.lt_succ_self (n + 1))
theorem ab {a b n : Nat} (h : a + b ≤ n) : a ≤ n ∧ b ≤ n := ⟨Nat.le_trans (Nat.le_add_right a b) h, Nat.le_trans (Nat.le_add_left b a) h⟩
theorem rg_0 {i : Nat} : rangeFrom i 0 = [] := rfl
theorem rg_1 {i n : Nat} : rangeFrom i (n + 1) = .int i :: rangeFrom (i + 1) n := rfl
theorem ef_0 {i : Nat} : enumFrom i [] = [] := rfl
theorem ef_1 {i : Nat} {v : V} {r : List V} : enumFrom i (v :: r) = .tup [.int i, v] :: enumFrom (i + 1) r := rfl
theorem m5 {a c n k : Nat} (h : a ≤ c) (hk : Nat.ble c k = true) : a ≤ n + k := Nat.le_trans h (Nat.le_trans (Nat.le_of_ble_eq_true hk) (Nat.le_add_left k n))
theorem lt_step {j n : Nat} (h : j < n + 1) : j = n ∨ j < n := (Nat.lt_succ_iff_lt_or_eq.mp h).symm
theorem n2 {j : Nat} (h : j < 2) : j = 0 ∨ j = 1 := (lt_step h).elim .inr fun h => (lt_step h).elim .inl fun h => absurd h (Nat.not_lt_zero j)
theorem n3 {j : Nat} (h : j < 3) : j = 0 ∨ j = 1 ∨ j = 2 := (lt_step h).elim (fun e => .inr (.inr e)) fun h => (n2 h).imp id .inl
theorem n4 {j : Nat} (h : j < 4) : j = 0 ∨ j = 1 ∨ j = 2 ∨ j = 3 := (lt_step h).elim (fun e => .inr (.inr (.inr e))) fun h => (n3 h).imp id (Or.imp id .inl)
theorem n5 {j : Nat} (h : j < 5) : j = 0 ∨ j = 1 ∨ j = 2 ∨ j = 3 ∨ j = 4 := (lt_step h).elim (fun e => .inr (.inr (.inr (.inr e)))) fun h => (n4 h).imp id (Or.imp id (Or.imp id .inl))
theorem i2 {j : Nat} (h : (j : Int) < 2) : j = 0 ∨ j = 1 := n2 (Int.ofNat_lt.mp h)
theorem i3 {j : Nat} (h : (j : Int) < 3) : j = 0 ∨ j = 1 ∨ j = 2 := n3 (Int.ofNat_lt.mp h)
theorem i4 {j : Nat} (h : (j : Int) < 4) : j = 0 ∨ j = 1 ∨ j = 2 ∨ j = 3 := n4 (Int.ofNat_lt.mp h)
theorem i5 {j : Nat} (h : (j : Int) < 5) : j = 0 ∨ j = 1 ∨ j = 2 ∨ j = 3 ∨ j = 4 := n5 (Int.ofNat_lt.mp h)
theorem mj {a b c : Int} (h : a ≤ b) (k : decide (b ≤ c) = true) : a ≤ c := Int.le_trans h (of_decide_eq_true k)
theorem m7 {a c m x k : Nat} (h : Nat.ble c k = true) : a + c ≤ m + (x + a) + k := Nat.add_le_add (Nat.le_trans (Nat.le_add_left a x) (Nat.le_add_left _ m)) (Nat.le_of_ble_eq_true h)
theorem Ev.mono {K K' : Nat} {fd : DefRec} {μ : M} {vs : List V} {o : Out V} (h : Ev K fd μ vs o) (hk : K ≤ K') : Ev K' fd μ vs o := let ⟨N, h⟩ := h; ⟨N, fun n hn d hd => h n hn d (Nat.le_trans hk hd)⟩
end Mine
namespace Mine
theorem is_token_at : (tab "token_at").isSome = true := by rfl
theorem is_is_sign : (tab "is_sign").isSome = true := by rfl
theorem is_expect : (tab "expect").isSome = true := by rfl
noncomputable abbrev fd_token_at := fdOf "token_at" is_token_at
noncomputable abbrev fd_is_sign := fdOf "is_sign" is_is_sign
theorem cst_no_token : cst "NO_TOKEN" = some (.tup [.str "end", .str ""]) := by rfl
noncomputable def tokAt (toks : List V) (i : Nat) : V := (toks[i]?).getD (.tup [.str "end", .str ""])
theorem i_at {μ : M} {l : List V} {i : Nat} (h : i < l.length) (hi : i < 100000) : idxV μ (.lst l) (.int (i : Int)) = some l[i] := by
  rw [i_lst (by first | exact lu (by assumption) rfl | exact lv (by assumption) rfl | exact lw (by assumption) rfl | exact lx (by assumption) rfl | exact ly (by assumption) rfl | omega), seq_at h]; simp [h]
theorem e_token_at : ∀ n d μ (toks : List V) (i : Nat), toks.length ≤ maxLen → i < 100000 → evCall tab cst (n + 12) (d + 1) μ fd_token_at [.lst toks, .int i] = .ok (tokAt toks i) μ := by
  refine atFd (p := fun fd => ∀ n d μ (toks : List V) (i : Nat), toks.length ≤ maxLen → i < 100000 → evCall tab cst (n + 12) (d + 1) μ fd [.lst toks, .int i] = .ok (tokAt toks i) μ) ⟨_, rfl, ?_⟩
  intro n d μ toks i hz hi
  refine (enter (by rfl) rfl).trans ?_; dsimp only
  by_cases hlt : i < toks.length
  · simp -dsimp (disch := first | assumption | exact mi | exact jj rfl | exact ke | exact kc | exact kf | exact kg | exact kh ‹_› rfl | exact mv ‹_› | exact mw ‹_› | exact mx ‹_› | exact my ‹_› | exact mz ‹_› | exact lv ‹_› rfl | exact lw ‹_› rfl | exact lu ‹_› rfl | exact m5 ‹_› rfl | exact m7 rfl | exact mj ‹_› rfl | exact ml ke | exact ml (ml ke) | exact ml (ml kc) | exact ml (ml (ml ke)) | exact ml (ml (ml kc)) | decide +kernel | omega | (intros; contradiction)) [zipArgs, gy, gz, jk, jm, ki, kj, bq, bg, br, b7, b8, bt, bu, jn, km, ko, jo, g5, g6, bh, bv, bi, d7, aa, ag, a5, ah, au, ac, ai, a6, aj, av, ak, aw, ba, ax, a7, ae, al, a8, am, ay, af, ao, a9, aq, az, jp, bj, bw, bk, bn, bc, g7, g8, g9, jq, jr, kr, kt, bz, b4, b9, b5, ce, d9, cw, eb, cy, cz, ku, kx, ky, kz, ec, eg, c6, eh, ej, ek, er, h9, cg, et, ch, eu, ia, ey, jt, ju, c7, ci, cj, cn, ↓k7, ↓k8, ↓k9, ↓lb, ez, c8, fa, ↓lz, lf, jv, ib, lg, lh, lj, ll, lq, ls, c9, da, cq, dg, cr, b6, cu, l6, l7, l8, l9, jw, ic, jx, jy, ie, ig, n_radd', jz, ij, j0, j1, j2, j3, ik, fc, fe, fg, bp, be, dh, j4, cv, im, j5, j6, j7, io, ip, iq, ir, j8, iu, ma, mc, md, me, mm, mn, mr, mf, iv, fh, iw, iy, ↓iz, i0, fi, di, fj, dk, fk, fm, dl, fp, fq, i6, ms, mt, i7, ft, fu, dm, dq, i9, fv, dt, fw, du, ja, dw, fy, fz, jb, f0, f5, dy, dz, jc, f7, d3, f8, d4, jd, d5, f9, gn, mu, j9, gp, gq, as1', as2', as3', appendV, popV, je, mh, gs, gu, jf, d6, gv, jg, jh, ji, gw, gx, hz, hlt, hi, i_at, tokAt]
  · simp -dsimp (disch := first | assumption | exact mi | exact jj rfl | exact ke | exact kc | exact kf | exact kg | exact kh ‹_› rfl | exact mv ‹_› | exact mw ‹_› | exact mx ‹_› | exact my ‹_› | exact mz ‹_› | exact lv ‹_› rfl | exact lw ‹_› rfl | exact lu ‹_› rfl | exact m5 ‹_› rfl | exact m7 rfl | exact mj ‹_› rfl | exact ml ke | exact ml (ml ke) | exact ml (ml kc) | exact ml (ml (ml ke)) | exact ml (ml (ml kc)) | decide +kernel | omega | (intros; contradiction)) [zipArgs, gy, gz, jk, jm, ki, kj, bq, bg, br, b7, b8, bt, bu, jn, km, ko, jo, g5, g6, bh, bv, bi, d7, aa, ag, a5, ah, au, ac, ai, a6, aj, av, ak, aw, ba, ax, a7, ae, al, a8, am, ay, af, ao, a9, aq, az, jp, bj, bw, bk, bn, bc, g7, g8, g9, jq, jr, kr, kt, bz, b4, b9, b5, ce, d9, cw, eb, cy, cz, ku, kx, ky, kz, ec, eg, c6, eh, ej, ek, er, h9, cg, et, ch, eu, ia, ey, jt, ju, c7, ci, cj, cn, ↓k7, ↓k8, ↓k9, ↓lb, ez, c8, fa, ↓lz, lf, jv, ib, lg, lh, lj, ll, lq, ls, c9, da, cq, dg, cr, b6, cu, l6, l7, l8, l9, jw, ic, jx, jy, ie, ig, n_radd', jz, ij, j0, j1, j2, j3, ik, fc, fe, fg, bp, be, dh, j4, cv, im, j5, j6, j7, io, ip, iq, ir, j8, iu, ma, mc, md, me, mm, mn, mr, mf, iv, fh, iw, iy, ↓iz, i0, fi, di, fj, dk, fk, fm, dl, fp, fq, i6, ms, mt, i7, ft, fu, dm, dq, i9, fv, dt, fw, du, ja, dw, fy, fz, jb, f0, f5, dy, dz, jc, f7, d3, f8, d4, jd, d5, f9, gn, mu, j9, gp, gq, as1', as2', as3', appendV, popV, je, mh, gs, gu, jf, d6, gv, jg, jh, ji, gw, gx, hz, hlt, cst_no_token, tokAt]
end Mine
namespace Mine
abbrev sok (a : Str) : Prop := PyData.strOk a = true
theorem beq_dec {a b : Str} : (a == b) = decide (a = b) := by rw [Bool.eq_iff_iff, beq_iff_eq, decide_eq_true_eq]
theorem eqV_of {v w : V} {d e : PyData} {b : Bool} (hv : v.toPy = some d) (hw : w.toPy = some e) (c : d.canLay0 = true) (c' : e.canLay0 = true) (h : min d.depth e.depth ≤ 60) (r : PyData.eqv d e = b) : eqV v w = some b := by
  show (match v.toPy, w.toPy with
    | some d, some e => if d.canLay0 && e.canLay0 && decide (min d.depth e.depth ≤ 60) then some (PyData.eqv d e) else none
    | _, _ => none) = _
  rw [hv, hw, ← r]
  exact if_pos (by rw [c, c', decide_eq_true h]; rfl)
theorem eqV_str {a b : Str} (ha : sok a) (hb : sok b) : eqV (.str a) (.str b) = some (decide (a = b)) := eqV_of (d := .str a) (e := .str b) rfl rfl ha hb (Nat.zero_le 60) beq_dec
theorem and_t {a b : Bool} (h : a = true) (k : b = true) : (a && b) = true := by rw [h, k]; rfl
theorem eqV_tok {a b c d : Str} (ha : sok a) (hb : sok b) (hc : sok c) (hd : sok d) : eqV (.tup [.str a, .str b]) (.tup [.str c, .str d]) = some (decide (a = c ∧ b = d)) := by
  refine eqV_of (d := .tuple [.str a, .str b]) (e := .tuple [.str c, .str d]) rfl rfl (and_t ha (and_t hb rfl)) (and_t hc (and_t hd rfl)) (show 1 ≤ 60 by decide) ?_
  show ((a == c) && ((b == d) && true)) = _
  rw [Bool.and_true, beq_dec, beq_dec, Bool.decide_and]
end Mine
namespace Mine
noncomputable abbrev Tk := Str × Str
noncomputable def Tk.v (t : Tk) : V := .tup [.str t.1, .str t.2]
noncomputable def Tk.Ok (t : Tk) : Prop := sok t.1 ∧ sok t.2
noncomputable def tkAt (ts : List Tk) (i : Nat) : Tk := (ts[i]?).getD (("end" : Str), ("" : Str))
noncomputable def toks (ts : List Tk) : V := .lst (ts.map Tk.v)
noncomputable def OkTs (ts : List Tk) : Prop := ts.length ≤ 10000 ∧ ∀ t ∈ ts, t.Ok
theorem tkAt_ok {ts : List Tk} (h : OkTs ts) (i : Nat) : (tkAt ts i).Ok := by
  unfold tkAt
  cases e : ts[i]? with
  | none => exact ⟨by decide +kernel, by decide +kernel⟩
  | some t => exact h.2 t (List.mem_of_getElem? e)
theorem tokAt_map {ts : List Tk} {i : Nat} : tokAt (ts.map Tk.v) i = (tkAt ts i).v := by
  unfold tokAt tkAt
  rw [List.getElem?_map]
  cases ts[i]? <;> rfl
theorem t_at (n d : Nat) (μ : M) {ts : List Tk} (h : OkTs ts) {i : Nat} (hi : i < 100000) : evCall tab cst (n + 12) (d + 1) μ fd_token_at [toks ts, .int i] = .ok (tkAt ts i).v μ := by
  unfold toks
  rw [e_token_at _ _ _ _ _ (by rw [List.length_map]; exact Nat.le_trans h.1 (by decide)) hi, tokAt_map]
theorem tab_token_at : tab "token_at" = some fd_token_at := tab_fd _
theorem sign_ok : sok "sign" := by decide +kernel
theorem e_is_sign : ∀ n d μ (ts : List Tk) (i : Nat) (x : Str), OkTs ts → i < 100000 → sok x → evCall tab cst (n + 20) (d + 2) μ fd_is_sign [toks ts, .int i, .str x] = .ok (.bool (decide (tkAt ts i = (("sign" : Str), x)))) μ := by
  refine atFd (p := fun fd => ∀ n d μ (ts : List Tk) (i : Nat) (x : Str), OkTs ts → i < 100000 → sok x → evCall tab cst (n + 20) (d + 2) μ fd [toks ts, .int i, .str x] = .ok (.bool (decide (tkAt ts i = (("sign" : Str), x)))) μ) ⟨_, rfl, ?_⟩
  intro n d μ ts i x h hi hx
  refine (enter (by rfl) rfl).trans ?_; dsimp only
  have e1 := fun n => t_at n d μ h hi
  have hk := tkAt_ok h i
  have e2 : eqV (tkAt ts i).v (.tup [.str "sign", .str x]) = some (decide (tkAt ts i = (("sign" : Str), x))) := by
    unfold Tk.v
    rw [eqV_tok hk.1 hk.2 sign_ok hx]
    congr 1
    exact decide_eq_decide.mpr ⟨fun q => Prod.ext q.1 q.2, fun q => by rw [q]; exact ⟨rfl, rfl⟩⟩
  simp -dsimp (disch := first | assumption | exact mi | exact jj rfl | exact ke | exact kc | exact kf | exact kg | exact kh ‹_› rfl | exact mv ‹_› | exact mw ‹_› | exact mx ‹_› | exact my ‹_› | exact mz ‹_› | exact lv ‹_› rfl | exact lw ‹_› rfl | exact lu ‹_› rfl | exact m5 ‹_› rfl | exact m7 rfl | exact mj ‹_› rfl | exact ml ke | exact ml (ml ke) | exact ml (ml kc) | exact ml (ml (ml ke)) | exact ml (ml (ml kc)) | decide +kernel | omega | (intros; contradiction)) [zipArgs, gy, gz, jk, jm, ki, kj, bq, bg, br, b7, b8, bt, bu, jn, km, ko, jo, g5, g6, bh, bv, bi, d7, aa, ag, a5, ah, au, ac, ai, a6, aj, av, ak, aw, ba, ax, a7, ae, al, a8, am, ay, af, ao, a9, aq, az, jp, bj, bw, bk, bn, bc, g7, g8, g9, jq, jr, kr, kt, bz, b4, b9, b5, ce, d9, cw, eb, cy, cz, ku, kx, ky, kz, ec, eg, c6, eh, ej, ek, er, h9, cg, et, ch, eu, ia, ey, jt, ju, c7, ci, cj, cn, ↓k7, ↓k8, ↓k9, ↓lb, ez, c8, fa, ↓lz, lf, jv, ib, lg, lh, lj, ll, lq, ls, c9, da, cq, dg, cr, b6, cu, l6, l7, l8, l9, jw, ic, jx, jy, ie, ig, n_radd', jz, ij, j0, j1, j2, j3, ik, fc, fe, fg, bp, be, dh, j4, cv, im, j5, j6, j7, io, ip, iq, ir, j8, iu, ma, mc, md, me, mm, mn, mr, mf, iv, fh, iw, iy, ↓iz, i0, fi, di, fj, dk, fk, fm, dl, fp, fq, i6, ms, mt, i7, ft, fu, dm, dq, i9, fv, dt, fw, du, ja, dw, fy, fz, jb, f0, f5, dy, dz, jc, f7, d3, f8, d4, jd, d5, f9, gn, mu, j9, gp, gq, as1', as2', as3', appendV, popV, je, mh, gs, gu, jf, d6, gv, jg, jh, ji, gw, gx, tab_token_at, e1, e2]
end Mine
namespace Mine
theorem is_functions : (tab "functions").isSome = true := by rfl
noncomputable abbrev fd_functions := fdOf "functions" is_functions
noncomputable def words : List Str := (Str.ofString "ABS").cps.toList.map fun _ => "A"
theorem is_law_numbers : (tab "_law_numbers").isSome = true := by rfl
noncomputable abbrev fd_law_numbers := fdOf "_law_numbers" is_law_numbers
theorem is_law_levels : (tab "_law_levels").isSome = true := by rfl
noncomputable abbrev fd_law_levels := fdOf "_law_levels" is_law_levels
theorem is_law_words : (tab "_law_words").isSome = true := by rfl
noncomputable abbrev fd_law_words := fdOf "_law_words" is_law_words
theorem is_number_tree : (tab "number_tree").isSome = true := by rfl
noncomputable abbrev fd_number_tree := fdOf "number_tree" is_number_tree
noncomputable def nums : List (String × V) := [("12", .tup [.str "whole", .int 12]), ("0", .tup [.str "whole", .int 0]), ("7%", .tup [.str "whole", .int 7]), ("1.50", .tup [.str "decimal", .tup [.int 15, .int (-1)]]), ("2E3", .tup [.str "decimal", .tup [.int 2, .int 3]]),
  (".5", .tup [.str "decimal", .tup [.int 5, .int (-1)]]), ("40000", .tup [.str "whole", .int 40000]), ("3!", .tup [.str "decimal", .tup [.int 3, .int 0]]), ("6.25E-2", .tup [.str "decimal", .tup [.int 625, .int (-4)]]), ("0.0", .tup [.str "decimal", .tup [.int 0, .int 0]])]
theorem e_law_numbers (μ : M) : Ev 2 fd_law_numbers μ [] (.ok (.lst (nums.map fun p => .tup [.str p.1, p.2])) μ) := ev_of (N := 100) (fun n d => by kernel_rfl)
theorem e_number_tree0 (μ : M) : Ev 20 fd_number_tree μ [.str "12"] (.ok (.tup [.str "whole", .int 12]) μ) := ev_of (N := 200) (fun n d => by kernel_rfl)
theorem e_number_tree3 (μ : M) : Ev 20 fd_number_tree μ [.str "1.50"] (.ok (.tup [.str "decimal", .tup [.int 15, .int (-1)]]) μ) := ev_of (N := 200) (fun n d => by kernel_rfl)
end Mine
namespace Mine
theorem ev_at {ts : List Tk} (h : OkTs ts) {i : Nat} (hi : i < 100000) (μ : M) : ∀ n, 12 ≤ n → ∀ d, 1 ≤ d → evCall tab cst n d μ fd_token_at [toks ts, .int i] = .ok (tkAt ts i).v μ := fun n hn d hd => by
  first | obtain ⟨n, rfl, hq_n⟩ := sub_ex2 (C := 12) hn | obtain ⟨n, rfl⟩ := sub_ex1 (C := 12) hn | obtain ⟨n, rfl⟩ : ∃ m, n = m + 12 := ⟨n - 12, by omega⟩
  first | obtain ⟨d, rfl, hq_d⟩ := sub_ex2 (C := 1) hd | obtain ⟨d, rfl⟩ := sub_ex1 (C := 1) hd | obtain ⟨d, rfl⟩ : ∃ m, d = m + 1 := ⟨d - 1, by omega⟩
  exact t_at n d μ h hi
theorem ev_sign {ts : List Tk} (h : OkTs ts) {i : Nat} (hi : i < 100000) {x : Str} (hx : sok x) (μ : M) : ∀ n, 20 ≤ n → ∀ d, 2 ≤ d → evCall tab cst n d μ fd_is_sign [toks ts, .int i, .str x] = .ok (.bool (decide (tkAt ts i = (("sign" : Str), x)))) μ := fun n hn d hd => by
  first | obtain ⟨n, rfl, hq_n⟩ := sub_ex2 (C := 20) hn | obtain ⟨n, rfl⟩ := sub_ex1 (C := 20) hn | obtain ⟨n, rfl⟩ : ∃ m, n = m + 20 := ⟨n - 20, by omega⟩
  first | obtain ⟨d, rfl, hq_d⟩ := sub_ex2 (C := 2) hd | obtain ⟨d, rfl⟩ := sub_ex1 (C := 2) hd | obtain ⟨d, rfl⟩ : ∃ m, d = m + 2 := ⟨d - 2, by omega⟩
  exact e_is_sign n d μ ts i x h hi hx
theorem tab_is_sign : tab "is_sign" = some fd_is_sign := tab_fd _
theorem tab_BasicError : tab "BasicError" = none := by rfl
noncomputable abbrev fd_expect := fdOf "expect" is_expect
theorem tab_expect : tab "expect" = some fd_expect := tab_fd _
theorem e_expect {ts : List Tk} (h : OkTs ts) {i : Nat} (hi : i < 10000) {x : Str} (hx : sok x) (μ : M) : Ev 3 fd_expect μ [toks ts, .int i, .str x] (if tkAt ts i = (("sign" : Str), x) then .ok (.int (i + 1)) μ else .exc "SN" μ) := by
  refine atFd (p := fun fd => Ev 3 fd μ [toks ts, .int i, .str x] (if tkAt ts i = (("sign" : Str), x) then .ok (.int (i + 1)) μ else .exc "SN" μ)) ⟨_, rfl, ?_⟩
  have e1 := ev_sign h (show i < 100000 by first | exact lu (by assumption) rfl | exact lv (by assumption) rfl | exact lw (by assumption) rfl | exact lx (by assumption) rfl | exact ly (by assumption) rfl | omega) hx μ
  refine ⟨100, fun n hn d hd => ?_⟩
  first | obtain ⟨n, rfl, hq_n⟩ := sub_ex2 (C := 100) hn | obtain ⟨n, rfl⟩ := sub_ex1 (C := 100) hn | obtain ⟨n, rfl⟩ : ∃ m, n = m + 100 := ⟨n - 100, by omega⟩
  first | obtain ⟨d, rfl, hq_d⟩ := sub_ex2 (C := 3) hd | obtain ⟨d, rfl⟩ := sub_ex1 (C := 3) hd | obtain ⟨d, rfl⟩ : ∃ m, d = m + 3 := ⟨d - 3, by omega⟩
  refine (enter (by rfl) rfl).trans ?_; dsimp only
  by_cases q : tkAt ts i = (("sign" : Str), x)
  · simp -dsimp (disch := first | assumption | exact mi | exact jj rfl | exact ke | exact kc | exact kf | exact kg | exact kh ‹_› rfl | exact mv ‹_› | exact mw ‹_› | exact mx ‹_› | exact my ‹_› | exact mz ‹_› | exact lv ‹_› rfl | exact lw ‹_› rfl | exact lu ‹_› rfl | exact m5 ‹_› rfl | exact m7 rfl | exact mj ‹_› rfl | exact ml ke | exact ml (ml ke) | exact ml (ml kc) | exact ml (ml (ml ke)) | exact ml (ml (ml kc)) | decide +kernel | omega | (intros; contradiction)) [zipArgs, gy, gz, jk, jm, ki, kj, bq, bg, br, b7, b8, bt, bu, jn, km, ko, jo, g5, g6, bh, bv, bi, d7, aa, ag, a5, ah, au, ac, ai, a6, aj, av, ak, aw, ba, ax, a7, ae, al, a8, am, ay, af, ao, a9, aq, az, jp, bj, bw, bk, bn, bc, g7, g8, g9, jq, jr, kr, kt, bz, b4, b9, b5, ce, d9, cw, eb, cy, cz, ku, kx, ky, kz, ec, eg, c6, eh, ej, ek, er, h9, cg, et, ch, eu, ia, ey, jt, ju, c7, ci, cj, cn, ↓k7, ↓k8, ↓k9, ↓lb, ez, c8, fa, ↓lz, lf, jv, ib, lg, lh, lj, ll, lq, ls, c9, da, cq, dg, cr, b6, cu, l6, l7, l8, l9, jw, ic, jx, jy, ie, ig, n_radd', jz, ij, j0, j1, j2, j3, ik, fc, fe, fg, bp, be, dh, j4, cv, im, j5, j6, j7, io, ip, iq, ir, j8, iu, ma, mc, md, me, mm, mn, mr, mf, iv, fh, iw, iy, ↓iz, i0, fi, di, fj, dk, fk, fm, dl, fp, fq, i6, ms, mt, i7, ft, fu, dm, dq, i9, fv, dt, fw, du, ja, dw, fy, fz, jb, f0, f5, dy, dz, jc, f7, d3, f8, d4, jd, d5, f9, gn, mu, j9, gp, gq, as1', as2', as3', appendV, popV, je, mh, gs, gu, jf, d6, gv, jg, jh, ji, gw, gx, tab_is_sign, e1, q]
  · simp -dsimp (disch := first | assumption | exact mi | exact jj rfl | exact ke | exact kc | exact kf | exact kg | exact kh ‹_› rfl | exact mv ‹_› | exact mw ‹_› | exact mx ‹_› | exact my ‹_› | exact mz ‹_› | exact lv ‹_› rfl | exact lw ‹_› rfl | exact lu ‹_› rfl | exact m5 ‹_› rfl | exact m7 rfl | exact mj ‹_› rfl | exact ml ke | exact ml (ml ke) | exact ml (ml kc) | exact ml (ml (ml ke)) | exact ml (ml (ml kc)) | decide +kernel | omega | (intros; contradiction)) [zipArgs, gy, gz, jk, jm, ki, kj, bq, bg, br, b7, b8, bt, bu, jn, km, ko, jo, g5, g6, bh, bv, bi, d7, aa, ag, a5, ah, au, ac, ai, a6, aj, av, ak, aw, ba, ax, a7, ae, al, a8, am, ay, af, ao, a9, aq, az, jp, bj, bw, bk, bn, bc, g7, g8, g9, jq, jr, kr, kt, bz, b4, b9, b5, ce, d9, cw, eb, cy, cz, ku, kx, ky, kz, ec, eg, c6, eh, ej, ek, er, h9, cg, et, ch, eu, ia, ey, jt, ju, c7, ci, cj, cn, ↓k7, ↓k8, ↓k9, ↓lb, ez, c8, fa, ↓lz, lf, jv, ib, lg, lh, lj, ll, lq, ls, c9, da, cq, dg, cr, b6, cu, l6, l7, l8, l9, jw, ic, jx, jy, ie, ig, n_radd', jz, ij, j0, j1, j2, j3, ik, fc, fe, fg, bp, be, dh, j4, cv, im, j5, j6, j7, io, ip, iq, ir, j8, iu, ma, mc, md, me, mm, mn, mr, mf, iv, fh, iw, iy, ↓iz, i0, fi, di, fj, dk, fk, fm, dl, fp, fq, i6, ms, mt, i7, ft, fu, dm, dq, i9, fv, dt, fw, du, ja, dw, fy, fz, jb, f0, f5, dy, dz, jc, f7, d3, f8, d4, jd, d5, f9, gn, mu, j9, gp, gq, as1', as2', as3', appendV, popV, je, mh, gs, gu, jf, d6, gv, jg, jh, ji, gw, gx, tab_is_sign, e1, q]
end Mine
namespace Mine
structure Fr where
  kind : Str
  word : Str
  args : List V
  operands : List V
  ops : List (Str × Int)
noncomputable def encOp (p : Str × Int) : V := .tup [.str p.1, .int p.2]
structure FrAt (μ : M) (n : Nat) (f : Fr) : Prop where
  args : μ[n]? = some f.args
  opnds : μ[n + 1]? = some f.operands.reverse
  oprs : μ[n + 2]? = some (f.ops.map encOp).reverse
noncomputable def Fr.v (f : Fr) (n : Nat) : V := .level (.str f.kind) (.str f.word) n
noncomputable def Keep (n : Nat) (μ μ' : M) : Prop := μ'.length = μ.length ∧ ∀ j, j < n ∨ n + 2 < j → μ'[j]? = μ[j]?
theorem Keep.refl {n : Nat} {μ : M} : Keep n μ μ := ⟨rfl, fun _ _ => rfl⟩
theorem Keep.trans {n : Nat} {μ μ' μ'' : M} (a : Keep n μ μ') (b : Keep n μ' μ'') : Keep n μ μ'' := ⟨b.1.trans a.1, fun j h => (b.2 j h).trans (a.2 j h)⟩
inductive Join (s : Int) : List V → List (Str × Int) → List V → List (Str × Int) → Prop
  | nil (os : List V) : Join s os [] os []
  | stop {os : List V} {op : Str} {p : Int} {r : List (Str × Int)} (h : p < s) : Join s os ((op, p) :: r) os ((op, p) :: r)
  | un {x : V} {os os' : List V} {op : Str} {p : Int} {r r' : List (Str × Int)} (h : s ≤ p) (hop : op = "neg" ∨ op = "not") (k : Join s (.tup [.str op, x] :: os) r os' r') : Join s (x :: os) ((op, p) :: r) os' r'
  | bin {x y : V} {os os' : List V} {op : Str} {p : Int} {r r' : List (Str × Int)} (h : s ≤ p) (h1 : op ≠ "neg") (h2 : op ≠ "not") (h3 : sok op) (k : Join s (.tup [.str "two", .str op, y, x] :: os) r os' r') : Join s (x :: y :: os) ((op, p) :: r) os' r'
noncomputable def whileOf : List Stmt → Option (Expr × List Stmt)
  | s :: r => (match sv s with
    | .wh t b => some (t, b)
    | _ => whileOf r)
  | [] => none
theorem is_join_up : (tab "join_up").isSome = true := by rfl
noncomputable abbrev fd_join_up := fdOf "join_up" is_join_up
theorem tab_join_up : tab "join_up" = some fd_join_up := tab_fd _
theorem dl2 {α : Type} {l : List α} {x y : α} : (l ++ [y, x]).dropLast = l ++ [y] := by
  rw [show l ++ [y, x] = (l ++ [y]) ++ [x] by simp, List.dropLast_concat]
theorem seq_last {n : Nat} : seqIndex? (-1) (n + 1) = some n := by
  unfold seqIndex?
  simp
  omega
noncomputable abbrev JoinLoop (fd : DefRec) : Prop := ∀ t b, whileOf fd.body = some (t, b) → ∀ {s : Int} {os os' : List V} {ops ops' : List (Str × Int)}, Join s os ops os' ops' → ∀ {ρ : Rho} {μ : M} {k w : V} {n : Nat},
    ρ.lookup ("level" : Str) = some (.level k w n) → ρ.lookup ("strength" : Str) = some (.int s) → μ[n + 1]? = some os.reverse → μ[n + 2]? = some (ops.map encOp).reverse → os.length ≤ 20000 → ops.length ≤ 20000 →
    ∃ N ρ' μ', (∀ m, N ≤ m → ∀ d, evW tab cst m d fd.scope ρ μ t b = .ok (.next, ρ') μ') ∧ Keep n μ μ' ∧ μ'[n]? = μ[n]? ∧ μ'[n + 1]? = some os'.reverse ∧ μ'[n + 2]? = some (ops'.map encOp).reverse
theorem join_loop : JoinLoop fd_join_up := by
  refine atFd (p := JoinLoop) ⟨_, rfl, ?_⟩
  intro t b ht
  replace ht : some (_, _) = some (t, b) := ht
  cases ht
  intro s os os' ops ops' j
  induction j with
  | nil os =>
    intro ρ μ k w n h1 h2 h3 h4 h5 h6
    refine ⟨50, ρ, μ, fun m hm d => ?_, .refl, rfl, h3, h4⟩
    first | obtain ⟨m, rfl, hq_m⟩ := sub_ex2 (C := 50) hm | obtain ⟨m, rfl⟩ := sub_ex1 (C := 50) hm | obtain ⟨m, rfl⟩ : ∃ e, m = e + 50 := ⟨m - 50, by omega⟩
    rw [r_w]
    simp at h4
    simp -dsimp (disch := first | assumption | exact mi | exact jj rfl | exact ke | exact kc | exact kf | exact kg | exact kh ‹_› rfl | exact mv ‹_› | exact mw ‹_› | exact mx ‹_› | exact my ‹_› | exact mz ‹_› | exact lv ‹_› rfl | exact lw ‹_› rfl | exact lu ‹_› rfl | exact m5 ‹_› rfl | exact m7 rfl | exact mj ‹_› rfl | exact ml ke | exact ml (ml ke) | exact ml (ml kc) | exact ml (ml (ml ke)) | exact ml (ml (ml kc)) | decide +kernel | omega | (intros; contradiction)) [zipArgs, gy, gz, jk, jm, ki, kj, bq, bg, br, b7, b8, bt, bu, jn, km, ko, jo, g5, g6, bh, bv, bi, d7, aa, ag, a5, ah, au, ac, ai, a6, aj, av, ak, aw, ba, ax, a7, ae, al, a8, am, ay, af, ao, a9, aq, az, jp, bj, bw, bk, bn, bc, g7, g8, g9, jq, jr, kr, kt, bz, b4, b9, b5, ce, d9, cw, eb, cy, cz, ku, kx, ky, kz, ec, eg, c6, eh, ej, ek, er, h9, cg, et, ch, eu, ia, ey, jt, ju, c7, ci, cj, cn, ↓k7, ↓k8, ↓k9, ↓lb, ez, c8, fa, ↓lz, lf, jv, ib, lg, lh, lj, ll, lq, ls, c9, da, cq, dg, cr, b6, cu, l6, l7, l8, l9, jw, ic, jx, jy, ie, ig, n_radd', jz, ij, j0, j1, j2, j3, ik, fc, fe, fg, bp, be, dh, j4, cv, im, j5, j6, j7, io, ip, iq, ir, j8, iu, ma, mc, md, me, mm, mn, mr, mf, iv, fh, iw, iy, ↓iz, i0, fi, di, fj, dk, fk, fm, dl, fp, fq, i6, ms, mt, i7, ft, fu, dm, dq, i9, fv, dt, fw, du, ja, dw, fy, fz, jb, f0, f5, dy, dz, jc, f7, d3, f8, d4, jd, d5, f9, gn, mu, j9, gp, gq, as1', as2', as3', appendV, popV, je, mh, gs, gu, jf, d6, gv, jg, jh, ji, gw, gx, h1, h2, h3, h4]
  | @stop os op p r h =>
    intro ρ μ k w n h1 h2 h3 h4 h5 h6
    refine ⟨50, ρ, μ, fun m hm d => ?_, .refl, rfl, h3, h4⟩
    first | obtain ⟨m, rfl, hq_m⟩ := sub_ex2 (C := 50) hm | obtain ⟨m, rfl⟩ := sub_ex1 (C := 50) hm | obtain ⟨m, rfl⟩ : ∃ e, m = e + 50 := ⟨m - 50, by omega⟩
    rw [r_w]
    simp at h4 h6
    simp -dsimp (disch := first | assumption | exact mi | exact jj rfl | exact ke | exact kc | exact kf | exact kg | exact kh ‹_› rfl | exact mv ‹_› | exact mw ‹_› | exact mx ‹_› | exact my ‹_› | exact mz ‹_› | exact lv ‹_› rfl | exact lw ‹_› rfl | exact lu ‹_› rfl | exact m5 ‹_› rfl | exact m7 rfl | exact mj ‹_› rfl | exact ml ke | exact ml (ml ke) | exact ml (ml kc) | exact ml (ml (ml ke)) | exact ml (ml (ml kc)) | decide +kernel | omega | (intros; contradiction)) [zipArgs, gy, gz, jk, jm, ki, kj, bq, bg, br, b7, b8, bt, bu, jn, km, ko, jo, g5, g6, bh, bv, bi, d7, aa, ag, a5, ah, au, ac, ai, a6, aj, av, ak, aw, ba, ax, a7, ae, al, a8, am, ay, af, ao, a9, aq, az, jp, bj, bw, bk, bn, bc, g7, g8, g9, jq, jr, kr, kt, bz, b4, b9, b5, ce, d9, cw, eb, cy, cz, ku, kx, ky, kz, ec, eg, c6, eh, ej, ek, er, h9, cg, et, ch, eu, ia, ey, jt, ju, c7, ci, cj, cn, ↓k7, ↓k8, ↓k9, ↓lb, ez, c8, fa, ↓lz, lf, jv, ib, lg, lh, lj, ll, lq, ls, c9, da, cq, dg, cr, b6, cu, l6, l7, l8, l9, jw, ic, jx, jy, ie, ig, n_radd', jz, ij, j0, j1, j2, j3, ik, fc, fe, fg, bp, be, dh, j4, cv, im, j5, j6, j7, io, ip, iq, ir, j8, iu, ma, mc, md, me, mm, mn, mr, mf, iv, fh, iw, iy, ↓iz, i0, fi, di, fj, dk, fk, fm, dl, fp, fq, i6, ms, mt, i7, ft, fu, dm, dq, i9, fv, dt, fw, du, ja, dw, fy, fz, jb, f0, f5, dy, dz, jc, f7, d3, f8, d4, jd, d5, f9, gn, mu, j9, gp, gq, as1', as2', as3', appendV, popV, je, mh, gs, gu, jf, d6, gv, jg, jh, ji, gw, gx, h1, h2, h3, h4, seq_last, encOp, show ¬ s ≤ p by omega]
  | @un x os os' op p r r' h hop k ih =>
    intro ρ μ k w n h1 h2 h3 h4 h5 h6
    have l1 := (List.getElem?_eq_some_iff.mp h3).1
    have l2 := (List.getElem?_eq_some_iff.mp h4).1
    simp at h3 h4 h5 h6
    obtain ⟨N, ρ', μ', e, k1, k2, k3, k4⟩ := ih (ρ := (ρ.set "op" (.str op)).set "last" x) (μ := (μ.set (n + 2) (r.map encOp).reverse).set (n + 1) (os.reverse ++ [.tup [.str op, x]])) (k := k) (w := w) (n := n)
      (by simp [lookup_set, h1, ofString_inj]) (by simp [lookup_set, h2, ofString_inj]) (by simp [l1]) (by simp [l2]) (by simp; omega) (by first | exact lu (by assumption) rfl | exact lv (by assumption) rfl | exact lw (by assumption) rfl | exact lx (by assumption) rfl | exact ly (by assumption) rfl | omega)
    refine ⟨N + 50, ρ', μ', fun m hm d => ?_, ⟨by rw [k1.1]; simp, fun j hj => by rw [k1.2 j hj]; rw [List.getElem?_set_ne (by first | exact k_0 (by assumption) | exact k_1 (by assumption) | exact k_2 (by assumption) | exact k_3 | exact k_4 | exact k_5 | exact k_3.symm | exact k_4.symm | exact k_5.symm | omega), List.getElem?_set_ne (by first | exact k_0 (by assumption) | exact k_1 (by assumption) | exact k_2 (by assumption) | exact k_3 | exact k_4 | exact k_5 | exact k_3.symm | exact k_4.symm | exact k_5.symm | omega)]⟩, by rw [k2, List.getElem?_set_ne (by first | exact k_0 (by assumption) | exact k_1 (by assumption) | exact k_2 (by assumption) | exact k_3 | exact k_4 | exact k_5 | exact k_3.symm | exact k_4.symm | exact k_5.symm | omega), List.getElem?_set_ne (by first | exact k_0 (by assumption) | exact k_1 (by assumption) | exact k_2 (by assumption) | exact k_3 | exact k_4 | exact k_5 | exact k_3.symm | exact k_4.symm | exact k_5.symm | omega)], k3, k4⟩
    clear l1 l2
    first | obtain ⟨m, rfl, hq_m⟩ := sub_ex2 (C := 50) hm | obtain ⟨m, rfl⟩ := sub_ex1 (C := 50) hm | obtain ⟨m, rfl⟩ : ∃ e, m = e + 50 := ⟨m - 50, by omega⟩
    rw [r_w]
    have s1 : sok "neg" := by decide +kernel
    have s2 : sok "not" := by decide +kernel
    have s3 : sok op := by rcases hop with rfl | rfl <;> assumption
    have hd : decide (op = ("neg" : Str)) = true ∨ (decide (op = ("neg" : Str)) = false ∧ decide (op = ("not" : Str)) = true) := by
      rcases hop with rfl | rfl
      · exact .inl (by simp)
      · exact .inr ⟨by decide +kernel, by simp⟩
    rcases hd with q | ⟨q, q'⟩
    · simp -dsimp (disch := first | assumption | exact mi | exact jj rfl | exact ke | exact kc | exact kf | exact kg | exact kh ‹_› rfl | exact mv ‹_› | exact mw ‹_› | exact mx ‹_› | exact my ‹_› | exact mz ‹_› | exact lv ‹_› rfl | exact lw ‹_› rfl | exact lu ‹_› rfl | exact m5 ‹_› rfl | exact m7 rfl | exact mj ‹_› rfl | exact ml ke | exact ml (ml ke) | exact ml (ml kc) | exact ml (ml (ml ke)) | exact ml (ml (ml kc)) | decide +kernel | omega | (intros; contradiction)) [zipArgs, gy, gz, jk, jm, ki, kj, bq, bg, br, b7, b8, bt, bu, jn, km, ko, jo, g5, g6, bh, bv, bi, d7, aa, ag, a5, ah, au, ac, ai, a6, aj, av, ak, aw, ba, ax, a7, ae, al, a8, am, ay, af, ao, a9, aq, az, jp, bj, bw, bk, bn, bc, g7, g8, g9, jq, jr, kr, kt, bz, b4, b9, b5, ce, d9, cw, eb, cy, cz, ku, kx, ky, kz, ec, eg, c6, eh, ej, ek, er, h9, cg, et, ch, eu, ia, ey, jt, ju, c7, ci, cj, cn, ↓k7, ↓k8, ↓k9, ↓lb, ez, c8, fa, ↓lz, lf, jv, ib, lg, lh, lj, ll, lq, ls, c9, da, cq, dg, cr, b6, cu, l6, l7, l8, l9, jw, ic, jx, jy, ie, ig, n_radd', jz, ij, j0, j1, j2, j3, ik, fc, fe, fg, bp, be, dh, j4, cv, im, j5, j6, j7, io, ip, iq, ir, j8, iu, ma, mc, md, me, mm, mn, mr, mf, iv, fh, iw, iy, ↓iz, i0, fi, di, fj, dk, fk, fm, dl, fp, fq, i6, ms, mt, i7, ft, fu, dm, dq, i9, fv, dt, fw, du, ja, dw, fy, fz, jb, f0, f5, dy, dz, jc, f7, d3, f8, d4, jd, d5, f9, gn, mu, j9, gp, gq, as1', as2', as3', appendV, popV, je, mh, gs, gu, jf, d6, gv, jg, jh, ji, gw, gx, h1, h2, h3, h4, seq_last, encOp, h, eqV_str, q, e]
    · simp -dsimp (disch := first | assumption | exact mi | exact jj rfl | exact ke | exact kc | exact kf | exact kg | exact kh ‹_› rfl | exact mv ‹_› | exact mw ‹_› | exact mx ‹_› | exact my ‹_› | exact mz ‹_› | exact lv ‹_› rfl | exact lw ‹_› rfl | exact lu ‹_› rfl | exact m5 ‹_› rfl | exact m7 rfl | exact mj ‹_› rfl | exact ml ke | exact ml (ml ke) | exact ml (ml kc) | exact ml (ml (ml ke)) | exact ml (ml (ml kc)) | decide +kernel | omega | (intros; contradiction)) [zipArgs, gy, gz, jk, jm, ki, kj, bq, bg, br, b7, b8, bt, bu, jn, km, ko, jo, g5, g6, bh, bv, bi, d7, aa, ag, a5, ah, au, ac, ai, a6, aj, av, ak, aw, ba, ax, a7, ae, al, a8, am, ay, af, ao, a9, aq, az, jp, bj, bw, bk, bn, bc, g7, g8, g9, jq, jr, kr, kt, bz, b4, b9, b5, ce, d9, cw, eb, cy, cz, ku, kx, ky, kz, ec, eg, c6, eh, ej, ek, er, h9, cg, et, ch, eu, ia, ey, jt, ju, c7, ci, cj, cn, ↓k7, ↓k8, ↓k9, ↓lb, ez, c8, fa, ↓lz, lf, jv, ib, lg, lh, lj, ll, lq, ls, c9, da, cq, dg, cr, b6, cu, l6, l7, l8, l9, jw, ic, jx, jy, ie, ig, n_radd', jz, ij, j0, j1, j2, j3, ik, fc, fe, fg, bp, be, dh, j4, cv, im, j5, j6, j7, io, ip, iq, ir, j8, iu, ma, mc, md, me, mm, mn, mr, mf, iv, fh, iw, iy, ↓iz, i0, fi, di, fj, dk, fk, fm, dl, fp, fq, i6, ms, mt, i7, ft, fu, dm, dq, i9, fv, dt, fw, du, ja, dw, fy, fz, jb, f0, f5, dy, dz, jc, f7, d3, f8, d4, jd, d5, f9, gn, mu, j9, gp, gq, as1', as2', as3', appendV, popV, je, mh, gs, gu, jf, d6, gv, jg, jh, ji, gw, gx, h1, h2, h3, h4, seq_last, encOp, h, eqV_str, q, q', e]
  | @bin x y os os' op p r r' h hn1 hn2 s3 k ih =>
    intro ρ μ k w n h1 h2 h3 h4 h5 h6
    have l1 := (List.getElem?_eq_some_iff.mp h3).1
    have l2 := (List.getElem?_eq_some_iff.mp h4).1
    simp at h3 h4 h5 h6
    obtain ⟨N, ρ', μ', e, k1, k2, k3, k4⟩ := ih (ρ := (ρ.set "op" (.str op)).set "last" x) (μ := (μ.set (n + 2) (r.map encOp).reverse).set (n + 1) (os.reverse ++ [.tup [.str "two", .str op, y, x]])) (k := k) (w := w) (n := n)
      (by simp [lookup_set, h1, ofString_inj]) (by simp [lookup_set, h2, ofString_inj]) (by simp [l1]) (by simp [l2]) (by simp; omega) (by first | exact lu (by assumption) rfl | exact lv (by assumption) rfl | exact lw (by assumption) rfl | exact lx (by assumption) rfl | exact ly (by assumption) rfl | omega)
    refine ⟨N + 50, ρ', μ', fun m hm d => ?_, ⟨by rw [k1.1]; simp, fun j hj => by rw [k1.2 j hj]; rw [List.getElem?_set_ne (by first | exact k_0 (by assumption) | exact k_1 (by assumption) | exact k_2 (by assumption) | exact k_3 | exact k_4 | exact k_5 | exact k_3.symm | exact k_4.symm | exact k_5.symm | omega), List.getElem?_set_ne (by first | exact k_0 (by assumption) | exact k_1 (by assumption) | exact k_2 (by assumption) | exact k_3 | exact k_4 | exact k_5 | exact k_3.symm | exact k_4.symm | exact k_5.symm | omega)]⟩, by rw [k2, List.getElem?_set_ne (by first | exact k_0 (by assumption) | exact k_1 (by assumption) | exact k_2 (by assumption) | exact k_3 | exact k_4 | exact k_5 | exact k_3.symm | exact k_4.symm | exact k_5.symm | omega), List.getElem?_set_ne (by first | exact k_0 (by assumption) | exact k_1 (by assumption) | exact k_2 (by assumption) | exact k_3 | exact k_4 | exact k_5 | exact k_3.symm | exact k_4.symm | exact k_5.symm | omega)], k3, k4⟩
    clear l1 l2
    first | obtain ⟨m, rfl, hq_m⟩ := sub_ex2 (C := 50) hm | obtain ⟨m, rfl⟩ := sub_ex1 (C := 50) hm | obtain ⟨m, rfl⟩ : ∃ e, m = e + 50 := ⟨m - 50, by omega⟩
    rw [r_w]
    have s1 : sok "neg" := by decide +kernel
    have s2 : sok "not" := by decide +kernel
    simp -dsimp (disch := first | assumption | exact mi | exact jj rfl | exact ke | exact kc | exact kf | exact kg | exact kh ‹_› rfl | exact mv ‹_› | exact mw ‹_› | exact mx ‹_› | exact my ‹_› | exact mz ‹_› | exact lv ‹_› rfl | exact lw ‹_› rfl | exact lu ‹_› rfl | exact m5 ‹_› rfl | exact m7 rfl | exact mj ‹_› rfl | exact ml ke | exact ml (ml ke) | exact ml (ml kc) | exact ml (ml (ml ke)) | exact ml (ml (ml kc)) | decide +kernel | omega | (intros; contradiction)) [zipArgs, gy, gz, jk, jm, ki, kj, bq, bg, br, b7, b8, bt, bu, jn, km, ko, jo, g5, g6, bh, bv, bi, d7, aa, ag, a5, ah, au, ac, ai, a6, aj, av, ak, aw, ba, ax, a7, ae, al, a8, am, ay, af, ao, a9, aq, az, jp, bj, bw, bk, bn, bc, g7, g8, g9, jq, jr, kr, kt, bz, b4, b9, b5, ce, d9, cw, eb, cy, cz, ku, kx, ky, kz, ec, eg, c6, eh, ej, ek, er, h9, cg, et, ch, eu, ia, ey, jt, ju, c7, ci, cj, cn, ↓k7, ↓k8, ↓k9, ↓lb, ez, c8, fa, ↓lz, lf, jv, ib, lg, lh, lj, ll, lq, ls, c9, da, cq, dg, cr, b6, cu, l6, l7, l8, l9, jw, ic, jx, jy, ie, ig, n_radd', jz, ij, j0, j1, j2, j3, ik, fc, fe, fg, bp, be, dh, j4, cv, im, j5, j6, j7, io, ip, iq, ir, j8, iu, ma, mc, md, me, mm, mn, mr, mf, iv, fh, iw, iy, ↓iz, i0, fi, di, fj, dk, fk, fm, dl, fp, fq, i6, ms, mt, i7, ft, fu, dm, dq, i9, fv, dt, fw, du, ja, dw, fy, fz, jb, f0, f5, dy, dz, jc, f7, d3, f8, d4, jd, d5, f9, gn, mu, j9, gp, gq, as1', as2', as3', appendV, popV, je, mh, gs, gu, jf, d6, gv, jg, jh, ji, gw, gx, h1, h2, h3, h4, seq_last, encOp, h, eqV_str, hn1, hn2, e, dl2]
theorem e_join {s : Int} {f : Fr} {os' : List V} {ops' : List (Str × Int)} {μ : M} {n : Nat} (F : FrAt μ n f) (j : Join s f.operands f.ops os' ops') (h1 : f.operands.length ≤ 20000) (h2 : f.ops.length ≤ 20000) :
    ∃ μ', Ev 2 fd_join_up μ [f.v n, .int s] (.ok .none μ') ∧ Keep n μ μ' ∧ FrAt μ' n { f with operands := os', ops := ops' } := by
  refine atFd (p := fun fd => JoinLoop fd → ∃ μ', Ev 2 fd μ [f.v n, .int s] (.ok .none μ') ∧ Keep n μ μ' ∧ FrAt μ' n { f with operands := os', ops := ops' }) ⟨_, rfl, ?_⟩ join_loop
  intro lp
  obtain ⟨N, ρ', μ', e, k1, k2, k3, k4⟩ := lp _ _ rfl j (ρ := [("level", f.v n), ("strength", .int s)]) (μ := μ) (k := .str f.kind) (w := .str f.word) (n := n) (by simp [List.lookup, ofString_beq, Fr.v]) (by simp [List.lookup, ofString_beq]) F.opnds F.oprs h1 h2
  refine ⟨μ', ⟨N + 50, fun m hm d hd => ?_⟩, k1, ⟨by rw [k2]; exact F.args, k3, k4⟩⟩
  first | obtain ⟨m, rfl, hq_m⟩ := sub_ex2 (C := 50) hm | obtain ⟨m, rfl⟩ := sub_ex1 (C := 50) hm | obtain ⟨m, rfl⟩ : ∃ e, m = e + 50 := ⟨m - 50, by omega⟩
  first | obtain ⟨d, rfl, hq_d⟩ := sub_ex2 (C := 2) hd | obtain ⟨d, rfl⟩ := sub_ex1 (C := 2) hd | obtain ⟨d, rfl⟩ : ∃ e, d = e + 2 := ⟨d - 2, by omega⟩
  dsimp only at e
  refine (enter (by rfl) rfl).trans ?_; dsimp only
  simp -dsimp (disch := first | assumption | exact mi | exact jj rfl | exact ke | exact kc | exact kf | exact kg | exact kh ‹_› rfl | exact mv ‹_› | exact mw ‹_› | exact mx ‹_› | exact my ‹_› | exact mz ‹_› | exact lv ‹_› rfl | exact lw ‹_› rfl | exact lu ‹_› rfl | exact m5 ‹_› rfl | exact m7 rfl | exact mj ‹_› rfl | exact ml ke | exact ml (ml ke) | exact ml (ml kc) | exact ml (ml (ml ke)) | exact ml (ml (ml kc)) | decide +kernel | omega | (intros; contradiction)) [zipArgs, gy, gz, jk, jm, ki, kj, bq, bg, br, b7, b8, bt, bu, jn, km, ko, jo, g5, g6, bh, bv, bi, d7, aa, ag, a5, ah, au, ac, ai, a6, aj, av, ak, aw, ba, ax, a7, ae, al, a8, am, ay, af, ao, a9, aq, az, jp, bj, bw, bk, bn, bc, g7, g8, g9, jq, jr, kr, kt, bz, b4, b9, b5, ce, d9, cw, eb, cy, cz, ku, kx, ky, kz, ec, eg, c6, eh, ej, ek, er, h9, cg, et, ch, eu, ia, ey, jt, ju, c7, ci, cj, cn, ↓k7, ↓k8, ↓k9, ↓lb, ez, c8, fa, ↓lz, lf, jv, ib, lg, lh, lj, ll, lq, ls, c9, da, cq, dg, cr, b6, cu, l6, l7, l8, l9, jw, ic, jx, jy, ie, ig, n_radd', jz, ij, j0, j1, j2, j3, ik, fc, fe, fg, bp, be, dh, j4, cv, im, j5, j6, j7, io, ip, iq, ir, j8, iu, ma, mc, md, me, mm, mn, mr, mf, iv, fh, iw, iy, ↓iz, i0, fi, di, fj, dk, fk, fm, dl, fp, fq, i6, ms, mt, i7, ft, fu, dm, dq, i9, fv, dt, fw, du, ja, dw, fy, fz, jb, f0, f5, dy, dz, jc, f7, d3, f8, d4, jd, d5, f9, gn, mu, j9, gp, gq, as1', as2', as3', appendV, popV, je, mh, gs, gu, jf, d6, gv, jg, jh, ji, gw, gx, e]
end Mine
namespace Mine
theorem is_finished : (tab "finished").isSome = true := by rfl
noncomputable abbrev fd_finished := fdOf "finished" is_finished
theorem tab_finished : tab "finished" = some fd_finished := tab_fd _
theorem sok_of (x : Str) (h : sok x) : sok x := h
noncomputable abbrev isTop (f : Fr) : Option Bool := inL (.str f.kind) [.str "top", .str "group"]
noncomputable def Fr.fin (f : Fr) (b : Bool) (last : V) : V := if b then last else .tup [.str f.kind, .str f.word, .lst (f.args ++ [last])]
theorem e_finished {f : Fr} {last : V} {os' : List V} {ops' : List (Str × Int)} {μ : M} {n : Nat} {b : Bool} (F : FrAt μ n f) (j : Join 0 f.operands f.ops (last :: os') ops') (h1 : f.operands.length ≤ 20000) (h2 : f.ops.length ≤ 20000) (h3 : f.args.length ≤ 20000) (h4 : (last :: os').length ≤ 20000)
    (hb : isTop f = some b) : ∃ μ', Ev 4 fd_finished μ [f.v n] (.ok (f.fin b last) μ') ∧ Keep n μ μ' := by
  obtain ⟨μ1, ⟨N, e⟩, k1, F1⟩ := e_join F j h1 h2
  refine atFd (p := fun fd => ∃ μ', Ev 4 fd μ [f.v n] (.ok (f.fin b last) μ') ∧ Keep n μ μ') ⟨_, rfl, ?_⟩
  have l1 := (List.getElem?_eq_some_iff.mp F1.opnds).1
  have q1 := F1.args
  have q2 := F1.opnds
  simp at q1 q2 h4
  refine ⟨μ1.set (n + 1) os'.reverse, ⟨N + 50, fun m hm d hd => ?_⟩, k1.1 ▸ by simp, fun i hi => by rw [List.getElem?_set_ne (by first | exact k_0 (by assumption) | exact k_1 (by assumption) | exact k_2 (by assumption) | exact k_3 | exact k_4 | exact k_5 | exact k_3.symm | exact k_4.symm | exact k_5.symm | omega)]; exact k1.2 i hi⟩
  clear l1
  first | obtain ⟨m, rfl, hq_m⟩ := sub_ex2 (C := 50) hm | obtain ⟨m, rfl⟩ := sub_ex1 (C := 50) hm | obtain ⟨m, rfl⟩ : ∃ e, m = e + 50 := ⟨m - 50, by omega⟩
  first | obtain ⟨d, rfl, hq_d⟩ := sub_ex2 (C := 4) hd | obtain ⟨d, rfl⟩ := sub_ex1 (C := 4) hd | obtain ⟨d, rfl⟩ : ∃ e, d = e + 4 := ⟨d - 4, by omega⟩
  refine (enter (by rfl) rfl).trans ?_; dsimp only
  unfold Fr.v at e ⊢
  cases b with
  | true => simp -dsimp (disch := first | assumption | exact mi | exact jj rfl | exact ke | exact kc | exact kf | exact kg | exact kh ‹_› rfl | exact mv ‹_› | exact mw ‹_› | exact mx ‹_› | exact my ‹_› | exact mz ‹_› | exact lv ‹_› rfl | exact lw ‹_› rfl | exact lu ‹_› rfl | exact m5 ‹_› rfl | exact m7 rfl | exact mj ‹_› rfl | exact ml ke | exact ml (ml ke) | exact ml (ml kc) | exact ml (ml (ml ke)) | exact ml (ml (ml kc)) | decide +kernel | omega | (intros; contradiction)) [zipArgs, gy, gz, jk, jm, ki, kj, bq, bg, br, b7, b8, bt, bu, jn, km, ko, jo, g5, g6, bh, bv, bi, d7, aa, ag, a5, ah, au, ac, ai, a6, aj, av, ak, aw, ba, ax, a7, ae, al, a8, am, ay, af, ao, a9, aq, az, jp, bj, bw, bk, bn, bc, g7, g8, g9, jq, jr, kr, kt, bz, b4, b9, b5, ce, d9, cw, eb, cy, cz, ku, kx, ky, kz, ec, eg, c6, eh, ej, ek, er, h9, cg, et, ch, eu, ia, ey, jt, ju, c7, ci, cj, cn, ↓k7, ↓k8, ↓k9, ↓lb, ez, c8, fa, ↓lz, lf, jv, ib, lg, lh, lj, ll, lq, ls, c9, da, cq, dg, cr, b6, cu, l6, l7, l8, l9, jw, ic, jx, jy, ie, ig, n_radd', jz, ij, j0, j1, j2, j3, ik, fc, fe, fg, bp, be, dh, j4, cv, im, j5, j6, j7, io, ip, iq, ir, j8, iu, ma, mc, md, me, mm, mn, mr, mf, iv, fh, iw, iy, ↓iz, i0, fi, di, fj, dk, fk, fm, dl, fp, fq, i6, ms, mt, i7, ft, fu, dm, dq, i9, fv, dt, fw, du, ja, dw, fy, fz, jb, f0, f5, dy, dz, jc, f7, d3, f8, d4, jd, d5, f9, gn, mu, j9, gp, gq, as1', as2', as3', appendV, popV, je, mh, gs, gu, jf, d6, gv, jg, jh, ji, gw, gx, tab_join_up, e, q1, q2, hb, Fr.fin, isTop]
  | false => simp -dsimp (disch := first | assumption | exact mi | exact jj rfl | exact ke | exact kc | exact kf | exact kg | exact kh ‹_› rfl | exact mv ‹_› | exact mw ‹_› | exact mx ‹_› | exact my ‹_› | exact mz ‹_› | exact lv ‹_› rfl | exact lw ‹_› rfl | exact lu ‹_› rfl | exact m5 ‹_› rfl | exact m7 rfl | exact mj ‹_› rfl | exact ml ke | exact ml (ml ke) | exact ml (ml kc) | exact ml (ml (ml ke)) | exact ml (ml (ml kc)) | decide +kernel | omega | (intros; contradiction)) [zipArgs, gy, gz, jk, jm, ki, kj, bq, bg, br, b7, b8, bt, bu, jn, km, ko, jo, g5, g6, bh, bv, bi, d7, aa, ag, a5, ah, au, ac, ai, a6, aj, av, ak, aw, ba, ax, a7, ae, al, a8, am, ay, af, ao, a9, aq, az, jp, bj, bw, bk, bn, bc, g7, g8, g9, jq, jr, kr, kt, bz, b4, b9, b5, ce, d9, cw, eb, cy, cz, ku, kx, ky, kz, ec, eg, c6, eh, ej, ek, er, h9, cg, et, ch, eu, ia, ey, jt, ju, c7, ci, cj, cn, ↓k7, ↓k8, ↓k9, ↓lb, ez, c8, fa, ↓lz, lf, jv, ib, lg, lh, lj, ll, lq, ls, c9, da, cq, dg, cr, b6, cu, l6, l7, l8, l9, jw, ic, jx, jy, ie, ig, n_radd', jz, ij, j0, j1, j2, j3, ik, fc, fe, fg, bp, be, dh, j4, cv, im, j5, j6, j7, io, ip, iq, ir, j8, iu, ma, mc, md, me, mm, mn, mr, mf, iv, fh, iw, iy, ↓iz, i0, fi, di, fj, dk, fk, fm, dl, fp, fq, i6, ms, mt, i7, ft, fu, dm, dq, i9, fv, dt, fw, du, ja, dw, fy, fz, jb, f0, f5, dy, dz, jc, f7, d3, f8, d4, jd, d5, f9, gn, mu, j9, gp, gq, as1', as2', as3', appendV, popV, je, mh, gs, gu, jf, d6, gv, jg, jh, ji, gw, gx, tab_join_up, e, q1, q2, hb, Fr.fin, isTop]
theorem is_opened : (tab "opened").isSome = true := by rfl
noncomputable abbrev fd_opened := fdOf "opened" is_opened
theorem tab_opened : tab "opened" = some fd_opened := tab_fd _
theorem tab_Level : tab "Level" = none := by rfl
theorem cst_MOST_OPEN : cst "MOST_OPEN" = some (.int 60) := by rfl
theorem e_opened {k w : Str} {l : List V} {μ : M} {r : Nat} (h : μ[r]? = some l) (hl : l.length ≤ 60) : Ev 3 fd_opened μ [.ref r, .str k, .str w] (.ok .none ((μ ++ [[], [], []]).set r (l ++ [V.level (.str k) (.str w) μ.length]))) := by
  refine atFd (x := "opened") (h := is_opened) (p := fun fd => Ev 3 fd μ [.ref r, .str k, .str w] (.ok .none ((μ ++ [[], [], []]).set r (l ++ [V.level (.str k) (.str w) μ.length])))) ⟨_, rfl, ?_⟩
  refine ev_of (N := 50) fun m d => ?_
  have h' : (μ ++ [[], [], []])[r]? = some l := by rw [List.getElem?_append_left (List.getElem?_eq_some_iff.mp h).1]; exact h
  refine (enter (by rfl) rfl).trans ?_; dsimp only
  simp -dsimp (disch := first | assumption | exact mi | exact jj rfl | exact ke | exact kc | exact kf | exact kg | exact kh ‹_› rfl | exact mv ‹_› | exact mw ‹_› | exact mx ‹_› | exact my ‹_› | exact mz ‹_› | exact lv ‹_› rfl | exact lw ‹_› rfl | exact lu ‹_› rfl | exact m5 ‹_› rfl | exact m7 rfl | exact mj ‹_› rfl | exact ml ke | exact ml (ml ke) | exact ml (ml kc) | exact ml (ml (ml ke)) | exact ml (ml (ml kc)) | decide +kernel | omega | (intros; contradiction)) [zipArgs, gy, gz, jk, jm, ki, kj, bq, bg, br, b7, b8, bt, bu, jn, km, ko, jo, g5, g6, bh, bv, bi, d7, aa, ag, a5, ah, au, ac, ai, a6, aj, av, ak, aw, ba, ax, a7, ae, al, a8, am, ay, af, ao, a9, aq, az, jp, bj, bw, bk, bn, bc, g7, g8, g9, jq, jr, kr, kt, bz, b4, b9, b5, ce, d9, cw, eb, cy, cz, ku, kx, ky, kz, ec, eg, c6, eh, ej, ek, er, h9, cg, et, ch, eu, ia, ey, jt, ju, c7, ci, cj, cn, ↓k7, ↓k8, ↓k9, ↓lb, ez, c8, fa, ↓lz, lf, jv, ib, lg, lh, lj, ll, lq, ls, c9, da, cq, dg, cr, b6, cu, l6, l7, l8, l9, jw, ic, jx, jy, ie, ig, n_radd', jz, ij, j0, j1, j2, j3, ik, fc, fe, fg, bp, be, dh, j4, cv, im, j5, j6, j7, io, ip, iq, ir, j8, iu, ma, mc, md, me, mm, mn, mr, mf, iv, fh, iw, iy, ↓iz, i0, fi, di, fj, dk, fk, fm, dl, fp, fq, i6, ms, mt, i7, ft, fu, dm, dq, i9, fv, dt, fw, du, ja, dw, fy, fz, jb, f0, f5, dy, dz, jc, f7, d3, f8, d4, jd, d5, f9, gn, mu, j9, gp, gq, as1', as2', as3', appendV, popV, je, mh, gs, gu, jf, d6, gv, jg, jh, ji, gw, gx, h, h', tab_Level, tab_BasicError, cst_MOST_OPEN, show ¬ (60 : Int) < (l.length : Int) by omega]
theorem e_opened_st {k w : Str} {l : List V} {μ : M} {r : Nat} (h : μ[r]? = some l) (hl : 60 < l.length) (hz : l.length ≤ 1000) : Ev 3 fd_opened μ [.ref r, .str k, .str w] (.exc "ST" μ) := by
  refine atFd (p := fun fd => Ev 3 fd μ [.ref r, .str k, .str w] (.exc "ST" μ)) ⟨_, rfl, ?_⟩
  refine ev_of (N := 50) fun m d => ?_
  refine (enter (by rfl) rfl).trans ?_; dsimp only
  simp -dsimp (disch := first | assumption | exact mi | exact jj rfl | exact ke | exact kc | exact kf | exact kg | exact kh ‹_› rfl | exact mv ‹_› | exact mw ‹_› | exact mx ‹_› | exact my ‹_› | exact mz ‹_› | exact lv ‹_› rfl | exact lw ‹_› rfl | exact lu ‹_› rfl | exact m5 ‹_› rfl | exact m7 rfl | exact mj ‹_› rfl | exact ml ke | exact ml (ml ke) | exact ml (ml kc) | exact ml (ml (ml ke)) | exact ml (ml (ml kc)) | decide +kernel | omega | (intros; contradiction)) [zipArgs, gy, gz, jk, jm, ki, kj, bq, bg, br, b7, b8, bt, bu, jn, km, ko, jo, g5, g6, bh, bv, bi, d7, aa, ag, a5, ah, au, ac, ai, a6, aj, av, ak, aw, ba, ax, a7, ae, al, a8, am, ay, af, ao, a9, aq, az, jp, bj, bw, bk, bn, bc, g7, g8, g9, jq, jr, kr, kt, bz, b4, b9, b5, ce, d9, cw, eb, cy, cz, ku, kx, ky, kz, ec, eg, c6, eh, ej, ek, er, h9, cg, et, ch, eu, ia, ey, jt, ju, c7, ci, cj, cn, ↓k7, ↓k8, ↓k9, ↓lb, ez, c8, fa, ↓lz, lf, jv, ib, lg, lh, lj, ll, lq, ls, c9, da, cq, dg, cr, b6, cu, l6, l7, l8, l9, jw, ic, jx, jy, ie, ig, n_radd', jz, ij, j0, j1, j2, j3, ik, fc, fe, fg, bp, be, dh, j4, cv, im, j5, j6, j7, io, ip, iq, ir, j8, iu, ma, mc, md, me, mm, mn, mr, mf, iv, fh, iw, iy, ↓iz, i0, fi, di, fj, dk, fk, fm, dl, fp, fq, i6, ms, mt, i7, ft, fu, dm, dq, i9, fv, dt, fw, du, ja, dw, fy, fz, jb, f0, f5, dy, dz, jc, f7, d3, f8, d4, jd, d5, f9, gn, mu, j9, gp, gq, as1', as2', as3', appendV, popV, je, mh, gs, gu, jf, d6, gv, jg, jh, ji, gw, gx, h, tab_Level, tab_BasicError, cst_MOST_OPEN, show (60 : Int) < (l.length : Int) by omega]
end Mine
namespace Mine
theorem tab_number_tree : tab "number_tree" = some fd_number_tree := tab_fd _
theorem e_number_tree {p : String × V} (h : p ∈ nums) (μ : M) : Ev 20 fd_number_tree μ [.str p.1] (.ok p.2 μ) := by
  simp only [nums, List.mem_cons, List.not_mem_nil, or_false] at h
  rcases h with rfl | rfl | rfl | rfl | rfl | rfl | rfl | rfl | rfl | rfl <;> exact ev_of (N := 300) (fun n d => by kernel_rfl)
theorem cst_NO_ARGS : cst "NO_ARGS" = some (.tup [.str "ERL", .str "ERR", .str "FRE", .str "PI", .str "POS", .str "RND"]) := by rfl
theorem is_plain_operand : (tab "plain_operand").isSome = true := by rfl
noncomputable abbrev fd_plain_operand := fdOf "plain_operand" is_plain_operand
theorem tab_plain_operand : tab "plain_operand" = some fd_plain_operand := tab_fd _
noncomputable def fnWord (x : Str) : Option V := sliceV (.str x) none (some 2)
inductive PO (ts : List Tk) (i : Nat) : V → Prop
  | num {p : String × V} (h : p ∈ nums) (e : tkAt ts i = (("number" : Str), Str.ofString p.1)) : PO ts i p.2
  | text {x : Str} (hx : x.length ≤ 100) (e : tkAt ts i = (("text" : Str), x)) : PO ts i (.tup [.str "text", .str x])
  | paren {k x : Str} (hk : k = "name" ∨ k = "word") (e : tkAt ts i = (k, x)) (e' : tkAt ts (i + 1) = (("sign" : Str), ("(" : Str))) : PO ts i .none
  | name {x y : Str} (hx : x.length ≤ 100) (e : tkAt ts i = (("name" : Str), x)) (e' : tkAt ts (i + 1) ≠ (("sign" : Str), ("(" : Str))) (hf : fnWord x = some (.str y)) (hy : sok y) (hn : y ≠ "FN") : PO ts i (.tup [.str "name", .str x])
  | fn {x : Str} (hx : x.length ≤ 100) (e : tkAt ts i = (("name" : Str), x)) (e' : tkAt ts (i + 1) ≠ (("sign" : Str), ("(" : Str))) (hf : fnWord x = some (.str "FN")) : PO ts i (.tup [.str "fn", .str x, .lst []])
  | rnd (e : tkAt ts i = (("word" : Str), ("RND" : Str))) (e' : tkAt ts (i + 1) ≠ (("sign" : Str), ("(" : Str))) : PO ts i (.tup [.str "call", .str "RND", .lst []])
  | sign {k x : Str} (hk : k = "sign" ∨ k = "end") (e : tkAt ts i = (k, x)) : PO ts i .none
  | word {x : Str} (e : tkAt ts i = (("word" : Str), x)) (hx : inL (.str x) [.str "ERL", .str "ERR", .str "FRE", .str "PI", .str "POS", .str "RND"] = some false) : PO ts i .none
theorem po_num {ts : List Tk} {i : Nat} {p : String × V} (h : OkTs ts) (hi : i < 10000) (μ : M) (hp : p ∈ nums) (e : tkAt ts i = (("number" : Str), Str.ofString p.1)) : Ev 25 fd_plain_operand μ [toks ts, .int i] (.ok p.2 μ) := by
  refine atFd (p := fun fd => Ev 25 fd μ [toks ts, .int i] (.ok p.2 μ)) ⟨_, rfl, ?_⟩
  have a1 := ev_at h (show i < 100000 by first | exact lu (by assumption) rfl | exact lv (by assumption) rfl | exact lw (by assumption) rfl | exact lx (by assumption) rfl | exact ly (by assumption) rfl | omega) μ
  have a2 := ev_sign h (i := i + 1) (show i + 1 < 100000 by first | exact lu (by assumption) rfl | exact lv (by assumption) rfl | exact lw (by assumption) rfl | exact lx (by assumption) rfl | exact ly (by assumption) rfl | omega) (x := "(") (by decide +kernel) μ
  have k0 := tkAt_ok h i
  push_cast at a2
  obtain ⟨N, e3⟩ := e_number_tree hp μ
  refine ev_in N 60 fun m d => ?_
  refine (enter (by rfl) rfl).trans ?_; dsimp only
  simp -dsimp (disch := first | assumption | exact mi | exact jj rfl | exact ke | exact kc | exact kf | exact kg | exact kh ‹_› rfl | exact mv ‹_› | exact mw ‹_› | exact mx ‹_› | exact my ‹_› | exact mz ‹_› | exact lv ‹_› rfl | exact lw ‹_› rfl | exact lu ‹_› rfl | exact m5 ‹_› rfl | exact m7 rfl | exact mj ‹_› rfl | exact ml ke | exact ml (ml ke) | exact ml (ml kc) | exact ml (ml (ml ke)) | exact ml (ml (ml kc)) | decide +kernel | omega | (intros; contradiction)) [zipArgs, gy, gz, jk, jm, ki, kj, bq, bg, br, b7, b8, bt, bu, jn, km, ko, jo, g5, g6, bh, bv, bi, d7, aa, ag, a5, ah, au, ac, ai, a6, aj, av, ak, aw, ba, ax, a7, ae, al, a8, am, ay, af, ao, a9, aq, az, jp, bj, bw, bk, bn, bc, g7, g8, g9, jq, jr, kr, kt, bz, b4, b9, b5, ce, d9, cw, eb, cy, cz, ku, kx, ky, kz, ec, eg, c6, eh, ej, ek, er, h9, cg, et, ch, eu, ia, ey, jt, ju, c7, ci, cj, cn, ↓k7, ↓k8, ↓k9, ↓lb, ez, c8, fa, ↓lz, lf, jv, ib, lg, lh, lj, ll, lq, ls, c9, da, cq, dg, cr, b6, cu, l6, l7, l8, l9, jw, ic, jx, jy, ie, ig, n_radd', jz, ij, j0, j1, j2, j3, ik, fc, fe, fg, bp, be, dh, j4, cv, im, j5, j6, j7, io, ip, iq, ir, j8, iu, ma, mc, md, me, mm, mn, mr, mf, iv, fh, iw, iy, ↓iz, i0, fi, di, fj, dk, fk, fm, dl, fp, fq, i6, ms, mt, i7, ft, fu, dm, dq, i9, fv, dt, fw, du, ja, dw, fy, fz, jb, f0, f5, dy, dz, jc, f7, d3, f8, d4, jd, d5, f9, gn, mu, j9, gp, gq, as1', as2', as3', appendV, popV, je, mh, gs, gu, jf, d6, gv, jg, jh, ji, gw, gx, tab_token_at, tab_is_sign, tab_number_tree, a1, a2, e, e3, Tk.v, eqV_str]
theorem po_text {ts : List Tk} {i : Nat} {x : Str} (h : OkTs ts) (hi : i < 10000) (μ : M) (hx : x.length ≤ 100) (e : tkAt ts i = (("text" : Str), x)) : Ev 25 fd_plain_operand μ [toks ts, .int i] (.ok (.tup [.str "text", .str x]) μ) := by
  refine atFd (p := fun fd => Ev 25 fd μ [toks ts, .int i] (.ok (.tup [.str "text", .str x]) μ)) ⟨_, rfl, ?_⟩
  have a1 := ev_at h (show i < 100000 by first | exact lu (by assumption) rfl | exact lv (by assumption) rfl | exact lw (by assumption) rfl | exact lx (by assumption) rfl | exact ly (by assumption) rfl | omega) μ
  have a2 := ev_sign h (i := i + 1) (show i + 1 < 100000 by first | exact lu (by assumption) rfl | exact lv (by assumption) rfl | exact lw (by assumption) rfl | exact lx (by assumption) rfl | exact ly (by assumption) rfl | omega) (x := "(") (by decide +kernel) μ
  have k0 := tkAt_ok h i
  push_cast at a2
  have sx : sok x := by rw [e] at k0; exact k0.2
  refine ev_of (N := 60) fun m d => ?_
  refine (enter (by rfl) rfl).trans ?_; dsimp only
  simp -dsimp (disch := first | assumption | exact mi | exact jj rfl | exact ke | exact kc | exact kf | exact kg | exact kh ‹_› rfl | exact mv ‹_› | exact mw ‹_› | exact mx ‹_› | exact my ‹_› | exact mz ‹_› | exact lv ‹_› rfl | exact lw ‹_› rfl | exact lu ‹_› rfl | exact m5 ‹_› rfl | exact m7 rfl | exact mj ‹_› rfl | exact ml ke | exact ml (ml ke) | exact ml (ml kc) | exact ml (ml (ml ke)) | exact ml (ml (ml kc)) | decide +kernel | omega | (intros; contradiction)) [zipArgs, gy, gz, jk, jm, ki, kj, bq, bg, br, b7, b8, bt, bu, jn, km, ko, jo, g5, g6, bh, bv, bi, d7, aa, ag, a5, ah, au, ac, ai, a6, aj, av, ak, aw, ba, ax, a7, ae, al, a8, am, ay, af, ao, a9, aq, az, jp, bj, bw, bk, bn, bc, g7, g8, g9, jq, jr, kr, kt, bz, b4, b9, b5, ce, d9, cw, eb, cy, cz, ku, kx, ky, kz, ec, eg, c6, eh, ej, ek, er, h9, cg, et, ch, eu, ia, ey, jt, ju, c7, ci, cj, cn, ↓k7, ↓k8, ↓k9, ↓lb, ez, c8, fa, ↓lz, lf, jv, ib, lg, lh, lj, ll, lq, ls, c9, da, cq, dg, cr, b6, cu, l6, l7, l8, l9, jw, ic, jx, jy, ie, ig, n_radd', jz, ij, j0, j1, j2, j3, ik, fc, fe, fg, bp, be, dh, j4, cv, im, j5, j6, j7, io, ip, iq, ir, j8, iu, ma, mc, md, me, mm, mn, mr, mf, iv, fh, iw, iy, ↓iz, i0, fi, di, fj, dk, fk, fm, dl, fp, fq, i6, ms, mt, i7, ft, fu, dm, dq, i9, fv, dt, fw, du, ja, dw, fy, fz, jb, f0, f5, dy, dz, jc, f7, d3, f8, d4, jd, d5, f9, gn, mu, j9, gp, gq, as1', as2', as3', appendV, popV, je, mh, gs, gu, jf, d6, gv, jg, jh, ji, gw, gx, tab_token_at, tab_is_sign, tab_number_tree, a1, a2, e, Tk.v, eqV_str]
theorem po_paren {ts : List Tk} {i : Nat} {k x : Str} (h : OkTs ts) (hi : i < 10000) (μ : M) (e : tkAt ts i = (k, x)) (n1 : k ≠ "number") (n2 : k ≠ "text") (e' : tkAt ts (i + 1) = (("sign" : Str), ("(" : Str))) : Ev 25 fd_plain_operand μ [toks ts, .int i] (.ok .none μ) := by
  refine atFd (p := fun fd => Ev 25 fd μ [toks ts, .int i] (.ok .none μ)) ⟨_, rfl, ?_⟩
  have a1 := ev_at h (show i < 100000 by first | exact lu (by assumption) rfl | exact lv (by assumption) rfl | exact lw (by assumption) rfl | exact lx (by assumption) rfl | exact ly (by assumption) rfl | omega) μ
  have a2 := ev_sign h (i := i + 1) (show i + 1 < 100000 by first | exact lu (by assumption) rfl | exact lv (by assumption) rfl | exact lw (by assumption) rfl | exact lx (by assumption) rfl | exact ly (by assumption) rfl | omega) (x := "(") (by decide +kernel) μ
  have k0 := tkAt_ok h i
  push_cast at a2
  have sk : sok k := by rw [e] at k0; exact k0.1
  have sx : sok x := by rw [e] at k0; exact k0.2
  refine ev_of (N := 60) fun m d => ?_
  refine (enter (by rfl) rfl).trans ?_; dsimp only
  simp -dsimp (disch := first | assumption | exact mi | exact jj rfl | exact ke | exact kc | exact kf | exact kg | exact kh ‹_› rfl | exact mv ‹_› | exact mw ‹_› | exact mx ‹_› | exact my ‹_› | exact mz ‹_› | exact lv ‹_› rfl | exact lw ‹_› rfl | exact lu ‹_› rfl | exact m5 ‹_› rfl | exact m7 rfl | exact mj ‹_› rfl | exact ml ke | exact ml (ml ke) | exact ml (ml kc) | exact ml (ml (ml ke)) | exact ml (ml (ml kc)) | decide +kernel | omega | (intros; contradiction)) [zipArgs, gy, gz, jk, jm, ki, kj, bq, bg, br, b7, b8, bt, bu, jn, km, ko, jo, g5, g6, bh, bv, bi, d7, aa, ag, a5, ah, au, ac, ai, a6, aj, av, ak, aw, ba, ax, a7, ae, al, a8, am, ay, af, ao, a9, aq, az, jp, bj, bw, bk, bn, bc, g7, g8, g9, jq, jr, kr, kt, bz, b4, b9, b5, ce, d9, cw, eb, cy, cz, ku, kx, ky, kz, ec, eg, c6, eh, ej, ek, er, h9, cg, et, ch, eu, ia, ey, jt, ju, c7, ci, cj, cn, ↓k7, ↓k8, ↓k9, ↓lb, ez, c8, fa, ↓lz, lf, jv, ib, lg, lh, lj, ll, lq, ls, c9, da, cq, dg, cr, b6, cu, l6, l7, l8, l9, jw, ic, jx, jy, ie, ig, n_radd', jz, ij, j0, j1, j2, j3, ik, fc, fe, fg, bp, be, dh, j4, cv, im, j5, j6, j7, io, ip, iq, ir, j8, iu, ma, mc, md, me, mm, mn, mr, mf, iv, fh, iw, iy, ↓iz, i0, fi, di, fj, dk, fk, fm, dl, fp, fq, i6, ms, mt, i7, ft, fu, dm, dq, i9, fv, dt, fw, du, ja, dw, fy, fz, jb, f0, f5, dy, dz, jc, f7, d3, f8, d4, jd, d5, f9, gn, mu, j9, gp, gq, as1', as2', as3', appendV, popV, je, mh, gs, gu, jf, d6, gv, jg, jh, ji, gw, gx, tab_token_at, tab_is_sign, tab_number_tree, a1, a2, e, e', n1, n2, Tk.v, eqV_str]
theorem po_name {ts : List Tk} {i : Nat} {x y : Str} (h : OkTs ts) (hi : i < 10000) (μ : M) (hx : x.length ≤ 100) (e : tkAt ts i = (("name" : Str), x)) (e' : tkAt ts (i + 1) ≠ (("sign" : Str), ("(" : Str))) (hf : fnWord x = some (.str y)) (hy : sok y) (hn : y ≠ "FN") : Ev 25 fd_plain_operand μ [toks ts, .int i] (.ok (.tup [.str "name", .str x]) μ) := by
  refine atFd (p := fun fd => Ev 25 fd μ [toks ts, .int i] (.ok (.tup [.str "name", .str x]) μ)) ⟨_, rfl, ?_⟩
  have a1 := ev_at h (show i < 100000 by first | exact lu (by assumption) rfl | exact lv (by assumption) rfl | exact lw (by assumption) rfl | exact lx (by assumption) rfl | exact ly (by assumption) rfl | omega) μ
  have a2 := ev_sign h (i := i + 1) (show i + 1 < 100000 by first | exact lu (by assumption) rfl | exact lv (by assumption) rfl | exact lw (by assumption) rfl | exact lx (by assumption) rfl | exact ly (by assumption) rfl | omega) (x := "(") (by decide +kernel) μ
  have k0 := tkAt_ok h i
  push_cast at a2
  have sx : sok x := by rw [e] at k0; exact k0.2
  have w7 : sok "FN" := by decide +kernel
  unfold fnWord at hf
  have ok : slOk (.str x) = true := decide_eq_true (Nat.le_trans hx (by decide))
  refine ev_of (N := 60) fun m d => ?_
  refine (enter (by rfl) rfl).trans ?_; dsimp only
  simp -dsimp (disch := first | assumption | exact mi | exact jj rfl | exact ke | exact kc | exact kf | exact kg | exact kh ‹_› rfl | exact mv ‹_› | exact mw ‹_› | exact mx ‹_› | exact my ‹_› | exact mz ‹_› | exact lv ‹_› rfl | exact lw ‹_› rfl | exact lu ‹_› rfl | exact m5 ‹_› rfl | exact m7 rfl | exact mj ‹_› rfl | exact ml ke | exact ml (ml ke) | exact ml (ml kc) | exact ml (ml (ml ke)) | exact ml (ml (ml kc)) | decide +kernel | omega | (intros; contradiction)) [zipArgs, gy, gz, jk, jm, ki, kj, bq, bg, br, b7, b8, bt, bu, jn, km, ko, jo, g5, g6, bh, bv, bi, d7, aa, ag, a5, ah, au, ac, ai, a6, aj, av, ak, aw, ba, ax, a7, ae, al, a8, am, ay, af, ao, a9, aq, az, jp, bj, bw, bk, bn, bc, g7, g8, g9, jq, jr, kr, kt, bz, b4, b9, b5, ce, d9, cw, eb, cy, cz, ku, kx, ky, kz, ec, eg, c6, eh, ej, ek, er, h9, cg, et, ch, eu, ia, ey, jt, ju, c7, ci, cj, cn, ↓k7, ↓k8, ↓k9, ↓lb, ez, c8, fa, ↓lz, lf, jv, ib, lg, lh, lj, ll, lq, ls, c9, da, cq, dg, cr, b6, cu, l6, l7, l8, l9, jw, ic, jx, jy, ie, ig, n_radd', jz, ij, j0, j1, j2, j3, ik, fc, fe, fg, bp, be, dh, j4, cv, im, j5, j6, j7, io, ip, iq, ir, j8, iu, ma, mc, md, me, mm, mn, mr, mf, iv, fh, iw, iy, ↓iz, i0, fi, di, fj, dk, fk, fm, dl, fp, fq, i6, ms, mt, i7, ft, fu, dm, dq, i9, fv, dt, fw, du, ja, dw, fy, fz, jb, f0, f5, dy, dz, jc, f7, d3, f8, d4, jd, d5, f9, gn, mu, j9, gp, gq, as1', as2', as3', appendV, popV, je, mh, gs, gu, jf, d6, gv, jg, jh, ji, gw, gx, ok, hf, hn, tab_token_at, tab_is_sign, tab_number_tree, a1, a2, e, e', Tk.v, eqV_str]
theorem po_fn {ts : List Tk} {i : Nat} {x : Str} (h : OkTs ts) (hi : i < 10000) (μ : M) (hx : x.length ≤ 100) (e : tkAt ts i = (("name" : Str), x)) (e' : tkAt ts (i + 1) ≠ (("sign" : Str), ("(" : Str))) (hf : fnWord x = some (.str "FN")) : Ev 25 fd_plain_operand μ [toks ts, .int i] (.ok (.tup [.str "fn", .str x, .lst []]) μ) := by
  refine atFd (p := fun fd => Ev 25 fd μ [toks ts, .int i] (.ok (.tup [.str "fn", .str x, .lst []]) μ)) ⟨_, rfl, ?_⟩
  have a1 := ev_at h (show i < 100000 by first | exact lu (by assumption) rfl | exact lv (by assumption) rfl | exact lw (by assumption) rfl | exact lx (by assumption) rfl | exact ly (by assumption) rfl | omega) μ
  have a2 := ev_sign h (i := i + 1) (show i + 1 < 100000 by first | exact lu (by assumption) rfl | exact lv (by assumption) rfl | exact lw (by assumption) rfl | exact lx (by assumption) rfl | exact ly (by assumption) rfl | omega) (x := "(") (by decide +kernel) μ
  have k0 := tkAt_ok h i
  push_cast at a2
  have sx : sok x := by rw [e] at k0; exact k0.2
  have w7 : sok "FN" := by decide +kernel
  unfold fnWord at hf
  have ok : slOk (.str x) = true := decide_eq_true (Nat.le_trans hx (by decide))
  refine ev_of (N := 60) fun m d => ?_
  refine (enter (by rfl) rfl).trans ?_; dsimp only
  simp -dsimp (disch := first | assumption | exact mi | exact jj rfl | exact ke | exact kc | exact kf | exact kg | exact kh ‹_› rfl | exact mv ‹_› | exact mw ‹_› | exact mx ‹_› | exact my ‹_› | exact mz ‹_› | exact lv ‹_› rfl | exact lw ‹_› rfl | exact lu ‹_› rfl | exact m5 ‹_› rfl | exact m7 rfl | exact mj ‹_› rfl | exact ml ke | exact ml (ml ke) | exact ml (ml kc) | exact ml (ml (ml ke)) | exact ml (ml (ml kc)) | decide +kernel | omega | (intros; contradiction)) [zipArgs, gy, gz, jk, jm, ki, kj, bq, bg, br, b7, b8, bt, bu, jn, km, ko, jo, g5, g6, bh, bv, bi, d7, aa, ag, a5, ah, au, ac, ai, a6, aj, av, ak, aw, ba, ax, a7, ae, al, a8, am, ay, af, ao, a9, aq, az, jp, bj, bw, bk, bn, bc, g7, g8, g9, jq, jr, kr, kt, bz, b4, b9, b5, ce, d9, cw, eb, cy, cz, ku, kx, ky, kz, ec, eg, c6, eh, ej, ek, er, h9, cg, et, ch, eu, ia, ey, jt, ju, c7, ci, cj, cn, ↓k7, ↓k8, ↓k9, ↓lb, ez, c8, fa, ↓lz, lf, jv, ib, lg, lh, lj, ll, lq, ls, c9, da, cq, dg, cr, b6, cu, l6, l7, l8, l9, jw, ic, jx, jy, ie, ig, n_radd', jz, ij, j0, j1, j2, j3, ik, fc, fe, fg, bp, be, dh, j4, cv, im, j5, j6, j7, io, ip, iq, ir, j8, iu, ma, mc, md, me, mm, mn, mr, mf, iv, fh, iw, iy, ↓iz, i0, fi, di, fj, dk, fk, fm, dl, fp, fq, i6, ms, mt, i7, ft, fu, dm, dq, i9, fv, dt, fw, du, ja, dw, fy, fz, jb, f0, f5, dy, dz, jc, f7, d3, f8, d4, jd, d5, f9, gn, mu, j9, gp, gq, as1', as2', as3', appendV, popV, je, mh, gs, gu, jf, d6, gv, jg, jh, ji, gw, gx, ok, hf, tab_token_at, tab_is_sign, tab_number_tree, a1, a2, e, e', Tk.v, eqV_str]
theorem po_rnd {ts : List Tk} {i : Nat}  (h : OkTs ts) (hi : i < 10000) (μ : M) (e : tkAt ts i = (("word" : Str), ("RND" : Str))) (e' : tkAt ts (i + 1) ≠ (("sign" : Str), ("(" : Str))) : Ev 25 fd_plain_operand μ [toks ts, .int i] (.ok (.tup [.str "call", .str "RND", .lst []]) μ) := by
  refine atFd (p := fun fd => Ev 25 fd μ [toks ts, .int i] (.ok (.tup [.str "call", .str "RND", .lst []]) μ)) ⟨_, rfl, ?_⟩
  have a1 := ev_at h (show i < 100000 by first | exact lu (by assumption) rfl | exact lv (by assumption) rfl | exact lw (by assumption) rfl | exact lx (by assumption) rfl | exact ly (by assumption) rfl | omega) μ
  have a2 := ev_sign h (i := i + 1) (show i + 1 < 100000 by first | exact lu (by assumption) rfl | exact lv (by assumption) rfl | exact lw (by assumption) rfl | exact lx (by assumption) rfl | exact ly (by assumption) rfl | omega) (x := "(") (by decide +kernel) μ
  have k0 := tkAt_ok h i
  push_cast at a2
  have il : inL (.str "RND") [.str "ERL", .str "ERR", .str "FRE", .str "PI", .str "POS", .str "RND"] = some true := by kernel_rfl
  refine ev_of (N := 60) fun m d => ?_
  refine (enter (by rfl) rfl).trans ?_; dsimp only
  simp -dsimp (disch := first | assumption | exact mi | exact jj rfl | exact ke | exact kc | exact kf | exact kg | exact kh ‹_› rfl | exact mv ‹_› | exact mw ‹_› | exact mx ‹_› | exact my ‹_› | exact mz ‹_› | exact lv ‹_› rfl | exact lw ‹_› rfl | exact lu ‹_› rfl | exact m5 ‹_› rfl | exact m7 rfl | exact mj ‹_› rfl | exact ml ke | exact ml (ml ke) | exact ml (ml kc) | exact ml (ml (ml ke)) | exact ml (ml (ml kc)) | decide +kernel | omega | (intros; contradiction)) [zipArgs, gy, gz, jk, jm, ki, kj, bq, bg, br, b7, b8, bt, bu, jn, km, ko, jo, g5, g6, bh, bv, bi, d7, aa, ag, a5, ah, au, ac, ai, a6, aj, av, ak, aw, ba, ax, a7, ae, al, a8, am, ay, af, ao, a9, aq, az, jp, bj, bw, bk, bn, bc, g7, g8, g9, jq, jr, kr, kt, bz, b4, b9, b5, ce, d9, cw, eb, cy, cz, ku, kx, ky, kz, ec, eg, c6, eh, ej, ek, er, h9, cg, et, ch, eu, ia, ey, jt, ju, c7, ci, cj, cn, ↓k7, ↓k8, ↓k9, ↓lb, ez, c8, fa, ↓lz, lf, jv, ib, lg, lh, lj, ll, lq, ls, c9, da, cq, dg, cr, b6, cu, l6, l7, l8, l9, jw, ic, jx, jy, ie, ig, n_radd', jz, ij, j0, j1, j2, j3, ik, fc, fe, fg, bp, be, dh, j4, cv, im, j5, j6, j7, io, ip, iq, ir, j8, iu, ma, mc, md, me, mm, mn, mr, mf, iv, fh, iw, iy, ↓iz, i0, fi, di, fj, dk, fk, fm, dl, fp, fq, i6, ms, mt, i7, ft, fu, dm, dq, i9, fv, dt, fw, du, ja, dw, fy, fz, jb, f0, f5, dy, dz, jc, f7, d3, f8, d4, jd, d5, f9, gn, mu, j9, gp, gq, as1', as2', as3', appendV, popV, je, mh, gs, gu, jf, d6, gv, jg, jh, ji, gw, gx, cst_NO_ARGS, il, tab_token_at, tab_is_sign, tab_number_tree, a1, a2, e, e', Tk.v, eqV_str]
theorem po_sign {ts : List Tk} {i : Nat} {k x : Str} (h : OkTs ts) (hi : i < 10000) (μ : M) (e : tkAt ts i = (k, x)) (n1 : k ≠ "number") (n2 : k ≠ "text") (n3 : k ≠ "name") (n4 : k ≠ "word") (e' : tkAt ts (i + 1) ≠ (("sign" : Str), ("(" : Str))) : Ev 25 fd_plain_operand μ [toks ts, .int i] (.ok .none μ) := by
  refine atFd (p := fun fd => Ev 25 fd μ [toks ts, .int i] (.ok .none μ)) ⟨_, rfl, ?_⟩
  have a1 := ev_at h (show i < 100000 by first | exact lu (by assumption) rfl | exact lv (by assumption) rfl | exact lw (by assumption) rfl | exact lx (by assumption) rfl | exact ly (by assumption) rfl | omega) μ
  have a2 := ev_sign h (i := i + 1) (show i + 1 < 100000 by first | exact lu (by assumption) rfl | exact lv (by assumption) rfl | exact lw (by assumption) rfl | exact lx (by assumption) rfl | exact ly (by assumption) rfl | omega) (x := "(") (by decide +kernel) μ
  have k0 := tkAt_ok h i
  push_cast at a2
  have sk : sok k := by rw [e] at k0; exact k0.1
  have sx : sok x := by rw [e] at k0; exact k0.2
  refine ev_of (N := 60) fun m d => ?_
  refine (enter (by rfl) rfl).trans ?_; dsimp only
  simp -dsimp (disch := first | assumption | exact mi | exact jj rfl | exact ke | exact kc | exact kf | exact kg | exact kh ‹_› rfl | exact mv ‹_› | exact mw ‹_› | exact mx ‹_› | exact my ‹_› | exact mz ‹_› | exact lv ‹_› rfl | exact lw ‹_› rfl | exact lu ‹_› rfl | exact m5 ‹_› rfl | exact m7 rfl | exact mj ‹_› rfl | exact ml ke | exact ml (ml ke) | exact ml (ml kc) | exact ml (ml (ml ke)) | exact ml (ml (ml kc)) | decide +kernel | omega | (intros; contradiction)) [zipArgs, gy, gz, jk, jm, ki, kj, bq, bg, br, b7, b8, bt, bu, jn, km, ko, jo, g5, g6, bh, bv, bi, d7, aa, ag, a5, ah, au, ac, ai, a6, aj, av, ak, aw, ba, ax, a7, ae, al, a8, am, ay, af, ao, a9, aq, az, jp, bj, bw, bk, bn, bc, g7, g8, g9, jq, jr, kr, kt, bz, b4, b9, b5, ce, d9, cw, eb, cy, cz, ku, kx, ky, kz, ec, eg, c6, eh, ej, ek, er, h9, cg, et, ch, eu, ia, ey, jt, ju, c7, ci, cj, cn, ↓k7, ↓k8, ↓k9, ↓lb, ez, c8, fa, ↓lz, lf, jv, ib, lg, lh, lj, ll, lq, ls, c9, da, cq, dg, cr, b6, cu, l6, l7, l8, l9, jw, ic, jx, jy, ie, ig, n_radd', jz, ij, j0, j1, j2, j3, ik, fc, fe, fg, bp, be, dh, j4, cv, im, j5, j6, j7, io, ip, iq, ir, j8, iu, ma, mc, md, me, mm, mn, mr, mf, iv, fh, iw, iy, ↓iz, i0, fi, di, fj, dk, fk, fm, dl, fp, fq, i6, ms, mt, i7, ft, fu, dm, dq, i9, fv, dt, fw, du, ja, dw, fy, fz, jb, f0, f5, dy, dz, jc, f7, d3, f8, d4, jd, d5, f9, gn, mu, j9, gp, gq, as1', as2', as3', appendV, popV, je, mh, gs, gu, jf, d6, gv, jg, jh, ji, gw, gx, tab_token_at, tab_is_sign, tab_number_tree, a1, a2, e, e', n1, n2, n3, n4, Tk.v, eqV_str]
theorem po_word {ts : List Tk} {i : Nat} {x : Str} (h : OkTs ts) (hi : i < 10000) (μ : M) (e : tkAt ts i = (("word" : Str), x)) (hx : inL (.str x) [.str "ERL", .str "ERR", .str "FRE", .str "PI", .str "POS", .str "RND"] = some false) (e' : tkAt ts (i + 1) ≠ (("sign" : Str), ("(" : Str))) : Ev 25 fd_plain_operand μ [toks ts, .int i] (.ok .none μ) := by
  refine atFd (p := fun fd => Ev 25 fd μ [toks ts, .int i] (.ok .none μ)) ⟨_, rfl, ?_⟩
  have a1 := ev_at h (show i < 100000 by first | exact lu (by assumption) rfl | exact lv (by assumption) rfl | exact lw (by assumption) rfl | exact lx (by assumption) rfl | exact ly (by assumption) rfl | omega) μ
  have a2 := ev_sign h (i := i + 1) (show i + 1 < 100000 by first | exact lu (by assumption) rfl | exact lv (by assumption) rfl | exact lw (by assumption) rfl | exact lx (by assumption) rfl | exact ly (by assumption) rfl | omega) (x := "(") (by decide +kernel) μ
  have k0 := tkAt_ok h i
  push_cast at a2
  have sx : sok x := by rw [e] at k0; exact k0.2
  refine ev_of (N := 60) fun m d => ?_
  refine (enter (by rfl) rfl).trans ?_; dsimp only
  simp -dsimp (disch := first | assumption | exact mi | exact jj rfl | exact ke | exact kc | exact kf | exact kg | exact kh ‹_› rfl | exact mv ‹_› | exact mw ‹_› | exact mx ‹_› | exact my ‹_› | exact mz ‹_› | exact lv ‹_› rfl | exact lw ‹_› rfl | exact lu ‹_› rfl | exact m5 ‹_› rfl | exact m7 rfl | exact mj ‹_› rfl | exact ml ke | exact ml (ml ke) | exact ml (ml kc) | exact ml (ml (ml ke)) | exact ml (ml (ml kc)) | decide +kernel | omega | (intros; contradiction)) [zipArgs, gy, gz, jk, jm, ki, kj, bq, bg, br, b7, b8, bt, bu, jn, km, ko, jo, g5, g6, bh, bv, bi, d7, aa, ag, a5, ah, au, ac, ai, a6, aj, av, ak, aw, ba, ax, a7, ae, al, a8, am, ay, af, ao, a9, aq, az, jp, bj, bw, bk, bn, bc, g7, g8, g9, jq, jr, kr, kt, bz, b4, b9, b5, ce, d9, cw, eb, cy, cz, ku, kx, ky, kz, ec, eg, c6, eh, ej, ek, er, h9, cg, et, ch, eu, ia, ey, jt, ju, c7, ci, cj, cn, ↓k7, ↓k8, ↓k9, ↓lb, ez, c8, fa, ↓lz, lf, jv, ib, lg, lh, lj, ll, lq, ls, c9, da, cq, dg, cr, b6, cu, l6, l7, l8, l9, jw, ic, jx, jy, ie, ig, n_radd', jz, ij, j0, j1, j2, j3, ik, fc, fe, fg, bp, be, dh, j4, cv, im, j5, j6, j7, io, ip, iq, ir, j8, iu, ma, mc, md, me, mm, mn, mr, mf, iv, fh, iw, iy, ↓iz, i0, fi, di, fj, dk, fk, fm, dl, fp, fq, i6, ms, mt, i7, ft, fu, dm, dq, i9, fv, dt, fw, du, ja, dw, fy, fz, jb, f0, f5, dy, dz, jc, f7, d3, f8, d4, jd, d5, f9, gn, mu, j9, gp, gq, as1', as2', as3', appendV, popV, je, mh, gs, gu, jf, d6, gv, jg, jh, ji, gw, gx, cst_NO_ARGS, tab_token_at, tab_is_sign, tab_number_tree, a1, a2, e, e', hx, Tk.v, eqV_str]
theorem ev_number {ts : List Tk} {i : Nat} {v : V} (h : OkTs ts) (hi : i < 10000) (μ : M) (po : PO ts i v) : Ev 25 fd_plain_operand μ [toks ts, .int i] (.ok v μ) := by
  cases po with
  | num hp e => exact po_num h hi μ hp e
  | text hx e => exact po_text h hi μ hx e
  | paren hk e e' => rcases hk with rfl | rfl <;> exact po_paren h hi μ e (by decide +kernel) (by decide +kernel) e'
  | name hx e e' hf hy hn => exact po_name h hi μ hx e e' hf hy hn
  | fn hx e e' hf => exact po_fn h hi μ hx e e' hf
  | rnd e e' => exact po_rnd h hi μ e e'
  | @sign k x hk e =>
    by_cases e' : tkAt ts (i + 1) = (("sign" : Str), ("(" : Str))
    · rcases hk with rfl | rfl <;> exact po_paren h hi μ e (by decide +kernel) (by decide +kernel) e'
    · rcases hk with rfl | rfl <;> exact po_sign h hi μ e (by decide +kernel) (by decide +kernel) (by decide +kernel) (by decide +kernel) e'
  | @word x e hx =>
    by_cases e' : tkAt ts (i + 1) = (("sign" : Str), ("(" : Str))
    · exact po_paren h hi μ e (by decide +kernel) (by decide +kernel) e'
    · exact po_word h hi μ e hx e'
end Mine
namespace Mine
theorem tab_functions : tab "functions" = some fd_functions := tab_fd _
noncomputable def kn : List V := match evCall tab cst 60 10 [] fd_functions [] with
  | .ok (.lst l) _ => l
  | _ => []
theorem e_functions (μ : M) : Ev 2 fd_functions μ [] (.ok (.lst kn) μ) := ev_of (N := 60) (fun n d => by kernel_rfl)
theorem kn_has : (inL (.str "LEFT$") kn, inL (.str "LEN") kn) = (some true, some true) := by kernel_rfl
theorem kn_left : inL (.str "LEFT$") kn = some true := (Prod.mk.inj kn_has).1
theorem kn_len : inL (.str "LEN") kn = some true := (Prod.mk.inj kn_has).2
theorem cst_NOT : cst "NOT_STRENGTH" = some (.int 6) := by rfl
theorem cst_MINUS : cst "MINUS_STRENGTH" = some (.int 12) := by rfl
theorem is_take_operand : (tab "take_operand").isSome = true := by rfl
noncomputable abbrev fd_take_operand := fdOf "take_operand" is_take_operand
theorem tab_take_operand : tab "take_operand" = some fd_take_operand := tab_fd _
section
variable {ts : List Tk} {i : Nat} {μ : M} {r n : Nat} {l os : List V} {k w : V}
noncomputable abbrev oprd (ts : List Tk) (i : Nat) (μ : M) (r : Nat) (o : Out V) (fd : DefRec) : Prop := Ev 30 fd μ [.ref r, toks ts, .int i, .lst kn] o
theorem e_found {x : List V} (h : OkTs ts) (hi : i < 10000) (hr : μ[r]? = some (l ++ [V.level k w n])) (ho : μ[n + 1]? = some os) (hz : os.length ≤ 20000) (po : PO ts i (.tup x)) :
    oprd ts i μ r (.ok (.tup [.int (i + 1), .bool true]) (μ.set (n + 1) (os ++ [V.tup x]))) fd_take_operand := by
  refine atFd (p := oprd ts i μ r (.ok (.tup [.int (i + 1), .bool true]) (μ.set (n + 1) (os ++ [V.tup x])))) ⟨_, rfl, ?_⟩
  have a1 := ev_at h (show i < 100000 by first | exact lu (by assumption) rfl | exact lv (by assumption) rfl | exact lw (by assumption) rfl | exact lx (by assumption) rfl | exact ly (by assumption) rfl | omega) μ
  obtain ⟨N, e⟩ := ev_number h hi μ po
  obtain ⟨kd, x', hk⟩ : ∃ a b, tkAt ts i = (a, b) := ⟨_, _, rfl⟩
  rw [hk] at a1
  refine ev_in (N) 60 fun m d => ?_
  refine (enter (by rfl) rfl).trans ?_; dsimp only
  simp -dsimp (disch := first | assumption | exact mi | exact jj rfl | exact ke | exact kc | exact kf | exact kg | exact kh ‹_› rfl | exact mv ‹_› | exact mw ‹_› | exact mx ‹_› | exact my ‹_› | exact mz ‹_› | exact lv ‹_› rfl | exact lw ‹_› rfl | exact lu ‹_› rfl | exact m5 ‹_› rfl | exact m7 rfl | exact mj ‹_› rfl | exact ml ke | exact ml (ml ke) | exact ml (ml kc) | exact ml (ml (ml ke)) | exact ml (ml (ml kc)) | decide +kernel | omega | (intros; contradiction)) [zipArgs, gy, gz, jk, jm, ki, kj, bq, bg, br, b7, b8, bt, bu, jn, km, ko, jo, g5, g6, bh, bv, bi, d7, aa, ag, a5, ah, au, ac, ai, a6, aj, av, ak, aw, ba, ax, a7, ae, al, a8, am, ay, af, ao, a9, aq, az, jp, bj, bw, bk, bn, bc, g7, g8, g9, jq, jr, kr, kt, bz, b4, b9, b5, ce, d9, cw, eb, cy, cz, ku, kx, ky, kz, ec, eg, c6, eh, ej, ek, er, h9, cg, et, ch, eu, ia, ey, jt, ju, c7, ci, cj, cn, ↓k7, ↓k8, ↓k9, ↓lb, ez, c8, fa, ↓lz, lf, jv, ib, lg, lh, lj, ll, lq, ls, c9, da, cq, dg, cr, b6, cu, l6, l7, l8, l9, jw, ic, jx, jy, ie, ig, n_radd', jz, ij, j0, j1, j2, j3, ik, fc, fe, fg, bp, be, dh, j4, cv, im, j5, j6, j7, io, ip, iq, ir, j8, iu, ma, mc, md, me, mm, mn, mr, mf, iv, fh, iw, iy, ↓iz, i0, fi, di, fj, dk, fk, fm, dl, fp, fq, i6, ms, mt, i7, ft, fu, dm, dq, i9, fv, dt, fw, du, ja, dw, fy, fz, jb, f0, f5, dy, dz, jc, f7, d3, f8, d4, jd, d5, f9, gn, mu, j9, gp, gq, as1', as2', as3', appendV, popV, je, mh, gs, gu, jf, d6, gv, jg, jh, ji, gw, gx, tab_token_at, tab_plain_operand, a1, e, hr, ho, Tk.v]
theorem e_neg (h : OkTs ts) (hi : i < 10000) (hr : μ[r]? = some (l ++ [V.level k w n])) (ho : μ[n + 2]? = some os) (hz : os.length ≤ 20000) (hk : tkAt ts i = (("sign" : Str), ("-" : Str))) :
    oprd ts i μ r (.ok (.tup [.int (i + 1), .bool false]) (μ.set (n + 2) (os ++ [V.tup [.str "neg", .int 12]]))) fd_take_operand := by
  refine atFd (p := oprd ts i μ r (.ok (.tup [.int (i + 1), .bool false]) (μ.set (n + 2) (os ++ [V.tup [.str "neg", .int 12]])))) ⟨_, rfl, ?_⟩
  have a1 := ev_at h (show i < 100000 by first | exact lu (by assumption) rfl | exact lv (by assumption) rfl | exact lw (by assumption) rfl | exact lx (by assumption) rfl | exact ly (by assumption) rfl | omega) μ
  obtain ⟨N, e⟩ := ev_number h hi μ (.sign (.inl rfl) hk)
  rw [hk] at a1
  have s1 : sok "sign" := by decide +kernel
  have s2 : sok "-" := by decide +kernel
  refine ev_in (N) 60 fun m d => ?_
  refine (enter (by rfl) rfl).trans ?_; dsimp only
  simp -dsimp (disch := first | assumption | exact mi | exact jj rfl | exact ke | exact kc | exact kf | exact kg | exact kh ‹_› rfl | exact mv ‹_› | exact mw ‹_› | exact mx ‹_› | exact my ‹_› | exact mz ‹_› | exact lv ‹_› rfl | exact lw ‹_› rfl | exact lu ‹_› rfl | exact m5 ‹_› rfl | exact m7 rfl | exact mj ‹_› rfl | exact ml ke | exact ml (ml ke) | exact ml (ml kc) | exact ml (ml (ml ke)) | exact ml (ml (ml kc)) | decide +kernel | omega | (intros; contradiction)) [zipArgs, gy, gz, jk, jm, ki, kj, bq, bg, br, b7, b8, bt, bu, jn, km, ko, jo, g5, g6, bh, bv, bi, d7, aa, ag, a5, ah, au, ac, ai, a6, aj, av, ak, aw, ba, ax, a7, ae, al, a8, am, ay, af, ao, a9, aq, az, jp, bj, bw, bk, bn, bc, g7, g8, g9, jq, jr, kr, kt, bz, b4, b9, b5, ce, d9, cw, eb, cy, cz, ku, kx, ky, kz, ec, eg, c6, eh, ej, ek, er, h9, cg, et, ch, eu, ia, ey, jt, ju, c7, ci, cj, cn, ↓k7, ↓k8, ↓k9, ↓lb, ez, c8, fa, ↓lz, lf, jv, ib, lg, lh, lj, ll, lq, ls, c9, da, cq, dg, cr, b6, cu, l6, l7, l8, l9, jw, ic, jx, jy, ie, ig, n_radd', jz, ij, j0, j1, j2, j3, ik, fc, fe, fg, bp, be, dh, j4, cv, im, j5, j6, j7, io, ip, iq, ir, j8, iu, ma, mc, md, me, mm, mn, mr, mf, iv, fh, iw, iy, ↓iz, i0, fi, di, fj, dk, fk, fm, dl, fp, fq, i6, ms, mt, i7, ft, fu, dm, dq, i9, fv, dt, fw, du, ja, dw, fy, fz, jb, f0, f5, dy, dz, jc, f7, d3, f8, d4, jd, d5, f9, gn, mu, j9, gp, gq, as1', as2', as3', appendV, popV, je, mh, gs, gu, jf, d6, gv, jg, jh, ji, gw, gx, tab_token_at, tab_plain_operand, a1, e, hr, ho, Tk.v, eqV_str, cst_MINUS]
theorem e_not (h : OkTs ts) (hi : i < 10000) (hr : μ[r]? = some (l ++ [V.level k w n])) (ho : μ[n + 2]? = some os) (hz : os.length ≤ 20000) (hk : tkAt ts i = (("word" : Str), ("NOT" : Str))) :
    oprd ts i μ r (.ok (.tup [.int (i + 1), .bool false]) (μ.set (n + 2) (os ++ [V.tup [.str "not", .int 6]]))) fd_take_operand := by
  refine atFd (p := oprd ts i μ r (.ok (.tup [.int (i + 1), .bool false]) (μ.set (n + 2) (os ++ [V.tup [.str "not", .int 6]])))) ⟨_, rfl, ?_⟩
  have a1 := ev_at h (show i < 100000 by first | exact lu (by assumption) rfl | exact lv (by assumption) rfl | exact lw (by assumption) rfl | exact lx (by assumption) rfl | exact ly (by assumption) rfl | omega) μ
  obtain ⟨N, e⟩ := ev_number h hi μ (.word hk (by kernel_rfl))
  rw [hk] at a1
  have s1 : sok "sign" := by decide +kernel
  have s2 : sok "-" := by decide +kernel
  have s3 : sok "word" := by decide +kernel
  have s4 : sok "NOT" := by decide +kernel
  refine ev_in (N) 60 fun m d => ?_
  refine (enter (by rfl) rfl).trans ?_; dsimp only
  simp -dsimp (disch := first | assumption | exact mi | exact jj rfl | exact ke | exact kc | exact kf | exact kg | exact kh ‹_› rfl | exact mv ‹_› | exact mw ‹_› | exact mx ‹_› | exact my ‹_› | exact mz ‹_› | exact lv ‹_› rfl | exact lw ‹_› rfl | exact lu ‹_› rfl | exact m5 ‹_› rfl | exact m7 rfl | exact mj ‹_› rfl | exact ml ke | exact ml (ml ke) | exact ml (ml kc) | exact ml (ml (ml ke)) | exact ml (ml (ml kc)) | decide +kernel | omega | (intros; contradiction)) [zipArgs, gy, gz, jk, jm, ki, kj, bq, bg, br, b7, b8, bt, bu, jn, km, ko, jo, g5, g6, bh, bv, bi, d7, aa, ag, a5, ah, au, ac, ai, a6, aj, av, ak, aw, ba, ax, a7, ae, al, a8, am, ay, af, ao, a9, aq, az, jp, bj, bw, bk, bn, bc, g7, g8, g9, jq, jr, kr, kt, bz, b4, b9, b5, ce, d9, cw, eb, cy, cz, ku, kx, ky, kz, ec, eg, c6, eh, ej, ek, er, h9, cg, et, ch, eu, ia, ey, jt, ju, c7, ci, cj, cn, ↓k7, ↓k8, ↓k9, ↓lb, ez, c8, fa, ↓lz, lf, jv, ib, lg, lh, lj, ll, lq, ls, c9, da, cq, dg, cr, b6, cu, l6, l7, l8, l9, jw, ic, jx, jy, ie, ig, n_radd', jz, ij, j0, j1, j2, j3, ik, fc, fe, fg, bp, be, dh, j4, cv, im, j5, j6, j7, io, ip, iq, ir, j8, iu, ma, mc, md, me, mm, mn, mr, mf, iv, fh, iw, iy, ↓iz, i0, fi, di, fj, dk, fk, fm, dl, fp, fq, i6, ms, mt, i7, ft, fu, dm, dq, i9, fv, dt, fw, du, ja, dw, fy, fz, jb, f0, f5, dy, dz, jc, f7, d3, f8, d4, jd, d5, f9, gn, mu, j9, gp, gq, as1', as2', as3', appendV, popV, je, mh, gs, gu, jf, d6, gv, jg, jh, ji, gw, gx, tab_token_at, tab_plain_operand, a1, e, hr, ho, Tk.v, eqV_str, cst_NOT]
theorem e_group (h : OkTs ts) (hi : i < 10000) (hr : μ[r]? = some l) (hl : l.length ≤ 60) (hk : tkAt ts i = (("sign" : Str), ("(" : Str))) :
    oprd ts i μ r (.ok (.tup [.int (i + 1), .bool false]) ((μ ++ [[], [], []]).set r (l ++ [V.level (.str "group") (.str "") μ.length]))) fd_take_operand := by
  refine atFd (x := "take_operand") (h := is_take_operand) (p := oprd ts i μ r (.ok (.tup [.int (i + 1), .bool false]) ((μ ++ [[], [], []]).set r (l ++ [V.level (.str "group") (.str "") μ.length])))) ⟨_, rfl, ?_⟩
  have a1 := ev_at h (show i < 100000 by first | exact lu (by assumption) rfl | exact lv (by assumption) rfl | exact lw (by assumption) rfl | exact lx (by assumption) rfl | exact ly (by assumption) rfl | omega) μ
  obtain ⟨N, e⟩ := ev_number h hi μ (.sign (.inl rfl) hk)
  obtain ⟨N2, e2⟩ := e_opened (k := "group") (w := "") hr hl
  rw [hk] at a1
  have s1 : sok "sign" := by decide +kernel
  have s2 : sok "-" := by decide +kernel
  have s3 : sok "word" := by decide +kernel
  have s4 : sok "(" := by decide +kernel
  refine ev_in (N + N2) 60 fun m d => ?_
  refine (enter (by rfl) rfl).trans ?_; dsimp only
  simp -dsimp (disch := first | assumption | exact mi | exact jj rfl | exact ke | exact kc | exact kf | exact kg | exact kh ‹_› rfl | exact mv ‹_› | exact mw ‹_› | exact mx ‹_› | exact my ‹_› | exact mz ‹_› | exact lv ‹_› rfl | exact lw ‹_› rfl | exact lu ‹_› rfl | exact m5 ‹_› rfl | exact m7 rfl | exact mj ‹_› rfl | exact ml ke | exact ml (ml ke) | exact ml (ml kc) | exact ml (ml (ml ke)) | exact ml (ml (ml kc)) | decide +kernel | omega | (intros; contradiction)) [zipArgs, gy, gz, jk, jm, ki, kj, bq, bg, br, b7, b8, bt, bu, jn, km, ko, jo, g5, g6, bh, bv, bi, d7, aa, ag, a5, ah, au, ac, ai, a6, aj, av, ak, aw, ba, ax, a7, ae, al, a8, am, ay, af, ao, a9, aq, az, jp, bj, bw, bk, bn, bc, g7, g8, g9, jq, jr, kr, kt, bz, b4, b9, b5, ce, d9, cw, eb, cy, cz, ku, kx, ky, kz, ec, eg, c6, eh, ej, ek, er, h9, cg, et, ch, eu, ia, ey, jt, ju, c7, ci, cj, cn, ↓k7, ↓k8, ↓k9, ↓lb, ez, c8, fa, ↓lz, lf, jv, ib, lg, lh, lj, ll, lq, ls, c9, da, cq, dg, cr, b6, cu, l6, l7, l8, l9, jw, ic, jx, jy, ie, ig, n_radd', jz, ij, j0, j1, j2, j3, ik, fc, fe, fg, bp, be, dh, j4, cv, im, j5, j6, j7, io, ip, iq, ir, j8, iu, ma, mc, md, me, mm, mn, mr, mf, iv, fh, iw, iy, ↓iz, i0, fi, di, fj, dk, fk, fm, dl, fp, fq, i6, ms, mt, i7, ft, fu, dm, dq, i9, fv, dt, fw, du, ja, dw, fy, fz, jb, f0, f5, dy, dz, jc, f7, d3, f8, d4, jd, d5, f9, gn, mu, j9, gp, gq, as1', as2', as3', appendV, popV, je, mh, gs, gu, jf, d6, gv, jg, jh, ji, gw, gx, tab_token_at, tab_plain_operand, tab_opened, a1, e, e2, Tk.v, eqV_str]
theorem e_group_st (h : OkTs ts) (hi : i < 10000) (hr : μ[r]? = some l) (hl : 60 < l.length) (hz : l.length ≤ 1000) (hk : tkAt ts i = (("sign" : Str), ("(" : Str))) : oprd ts i μ r (.exc "ST" μ) fd_take_operand := by
  refine atFd (p := oprd ts i μ r (.exc "ST" μ)) ⟨_, rfl, ?_⟩
  have a1 := ev_at h (show i < 100000 by first | exact lu (by assumption) rfl | exact lv (by assumption) rfl | exact lw (by assumption) rfl | exact lx (by assumption) rfl | exact ly (by assumption) rfl | omega) μ
  obtain ⟨N, e⟩ := ev_number h hi μ (.sign (.inl rfl) hk)
  obtain ⟨N2, e2⟩ := e_opened_st (k := "group") (w := "") hr hl hz
  rw [hk] at a1
  have s1 : sok "sign" := by decide +kernel
  have s2 : sok "-" := by decide +kernel
  have s3 : sok "word" := by decide +kernel
  have s4 : sok "(" := by decide +kernel
  refine ev_in (N + N2) 60 fun m d => ?_
  refine (enter (by rfl) rfl).trans ?_; dsimp only
  simp -dsimp (disch := first | assumption | exact mi | exact jj rfl | exact ke | exact kc | exact kf | exact kg | exact kh ‹_› rfl | exact mv ‹_› | exact mw ‹_› | exact mx ‹_› | exact my ‹_› | exact mz ‹_› | exact lv ‹_› rfl | exact lw ‹_› rfl | exact lu ‹_› rfl | exact m5 ‹_› rfl | exact m7 rfl | exact mj ‹_› rfl | exact ml ke | exact ml (ml ke) | exact ml (ml kc) | exact ml (ml (ml ke)) | exact ml (ml (ml kc)) | decide +kernel | omega | (intros; contradiction)) [zipArgs, gy, gz, jk, jm, ki, kj, bq, bg, br, b7, b8, bt, bu, jn, km, ko, jo, g5, g6, bh, bv, bi, d7, aa, ag, a5, ah, au, ac, ai, a6, aj, av, ak, aw, ba, ax, a7, ae, al, a8, am, ay, af, ao, a9, aq, az, jp, bj, bw, bk, bn, bc, g7, g8, g9, jq, jr, kr, kt, bz, b4, b9, b5, ce, d9, cw, eb, cy, cz, ku, kx, ky, kz, ec, eg, c6, eh, ej, ek, er, h9, cg, et, ch, eu, ia, ey, jt, ju, c7, ci, cj, cn, ↓k7, ↓k8, ↓k9, ↓lb, ez, c8, fa, ↓lz, lf, jv, ib, lg, lh, lj, ll, lq, ls, c9, da, cq, dg, cr, b6, cu, l6, l7, l8, l9, jw, ic, jx, jy, ie, ig, n_radd', jz, ij, j0, j1, j2, j3, ik, fc, fe, fg, bp, be, dh, j4, cv, im, j5, j6, j7, io, ip, iq, ir, j8, iu, ma, mc, md, me, mm, mn, mr, mf, iv, fh, iw, iy, ↓iz, i0, fi, di, fj, dk, fk, fm, dl, fp, fq, i6, ms, mt, i7, ft, fu, dm, dq, i9, fv, dt, fw, du, ja, dw, fy, fz, jb, f0, f5, dy, dz, jc, f7, d3, f8, d4, jd, d5, f9, gn, mu, j9, gp, gq, as1', as2', as3', appendV, popV, je, mh, gs, gu, jf, d6, gv, jg, jh, ji, gw, gx, tab_token_at, tab_plain_operand, tab_opened, a1, e, e2, Tk.v, eqV_str]
end
end Mine
namespace Mine
section
variable {ts : List Tk} {i : Nat} {μ : M} {r n : Nat} {l os : List V}
inductive Opens : Str → Str → Str → Prop
  | call {x : Str} (h : inL (.str x) kn = some true) (hx : inL (.str x) [.str "ERL", .str "ERR", .str "FRE", .str "PI", .str "POS", .str "RND"] = some false) (hn : x ≠ "NOT") : Opens "word" x "call"
  | fn {x : Str} (hx : x.length ≤ 100) (h : fnWord x = some (.str "FN")) : Opens "name" x "fn"
  | item {x y : Str} (hx : x.length ≤ 100) (h : fnWord x = some (.str y)) (hy : sok y) (hn : y ≠ "FN") : Opens "name" x "item"
theorem e_open {kd x kind : Str} (h : OkTs ts) (hi : i < 9000) (hr : μ[r]? = some l) (hl : l.length ≤ 60) (hk : tkAt ts i = (kd, x)) (hp : tkAt ts (i + 1) = (("sign" : Str), ("(" : Str))) (op : Opens kd x kind) :
    oprd ts i μ r (.ok (.tup [.int (i + 2), .bool false]) ((μ ++ [[], [], []]).set r (l ++ [V.level (.str kind) (.str x) μ.length]))) fd_take_operand := by
  refine atFd (x := "take_operand") (h := is_take_operand) (p := oprd ts i μ r (.ok (.tup [.int (i + 2), .bool false]) ((μ ++ [[], [], []]).set r (l ++ [V.level (.str kind) (.str x) μ.length])))) ⟨_, rfl, ?_⟩
  have a1 := ev_at h (show i < 100000 by first | exact lu (by assumption) rfl | exact lv (by assumption) rfl | exact lw (by assumption) rfl | exact lx (by assumption) rfl | exact ly (by assumption) rfl | omega) μ
  obtain ⟨N, e⟩ := ev_number h (show i < 10000 by first | exact lu (by assumption) rfl | exact lv (by assumption) rfl | exact lw (by assumption) rfl | exact lx (by assumption) rfl | exact ly (by assumption) rfl | omega) μ (.paren (by cases op <;> simp) hk hp)
  obtain ⟨N2, e2⟩ := e_opened (k := kind) (w := x) hr hl
  obtain ⟨N3, e3⟩ := e_expect h (show i + 1 < 10000 by first | exact lu (by assumption) rfl | exact lv (by assumption) rfl | exact lw (by assumption) rfl | exact lx (by assumption) rfl | exact ly (by assumption) rfl | omega) (x := "(") (by decide +kernel) μ
  rw [hp, if_pos rfl] at e3
  push_cast at e3
  have k0 := tkAt_ok h i
  rw [hk] at a1 k0
  have sx : sok x := k0.2
  have s1 : sok "sign" := by decide +kernel
  have s2 : sok "-" := by decide +kernel
  have s3 : sok "word" := by decide +kernel
  have s4 : sok "(" := by decide +kernel
  have s5 : sok "name" := by decide +kernel
  have s6 : sok "NOT" := by decide +kernel
  have s7 : sok "FN" := by decide +kernel
  have ad : (i : Int) + 1 + 1 - 1 = i + 1 := by omega
  have ad2 : (i : Int) + 1 + 1 = i + 2 := by omega
  refine ev_in (N + N2 + N3) 60 fun m d => ?_
  refine (enter (by rfl) rfl).trans ?_; dsimp only
  cases op with
  | call hx hy hn => simp -dsimp (disch := first | assumption | exact mi | exact jj rfl | exact ke | exact kc | exact kf | exact kg | exact kh ‹_› rfl | exact mv ‹_› | exact mw ‹_› | exact mx ‹_› | exact my ‹_› | exact mz ‹_› | exact lv ‹_› rfl | exact lw ‹_› rfl | exact lu ‹_› rfl | exact m5 ‹_› rfl | exact m7 rfl | exact mj ‹_› rfl | exact ml ke | exact ml (ml ke) | exact ml (ml kc) | exact ml (ml (ml ke)) | exact ml (ml (ml kc)) | decide +kernel | omega | (intros; contradiction)) [zipArgs, gy, gz, jk, jm, ki, kj, bq, bg, br, b7, b8, bt, bu, jn, km, ko, jo, g5, g6, bh, bv, bi, d7, aa, ag, a5, ah, au, ac, ai, a6, aj, av, ak, aw, ba, ax, a7, ae, al, a8, am, ay, af, ao, a9, aq, az, jp, bj, bw, bk, bn, bc, g7, g8, g9, jq, jr, kr, kt, bz, b4, b9, b5, ce, d9, cw, eb, cy, cz, ku, kx, ky, kz, ec, eg, c6, eh, ej, ek, er, h9, cg, et, ch, eu, ia, ey, jt, ju, c7, ci, cj, cn, ↓k7, ↓k8, ↓k9, ↓lb, ez, c8, fa, ↓lz, lf, jv, ib, lg, lh, lj, ll, lq, ls, c9, da, cq, dg, cr, b6, cu, l6, l7, l8, l9, jw, ic, jx, jy, ie, ig, n_radd', jz, ij, j0, j1, j2, j3, ik, fc, fe, fg, bp, be, dh, j4, cv, im, j5, j6, j7, io, ip, iq, ir, j8, iu, ma, mc, md, me, mm, mn, mr, mf, iv, fh, iw, iy, ↓iz, i0, fi, di, fj, dk, fk, fm, dl, fp, fq, i6, ms, mt, i7, ft, fu, dm, dq, i9, fv, dt, fw, du, ja, dw, fy, fz, jb, f0, f5, dy, dz, jc, f7, d3, f8, d4, jd, d5, f9, gn, mu, j9, gp, gq, as1', as2', as3', appendV, popV, je, mh, gs, gu, jf, d6, gv, jg, jh, ji, gw, gx, tab_token_at, tab_plain_operand, tab_opened, tab_expect, a1, e, e2, e3, Tk.v, eqV_str, ad, ad2, hx, hn]
  | fn hx hf =>
    have ok : slOk (.str x) = true := decide_eq_true (Nat.le_trans hx (by decide))
    unfold fnWord at hf
    simp -dsimp (disch := first | assumption | exact mi | exact jj rfl | exact ke | exact kc | exact kf | exact kg | exact kh ‹_› rfl | exact mv ‹_› | exact mw ‹_› | exact mx ‹_› | exact my ‹_› | exact mz ‹_› | exact lv ‹_› rfl | exact lw ‹_› rfl | exact lu ‹_› rfl | exact m5 ‹_› rfl | exact m7 rfl | exact mj ‹_› rfl | exact ml ke | exact ml (ml ke) | exact ml (ml kc) | exact ml (ml (ml ke)) | exact ml (ml (ml kc)) | decide +kernel | omega | (intros; contradiction)) [zipArgs, gy, gz, jk, jm, ki, kj, bq, bg, br, b7, b8, bt, bu, jn, km, ko, jo, g5, g6, bh, bv, bi, d7, aa, ag, a5, ah, au, ac, ai, a6, aj, av, ak, aw, ba, ax, a7, ae, al, a8, am, ay, af, ao, a9, aq, az, jp, bj, bw, bk, bn, bc, g7, g8, g9, jq, jr, kr, kt, bz, b4, b9, b5, ce, d9, cw, eb, cy, cz, ku, kx, ky, kz, ec, eg, c6, eh, ej, ek, er, h9, cg, et, ch, eu, ia, ey, jt, ju, c7, ci, cj, cn, ↓k7, ↓k8, ↓k9, ↓lb, ez, c8, fa, ↓lz, lf, jv, ib, lg, lh, lj, ll, lq, ls, c9, da, cq, dg, cr, b6, cu, l6, l7, l8, l9, jw, ic, jx, jy, ie, ig, n_radd', jz, ij, j0, j1, j2, j3, ik, fc, fe, fg, bp, be, dh, j4, cv, im, j5, j6, j7, io, ip, iq, ir, j8, iu, ma, mc, md, me, mm, mn, mr, mf, iv, fh, iw, iy, ↓iz, i0, fi, di, fj, dk, fk, fm, dl, fp, fq, i6, ms, mt, i7, ft, fu, dm, dq, i9, fv, dt, fw, du, ja, dw, fy, fz, jb, f0, f5, dy, dz, jc, f7, d3, f8, d4, jd, d5, f9, gn, mu, j9, gp, gq, as1', as2', as3', appendV, popV, je, mh, gs, gu, jf, d6, gv, jg, jh, ji, gw, gx, tab_token_at, tab_plain_operand, tab_opened, tab_expect, a1, e, e2, e3, Tk.v, eqV_str, ad, ad2, ok, hf]
  | item hx hf hy hn =>
    have ok : slOk (.str x) = true := decide_eq_true (Nat.le_trans hx (by decide))
    unfold fnWord at hf
    simp -dsimp (disch := first | assumption | exact mi | exact jj rfl | exact ke | exact kc | exact kf | exact kg | exact kh ‹_› rfl | exact mv ‹_› | exact mw ‹_› | exact mx ‹_› | exact my ‹_› | exact mz ‹_› | exact lv ‹_› rfl | exact lw ‹_› rfl | exact lu ‹_› rfl | exact m5 ‹_› rfl | exact m7 rfl | exact mj ‹_› rfl | exact ml ke | exact ml (ml ke) | exact ml (ml kc) | exact ml (ml (ml ke)) | exact ml (ml (ml kc)) | decide +kernel | omega | (intros; contradiction)) [zipArgs, gy, gz, jk, jm, ki, kj, bq, bg, br, b7, b8, bt, bu, jn, km, ko, jo, g5, g6, bh, bv, bi, d7, aa, ag, a5, ah, au, ac, ai, a6, aj, av, ak, aw, ba, ax, a7, ae, al, a8, am, ay, af, ao, a9, aq, az, jp, bj, bw, bk, bn, bc, g7, g8, g9, jq, jr, kr, kt, bz, b4, b9, b5, ce, d9, cw, eb, cy, cz, ku, kx, ky, kz, ec, eg, c6, eh, ej, ek, er, h9, cg, et, ch, eu, ia, ey, jt, ju, c7, ci, cj, cn, ↓k7, ↓k8, ↓k9, ↓lb, ez, c8, fa, ↓lz, lf, jv, ib, lg, lh, lj, ll, lq, ls, c9, da, cq, dg, cr, b6, cu, l6, l7, l8, l9, jw, ic, jx, jy, ie, ig, n_radd', jz, ij, j0, j1, j2, j3, ik, fc, fe, fg, bp, be, dh, j4, cv, im, j5, j6, j7, io, ip, iq, ir, j8, iu, ma, mc, md, me, mm, mn, mr, mf, iv, fh, iw, iy, ↓iz, i0, fi, di, fj, dk, fk, fm, dl, fp, fq, i6, ms, mt, i7, ft, fu, dm, dq, i9, fv, dt, fw, du, ja, dw, fy, fz, jb, f0, f5, dy, dz, jc, f7, d3, f8, d4, jd, d5, f9, gn, mu, j9, gp, gq, as1', as2', as3', appendV, popV, je, mh, gs, gu, jf, d6, gv, jg, jh, ji, gw, gx, tab_token_at, tab_plain_operand, tab_opened, tab_expect, a1, e, e2, e3, Tk.v, eqV_str, ad, ad2, ok, hf, hn]
theorem e_sn {kd x : Str} (h : OkTs ts) (hi : i < 10000) (hk : tkAt ts i = (kd, x)) (c : kd = "end" ∨ (kd = "sign" ∧ x ≠ "-" ∧ x ≠ "(" ∧ x ≠ "+")) : oprd ts i μ r (.exc "SN" μ) fd_take_operand := by
  refine atFd (p := oprd ts i μ r (.exc "SN" μ)) ⟨_, rfl, ?_⟩
  have a1 := ev_at h (show i < 100000 by first | exact lu (by assumption) rfl | exact lv (by assumption) rfl | exact lw (by assumption) rfl | exact lx (by assumption) rfl | exact ly (by assumption) rfl | omega) μ
  obtain ⟨N, e⟩ := ev_number h (show i < 10000 by first | exact lu (by assumption) rfl | exact lv (by assumption) rfl | exact lw (by assumption) rfl | exact lx (by assumption) rfl | exact ly (by assumption) rfl | omega) μ (.sign (by rcases c with c | c <;> simp [c]) hk)
  have k0 := tkAt_ok h i
  rw [hk] at a1 k0
  have sx : sok x := k0.2
  have s1 : sok "sign" := by decide +kernel
  have s2 : sok "-" := by decide +kernel
  have s3 : sok "word" := by decide +kernel
  have s4 : sok "(" := by decide +kernel
  have s5 : sok "name" := by decide +kernel
  have s6 : sok "end" := by decide +kernel
  have s7 : sok "+" := by decide +kernel
  refine ev_in (N) 60 fun m d => ?_
  refine (enter (by rfl) rfl).trans ?_; dsimp only
  rcases c with rfl | ⟨rfl, c1, c2, c3⟩
  · simp -dsimp (disch := first | assumption | exact mi | exact jj rfl | exact ke | exact kc | exact kf | exact kg | exact kh ‹_› rfl | exact mv ‹_› | exact mw ‹_› | exact mx ‹_› | exact my ‹_› | exact mz ‹_› | exact lv ‹_› rfl | exact lw ‹_› rfl | exact lu ‹_› rfl | exact m5 ‹_› rfl | exact m7 rfl | exact mj ‹_› rfl | exact ml ke | exact ml (ml ke) | exact ml (ml kc) | exact ml (ml (ml ke)) | exact ml (ml (ml kc)) | decide +kernel | omega | (intros; contradiction)) [zipArgs, gy, gz, jk, jm, ki, kj, bq, bg, br, b7, b8, bt, bu, jn, km, ko, jo, g5, g6, bh, bv, bi, d7, aa, ag, a5, ah, au, ac, ai, a6, aj, av, ak, aw, ba, ax, a7, ae, al, a8, am, ay, af, ao, a9, aq, az, jp, bj, bw, bk, bn, bc, g7, g8, g9, jq, jr, kr, kt, bz, b4, b9, b5, ce, d9, cw, eb, cy, cz, ku, kx, ky, kz, ec, eg, c6, eh, ej, ek, er, h9, cg, et, ch, eu, ia, ey, jt, ju, c7, ci, cj, cn, ↓k7, ↓k8, ↓k9, ↓lb, ez, c8, fa, ↓lz, lf, jv, ib, lg, lh, lj, ll, lq, ls, c9, da, cq, dg, cr, b6, cu, l6, l7, l8, l9, jw, ic, jx, jy, ie, ig, n_radd', jz, ij, j0, j1, j2, j3, ik, fc, fe, fg, bp, be, dh, j4, cv, im, j5, j6, j7, io, ip, iq, ir, j8, iu, ma, mc, md, me, mm, mn, mr, mf, iv, fh, iw, iy, ↓iz, i0, fi, di, fj, dk, fk, fm, dl, fp, fq, i6, ms, mt, i7, ft, fu, dm, dq, i9, fv, dt, fw, du, ja, dw, fy, fz, jb, f0, f5, dy, dz, jc, f7, d3, f8, d4, jd, d5, f9, gn, mu, j9, gp, gq, as1', as2', as3', appendV, popV, je, mh, gs, gu, jf, d6, gv, jg, jh, ji, gw, gx, tab_token_at, tab_plain_operand, tab_BasicError, a1, e, Tk.v, eqV_str]
  · simp -dsimp (disch := first | assumption | exact mi | exact jj rfl | exact ke | exact kc | exact kf | exact kg | exact kh ‹_› rfl | exact mv ‹_› | exact mw ‹_› | exact mx ‹_› | exact my ‹_› | exact mz ‹_› | exact lv ‹_› rfl | exact lw ‹_› rfl | exact lu ‹_› rfl | exact m5 ‹_› rfl | exact m7 rfl | exact mj ‹_› rfl | exact ml ke | exact ml (ml ke) | exact ml (ml kc) | exact ml (ml (ml ke)) | exact ml (ml (ml kc)) | decide +kernel | omega | (intros; contradiction)) [zipArgs, gy, gz, jk, jm, ki, kj, bq, bg, br, b7, b8, bt, bu, jn, km, ko, jo, g5, g6, bh, bv, bi, d7, aa, ag, a5, ah, au, ac, ai, a6, aj, av, ak, aw, ba, ax, a7, ae, al, a8, am, ay, af, ao, a9, aq, az, jp, bj, bw, bk, bn, bc, g7, g8, g9, jq, jr, kr, kt, bz, b4, b9, b5, ce, d9, cw, eb, cy, cz, ku, kx, ky, kz, ec, eg, c6, eh, ej, ek, er, h9, cg, et, ch, eu, ia, ey, jt, ju, c7, ci, cj, cn, ↓k7, ↓k8, ↓k9, ↓lb, ez, c8, fa, ↓lz, lf, jv, ib, lg, lh, lj, ll, lq, ls, c9, da, cq, dg, cr, b6, cu, l6, l7, l8, l9, jw, ic, jx, jy, ie, ig, n_radd', jz, ij, j0, j1, j2, j3, ik, fc, fe, fg, bp, be, dh, j4, cv, im, j5, j6, j7, io, ip, iq, ir, j8, iu, ma, mc, md, me, mm, mn, mr, mf, iv, fh, iw, iy, ↓iz, i0, fi, di, fj, dk, fk, fm, dl, fp, fq, i6, ms, mt, i7, ft, fu, dm, dq, i9, fv, dt, fw, du, ja, dw, fy, fz, jb, f0, f5, dy, dz, jc, f7, d3, f8, d4, jd, d5, f9, gn, mu, j9, gp, gq, as1', as2', as3', appendV, popV, je, mh, gs, gu, jf, d6, gv, jg, jh, ji, gw, gx, tab_token_at, tab_plain_operand, tab_BasicError, a1, e, Tk.v, eqV_str, c1, c2, c3]
theorem e_sn_word {x : Str} (h : OkTs ts) (hi : i < 9000) (hk : tkAt ts i = (("word" : Str), x)) (hp : tkAt ts (i + 1) ≠ (("sign" : Str), ("(" : Str))) (op : Opens "word" x "call") : oprd ts i μ r (.exc "SN" μ) fd_take_operand := by
  refine atFd (p := oprd ts i μ r (.exc "SN" μ)) ⟨_, rfl, ?_⟩
  cases op with
  | call hx hy hn =>
  have a1 := ev_at h (show i < 100000 by first | exact lu (by assumption) rfl | exact lv (by assumption) rfl | exact lw (by assumption) rfl | exact lx (by assumption) rfl | exact ly (by assumption) rfl | omega) μ
  obtain ⟨N, e⟩ := ev_number h (show i < 10000 by first | exact lu (by assumption) rfl | exact lv (by assumption) rfl | exact lw (by assumption) rfl | exact lx (by assumption) rfl | exact ly (by assumption) rfl | omega) μ (.word hk hy)
  obtain ⟨N3, e3⟩ := e_expect h (show i + 1 < 10000 by first | exact lu (by assumption) rfl | exact lv (by assumption) rfl | exact lw (by assumption) rfl | exact lx (by assumption) rfl | exact ly (by assumption) rfl | omega) (x := "(") (by decide +kernel) μ
  rw [if_neg hp] at e3
  push_cast at e3
  have k0 := tkAt_ok h i
  rw [hk] at a1 k0
  have sx : sok x := k0.2
  have s1 : sok "sign" := by decide +kernel
  have s2 : sok "-" := by decide +kernel
  have s3 : sok "word" := by decide +kernel
  have s4 : sok "(" := by decide +kernel
  have s5 : sok "name" := by decide +kernel
  have s6 : sok "NOT" := by decide +kernel
  refine ev_in (N + N3) 60 fun m d => ?_
  refine (enter (by rfl) rfl).trans ?_; dsimp only
  simp -dsimp (disch := first | assumption | exact mi | exact jj rfl | exact ke | exact kc | exact kf | exact kg | exact kh ‹_› rfl | exact mv ‹_› | exact mw ‹_› | exact mx ‹_› | exact my ‹_› | exact mz ‹_› | exact lv ‹_› rfl | exact lw ‹_› rfl | exact lu ‹_› rfl | exact m5 ‹_› rfl | exact m7 rfl | exact mj ‹_› rfl | exact ml ke | exact ml (ml ke) | exact ml (ml kc) | exact ml (ml (ml ke)) | exact ml (ml (ml kc)) | decide +kernel | omega | (intros; contradiction)) [zipArgs, gy, gz, jk, jm, ki, kj, bq, bg, br, b7, b8, bt, bu, jn, km, ko, jo, g5, g6, bh, bv, bi, d7, aa, ag, a5, ah, au, ac, ai, a6, aj, av, ak, aw, ba, ax, a7, ae, al, a8, am, ay, af, ao, a9, aq, az, jp, bj, bw, bk, bn, bc, g7, g8, g9, jq, jr, kr, kt, bz, b4, b9, b5, ce, d9, cw, eb, cy, cz, ku, kx, ky, kz, ec, eg, c6, eh, ej, ek, er, h9, cg, et, ch, eu, ia, ey, jt, ju, c7, ci, cj, cn, ↓k7, ↓k8, ↓k9, ↓lb, ez, c8, fa, ↓lz, lf, jv, ib, lg, lh, lj, ll, lq, ls, c9, da, cq, dg, cr, b6, cu, l6, l7, l8, l9, jw, ic, jx, jy, ie, ig, n_radd', jz, ij, j0, j1, j2, j3, ik, fc, fe, fg, bp, be, dh, j4, cv, im, j5, j6, j7, io, ip, iq, ir, j8, iu, ma, mc, md, me, mm, mn, mr, mf, iv, fh, iw, iy, ↓iz, i0, fi, di, fj, dk, fk, fm, dl, fp, fq, i6, ms, mt, i7, ft, fu, dm, dq, i9, fv, dt, fw, du, ja, dw, fy, fz, jb, f0, f5, dy, dz, jc, f7, d3, f8, d4, jd, d5, f9, gn, mu, j9, gp, gq, as1', as2', as3', appendV, popV, je, mh, gs, gu, jf, d6, gv, jg, jh, ji, gw, gx, tab_token_at, tab_plain_operand, tab_expect, a1, e, e3, Tk.v, eqV_str, hx, hn]
end
end Mine
namespace Mine
noncomputable def strengths : List (Str × V) := match cst "STRENGTH" with
  | some (.dict l) => l
  | _ => []
theorem cst_STRENGTH : cst "STRENGTH" = some (.dict strengths) := by rfl
theorem in_sign : inL (.str "sign") [.str "sign", .str "word"] = some true := by kernel_rfl
theorem in_word : inL (.str "word") [.str "sign", .str "word"] = some true := by kernel_rfl
theorem in_end : inL (.str "end") [.str "sign", .str "word"] = some false := by kernel_rfl
theorem no_comma : keyIn "," strengths = none := by kernel_rfl
theorem no_close : keyIn ")" strengths = none := by kernel_rfl
theorem is_take_operator : (tab "take_operator").isSome = true := by rfl
noncomputable abbrev fd_take_operator := fdOf "take_operator" is_take_operator
theorem tab_take_operator : tab "take_operator" = some fd_take_operator := tab_fd _
section
variable {ts : List Tk} {i : Nat} {μ : M} {r n : Nat} {l : List V} {f : Fr}
noncomputable abbrev optr (ts : List Tk) (i : Nat) (μ : M) (r : Nat) (o : Out V) (fd : DefRec) : Prop := Ev 30 fd μ [.ref r, toks ts, .int i] o
theorem e_op {kd x : Str} {s : Int} {os' : List V} {ops' : List (Str × Int)} (h : OkTs ts) (hi : i < 9000) (hr : μ[r]? = some (l ++ [f.v n])) (F : FrAt μ n f) (h1 : f.operands.length ≤ 20000) (h2 : f.ops.length ≤ 20000) (h3 : ops'.length ≤ 20000)
    (hk : tkAt ts i = (kd, x)) (hd : kd = "sign" ∨ kd = "word") (hs : keyIn x strengths = some (.int s)) (j : Join s f.operands f.ops os' ops') :
    ∃ μ', optr ts i μ r (.ok (.tup [.int (i + 1), .str "operand"]) μ') fd_take_operator ∧ Keep n μ μ' ∧ FrAt μ' n { f with operands := os', ops := (x, s) :: ops' } := by
  obtain ⟨μ1, ⟨N, e⟩, k1, F1⟩ := e_join F j h1 h2
  have q2 := F1.oprs
  have l2 := (List.getElem?_eq_some_iff.mp q2).1
  refine ⟨μ1.set (n + 2) ((ops'.map encOp).reverse ++ [encOp (x, s)]), ?_, ⟨by rw [← k1.1]; simp, fun j hj => by rw [List.getElem?_set_ne (by first | exact k_0 (by assumption) | exact k_1 (by assumption) | exact k_2 (by assumption) | exact k_3 | exact k_4 | exact k_5 | exact k_3.symm | exact k_4.symm | exact k_5.symm | omega)]; exact k1.2 j hj⟩,
    ⟨by rw [List.getElem?_set_ne (by first | exact k_0 (by assumption) | exact k_1 (by assumption) | exact k_2 (by assumption) | exact k_3 | exact k_4 | exact k_5 | exact k_3.symm | exact k_4.symm | exact k_5.symm | omega)]; exact F1.args, by rw [List.getElem?_set_ne (by first | exact k_0 (by assumption) | exact k_1 (by assumption) | exact k_2 (by assumption) | exact k_3 | exact k_4 | exact k_5 | exact k_3.symm | exact k_4.symm | exact k_5.symm | omega)]; exact F1.opnds, by simp [l2]⟩⟩
  refine atFd (p := optr ts i μ r (.ok (.tup [.int (i + 1), .str "operand"]) (μ1.set (n + 2) ((ops'.map encOp).reverse ++ [encOp (x, s)])))) ⟨_, rfl, ?_⟩
  clear l2
  have a1 := ev_at h (show i < 100000 by first | exact lu (by assumption) rfl | exact lv (by assumption) rfl | exact lw (by assumption) rfl | exact lx (by assumption) rfl | exact ly (by assumption) rfl | omega) μ
  rw [hk] at a1
  dsimp only at q2
  have sl : ((ops'.map encOp).reverse).length ≤ 20000 := by simpa using h3
  generalize (ops'.map encOp).reverse = q at q2 sl
  refine ev_in (N) 60 fun m d => ?_
  unfold Fr.v at e hr
  refine (enter (by rfl) rfl).trans ?_; dsimp only
  rcases hd with rfl | rfl
  · simp -dsimp (disch := first | assumption | exact mi | exact jj rfl | exact ke | exact kc | exact kf | exact kg | exact kh ‹_› rfl | exact mv ‹_› | exact mw ‹_› | exact mx ‹_› | exact my ‹_› | exact mz ‹_› | exact lv ‹_› rfl | exact lw ‹_› rfl | exact lu ‹_› rfl | exact m5 ‹_› rfl | exact m7 rfl | exact mj ‹_› rfl | exact ml ke | exact ml (ml ke) | exact ml (ml kc) | exact ml (ml (ml ke)) | exact ml (ml (ml kc)) | decide +kernel | omega | (intros; contradiction)) [zipArgs, gy, gz, jk, jm, ki, kj, bq, bg, br, b7, b8, bt, bu, jn, km, ko, jo, g5, g6, bh, bv, bi, d7, aa, ag, a5, ah, au, ac, ai, a6, aj, av, ak, aw, ba, ax, a7, ae, al, a8, am, ay, af, ao, a9, aq, az, jp, bj, bw, bk, bn, bc, g7, g8, g9, jq, jr, kr, kt, bz, b4, b9, b5, ce, d9, cw, eb, cy, cz, ku, kx, ky, kz, ec, eg, c6, eh, ej, ek, er, h9, cg, et, ch, eu, ia, ey, jt, ju, c7, ci, cj, cn, ↓k7, ↓k8, ↓k9, ↓lb, ez, c8, fa, ↓lz, lf, jv, ib, lg, lh, lj, ll, lq, ls, c9, da, cq, dg, cr, b6, cu, l6, l7, l8, l9, jw, ic, jx, jy, ie, ig, n_radd', jz, ij, j0, j1, j2, j3, ik, fc, fe, fg, bp, be, dh, j4, cv, im, j5, j6, j7, io, ip, iq, ir, j8, iu, ma, mc, md, me, mm, mn, mr, mf, iv, fh, iw, iy, ↓iz, i0, fi, di, fj, dk, fk, fm, dl, fp, fq, i6, ms, mt, i7, ft, fu, dm, dq, i9, fv, dt, fw, du, ja, dw, fy, fz, jb, f0, f5, dy, dz, jc, f7, d3, f8, d4, jd, d5, f9, gn, mu, j9, gp, gq, as1', as2', as3', appendV, popV, je, mh, gs, gu, jf, d6, gv, jg, jh, ji, gw, gx, tab_token_at, tab_join_up, a1, e, hr, q2, Tk.v, cst_STRENGTH, hs, in_sign, encOp]
  · simp -dsimp (disch := first | assumption | exact mi | exact jj rfl | exact ke | exact kc | exact kf | exact kg | exact kh ‹_› rfl | exact mv ‹_› | exact mw ‹_› | exact mx ‹_› | exact my ‹_› | exact mz ‹_› | exact lv ‹_› rfl | exact lw ‹_› rfl | exact lu ‹_› rfl | exact m5 ‹_› rfl | exact m7 rfl | exact mj ‹_› rfl | exact ml ke | exact ml (ml ke) | exact ml (ml kc) | exact ml (ml (ml ke)) | exact ml (ml (ml kc)) | decide +kernel | omega | (intros; contradiction)) [zipArgs, gy, gz, jk, jm, ki, kj, bq, bg, br, b7, b8, bt, bu, jn, km, ko, jo, g5, g6, bh, bv, bi, d7, aa, ag, a5, ah, au, ac, ai, a6, aj, av, ak, aw, ba, ax, a7, ae, al, a8, am, ay, af, ao, a9, aq, az, jp, bj, bw, bk, bn, bc, g7, g8, g9, jq, jr, kr, kt, bz, b4, b9, b5, ce, d9, cw, eb, cy, cz, ku, kx, ky, kz, ec, eg, c6, eh, ej, ek, er, h9, cg, et, ch, eu, ia, ey, jt, ju, c7, ci, cj, cn, ↓k7, ↓k8, ↓k9, ↓lb, ez, c8, fa, ↓lz, lf, jv, ib, lg, lh, lj, ll, lq, ls, c9, da, cq, dg, cr, b6, cu, l6, l7, l8, l9, jw, ic, jx, jy, ie, ig, n_radd', jz, ij, j0, j1, j2, j3, ik, fc, fe, fg, bp, be, dh, j4, cv, im, j5, j6, j7, io, ip, iq, ir, j8, iu, ma, mc, md, me, mm, mn, mr, mf, iv, fh, iw, iy, ↓iz, i0, fi, di, fj, dk, fk, fm, dl, fp, fq, i6, ms, mt, i7, ft, fu, dm, dq, i9, fv, dt, fw, du, ja, dw, fy, fz, jb, f0, f5, dy, dz, jc, f7, d3, f8, d4, jd, d5, f9, gn, mu, j9, gp, gq, as1', as2', as3', appendV, popV, je, mh, gs, gu, jf, d6, gv, jg, jh, ji, gw, gx, tab_token_at, tab_join_up, a1, e, hr, q2, Tk.v, cst_STRENGTH, hs, in_word, encOp]
theorem e_end {kd x : Str} (h : OkTs ts) (hi : i < 9000) (hr : μ[r]? = some (l ++ [f.v n])) (hk : tkAt ts i = (kd, x)) (hd : kd = "end" ∨ ((kd = "sign" ∨ kd = "word") ∧ keyIn x strengths = none)) (ht : f.kind = "top") :
    optr ts i μ r (.ok (.tup [.int i, .str "end"]) μ) fd_take_operator := by
  refine atFd (p := optr ts i μ r (.ok (.tup [.int i, .str "end"]) μ)) ⟨_, rfl, ?_⟩
  have a1 := ev_at h (show i < 100000 by first | exact lu (by assumption) rfl | exact lv (by assumption) rfl | exact lw (by assumption) rfl | exact lx (by assumption) rfl | exact ly (by assumption) rfl | omega) μ
  rw [hk] at a1
  have s1 : sok "top" := by decide +kernel
  refine ev_of (N := 60) fun m d => ?_
  unfold Fr.v at hr
  rw [ht] at hr
  refine (enter (by rfl) rfl).trans ?_; dsimp only
  rcases hd with rfl | ⟨rfl | rfl, hn⟩
  · simp -dsimp (disch := first | assumption | exact mi | exact jj rfl | exact ke | exact kc | exact kf | exact kg | exact kh ‹_› rfl | exact mv ‹_› | exact mw ‹_› | exact mx ‹_› | exact my ‹_› | exact mz ‹_› | exact lv ‹_› rfl | exact lw ‹_› rfl | exact lu ‹_› rfl | exact m5 ‹_› rfl | exact m7 rfl | exact mj ‹_› rfl | exact ml ke | exact ml (ml ke) | exact ml (ml kc) | exact ml (ml (ml ke)) | exact ml (ml (ml kc)) | decide +kernel | omega | (intros; contradiction)) [zipArgs, gy, gz, jk, jm, ki, kj, bq, bg, br, b7, b8, bt, bu, jn, km, ko, jo, g5, g6, bh, bv, bi, d7, aa, ag, a5, ah, au, ac, ai, a6, aj, av, ak, aw, ba, ax, a7, ae, al, a8, am, ay, af, ao, a9, aq, az, jp, bj, bw, bk, bn, bc, g7, g8, g9, jq, jr, kr, kt, bz, b4, b9, b5, ce, d9, cw, eb, cy, cz, ku, kx, ky, kz, ec, eg, c6, eh, ej, ek, er, h9, cg, et, ch, eu, ia, ey, jt, ju, c7, ci, cj, cn, ↓k7, ↓k8, ↓k9, ↓lb, ez, c8, fa, ↓lz, lf, jv, ib, lg, lh, lj, ll, lq, ls, c9, da, cq, dg, cr, b6, cu, l6, l7, l8, l9, jw, ic, jx, jy, ie, ig, n_radd', jz, ij, j0, j1, j2, j3, ik, fc, fe, fg, bp, be, dh, j4, cv, im, j5, j6, j7, io, ip, iq, ir, j8, iu, ma, mc, md, me, mm, mn, mr, mf, iv, fh, iw, iy, ↓iz, i0, fi, di, fj, dk, fk, fm, dl, fp, fq, i6, ms, mt, i7, ft, fu, dm, dq, i9, fv, dt, fw, du, ja, dw, fy, fz, jb, f0, f5, dy, dz, jc, f7, d3, f8, d4, jd, d5, f9, gn, mu, j9, gp, gq, as1', as2', as3', appendV, popV, je, mh, gs, gu, jf, d6, gv, jg, jh, ji, gw, gx, tab_token_at, a1, hr, Tk.v, in_end, eqV_str]
  · simp -dsimp (disch := first | assumption | exact mi | exact jj rfl | exact ke | exact kc | exact kf | exact kg | exact kh ‹_› rfl | exact mv ‹_› | exact mw ‹_› | exact mx ‹_› | exact my ‹_› | exact mz ‹_› | exact lv ‹_› rfl | exact lw ‹_› rfl | exact lu ‹_› rfl | exact m5 ‹_› rfl | exact m7 rfl | exact mj ‹_› rfl | exact ml ke | exact ml (ml ke) | exact ml (ml kc) | exact ml (ml (ml ke)) | exact ml (ml (ml kc)) | decide +kernel | omega | (intros; contradiction)) [zipArgs, gy, gz, jk, jm, ki, kj, bq, bg, br, b7, b8, bt, bu, jn, km, ko, jo, g5, g6, bh, bv, bi, d7, aa, ag, a5, ah, au, ac, ai, a6, aj, av, ak, aw, ba, ax, a7, ae, al, a8, am, ay, af, ao, a9, aq, az, jp, bj, bw, bk, bn, bc, g7, g8, g9, jq, jr, kr, kt, bz, b4, b9, b5, ce, d9, cw, eb, cy, cz, ku, kx, ky, kz, ec, eg, c6, eh, ej, ek, er, h9, cg, et, ch, eu, ia, ey, jt, ju, c7, ci, cj, cn, ↓k7, ↓k8, ↓k9, ↓lb, ez, c8, fa, ↓lz, lf, jv, ib, lg, lh, lj, ll, lq, ls, c9, da, cq, dg, cr, b6, cu, l6, l7, l8, l9, jw, ic, jx, jy, ie, ig, n_radd', jz, ij, j0, j1, j2, j3, ik, fc, fe, fg, bp, be, dh, j4, cv, im, j5, j6, j7, io, ip, iq, ir, j8, iu, ma, mc, md, me, mm, mn, mr, mf, iv, fh, iw, iy, ↓iz, i0, fi, di, fj, dk, fk, fm, dl, fp, fq, i6, ms, mt, i7, ft, fu, dm, dq, i9, fv, dt, fw, du, ja, dw, fy, fz, jb, f0, f5, dy, dz, jc, f7, d3, f8, d4, jd, d5, f9, gn, mu, j9, gp, gq, as1', as2', as3', appendV, popV, je, mh, gs, gu, jf, d6, gv, jg, jh, ji, gw, gx, tab_token_at, a1, hr, Tk.v, in_sign, cst_STRENGTH, hn, eqV_str]
  · simp -dsimp (disch := first | assumption | exact mi | exact jj rfl | exact ke | exact kc | exact kf | exact kg | exact kh ‹_› rfl | exact mv ‹_› | exact mw ‹_› | exact mx ‹_› | exact my ‹_› | exact mz ‹_› | exact lv ‹_› rfl | exact lw ‹_› rfl | exact lu ‹_› rfl | exact m5 ‹_› rfl | exact m7 rfl | exact mj ‹_› rfl | exact ml ke | exact ml (ml ke) | exact ml (ml kc) | exact ml (ml (ml ke)) | exact ml (ml (ml kc)) | decide +kernel | omega | (intros; contradiction)) [zipArgs, gy, gz, jk, jm, ki, kj, bq, bg, br, b7, b8, bt, bu, jn, km, ko, jo, g5, g6, bh, bv, bi, d7, aa, ag, a5, ah, au, ac, ai, a6, aj, av, ak, aw, ba, ax, a7, ae, al, a8, am, ay, af, ao, a9, aq, az, jp, bj, bw, bk, bn, bc, g7, g8, g9, jq, jr, kr, kt, bz, b4, b9, b5, ce, d9, cw, eb, cy, cz, ku, kx, ky, kz, ec, eg, c6, eh, ej, ek, er, h9, cg, et, ch, eu, ia, ey, jt, ju, c7, ci, cj, cn, ↓k7, ↓k8, ↓k9, ↓lb, ez, c8, fa, ↓lz, lf, jv, ib, lg, lh, lj, ll, lq, ls, c9, da, cq, dg, cr, b6, cu, l6, l7, l8, l9, jw, ic, jx, jy, ie, ig, n_radd', jz, ij, j0, j1, j2, j3, ik, fc, fe, fg, bp, be, dh, j4, cv, im, j5, j6, j7, io, ip, iq, ir, j8, iu, ma, mc, md, me, mm, mn, mr, mf, iv, fh, iw, iy, ↓iz, i0, fi, di, fj, dk, fk, fm, dl, fp, fq, i6, ms, mt, i7, ft, fu, dm, dq, i9, fv, dt, fw, du, ja, dw, fy, fz, jb, f0, f5, dy, dz, jc, f7, d3, f8, d4, jd, d5, f9, gn, mu, j9, gp, gq, as1', as2', as3', appendV, popV, je, mh, gs, gu, jf, d6, gv, jg, jh, ji, gw, gx, tab_token_at, a1, hr, Tk.v, in_word, cst_STRENGTH, hn, eqV_str]
theorem e_comma {last : V} {os' : List V} {ops' : List (Str × Int)} (h : OkTs ts) (hi : i < 9000) (hr : μ[r]? = some (l ++ [f.v n])) (F : FrAt μ n f) (h1 : f.operands.length ≤ 20000) (h2 : f.ops.length ≤ 20000) (h3 : f.args.length ≤ 20000) (h4 : os'.length ≤ 20000)
    (hk : tkAt ts i = (("sign" : Str), ("," : Str))) (hf : sok f.kind) (hn : f.kind ≠ "top") (hg : f.kind ≠ "group") (j : Join 0 f.operands f.ops (last :: os') ops') :
    ∃ μ', optr ts i μ r (.ok (.tup [.int (i + 1), .str "operand"]) μ') fd_take_operator ∧ Keep n μ μ' ∧ FrAt μ' n { f with args := f.args ++ [last], operands := os', ops := ops' } := by
  obtain ⟨μ1, ⟨N, e⟩, k1, F1⟩ := e_join F j h1 h2
  have q1 := F1.args
  have q2 := F1.opnds
  have l1 := (List.getElem?_eq_some_iff.mp q1).1
  have l2 := (List.getElem?_eq_some_iff.mp q2).1
  refine ⟨(μ1.set (n + 1) os'.reverse).set n (f.args ++ [last]), ?_, ⟨by rw [← k1.1]; simp, fun j hj => by rw [List.getElem?_set_ne (by first | exact k_0 (by assumption) | exact k_1 (by assumption) | exact k_2 (by assumption) | exact k_3 | exact k_4 | exact k_5 | exact k_3.symm | exact k_4.symm | exact k_5.symm | omega), List.getElem?_set_ne (by first | exact k_0 (by assumption) | exact k_1 (by assumption) | exact k_2 (by assumption) | exact k_3 | exact k_4 | exact k_5 | exact k_3.symm | exact k_4.symm | exact k_5.symm | omega)]; exact k1.2 j hj⟩,
    ⟨by simp [l1], by rw [List.getElem?_set_ne (by first | exact k_0 (by assumption) | exact k_1 (by assumption) | exact k_2 (by assumption) | exact k_3 | exact k_4 | exact k_5 | exact k_3.symm | exact k_4.symm | exact k_5.symm | omega)]; simp [l2], by rw [List.getElem?_set_ne (by first | exact k_0 (by assumption) | exact k_1 (by assumption) | exact k_2 (by assumption) | exact k_3 | exact k_4 | exact k_5 | exact k_3.symm | exact k_4.symm | exact k_5.symm | omega), List.getElem?_set_ne (by first | exact k_0 (by assumption) | exact k_1 (by assumption) | exact k_2 (by assumption) | exact k_3 | exact k_4 | exact k_5 | exact k_3.symm | exact k_4.symm | exact k_5.symm | omega)]; exact F1.oprs⟩⟩
  refine atFd (x := "take_operator") (h := is_take_operator) (p := optr ts i μ r (.ok (.tup [.int (i + 1), .str "operand"]) ((μ1.set (n + 1) os'.reverse).set n (f.args ++ [last])))) ⟨_, rfl, ?_⟩
  clear l1 l2
  have a1 := ev_at h (show i < 100000 by first | exact lu (by assumption) rfl | exact lv (by assumption) rfl | exact lw (by assumption) rfl | exact lx (by assumption) rfl | exact ly (by assumption) rfl | omega) μ
  rw [hk] at a1
  simp at q1 q2
  have s1 : sok "top" := by decide +kernel
  have s2 : sok "sign" := by decide +kernel
  have s3 : sok "," := by decide +kernel
  have s4 : sok "group" := by decide +kernel
  refine ev_in (N) 60 fun m d => ?_
  unfold Fr.v at e hr
  refine (enter (by rfl) rfl).trans ?_; dsimp only
  simp -dsimp (disch := first | assumption | exact mi | exact jj rfl | exact ke | exact kc | exact kf | exact kg | exact kh ‹_› rfl | exact mv ‹_› | exact mw ‹_› | exact mx ‹_› | exact my ‹_› | exact mz ‹_› | exact lv ‹_› rfl | exact lw ‹_› rfl | exact lu ‹_› rfl | exact m5 ‹_› rfl | exact m7 rfl | exact mj ‹_› rfl | exact ml ke | exact ml (ml ke) | exact ml (ml kc) | exact ml (ml (ml ke)) | exact ml (ml (ml kc)) | decide +kernel | omega | (intros; contradiction)) [zipArgs, gy, gz, jk, jm, ki, kj, bq, bg, br, b7, b8, bt, bu, jn, km, ko, jo, g5, g6, bh, bv, bi, d7, aa, ag, a5, ah, au, ac, ai, a6, aj, av, ak, aw, ba, ax, a7, ae, al, a8, am, ay, af, ao, a9, aq, az, jp, bj, bw, bk, bn, bc, g7, g8, g9, jq, jr, kr, kt, bz, b4, b9, b5, ce, d9, cw, eb, cy, cz, ku, kx, ky, kz, ec, eg, c6, eh, ej, ek, er, h9, cg, et, ch, eu, ia, ey, jt, ju, c7, ci, cj, cn, ↓k7, ↓k8, ↓k9, ↓lb, ez, c8, fa, ↓lz, lf, jv, ib, lg, lh, lj, ll, lq, ls, c9, da, cq, dg, cr, b6, cu, l6, l7, l8, l9, jw, ic, jx, jy, ie, ig, n_radd', jz, ij, j0, j1, j2, j3, ik, fc, fe, fg, bp, be, dh, j4, cv, im, j5, j6, j7, io, ip, iq, ir, j8, iu, ma, mc, md, me, mm, mn, mr, mf, iv, fh, iw, iy, ↓iz, i0, fi, di, fj, dk, fk, fm, dl, fp, fq, i6, ms, mt, i7, ft, fu, dm, dq, i9, fv, dt, fw, du, ja, dw, fy, fz, jb, f0, f5, dy, dz, jc, f7, d3, f8, d4, jd, d5, f9, gn, mu, j9, gp, gq, as1', as2', as3', appendV, popV, je, mh, gs, gu, jf, d6, gv, jg, jh, ji, gw, gx, tab_token_at, tab_join_up, a1, e, hr, q1, q2, Tk.v, cst_STRENGTH, no_comma, in_sign, eqV_str, hn, hg]
theorem e_close {last : V} {os' : List V} {ops' : List (Str × Int)} {f2 : Fr} {n2 : Nat} {b : Bool} (h : OkTs ts) (hi : i < 9000) (hr : μ[r]? = some (l ++ [f2.v n2, f.v n])) (F : FrAt μ n f) (F2 : FrAt μ n2 f2) (hs : n2 + 3 ≤ n) (hrn : n + 3 ≤ r ∨ r < n) (hrn2 : n2 + 3 ≤ r ∨ r < n2)
    (h1 : f.operands.length ≤ 20000) (h2 : f.ops.length ≤ 20000) (h3 : f.args.length ≤ 20000) (h4 : (last :: os').length ≤ 20000) (h5 : f2.operands.length ≤ 20000) (hl : l.length ≤ 1000)
    (hk : tkAt ts i = (("sign" : Str), (")" : Str))) (hf : sok f.kind) (hn : f.kind ≠ "top") (j : Join 0 f.operands f.ops (last :: os') ops') (hb : isTop f = some b) :
    ∃ μ', optr ts i μ r (.ok (.tup [.int (i + 1), .str "operator"]) μ') fd_take_operator ∧ FrAt μ' n2 { f2 with operands := f.fin b last :: f2.operands } ∧ μ'[r]? = some (l ++ [f2.v n2]) ∧ μ'.length = μ.length ∧
      ∀ q, q ≠ r → (q < n ∨ n + 2 < q) → q ≠ n2 + 1 → μ'[q]? = μ[q]? := by
  have lr := (List.getElem?_eq_some_iff.mp hr).1
  have Fr' : FrAt (μ.set r (l ++ [f2.v n2])) n f := ⟨by rw [List.getElem?_set_ne (by first | exact k_0 (by assumption) | exact k_1 (by assumption) | exact k_2 (by assumption) | exact k_3 | exact k_4 | exact k_5 | exact k_3.symm | exact k_4.symm | exact k_5.symm | omega)]; exact F.args, by rw [List.getElem?_set_ne (by first | exact k_0 (by assumption) | exact k_1 (by assumption) | exact k_2 (by assumption) | exact k_3 | exact k_4 | exact k_5 | exact k_3.symm | exact k_4.symm | exact k_5.symm | omega)]; exact F.opnds, by rw [List.getElem?_set_ne (by first | exact k_0 (by assumption) | exact k_1 (by assumption) | exact k_2 (by assumption) | exact k_3 | exact k_4 | exact k_5 | exact k_3.symm | exact k_4.symm | exact k_5.symm | omega)]; exact F.oprs⟩
  obtain ⟨μ1, ⟨N, e⟩, k1⟩ := e_finished Fr' j h1 h2 h3 h4 hb
  have g : ∀ q, (q < n ∨ n + 2 < q) → μ1[q]? = (μ.set r (l ++ [f2.v n2]))[q]? := fun q hq => k1.2 q hq
  have gr : μ1[r]? = some (l ++ [f2.v n2]) := by rw [g r (by first | exact lu (by assumption) rfl | exact lv (by assumption) rfl | exact lw (by assumption) rfl | exact lx (by assumption) rfl | exact ly (by assumption) rfl | omega)]; simp [lr]
  have g0 : μ1[n2]? = some f2.args := by rw [g _ (by first | exact lu (by assumption) rfl | exact lv (by assumption) rfl | exact lw (by assumption) rfl | exact lx (by assumption) rfl | exact ly (by assumption) rfl | omega), List.getElem?_set_ne (by first | exact k_0 (by assumption) | exact k_1 (by assumption) | exact k_2 (by assumption) | exact k_3 | exact k_4 | exact k_5 | exact k_3.symm | exact k_4.symm | exact k_5.symm | omega)]; exact F2.args
  have g1 : μ1[n2 + 1]? = some f2.operands.reverse := by rw [g _ (by first | exact lu (by assumption) rfl | exact lv (by assumption) rfl | exact lw (by assumption) rfl | exact lx (by assumption) rfl | exact ly (by assumption) rfl | omega), List.getElem?_set_ne (by first | exact k_0 (by assumption) | exact k_1 (by assumption) | exact k_2 (by assumption) | exact k_3 | exact k_4 | exact k_5 | exact k_3.symm | exact k_4.symm | exact k_5.symm | omega)]; exact F2.opnds
  have g2 : μ1[n2 + 2]? = some (f2.ops.map encOp).reverse := by rw [g _ (by first | exact lu (by assumption) rfl | exact lv (by assumption) rfl | exact lw (by assumption) rfl | exact lx (by assumption) rfl | exact ly (by assumption) rfl | omega), List.getElem?_set_ne (by first | exact k_0 (by assumption) | exact k_1 (by assumption) | exact k_2 (by assumption) | exact k_3 | exact k_4 | exact k_5 | exact k_3.symm | exact k_4.symm | exact k_5.symm | omega)]; exact F2.oprs
  have l1 := (List.getElem?_eq_some_iff.mp g1).1
  have kl := k1.1
  refine ⟨μ1.set (n2 + 1) (f2.operands.reverse ++ [f.fin b last]), ?_, ⟨by rw [List.getElem?_set_ne (by first | exact k_0 (by assumption) | exact k_1 (by assumption) | exact k_2 (by assumption) | exact k_3 | exact k_4 | exact k_5 | exact k_3.symm | exact k_4.symm | exact k_5.symm | omega)]; exact g0, by simp [l1], by rw [List.getElem?_set_ne (by first | exact k_0 (by assumption) | exact k_1 (by assumption) | exact k_2 (by assumption) | exact k_3 | exact k_4 | exact k_5 | exact k_3.symm | exact k_4.symm | exact k_5.symm | omega)]; exact g2⟩, by rw [List.getElem?_set_ne (by first | exact k_0 (by assumption) | exact k_1 (by assumption) | exact k_2 (by assumption) | exact k_3 | exact k_4 | exact k_5 | exact k_3.symm | exact k_4.symm | exact k_5.symm | omega)]; exact gr, by simpa using kl,
    fun q h1 h2 h3 => by rw [List.getElem?_set_ne (by first | exact k_0 (by assumption) | exact k_1 (by assumption) | exact k_2 (by assumption) | exact k_3 | exact k_4 | exact k_5 | exact k_3.symm | exact k_4.symm | exact k_5.symm | omega), g q h2, List.getElem?_set_ne (by first | exact k_0 (by assumption) | exact k_1 (by assumption) | exact k_2 (by assumption) | exact k_3 | exact k_4 | exact k_5 | exact k_3.symm | exact k_4.symm | exact k_5.symm | omega)]⟩
  refine atFd (x := "take_operator") (h := is_take_operator) (p := optr ts i μ r (.ok (.tup [.int (i + 1), .str "operator"]) (μ1.set (n2 + 1) (f2.operands.reverse ++ [f.fin b last])))) ⟨_, rfl, ?_⟩
  clear l1 lr
  have a1 := ev_at h (show i < 100000 by first | exact lu (by assumption) rfl | exact lv (by assumption) rfl | exact lw (by assumption) rfl | exact lx (by assumption) rfl | exact ly (by assumption) rfl | omega) μ
  obtain ⟨N3, e3⟩ := e_expect h (show i < 10000 by first | exact lu (by assumption) rfl | exact lv (by assumption) rfl | exact lw (by assumption) rfl | exact lx (by assumption) rfl | exact ly (by assumption) rfl | omega) (x := ")") (by decide +kernel) μ
  rw [hk, if_pos rfl] at e3
  rw [hk] at a1
  have s1 : sok "top" := by decide +kernel
  have s2 : sok "sign" := by decide +kernel
  have s3 : sok "," := by decide +kernel
  have s4 : sok ")" := by decide +kernel
  refine ev_in (N + N3) 60 fun m d => ?_
  unfold Fr.v at e hr
  refine (enter (by rfl) rfl).trans ?_; dsimp only
  simp -dsimp (disch := first | assumption | exact mi | exact jj rfl | exact ke | exact kc | exact kf | exact kg | exact kh ‹_› rfl | exact mv ‹_› | exact mw ‹_› | exact mx ‹_› | exact my ‹_› | exact mz ‹_› | exact lv ‹_› rfl | exact lw ‹_› rfl | exact lu ‹_› rfl | exact m5 ‹_› rfl | exact m7 rfl | exact mj ‹_› rfl | exact ml ke | exact ml (ml ke) | exact ml (ml kc) | exact ml (ml (ml ke)) | exact ml (ml (ml kc)) | decide +kernel | omega | (intros; contradiction)) [zipArgs, gy, gz, jk, jm, ki, kj, bq, bg, br, b7, b8, bt, bu, jn, km, ko, jo, g5, g6, bh, bv, bi, d7, aa, ag, a5, ah, au, ac, ai, a6, aj, av, ak, aw, ba, ax, a7, ae, al, a8, am, ay, af, ao, a9, aq, az, jp, bj, bw, bk, bn, bc, g7, g8, g9, jq, jr, kr, kt, bz, b4, b9, b5, ce, d9, cw, eb, cy, cz, ku, kx, ky, kz, ec, eg, c6, eh, ej, ek, er, h9, cg, et, ch, eu, ia, ey, jt, ju, c7, ci, cj, cn, ↓k7, ↓k8, ↓k9, ↓lb, ez, c8, fa, ↓lz, lf, jv, ib, lg, lh, lj, ll, lq, ls, c9, da, cq, dg, cr, b6, cu, l6, l7, l8, l9, jw, ic, jx, jy, ie, ig, n_radd', jz, ij, j0, j1, j2, j3, ik, fc, fe, fg, bp, be, dh, j4, cv, im, j5, j6, j7, io, ip, iq, ir, j8, iu, ma, mc, md, me, mm, mn, mr, mf, iv, fh, iw, iy, ↓iz, i0, fi, di, fj, dk, fk, fm, dl, fp, fq, i6, ms, mt, i7, ft, fu, dm, dq, i9, fv, dt, fw, du, ja, dw, fy, fz, jb, f0, f5, dy, dz, jc, f7, d3, f8, d4, jd, d5, f9, gn, mu, j9, gp, gq, as1', as2', as3', appendV, popV, je, mh, gs, gu, jf, d6, gv, jg, jh, ji, gw, gx, tab_token_at, tab_finished, tab_expect, a1, e, e3, hr, g1, Tk.v, cst_STRENGTH, no_close, in_sign, eqV_str, hn, dl2, Fr.v]
theorem e_osn {x : Str} (h : OkTs ts) (hi : i < 9000) (hr : μ[r]? = some (l ++ [f.v n])) (hk : tkAt ts i = (("end" : Str), x)) (hf : sok f.kind) (hn : f.kind ≠ "top") : optr ts i μ r (.exc "SN" μ) fd_take_operator := by
  refine atFd (p := optr ts i μ r (.exc "SN" μ)) ⟨_, rfl, ?_⟩
  have a1 := ev_at h (show i < 100000 by first | exact lu (by assumption) rfl | exact lv (by assumption) rfl | exact lw (by assumption) rfl | exact lx (by assumption) rfl | exact ly (by assumption) rfl | omega) μ
  obtain ⟨N3, e3⟩ := e_expect h (show i < 10000 by first | exact lu (by assumption) rfl | exact lv (by assumption) rfl | exact lw (by assumption) rfl | exact lx (by assumption) rfl | exact ly (by assumption) rfl | omega) (x := ")") (by decide +kernel) μ
  rw [if_neg (by rw [hk]; intro q; exact absurd (Prod.mk.inj q).1 (by decide +kernel))] at e3
  have k0 := tkAt_ok h i
  rw [hk] at a1 k0
  have sx : sok x := k0.2
  have s1 : sok "top" := by decide +kernel
  have s2 : sok "sign" := by decide +kernel
  have s3 : sok "end" := by decide +kernel
  refine ev_in (N3) 60 fun m d => ?_
  unfold Fr.v at hr
  refine (enter (by rfl) rfl).trans ?_; dsimp only
  simp -dsimp (disch := first | assumption | exact mi | exact jj rfl | exact ke | exact kc | exact kf | exact kg | exact kh ‹_› rfl | exact mv ‹_› | exact mw ‹_› | exact mx ‹_› | exact my ‹_› | exact mz ‹_› | exact lv ‹_› rfl | exact lw ‹_› rfl | exact lu ‹_› rfl | exact m5 ‹_› rfl | exact m7 rfl | exact mj ‹_› rfl | exact ml ke | exact ml (ml ke) | exact ml (ml kc) | exact ml (ml (ml ke)) | exact ml (ml (ml kc)) | decide +kernel | omega | (intros; contradiction)) [zipArgs, gy, gz, jk, jm, ki, kj, bq, bg, br, b7, b8, bt, bu, jn, km, ko, jo, g5, g6, bh, bv, bi, d7, aa, ag, a5, ah, au, ac, ai, a6, aj, av, ak, aw, ba, ax, a7, ae, al, a8, am, ay, af, ao, a9, aq, az, jp, bj, bw, bk, bn, bc, g7, g8, g9, jq, jr, kr, kt, bz, b4, b9, b5, ce, d9, cw, eb, cy, cz, ku, kx, ky, kz, ec, eg, c6, eh, ej, ek, er, h9, cg, et, ch, eu, ia, ey, jt, ju, c7, ci, cj, cn, ↓k7, ↓k8, ↓k9, ↓lb, ez, c8, fa, ↓lz, lf, jv, ib, lg, lh, lj, ll, lq, ls, c9, da, cq, dg, cr, b6, cu, l6, l7, l8, l9, jw, ic, jx, jy, ie, ig, n_radd', jz, ij, j0, j1, j2, j3, ik, fc, fe, fg, bp, be, dh, j4, cv, im, j5, j6, j7, io, ip, iq, ir, j8, iu, ma, mc, md, me, mm, mn, mr, mf, iv, fh, iw, iy, ↓iz, i0, fi, di, fj, dk, fk, fm, dl, fp, fq, i6, ms, mt, i7, ft, fu, dm, dq, i9, fv, dt, fw, du, ja, dw, fy, fz, jb, f0, f5, dy, dz, jc, f7, d3, f8, d4, jd, d5, f9, gn, mu, j9, gp, gq, as1', as2', as3', appendV, popV, je, mh, gs, gu, jf, d6, gv, jg, jh, ji, gw, gx, tab_token_at, tab_expect, a1, e3, hr, Tk.v, in_end, eqV_str, hn]
end
end Mine
namespace Mine
theorem is_expression : (tab "expression").isSome = true := by rfl
noncomputable abbrev fd_expression := fdOf "expression" is_expression
theorem tab_expression : tab "expression" = some fd_expression := tab_fd _
structure Lk (ts : List Tk) (ρ : Rho) (r : Nat) (i : Int) (due : Str) : Prop where
  levels : ρ.lookup ("levels" : Str) = some (.ref r)
  tokens : ρ.lookup ("tokens" : Str) = some (toks ts)
  at_ : ρ.lookup ("at" : Str) = some (.int i)
  known : ρ.lookup ("known" : Str) = some (.lst kn)
  due : ρ.lookup ("due" : Str) = some (.str due)
section
variable {ts : List Tk} {ρ : Rho} {μ μ1 : M} {r : Nat} {i j : Int}
noncomputable abbrev ItOperand (ts : List Tk) (ρ : Rho) (μ μ1 : M) (r : Nat) (i j : Int) (w : Bool) (fd : DefRec) : Prop := ∀ t b, whileOf fd.body = some (t, b) → Lk ts ρ r i "operand" → Ev 30 fd_take_operand μ [.ref r, toks ts, .int i, .lst kn] (.ok (.tup [.int j, .bool w]) μ1) →
  ∃ ρ', Lk ts ρ' r j (if w then "operator" else "operand") ∧ ∃ N, ∀ n, N ≤ n → ∀ d, 30 ≤ d → evW tab cst (n + 1) d fd.scope ρ μ t b = evW tab cst n d fd.scope ρ' μ1 t b
theorem it_operand (w : Bool) : ItOperand ts ρ μ μ1 r i j w fd_expression := by
  refine atFd (p := ItOperand ts ρ μ μ1 r i j w) ⟨_, rfl, ?_⟩
  intro t b ht lk ⟨N, e⟩
  replace ht : some _ = some _ := ht
  cases ht
  obtain ⟨k1, k2, k3, k4, k5⟩ := lk
  have s1 : sok "operand" := by decide +kernel
  have s2 : sok "end" := by decide +kernel
  refine ⟨((ρ.set "at" (.int j)).set "is_whole" (.bool w)).set "due" (.str (if w then "operator" else "operand")), ⟨by simp [lookup_set, ofString_inj, k1], by simp [lookup_set, ofString_inj, k2], by simp [lookup_set, ofString_inj, k3], by simp [lookup_set, ofString_inj, k4], by simp [lookup_set, ofString_inj, k5]⟩,
    N + 60, fun n hn d hd => ?_⟩
  first | obtain ⟨n, rfl, hq_n⟩ := sub_ex2 (C := 60) hn | obtain ⟨n, rfl⟩ := sub_ex1 (C := 60) hn | obtain ⟨n, rfl⟩ : ∃ e, n = e + 60 := ⟨n - 60, by omega⟩
  rw [r_w]
  cases w with
  | true => simp -dsimp (disch := first | assumption | exact mi | exact jj rfl | exact ke | exact kc | exact kf | exact kg | exact kh ‹_› rfl | exact mv ‹_› | exact mw ‹_› | exact mx ‹_› | exact my ‹_› | exact mz ‹_› | exact lv ‹_› rfl | exact lw ‹_› rfl | exact lu ‹_› rfl | exact m5 ‹_› rfl | exact m7 rfl | exact mj ‹_› rfl | exact ml ke | exact ml (ml ke) | exact ml (ml kc) | exact ml (ml (ml ke)) | exact ml (ml (ml kc)) | decide +kernel | omega | (intros; contradiction)) [zipArgs, gy, gz, jk, jm, ki, kj, bq, bg, br, b7, b8, bt, bu, jn, km, ko, jo, g5, g6, bh, bv, bi, d7, aa, ag, a5, ah, au, ac, ai, a6, aj, av, ak, aw, ba, ax, a7, ae, al, a8, am, ay, af, ao, a9, aq, az, jp, bj, bw, bk, bn, bc, g7, g8, g9, jq, jr, kr, kt, bz, b4, b9, b5, ce, d9, cw, eb, cy, cz, ku, kx, ky, kz, ec, eg, c6, eh, ej, ek, er, h9, cg, et, ch, eu, ia, ey, jt, ju, c7, ci, cj, cn, ↓k7, ↓k8, ↓k9, ↓lb, ez, c8, fa, ↓lz, lf, jv, ib, lg, lh, lj, ll, lq, ls, c9, da, cq, dg, cr, b6, cu, l6, l7, l8, l9, jw, ic, jx, jy, ie, ig, n_radd', jz, ij, j0, j1, j2, j3, ik, fc, fe, fg, bp, be, dh, j4, cv, im, j5, j6, j7, io, ip, iq, ir, j8, iu, ma, mc, md, me, mm, mn, mr, mf, iv, fh, iw, iy, ↓iz, i0, fi, di, fj, dk, fk, fm, dl, fp, fq, i6, ms, mt, i7, ft, fu, dm, dq, i9, fv, dt, fw, du, ja, dw, fy, fz, jb, f0, f5, dy, dz, jc, f7, d3, f8, d4, jd, d5, f9, gn, mu, j9, gp, gq, as1', as2', as3', appendV, popV, je, mh, gs, gu, jf, d6, gv, jg, jh, ji, gw, gx, tab_take_operand, e, k1, k2, k3, k4, k5, eqV_str]
  | false => simp -dsimp (disch := first | assumption | exact mi | exact jj rfl | exact ke | exact kc | exact kf | exact kg | exact kh ‹_› rfl | exact mv ‹_› | exact mw ‹_› | exact mx ‹_› | exact my ‹_› | exact mz ‹_› | exact lv ‹_› rfl | exact lw ‹_› rfl | exact lu ‹_› rfl | exact m5 ‹_› rfl | exact m7 rfl | exact mj ‹_› rfl | exact ml ke | exact ml (ml ke) | exact ml (ml kc) | exact ml (ml (ml ke)) | exact ml (ml (ml kc)) | decide +kernel | omega | (intros; contradiction)) [zipArgs, gy, gz, jk, jm, ki, kj, bq, bg, br, b7, b8, bt, bu, jn, km, ko, jo, g5, g6, bh, bv, bi, d7, aa, ag, a5, ah, au, ac, ai, a6, aj, av, ak, aw, ba, ax, a7, ae, al, a8, am, ay, af, ao, a9, aq, az, jp, bj, bw, bk, bn, bc, g7, g8, g9, jq, jr, kr, kt, bz, b4, b9, b5, ce, d9, cw, eb, cy, cz, ku, kx, ky, kz, ec, eg, c6, eh, ej, ek, er, h9, cg, et, ch, eu, ia, ey, jt, ju, c7, ci, cj, cn, ↓k7, ↓k8, ↓k9, ↓lb, ez, c8, fa, ↓lz, lf, jv, ib, lg, lh, lj, ll, lq, ls, c9, da, cq, dg, cr, b6, cu, l6, l7, l8, l9, jw, ic, jx, jy, ie, ig, n_radd', jz, ij, j0, j1, j2, j3, ik, fc, fe, fg, bp, be, dh, j4, cv, im, j5, j6, j7, io, ip, iq, ir, j8, iu, ma, mc, md, me, mm, mn, mr, mf, iv, fh, iw, iy, ↓iz, i0, fi, di, fj, dk, fk, fm, dl, fp, fq, i6, ms, mt, i7, ft, fu, dm, dq, i9, fv, dt, fw, du, ja, dw, fy, fz, jb, f0, f5, dy, dz, jc, f7, d3, f8, d4, jd, d5, f9, gn, mu, j9, gp, gq, as1', as2', as3', appendV, popV, je, mh, gs, gu, jf, d6, gv, jg, jh, ji, gw, gx, tab_take_operand, e, k1, k2, k3, k4, k5, eqV_str]
noncomputable abbrev ItOperandX (ts : List Tk) (ρ : Rho) (μ μ1 : M) (r : Nat) (i : Int) (c : Str) (fd : DefRec) : Prop := ∀ t b, whileOf fd.body = some (t, b) → Lk ts ρ r i "operand" → Ev 30 fd_take_operand μ [.ref r, toks ts, .int i, .lst kn] (.exc c μ1) →
  ∃ N, ∀ n, N ≤ n → ∀ d, 30 ≤ d → evW tab cst n d fd.scope ρ μ t b = .exc c μ1
theorem it_operandx (c : Str) : ItOperandX ts ρ μ μ1 r i c fd_expression := by
  refine atFd (p := ItOperandX ts ρ μ μ1 r i c) ⟨_, rfl, ?_⟩
  intro t b ht lk ⟨N, e⟩
  replace ht : some _ = some _ := ht
  cases ht
  obtain ⟨k1, k2, k3, k4, k5⟩ := lk
  have s1 : sok "operand" := by decide +kernel
  have s2 : sok "end" := by decide +kernel
  refine ⟨N + 60, fun n hn d hd => ?_⟩
  first | obtain ⟨n, rfl, hq_n⟩ := sub_ex2 (C := 60) hn | obtain ⟨n, rfl⟩ := sub_ex1 (C := 60) hn | obtain ⟨n, rfl⟩ : ∃ e, n = e + 60 := ⟨n - 60, by omega⟩
  rw [r_w]
  simp -dsimp (disch := first | assumption | exact mi | exact jj rfl | exact ke | exact kc | exact kf | exact kg | exact kh ‹_› rfl | exact mv ‹_› | exact mw ‹_› | exact mx ‹_› | exact my ‹_› | exact mz ‹_› | exact lv ‹_› rfl | exact lw ‹_› rfl | exact lu ‹_› rfl | exact m5 ‹_› rfl | exact m7 rfl | exact mj ‹_› rfl | exact ml ke | exact ml (ml ke) | exact ml (ml kc) | exact ml (ml (ml ke)) | exact ml (ml (ml kc)) | decide +kernel | omega | (intros; contradiction)) [zipArgs, gy, gz, jk, jm, ki, kj, bq, bg, br, b7, b8, bt, bu, jn, km, ko, jo, g5, g6, bh, bv, bi, d7, aa, ag, a5, ah, au, ac, ai, a6, aj, av, ak, aw, ba, ax, a7, ae, al, a8, am, ay, af, ao, a9, aq, az, jp, bj, bw, bk, bn, bc, g7, g8, g9, jq, jr, kr, kt, bz, b4, b9, b5, ce, d9, cw, eb, cy, cz, ku, kx, ky, kz, ec, eg, c6, eh, ej, ek, er, h9, cg, et, ch, eu, ia, ey, jt, ju, c7, ci, cj, cn, ↓k7, ↓k8, ↓k9, ↓lb, ez, c8, fa, ↓lz, lf, jv, ib, lg, lh, lj, ll, lq, ls, c9, da, cq, dg, cr, b6, cu, l6, l7, l8, l9, jw, ic, jx, jy, ie, ig, n_radd', jz, ij, j0, j1, j2, j3, ik, fc, fe, fg, bp, be, dh, j4, cv, im, j5, j6, j7, io, ip, iq, ir, j8, iu, ma, mc, md, me, mm, mn, mr, mf, iv, fh, iw, iy, ↓iz, i0, fi, di, fj, dk, fk, fm, dl, fp, fq, i6, ms, mt, i7, ft, fu, dm, dq, i9, fv, dt, fw, du, ja, dw, fy, fz, jb, f0, f5, dy, dz, jc, f7, d3, f8, d4, jd, d5, f9, gn, mu, j9, gp, gq, as1', as2', as3', appendV, popV, je, mh, gs, gu, jf, d6, gv, jg, jh, ji, gw, gx, tab_take_operand, e, k1, k2, k3, k4, k5, eqV_str]
noncomputable abbrev ItOperator (ts : List Tk) (ρ : Rho) (μ μ1 : M) (r : Nat) (i j : Int) (due : Str) (fd : DefRec) : Prop := ∀ t b, whileOf fd.body = some (t, b) → Lk ts ρ r i "operator" → Ev 30 fd_take_operator μ [.ref r, toks ts, .int i] (.ok (.tup [.int j, .str due]) μ1) →
  ∃ ρ', Lk ts ρ' r j due ∧ ∃ N, ∀ n, N ≤ n → ∀ d, 30 ≤ d → evW tab cst (n + 1) d fd.scope ρ μ t b = evW tab cst n d fd.scope ρ' μ1 t b
theorem it_operator (due : Str) : ItOperator ts ρ μ μ1 r i j due fd_expression := by
  refine atFd (p := ItOperator ts ρ μ μ1 r i j due) ⟨_, rfl, ?_⟩
  intro t b ht lk ⟨N, e⟩
  replace ht : some _ = some _ := ht
  cases ht
  obtain ⟨k1, k2, k3, k4, k5⟩ := lk
  have s1 : sok "operand" := by decide +kernel
  have s2 : sok "end" := by decide +kernel
  have s3 : sok "operator" := by decide +kernel
  refine ⟨(ρ.set "at" (.int j)).set "due" (.str due), ⟨by simp [lookup_set, ofString_inj, k1], by simp [lookup_set, ofString_inj, k2], by simp [lookup_set, ofString_inj, k3], by simp [lookup_set, ofString_inj, k4], by simp [lookup_set, ofString_inj, k5]⟩,
    N + 60, fun n hn d hd => ?_⟩
  first | obtain ⟨n, rfl, hq_n⟩ := sub_ex2 (C := 60) hn | obtain ⟨n, rfl⟩ := sub_ex1 (C := 60) hn | obtain ⟨n, rfl⟩ : ∃ e, n = e + 60 := ⟨n - 60, by omega⟩
  rw [r_w]
  simp -dsimp (disch := first | assumption | exact mi | exact jj rfl | exact ke | exact kc | exact kf | exact kg | exact kh ‹_› rfl | exact mv ‹_› | exact mw ‹_› | exact mx ‹_› | exact my ‹_› | exact mz ‹_› | exact lv ‹_› rfl | exact lw ‹_› rfl | exact lu ‹_› rfl | exact m5 ‹_› rfl | exact m7 rfl | exact mj ‹_› rfl | exact ml ke | exact ml (ml ke) | exact ml (ml kc) | exact ml (ml (ml ke)) | exact ml (ml (ml kc)) | decide +kernel | omega | (intros; contradiction)) [zipArgs, gy, gz, jk, jm, ki, kj, bq, bg, br, b7, b8, bt, bu, jn, km, ko, jo, g5, g6, bh, bv, bi, d7, aa, ag, a5, ah, au, ac, ai, a6, aj, av, ak, aw, ba, ax, a7, ae, al, a8, am, ay, af, ao, a9, aq, az, jp, bj, bw, bk, bn, bc, g7, g8, g9, jq, jr, kr, kt, bz, b4, b9, b5, ce, d9, cw, eb, cy, cz, ku, kx, ky, kz, ec, eg, c6, eh, ej, ek, er, h9, cg, et, ch, eu, ia, ey, jt, ju, c7, ci, cj, cn, ↓k7, ↓k8, ↓k9, ↓lb, ez, c8, fa, ↓lz, lf, jv, ib, lg, lh, lj, ll, lq, ls, c9, da, cq, dg, cr, b6, cu, l6, l7, l8, l9, jw, ic, jx, jy, ie, ig, n_radd', jz, ij, j0, j1, j2, j3, ik, fc, fe, fg, bp, be, dh, j4, cv, im, j5, j6, j7, io, ip, iq, ir, j8, iu, ma, mc, md, me, mm, mn, mr, mf, iv, fh, iw, iy, ↓iz, i0, fi, di, fj, dk, fk, fm, dl, fp, fq, i6, ms, mt, i7, ft, fu, dm, dq, i9, fv, dt, fw, du, ja, dw, fy, fz, jb, f0, f5, dy, dz, jc, f7, d3, f8, d4, jd, d5, f9, gn, mu, j9, gp, gq, as1', as2', as3', appendV, popV, je, mh, gs, gu, jf, d6, gv, jg, jh, ji, gw, gx, tab_take_operator, e, k1, k2, k3, k4, k5, eqV_str]
noncomputable abbrev ItOperatorX (ts : List Tk) (ρ : Rho) (μ μ1 : M) (r : Nat) (i : Int) (c : Str) (fd : DefRec) : Prop := ∀ t b, whileOf fd.body = some (t, b) → Lk ts ρ r i "operator" → Ev 30 fd_take_operator μ [.ref r, toks ts, .int i] (.exc c μ1) →
  ∃ N, ∀ n, N ≤ n → ∀ d, 30 ≤ d → evW tab cst n d fd.scope ρ μ t b = .exc c μ1
theorem it_operatorx (c : Str) : ItOperatorX ts ρ μ μ1 r i c fd_expression := by
  refine atFd (p := ItOperatorX ts ρ μ μ1 r i c) ⟨_, rfl, ?_⟩
  intro t b ht lk ⟨N, e⟩
  replace ht : some _ = some _ := ht
  cases ht
  obtain ⟨k1, k2, k3, k4, k5⟩ := lk
  have s1 : sok "operand" := by decide +kernel
  have s2 : sok "end" := by decide +kernel
  have s3 : sok "operator" := by decide +kernel
  refine ⟨N + 60, fun n hn d hd => ?_⟩
  first | obtain ⟨n, rfl, hq_n⟩ := sub_ex2 (C := 60) hn | obtain ⟨n, rfl⟩ := sub_ex1 (C := 60) hn | obtain ⟨n, rfl⟩ : ∃ e, n = e + 60 := ⟨n - 60, by omega⟩
  rw [r_w]
  simp -dsimp (disch := first | assumption | exact mi | exact jj rfl | exact ke | exact kc | exact kf | exact kg | exact kh ‹_› rfl | exact mv ‹_› | exact mw ‹_› | exact mx ‹_› | exact my ‹_› | exact mz ‹_› | exact lv ‹_› rfl | exact lw ‹_› rfl | exact lu ‹_› rfl | exact m5 ‹_› rfl | exact m7 rfl | exact mj ‹_› rfl | exact ml ke | exact ml (ml ke) | exact ml (ml kc) | exact ml (ml (ml ke)) | exact ml (ml (ml kc)) | decide +kernel | omega | (intros; contradiction)) [zipArgs, gy, gz, jk, jm, ki, kj, bq, bg, br, b7, b8, bt, bu, jn, km, ko, jo, g5, g6, bh, bv, bi, d7, aa, ag, a5, ah, au, ac, ai, a6, aj, av, ak, aw, ba, ax, a7, ae, al, a8, am, ay, af, ao, a9, aq, az, jp, bj, bw, bk, bn, bc, g7, g8, g9, jq, jr, kr, kt, bz, b4, b9, b5, ce, d9, cw, eb, cy, cz, ku, kx, ky, kz, ec, eg, c6, eh, ej, ek, er, h9, cg, et, ch, eu, ia, ey, jt, ju, c7, ci, cj, cn, ↓k7, ↓k8, ↓k9, ↓lb, ez, c8, fa, ↓lz, lf, jv, ib, lg, lh, lj, ll, lq, ls, c9, da, cq, dg, cr, b6, cu, l6, l7, l8, l9, jw, ic, jx, jy, ie, ig, n_radd', jz, ij, j0, j1, j2, j3, ik, fc, fe, fg, bp, be, dh, j4, cv, im, j5, j6, j7, io, ip, iq, ir, j8, iu, ma, mc, md, me, mm, mn, mr, mf, iv, fh, iw, iy, ↓iz, i0, fi, di, fj, dk, fk, fm, dl, fp, fq, i6, ms, mt, i7, ft, fu, dm, dq, i9, fv, dt, fw, du, ja, dw, fy, fz, jb, f0, f5, dy, dz, jc, f7, d3, f8, d4, jd, d5, f9, gn, mu, j9, gp, gq, as1', as2', as3', appendV, popV, je, mh, gs, gu, jf, d6, gv, jg, jh, ji, gw, gx, tab_take_operator, e, k1, k2, k3, k4, k5, eqV_str]
noncomputable abbrev ItEnd (ts : List Tk) (ρ : Rho) (μ : M) (r : Nat) (i : Int) (fd : DefRec) : Prop := ∀ t b, whileOf fd.body = some (t, b) → Lk ts ρ r i "end" → ∀ n, 60 ≤ n → ∀ d, 30 ≤ d → evW tab cst n d fd.scope ρ μ t b = .ok (.next, ρ) μ
theorem it_end : ItEnd ts ρ μ r i fd_expression := by
  refine atFd (p := ItEnd ts ρ μ r i) ⟨_, rfl, ?_⟩
  intro t b ht lk n hn d hd
  replace ht : some _ = some _ := ht
  cases ht
  obtain ⟨k1, k2, k3, k4, k5⟩ := lk
  have s2 : sok "end" := by decide +kernel
  first | obtain ⟨n, rfl, hq_n⟩ := sub_ex2 (C := 60) hn | obtain ⟨n, rfl⟩ := sub_ex1 (C := 60) hn | obtain ⟨n, rfl⟩ : ∃ e, n = e + 60 := ⟨n - 60, by omega⟩
  rw [r_w]
  simp -dsimp (disch := first | assumption | exact mi | exact jj rfl | exact ke | exact kc | exact kf | exact kg | exact kh ‹_› rfl | exact mv ‹_› | exact mw ‹_› | exact mx ‹_› | exact my ‹_› | exact mz ‹_› | exact lv ‹_› rfl | exact lw ‹_› rfl | exact lu ‹_› rfl | exact m5 ‹_› rfl | exact m7 rfl | exact mj ‹_› rfl | exact ml ke | exact ml (ml ke) | exact ml (ml kc) | exact ml (ml (ml ke)) | exact ml (ml (ml kc)) | decide +kernel | omega | (intros; contradiction)) [zipArgs, gy, gz, jk, jm, ki, kj, bq, bg, br, b7, b8, bt, bu, jn, km, ko, jo, g5, g6, bh, bv, bi, d7, aa, ag, a5, ah, au, ac, ai, a6, aj, av, ak, aw, ba, ax, a7, ae, al, a8, am, ay, af, ao, a9, aq, az, jp, bj, bw, bk, bn, bc, g7, g8, g9, jq, jr, kr, kt, bz, b4, b9, b5, ce, d9, cw, eb, cy, cz, ku, kx, ky, kz, ec, eg, c6, eh, ej, ek, er, h9, cg, et, ch, eu, ia, ey, jt, ju, c7, ci, cj, cn, ↓k7, ↓k8, ↓k9, ↓lb, ez, c8, fa, ↓lz, lf, jv, ib, lg, lh, lj, ll, lq, ls, c9, da, cq, dg, cr, b6, cu, l6, l7, l8, l9, jw, ic, jx, jy, ie, ig, n_radd', jz, ij, j0, j1, j2, j3, ik, fc, fe, fg, bp, be, dh, j4, cv, im, j5, j6, j7, io, ip, iq, ir, j8, iu, ma, mc, md, me, mm, mn, mr, mf, iv, fh, iw, iy, ↓iz, i0, fi, di, fj, dk, fk, fm, dl, fp, fq, i6, ms, mt, i7, ft, fu, dm, dq, i9, fv, dt, fw, du, ja, dw, fy, fz, jb, f0, f5, dy, dz, jc, f7, d3, f8, d4, jd, d5, f9, gn, mu, j9, gp, gq, as1', as2', as3', appendV, popV, je, mh, gs, gu, jf, d6, gv, jg, jh, ji, gw, gx, k1, k2, k3, k4, k5, eqV_str]
end
end Mine
namespace Mine
inductive KindOk : Str → Prop
  | top : KindOk "top"
  | group : KindOk "group"
  | call : KindOk "call"
  | fn : KindOk "fn"
  | item : KindOk "item"
theorem KindOk.sok {k : Str} (h : KindOk k) : Mine.sok k := by cases h <;> decide +kernel
theorem Opens.kind {kd x k : Str} (h : Opens kd x k) : KindOk k := by cases h <;> constructor
theorem KindOk.is {f : Fr} (h : KindOk f.kind) : isTop f = some (decide (f.kind = "top") || decide (f.kind = "group")) := by
  unfold isTop
  generalize f.kind = k at h
  cases h <;> kernel_rfl
inductive Res where
  | done (v : V) (i : Nat)
  | exc (c : Str)
inductive Run (ts : List Tk) : List Fr → Nat → Bool → Res → Prop
  | val {f : Fr} {fs : List Fr} {i : Nat} {x : List V} {res : Res} (po : PO ts i (.tup x)) (hi : i < ts.length) (k : Run ts ({ f with operands := .tup x :: f.operands } :: fs) (i + 1) false res) : Run ts (f :: fs) i true res
  | neg {f : Fr} {fs : List Fr} {i : Nat} {res : Res} (hk : tkAt ts i = (("sign" : Str), ("-" : Str))) (hi : i < ts.length) (k : Run ts ({ f with ops := ("neg", 12) :: f.ops } :: fs) (i + 1) true res) : Run ts (f :: fs) i true res
  | not {f : Fr} {fs : List Fr} {i : Nat} {res : Res} (hk : tkAt ts i = (("word" : Str), ("NOT" : Str))) (hi : i < ts.length) (k : Run ts ({ f with ops := ("not", 6) :: f.ops } :: fs) (i + 1) true res) : Run ts (f :: fs) i true res
  | group {fs : List Fr} {i : Nat} {res : Res} (hk : tkAt ts i = (("sign" : Str), ("(" : Str))) (hi : i < ts.length) (hl : fs.length ≤ 60) (k : Run ts (⟨"group", "", [], [], []⟩ :: fs) (i + 1) true res) : Run ts fs i true res
  | st {fs : List Fr} {i : Nat} (hk : tkAt ts i = (("sign" : Str), ("(" : Str))) (hl : 60 < fs.length) : Run ts fs i true (.exc "ST")
  | opens {fs : List Fr} {i : Nat} {kd x kind : Str} {res : Res} (hk : tkAt ts i = (kd, x)) (hp : tkAt ts (i + 1) = (("sign" : Str), ("(" : Str))) (op : Opens kd x kind) (hi : i + 1 < ts.length) (hl : fs.length ≤ 60) (k : Run ts (⟨kind, x, [], [], []⟩ :: fs) (i + 2) true res) : Run ts fs i true res
  | sn {fs : List Fr} {i : Nat} {kd x : Str} (hk : tkAt ts i = (kd, x)) (c : kd = "end" ∨ (kd = "sign" ∧ x ≠ "-" ∧ x ≠ "(" ∧ x ≠ "+")) : Run ts fs i true (.exc "SN")
  | snw {fs : List Fr} {i : Nat} {x : Str} (hk : tkAt ts i = (("word" : Str), x)) (hp : tkAt ts (i + 1) ≠ (("sign" : Str), ("(" : Str))) (op : Opens "word" x "call") : Run ts fs i true (.exc "SN")
  | op {f : Fr} {fs : List Fr} {i : Nat} {kd x : Str} {s : Int} {os' : List V} {ops' : List (Str × Int)} {res : Res} (hk : tkAt ts i = (kd, x)) (hd : kd = "sign" ∨ kd = "word") (hs : keyIn x strengths = some (.int s)) (hi : i < ts.length) (j : Join s f.operands f.ops os' ops')
      (k : Run ts ({ f with operands := os', ops := (x, s) :: ops' } :: fs) (i + 1) true res) : Run ts (f :: fs) i false res
  | fin {f : Fr} {i : Nat} {kd x : Str} (hk : tkAt ts i = (kd, x)) (hd : kd = "end" ∨ ((kd = "sign" ∨ kd = "word") ∧ keyIn x strengths = none)) (ht : f.kind = "top") {last : V} {os' : List V} {ops' : List (Str × Int)} (j : Join 0 f.operands f.ops (last :: os') ops') : Run ts [f] i false (.done last i)
  | comma {f : Fr} {fs : List Fr} {i : Nat} {last : V} {os' : List V} {ops' : List (Str × Int)} {res : Res} (hk : tkAt ts i = (("sign" : Str), ("," : Str))) (hn : f.kind ≠ "top") (hg : f.kind ≠ "group") (hi : i < ts.length) (j : Join 0 f.operands f.ops (last :: os') ops')
      (k : Run ts ({ f with args := f.args ++ [last], operands := os', ops := ops' } :: fs) (i + 1) true res) : Run ts (f :: fs) i false res
  | close {f f2 : Fr} {fs : List Fr} {i : Nat} {last : V} {os' : List V} {ops' : List (Str × Int)} {b : Bool} {res : Res} (hk : tkAt ts i = (("sign" : Str), (")" : Str))) (hn : f.kind ≠ "top") (hb : isTop f = some b) (hi : i < ts.length) (j : Join 0 f.operands f.ops (last :: os') ops')
      (k : Run ts ({ f2 with operands := f.fin b last :: f2.operands } :: fs) (i + 1) false res) : Run ts (f :: f2 :: fs) i false res
  | osn {f : Fr} {fs : List Fr} {i : Nat} {x : Str} (hk : tkAt ts i = (("end" : Str), x)) (hn : f.kind ≠ "top") : Run ts (f :: fs) i false (.exc "SN")
theorem Join.len {s : Int} {os os' : List V} {ops ops' : List (Str × Int)} (j : Join s os ops os' ops') : os'.length ≤ os.length ∧ ops'.length ≤ ops.length := by
  induction j with
  | nil => exact ⟨Nat.le_refl _, Nat.le_refl _⟩
  | stop => exact ⟨Nat.le_refl _, Nat.le_refl _⟩
  | un _ _ _ ih => simp at ih ⊢; omega
  | bin _ _ _ _ _ ih => simp at ih ⊢; omega
noncomputable abbrev lvs (fs : List (Nat × Fr)) : List V := (fs.map fun (p : Nat × Fr) => p.2.v p.1).reverse
structure Rep (b : Nat) (μ : M) (r : Nat) (fs : List (Nat × Fr)) : Prop where
  lv : μ[r]? = some (lvs fs)
  at_ : ∀ p ∈ fs, FrAt μ p.1 p.2
  sep : fs.Pairwise fun p q => q.1 + 3 ≤ p.1
  rr : ∀ p ∈ fs, p.1 + 3 ≤ r ∨ r < p.1
  low : ∀ p ∈ fs, b ≤ p.1
  lowr : b ≤ r
  kind : ∀ p ∈ fs, KindOk p.2.kind
noncomputable def Old (b : Nat) (μ μ' : M) : Prop := μ.length ≤ μ'.length ∧ ∀ j, j < b → μ'[j]? = μ[j]?
theorem Old.refl {b : Nat} {μ : M} : Old b μ μ := ⟨Nat.le_refl _, fun _ _ => rfl⟩
theorem Old.trans {b : Nat} {μ μ' μ'' : M} (x : Old b μ μ') (y : Old b μ' μ'') : Old b μ μ'' := ⟨Nat.le_trans x.1 y.1, fun j h => (y.2 j h).trans (x.2 j h)⟩
theorem FrAt.same {μ μ' : M} {n : Nat} {f : Fr} (F : FrAt μ n f) (h : ∀ j, n ≤ j → j ≤ n + 2 → μ'[j]? = μ[j]?) : FrAt μ' n f :=
  ⟨by rw [h _ (by first | exact lu (by assumption) rfl | exact lv (by assumption) rfl | exact lw (by assumption) rfl | exact lx (by assumption) rfl | exact ly (by assumption) rfl | omega) (by first | exact lu (by assumption) rfl | exact lv (by assumption) rfl | exact lw (by assumption) rfl | exact lx (by assumption) rfl | exact ly (by assumption) rfl | omega)]; exact F.args, by rw [h _ (by first | exact lu (by assumption) rfl | exact lv (by assumption) rfl | exact lw (by assumption) rfl | exact lx (by assumption) rfl | exact ly (by assumption) rfl | omega) (by first | exact lu (by assumption) rfl | exact lv (by assumption) rfl | exact lw (by assumption) rfl | exact lx (by assumption) rfl | exact ly (by assumption) rfl | omega)]; exact F.opnds, by rw [h _ (by first | exact lu (by assumption) rfl | exact lv (by assumption) rfl | exact lw (by assumption) rfl | exact lx (by assumption) rfl | exact ly (by assumption) rfl | omega) (by first | exact lu (by assumption) rfl | exact lv (by assumption) rfl | exact lw (by assumption) rfl | exact lx (by assumption) rfl | exact ly (by assumption) rfl | omega)]; exact F.oprs⟩
theorem FrAt.lt {μ : M} {n : Nat} {f : Fr} (F : FrAt μ n f) : n + 2 < μ.length := (List.getElem?_eq_some_iff.mp F.oprs).1
theorem Rep.upd {b : Nat} {μ μ' : M} {r n : Nat} {f f' : Fr} {fs : List (Nat × Fr)} (R : Rep b μ r ((n, f) :: fs)) (k : Keep n μ μ') (F : FrAt μ' n f') (hk : f'.kind = f.kind) (hw : f'.word = f.word) : Rep b μ' r ((n, f') :: fs) ∧ Old b μ μ' := by
  obtain ⟨lv, at_, sep, rr, low, lowr, kind⟩ := R
  have rn := rr _ List.mem_cons_self
  have ln := low _ List.mem_cons_self
  have kn := kind _ List.mem_cons_self
  dsimp only at rn ln kn
  rw [List.pairwise_cons] at sep
  refine ⟨⟨?_, ?_, List.pairwise_cons.mpr sep, ?_, ?_, lowr, ?_⟩, ⟨Nat.le_of_eq k.1.symm, fun j hj => k.2 j (by first | exact lu (by assumption) rfl | exact lv (by assumption) rfl | exact lw (by assumption) rfl | exact lx (by assumption) rfl | exact ly (by assumption) rfl | omega)⟩⟩
  · rw [k.2 r (by first | exact lu (by assumption) rfl | exact lv (by assumption) rfl | exact lw (by assumption) rfl | exact lx (by assumption) rfl | exact ly (by assumption) rfl | omega), lv]
    simp [Fr.v, hk, hw]
  · intro p hp
    rcases List.mem_cons.mp hp with rfl | hp
    · exact F
    · exact (at_ p (List.mem_cons_of_mem _ hp)).same fun j h1 h2 => k.2 j (.inl (by have := sep.1 p hp; dsimp only at this; omega))
  · intro p hp
    rcases List.mem_cons.mp hp with rfl | hp
    · exact rn
    · exact rr p (List.mem_cons_of_mem _ hp)
  · intro p hp
    rcases List.mem_cons.mp hp with rfl | hp
    · exact ln
    · exact low p (List.mem_cons_of_mem _ hp)
  · intro p hp
    rcases List.mem_cons.mp hp with rfl | hp
    · dsimp only; rw [hk]; exact kn
    · exact kind p (List.mem_cons_of_mem _ hp)
theorem Rep.push {b : Nat} {μ : M} {r : Nat} {k w : Str} {fs : List (Nat × Fr)} (R : Rep b μ r fs) (hk : KindOk k) :
    Rep b ((μ ++ [[], [], []]).set r ((lvs fs) ++ [V.level (.str k) (.str w) μ.length])) r ((μ.length, ⟨k, w, [], [], []⟩) :: fs) ∧ Old b μ ((μ ++ [[], [], []]).set r ((lvs fs) ++ [V.level (.str k) (.str w) μ.length])) := by
  obtain ⟨lv, at_, sep, rr, low, lowr, kind⟩ := R
  have lr := (List.getElem?_eq_some_iff.mp lv).1
  have g : ∀ j, j < μ.length → j ≠ r → ((μ ++ [[], [], []]).set r ((lvs fs) ++ [V.level (.str k) (.str w) μ.length]))[j]? = μ[j]? := fun j h1 h2 => by
    rw [List.getElem?_set_ne (by first | exact k_0 (by assumption) | exact k_1 (by assumption) | exact k_2 (by assumption) | exact k_3 | exact k_4 | exact k_5 | exact k_3.symm | exact k_4.symm | exact k_5.symm | omega), List.getElem?_append_left h1]
  refine ⟨⟨?_, ?_, List.pairwise_cons.mpr ⟨fun p hp => (at_ p hp).lt, sep⟩, ?_, ?_, lowr, ?_⟩, ⟨by simp, fun j hj => g j (by first | exact lu (by assumption) rfl | exact lv (by assumption) rfl | exact lw (by assumption) rfl | exact lx (by assumption) rfl | exact ly (by assumption) rfl | omega) (by first | exact lu (by assumption) rfl | exact lv (by assumption) rfl | exact lw (by assumption) rfl | exact lx (by assumption) rfl | exact ly (by assumption) rfl | omega)⟩⟩
  · have : r < (μ ++ [[], [], []]).length := by simp; omega
    rw [List.getElem?_set_self this]
    simp [Fr.v, lvs]
  · intro p hp
    rcases List.mem_cons.mp hp with rfl | hp
    · refine ⟨?_, ?_, ?_⟩
      · rw [List.getElem?_set_ne (by dsimp only; omega), List.getElem?_append_right (Nat.le_refl _)]; simp
      · rw [List.getElem?_set_ne (by dsimp only; omega), List.getElem?_append_right (by dsimp only; omega)]; simp
      · rw [List.getElem?_set_ne (by dsimp only; omega), List.getElem?_append_right (by dsimp only; omega)]; simp
    · exact (at_ p hp).same fun j h1 h2 => g j (by have := (at_ p hp).lt; omega) (by have := rr p hp; omega)
  · intro p hp
    rcases List.mem_cons.mp hp with rfl | hp
    · exact .inr lr
    · exact rr p hp
  · intro p hp
    rcases List.mem_cons.mp hp with rfl | hp
    · dsimp only; omega
    · exact low p hp
  · intro p hp
    rcases List.mem_cons.mp hp with rfl | hp
    · exact hk
    · exact kind p hp
noncomputable def Bd (i : Nat) (f : Fr) : Prop := f.args.length ≤ i ∧ f.operands.length ≤ i ∧ f.ops.length ≤ i
theorem Bd.mono {i j : Nat} {f : Fr} (h : Bd i f) (hj : i ≤ j) : Bd j f := ⟨Nat.le_trans h.1 hj, Nat.le_trans h.2.1 hj, Nat.le_trans h.2.2 hj⟩
end Mine
namespace Mine
noncomputable def Ends (ts : List Tk) (b : Nat) (r : Nat) (t : Expr) (bd : List Stmt) (ρ : Rho) (μ μ' : M) : Res → Prop
  | .exc c => ∃ N, ∀ n, N ≤ n → ∀ d, 30 ≤ d → evW tab cst n d fd_expression.scope ρ μ t bd = .exc c μ'
  | .done v j => ∃ ρ' n0 f os' ops', Rep b μ' r [(n0, f)] ∧ f.kind = "top" ∧ Join 0 f.operands f.ops (v :: os') ops' ∧ Lk ts ρ' r j "end" ∧ Bd j f ∧ j ≤ ts.length ∧ ∃ N, ∀ n, N ≤ n → ∀ d, 30 ≤ d → evW tab cst n d fd_expression.scope ρ μ t bd = .ok (.next, ρ') μ'
theorem Ends.back {ts : List Tk} {b r : Nat} {t : Expr} {bd : List Stmt} {ρ ρ1 : Rho} {μ μ1 μ' : M} {res : Res} (st : ∃ N, ∀ n, N ≤ n → ∀ d, 30 ≤ d → evW tab cst (n + 1) d fd_expression.scope ρ μ t bd = evW tab cst n d fd_expression.scope ρ1 μ1 t bd)
    (e : Ends ts b r t bd ρ1 μ1 μ' res) : Ends ts b r t bd ρ μ μ' res := by
  obtain ⟨N, st⟩ := st
  have go : ∀ {o : Out (Fl × Rho)}, (∃ N, ∀ n, N ≤ n → ∀ d, 30 ≤ d → evW tab cst n d fd_expression.scope ρ1 μ1 t bd = o) → ∃ N, ∀ n, N ≤ n → ∀ d, 30 ≤ d → evW tab cst n d fd_expression.scope ρ μ t bd = o := fun {o} ⟨N', e⟩ => by
    refine ⟨N + N' + 1, fun n hn d hd => ?_⟩
    first | obtain ⟨n, rfl, hq_n⟩ := sub_ex2 (C := 1) hn | obtain ⟨n, rfl⟩ := sub_ex1 (C := 1) hn | obtain ⟨n, rfl⟩ : ∃ m, n = m + 1 := ⟨n - 1, by omega⟩
    rw [st n (by first | exact lu (by assumption) rfl | exact lv (by assumption) rfl | exact lw (by assumption) rfl | exact lx (by assumption) rfl | exact ly (by assumption) rfl | omega) d hd, e n (by first | exact lu (by assumption) rfl | exact lv (by assumption) rfl | exact lw (by assumption) rfl | exact lx (by assumption) rfl | exact ly (by assumption) rfl | omega) d hd]
  cases res with
  | exc c => exact go e
  | done f j =>
    obtain ⟨ρ', n0, f, os', ops', a, a1, a2, b', c, d, e⟩ := e
    exact ⟨ρ', n0, f, os', ops', a, a1, a2, b', c, d, go e⟩
theorem lvs_cons {p : Nat × Fr} {fs : List (Nat × Fr)} : lvs (p :: fs) = lvs fs ++ [p.2.v p.1] := by simp [lvs]
theorem lvs_len {fs : List (Nat × Fr)} : (lvs fs).length = fs.length := by simp [lvs]
theorem Rep.top {b : Nat} {μ : M} {r n : Nat} {f : Fr} {fs : List (Nat × Fr)} (R : Rep b μ r ((n, f) :: fs)) : μ[r]? = some (lvs fs ++ [f.v n]) := by rw [R.lv, lvs_cons]
theorem Keep.set {μ : M} {n k : Nat} {x : List V} (h1 : n ≤ k) (h2 : k ≤ n + 2) : Keep n μ (μ.set k x) := ⟨by simp, fun j hj => by rw [List.getElem?_set_ne (by first | exact k_0 (by assumption) | exact k_1 (by assumption) | exact k_2 (by assumption) | exact k_3 | exact k_4 | exact k_5 | exact k_3.symm | exact k_4.symm | exact k_5.symm | omega)]⟩
theorem set_at {μ : M} {k : Nat} {x y : List V} (h : μ[k]? = some y) : (μ.set k x)[k]? = some x := by
  simp [(List.getElem?_eq_some_iff.mp h).1]
theorem Bd.up {i k n : Nat} {f f' : Fr} {FS : List (Nat × Fr)} (B : ∀ p ∈ (n, f) :: FS, Bd i p.2) (hk : i ≤ k) (h : Bd k f') : ∀ p ∈ (n, f') :: FS, Bd k p.2 := fun p hp => by
  rcases List.mem_cons.mp hp with rfl | hp
  · exact h
  · exact (B p (List.mem_cons_of_mem _ hp)).mono hk
structure RIn (ts : List Tk) (b r : Nat) (FS : List (Nat × Fr)) (i : Nat) (due : Str) (ρ : Rho) (μ : M) (fs : List Fr) : Prop where
  hF : FS.map (·.2) = fs
  R : Rep b μ r FS
  B : ∀ p ∈ FS, Bd i p.2
  hb : i ≤ ts.length
  hl : FS.length ≤ 61
  lk : Lk ts ρ r i due
inductive RunRes (ts : List Tk) (b r : Nat) (t : Expr) (bd : List Stmt) (ρ : Rho) (μ : M) (res : Res) : Prop
  | mk (μ' : M) (o : Old b μ μ') (e : Ends ts b r t bd ρ μ μ' res) : RunRes ts b r t bd ρ μ res
structure RC (ts : List Tk) (t : Expr) (bd : List Stmt) : Prop where
  h : OkTs ts
  hz : ts.length ≤ 8000
  ht : whileOf fd_expression.body = some (t, bd)
noncomputable def RunGo (ts : List Tk) (t : Expr) (bd : List Stmt) (fs : List Fr) (i : Nat) (due : Str) (res : Res) : Prop := ∀ {μ : M} {ρ : Rho} {r b : Nat} {FS : List (Nat × Fr)}, RIn ts b r FS i due ρ μ fs → RunRes ts b r t bd ρ μ res
section
variable {ts : List Tk} {t : Expr} {bd : List Stmt} {f f' : Fr} {fs : List Fr} {i : Nat} {due due' : Str} {res : Res} {μ μ1 : M} {ρ ρ' : Rho} {r b n : Nat} {FS : List (Nat × Fr)}
theorem RC.i8 (C : RC ts t bd) (hi : i ≤ ts.length) : i ≤ 8000 := Nat.le_trans hi C.hz
theorem RunGo.head (go : ∀ {μ : M} {ρ : Rho} {r b n : Nat} {FS : List (Nat × Fr)}, RIn ts b r ((n, f) :: FS) i due ρ μ (f :: fs) → FS.map (·.2) = fs → FrAt μ n f → Bd i f → RunRes ts b r t bd ρ μ res) : RunGo ts t bd (f :: fs) i due res := by
  intro μ ρ r b FS J
  cases FS with
  | nil => exact absurd J.hF (by simp)
  | cons p FS =>
    obtain ⟨n, g⟩ := p
    have e := List.cons.inj J.hF
    obtain rfl : g = f := e.1
    exact go J e.2 (J.R.at_ _ List.mem_cons_self) (J.B _ List.mem_cons_self)
theorem RIn.step (J : RIn ts b r ((n, f) :: FS) i due ρ μ (f :: fs)) (hF : FS.map (·.2) = fs) (kp : Keep n μ μ1) (F' : FrAt μ1 n f') (hk : f'.kind = f.kind) (hw : f'.word = f.word) (hi : i < ts.length) (hB : Bd (i + 1) f') (lk' : Lk ts ρ' r ((i : Int) + 1) due') :
    RIn ts b r ((n, f') :: FS) (i + 1) due' ρ' μ1 (f' :: fs) ∧ Old b μ μ1 :=
  have x := J.R.upd kp F' hk hw
  ⟨⟨congrArg (f' :: ·) hF, x.1, Bd.up J.B (Nat.le_succ _) hB, hi, J.hl, lk'⟩, x.2⟩
theorem RIn.len (J : RIn ts b r FS i due ρ μ fs) {k : Nat} (h : fs.length ≤ k) : FS.length ≤ k := by rw [← J.hF, List.length_map] at h; exact h
theorem RIn.push {kind w : Str} (J : RIn ts b r FS i due ρ μ fs) (hk : KindOk kind) (hl : fs.length ≤ 60) {k : Nat} (hik : i ≤ k) (hi : k ≤ ts.length) (lk' : Lk ts ρ' r (k : Int) due') :
    RIn ts b r ((μ.length, ⟨kind, w, [], [], []⟩) :: FS) k due' ρ' ((μ ++ [[], [], []]).set r ((lvs FS) ++ [V.level (.str kind) (.str w) μ.length])) (⟨kind, w, [], [], []⟩ :: fs) ∧ Old b μ ((μ ++ [[], [], []]).set r ((lvs FS) ++ [V.level (.str kind) (.str w) μ.length])) :=
  have x := J.R.push (k := kind) (w := w) hk
  ⟨⟨congrArg (_ :: ·) J.hF, x.1, fun p hp => (List.mem_cons.mp hp).elim (fun e => by rw [e]; exact ⟨Nat.zero_le _, Nat.zero_le _, Nat.zero_le _⟩) fun hp => (J.B p hp).mono hik, hi, Nat.succ_le_succ (J.len hl), lk'⟩, x.2⟩
theorem RunRes.via (o : Old b μ μ1) (st : ∃ N, ∀ n, N ≤ n → ∀ d, 30 ≤ d → evW tab cst (n + 1) d fd_expression.scope ρ μ t bd = evW tab cst n d fd_expression.scope ρ' μ1 t bd) (x : RunRes ts b r t bd ρ' μ1 res) : RunRes ts b r t bd ρ μ res := by
  cases x with | mk μ' o' e => exact ⟨μ', o.trans o', e.back st⟩
theorem run_val {x : List V} (C : RC ts t bd) (po : PO ts i (.tup x)) (hi : i < ts.length) (ih : RunGo ts t bd ({ f with operands := .tup x :: f.operands } :: fs) (i + 1) "operator" res) : RunGo ts t bd (f :: fs) i "operand" res := RunGo.head fun {μ ρ r b n FS} J hF F Bf => by
  have i8 := C.i8 J.hb
  have e := e_found C.h (show i < 10000 by first | exact lu (by assumption) rfl | exact lv (by assumption) rfl | exact lw (by assumption) rfl | exact lx (by assumption) rfl | exact ly (by assumption) rfl | omega) J.R.top F.opnds (by rw [List.length_reverse]; exact Nat.le_trans Bf.2.1 (lv i8 rfl)) po
  obtain ⟨ρ', lk', st⟩ := it_operand (w := true) (j := (i : Int) + 1) _ _ C.ht J.lk e
  have s := J.step (f' := { f with operands := .tup x :: f.operands }) hF (Keep.set (k := n + 1) (x := f.operands.reverse ++ [V.tup x]) (Nat.le_succ _) (Nat.le_succ _)) ⟨by rw [List.getElem?_set_ne (by first | exact k_0 (by assumption) | exact k_1 (by assumption) | exact k_2 (by assumption) | exact k_3 | exact k_4 | exact k_5 | exact k_3.symm | exact k_4.symm | exact k_5.symm | omega)]; exact F.args, by rw [set_at F.opnds]; simp, by rw [List.getElem?_set_ne (by first | exact k_0 (by assumption) | exact k_1 (by assumption) | exact k_2 (by assumption) | exact k_3 | exact k_4 | exact k_5 | exact k_3.symm | exact k_4.symm | exact k_5.symm | omega)]; exact F.oprs⟩ rfl rfl hi ⟨Nat.le_succ_of_le Bf.1, Nat.succ_le_succ Bf.2.1, Nat.le_succ_of_le Bf.2.2⟩ (by simpa using lk')
  exact .via s.2 st (ih s.1)
theorem run_neg (C : RC ts t bd) (hk : tkAt ts i = (("sign" : Str), ("-" : Str))) (hi : i < ts.length) (ih : RunGo ts t bd ({ f with ops := ("neg", 12) :: f.ops } :: fs) (i + 1) "operand" res) : RunGo ts t bd (f :: fs) i "operand" res := RunGo.head fun {μ ρ r b n FS} J hF F Bf => by
  have i8 := C.i8 J.hb
  have e := e_neg C.h (show i < 10000 by first | exact lu (by assumption) rfl | exact lv (by assumption) rfl | exact lw (by assumption) rfl | exact lx (by assumption) rfl | exact ly (by assumption) rfl | omega) J.R.top F.oprs (by rw [List.length_reverse, List.length_map]; exact Nat.le_trans Bf.2.2 (lv i8 rfl)) hk
  obtain ⟨ρ', lk', st⟩ := it_operand (w := false) (j := (i : Int) + 1) _ _ C.ht J.lk e
  have s := J.step (f' := { f with ops := ("neg", 12) :: f.ops }) hF (Keep.set (k := n + 2) (x := (f.ops.map encOp).reverse ++ [V.tup [.str "neg", .int 12]]) (Nat.le_add_right _ _) (Nat.le_refl _)) ⟨by rw [List.getElem?_set_ne (by first | exact k_0 (by assumption) | exact k_1 (by assumption) | exact k_2 (by assumption) | exact k_3 | exact k_4 | exact k_5 | exact k_3.symm | exact k_4.symm | exact k_5.symm | omega)]; exact F.args, by rw [List.getElem?_set_ne (by first | exact k_0 (by assumption) | exact k_1 (by assumption) | exact k_2 (by assumption) | exact k_3 | exact k_4 | exact k_5 | exact k_3.symm | exact k_4.symm | exact k_5.symm | omega)]; exact F.opnds, by rw [set_at F.oprs]; simp [encOp]⟩ rfl rfl hi ⟨Nat.le_succ_of_le Bf.1, Nat.le_succ_of_le Bf.2.1, Nat.succ_le_succ Bf.2.2⟩ (by simpa using lk')
  exact .via s.2 st (ih s.1)
theorem run_not (C : RC ts t bd) (hk : tkAt ts i = (("word" : Str), ("NOT" : Str))) (hi : i < ts.length) (ih : RunGo ts t bd ({ f with ops := ("not", 6) :: f.ops } :: fs) (i + 1) "operand" res) : RunGo ts t bd (f :: fs) i "operand" res := RunGo.head fun {μ ρ r b n FS} J hF F Bf => by
  have i8 := C.i8 J.hb
  have e := e_not C.h (show i < 10000 by first | exact lu (by assumption) rfl | exact lv (by assumption) rfl | exact lw (by assumption) rfl | exact lx (by assumption) rfl | exact ly (by assumption) rfl | omega) J.R.top F.oprs (by rw [List.length_reverse, List.length_map]; exact Nat.le_trans Bf.2.2 (lv i8 rfl)) hk
  obtain ⟨ρ', lk', st⟩ := it_operand (w := false) (j := (i : Int) + 1) _ _ C.ht J.lk e
  have s := J.step (f' := { f with ops := ("not", 6) :: f.ops }) hF (Keep.set (k := n + 2) (x := (f.ops.map encOp).reverse ++ [V.tup [.str "not", .int 6]]) (Nat.le_add_right _ _) (Nat.le_refl _)) ⟨by rw [List.getElem?_set_ne (by first | exact k_0 (by assumption) | exact k_1 (by assumption) | exact k_2 (by assumption) | exact k_3 | exact k_4 | exact k_5 | exact k_3.symm | exact k_4.symm | exact k_5.symm | omega)]; exact F.args, by rw [List.getElem?_set_ne (by first | exact k_0 (by assumption) | exact k_1 (by assumption) | exact k_2 (by assumption) | exact k_3 | exact k_4 | exact k_5 | exact k_3.symm | exact k_4.symm | exact k_5.symm | omega)]; exact F.opnds, by rw [set_at F.oprs]; simp [encOp]⟩ rfl rfl hi ⟨Nat.le_succ_of_le Bf.1, Nat.le_succ_of_le Bf.2.1, Nat.succ_le_succ Bf.2.2⟩ (by simpa using lk')
  exact .via s.2 st (ih s.1)
theorem run_group (C : RC ts t bd) (hk : tkAt ts i = (("sign" : Str), ("(" : Str))) (hi : i < ts.length) (hl : fs.length ≤ 60) (ih : RunGo ts t bd (⟨"group", "", [], [], []⟩ :: fs) (i + 1) "operand" res) : RunGo ts t bd fs i "operand" res := fun {μ ρ r b FS} J => by
  have i8 := C.i8 J.hb
  have e := e_group C.h (show i < 10000 by first | exact lu (by assumption) rfl | exact lv (by assumption) rfl | exact lw (by assumption) rfl | exact lx (by assumption) rfl | exact ly (by assumption) rfl | omega) J.R.lv (by rw [lvs_len]; exact J.len hl) hk
  obtain ⟨ρ', lk', st⟩ := it_operand (w := false) (j := (i : Int) + 1) _ _ C.ht J.lk e
  have s := J.push (kind := "group") (w := "") .group hl (Nat.le_succ i) hi (by simpa using lk')
  exact .via s.2 st (ih s.1)
theorem run_st (C : RC ts t bd) (hk : tkAt ts i = (("sign" : Str), ("(" : Str))) (hl : 60 < fs.length) : RunGo ts t bd fs i "operand" (.exc "ST") := fun {μ ρ r b FS} J => by
  have i8 := C.i8 J.hb
  have hlen : 60 < FS.length := by rw [← J.hF, List.length_map] at hl; exact hl
  exact ⟨μ, .refl, it_operandx _ _ _ C.ht J.lk (e_group_st C.h (show i < 10000 by first | exact lu (by assumption) rfl | exact lv (by assumption) rfl | exact lw (by assumption) rfl | exact lx (by assumption) rfl | exact ly (by assumption) rfl | omega) J.R.lv (by rw [lvs_len]; exact hlen) (by rw [lvs_len]; exact lv J.hl rfl) hk)⟩
theorem run_opens {kd x kind : Str} (C : RC ts t bd) (hk : tkAt ts i = (kd, x)) (hp : tkAt ts (i + 1) = (("sign" : Str), ("(" : Str))) (op : Opens kd x kind) (hi : i + 1 < ts.length) (hl : fs.length ≤ 60) (ih : RunGo ts t bd (⟨kind, x, [], [], []⟩ :: fs) (i + 2) "operand" res) : RunGo ts t bd fs i "operand" res := fun {μ ρ r b FS} J => by
  have i8 := C.i8 J.hb
  have e := e_open C.h (show i < 9000 by first | exact lu (by assumption) rfl | exact lv (by assumption) rfl | exact lw (by assumption) rfl | exact lx (by assumption) rfl | exact ly (by assumption) rfl | omega) J.R.lv (by rw [lvs_len]; exact J.len hl) hk hp op
  obtain ⟨ρ', lk', st⟩ := it_operand (w := false) (j := (i : Int) + 2) _ _ C.ht J.lk e
  have s := J.push (kind := kind) (w := x) op.kind hl (Nat.le_add_right i 2) hi (by simpa using lk')
  exact .via s.2 st (ih s.1)
theorem run_sn {kd x : Str} (C : RC ts t bd) (hk : tkAt ts i = (kd, x)) (c : kd = "end" ∨ (kd = "sign" ∧ x ≠ "-" ∧ x ≠ "(" ∧ x ≠ "+")) : RunGo ts t bd fs i "operand" (.exc "SN") := fun {μ ρ r b FS} J => by
  have i8 := C.i8 J.hb
  exact ⟨μ, .refl, it_operandx _ _ _ C.ht J.lk (e_sn C.h (show i < 10000 by first | exact lu (by assumption) rfl | exact lv (by assumption) rfl | exact lw (by assumption) rfl | exact lx (by assumption) rfl | exact ly (by assumption) rfl | omega) hk c)⟩
theorem run_snw {x : Str} (C : RC ts t bd) (hk : tkAt ts i = (("word" : Str), x)) (hp : tkAt ts (i + 1) ≠ (("sign" : Str), ("(" : Str))) (op : Opens "word" x "call") : RunGo ts t bd fs i "operand" (.exc "SN") := fun {μ ρ r b FS} J => by
  have i8 := C.i8 J.hb
  exact ⟨μ, .refl, it_operandx _ _ _ C.ht J.lk (e_sn_word C.h (show i < 9000 by first | exact lu (by assumption) rfl | exact lv (by assumption) rfl | exact lw (by assumption) rfl | exact lx (by assumption) rfl | exact ly (by assumption) rfl | omega) hk hp op)⟩
theorem run_op {kd x : Str} {s : Int} {os' : List V} {ops' : List (Str × Int)} (C : RC ts t bd) (hk : tkAt ts i = (kd, x)) (hd : kd = "sign" ∨ kd = "word") (hs : keyIn x strengths = some (.int s)) (hi : i < ts.length) (j : Join s f.operands f.ops os' ops') (ih : RunGo ts t bd ({ f with operands := os', ops := (x, s) :: ops' } :: fs) (i + 1) "operand" res) : RunGo ts t bd (f :: fs) i "operator" res := RunGo.head fun {μ ρ r b n FS} J hF F Bf => by
  have i8 := C.i8 J.hb
  have l := j.len
  have b1 := Nat.le_trans Bf.2.1 i8
  have b2 := Nat.le_trans Bf.2.2 i8
  obtain ⟨μ1, e, kp, F'⟩ := e_op C.h (show i < 9000 by first | exact lu (by assumption) rfl | exact lv (by assumption) rfl | exact lw (by assumption) rfl | exact lx (by assumption) rfl | exact ly (by assumption) rfl | omega) J.R.top F (lv b1 rfl) (lv b2 rfl) (lv (Nat.le_trans l.2 b2) rfl) hk hd hs j
  obtain ⟨ρ', lk', st⟩ := it_operator _ _ _ C.ht J.lk e
  have s := J.step hF kp F' rfl rfl hi ⟨Nat.le_succ_of_le Bf.1, Nat.le_succ_of_le (Nat.le_trans l.1 Bf.2.1), Nat.succ_le_succ (Nat.le_trans l.2 Bf.2.2)⟩ (by simpa using lk')
  exact .via s.2 st (ih s.1)
theorem run_fin {kd x : Str} {last : V} {os' : List V} {ops' : List (Str × Int)} (C : RC ts t bd) (hk : tkAt ts i = (kd, x)) (hd : kd = "end" ∨ ((kd = "sign" ∨ kd = "word") ∧ keyIn x strengths = none)) (hT : f.kind = "top") (j : Join 0 f.operands f.ops (last :: os') ops') : RunGo ts t bd [f] i "operator" (.done last i) := RunGo.head fun {μ ρ r b n FS} J hF F Bf => by
  have i8 := C.i8 J.hb
  have e := e_end C.h (show i < 9000 by first | exact lu (by assumption) rfl | exact lv (by assumption) rfl | exact lw (by assumption) rfl | exact lx (by assumption) rfl | exact ly (by assumption) rfl | omega) J.R.top hk hd hT
  obtain ⟨ρ', lk', st⟩ := it_operator _ _ _ C.ht J.lk e
  refine ⟨μ, .refl, Ends.back st ?_⟩
  obtain rfl := List.map_eq_nil_iff.mp hF
  exact ⟨ρ', n, f, os', ops', J.R, hT, j, lk', Bf, J.hb, 60, fun n hn d hd => it_end _ _ C.ht lk' n hn d hd⟩
theorem run_comma {last : V} {os' : List V} {ops' : List (Str × Int)} (C : RC ts t bd) (hk : tkAt ts i = (("sign" : Str), ("," : Str))) (hn : f.kind ≠ "top") (hg : f.kind ≠ "group") (hi : i < ts.length) (j : Join 0 f.operands f.ops (last :: os') ops') (ih : RunGo ts t bd ({ f with args := f.args ++ [last], operands := os', ops := ops' } :: fs) (i + 1) "operand" res) : RunGo ts t bd (f :: fs) i "operator" res := RunGo.head fun {μ ρ r b n FS} J hF F Bf => by
  have i8 := C.i8 J.hb
  have l := j.len
  have l1 := Nat.le_of_succ_le (show os'.length + 1 ≤ f.operands.length from l.1)
  have b0 := Nat.le_trans Bf.1 i8
  have b1 := Nat.le_trans Bf.2.1 i8
  have b2 := Nat.le_trans Bf.2.2 i8
  obtain ⟨μ1, e, kp, F'⟩ := e_comma C.h (show i < 9000 by first | exact lu (by assumption) rfl | exact lv (by assumption) rfl | exact lw (by assumption) rfl | exact lx (by assumption) rfl | exact ly (by assumption) rfl | omega) J.R.top F (by first | exact lu (by assumption) rfl | exact lv (by assumption) rfl | exact lw (by assumption) rfl | exact lx (by assumption) rfl | exact ly (by assumption) rfl | omega) (by first | exact lu (by assumption) rfl | exact lv (by assumption) rfl | exact lw (by assumption) rfl | exact lx (by assumption) rfl | exact ly (by assumption) rfl | omega) (by first | exact lu (by assumption) rfl | exact lv (by assumption) rfl | exact lw (by assumption) rfl | exact lx (by assumption) rfl | exact ly (by assumption) rfl | omega) (by first | exact lu (by assumption) rfl | exact lv (by assumption) rfl | exact lw (by assumption) rfl | exact lx (by assumption) rfl | exact ly (by assumption) rfl | omega) hk (J.R.kind _ List.mem_cons_self).sok hn hg j
  obtain ⟨ρ', lk', st⟩ := it_operator _ _ _ C.ht J.lk e
  have s := J.step hF kp F' rfl rfl hi ⟨by rw [List.length_append]; exact Nat.succ_le_succ Bf.1, Nat.le_succ_of_le (Nat.le_trans l1 Bf.2.1), Nat.le_succ_of_le (Nat.le_trans l.2 Bf.2.2)⟩ (by simpa using lk')
  exact .via s.2 st (ih s.1)
theorem run_osn {x : Str} (C : RC ts t bd) (hk : tkAt ts i = (("end" : Str), x)) (hn : f.kind ≠ "top") : RunGo ts t bd (f :: fs) i "operator" (.exc "SN") := RunGo.head fun {μ ρ r b n FS} J hF F Bf => by
  have i8 := C.i8 J.hb
  exact ⟨μ, .refl, it_operatorx _ _ _ C.ht J.lk (e_osn C.h (show i < 9000 by first | exact lu (by assumption) rfl | exact lv (by assumption) rfl | exact lw (by assumption) rfl | exact lx (by assumption) rfl | exact ly (by assumption) rfl | omega) J.R.top hk (J.R.kind _ List.mem_cons_self).sok hn)⟩
structure Two (b r : Nat) (μ : M) (n n2 : Nat) (FS : List (Nat × Fr)) : Prop where
  s12 : n2 + 3 ≤ n
  s2 : ∀ p ∈ FS, p.1 + 3 ≤ n2
  sep : FS.Pairwise fun p q => q.1 + 3 ≤ p.1
  r1 : n + 3 ≤ r ∨ r < n
  r2 : n2 + 3 ≤ r ∨ r < n2
  rr : ∀ p ∈ FS, p.1 + 3 ≤ r ∨ r < p.1
  lo1 : b ≤ n
  lo2 : b ≤ n2
  lor : b ≤ r
theorem Two.of {f2 : Fr} {n2 : Nat} (R : Rep b μ r ((n, f) :: (n2, f2) :: FS)) : Two b r μ n n2 FS := by
  have sep := R.sep
  rw [List.pairwise_cons, List.pairwise_cons] at sep
  have m2 : ((n2, f2) : Nat × Fr) ∈ (n, f) :: (n2, f2) :: FS := List.mem_cons_of_mem _ List.mem_cons_self
  exact ⟨sep.1 _ List.mem_cons_self, sep.2.1, sep.2.2, R.rr _ List.mem_cons_self, R.rr _ m2, fun p hp => R.rr p (List.mem_cons_of_mem _ (List.mem_cons_of_mem _ hp)), R.low _ List.mem_cons_self, R.low _ m2, R.lowr⟩
theorem run_close {f2 : Fr} {last : V} {os' : List V} {ops' : List (Str × Int)} {b' : Bool} (C : RC ts t bd) (hk : tkAt ts i = (("sign" : Str), (")" : Str))) (hn : f.kind ≠ "top") (hbT : isTop f = some b') (hi : i < ts.length) (j : Join 0 f.operands f.ops (last :: os') ops')
    (ih : RunGo ts t bd ({ f2 with operands := f.fin b' last :: f2.operands } :: fs) (i + 1) "operator" res) : RunGo ts t bd (f :: f2 :: fs) i "operator" res := RunGo.head fun {μ ρ r b n FS} J hF F Bf => by
  cases FS with
  | nil => exact absurd hF (by simp)
  | cons p FS =>
    obtain ⟨n2, g⟩ := p
    have eF := List.cons.inj hF
    obtain rfl : g = f2 := eF.1
    have R := J.R
    have m2 : ((n2, g) : Nat × Fr) ∈ (n, f) :: (n2, g) :: FS := List.mem_cons_of_mem _ List.mem_cons_self
    have F2 := R.at_ _ m2
    have B2 : Bd i g := J.B _ m2
    have T := Two.of R
    have i8 := C.i8 J.hb
    have b0 := Nat.le_trans Bf.1 i8
    have b1 := Nat.le_trans Bf.2.1 i8
    have b2 := Nat.le_trans Bf.2.2 i8
    have c1 := Nat.le_trans B2.2.1 i8
    have l := j.len
    have l1 := Nat.le_of_succ_le (show os'.length + 1 ≤ f.operands.length from l.1)
    have l2 := l.2
    have c2 := B2.1
    have c3 := Nat.le_trans B2.2.2 i8
    have hl := J.hl
    rw [List.length_cons, List.length_cons] at hl
    have hr : μ[r]? = some (lvs FS ++ [g.v n2, f.v n]) := by rw [R.lv, lvs_cons, lvs_cons]; simp
    obtain ⟨μ1, e, F2', gr, gl, oth⟩ := e_close C.h (show i < 9000 by first | exact lu (by assumption) rfl | exact lv (by assumption) rfl | exact lw (by assumption) rfl | exact lx (by assumption) rfl | exact ly (by assumption) rfl | omega) hr F F2 T.s12 T.r1 T.r2 (by first | exact lu (by assumption) rfl | exact lv (by assumption) rfl | exact lw (by assumption) rfl | exact lx (by assumption) rfl | exact ly (by assumption) rfl | omega) (by first | exact lu (by assumption) rfl | exact lv (by assumption) rfl | exact lw (by assumption) rfl | exact lx (by assumption) rfl | exact ly (by assumption) rfl | omega) (by first | exact lu (by assumption) rfl | exact lv (by assumption) rfl | exact lw (by assumption) rfl | exact lx (by assumption) rfl | exact ly (by assumption) rfl | omega) (by first | omega | (simp; omega)) (by first | exact lu (by assumption) rfl | exact lv (by assumption) rfl | exact lw (by assumption) rfl | exact lx (by assumption) rfl | exact ly (by assumption) rfl | omega) (by rw [lvs_len]; omega) hk (R.kind _ List.mem_cons_self).sok hn j hbT
    obtain ⟨ρ', lk', st⟩ := it_operator _ _ _ C.ht J.lk e
    have s2 := T.s2
    have s12 := T.s12
    have rr := T.rr
    have lo2 := T.lo2
    have lo1 := T.lo1
    have lor := T.lor
    have R' : Rep b μ1 r ((n2, { g with operands := f.fin b' last :: g.operands }) :: FS) := by
      refine ⟨by rw [gr, lvs_cons]; rfl, fun p hp => ?_, List.pairwise_cons.mpr ⟨T.s2, T.sep⟩, fun p hp => ?_, fun p hp => ?_, T.lor, fun p hp => ?_⟩
      · rcases List.mem_cons.mp hp with e | hp
        · rw [e]; exact F2'
        · have q1 := T.s2 p hp
          have q2 := T.rr p hp
          exact (R.at_ p (List.mem_cons_of_mem _ (List.mem_cons_of_mem _ hp))).same fun j h1 h2 => oth j (by first | exact lu (by assumption) rfl | exact lv (by assumption) rfl | exact lw (by assumption) rfl | exact lx (by assumption) rfl | exact ly (by assumption) rfl | omega) (by first | exact lu (by assumption) rfl | exact lv (by assumption) rfl | exact lw (by assumption) rfl | exact lx (by assumption) rfl | exact ly (by assumption) rfl | omega) (by first | exact lu (by assumption) rfl | exact lv (by assumption) rfl | exact lw (by assumption) rfl | exact lx (by assumption) rfl | exact ly (by assumption) rfl | omega)
      · rcases List.mem_cons.mp hp with e | hp
        · rw [e]; exact T.r2
        · exact T.rr p hp
      · rcases List.mem_cons.mp hp with e | hp
        · rw [e]; exact T.lo2
        · exact R.low p (List.mem_cons_of_mem _ (List.mem_cons_of_mem _ hp))
      · rcases List.mem_cons.mp hp with e | hp
        · rw [e]; exact (R.kind _ m2 : KindOk g.kind)
        · exact R.kind p (List.mem_cons_of_mem _ (List.mem_cons_of_mem _ hp))
    have o : Old b μ μ1 := ⟨Nat.le_of_eq gl.symm, fun j hj => oth j (by first | exact lu (by assumption) rfl | exact lv (by assumption) rfl | exact lw (by assumption) rfl | exact lx (by assumption) rfl | exact ly (by assumption) rfl | omega) (by first | exact lu (by assumption) rfl | exact lv (by assumption) rfl | exact lw (by assumption) rfl | exact lx (by assumption) rfl | exact ly (by assumption) rfl | omega) (by first | exact lu (by assumption) rfl | exact lv (by assumption) rfl | exact lw (by assumption) rfl | exact lx (by assumption) rfl | exact ly (by assumption) rfl | omega)⟩
    exact .via o st (ih (FS := (n2, { g with operands := f.fin b' last :: g.operands }) :: FS) ⟨by rw [List.map_cons, eF.2], R', fun p hp => (List.mem_cons.mp hp).elim (fun e => by rw [e]; exact ⟨Nat.le_succ_of_le B2.1, Nat.succ_le_succ B2.2.1, Nat.le_succ_of_le B2.2.2⟩) fun hp => (J.B p (List.mem_cons_of_mem _ (List.mem_cons_of_mem _ hp))).mono (Nat.le_succ _), hi, by rw [List.length_cons]; omega, by simpa using lk'⟩)
end
theorem run_loop {ts : List Tk} {t : Expr} {bd : List Stmt} (C : RC ts t bd) {fs : List Fr} {i : Nat} {due : Bool} {res : Res} (run : Run ts fs i due res) : RunGo ts t bd fs i (if due then "operand" else "operator") res := by
  induction run with
  | val po hi k ih => exact run_val C po hi ih
  | neg hk hi k ih => exact run_neg C hk hi ih
  | not hk hi k ih => exact run_not C hk hi ih
  | group hk hi hl k ih => exact run_group C hk hi hl ih
  | st hk hl => exact run_st C hk hl
  | opens hk hp op hi hl k ih => exact run_opens C hk hp op hi hl ih
  | sn hk c => exact run_sn C hk c
  | snw hk hp op => exact run_snw C hk hp op
  | op hk hd hs hi j k ih => exact run_op C hk hd hs hi j ih
  | fin hk hd hT j => exact run_fin C hk hd hT j
  | comma hk hn hg hi j k ih => exact run_comma C hk hn hg hi j ih
  | close hk hn hb hi j k ih => exact run_close C hk hn hb hi j ih
  | osn hk hn => exact run_osn C hk hn
end Mine
namespace Mine
theorem i_r0 {μ : M} {r : Nat} : idxV μ (.ref r) (.int 0) = (μ[r]?).bind fun l => l.head? := by
  unfold idxV small
  simp
  congr 1
  funext l
  cases l with
  | nil => rfl
  | cons v l => simp [seqIndex?]
noncomputable def fr0 : Fr := ⟨"top", "", [], [], []⟩
noncomputable def lvl0 (μ : M) : M := μ ++ [[], [], [], [fr0.v μ.length]]
theorem rep0 (μ : M) : Rep μ.length (lvl0 μ) (μ.length + 3) [(μ.length, fr0)] := by
  refine ⟨?_, ?_, by simp, by simp, by simp, by omega, ?_⟩
  · unfold lvl0; rw [List.getElem?_append_right (by simp)]; simp [lvs]
  · intro p hp
    simp at hp; subst hp
    refine ⟨?_, ?_, ?_⟩
    · unfold lvl0; rw [List.getElem?_append_right (by simp)]; simp [fr0]
    · unfold lvl0; rw [List.getElem?_append_right (by simp)]; simp [fr0]
    · unfold lvl0; rw [List.getElem?_append_right (by simp)]; simp [fr0]
  · intro p hp; simp at hp; subst hp; exact .top
theorem old0 (μ : M) : Old μ.length μ (lvl0 μ) := ⟨by simp [lvl0], fun j hj => by unfold lvl0; rw [List.getElem?_append_left hj]⟩
section
variable {ts : List Tk} {μ : M}
noncomputable abbrev Whole (ts : List Tk) (fd : DefRec) : Prop := ∀ t bd, whileOf fd.body = some (t, bd) → ∀ μ : M, ∃ ρ0, Lk ts ρ0 (μ.length + 3) 0 "operand" ∧
  (∀ c μ', (∃ N, ∀ n, N ≤ n → ∀ d, 30 ≤ d → evW tab cst n d fd.scope ρ0 (lvl0 μ) t bd = .exc c μ') → Ev 33 fd μ [toks ts, .int 0] (.exc c μ')) ∧
  (∀ ρ' μ1 μ2 (j : Nat) last v, (∃ N, ∀ n, N ≤ n → ∀ d, 30 ≤ d → evW tab cst n d fd.scope ρ0 (lvl0 μ) t bd = .ok (.next, ρ') μ1) → ρ'.lookup ("levels" : Str) = some (.ref (μ.length + 3)) → ρ'.lookup ("at" : Str) = some (.int j) → μ1[μ.length + 3]? = some [v] →
    Ev 4 fd_finished μ1 [v] (.ok last μ2) → Ev 33 fd μ [toks ts, .int 0] (.ok (.tup [last, .int j]) μ2))
theorem whole : Whole ts fd_expression := by
  refine atFd (p := Whole ts) ⟨_, rfl, ?_⟩
  intro t b ht μ
  replace ht : some _ = some _ := ht
  cases ht
  obtain ⟨Nf, ef⟩ := e_functions (lvl0 μ)
  have hlz : (μ ++ [[], [], []]).length = μ.length + 3 := by simp
  refine ⟨Rho.set (Rho.set (Rho.set [(("tokens" : Str), toks ts), ("at", .int 0)] "levels" (.ref (μ.length + 3))) "due" (.str "operand")) "known" (.lst kn), ⟨by simp [lookup_set, ofString_inj], by simp [lookup_set, ofString_inj, lk_cons], by simp [lookup_set, ofString_inj, lk_cons], by simp [lookup_set, ofString_inj], by simp [lookup_set, ofString_inj]⟩, ?_, ?_⟩
  · intro c μ' ⟨N, e⟩
    refine ev_in (N + Nf) 60 fun m d => ?_
    refine (enter (by rfl) rfl).trans ?_; dsimp only
    unfold lvl0 fr0 Fr.v at e ef
    simp -dsimp (disch := first | assumption | exact mi | exact jj rfl | exact ke | exact kc | exact kf | exact kg | exact kh ‹_› rfl | exact mv ‹_› | exact mw ‹_› | exact mx ‹_› | exact my ‹_› | exact mz ‹_› | exact lv ‹_› rfl | exact lw ‹_› rfl | exact lu ‹_› rfl | exact m5 ‹_› rfl | exact m7 rfl | exact mj ‹_› rfl | exact ml ke | exact ml (ml ke) | exact ml (ml kc) | exact ml (ml (ml ke)) | exact ml (ml (ml kc)) | decide +kernel | omega | (intros; contradiction)) [zipArgs, gy, gz, jk, jm, ki, kj, bq, bg, br, b7, b8, bt, bu, jn, km, ko, jo, g5, g6, bh, bv, bi, d7, aa, ag, a5, ah, au, ac, ai, a6, aj, av, ak, aw, ba, ax, a7, ae, al, a8, am, ay, af, ao, a9, aq, az, jp, bj, bw, bk, bn, bc, g7, g8, g9, jq, jr, kr, kt, bz, b4, b9, b5, ce, d9, cw, eb, cy, cz, ku, kx, ky, kz, ec, eg, c6, eh, ej, ek, er, h9, cg, et, ch, eu, ia, ey, jt, ju, c7, ci, cj, cn, ↓k7, ↓k8, ↓k9, ↓lb, ez, c8, fa, ↓lz, lf, jv, ib, lg, lh, lj, ll, lq, ls, c9, da, cq, dg, cr, b6, cu, l6, l7, l8, l9, jw, ic, jx, jy, ie, ig, n_radd', jz, ij, j0, j1, j2, j3, ik, fc, fe, fg, bp, be, dh, j4, cv, im, j5, j6, j7, io, ip, iq, ir, j8, iu, ma, mc, md, me, mm, mn, mr, mf, iv, fh, iw, iy, ↓iz, i0, fi, di, fj, dk, fk, fm, dl, fp, fq, i6, ms, mt, i7, ft, fu, dm, dq, i9, fv, dt, fw, du, ja, dw, fy, fz, jb, f0, f5, dy, dz, jc, f7, d3, f8, d4, jd, d5, f9, gn, mu, j9, gp, gq, as1', as2', as3', appendV, popV, je, mh, gs, gu, jf, d6, gv, jg, jh, ji, gw, gx, tab_Level, tab_functions, ef, e, hlz]
  · intro ρ' μ1 μ2 j last v ⟨N, e⟩ h1 h2 h3 ⟨N2, e2⟩
    refine ev_in (N + Nf + N2) 60 fun m d => ?_
    refine (enter (by rfl) rfl).trans ?_; dsimp only
    unfold lvl0 fr0 Fr.v at e ef
    simp -dsimp (disch := first | assumption | exact mi | exact jj rfl | exact ke | exact kc | exact kf | exact kg | exact kh ‹_› rfl | exact mv ‹_› | exact mw ‹_› | exact mx ‹_› | exact my ‹_› | exact mz ‹_› | exact lv ‹_› rfl | exact lw ‹_› rfl | exact lu ‹_› rfl | exact m5 ‹_› rfl | exact m7 rfl | exact mj ‹_› rfl | exact ml ke | exact ml (ml ke) | exact ml (ml kc) | exact ml (ml (ml ke)) | exact ml (ml (ml kc)) | decide +kernel | omega | (intros; contradiction)) [zipArgs, gy, gz, jk, jm, ki, kj, bq, bg, br, b7, b8, bt, bu, jn, km, ko, jo, g5, g6, bh, bv, bi, d7, aa, ag, a5, ah, au, ac, ai, a6, aj, av, ak, aw, ba, ax, a7, ae, al, a8, am, ay, af, ao, a9, aq, az, jp, bj, bw, bk, bn, bc, g7, g8, g9, jq, jr, kr, kt, bz, b4, b9, b5, ce, d9, cw, eb, cy, cz, ku, kx, ky, kz, ec, eg, c6, eh, ej, ek, er, h9, cg, et, ch, eu, ia, ey, jt, ju, c7, ci, cj, cn, ↓k7, ↓k8, ↓k9, ↓lb, ez, c8, fa, ↓lz, lf, jv, ib, lg, lh, lj, ll, lq, ls, c9, da, cq, dg, cr, b6, cu, l6, l7, l8, l9, jw, ic, jx, jy, ie, ig, n_radd', jz, ij, j0, j1, j2, j3, ik, fc, fe, fg, bp, be, dh, j4, cv, im, j5, j6, j7, io, ip, iq, ir, j8, iu, ma, mc, md, me, mm, mn, mr, mf, iv, fh, iw, iy, ↓iz, i0, fi, di, fj, dk, fk, fm, dl, fp, fq, i6, ms, mt, i7, ft, fu, dm, dq, i9, fv, dt, fw, du, ja, dw, fy, fz, jb, f0, f5, dy, dz, jc, f7, d3, f8, d4, jd, d5, f9, gn, mu, j9, gp, gq, as1', as2', as3', appendV, popV, je, mh, gs, gu, jf, d6, gv, jg, jh, ji, gw, gx, tab_Level, tab_functions, tab_finished, ef, e, hlz, h1, h2, h3, e2, i_r0]
end
end Mine
namespace Mine
theorem ex_while : ∃ t bd, whileOf fd_expression.body = some (t, bd) := by
  refine atFd (p := fun fd => ∃ t bd, whileOf fd.body = some (t, bd)) ⟨_, rfl, ?_⟩
  exact ⟨_, _, rfl⟩
section
variable {ts : List Tk} {μ : M}
theorem e_expr_exc {c : Str} (h : OkTs ts) (hz : ts.length ≤ 8000) (run : Run ts [fr0] 0 true (.exc c)) (μ : M) : ∃ μ', Old μ.length μ μ' ∧ Ev 33 fd_expression μ [toks ts, .int 0] (.exc c μ') := by
  obtain ⟨t, bd, ht⟩ := ex_while
  obtain ⟨ρ0, lk, w1, w2⟩ := whole (ts := ts) t bd ht μ
  obtain ⟨μ', o, e⟩ := run_loop ⟨h, hz, ht⟩ run ⟨rfl, rep0 μ, (by intro p hp; simp at hp; subst hp; exact ⟨Nat.zero_le _, Nat.zero_le _, Nat.zero_le _⟩), Nat.zero_le _, by simp, lk⟩
  exact ⟨μ', (old0 μ).trans o, w1 c μ' e⟩
theorem e_expr_ok {j : Nat} {last : V} (h : OkTs ts) (hz : ts.length ≤ 8000) (run : Run ts [fr0] 0 true (.done last j)) (μ : M) :
    ∃ μ', Old μ.length μ μ' ∧ Ev 33 fd_expression μ [toks ts, .int 0] (.ok (.tup [last, .int j]) μ') := by
  obtain ⟨t, bd, ht⟩ := ex_while
  obtain ⟨ρ0, lk, w1, w2⟩ := whole (ts := ts) t bd ht μ
  obtain ⟨μ1, o, ρ', n0, f, os', ops', R, hk, J, lk', B, hj, e⟩ := run_loop ⟨h, hz, ht⟩ run ⟨rfl, rep0 μ, (by intro p hp; simp at hp; subst hp; exact ⟨Nat.zero_le _, Nat.zero_le _, Nat.zero_le _⟩), Nat.zero_le _, by simp, lk⟩
  have F : FrAt μ1 n0 f := R.at_ _ List.mem_cons_self
  obtain ⟨b1, b2, b3⟩ := B
  have jl := J.len.1
  have it : isTop f = some true := by rw [KindOk.is (hk ▸ .top), hk]; simp
  obtain ⟨μ2, e2, k2⟩ := e_finished F J (by first | exact lu (by assumption) rfl | exact lv (by assumption) rfl | exact lw (by assumption) rfl | exact lx (by assumption) rfl | exact ly (by assumption) rfl | omega) (by first | exact lu (by assumption) rfl | exact lv (by assumption) rfl | exact lw (by assumption) rfl | exact lx (by assumption) rfl | exact ly (by assumption) rfl | omega) (by first | exact lu (by assumption) rfl | exact lv (by assumption) rfl | exact lw (by assumption) rfl | exact lx (by assumption) rfl | exact ly (by assumption) rfl | omega) (by first | exact lu (by assumption) rfl | exact lv (by assumption) rfl | exact lw (by assumption) rfl | exact lx (by assumption) rfl | exact ly (by assumption) rfl | omega) it
  have lw := R.low _ List.mem_cons_self
  dsimp only at lw
  refine ⟨μ2, (old0 μ).trans (o.trans ⟨Nat.le_of_eq k2.1.symm, fun q hq => k2.2 q (by first | exact lu (by assumption) rfl | exact lv (by assumption) rfl | exact lw (by assumption) rfl | exact lx (by assumption) rfl | exact ly (by assumption) rfl | omega)⟩), ?_⟩
  exact w2 ρ' μ1 μ2 j last _ e lk'.levels lk'.at_ (by have := R.lv; simpa [lvs] using this) e2
end
end Mine
namespace Mine
inductive Ap where
  | item
  | call
  | fn
noncomputable def Ap.kind : Ap → Str
  | .item => "item"
  | .call => "call"
  | .fn => "fn"
noncomputable def Ap.word : Ap → Str
  | .item => "A"
  | .call => "LEFT$"
  | .fn => "FNB"
noncomputable def Ap.tok : Ap → Str
  | .call => "word"
  | _ => "name"
inductive T where
  | num (i : Nat)
  | name (x : String)
  | text (x : String)
  | rnd
  | fna
  | neg (t : T)
  | not (t : T)
  | app1 (k : Ap) (a : T)
  | app2 (k : Ap) (a b : T)
  | two (w : String) (l r : T)
noncomputable def ops16 : List (String × Int × String) := [("+", 8, "sign"), ("-", 8, "sign"), ("*", 11, "sign"), ("/", 11, "sign"), ("MOD", 9, "word"), ("\\", 10, "sign"), ("^", 13, "sign"), ("=", 7, "sign"), ("<>", 7, "sign"), ("<=", 7, "sign"), (">", 7, "sign"), ("AND", 5, "word"), ("OR", 4, "word"), ("XOR", 3, "word"), ("EQV", 2, "word"), ("IMP", 1, "word")]
noncomputable def opOf (w : String) : Option (Int × String) := ops16.lookup w
noncomputable def opS (w : String) : Int := ((opOf w).map (·.1)).getD 0
noncomputable def opK (w : String) : Str := ((opOf w).map fun p => Str.ofString p.2).getD ""
noncomputable def numT (i : Nat) : Str := ((nums[i]?).map fun p => Str.ofString p.1).getD ""
noncomputable def numV (i : Nat) : V := ((nums[i]?).map (·.2)).getD .none
noncomputable def T.level : T → Int
  | .two w _ _ => opS w
  | .neg _ => 12
  | .not _ => 6
  | _ => 14
noncomputable def T.due : T → V
  | .num i => numV i
  | .name x => .tup [.str "name", .str x]
  | .text x => .tup [.str "text", .str x]
  | .rnd => .tup [.str "call", .str "RND", .lst []]
  | .fna => .tup [.str "fn", .str "FNA", .lst []]
  | .neg t => .tup [.str "neg", t.due]
  | .not t => .tup [.str "not", t.due]
  | .app1 k a => .tup [.str k.kind, .str k.word, .lst [a.due]]
  | .app2 k a b => .tup [.str k.kind, .str k.word, .lst [a.due, b.due]]
  | .two w l r => .tup [.str "two", .str w, l.due, r.due]
noncomputable abbrev tOpen : Tk := ("sign", "(")
noncomputable abbrev tClose : Tk := ("sign", ")")
noncomputable abbrev tComma : Tk := ("sign", ",")
noncomputable def partOf (least level : Int) (ts : List Tk) : List Tk := if least ≤ level then ts else tOpen :: (ts ++ [tClose])
noncomputable def T.toks : T → List Tk
  | .num i => [("number", numT i)]
  | .name x => [("name", x)]
  | .text x => [("text", x)]
  | .rnd => [("word", "RND")]
  | .fna => [("name", "FNA")]
  | .neg t => ("sign", "-") :: partOf 12 t.level t.toks
  | .not t => ("word", "NOT") :: partOf 6 t.level t.toks
  | .app1 k a => (k.tok, k.word) :: tOpen :: (a.toks ++ [tClose])
  | .app2 k a b => (k.tok, k.word) :: tOpen :: (a.toks ++ tComma :: (b.toks ++ [tClose]))
  | .two w l r => partOf (opS w) l.level l.toks ++ (opK w, Str.ofString w) :: partOf (opS w + 1) r.level r.toks
noncomputable def T.WF : T → Prop
  | .num i => i < 10
  | .name x => x ∈ ["A", "B%", "C$", "LONG"]
  | .text x => x ∈ ["", "x y"]
  | .rnd => True
  | .fna => True
  | .neg t => t.WF
  | .not t => t.WF
  | .app1 _ a => a.WF
  | .app2 _ a b => a.WF ∧ b.WF
  | .two w l r => w ∈ ops16.map (·.1) ∧ l.WF ∧ r.WF
noncomputable def T.depth : T → Nat
  | .neg t => t.depth + 1
  | .not t => t.depth + 1
  | .app1 _ a => a.depth + 1
  | .app2 _ a b => max a.depth b.depth + 1
  | .two _ l r => max l.depth r.depth + 1
  | _ => 0
noncomputable def Seg (ts : List Tk) (i : Nat) (us : List Tk) : Prop := ts.drop i = us
theorem Seg.head {ts us : List Tk} {i : Nat} {x : Tk} (h : Seg ts i (x :: us)) : tkAt ts i = x ∧ Seg ts (i + 1) us ∧ i < ts.length := by
  unfold Seg at h
  have hi : i < ts.length := by
    by_cases q : i < ts.length
    · exact q
    · rw [List.drop_eq_nil_of_le (Nat.not_lt.mp q)] at h; cases h
  rw [List.drop_eq_getElem_cons hi] at h
  obtain ⟨h1, h2⟩ := List.cons.inj h
  exact ⟨by unfold tkAt; rw [List.getElem?_eq_getElem hi, h1]; rfl, h2, hi⟩
theorem Seg.nil {ts : List Tk} {i : Nat} (h : Seg ts i []) : tkAt ts i = (("end" : Str), ("" : Str)) := by
  unfold Seg at h
  unfold tkAt
  rw [List.getElem?_eq_none (by simpa using h)]; rfl
theorem Seg.app {ts us vs : List Tk} {i : Nat} (h : Seg ts i (us ++ vs)) : Seg ts (i + us.length) vs := by
  unfold Seg at h ⊢
  rw [← List.drop_drop, h]; simp
noncomputable def NoOpen (us : List Tk) : Prop := us.head? ≠ some tOpen
theorem Seg.noOpen {ts us : List Tk} {i : Nat} (h : Seg ts i us) (hn : NoOpen us) : tkAt ts i ≠ (("sign" : Str), ("(" : Str)) := by
  cases us with
  | nil => rw [h.nil]; intro q; exact absurd (Prod.mk.inj q).1 (by decide +kernel)
  | cons x r => rw [h.head.1]; exact fun q => hn (by rw [q]; rfl)
noncomputable def Pre (ops : List (Str × Int)) : T → Prop
  | .two w _ _ => ∀ p ∈ ops.head?, p.2 < opS w
  | _ => True
noncomputable def Same (s : Int) (os : List V) (ops : List (Str × Int)) (os' : List V) (ops' : List (Str × Int)) : Prop := ∀ s', 0 ≤ s' → s' ≤ s → ∀ a b, Join s' os ops a b → Join s' os' ops' a b
noncomputable abbrev Parses (t : T) : Prop := ∀ (ts post : List Tk) (i : Nat) (f : Fr) (fs : List Fr) (res : Res), Seg ts i (t.toks ++ post) → NoOpen post → Pre f.ops t → fs.length + t.depth ≤ 59 →
  (∀ os' ops', Same t.level (t.due :: f.operands) f.ops os' ops' → Run ts ({ f with operands := os', ops := ops' } :: fs) (i + t.toks.length) false res) → Run ts (f :: fs) i true res
theorem Same.refl {s : Int} {os : List V} {ops : List (Str × Int)} : Same s os ops os ops := fun _ _ _ _ _ j => j
noncomputable def W16 (P : String → Prop) : List (String × Int × String) → Prop
  | [] => True
  | p :: r => P p.1 ∧ W16 P r
theorem w16_mem {P : String → Prop} {w : String} : ∀ {l : List (String × Int × String)}, W16 P l → w ∈ l.map (·.1) → P w
  | _ :: _, h, m => (List.mem_cons.mp m).elim (fun e => e ▸ h.1) fun m => w16_mem h.2 m
theorem ops_dec : ∀ w ∈ ops16.map (·.1), (opK w = "sign" ∨ opK w = "word") ∧ sok w ∧ (w : Str) ≠ "neg" ∧ (w : Str) ≠ "not" ∧ (1 ≤ opS w ∧ opS w ≠ 6 ∧ opS w ≠ 12 ∧ opS w ≤ 13) ∧ (opK w, Str.ofString w) ≠ tOpen := by decide +kernel
theorem ops_key {w : String} (h : w ∈ ops16.map (·.1)) : keyIn w strengths = some (.int (opS w)) := by
  refine w16_mem (P := fun w => keyIn w strengths = some (.int (opS w))) (l := ops16) ?_ h
  refine ⟨?_, ?_, ?_, ?_, ?_, ?_, ?_, ?_, ?_, ?_, ?_, ?_, ?_, ?_, ?_, ?_, trivial⟩ <;> kernel_rfl
theorem ops_ok {w : String} (h : w ∈ ops16.map (·.1)) : (opK w = "sign" ∨ opK w = "word") ∧ keyIn w strengths = some (.int (opS w)) ∧ sok w ∧ (w : Str) ≠ "neg" ∧ (w : Str) ≠ "not" ∧ (1 ≤ opS w ∧ opS w ≠ 6 ∧ opS w ≠ 12 ∧ opS w ≤ 13) ∧ (opK w, Str.ofString w) ≠ tOpen :=
  let d := ops_dec w h
  ⟨d.1, ops_key h, d.2⟩
theorem ap_opens (k : Ap) : Opens k.tok k.word k.kind := by
  cases k with
  | item => exact .item (y := "A") (by decide +kernel) (by kernel_rfl) (by decide +kernel) (by decide +kernel)
  | call => exact .call kn_left (by kernel_rfl) (by decide +kernel)
  | fn => exact .fn (by decide +kernel) (by kernel_rfl)
end Mine
namespace Mine
theorem Same.mono {s s' : Int} {os os' : List V} {ops ops' : List (Str × Int)} (h : Same s os ops os' ops') (hs : s' ≤ s) : Same s' os ops os' ops' := fun r h0 h1 => h r h0 (Int.le_trans h1 hs)
theorem top_group (os : List V) (ops : List (Str × Int)) : isTop ⟨"group", "", [], os, ops⟩ = some true := by kernel_rfl
theorem top_ap (k : Ap) (x : Str) (as os : List V) (ops : List (Str × Int)) : isTop ⟨k.kind, x, as, os, ops⟩ = some false := by cases k <;> kernel_rfl
theorem T.level_pos {t : T} (h : t.WF) : 0 ≤ t.level := by
  cases t with
  | two w l r => have := (ops_ok h.1).2.2.2.2.2.1.1; show 0 ≤ opS w; omega
  | neg => exact (by decide : (0 : Int) ≤ 12)
  | not => exact (by decide : (0 : Int) ≤ 6)
  | _ => exact (by decide : (0 : Int) ≤ 14)
theorem noOpen_close {r : List Tk} : NoOpen (tClose :: r) := fun q => absurd (Option.some.inj q) (show ¬ tClose = tOpen by decide +kernel)
theorem noOpen_comma {r : List Tk} : NoOpen (tComma :: r) := fun q => absurd (Option.some.inj q) (show ¬ tComma = tOpen by decide +kernel)
theorem run_i {ts : List Tk} {fs : List Fr} {i j : Nat} {b : Bool} {res : Res} (h : Run ts fs i b res) (e : i = j) : Run ts fs j b res := e ▸ h
theorem Pre.nil (t : T) : Pre [] t := by cases t <;> first | exact trivial | (intro p hp; cases hp)
theorem pre_of {t : T} {ops : List (Str × Int)} (h : ∀ w l r, t = .two w l r → ∀ p ∈ ops.head?, p.2 < opS w) : Pre ops t := by
  cases t with
  | two w l r => exact h w l r rfl
  | _ => exact trivial
theorem pre_un {t : T} {x : Str} {s : Int} {r : List (Str × Int)} (hw : t.WF) (q : s ≤ t.level) (hs : s = 6 ∨ s = 12) : Pre ((x, s) :: r) t := pre_of fun w l r e p hp => by
  subst e
  cases hp
  have k := (ops_ok hw.1).2.2.2.2.2.1
  exact Int.lt_iff_le_and_ne.mpr ⟨q, fun e => hs.elim (fun h => k.2.1 (e ▸ h)) fun h => k.2.2.1 (e ▸ h)⟩
theorem pre_lt {t : T} {x : Str} {s : Int} {r : List (Str × Int)} (q : s + 1 ≤ t.level) : Pre ((x, s) :: r) t := pre_of fun w l r e p hp => by
  subst e
  cases hp
  exact q
theorem pre_mono {t : T} {s : Int} {ops : List (Str × Int)} (pre : ∀ p ∈ ops.head?, p.2 < s) (q : s ≤ t.level) : Pre ops t := pre_of fun w l r e p hp => by
  subst e
  exact Int.lt_of_lt_of_le (pre p hp) q
theorem Seg.of {ts us vs : List Tk} {i : Nat} (h : Seg ts i us) (e : us = vs) : Seg ts i vs := e ▸ h
theorem sh1 {α : Type} {f : α} {fs : List α} {d : Nat} (h : fs.length + d + 1 ≤ 59) : (f :: fs).length + d ≤ 59 := Nat.le_trans (Nat.le_of_eq (Nat.succ_add fs.length d)) h
theorem sh2 {α : Type} {f : α} {fs : List α} {d : Nat} (h : fs.length + d + 1 ≤ 59) : (f :: fs).length ≤ 60 := Nat.le_trans (Nat.le_add_right (fs.length + 1) d) (Nat.le_trans (Nat.le_of_eq (Nat.succ_add fs.length d)) (Nat.le_trans h (by decide)))
theorem sl0 {α : Type} {i : Nat} {l : List α} {x y : α} : i + 1 + l.length + 1 = i + (x :: (l ++ [y])).length := by
  rw [List.length_cons, List.length_append]; exact congrArg (· + 1) (Nat.add_right_comm i 1 l.length)
theorem sl1 {α : Type} {i : Nat} {l : List α} {x y z : α} : i + 1 + 1 + l.length + 1 = i + (x :: y :: (l ++ [z])).length := by
  rw [List.length_cons, List.length_cons, List.length_append]; exact congrArg (· + 1) ((Nat.add_right_comm (i + 1) 1 l.length).trans (congrArg (· + 1) (Nat.add_right_comm i 1 l.length)))
theorem sl2 {α : Type} {i : Nat} {l r : List α} {x y z u : α} : i + 1 + 1 + l.length + 1 + r.length + 1 = i + (x :: y :: (l ++ z :: (r ++ [u]))).length := by
  rw [List.length_cons, List.length_cons, List.length_append, List.length_cons, List.length_append]; show _ = i + (l.length + (r.length + 1 + 1) + 1 + 1); omega
theorem sl3 {α : Type} {i : Nat} {l r : List α} {x : α} : i + l.length + 1 + r.length = i + (l ++ x :: r).length := by
  rw [List.length_append, List.length_cons]; omega
theorem hdl {n a b : Nat} (h : n + (max a b + 1) ≤ 59) : n + a + 1 ≤ 59 := Nat.le_trans (Nat.succ_le_succ (Nat.add_le_add_left (Nat.le_max_left a b) n)) h
theorem hdr {n a b : Nat} (h : n + (max a b + 1) ≤ 59) : n + b + 1 ≤ 59 := Nat.le_trans (Nat.succ_le_succ (Nat.add_le_add_left (Nat.le_max_right a b) n)) h
noncomputable def isTup : V → Bool
  | .tup _ => true
  | _ => false
theorem isTup_of {v : V} (h : isTup v = true) : ∃ x, v = .tup x := by
  cases v with
  | tup x => exact ⟨x, rfl⟩
  | _ => exact Bool.noConfusion h
theorem part_parse {t : T} (hp : Parses t) (hw : t.WF) {least : Int} (h0 : 0 ≤ least) {ts post : List Tk} {i : Nat} {f : Fr} {fs : List Fr} {res : Res} (sg : Seg ts i (partOf least t.level t.toks ++ post)) (np : NoOpen post) (pre : least ≤ t.level → Pre f.ops t)
    (hd : fs.length + t.depth + 1 ≤ 59) (K : ∀ os' ops', Same least (t.due :: f.operands) f.ops os' ops' → Run ts ({ f with operands := os', ops := ops' } :: fs) (i + (partOf least t.level t.toks).length) false res) : Run ts (f :: fs) i true res := by
  by_cases q : least ≤ t.level
  · unfold partOf at sg K
    rw [if_pos q] at sg K
    exact hp _ _ _ _ _ _ sg np (pre q) (Nat.le_of_succ_le hd) fun os' ops' sm => K os' ops' (sm.mono q)
  · unfold partOf at sg K
    rw [if_neg q] at sg K
    rw [List.cons_append, List.append_assoc, List.singleton_append] at sg
    obtain ⟨k1, s1, l1⟩ := sg.head
    have s2 := s1.app
    obtain ⟨k2, s3, l2⟩ := s2.head
    refine .group k1 l1 (sh2 hd) (hp _ _ _ ⟨"group", "", [], [], []⟩ (f :: fs) _ s1 noOpen_close ?_ (sh1 hd) fun os1 ops1 sm => ?_)
    · exact Pre.nil t
    · refine .close (f := ⟨"group", "", [], os1, ops1⟩) (b := true) (last := t.due) (os' := []) (ops' := []) k2 (show ("group" : Str) ≠ "top" by decide +kernel) (top_group _ _) l2 (sm 0 (Int.le_refl _) (T.level_pos hw) _ _ (.nil _)) ?_
      exact run_i (K (t.due :: f.operands) f.ops .refl) sl0.symm
theorem fin_ap (k : Ap) (as os : List V) (ops : List (Str × Int)) (last : V) : Fr.fin ⟨k.kind, k.word, as, os, ops⟩ false last = .tup [.str k.kind, .str k.word, .lst (as ++ [last])] := rfl
theorem ap_top (k : Ap) : k.kind ≠ "top" := by cases k <;> decide +kernel
theorem ap_group (k : Ap) : k.kind ≠ "group" := by cases k <;> decide +kernel
theorem parse_num {k : Nat} (hw : (T.num k).WF) : Parses (.num k) := fun ts post i f fs res sg np pre hd K => by
  obtain ⟨k1, s1, l1⟩ := Seg.head sg
  have hk : k < nums.length := hw
  have hm : nums[k] ∈ nums := List.getElem_mem hk
  have e1 : numT k = Str.ofString nums[k].1 := by simp [numT, hk]
  have e2 : numV k = nums[k].2 := by simp [numV, hk]
  obtain ⟨x, hx⟩ : ∃ x, nums[k].2 = .tup x := by
    exact isTup_of ((by decide +kernel : ∀ p ∈ nums, isTup p.2 = true) _ hm)
  refine .val (x := x) (hx ▸ .num hm (by rw [k1, e1])) l1 ?_
  have := K (numV k :: f.operands) f.ops .refl
  rw [e2, hx] at this
  exact this
theorem parse_name {x : String} (hw : (T.name x).WF) : Parses (.name x) := fun ts post i f fs res sg np pre hd K => by
  obtain ⟨k1, s1, l1⟩ := Seg.head sg
  have n1 := s1.noOpen np
  refine .val (x := [.str "name", .str x]) ?_ l1 (K _ _ .refl)
  replace hw : x ∈ (["A", "B%", "C$", "LONG"] : List String) := hw
  simp only [List.mem_cons, List.not_mem_nil, or_false] at hw
  rcases hw with rfl | rfl | rfl | rfl
  · exact .name (y := "A") (by decide +kernel) k1 n1 (by kernel_rfl) (by decide +kernel) (by decide +kernel)
  · exact .name (y := "B%") (by decide +kernel) k1 n1 (by kernel_rfl) (by decide +kernel) (by decide +kernel)
  · exact .name (y := "C$") (by decide +kernel) k1 n1 (by kernel_rfl) (by decide +kernel) (by decide +kernel)
  · exact .name (y := "LO") (by decide +kernel) k1 n1 (by kernel_rfl) (by decide +kernel) (by decide +kernel)
theorem parse_text {x : String} (hw : (T.text x).WF) : Parses (.text x) := fun ts post i f fs res sg np pre hd K => by
  obtain ⟨k1, s1, l1⟩ := Seg.head sg
  refine .val (x := [.str "text", .str x]) (.text ?_ k1) l1 (K _ _ .refl)
  replace hw : x ∈ (["", "x y"] : List String) := hw
  simp only [List.mem_cons, List.not_mem_nil, or_false] at hw
  rcases hw with rfl | rfl <;> decide +kernel
theorem parse_rnd   : Parses (.rnd) := fun ts post i f fs res sg np pre hd K => by
  obtain ⟨k1, s1, l1⟩ := Seg.head sg
  exact .val (.rnd k1 (s1.noOpen np)) l1 (K _ _ .refl)
theorem parse_fna   : Parses (.fna) := fun ts post i f fs res sg np pre hd K => by
  obtain ⟨k1, s1, l1⟩ := Seg.head sg
  exact .val (.fn (by decide +kernel) k1 (s1.noOpen np) (by kernel_rfl)) l1 (K _ _ .refl)
theorem parse_neg {t : T} (hw : t.WF) (ih : Parses t) : Parses (.neg t) := fun ts post i f fs res sg np pre hd K => by
  obtain ⟨k1, s1, l1⟩ := Seg.head sg
  replace hd : fs.length + (t.depth + 1) ≤ 59 := hd
  refine .neg k1 l1 (part_parse ih hw (by decide) s1 np (fun q => pre_un hw q (by decide)) hd fun os' ops' sm => ?_)
  exact run_i (K os' ops' fun s' h0 h1 a b j => sm s' h0 h1 a b (.un h1 (.inl rfl) j)) (Nat.add_right_comm i _ 1)
theorem parse_not {t : T} (hw : t.WF) (ih : Parses t) : Parses (.not t) := fun ts post i f fs res sg np pre hd K => by
  obtain ⟨k1, s1, l1⟩ := Seg.head sg
  replace hd : fs.length + (t.depth + 1) ≤ 59 := hd
  refine .not k1 l1 (part_parse ih hw (by decide) s1 np (fun q => pre_un hw q (by decide)) hd fun os' ops' sm => ?_)
  exact run_i (K os' ops' fun s' h0 h1 a b j => sm s' h0 h1 a b (.un h1 (.inr rfl) j)) (Nat.add_right_comm i _ 1)
theorem parse_app1 {k : Ap} {a : T} (hw : a.WF) (ih : Parses a) : Parses (.app1 k a) := fun ts post i f fs res sg np pre hd K => by
  obtain ⟨k1, s1, l1⟩ := Seg.head sg
  obtain ⟨k2, s2, l2⟩ := Seg.head s1
  replace s2 : Seg ts (i + 1 + 1) (a.toks ++ (tClose :: post)) := s2.of (List.append_assoc _ _ _)
  obtain ⟨k3, s4, l3⟩ := s2.app.head
  replace hd : fs.length + a.depth + 1 ≤ 59 := hd
  refine .opens k1 k2 (ap_opens k) l2 (sh2 hd) (ih _ _ _ ⟨k.kind, k.word, [], [], []⟩ (f :: fs) _ s2 noOpen_close (Pre.nil _) (sh1 hd) fun os1 ops1 sm => ?_)
  refine .close (f := ⟨k.kind, k.word, [], os1, ops1⟩) (b := false) (last := a.due) (os' := []) (ops' := []) k3 (ap_top k) (top_ap k _ _ _ _) l3 (sm 0 (Int.le_refl _) (T.level_pos hw) _ _ (.nil _)) ?_
  exact run_i (K ((T.app1 k a).due :: f.operands) f.ops .refl) sl1.symm
theorem parse_app2 {k : Ap} {a b : T} (hw : a.WF ∧ b.WF) (ih : Parses a) (ih2 : Parses b) : Parses (.app2 k a b) := fun ts post i f fs res sg np pre hd K => by
  obtain ⟨k1, s1, l1⟩ := Seg.head sg
  obtain ⟨k2, s2, l2⟩ := Seg.head s1
  replace s2 : Seg ts (i + 1 + 1) (a.toks ++ (tComma :: (b.toks ++ [tClose] ++ post))) := s2.of (List.append_assoc _ _ _)
  obtain ⟨k3, s4, l3⟩ := s2.app.head
  replace s4 := s4.of (List.append_assoc b.toks [tClose] post)
  obtain ⟨k5, s6, l5⟩ := s4.app.head
  have h1 := hdl hd
  have h2 := hdr hd
  refine .opens k1 k2 (ap_opens k) l2 (sh2 h1) (ih _ _ _ ⟨k.kind, k.word, [], [], []⟩ (f :: fs) _ s2 noOpen_comma (Pre.nil _) (sh1 h1) fun os1 ops1 sm => ?_)
  refine .comma (f := ⟨k.kind, k.word, [], os1, ops1⟩) (last := a.due) (os' := []) (ops' := []) k3 (ap_top k) (ap_group k) l3 (sm 0 (Int.le_refl _) (T.level_pos hw.1) _ _ (.nil _)) ?_
  refine ih2 _ _ _ ⟨k.kind, k.word, [a.due], [], []⟩ (f :: fs) _ s4 noOpen_close (Pre.nil _) (sh1 h2) fun os2 ops2 sm => ?_
  refine .close (f := ⟨k.kind, k.word, [a.due], os2, ops2⟩) (b := false) (last := b.due) (os' := []) (ops' := []) k5 (ap_top k) (top_ap k _ _ _ _) l5 (sm 0 (Int.le_refl _) (T.level_pos hw.2) _ _ (.nil _)) ?_
  exact run_i (K ((T.app2 k a b).due :: f.operands) f.ops .refl) sl2.symm
theorem parse_two {w : String} {l r : T} (hw : w ∈ ops16.map (·.1) ∧ l.WF ∧ r.WF) (ih : Parses l) (ih2 : Parses r) : Parses (.two w l r) := fun ts post i f fs res sg np pre hd K => by
  obtain ⟨hk, hs, hsok, hn1, hn2, hb, hno⟩ := ops_ok hw.1
  have sg' : Seg ts i (partOf (opS w) l.level l.toks ++ ((opK w, Str.ofString w) :: (partOf (opS w + 1) r.level r.toks ++ post))) := sg.of (List.append_assoc _ _ _)
  obtain ⟨k1, s1, l1⟩ := sg'.app.head
  have h0 : 0 ≤ opS w := Int.le_trans (by decide) hb.1
  refine part_parse ih hw.2.1 h0 sg' (fun q => hno (Option.some.inj q)) (fun q => pre_mono pre q) (hdl hd) fun os1 ops1 sm => ?_
  refine .op (kd := opK w) (x := w) (s := opS w) (os' := l.due :: f.operands) (ops' := f.ops) k1 hk hs l1 (sm _ h0 (Int.le_refl _) _ _ ?_) ?_
  · cases e : f.ops with
    | nil => exact .nil _
    | cons p r' =>
      obtain ⟨op, s0⟩ := p
      exact .stop (pre (op, s0) (by rw [e]; rfl))
  · refine part_parse ih2 hw.2.2 (Int.le_add_one h0) s1 np (fun q => pre_lt q) (hdr hd) fun os3 ops3 sm3 => ?_
    exact run_i (K os3 ops3 fun s' h0 h1 a b j => sm3 s' h0 (Int.le_add_one h1) a b (.bin h1 hn1 hn2 hsok j)) sl3.symm
theorem parses (t : T) : t.WF → Parses t := by
  induction t with
  | num k => exact fun h => parse_num h
  | name x => exact fun h => parse_name h
  | text x => exact fun h => parse_text h
  | rnd => exact fun _ => parse_rnd
  | fna => exact fun _ => parse_fna
  | neg t ih => exact fun h => parse_neg h (ih h)
  | not t ih => exact fun h => parse_not h (ih h)
  | app1 k a ih => exact fun h => parse_app1 h (ih h)
  | app2 k a b ih ih2 => exact fun h => parse_app2 h (ih h.1) (ih2 h.2)
  | two w l r ih ih2 => exact fun h => parse_two h (ih h.2.1) (ih2 h.2.2)
end Mine
namespace Mine
theorem Join.more {os os' : List V} {ops ops' : List (Str × Int)} (j : Join 0 os ops os' ops') {s : Int} (hs : 0 ≤ s) : ∃ a b, Join s os ops a b := by
  induction j with
  | nil os => exact ⟨_, _, .nil os⟩
  | stop h => exact ⟨_, _, .stop (by first | exact lu (by assumption) rfl | exact lv (by assumption) rfl | exact lw (by assumption) rfl | exact lx (by assumption) rfl | exact ly (by assumption) rfl | omega)⟩
  | @un x os os' op p r r' h hop k ih =>
    by_cases q : s ≤ p
    · obtain ⟨a, b, z⟩ := ih; exact ⟨a, b, .un q hop z⟩
    · exact ⟨_, _, .stop (by first | exact lu (by assumption) rfl | exact lv (by assumption) rfl | exact lw (by assumption) rfl | exact lx (by assumption) rfl | exact ly (by assumption) rfl | omega)⟩
  | @bin x y os os' op p r r' h h1 h2 h3 k ih =>
    by_cases q : s ≤ p
    · obtain ⟨a, b, z⟩ := ih; exact ⟨a, b, .bin q h1 h2 h3 z⟩
    · exact ⟨_, _, .stop (by first | exact lu (by assumption) rfl | exact lv (by assumption) rfl | exact lw (by assumption) rfl | exact lx (by assumption) rfl | exact ly (by assumption) rfl | omega)⟩
noncomputable def Behind (us : List Tk) : Prop := us = [] ∨ ∃ kd x r, us = (kd, x) :: r ∧ (kd = "sign" ∨ kd = "word") ∧ keyIn x strengths = none ∧ NoOpen us
theorem Behind.noOpen {us : List Tk} (h : Behind us) : NoOpen us := by
  rcases h with rfl | ⟨kd, x, r, rfl, _, _, h⟩
  · intro q; cases q
  · exact h
theorem seg0 (ts : List Tk) : Seg ts 0 ts := rfl
noncomputable abbrev tA : Tk := ("name", "A")
theorem run_good {t : T} (hw : t.WF) (hd : t.depth ≤ 50) {us : List Tk} (hb : Behind us) : Run (t.toks ++ us) [fr0] 0 true (.done t.due t.toks.length) := by
  refine parses t hw _ us 0 fr0 [] _ (seg0 _) hb.noOpen (Pre.nil _) (by simp; omega) fun os' ops' sm => ?_
  have sg : Seg (t.toks ++ us) (0 + t.toks.length) us := Seg.app (seg0 _)
  have j := sm 0 (Int.le_refl _) (T.level_pos hw) _ _ (.nil _)
  rcases hb with rfl | ⟨kd, x, r, rfl, h1, h2, h3⟩
  · exact run_i (j := 0 + t.toks.length) (.fin sg.nil (.inl rfl) rfl (j := j)) rfl |> fun h => by simpa using h
  · have := Run.fin (f := { fr0 with operands := os', ops := ops' }) sg.head.1 (.inr ⟨h1, h2⟩) rfl j
    simpa using this
theorem run_op_end {t : T} (hw : t.WF) (hd : t.depth ≤ 50) {kd x : Str} {s : Int} (hk : kd = "sign" ∨ kd = "word") (hs : keyIn x strengths = some (.int s)) (h0 : 0 ≤ s) (hn : NoOpen [(kd, x)]) : Run (t.toks ++ [(kd, x)]) [fr0] 0 true (.exc "SN") := by
  refine parses t hw _ [(kd, x)] 0 fr0 [] _ (seg0 _) hn (Pre.nil _) (by simp; omega) fun os' ops' sm => ?_
  have sg : Seg (t.toks ++ [(kd, x)]) (0 + t.toks.length) [(kd, x)] := Seg.app (seg0 _)
  have j := sm 0 (Int.le_refl _) (T.level_pos hw) _ _ (.nil _)
  obtain ⟨a, b, j'⟩ := j.more h0
  obtain ⟨k1, s1, l1⟩ := sg.head
  exact .op k1 hk hs l1 j' (.sn s1.nil (.inl rfl))
theorem run_group_end {t : T} (hw : t.WF) (hd : t.depth ≤ 50) : Run (tOpen :: t.toks) [fr0] 0 true (.exc "SN") := by
  obtain ⟨k1, s1, l1⟩ := Seg.head (seg0 (tOpen :: t.toks))
  have s1' : Seg (tOpen :: t.toks) (0 + 1) (t.toks ++ []) := by rw [List.append_nil]; exact s1
  refine .group k1 l1 (by simp) (parses t hw _ [] _ ⟨"group", "", [], [], []⟩ [fr0] _ s1' (by intro q; cases q) (Pre.nil _) (by simp; omega) fun os' ops' sm => ?_)
  exact .osn s1'.app.nil (show ("group" : Str) ≠ "top" by decide +kernel)
theorem run_item_end {t : T} (hw : t.WF) (hd : t.depth ≤ 50) : Run (tA :: tOpen :: t.toks) [fr0] 0 true (.exc "SN") := by
  obtain ⟨k1, s1, l1⟩ := Seg.head (seg0 (tA :: tOpen :: t.toks))
  obtain ⟨k2, s2, l2⟩ := Seg.head s1
  have s2' : Seg (tA :: tOpen :: t.toks) (0 + 1 + 1) (t.toks ++ []) := by rw [List.append_nil]; exact s2
  refine .opens k1 k2 (ap_opens .item) l2 (by simp) (parses t hw _ [] _ ⟨"item", "A", [], [], []⟩ [fr0] _ s2' (by intro q; cases q) (Pre.nil _) (by simp; omega) fun os' ops' sm => ?_)
  exact .osn s2'.app.nil (show ("item" : Str) ≠ "top" by decide +kernel)
theorem run_slash (ts : List Tk) : Run (("sign", "/") :: ts) [fr0] 0 true (.exc "SN") :=
  .sn (Seg.head (seg0 _)).1 (.inr ⟨rfl, by decide +kernel, by decide +kernel, by decide +kernel⟩)
theorem run_empty : Run [] [fr0] 0 true (.exc "SN") := .sn (Seg.nil (seg0 _)) (.inl rfl)
theorem run_len : Run [("word", "LEN")] [fr0] 0 true (.exc "SN") :=
  .snw (Seg.head (seg0 [(("word" : Str), ("LEN" : Str))])).1 ((Seg.head (seg0 [(("word" : Str), ("LEN" : Str))])).2.1.noOpen (by intro q; cases q)) (.call kn_len (by kernel_rfl) (by decide +kernel))
noncomputable abbrev tB : Tk := ("name", "B%")
noncomputable abbrev tMinus : Tk := ("sign", "-")
noncomputable def vA : V := .tup [.str "name", .str "A"]
noncomputable def vB : V := .tup [.str "name", .str "B%"]
noncomputable def lng : Nat → V → V
  | 0, acc => acc
  | n + 1, acc => lng n (.tup [.str "two", .str "-", acc, vB])
noncomputable def minusB : Nat → List Tk
  | 0 => []
  | n + 1 => ("sign", "-") :: ("name", "B%") :: minusB n
theorem noOpen_minusB (n : Nat) : NoOpen (minusB n) := by
  cases n with
  | zero => intro q; cases q
  | succ n => intro q; exact absurd (Option.some.inj q) (show ¬ (("sign" : Str), ("-" : Str)) = tOpen by decide +kernel)
theorem len_minusB : ∀ n, (minusB n).length = 2 * n
  | 0 => rfl
  | n + 1 => by show (minusB n).length + 1 + 1 = 2 * (n + 1); rw [len_minusB n]; rfl
theorem sm1 {i n : Nat} : i + 1 + 1 + 2 * n = i + 2 * (n + 1) := (Nat.add_assoc i 2 (2 * n)).trans (congrArg (i + ·) (Nat.add_comm 2 (2 * n)))
theorem dp {i n : Nat} : i + (2 * (n + 1) + 1) = i + 1 + (2 * n + 1) + 1 := by omega
theorem run_minus {ts : List Tk} (n : Nat) : ∀ {i : Nat} {acc : V} {os : List V} {ops : List (Str × Int)}, (∀ s, 0 ≤ s → s ≤ 8 → Join s os ops [acc] []) → Seg ts i (minusB n) → Run ts [{ fr0 with operands := os, ops := ops }] i false (.done (lng n acc) (i + 2 * n)) := by
  have q := ops_ok (w := "-") (by simp [ops16])
  induction n with
  | zero =>
    intro i acc os ops j sg
    exact .fin (f := { fr0 with operands := os, ops := ops }) sg.nil (.inl rfl) rfl (j 0 (by decide) (by decide))
  | succ n ih =>
    intro i acc os ops j sg
    have h1 := Seg.head sg
    have h2 := Seg.head h1.2.1
    refine .op (s := 8) h1.1 (.inl rfl) q.2.1 h1.2.2 (j 8 (by decide) (by decide)) (.val (.name (y := "B%") (by decide +kernel) h2.1 (h2.2.1.noOpen (noOpen_minusB n)) (by kernel_rfl) (by decide +kernel) (by decide +kernel)) h2.2.2 ?_)
    rw [← sm1]
    exact ih (i := i + 1 + 1) (acc := .tup [.str "two", .str "-", acc, vB]) (os := [vB, acc]) (ops := [("-", 8)]) (fun s h0 h1 => .bin h1 q.2.2.2.1 q.2.2.2.2.1 q.2.2.1 (.nil _)) h2.2.1
theorem run_long (n : Nat) : Run (tA :: minusB n) [fr0] 0 true (.done (lng n vA) (1 + 2 * n)) := by
  obtain ⟨k1, s1, l1⟩ := Seg.head (seg0 (tA :: minusB n))
  refine .val (x := [.str "name", .str "A"]) (.name (y := "A") (by decide +kernel) k1 (s1.noOpen (noOpen_minusB n)) (by kernel_rfl) (by decide +kernel) (by decide +kernel)) l1 ?_
  exact run_minus n (i := 1) (acc := vA) (os := [vA]) (ops := []) (fun s _ _ => .nil _) s1
noncomputable def deepT (n : Nat) : List Tk := List.replicate n tOpen ++ tA :: List.replicate n tClose
theorem deep_s {n : Nat} {post : List Tk} : List.replicate (n + 1) tOpen ++ tA :: (List.replicate (n + 1) tClose ++ post) = tOpen :: (List.replicate n tOpen ++ tA :: (List.replicate n tClose ++ tClose :: post)) := by
  rw [List.replicate_succ, List.replicate_succ' (a := tClose), List.append_assoc]; rfl
theorem deep_l (n : Nat) : (deepT n).length = 2 * n + 1 := by
  unfold deepT
  rw [List.length_append, List.length_cons, List.length_replicate, List.length_replicate, Nat.two_mul]; rfl
theorem run_deep {ts : List Tk} (n : Nat) : ∀ {i : Nat} {f : Fr} {fs : List Fr} {post : List Tk} {res : Res}, Seg ts i (List.replicate n tOpen ++ tA :: (List.replicate n tClose ++ post)) → NoOpen post → fs.length + n ≤ 60 →
    Run ts ({ f with operands := vA :: f.operands } :: fs) (i + (2 * n + 1)) false res → Run ts (f :: fs) i true res := by
  induction n with
  | zero =>
    intro i f fs post res sg np hl K
    have h1 := Seg.head sg
    exact .val (.name (y := "A") (by decide +kernel) h1.1 (h1.2.1.noOpen np) (by kernel_rfl) (by decide +kernel) (by decide +kernel)) h1.2.2 K
  | succ n ih =>
    intro i f fs post res sg np hl K
    have h1 := (sg.of deep_s).head
    have s2 : Seg ts (i + 1 + (2 * n + 1)) (tClose :: post) := by
      have := Seg.app (us := deepT n) (vs := tClose :: post) (h1.2.1.of (List.append_assoc (List.replicate n tOpen) (tA :: List.replicate n tClose) (tClose :: post)).symm)
      rw [deep_l] at this
      exact this
    have h2 := s2.head
    have hl' : fs.length + n + 1 ≤ 60 := hl
    refine .group h1.1 h1.2.2 (Nat.le_trans (Nat.succ_le_succ (Nat.le_add_right fs.length n)) hl') (ih (f := ⟨"group", "", [], [], []⟩) (fs := f :: fs) h1.2.1 noOpen_close (Nat.le_trans (Nat.le_of_eq (Nat.succ_add fs.length n)) hl') ?_)
    refine .close (f := ⟨"group", "", [], [vA], []⟩) (b := true) (last := vA) (os' := []) (ops' := []) h2.1 (show ("group" : Str) ≠ "top" by decide +kernel) (top_group _ _) h2.2.2 (.nil _) ?_
    exact run_i K (dp (i := i) (n := n))
theorem run_deep_ok {n : Nat} (hn : n ≤ 60) : Run (deepT n) [fr0] 0 true (.done vA (2 * n + 1)) := by
  refine run_deep n (post := []) (f := fr0) (fs := []) (by unfold deepT; rw [List.append_nil]; exact seg0 _) (by intro q; cases q) (by simpa using hn) ?_
  have sg : Seg (deepT n) (0 + (deepT n).length) [] := Seg.app (us := deepT n) (vs := []) (by rw [List.append_nil]; exact seg0 _)
  rw [deep_l, Nat.zero_add] at sg
  rw [Nat.zero_add]
  exact Run.fin (f := { fr0 with operands := [vA] }) sg.nil (.inl rfl) rfl (last := vA) (os' := []) (ops' := []) (.nil _)
theorem run_over {ts rest : List Tk} (n : Nat) : ∀ {i : Nat} {fs : List Fr}, fs.length + n = 61 → Seg ts i (List.replicate n tOpen ++ tOpen :: rest) → Run ts fs i true (.exc "ST") := by
  induction n with
  | zero => exact fun hl sg => .st (Seg.head sg).1 (Nat.le_of_eq hl.symm)
  | succ n ih =>
    intro i fs hl sg
    have h1 := Seg.head sg
    have hl' : fs.length + n + 1 = 61 := hl
    exact .group h1.1 h1.2.2 (Nat.le_trans (Nat.le_add_right fs.length n) (Nat.le_of_eq (Nat.succ.inj hl'))) (ih ((Nat.succ_add fs.length n).trans hl') h1.2.1)
theorem run_deep_st {n : Nat} (hn : 61 ≤ n) : Run (deepT n) [fr0] 0 true (.exc "ST") := by
  obtain ⟨k, rfl⟩ : ∃ k, n = 60 + (k + 1) := ⟨n - 61, by omega⟩
  refine run_over 60 (fs := [fr0]) (rest := List.replicate k tOpen ++ tA :: List.replicate (60 + (k + 1)) tClose) rfl ?_
  have : deepT (60 + (k + 1)) = List.replicate 60 tOpen ++ tOpen :: (List.replicate k tOpen ++ tA :: List.replicate (60 + (k + 1)) tClose) := by
    unfold deepT
    rw [← List.replicate_append_replicate (a := tOpen), List.replicate_succ, List.append_assoc]; rfl
  rw [← this]
  exact seg0 _
end Mine
namespace Mine
theorem is__law_heard : (tab "_law_heard").isSome = true := by rfl
noncomputable abbrev fd__law_heard := fdOf "_law_heard" is__law_heard
theorem tab__law_heard : tab "_law_heard" = some fd__law_heard := tab_fd _
theorem e_heard_ok {ts : List Tk} {j : Nat} {last : V} (h : OkTs ts) (hz : ts.length ≤ 8000) (run : Run ts [fr0] 0 true (.done last j)) (μ : M) : ∃ μ', Old μ.length μ μ' ∧ Ev 36 fd__law_heard μ [toks ts] (.ok (.tup [last, .int j]) μ') := by
  obtain ⟨μ', o, N, e⟩ := e_expr_ok h hz run μ
  refine ⟨μ', o, ?_⟩
  refine atFd (p := fun fd => Ev 36 fd μ [toks ts] (.ok (.tup [last, .int j]) μ')) ⟨_, rfl, ?_⟩
  refine ev_in (N) 60 fun m d => ?_
  refine (enter (by rfl) rfl).trans ?_; dsimp only
  simp -dsimp (disch := first | assumption | exact mi | exact jj rfl | exact ke | exact kc | exact kf | exact kg | exact kh ‹_› rfl | exact mv ‹_› | exact mw ‹_› | exact mx ‹_› | exact my ‹_› | exact mz ‹_› | exact lv ‹_› rfl | exact lw ‹_› rfl | exact lu ‹_› rfl | exact m5 ‹_› rfl | exact m7 rfl | exact mj ‹_› rfl | exact ml ke | exact ml (ml ke) | exact ml (ml kc) | exact ml (ml (ml ke)) | exact ml (ml (ml kc)) | decide +kernel | omega | (intros; contradiction)) [zipArgs, gy, gz, jk, jm, ki, kj, bq, bg, br, b7, b8, bt, bu, jn, km, ko, jo, g5, g6, bh, bv, bi, d7, aa, ag, a5, ah, au, ac, ai, a6, aj, av, ak, aw, ba, ax, a7, ae, al, a8, am, ay, af, ao, a9, aq, az, jp, bj, bw, bk, bn, bc, g7, g8, g9, jq, jr, kr, kt, bz, b4, b9, b5, ce, d9, cw, eb, cy, cz, ku, kx, ky, kz, ec, eg, c6, eh, ej, ek, er, h9, cg, et, ch, eu, ia, ey, jt, ju, c7, ci, cj, cn, ↓k7, ↓k8, ↓k9, ↓lb, ez, c8, fa, ↓lz, lf, jv, ib, lg, lh, lj, ll, lq, ls, c9, da, cq, dg, cr, b6, cu, l6, l7, l8, l9, jw, ic, jx, jy, ie, ig, n_radd', jz, ij, j0, j1, j2, j3, ik, fc, fe, fg, bp, be, dh, j4, cv, im, j5, j6, j7, io, ip, iq, ir, j8, iu, ma, mc, md, me, mm, mn, mr, mf, iv, fh, iw, iy, ↓iz, i0, fi, di, fj, dk, fk, fm, dl, fp, fq, i6, ms, mt, i7, ft, fu, dm, dq, i9, fv, dt, fw, du, ja, dw, fy, fz, jb, f0, f5, dy, dz, jc, f7, d3, f8, d4, jd, d5, f9, gn, mu, j9, gp, gq, as1', as2', as3', appendV, popV, je, mh, gs, gu, jf, d6, gv, jg, jh, ji, gw, gx, tab_expression, e]
theorem e_heard_exc {ts : List Tk} {c : Str} (h : OkTs ts) (hz : ts.length ≤ 8000) (run : Run ts [fr0] 0 true (.exc c)) (μ : M) : ∃ μ', Old μ.length μ μ' ∧ Ev 36 fd__law_heard μ [toks ts] (.ok (.str c) μ') := by
  obtain ⟨μ', o, N, e⟩ := e_expr_exc h hz run μ
  refine ⟨μ', o, ?_⟩
  refine atFd (p := fun fd => Ev 36 fd μ [toks ts] (.ok (.str c) μ')) ⟨_, rfl, ?_⟩
  refine ev_in (N) 60 fun m d => ?_
  refine (enter (by rfl) rfl).trans ?_; dsimp only
  simp -dsimp (disch := first | assumption | exact mi | exact jj rfl | exact ke | exact kc | exact kf | exact kg | exact kh ‹_› rfl | exact mv ‹_› | exact mw ‹_› | exact mx ‹_› | exact my ‹_› | exact mz ‹_› | exact lv ‹_› rfl | exact lw ‹_› rfl | exact lu ‹_› rfl | exact m5 ‹_› rfl | exact m7 rfl | exact mj ‹_› rfl | exact ml ke | exact ml (ml ke) | exact ml (ml kc) | exact ml (ml (ml ke)) | exact ml (ml (ml kc)) | decide +kernel | omega | (intros; contradiction)) [zipArgs, gy, gz, jk, jm, ki, kj, bq, bg, br, b7, b8, bt, bu, jn, km, ko, jo, g5, g6, bh, bv, bi, d7, aa, ag, a5, ah, au, ac, ai, a6, aj, av, ak, aw, ba, ax, a7, ae, al, a8, am, ay, af, ao, a9, aq, az, jp, bj, bw, bk, bn, bc, g7, g8, g9, jq, jr, kr, kt, bz, b4, b9, b5, ce, d9, cw, eb, cy, cz, ku, kx, ky, kz, ec, eg, c6, eh, ej, ek, er, h9, cg, et, ch, eu, ia, ey, jt, ju, c7, ci, cj, cn, ↓k7, ↓k8, ↓k9, ↓lb, ez, c8, fa, ↓lz, lf, jv, ib, lg, lh, lj, ll, lq, ls, c9, da, cq, dg, cr, b6, cu, l6, l7, l8, l9, jw, ic, jx, jy, ie, ig, n_radd', jz, ij, j0, j1, j2, j3, ik, fc, fe, fg, bp, be, dh, j4, cv, im, j5, j6, j7, io, ip, iq, ir, j8, iu, ma, mc, md, me, mm, mn, mr, mf, iv, fh, iw, iy, ↓iz, i0, fi, di, fj, dk, fk, fm, dl, fp, fq, i6, ms, mt, i7, ft, fu, dm, dq, i9, fv, dt, fw, du, ja, dw, fy, fz, jb, f0, f5, dy, dz, jc, f7, d3, f8, d4, jd, d5, f9, gn, mu, j9, gp, gq, as1', as2', as3', appendV, popV, je, mh, gs, gu, jf, d6, gv, jg, jh, ji, gw, gx, tab_expression, e]
end Mine
namespace Mine
noncomputable def bx (cs : List Int) (s k : Int) (r : M) : M := [.lst (cs.map .int), .int k, .int s] :: r
theorem bx_at {cs : List Int} {s k : Int} {r : M} : (bx cs s k r)[0]? = some [.lst (cs.map .int), .int k, .int s] := rfl
theorem bx_set {cs : List Int} {s k k' : Int} {r : M} : (bx cs s k r).set 0 [.lst (cs.map .int), .int k', .int s] = bx cs s k' r := rfl
theorem ib0 {cs : List Int} {s k : Int} {r : M} : idxV (bx cs s k r) (.ref 0) (.int 0) = some (.lst (cs.map .int)) := by kernel_rfl
theorem ib1 {cs : List Int} {s k : Int} {r : M} : idxV (bx cs s k r) (.ref 0) (.int 1) = some (.int k) := by kernel_rfl
theorem ib2 {cs : List Int} {s k : Int} {r : M} : idxV (bx cs s k r) (.ref 0) (.int 2) = some (.int s) := by kernel_rfl
structure BoxOk (cs : List Int) (s : Int) : Prop where
  len : cs.length ≤ 63
  lo : 0 ≤ s
  hi : s ≤ 100000
theorem is__law_draw : (tab "_law_draw").isSome = true := by rfl
noncomputable abbrev fd__law_draw := fdOf "_law_draw" is__law_draw
theorem tab__law_draw : tab "_law_draw" = some fd__law_draw := tab_fd _
theorem fmod_in {x m : Int} (h : 0 < m) : 0 ≤ x.fmod m ∧ x.fmod m < m := ⟨Int.fmod_nonneg_of_pos x h, Int.fmod_lt_of_pos x h⟩
theorem e_draw {cs : List Int} {s : Int} (B : BoxOk cs s) {k : Int} (h1 : -1 ≤ k) (h2 : k ≤ 10000) {m : Int} (hm : 0 < m) (r : M) : ∃ v, 0 ≤ v ∧ v < m ∧ Ev 2 fd__law_draw (bx cs s k r) [.ref 0, .int m] (.ok (.int v) (bx cs s (k + 1) r)) := by
  by_cases q : k + 1 < cs.length
  · obtain ⟨c, hc⟩ : ∃ c, cs[(k + 1).toNat]? = some c := ⟨_, List.getElem?_eq_getElem (by first | exact lu (by assumption) rfl | exact lv (by assumption) rfl | exact lw (by assumption) rfl | exact lx (by assumption) rfl | exact ly (by assumption) rfl | omega)⟩
    refine ⟨c.fmod m, (fmod_in hm).1, (fmod_in hm).2, ?_⟩
    refine atFd (p := fun fd => Ev 2 fd (bx cs s k r) [.ref 0, .int m] (.ok (.int (c.fmod m)) (bx cs s (k + 1) r))) ⟨_, rfl, ?_⟩
    have hi : idxV (bx cs s (k + 1) r) (.lst (cs.map .int)) (.int (k + 1)) = some (.int c) := by
      rw [i_lst (by first | exact lu (by assumption) rfl | exact lv (by assumption) rfl | exact lw (by assumption) rfl | exact lx (by assumption) rfl | exact ly (by assumption) rfl | omega)]
      have : seqIndex? (k + 1) (cs.map V.int).length = some (k + 1).toNat := by
        have := seq_at (i := (k + 1).toNat) (n := (cs.map V.int).length) (by rw [List.length_map]; omega)
        rw [show (((k + 1).toNat : Nat) : Int) = k + 1 by omega] at this
        exact this
      rw [this]
      simp [hc]
    have l1 := B.len
    refine ev_of (N := 60) fun n d => ?_
    refine (enter (by rfl) rfl).trans ?_; dsimp only
    simp -dsimp (disch := first | assumption | exact mi | exact jj rfl | exact ke | exact kc | exact kf | exact kg | exact kh ‹_› rfl | exact mv ‹_› | exact mw ‹_› | exact mx ‹_› | exact my ‹_› | exact mz ‹_› | exact lv ‹_› rfl | exact lw ‹_› rfl | exact lu ‹_› rfl | exact m5 ‹_› rfl | exact m7 rfl | exact mj ‹_› rfl | exact ml ke | exact ml (ml ke) | exact ml (ml kc) | exact ml (ml (ml ke)) | exact ml (ml (ml kc)) | decide +kernel | omega | (intros; contradiction)) [zipArgs, gy, gz, jk, jm, ki, kj, bq, bg, br, b7, b8, bt, bu, jn, km, ko, jo, g5, g6, bh, bv, bi, d7, aa, ag, a5, ah, au, ac, ai, a6, aj, av, ak, aw, ba, ax, a7, ae, al, a8, am, ay, af, ao, a9, aq, az, jp, bj, bw, bk, bn, bc, g7, g8, g9, jq, jr, kr, kt, bz, b4, b9, b5, ce, d9, cw, eb, cy, cz, ku, kx, ky, kz, ec, eg, c6, eh, ej, ek, er, h9, cg, et, ch, eu, ia, ey, jt, ju, c7, ci, cj, cn, ↓k7, ↓k8, ↓k9, ↓lb, ez, c8, fa, ↓lz, lf, jv, ib, lg, lh, lj, ll, lq, ls, c9, da, cq, dg, cr, b6, cu, l6, l7, l8, l9, jw, ic, jx, jy, ie, ig, n_radd', jz, ij, j0, j1, j2, j3, ik, fc, fe, fg, bp, be, dh, j4, cv, im, j5, j6, j7, io, ip, iq, ir, j8, iu, ma, mc, md, me, mm, mn, mr, mf, iv, fh, iw, iy, ↓iz, i0, fi, di, fj, dk, fk, fm, dl, fp, fq, i6, ms, mt, i7, ft, fu, dm, dq, i9, fv, dt, fw, du, ja, dw, fy, fz, jb, f0, f5, dy, dz, jc, f7, d3, f8, d4, jd, d5, f9, gn, mu, j9, gp, gq, as1', as2', as3', appendV, popV, je, mh, gs, gu, jf, d6, gv, jg, jh, ji, gw, gx, bx_at, bx_set, hi, ib0, ib1, ib2, q, small]
  · refine ⟨(5 * (k + 1) + (k + 1).fdiv 4 + s).fmod m, (fmod_in hm).1, (fmod_in hm).2, ?_⟩
    refine atFd (p := fun fd => Ev 2 fd (bx cs s k r) [.ref 0, .int m] (.ok (.int ((5 * (k + 1) + (k + 1).fdiv 4 + s).fmod m)) (bx cs s (k + 1) r))) ⟨_, rfl, ?_⟩
    have l1 := B.len
    have q2 : ((cs.length : Int) ≤ k + 1) := by omega
    refine ev_of (N := 60) fun n d => ?_
    refine (enter (by rfl) rfl).trans ?_; dsimp only
    simp -dsimp (disch := first | assumption | exact mi | exact jj rfl | exact ke | exact kc | exact kf | exact kg | exact kh ‹_› rfl | exact mv ‹_› | exact mw ‹_› | exact mx ‹_› | exact my ‹_› | exact mz ‹_› | exact lv ‹_› rfl | exact lw ‹_› rfl | exact lu ‹_› rfl | exact m5 ‹_› rfl | exact m7 rfl | exact mj ‹_› rfl | exact ml ke | exact ml (ml ke) | exact ml (ml kc) | exact ml (ml (ml ke)) | exact ml (ml (ml kc)) | decide +kernel | omega | (intros; contradiction)) [zipArgs, gy, gz, jk, jm, ki, kj, bq, bg, br, b7, b8, bt, bu, jn, km, ko, jo, g5, g6, bh, bv, bi, d7, aa, ag, a5, ah, au, ac, ai, a6, aj, av, ak, aw, ba, ax, a7, ae, al, a8, am, ay, af, ao, a9, aq, az, jp, bj, bw, bk, bn, bc, g7, g8, g9, jq, jr, kr, kt, bz, b4, b9, b5, ce, d9, cw, eb, cy, cz, ku, kx, ky, kz, ec, eg, c6, eh, ej, ek, er, h9, cg, et, ch, eu, ia, ey, jt, ju, c7, ci, cj, cn, ↓k7, ↓k8, ↓k9, ↓lb, ez, c8, fa, ↓lz, lf, jv, ib, lg, lh, lj, ll, lq, ls, c9, da, cq, dg, cr, b6, cu, l6, l7, l8, l9, jw, ic, jx, jy, ie, ig, n_radd', jz, ij, j0, j1, j2, j3, ik, fc, fe, fg, bp, be, dh, j4, cv, im, j5, j6, j7, io, ip, iq, ir, j8, iu, ma, mc, md, me, mm, mn, mr, mf, iv, fh, iw, iy, ↓iz, i0, fi, di, fj, dk, fk, fm, dl, fp, fq, i6, ms, mt, i7, ft, fu, dm, dq, i9, fv, dt, fw, du, ja, dw, fy, fz, jb, f0, f5, dy, dz, jc, f7, d3, f8, d4, jd, d5, f9, gn, mu, j9, gp, gq, as1', as2', as3', appendV, popV, je, mh, gs, gu, jf, d6, gv, jg, jh, ji, gw, gx, bx_at, bx_set, ib0, ib1, ib2, q, q2, small]
end Mine
namespace Mine
theorem eqV_int {a b : Int} : eqV (.int a) (.int b) = some (decide (a = b)) := eqV_of (d := .int a) (e := .int b) rfl rfl rfl rfl (Nat.zero_le 60) rfl
theorem ls_idx {μ : M} {l : List V} {i : Nat} (h : i < 1000) : idxV μ (.lst l) (.int (i : Int)) = l[i]? := by
  rw [i_lst (by first | exact lu (by assumption) rfl | exact lv (by assumption) rfl | exact lw (by assumption) rfl | exact lx (by assumption) rfl | exact ly (by assumption) rfl | omega)]
  by_cases q : i < l.length
  · rw [seq_at q]; rfl
  · have e : seqIndex? (i : Int) l.length = none := by
      unfold seqIndex?
      have hk : ¬ ((i : Int) < 0) := by omega
      rw [if_neg hk]
      have hn : decide ((i : Int) < (l.length : Int)) = false := decide_eq_false (by first | exact lu (by assumption) rfl | exact lv (by assumption) rfl | exact lw (by assumption) rfl | exact lx (by assumption) rfl | exact ly (by assumption) rfl | omega)
      dsimp only
      rw [hn, Bool.and_false]; rfl
    rw [e, List.getElem?_eq_none (by first | exact lu (by assumption) rfl | exact lv (by assumption) rfl | exact lw (by assumption) rfl | exact lx (by assumption) rfl | exact ly (by assumption) rfl | omega)]; rfl
theorem e_drawn {cs : List Int} {s : Int} (B : BoxOk cs s) {k : Int} (h1 : -1 ≤ k) (h2 : k ≤ 10000) {m : Int} (hm : 0 < m) (r : M) : ∃ i : Nat, (i : Int) < m ∧ Ev 2 fd__law_draw (bx cs s k r) [.ref 0, .int m] (.ok (.int (i : Int)) (bx cs s (k + 1) r)) := by
  obtain ⟨v, h0, h3, e⟩ := e_draw B h1 h2 hm r
  exact ⟨v.toNat, by omega, by rw [show ((v.toNat : Nat) : Int) = v by omega]; exact e⟩
noncomputable def T.enc : T → V
  | .num i => .tup [.str "number", .int i]
  | .name x => .tup [.str "name", .str x]
  | .text x => .tup [.str "text", .str x]
  | .rnd => .tup [.str "call", .str "RND", .lst []]
  | .fna => .tup [.str "fn", .str "FNA", .lst []]
  | .neg t => .tup [.str "neg", t.enc]
  | .not t => .tup [.str "not", t.enc]
  | .app1 k a => .tup [.str k.kind, .str k.word, .lst [a.enc]]
  | .app2 k a b => .tup [.str k.kind, .str k.word, .lst [a.enc, b.enc]]
  | .two w l r => .tup [.str "two", .str w, l.enc, r.enc]
theorem en_num {i : Nat} : (T.num i).enc = .tup [.str "number", .int i] := rfl
theorem en_name {x : String} : (T.name x).enc = .tup [.str "name", .str x] := rfl
theorem en_text {x : String} : (T.text x).enc = .tup [.str "text", .str x] := rfl
theorem en_rnd : T.rnd.enc = .tup [.str "call", .str "RND", .lst []] := rfl
theorem en_fna : T.fna.enc = .tup [.str "fn", .str "FNA", .lst []] := rfl
theorem en_neg {t : T} : (T.neg t).enc = .tup [.str "neg", t.enc] := rfl
theorem en_not {t : T} : (T.not t).enc = .tup [.str "not", t.enc] := rfl
theorem en_app1 {k : Ap} {a : T} : (T.app1 k a).enc = .tup [.str k.kind, .str k.word, .lst [a.enc]] := rfl
theorem en_app2 {k : Ap} {a b : T} : (T.app2 k a b).enc = .tup [.str k.kind, .str k.word, .lst [a.enc, b.enc]] := rfl
theorem en_two {w : String} {l r : T} : (T.two w l r).enc = .tup [.str "two", .str w, l.enc, r.enc] := rfl
theorem is__law_leaf : (tab "_law_leaf").isSome = true := by rfl
noncomputable abbrev fd__law_leaf := fdOf "_law_leaf" is__law_leaf
theorem tab__law_leaf : tab "_law_leaf" = some fd__law_leaf := tab_fd _
theorem e_leaf {cs : List Int} {s : Int} (B : BoxOk cs s) {k : Int} (h1 : -1 ≤ k) (h2 : k ≤ 9000) (r : M) : ∃ (t : T) (k' : Int), t.WF ∧ t.depth = 0 ∧ k ≤ k' ∧ k' ≤ k + 2 ∧ Ev 3 fd__law_leaf (bx cs s k r) [.ref 0] (.ok t.enc (bx cs s k' r)) := by
  obtain ⟨i, hi, N, e⟩ := e_drawn B h1 (Int.le_trans h2 (by decide)) (m := 4) (by decide) r
  have go : ∀ {t : T}, t.WF → t.depth = 0 → Ev 3 fd__law_leaf (bx cs s k r) [.ref 0] (.ok t.enc (bx cs s (k + 1 + 1) r)) → ∃ (t : T) (k' : Int), t.WF ∧ t.depth = 0 ∧ k ≤ k' ∧ k' ≤ k + 2 ∧ Ev 3 fd__law_leaf (bx cs s k r) [.ref 0] (.ok t.enc (bx cs s k' r)) := fun {t} a b c => ⟨t, _, a, b, Int.le_trans (Int.le_add_of_nonneg_right (by decide)) (Int.le_add_of_nonneg_right (by decide)), Int.le_of_eq (Int.add_assoc k 1 1), c⟩
  obtain rfl | rfl | rfl | rfl := i4 hi
  · obtain ⟨j, hj, N2, e2⟩ := e_drawn B (k := k + 1) (Int.le_trans h1 (Int.le_add_of_nonneg_right (by decide))) (Int.le_trans (Int.add_le_add_right h2 1) (by decide)) (m := 10) (by decide) r
    refine go (t := .num j) (show j < 10 from Int.ofNat_lt.mp hj) rfl ?_
    refine atFd (p := fun fd => Ev 3 fd (bx cs s k r) [.ref 0] (.ok (T.num j).enc (bx cs s (k + 1 + 1) r))) ⟨_, rfl, ?_⟩
    refine ev_in (N + N2) 60 fun n d => ?_
    simp only [Int.cast_ofNat_Int] at e
    refine (enter (by rfl) rfl).trans ?_; dsimp only
    simp -dsimp (disch := first | assumption | exact mi | exact jj rfl | exact ke | exact kc | exact kf | exact kg | exact kh ‹_› rfl | exact mv ‹_› | exact mw ‹_› | exact mx ‹_› | exact my ‹_› | exact mz ‹_› | exact lv ‹_› rfl | exact lw ‹_› rfl | exact lu ‹_› rfl | exact m5 ‹_› rfl | exact m7 rfl | exact mj ‹_› rfl | exact ml ke | exact ml (ml ke) | exact ml (ml kc) | exact ml (ml (ml ke)) | exact ml (ml (ml kc)) | decide +kernel | omega | (intros; contradiction)) [zipArgs, gy, gz, jk, jm, ki, kj, bq, bg, br, b7, b8, bt, bu, jn, km, ko, jo, g5, g6, bh, bv, bi, d7, aa, ag, a5, ah, au, ac, ai, a6, aj, av, ak, aw, ba, ax, a7, ae, al, a8, am, ay, af, ao, a9, aq, az, jp, bj, bw, bk, bn, bc, g7, g8, g9, jq, jr, kr, kt, bz, b4, b9, b5, ce, d9, cw, eb, cy, cz, ku, kx, ky, kz, ec, eg, c6, eh, ej, ek, er, h9, cg, et, ch, eu, ia, ey, jt, ju, c7, ci, cj, cn, ↓k7, ↓k8, ↓k9, ↓lb, ez, c8, fa, ↓lz, lf, jv, ib, lg, lh, lj, ll, lq, ls, c9, da, cq, dg, cr, b6, cu, l6, l7, l8, l9, jw, ic, jx, jy, ie, ig, n_radd', jz, ij, j0, j1, j2, j3, ik, fc, fe, fg, bp, be, dh, j4, cv, im, j5, j6, j7, io, ip, iq, ir, j8, iu, ma, mc, md, me, mm, mn, mr, mf, iv, fh, iw, iy, ↓iz, i0, fi, di, fj, dk, fk, fm, dl, fp, fq, i6, ms, mt, i7, ft, fu, dm, dq, i9, fv, dt, fw, du, ja, dw, fy, fz, jb, f0, f5, dy, dz, jc, f7, d3, f8, d4, jd, d5, f9, gn, mu, j9, gp, gq, as1', as2', as3', appendV, popV, je, mh, gs, gu, jf, d6, gv, jg, jh, ji, gw, gx, tab__law_draw, e, e2, eqV_int, en_num, en_name, en_text, en_rnd, en_fna]
  · obtain ⟨j, hj, N2, e2⟩ := e_drawn B (k := k + 1) (Int.le_trans h1 (Int.le_add_of_nonneg_right (by decide))) (Int.le_trans (Int.add_le_add_right h2 1) (by decide)) (m := 4) (by decide) r
    have hl : j < (["A", "B%", "C$", "LONG"] : List String).length := Int.ofNat_lt.mp hj
    have hx : ([.str "A", .str "B%", .str "C$", .str "LONG"] : List V)[j]? = some (.str (["A", "B%", "C$", "LONG"][j])) := by
      obtain rfl | rfl | rfl | rfl := i4 hj
      all_goals rfl
    refine go (t := .name (["A", "B%", "C$", "LONG"][j])) (List.getElem_mem hl) rfl ?_
    generalize (["A", "B%", "C$", "LONG"][j]) = x at hx
    clear hl
    refine atFd (p := fun fd => Ev 3 fd (bx cs s k r) [.ref 0] (.ok (T.name x).enc (bx cs s (k + 1 + 1) r))) ⟨_, rfl, ?_⟩
    refine ev_in (N + N2) 60 fun n d => ?_
    simp only [Int.cast_ofNat_Int] at e
    refine (enter (by rfl) rfl).trans ?_; dsimp only
    simp -dsimp (disch := first | assumption | exact mi | exact jj rfl | exact ke | exact kc | exact kf | exact kg | exact kh ‹_› rfl | exact mv ‹_› | exact mw ‹_› | exact mx ‹_› | exact my ‹_› | exact mz ‹_› | exact lv ‹_› rfl | exact lw ‹_› rfl | exact lu ‹_› rfl | exact m5 ‹_› rfl | exact m7 rfl | exact mj ‹_› rfl | exact ml ke | exact ml (ml ke) | exact ml (ml kc) | exact ml (ml (ml ke)) | exact ml (ml (ml kc)) | decide +kernel | omega | (intros; contradiction)) [zipArgs, gy, gz, jk, jm, ki, kj, bq, bg, br, b7, b8, bt, bu, jn, km, ko, jo, g5, g6, bh, bv, bi, d7, aa, ag, a5, ah, au, ac, ai, a6, aj, av, ak, aw, ba, ax, a7, ae, al, a8, am, ay, af, ao, a9, aq, az, jp, bj, bw, bk, bn, bc, g7, g8, g9, jq, jr, kr, kt, bz, b4, b9, b5, ce, d9, cw, eb, cy, cz, ku, kx, ky, kz, ec, eg, c6, eh, ej, ek, er, h9, cg, et, ch, eu, ia, ey, jt, ju, c7, ci, cj, cn, ↓k7, ↓k8, ↓k9, ↓lb, ez, c8, fa, ↓lz, lf, jv, ib, lg, lh, lj, ll, lq, ls, c9, da, cq, dg, cr, b6, cu, l6, l7, l8, l9, jw, ic, jx, jy, ie, ig, n_radd', jz, ij, j0, j1, j2, j3, ik, fc, fe, fg, bp, be, dh, j4, cv, im, j5, j6, j7, io, ip, iq, ir, j8, iu, ma, mc, md, me, mm, mn, mr, mf, iv, fh, iw, iy, ↓iz, i0, fi, di, fj, dk, fk, fm, dl, fp, fq, i6, ms, mt, i7, ft, fu, dm, dq, i9, fv, dt, fw, du, ja, dw, fy, fz, jb, f0, f5, dy, dz, jc, f7, d3, f8, d4, jd, d5, f9, gn, mu, j9, gp, gq, as1', as2', as3', appendV, popV, je, mh, gs, gu, jf, d6, gv, jg, jh, ji, gw, gx, tab__law_draw, e, e2, eqV_int, en_num, en_name, en_text, en_rnd, en_fna, ls_idx, hx]
  · obtain ⟨j, hj, N2, e2⟩ := e_drawn B (k := k + 1) (Int.le_trans h1 (Int.le_add_of_nonneg_right (by decide))) (Int.le_trans (Int.add_le_add_right h2 1) (by decide)) (m := 2) (by decide) r
    have hl : j < (["", "x y"] : List String).length := Int.ofNat_lt.mp hj
    have hx : ([.str "", .str "x y"] : List V)[j]? = some (.str (["", "x y"][j])) := by
      obtain rfl | rfl := i2 hj
      all_goals rfl
    refine go (t := .text (["", "x y"][j])) (List.getElem_mem hl) rfl ?_
    generalize (["", "x y"][j]) = x at hx
    clear hl
    refine atFd (p := fun fd => Ev 3 fd (bx cs s k r) [.ref 0] (.ok (T.text x).enc (bx cs s (k + 1 + 1) r))) ⟨_, rfl, ?_⟩
    refine ev_in (N + N2) 60 fun n d => ?_
    simp only [Int.cast_ofNat_Int] at e
    refine (enter (by rfl) rfl).trans ?_; dsimp only
    simp -dsimp (disch := first | assumption | exact mi | exact jj rfl | exact ke | exact kc | exact kf | exact kg | exact kh ‹_› rfl | exact mv ‹_› | exact mw ‹_› | exact mx ‹_› | exact my ‹_› | exact mz ‹_› | exact lv ‹_› rfl | exact lw ‹_› rfl | exact lu ‹_› rfl | exact m5 ‹_› rfl | exact m7 rfl | exact mj ‹_› rfl | exact ml ke | exact ml (ml ke) | exact ml (ml kc) | exact ml (ml (ml ke)) | exact ml (ml (ml kc)) | decide +kernel | omega | (intros; contradiction)) [zipArgs, gy, gz, jk, jm, ki, kj, bq, bg, br, b7, b8, bt, bu, jn, km, ko, jo, g5, g6, bh, bv, bi, d7, aa, ag, a5, ah, au, ac, ai, a6, aj, av, ak, aw, ba, ax, a7, ae, al, a8, am, ay, af, ao, a9, aq, az, jp, bj, bw, bk, bn, bc, g7, g8, g9, jq, jr, kr, kt, bz, b4, b9, b5, ce, d9, cw, eb, cy, cz, ku, kx, ky, kz, ec, eg, c6, eh, ej, ek, er, h9, cg, et, ch, eu, ia, ey, jt, ju, c7, ci, cj, cn, ↓k7, ↓k8, ↓k9, ↓lb, ez, c8, fa, ↓lz, lf, jv, ib, lg, lh, lj, ll, lq, ls, c9, da, cq, dg, cr, b6, cu, l6, l7, l8, l9, jw, ic, jx, jy, ie, ig, n_radd', jz, ij, j0, j1, j2, j3, ik, fc, fe, fg, bp, be, dh, j4, cv, im, j5, j6, j7, io, ip, iq, ir, j8, iu, ma, mc, md, me, mm, mn, mr, mf, iv, fh, iw, iy, ↓iz, i0, fi, di, fj, dk, fk, fm, dl, fp, fq, i6, ms, mt, i7, ft, fu, dm, dq, i9, fv, dt, fw, du, ja, dw, fy, fz, jb, f0, f5, dy, dz, jc, f7, d3, f8, d4, jd, d5, f9, gn, mu, j9, gp, gq, as1', as2', as3', appendV, popV, je, mh, gs, gu, jf, d6, gv, jg, jh, ji, gw, gx, tab__law_draw, e, e2, eqV_int, en_num, en_name, en_text, en_rnd, en_fna, ls_idx, hx]
  · obtain ⟨j, hj, N2, e2⟩ := e_drawn B (k := k + 1) (Int.le_trans h1 (Int.le_add_of_nonneg_right (by decide))) (Int.le_trans (Int.add_le_add_right h2 1) (by decide)) (m := 2) (by decide) r
    obtain ⟨t, hw, hd0, hx⟩ : ∃ t : T, t.WF ∧ t.depth = 0 ∧ ([.tup [.str "call", .str "RND", .lst []], .tup [.str "fn", .str "FNA", .lst []]] : List V)[j]? = some t.enc := by
      obtain rfl | rfl := i2 hj
      · exact ⟨.rnd, trivial, rfl, rfl⟩
      · exact ⟨.fna, trivial, rfl, rfl⟩
    refine go (t := t) hw hd0 ?_
    refine atFd (p := fun fd => Ev 3 fd (bx cs s k r) [.ref 0] (.ok t.enc (bx cs s (k + 1 + 1) r))) ⟨_, rfl, ?_⟩
    refine ev_in (N + N2) 60 fun n d => ?_
    simp only [Int.cast_ofNat_Int] at e
    refine (enter (by rfl) rfl).trans ?_; dsimp only
    simp -dsimp (disch := first | assumption | exact mi | exact jj rfl | exact ke | exact kc | exact kf | exact kg | exact kh ‹_› rfl | exact mv ‹_› | exact mw ‹_› | exact mx ‹_› | exact my ‹_› | exact mz ‹_› | exact lv ‹_› rfl | exact lw ‹_› rfl | exact lu ‹_› rfl | exact m5 ‹_› rfl | exact m7 rfl | exact mj ‹_› rfl | exact ml ke | exact ml (ml ke) | exact ml (ml kc) | exact ml (ml (ml ke)) | exact ml (ml (ml kc)) | decide +kernel | omega | (intros; contradiction)) [zipArgs, gy, gz, jk, jm, ki, kj, bq, bg, br, b7, b8, bt, bu, jn, km, ko, jo, g5, g6, bh, bv, bi, d7, aa, ag, a5, ah, au, ac, ai, a6, aj, av, ak, aw, ba, ax, a7, ae, al, a8, am, ay, af, ao, a9, aq, az, jp, bj, bw, bk, bn, bc, g7, g8, g9, jq, jr, kr, kt, bz, b4, b9, b5, ce, d9, cw, eb, cy, cz, ku, kx, ky, kz, ec, eg, c6, eh, ej, ek, er, h9, cg, et, ch, eu, ia, ey, jt, ju, c7, ci, cj, cn, ↓k7, ↓k8, ↓k9, ↓lb, ez, c8, fa, ↓lz, lf, jv, ib, lg, lh, lj, ll, lq, ls, c9, da, cq, dg, cr, b6, cu, l6, l7, l8, l9, jw, ic, jx, jy, ie, ig, n_radd', jz, ij, j0, j1, j2, j3, ik, fc, fe, fg, bp, be, dh, j4, cv, im, j5, j6, j7, io, ip, iq, ir, j8, iu, ma, mc, md, me, mm, mn, mr, mf, iv, fh, iw, iy, ↓iz, i0, fi, di, fj, dk, fk, fm, dl, fp, fq, i6, ms, mt, i7, ft, fu, dm, dq, i9, fv, dt, fw, du, ja, dw, fy, fz, jb, f0, f5, dy, dz, jc, f7, d3, f8, d4, jd, d5, f9, gn, mu, j9, gp, gq, as1', as2', as3', appendV, popV, je, mh, gs, gu, jf, d6, gv, jg, jh, ji, gw, gx, tab__law_draw, e, e2, eqV_int, ls_idx, hx]
end Mine
namespace Mine
theorem tadd21 {μ : M} {a b c : V} : binV μ .Add (.tup [a, b]) (.tup [c]) = some (.tup [a, b, c]) := ig (by simp)
theorem tab__law_words : tab "_law_words" = some fd_law_words := tab_fd _
theorem tab_range : tab "range" = none := by rfl
noncomputable def wl : List V := ops16.map fun p => .str p.1
theorem e_words (μ : M) : Ev 2 fd_law_words μ [] (.ok (.lst wl) μ) := ev_of (N := 60) (fun n d => by kernel_rfl)
noncomputable def cD : Nat → Int
  | 0 => 2
  | n + 1 => 3 + 2 * cD n
theorem cD_pos : ∀ n, 2 ≤ cD n
  | 0 => by decide
  | n + 1 => by have := cD_pos n; show 2 ≤ 3 + 2 * cD n; omega
theorem is__law_tree : (tab "_law_tree").isSome = true := by rfl
noncomputable abbrev fd__law_tree := fdOf "_law_tree" is__law_tree
theorem tab__law_tree : tab "_law_tree" = some fd__law_tree := tab_fd _
inductive TreeRes (cs : List Int) (s : Int) (n : Nat) (fd : DefRec) (k : Int) (r : M) : Prop
  | mk (t : T) (k' : Int) (hw : t.WF) (hd : t.depth ≤ n) (h1 : k ≤ k') (h2 : k' ≤ k + cD n) (e : Ev (2 * n + 4) fd (bx cs s k r) [.ref 0, .int (n : Int)] (.ok t.enc (bx cs s k' r))) : TreeRes cs s n fd k r
noncomputable abbrev TreeAt (cs : List Int) (s : Int) (n : Nat) (fd : DefRec) : Prop := ∀ (k : Int), -1 ≤ k → k + cD n ≤ 9000 → ∀ r : M, TreeRes cs s n fd k r
theorem tree_zero {cs : List Int} {s : Int} (B : BoxOk cs s) : TreeAt cs s 0 fd__law_tree := by
  refine atFd (p := TreeAt cs s 0) ⟨_, rfl, ?_⟩
  intro k h1 h2 r
  obtain ⟨t, k', hw, hd, a, b, e⟩ := e_leaf B h1 (Int.le_trans (Int.le_add_of_nonneg_right (by decide)) h2) r
  refine ⟨t, k', hw, Nat.le_of_eq hd, a, b, ?_⟩
  obtain ⟨N, e⟩ := e
  refine ev_in N 60 fun n d => ?_
  refine (enter (by rfl) rfl).trans ?_; dsimp only
  simp -dsimp (disch := first | assumption | exact mi | exact jj rfl | exact ke | exact kc | exact kf | exact kg | exact kh ‹_› rfl | exact mv ‹_› | exact mw ‹_› | exact mx ‹_› | exact my ‹_› | exact mz ‹_› | exact lv ‹_› rfl | exact lw ‹_› rfl | exact lu ‹_› rfl | exact m5 ‹_› rfl | exact m7 rfl | exact mj ‹_› rfl | exact ml ke | exact ml (ml ke) | exact ml (ml kc) | exact ml (ml (ml ke)) | exact ml (ml (ml kc)) | decide +kernel | omega | (intros; contradiction)) [zipArgs, gy, gz, jk, jm, ki, kj, bq, bg, br, b7, b8, bt, bu, jn, km, ko, jo, g5, g6, bh, bv, bi, d7, aa, ag, a5, ah, au, ac, ai, a6, aj, av, ak, aw, ba, ax, a7, ae, al, a8, am, ay, af, ao, a9, aq, az, jp, bj, bw, bk, bn, bc, g7, g8, g9, jq, jr, kr, kt, bz, b4, b9, b5, ce, d9, cw, eb, cy, cz, ku, kx, ky, kz, ec, eg, c6, eh, ej, ek, er, h9, cg, et, ch, eu, ia, ey, jt, ju, c7, ci, cj, cn, ↓k7, ↓k8, ↓k9, ↓lb, ez, c8, fa, ↓lz, lf, jv, ib, lg, lh, lj, ll, lq, ls, c9, da, cq, dg, cr, b6, cu, l6, l7, l8, l9, jw, ic, jx, jy, ie, ig, n_radd', jz, ij, j0, j1, j2, j3, ik, fc, fe, fg, bp, be, dh, j4, cv, im, j5, j6, j7, io, ip, iq, ir, j8, iu, ma, mc, md, me, mm, mn, mr, mf, iv, fh, iw, iy, ↓iz, i0, fi, di, fj, dk, fk, fm, dl, fp, fq, i6, ms, mt, i7, ft, fu, dm, dq, i9, fv, dt, fw, du, ja, dw, fy, fz, jb, f0, f5, dy, dz, jc, f7, d3, f8, d4, jd, d5, f9, gn, mu, j9, gp, gq, as1', as2', as3', appendV, popV, je, mh, gs, gu, jf, d6, gv, jg, jh, ji, gw, gx, tab__law_leaf, e, eqV_int]
theorem hn1 {n : Nat} : ((n : Int) + 1 - 1) = n := Int.add_sub_cancel _ _
theorem hpos {n : Nat} : (0 : Int) < (n : Int) + 1 := Int.lt_add_one_of_le (Int.natCast_nonneg n)
theorem up1 {k : Int} (h : -1 ≤ k) : -1 ≤ k + 1 := Int.le_trans h (Int.le_add_of_nonneg_right (by decide))
theorem tr (a : Int) {b c d : Int} (h : a ≤ b) (h2 : b + c ≤ d) : a + c ≤ d := Int.le_trans (Int.add_le_add_right h c) h2
theorem b_a {k c : Int} (hc : 2 ≤ c) (h : k + (3 + 2 * c) ≤ 9000) : k + 1 ≤ 9000 := by omega
theorem b_b {k c : Int} (hc : 2 ≤ c) (h : k + (3 + 2 * c) ≤ 9000) : k + 1 + 2 ≤ 9000 := by omega
theorem b_c {k c : Int} (hc : 2 ≤ c) (h : k + (3 + 2 * c) ≤ 9000) : k + 1 + 1 ≤ 9000 := by omega
theorem b_d {k c : Int} (hc : 2 ≤ c) (h : k + (3 + 2 * c) ≤ 9000) : k + 1 + 1 + c ≤ 9000 := by omega
theorem b_e {k k' c : Int} (hc : 2 ≤ c) (h : k + (3 + 2 * c) ≤ 9000) (h' : k' ≤ k + 1 + 1 + c) : k' + 1 ≤ 9000 := by omega
theorem b_f {k k' c : Int} (h : k + (3 + 2 * c) ≤ 9000) (h' : k' ≤ k + 1 + 1 + c) (hc : 2 ≤ c) : k' + c ≤ 9000 := by omega
theorem b_g {k k' k2 c : Int} (h : k + (3 + 2 * c) ≤ 9000) (h' : k' ≤ k + 1 + 1 + c) (h2 : k2 ≤ k' + c) : k2 + 1 ≤ 9000 := by omega
theorem b_h {k c : Int} (h : k + (3 + 2 * c) ≤ 9000) (hc : 2 ≤ c) : k + 1 + c ≤ 9000 := by omega
theorem b_i {k k' c : Int} (hc : 2 ≤ c) (h : k + (3 + 2 * c) ≤ 9000) (h' : k' ≤ k + 1 + c) : k' + 1 ≤ 9000 := by omega
theorem b_j {k k' c : Int} (h : k + (3 + 2 * c) ≤ 9000) (h' : k' ≤ k + 1 + c) : k' + 1 + c ≤ 9000 := by omega
theorem u_a {k k' c : Int} (hc : 2 ≤ c) (h' : k' ≤ k + 1 + 2) : k' ≤ k + (3 + 2 * c) := by omega
theorem u_b {k k' c : Int} (hc : 2 ≤ c) (h' : k' ≤ k + 1 + 1 + c) : k' ≤ k + (3 + 2 * c) := by omega
theorem u_c {k k' c : Int} (hc : 2 ≤ c) (h' : k' ≤ k + 1 + 1 + c) : k' + 1 ≤ k + (3 + 2 * c) := by omega
theorem u_d {k k' k2 c : Int} (h' : k' ≤ k + 1 + 1 + c) (h2 : k2 ≤ k' + c) : k2 + 1 ≤ k + (3 + 2 * c) := by omega
theorem u_e {k k' k2 c : Int} (h' : k' ≤ k + 1 + c) (h2 : k2 ≤ k' + 1 + c) : k2 ≤ k + (3 + 2 * c) := by omega
theorem up_le {k k' : Int} (h : k + 1 ≤ k') : k ≤ k' := Int.le_trans (Int.le_add_of_nonneg_right (by decide)) h
theorem dn {k : Int} : k ≤ k + 1 := Int.le_add_of_nonneg_right (by decide)
theorem ap_at {l : Nat} (h : (l : Int) < 3) : ∃ p : Ap, ([.tup [.str "item", .str "A"], .tup [.str "call", .str "LEFT$"], .tup [.str "fn", .str "FNB"]] : List V)[l]? = some (.tup [.str p.kind, .str p.word]) := by
  rcases i3 h with rfl | rfl | rfl
  · exact ⟨.item, rfl⟩
  · exact ⟨.call, rfl⟩
  · exact ⟨.fn, rfl⟩
inductive UnAt (t : T) (j : Nat) : Prop
  | mk (t' : T) (hw : t'.WF) (hd : t'.depth = t.depth + 1) (x : V) (hx : ([.str "neg", .str "not"] : List V)[j]? = some x) (he : V.tup [x, t.enc] = t'.enc) : UnAt t j
theorem un_at {t : T} {j : Nat} (hw : t.WF) (h : (j : Int) < 2) : UnAt t j := by
  rcases i2 h with rfl | rfl
  · exact ⟨.neg t, hw, rfl, _, rfl, rfl⟩
  · exact ⟨.not t, hw, rfl, _, rfl, rfl⟩
theorem lt3i {i : Nat} (h : i < 3) : (i : Int) < 3 := Int.ofNat_lt.mpr h
theorem ne_i {i m : Nat} (h : ¬ i = m) : ¬ (i : Int) = m := fun q => h (Int.ofNat.inj q)
theorem nlt_i {i m : Nat} (h : ¬ i < m) : ¬ (i : Int) < m := fun q => h (Int.ofNat_lt.mp q)
theorem tree_leaf {cs : List Int} {s : Int} {n i : Nat} {k : Int} {r : M} (B : BoxOk cs s) (h1 : -1 ≤ k) (h2 : k + (3 + 2 * cD n) ≤ 9000) (e : Ev 2 fd__law_draw (bx cs s k r) [.ref 0, .int 9] (.ok (.int (i : Int)) (bx cs s (k + 1) r))) (hi : i < 3) : TreeRes cs s (n + 1) fd__law_tree k r := by
  refine atFd (p := fun fd => TreeRes cs s (n + 1) fd k r) ⟨_, rfl, ?_⟩
  obtain ⟨t, k', hw, hd, a, b, e2⟩ := e_leaf B (up1 h1) (b_a (cD_pos n) h2) r
  refine ⟨t, k', hw, by rw [hd]; exact Nat.zero_le _, up_le a, u_a (cD_pos n) b, ?_⟩
  obtain ⟨N, e⟩ := e
  obtain ⟨N2, e2⟩ := e2
  refine ev_inx (N + N2) 60 (2 * n) 6 fun m d hd => ?_
  refine (enter (by rfl) rfl).trans ?_; dsimp only
  simp -dsimp (disch := first | assumption | exact mi | exact jj rfl | exact ke | exact kc | exact kf | exact kg | exact kh ‹_› rfl | exact mv ‹_› | exact mw ‹_› | exact mx ‹_› | exact my ‹_› | exact mz ‹_› | exact lv ‹_› rfl | exact lw ‹_› rfl | exact lu ‹_› rfl | exact m5 ‹_› rfl | exact m7 rfl | exact mj ‹_› rfl | exact ml ke | exact ml (ml ke) | exact ml (ml kc) | exact ml (ml (ml ke)) | exact ml (ml (ml kc)) | decide +kernel | omega | (intros; contradiction)) [zipArgs, gy, gz, jk, jm, ki, kj, bq, bg, br, b7, b8, bt, bu, jn, km, ko, jo, g5, g6, bh, bv, bi, d7, aa, ag, a5, ah, au, ac, ai, a6, aj, av, ak, aw, ba, ax, a7, ae, al, a8, am, ay, af, ao, a9, aq, az, jp, bj, bw, bk, bn, bc, g7, g8, g9, jq, jr, kr, kt, bz, b4, b9, b5, ce, d9, cw, eb, cy, cz, ku, kx, ky, kz, ec, eg, c6, eh, ej, ek, er, h9, cg, et, ch, eu, ia, ey, jt, ju, c7, ci, cj, cn, ↓k7, ↓k8, ↓k9, ↓lb, ez, c8, fa, ↓lz, lf, jv, ib, lg, lh, lj, ll, lq, ls, c9, da, cq, dg, cr, b6, cu, l6, l7, l8, l9, jw, ic, jx, jy, ie, ig, n_radd', jz, ij, j0, j1, j2, j3, ik, fc, fe, fg, bp, be, dh, j4, cv, im, j5, j6, j7, io, ip, iq, ir, j8, iu, ma, mc, md, me, mm, mn, mr, mf, iv, fh, iw, iy, ↓iz, i0, fi, di, fj, dk, fk, fm, dl, fp, fq, i6, ms, mt, i7, ft, fu, dm, dq, i9, fv, dt, fw, du, ja, dw, fy, fz, jb, f0, f5, dy, dz, jc, f7, d3, f8, d4, jd, d5, f9, gn, mu, j9, gp, gq, as1', as2', as3', appendV, popV, je, mh, gs, gu, jf, d6, gv, jg, jh, ji, gw, gx, tab__law_draw, tab__law_leaf, e, e2, eqV_int, hpos, show (i : Int) < 3 from lt3i hi]
theorem tree_un {cs : List Int} {s : Int} {n i : Nat} {k : Int} {r : M} (B : BoxOk cs s) (h1 : -1 ≤ k) (h2 : k + (3 + 2 * cD n) ≤ 9000) (e : Ev 2 fd__law_draw (bx cs s k r) [.ref 0, .int 9] (.ok (.int (3 : Int)) (bx cs s (k + 1) r))) (ih : TreeAt cs s n fd__law_tree) : TreeRes cs s (n + 1) fd__law_tree k r := by
  refine atFd (p := fun fd => TreeRes cs s (n + 1) fd k r) ⟨_, rfl, ?_⟩
  obtain ⟨j, hj, e2⟩ := e_drawn B (k := k + 1) (up1 h1) (Int.le_trans (b_a (cD_pos n) h2) (by decide)) (m := 2) (by decide) r
  cases ih (k + 1 + 1) (up1 (up1 h1)) (b_d (cD_pos n) h2) r with | mk t k' hw hd a b e3 =>
  cases un_at hw hj with | mk t' hw' hd' x hx he =>
  refine ⟨t', k', hw', by rw [hd']; exact Nat.succ_le_succ hd, up_le (up_le a), u_b (cD_pos n) b, ?_⟩
  obtain ⟨N, e⟩ := e
  obtain ⟨N2, e2⟩ := e2
  obtain ⟨N3, e3⟩ := e3
  rw [← he]
  refine ev_inx (N + N2 + N3) 60 (2 * n) 6 fun m d hd => ?_
  refine (enter (by rfl) rfl).trans ?_; dsimp only
  simp -dsimp (disch := first | assumption | exact mi | exact jj rfl | exact ke | exact kc | exact kf | exact kg | exact kh ‹_› rfl | exact mv ‹_› | exact mw ‹_› | exact mx ‹_› | exact my ‹_› | exact mz ‹_› | exact lv ‹_› rfl | exact lw ‹_› rfl | exact lu ‹_› rfl | exact m5 ‹_› rfl | exact m7 rfl | exact mj ‹_› rfl | exact ml ke | exact ml (ml ke) | exact ml (ml kc) | exact ml (ml (ml ke)) | exact ml (ml (ml kc)) | decide +kernel | omega | (intros; contradiction)) [zipArgs, gy, gz, jk, jm, ki, kj, bq, bg, br, b7, b8, bt, bu, jn, km, ko, jo, g5, g6, bh, bv, bi, d7, aa, ag, a5, ah, au, ac, ai, a6, aj, av, ak, aw, ba, ax, a7, ae, al, a8, am, ay, af, ao, a9, aq, az, jp, bj, bw, bk, bn, bc, g7, g8, g9, jq, jr, kr, kt, bz, b4, b9, b5, ce, d9, cw, eb, cy, cz, ku, kx, ky, kz, ec, eg, c6, eh, ej, ek, er, h9, cg, et, ch, eu, ia, ey, jt, ju, c7, ci, cj, cn, ↓k7, ↓k8, ↓k9, ↓lb, ez, c8, fa, ↓lz, lf, jv, ib, lg, lh, lj, ll, lq, ls, c9, da, cq, dg, cr, b6, cu, l6, l7, l8, l9, jw, ic, jx, jy, ie, ig, n_radd', jz, ij, j0, j1, j2, j3, ik, fc, fe, fg, bp, be, dh, j4, cv, im, j5, j6, j7, io, ip, iq, ir, j8, iu, ma, mc, md, me, mm, mn, mr, mf, iv, fh, iw, iy, ↓iz, i0, fi, di, fj, dk, fk, fm, dl, fp, fq, i6, ms, mt, i7, ft, fu, dm, dq, i9, fv, dt, fw, du, ja, dw, fy, fz, jb, f0, f5, dy, dz, jc, f7, d3, f8, d4, jd, d5, f9, gn, mu, j9, gp, gq, as1', as2', as3', appendV, popV, je, mh, gs, gu, jf, d6, gv, jg, jh, ji, gw, gx, tab__law_draw, tab__law_tree, e, e2, e3, eqV_int, hpos, hn1, ls_idx, hx]
theorem tree_app1 {cs : List Int} {s : Int} {n i : Nat} {k : Int} {r : M} (B : BoxOk cs s) (h1 : -1 ≤ k) (h2 : k + (3 + 2 * cD n) ≤ 9000) (e : Ev 2 fd__law_draw (bx cs s k r) [.ref 0, .int 9] (.ok (.int (4 : Int)) (bx cs s (k + 1) r))) (e2 : Ev 2 fd__law_draw (bx cs s (k + 1) r) [.ref 0, .int 2] (.ok (.int (0 : Int)) (bx cs s (k + 1 + 1) r))) (ih : TreeAt cs s n fd__law_tree) : TreeRes cs s (n + 1) fd__law_tree k r := by
  refine atFd (p := fun fd => TreeRes cs s (n + 1) fd k r) ⟨_, rfl, ?_⟩
  cases ih (k + 1 + 1) (up1 (up1 h1)) (b_d (cD_pos n) h2) r with | mk t k' hw hd a b e3 =>
  obtain ⟨l, hl, e4⟩ := e_drawn B (k := k') (Int.le_trans (up1 (up1 h1)) a) (Int.le_trans (Int.le_trans dn (b_e (cD_pos n) h2 b)) (by decide)) (m := 3) (by decide) r
  obtain ⟨p, hx⟩ := ap_at hl
  refine ⟨.app1 p t, k' + 1, hw, Nat.succ_le_succ hd, Int.le_trans (up_le (up_le a)) dn, u_c (cD_pos n) b, ?_⟩
  obtain ⟨N, e⟩ := e
  obtain ⟨N2, e2⟩ := e2
  obtain ⟨N3, e3⟩ := e3
  obtain ⟨N4, e4⟩ := e4
  refine ev_inx (N + N2 + N3 + N4) 60 (2 * n) 6 fun m d hd => ?_
  refine (enter (by rfl) rfl).trans ?_; dsimp only
  simp -dsimp (disch := first | assumption | exact mi | exact jj rfl | exact ke | exact kc | exact kf | exact kg | exact kh ‹_› rfl | exact mv ‹_› | exact mw ‹_› | exact mx ‹_› | exact my ‹_› | exact mz ‹_› | exact lv ‹_› rfl | exact lw ‹_› rfl | exact lu ‹_› rfl | exact m5 ‹_› rfl | exact m7 rfl | exact mj ‹_› rfl | exact ml ke | exact ml (ml ke) | exact ml (ml kc) | exact ml (ml (ml ke)) | exact ml (ml (ml kc)) | decide +kernel | omega | (intros; contradiction)) [zipArgs, gy, gz, jk, jm, ki, kj, bq, bg, br, b7, b8, bt, bu, jn, km, ko, jo, g5, g6, bh, bv, bi, d7, aa, ag, a5, ah, au, ac, ai, a6, aj, av, ak, aw, ba, ax, a7, ae, al, a8, am, ay, af, ao, a9, aq, az, jp, bj, bw, bk, bn, bc, g7, g8, g9, jq, jr, kr, kt, bz, b4, b9, b5, ce, d9, cw, eb, cy, cz, ku, kx, ky, kz, ec, eg, c6, eh, ej, ek, er, h9, cg, et, ch, eu, ia, ey, jt, ju, c7, ci, cj, cn, ↓k7, ↓k8, ↓k9, ↓lb, ez, c8, fa, ↓lz, lf, jv, ib, lg, lh, lj, ll, lq, ls, c9, da, cq, dg, cr, b6, cu, l6, l7, l8, l9, jw, ic, jx, jy, ie, ig, n_radd', jz, ij, j0, j1, j2, j3, ik, fc, fe, fg, bp, be, dh, j4, cv, im, j5, j6, j7, io, ip, iq, ir, j8, iu, ma, mc, md, me, mm, mn, mr, mf, iv, fh, iw, iy, ↓iz, i0, fi, di, fj, dk, fk, fm, dl, fp, fq, i6, ms, mt, i7, ft, fu, dm, dq, i9, fv, dt, fw, du, ja, dw, fy, fz, jb, f0, f5, dy, dz, jc, f7, d3, f8, d4, jd, d5, f9, gn, mu, j9, gp, gq, as1', as2', as3', appendV, popV, je, mh, gs, gu, jf, d6, gv, jg, jh, ji, gw, gx, tab__law_draw, tab__law_tree, e, e2, e3, e4, eqV_int, hpos, hn1, ls_idx, hx, tab_range, rg_0, rg_1, en_neg, en_not, en_app1, en_app2, en_two, tadd21]
theorem tree_app2 {cs : List Int} {s : Int} {n i : Nat} {k : Int} {r : M} (B : BoxOk cs s) (h1 : -1 ≤ k) (h2 : k + (3 + 2 * cD n) ≤ 9000) (e : Ev 2 fd__law_draw (bx cs s k r) [.ref 0, .int 9] (.ok (.int (4 : Int)) (bx cs s (k + 1) r))) (e2 : Ev 2 fd__law_draw (bx cs s (k + 1) r) [.ref 0, .int 2] (.ok (.int (1 : Int)) (bx cs s (k + 1 + 1) r))) (ih : TreeAt cs s n fd__law_tree) : TreeRes cs s (n + 1) fd__law_tree k r := by
  refine atFd (p := fun fd => TreeRes cs s (n + 1) fd k r) ⟨_, rfl, ?_⟩
  cases ih (k + 1 + 1) (up1 (up1 h1)) (b_d (cD_pos n) h2) r with | mk t k1 hw hd a b e3 =>
  cases ih k1 (Int.le_trans (up1 (up1 h1)) a) (b_f h2 b (cD_pos n)) r with | mk t2 k' hw2 hd2 a2 b2 e5 =>
  obtain ⟨l, hl, e4⟩ := e_drawn B (k := k') (Int.le_trans (Int.le_trans (up1 (up1 h1)) a) a2) (Int.le_trans (Int.le_trans dn (b_g h2 b b2)) (by decide)) (m := 3) (by decide) r
  obtain ⟨p, hx⟩ := ap_at hl
  refine ⟨.app2 p t t2, k' + 1, ⟨hw, hw2⟩, Nat.succ_le_succ (Nat.max_le.mpr ⟨hd, hd2⟩), Int.le_trans (Int.le_trans (up_le (up_le a)) a2) dn, u_d b b2, ?_⟩
  obtain ⟨N, e⟩ := e
  obtain ⟨N2, e2⟩ := e2
  obtain ⟨N3, e3⟩ := e3
  obtain ⟨N4, e4⟩ := e4
  obtain ⟨N5, e5⟩ := e5
  refine ev_inx (N + N2 + N3 + N4 + N5) 60 (2 * n) 6 fun m d hd => ?_
  refine (enter (by rfl) rfl).trans ?_; dsimp only
  simp -dsimp (disch := first | assumption | exact mi | exact jj rfl | exact ke | exact kc | exact kf | exact kg | exact kh ‹_› rfl | exact mv ‹_› | exact mw ‹_› | exact mx ‹_› | exact my ‹_› | exact mz ‹_› | exact lv ‹_› rfl | exact lw ‹_› rfl | exact lu ‹_› rfl | exact m5 ‹_› rfl | exact m7 rfl | exact mj ‹_› rfl | exact ml ke | exact ml (ml ke) | exact ml (ml kc) | exact ml (ml (ml ke)) | exact ml (ml (ml kc)) | decide +kernel | omega | (intros; contradiction)) [zipArgs, gy, gz, jk, jm, ki, kj, bq, bg, br, b7, b8, bt, bu, jn, km, ko, jo, g5, g6, bh, bv, bi, d7, aa, ag, a5, ah, au, ac, ai, a6, aj, av, ak, aw, ba, ax, a7, ae, al, a8, am, ay, af, ao, a9, aq, az, jp, bj, bw, bk, bn, bc, g7, g8, g9, jq, jr, kr, kt, bz, b4, b9, b5, ce, d9, cw, eb, cy, cz, ku, kx, ky, kz, ec, eg, c6, eh, ej, ek, er, h9, cg, et, ch, eu, ia, ey, jt, ju, c7, ci, cj, cn, ↓k7, ↓k8, ↓k9, ↓lb, ez, c8, fa, ↓lz, lf, jv, ib, lg, lh, lj, ll, lq, ls, c9, da, cq, dg, cr, b6, cu, l6, l7, l8, l9, jw, ic, jx, jy, ie, ig, n_radd', jz, ij, j0, j1, j2, j3, ik, fc, fe, fg, bp, be, dh, j4, cv, im, j5, j6, j7, io, ip, iq, ir, j8, iu, ma, mc, md, me, mm, mn, mr, mf, iv, fh, iw, iy, ↓iz, i0, fi, di, fj, dk, fk, fm, dl, fp, fq, i6, ms, mt, i7, ft, fu, dm, dq, i9, fv, dt, fw, du, ja, dw, fy, fz, jb, f0, f5, dy, dz, jc, f7, d3, f8, d4, jd, d5, f9, gn, mu, j9, gp, gq, as1', as2', as3', appendV, popV, je, mh, gs, gu, jf, d6, gv, jg, jh, ji, gw, gx, tab__law_draw, tab__law_tree, e, e2, e3, e4, e5, eqV_int, hpos, hn1, ls_idx, hx, tab_range, rg_0, rg_1, en_neg, en_not, en_app1, en_app2, en_two, tadd21]
theorem wl_at {j : Nat} (hj : (j : Int) < 16) : ∃ w : String, wl[j]? = some (.str w) ∧ w ∈ ops16.map (·.1) := by
  have hj' : j < ops16.length := Int.ofNat_lt.mp hj
  exact ⟨ops16[j].1, by simp [wl, hj'], List.mem_map_of_mem (List.getElem_mem hj')⟩
theorem tree_two {cs : List Int} {s : Int} {n i : Nat} {k : Int} {r : M} (B : BoxOk cs s) (h1 : -1 ≤ k) (h2 : k + (3 + 2 * cD n) ≤ 9000) (e : Ev 2 fd__law_draw (bx cs s k r) [.ref 0, .int 9] (.ok (.int (i : Int)) (bx cs s (k + 1) r))) (h3 : ¬ i < 3) (h4 : ¬ i = 3) (h5 : ¬ i = 4) (ih : TreeAt cs s n fd__law_tree) : TreeRes cs s (n + 1) fd__law_tree k r := by
  refine atFd (p := fun fd => TreeRes cs s (n + 1) fd k r) ⟨_, rfl, ?_⟩
  cases ih (k + 1) (up1 h1) (b_h h2 (cD_pos n)) r with | mk t k1 hw hd a b e2 =>
  obtain ⟨j, hj, e3⟩ := e_drawn B (k := k1) (Int.le_trans (up1 h1) a) (Int.le_trans (Int.le_trans dn (b_i (cD_pos n) h2 b)) (by decide)) (m := 16) (by decide) r
  cases ih (k1 + 1) (up1 (Int.le_trans (up1 h1) a)) (b_j h2 b) r with | mk t2 k' hw2 hd2 a2 b2 e4 =>
  have ew := e_words (bx cs s k1 r)
  obtain ⟨w, hx, hm⟩ := wl_at hj
  refine ⟨.two w t t2, k', ⟨hm, hw, hw2⟩, Nat.succ_le_succ (Nat.max_le.mpr ⟨hd, hd2⟩), Int.le_trans (up_le a) (up_le a2), u_e b b2, ?_⟩
  obtain ⟨N, e⟩ := e
  obtain ⟨N2, e2⟩ := e2
  obtain ⟨N3, e3⟩ := e3
  obtain ⟨N4, e4⟩ := e4
  obtain ⟨N5, ew⟩ := ew
  refine ev_inx (N + N2 + N3 + N4 + N5) 60 (2 * n) 6 fun m d hd => ?_
  refine (enter (by rfl) rfl).trans ?_; dsimp only
  simp -dsimp (disch := first | assumption | exact mi | exact jj rfl | exact ke | exact kc | exact kf | exact kg | exact kh ‹_› rfl | exact mv ‹_› | exact mw ‹_› | exact mx ‹_› | exact my ‹_› | exact mz ‹_› | exact lv ‹_› rfl | exact lw ‹_› rfl | exact lu ‹_› rfl | exact m5 ‹_› rfl | exact m7 rfl | exact mj ‹_› rfl | exact ml ke | exact ml (ml ke) | exact ml (ml kc) | exact ml (ml (ml ke)) | exact ml (ml (ml kc)) | decide +kernel | omega | (intros; contradiction)) [zipArgs, gy, gz, jk, jm, ki, kj, bq, bg, br, b7, b8, bt, bu, jn, km, ko, jo, g5, g6, bh, bv, bi, d7, aa, ag, a5, ah, au, ac, ai, a6, aj, av, ak, aw, ba, ax, a7, ae, al, a8, am, ay, af, ao, a9, aq, az, jp, bj, bw, bk, bn, bc, g7, g8, g9, jq, jr, kr, kt, bz, b4, b9, b5, ce, d9, cw, eb, cy, cz, ku, kx, ky, kz, ec, eg, c6, eh, ej, ek, er, h9, cg, et, ch, eu, ia, ey, jt, ju, c7, ci, cj, cn, ↓k7, ↓k8, ↓k9, ↓lb, ez, c8, fa, ↓lz, lf, jv, ib, lg, lh, lj, ll, lq, ls, c9, da, cq, dg, cr, b6, cu, l6, l7, l8, l9, jw, ic, jx, jy, ie, ig, n_radd', jz, ij, j0, j1, j2, j3, ik, fc, fe, fg, bp, be, dh, j4, cv, im, j5, j6, j7, io, ip, iq, ir, j8, iu, ma, mc, md, me, mm, mn, mr, mf, iv, fh, iw, iy, ↓iz, i0, fi, di, fj, dk, fk, fm, dl, fp, fq, i6, ms, mt, i7, ft, fu, dm, dq, i9, fv, dt, fw, du, ja, dw, fy, fz, jb, f0, f5, dy, dz, jc, f7, d3, f8, d4, jd, d5, f9, gn, mu, j9, gp, gq, as1', as2', as3', appendV, popV, je, mh, gs, gu, jf, d6, gv, jg, jh, ji, gw, gx, tab__law_draw, tab__law_tree, tab__law_words, e, e2, e3, e4, ew, eqV_int, hpos, hn1, ls_idx, hx, en_neg, en_not, en_app1, en_app2, en_two, show ¬ (i : Int) < 3 from nlt_i h3, show ¬ (i : Int) = 3 from ne_i h4, show ¬ (i : Int) = 4 from ne_i h5]
theorem tree_succ {cs : List Int} {s : Int} (B : BoxOk cs s) (n : Nat) (ih : TreeAt cs s n fd__law_tree) : TreeAt cs s (n + 1) fd__law_tree := by
  intro k h1 h2 r
  obtain ⟨i, hi, e⟩ := e_drawn B h1 (Int.le_trans (Int.le_trans dn (b_a (cD_pos n) h2)) (by decide)) (m := 9) (by decide) r
  by_cases q3 : i < 3
  · exact tree_leaf B h1 h2 e q3
  by_cases q4 : i = 3
  · subst q4; exact tree_un (i := 0) B h1 h2 e ih
  by_cases q5 : i = 4
  · subst q5
    obtain ⟨j, hj, e2⟩ := e_drawn B (k := k + 1) (up1 h1) (Int.le_trans (b_a (cD_pos n) h2) (by decide)) (m := 2) (by decide) r
    rcases i2 hj with rfl | rfl
    · exact tree_app1 (i := 0) B h1 h2 e e2 ih
    · exact tree_app2 (i := 0) B h1 h2 e e2 ih
  · exact tree_two B h1 h2 e q3 q4 q5 ih
theorem e_tree {cs : List Int} {s : Int} (B : BoxOk cs s) (n : Nat) : TreeAt cs s n fd__law_tree := by
  induction n with
  | zero => exact tree_zero B
  | succ n ih => exact tree_succ B n ih
end Mine
namespace Mine
inductive Dat (k : Nat) (v : V) : Prop
  | mk (d : PyData) (a : v.toPy = some d) (b : d.canLay0 = true) (c : d.depth ≤ k)
inductive Dats (k : Nat) (l : List V) : Prop
  | mk (ds : List PyData) (a : V.toPys l = some ds) (b : PyData.canLayAll0 ds = true) (c : PyData.depthAll ds ≤ k)
theorem Dats.nil {k : Nat} : Dats k [] := ⟨[], rfl, rfl, Nat.zero_le _⟩
theorem py_cons {v : V} {l : List V} {d : PyData} {ds : List PyData} (a : v.toPy = some d) (a' : V.toPys l = some ds) : V.toPys (v :: l) = some (d :: ds) := by
  show (v.toPy.bind fun d => (V.toPys l).map (d :: ·)) = _
  rw [a, a']; rfl
theorem Dats.cons {k : Nat} {v : V} {l : List V} (h : Dat k v) (r : Dats k l) : Dats k (v :: l) := by
  cases h with
  | mk d a b c =>
    cases r with
    | mk ds a' b' c' => exact ⟨d :: ds, py_cons a a', and_t b b', Nat.max_le.mpr ⟨c, c'⟩⟩
theorem Dats.tup {k : Nat} {l : List V} (h : Dats k l) : Dat (k + 1) (.tup l) := by
  cases h with
  | mk ds a b c => exact ⟨.tuple ds, congrArg (Option.map PyData.tuple) a, b, Nat.succ_le_succ c⟩
theorem Dats.lst {k : Nat} {l : List V} (h : Dats k l) : Dat (k + 1) (.lst l) := by
  cases h with
  | mk ds a b c => exact ⟨.list ds, congrArg (Option.map PyData.list) a, b, Nat.succ_le_succ c⟩
theorem Dat.str {k : Nat} {x : Str} (h : sok x) : Dat k (.str x) := ⟨.str x, rfl, h, Nat.zero_le _⟩
theorem Dat.int {k : Nat} {i : Int} : Dat k (.int i) := ⟨.int i, rfl, rfl, Nat.zero_le _⟩
theorem Dat.mono {j k : Nat} {v : V} (h : Dat j v) (hk : j ≤ k) : Dat k v := by
  cases h with
  | mk d a b c => exact ⟨d, a, b, Nat.le_trans c hk⟩
theorem Dat.refl {k : Nat} {v : V} (h : Dat k v) (hk : k ≤ 60) : eqV v v = some true := by
  cases h with
  | mk d a b c => exact eqV_of a a b b (Nat.le_trans (Nat.min_le_left _ _) (Nat.le_trans c hk)) (SeqAt.eqv_refl d b)
theorem Dat.ne_nil {k : Nat} {v : V} {l : List V} (h : Dat k v) (r : Dats k l) : eqV (.lst (v :: l)) (.lst []) = some false := by
  cases h with
  | mk d a b c =>
    cases r with
    | mk ds a' b' c' => exact eqV_of (d := .list (d :: ds)) (e := .list []) (congrArg (Option.map PyData.list) (py_cons a a')) rfl (and_t b b') rfl (Nat.le_trans (Nat.min_le_right _ _) (show 1 ≤ 60 by decide)) rfl
theorem Dats.tup_str {k : Nat} {l : List V} {x : Str} (h : Dats k l) (hx : sok x) : eqV (.tup l) (.str x) = some false := by
  cases h with
  | mk ds a b c => exact eqV_of (d := .tuple ds) (e := .str x) (congrArg (Option.map PyData.tuple) a) rfl b hx (Nat.le_trans (Nat.min_le_right _ _) (show 0 ≤ 60 by decide)) rfl
theorem and_tt {a b : Bool} (h : (a && b) = true) : a = true ∧ b = true := (Bool.and_eq_true a b).mp h
noncomputable def datB (k : Nat) (v : V) : Bool := match v.toPy with
  | some d => d.canLay0 && Nat.ble d.depth k
  | none => false
theorem dat_of {k : Nat} {v : V} (h : datB k v = true) : Dat k v := by
  unfold datB at h
  cases e : v.toPy with
  | none => rw [e] at h; cases h
  | some d => rw [e] at h; exact ⟨d, e, (and_tt h).1, Nat.le_of_ble_eq_true (and_tt h).2⟩
theorem nums_dat : ∀ p ∈ nums, Dat 2 p.2 := fun p hp => dat_of ((by decide +kernel : ∀ p ∈ nums, datB 2 p.2 = true) p hp)
theorem Ap.kind_ok (k : Ap) : sok k.kind ∧ sok k.word := by cases k <;> exact ⟨by decide +kernel, by decide +kernel⟩
theorem names1 : ∀ x ∈ (["A", "B%", "C$", "LONG"] : List String), sok (x : Str) := by decide +kernel
theorem names2 : ∀ x ∈ (["", "x y"] : List String), sok (x : Str) := by decide +kernel
theorem dp1 {n : Nat} : 3 * n + 2 + 1 ≤ 3 * (n + 1) + 2 := Nat.le_add_right (3 * n + 3) 2
theorem dp2 {n : Nat} : 3 * n + 2 + 1 + 1 ≤ 3 * (n + 1) + 2 := Nat.le_succ (3 * n + 4)
theorem dpl {a b : Nat} : 3 * a + 2 ≤ 3 * max a b + 2 := Nat.add_le_add_right (Nat.mul_le_mul_left 3 (Nat.le_max_left a b)) 2
theorem dpr {a b : Nat} : 3 * b + 2 ≤ 3 * max a b + 2 := Nat.add_le_add_right (Nat.mul_le_mul_left 3 (Nat.le_max_right a b)) 2
theorem dp0 {n : Nat} : 2 ≤ n + 2 := Nat.le_add_left 2 n
theorem one_dat {x : Str} {v : V} {n : Nat} (hx : sok x) (h : Dat (3 * n + 2) v) : Dat (3 * (n + 1) + 2) (.tup [.str x, v]) := (Dats.cons (.str hx) (.cons h .nil)).tup.mono dp1
theorem leaf_dat {x : Str} {v : V} {n : Nat} (hx : sok x) (h : Dat 1 v) : Dat (3 * n + 2) (.tup [.str x, v]) := (Dats.cons (.str hx) (.cons h .nil)).tup.mono dp0
theorem ap_dat {x y : Str} {l : List V} {n : Nat} (hx : sok x) (hy : sok y) (h : Dats (3 * n + 2) l) : Dat (3 * (n + 1) + 2) (.tup [.str x, .str y, .lst l]) := (Dats.cons (.str hx) (.cons (.str hy) (.cons h.lst .nil))).tup.mono dp2
theorem cl_dat {x y : Str} {n : Nat} (hx : sok x) (hy : sok y) : Dat (3 * n + 2) (.tup [.str x, .str y, .lst []]) := (Dats.cons (.str hx) (.cons (.str hy) (.cons (Dats.nil (k := 0)).lst .nil))).tup.mono dp0
theorem bi_dat {x y : Str} {a b : Nat} {v w : V} (hx : sok x) (hy : sok y) (h : Dat (3 * a + 2) v) (h' : Dat (3 * b + 2) w) : Dat (3 * (max a b + 1) + 2) (.tup [.str x, .str y, v, w]) := (Dats.cons (.str hx) (.cons (.str hy) (.cons (h.mono dpl) (.cons (h'.mono dpr) .nil)))).tup.mono dp1
theorem ap2_dat {a b : Nat} {v w : V} (h : Dat (3 * a + 2) v) (h' : Dat (3 * b + 2) w) : Dats (3 * max a b + 2) [v, w] := .cons (h.mono dpl) (.cons (h'.mono dpr) .nil)
theorem s_name : sok "name" := by decide +kernel
theorem s_text : sok "text" := by decide +kernel
theorem s_neg : sok "neg" := by decide +kernel
theorem s_not : sok "not" := by decide +kernel
theorem s_two : sok "two" := by decide +kernel
theorem s_call : sok "call" := by decide +kernel
theorem s_fn : sok "fn" := by decide +kernel
theorem T.enc_dat {t : T} (h : t.WF) : Dat (3 * t.depth + 2) t.enc := by
  induction t with
  | num i => exact leaf_dat (n := 0) (by decide +kernel) .int
  | name x => exact leaf_dat (n := 0) s_name (.str (names1 x h))
  | text x => exact leaf_dat (n := 0) s_text (.str (names2 x h))
  | rnd => exact cl_dat (n := 0) s_call (by decide +kernel)
  | fna => exact cl_dat (n := 0) s_fn (by decide +kernel)
  | neg t ih => exact one_dat s_neg (ih h)
  | not t ih => exact one_dat s_not (ih h)
  | app1 k a ih => exact ap_dat k.kind_ok.1 k.kind_ok.2 (.cons (ih h) .nil)
  | app2 k a b ih ih2 => exact ap_dat k.kind_ok.1 k.kind_ok.2 (ap2_dat (ih h.1) (ih2 h.2))
  | two w l r ih ih2 => exact bi_dat s_two (ops_ok h.1).2.2.1 (ih h.2.1) (ih2 h.2.2)
theorem T.due_dat {t : T} (h : t.WF) : Dat (3 * t.depth + 2) t.due := by
  induction t with
  | num i =>
    have hk : i < nums.length := h
    have e : numV i = nums[i].2 := by simp [numV, hk]
    show Dat 2 (numV i)
    rw [e]
    exact nums_dat _ (List.getElem_mem hk)
  | name x => exact T.enc_dat (t := .name x) h
  | text x => exact T.enc_dat (t := .text x) h
  | rnd => exact T.enc_dat (t := .rnd) h
  | fna => exact T.enc_dat (t := .fna) h
  | neg t ih => exact one_dat s_neg (ih h)
  | not t ih => exact one_dat s_not (ih h)
  | app1 k a ih => exact ap_dat k.kind_ok.1 k.kind_ok.2 (.cons (ih h) .nil)
  | app2 k a b ih ih2 => exact ap_dat k.kind_ok.1 k.kind_ok.2 (ap2_dat (ih h.1) (ih2 h.2))
  | two w l r ih ih2 => exact bi_dat s_two (ops_ok h.1).2.2.1 (ih h.2.1) (ih2 h.2.2)
end Mine
namespace Mine
theorem tab__law_numbers : tab "_law_numbers" = some fd_law_numbers := tab_fd _
theorem tab__law_levels : tab "_law_levels" = some fd_law_levels := tab_fd _
noncomputable def nl : List V := nums.map fun p => .tup [.str p.1, p.2]
theorem nl_at {i : Nat} (h : i < 10) : nl[i]? = some (.tup [.str (numT i), numV i]) := by
  have hi : i < nums.length := h
  simp [nl, numT, numV, hi]
noncomputable abbrev in3 (x : String) : Option Bool := inL (.str x) [.str "item", .str "call", .str "fn"]
noncomputable abbrev in2 (x : String) : Option Bool := inL (.str x) [.str "neg", .str "not"]
theorem in3_call : in3 "call" = some true := by kernel_rfl
theorem in3_fn : in3 "fn" = some true := by kernel_rfl
theorem in3_name : in3 "name" = some false := by kernel_rfl
theorem in3_text : in3 "text" = some false := by kernel_rfl
theorem in3_neg : in3 "neg" = some false := by kernel_rfl
theorem in3_not : in3 "not" = some false := by kernel_rfl
theorem in3_two : in3 "two" = some false := by kernel_rfl
theorem in2_name : in2 "name" = some false := by kernel_rfl
theorem in2_text : in2 "text" = some false := by kernel_rfl
theorem in2_neg : in2 "neg" = some true := by kernel_rfl
theorem in2_not : in2 "not" = some true := by kernel_rfl
theorem is__law_due : (tab "_law_due").isSome = true := by rfl
noncomputable abbrev fd__law_due := fdOf "_law_due" is__law_due
theorem tab__law_due : tab "_law_due" = some fd__law_due := tab_fd _
noncomputable abbrev DueV (n : Nat) (v w : V) (fd : DefRec) : Prop := ∀ (μ : M) (k : Nat), n ≤ k → Ev (2 * k + 3) fd μ [v] (.ok w μ)
noncomputable abbrev DueAt (t : T) (fd : DefRec) : Prop := DueV t.depth t.enc t.due fd
theorem e_due_num {i : Nat} (hi : i < 10) : DueV 0 (.tup [.str "number", .int i]) (numV i) fd__law_due := by
  refine atFd (p := DueV 0 (.tup [.str "number", .int i]) (numV i)) ⟨_, rfl, ?_⟩
  intro μ k _
  obtain ⟨N, e⟩ := e_law_numbers μ
  have hx := (ls_idx (μ := μ) (lu hi rfl)).trans (nl_at hi)
  refine ev_inx N 60 (2 * k) 3 fun m d hd => ?_
  rw [show (nums.map fun p => V.tup [.str p.1, p.2]) = nl from rfl] at e
  refine (enter (by rfl) rfl).trans ?_; dsimp only
  simp -dsimp (disch := first | assumption | exact mi | exact jj rfl | exact ke | exact kc | exact kf | exact kg | exact kh ‹_› rfl | exact mv ‹_› | exact mw ‹_› | exact mx ‹_› | exact my ‹_› | exact mz ‹_› | exact lv ‹_› rfl | exact lw ‹_› rfl | exact lu ‹_› rfl | exact m5 ‹_› rfl | exact m7 rfl | exact mj ‹_› rfl | exact ml ke | exact ml (ml ke) | exact ml (ml kc) | exact ml (ml (ml ke)) | exact ml (ml (ml kc)) | decide +kernel | omega | (intros; contradiction)) [zipArgs, gy, gz, jk, jm, ki, kj, bq, bg, br, b7, b8, bt, bu, jn, km, ko, jo, g5, g6, bh, bv, bi, d7, aa, ag, a5, ah, au, ac, ai, a6, aj, av, ak, aw, ba, ax, a7, ae, al, a8, am, ay, af, ao, a9, aq, az, jp, bj, bw, bk, bn, bc, g7, g8, g9, jq, jr, kr, kt, bz, b4, b9, b5, ce, d9, cw, eb, cy, cz, ku, kx, ky, kz, ec, eg, c6, eh, ej, ek, er, h9, cg, et, ch, eu, ia, ey, jt, ju, c7, ci, cj, cn, ↓k7, ↓k8, ↓k9, ↓lb, ez, c8, fa, ↓lz, lf, jv, ib, lg, lh, lj, ll, lq, ls, c9, da, cq, dg, cr, b6, cu, l6, l7, l8, l9, jw, ic, jx, jy, ie, ig, n_radd', jz, ij, j0, j1, j2, j3, ik, fc, fe, fg, bp, be, dh, j4, cv, im, j5, j6, j7, io, ip, iq, ir, j8, iu, ma, mc, md, me, mm, mn, mr, mf, iv, fh, iw, iy, ↓iz, i0, fi, di, fj, dk, fk, fm, dl, fp, fq, i6, ms, mt, i7, ft, fu, dm, dq, i9, fv, dt, fw, du, ja, dw, fy, fz, jb, f0, f5, dy, dz, jc, f7, d3, f8, d4, jd, d5, f9, gn, mu, j9, gp, gq, as1', as2', as3', appendV, popV, je, mh, gs, gu, jf, d6, gv, jg, jh, ji, gw, gx, tab__law_numbers, e, hx, eqV_str]
structure KL (x : Str) (b2 : Bool) : Prop where
  s : sok x
  n : x ≠ "number"
  t : x ≠ "two"
  i3 : inL (.str x) [.str "item", .str "call", .str "fn"] = some false
  i2 : inL (.str x) [.str "neg", .str "not"] = some b2
theorem e_due_leaf {x y : Str} (h : KL x false) : DueV 0 (.tup [.str x, .str y]) (.tup [.str x, .str y]) fd__law_due := by
  refine atFd (p := DueV 0 (.tup [.str x, .str y]) (.tup [.str x, .str y])) ⟨_, rfl, ?_⟩
  intro μ k _
  obtain ⟨hs, h1, h2, h3, h4⟩ := h
  refine ev_inx 0 60 (2 * k) 3 fun m d hd => ?_
  refine (enter (by rfl) rfl).trans ?_; dsimp only
  simp -dsimp (disch := first | assumption | exact mi | exact jj rfl | exact ke | exact kc | exact kf | exact kg | exact kh ‹_› rfl | exact mv ‹_› | exact mw ‹_› | exact mx ‹_› | exact my ‹_› | exact mz ‹_› | exact lv ‹_› rfl | exact lw ‹_› rfl | exact lu ‹_› rfl | exact m5 ‹_› rfl | exact m7 rfl | exact mj ‹_› rfl | exact ml ke | exact ml (ml ke) | exact ml (ml kc) | exact ml (ml (ml ke)) | exact ml (ml (ml kc)) | decide +kernel | omega | (intros; contradiction)) [zipArgs, gy, gz, jk, jm, ki, kj, bq, bg, br, b7, b8, bt, bu, jn, km, ko, jo, g5, g6, bh, bv, bi, d7, aa, ag, a5, ah, au, ac, ai, a6, aj, av, ak, aw, ba, ax, a7, ae, al, a8, am, ay, af, ao, a9, aq, az, jp, bj, bw, bk, bn, bc, g7, g8, g9, jq, jr, kr, kt, bz, b4, b9, b5, ce, d9, cw, eb, cy, cz, ku, kx, ky, kz, ec, eg, c6, eh, ej, ek, er, h9, cg, et, ch, eu, ia, ey, jt, ju, c7, ci, cj, cn, ↓k7, ↓k8, ↓k9, ↓lb, ez, c8, fa, ↓lz, lf, jv, ib, lg, lh, lj, ll, lq, ls, c9, da, cq, dg, cr, b6, cu, l6, l7, l8, l9, jw, ic, jx, jy, ie, ig, n_radd', jz, ij, j0, j1, j2, j3, ik, fc, fe, fg, bp, be, dh, j4, cv, im, j5, j6, j7, io, ip, iq, ir, j8, iu, ma, mc, md, me, mm, mn, mr, mf, iv, fh, iw, iy, ↓iz, i0, fi, di, fj, dk, fk, fm, dl, fp, fq, i6, ms, mt, i7, ft, fu, dm, dq, i9, fv, dt, fw, du, ja, dw, fy, fz, jb, f0, f5, dy, dz, jc, f7, d3, f8, d4, jd, d5, f9, gn, mu, j9, gp, gq, as1', as2', as3', appendV, popV, je, mh, gs, gu, jf, d6, gv, jg, jh, ji, gw, gx, h3, h4, h1, h2, eqV_str]
theorem e_due_cl {x y : Str} (hs : sok x) (h1 : x ≠ "number") (h3 : inL (.str x) [.str "item", .str "call", .str "fn"] = some true) : DueV 0 (.tup [.str x, .str y, .lst []]) (.tup [.str x, .str y, .lst []]) fd__law_due := by
  refine atFd (p := DueV 0 (.tup [.str x, .str y, .lst []]) (.tup [.str x, .str y, .lst []])) ⟨_, rfl, ?_⟩
  intro μ k _
  refine ev_inx 0 60 (2 * k) 3 fun m d hd => ?_
  refine (enter (by rfl) rfl).trans ?_; dsimp only
  simp -dsimp (disch := first | assumption | exact mi | exact jj rfl | exact ke | exact kc | exact kf | exact kg | exact kh ‹_› rfl | exact mv ‹_› | exact mw ‹_› | exact mx ‹_› | exact my ‹_› | exact mz ‹_› | exact lv ‹_› rfl | exact lw ‹_› rfl | exact lu ‹_› rfl | exact m5 ‹_› rfl | exact m7 rfl | exact mj ‹_› rfl | exact ml ke | exact ml (ml ke) | exact ml (ml kc) | exact ml (ml (ml ke)) | exact ml (ml (ml kc)) | decide +kernel | omega | (intros; contradiction)) [zipArgs, gy, gz, jk, jm, ki, kj, bq, bg, br, b7, b8, bt, bu, jn, km, ko, jo, g5, g6, bh, bv, bi, d7, aa, ag, a5, ah, au, ac, ai, a6, aj, av, ak, aw, ba, ax, a7, ae, al, a8, am, ay, af, ao, a9, aq, az, jp, bj, bw, bk, bn, bc, g7, g8, g9, jq, jr, kr, kt, bz, b4, b9, b5, ce, d9, cw, eb, cy, cz, ku, kx, ky, kz, ec, eg, c6, eh, ej, ek, er, h9, cg, et, ch, eu, ia, ey, jt, ju, c7, ci, cj, cn, ↓k7, ↓k8, ↓k9, ↓lb, ez, c8, fa, ↓lz, lf, jv, ib, lg, lh, lj, ll, lq, ls, c9, da, cq, dg, cr, b6, cu, l6, l7, l8, l9, jw, ic, jx, jy, ie, ig, n_radd', jz, ij, j0, j1, j2, j3, ik, fc, fe, fg, bp, be, dh, j4, cv, im, j5, j6, j7, io, ip, iq, ir, j8, iu, ma, mc, md, me, mm, mn, mr, mf, iv, fh, iw, iy, ↓iz, i0, fi, di, fj, dk, fk, fm, dl, fp, fq, i6, ms, mt, i7, ft, fu, dm, dq, i9, fv, dt, fw, du, ja, dw, fy, fz, jb, f0, f5, dy, dz, jc, f7, d3, f8, d4, jd, d5, f9, gn, mu, j9, gp, gq, as1', as2', as3', appendV, popV, je, mh, gs, gu, jf, d6, gv, jg, jh, ji, gw, gx, h3, h1, eqV_str]
theorem e_due_un {x : Str} {n : Nat} {v w : V} (h : KL x true) (ih : DueV n v w fd__law_due) : DueV (n + 1) (.tup [.str x, v]) (.tup [.str x, w]) fd__law_due := by
  refine atFd (p := DueV (n + 1) (.tup [.str x, v]) (.tup [.str x, w])) ⟨_, rfl, ?_⟩
  intro μ k hk
  cases k with
  | zero => exact absurd hk (Nat.not_succ_le_zero _)
  | succ k =>
    obtain ⟨N, e⟩ := ih μ k (Nat.le_of_succ_le_succ hk)
    obtain ⟨hs, h1, h2, h3, h4⟩ := h
    refine ev_inx N 60 (2 * k) 5 fun m d hd => ?_
    refine (enter (by rfl) rfl).trans ?_; dsimp only
    simp -dsimp (disch := first | assumption | exact mi | exact jj rfl | exact ke | exact kc | exact kf | exact kg | exact kh ‹_› rfl | exact mv ‹_› | exact mw ‹_› | exact mx ‹_› | exact my ‹_› | exact mz ‹_› | exact lv ‹_› rfl | exact lw ‹_› rfl | exact lu ‹_› rfl | exact m5 ‹_› rfl | exact m7 rfl | exact mj ‹_› rfl | exact ml ke | exact ml (ml ke) | exact ml (ml kc) | exact ml (ml (ml ke)) | exact ml (ml (ml kc)) | decide +kernel | omega | (intros; contradiction)) [zipArgs, gy, gz, jk, jm, ki, kj, bq, bg, br, b7, b8, bt, bu, jn, km, ko, jo, g5, g6, bh, bv, bi, d7, aa, ag, a5, ah, au, ac, ai, a6, aj, av, ak, aw, ba, ax, a7, ae, al, a8, am, ay, af, ao, a9, aq, az, jp, bj, bw, bk, bn, bc, g7, g8, g9, jq, jr, kr, kt, bz, b4, b9, b5, ce, d9, cw, eb, cy, cz, ku, kx, ky, kz, ec, eg, c6, eh, ej, ek, er, h9, cg, et, ch, eu, ia, ey, jt, ju, c7, ci, cj, cn, ↓k7, ↓k8, ↓k9, ↓lb, ez, c8, fa, ↓lz, lf, jv, ib, lg, lh, lj, ll, lq, ls, c9, da, cq, dg, cr, b6, cu, l6, l7, l8, l9, jw, ic, jx, jy, ie, ig, n_radd', jz, ij, j0, j1, j2, j3, ik, fc, fe, fg, bp, be, dh, j4, cv, im, j5, j6, j7, io, ip, iq, ir, j8, iu, ma, mc, md, me, mm, mn, mr, mf, iv, fh, iw, iy, ↓iz, i0, fi, di, fj, dk, fk, fm, dl, fp, fq, i6, ms, mt, i7, ft, fu, dm, dq, i9, fv, dt, fw, du, ja, dw, fy, fz, jb, f0, f5, dy, dz, jc, f7, d3, f8, d4, jd, d5, f9, gn, mu, j9, gp, gq, as1', as2', as3', appendV, popV, je, mh, gs, gu, jf, d6, gv, jg, jh, ji, gw, gx, h3, h4, h1, h2, eqV_str, tab__law_due, e]
theorem in3_k (k : Ap) : inL (.str k.kind) [.str "item", .str "call", .str "fn"] = some true := by cases k <;> kernel_rfl
theorem nk_k (k : Ap) : k.kind ≠ "number" := by cases k <;> decide +kernel
theorem e_due_app1 {p : Ap} {n : Nat} {v w : V} (ih : DueV n v w fd__law_due) : DueV (n + 1) (.tup [.str p.kind, .str p.word, .lst [v]]) (.tup [.str p.kind, .str p.word, .lst [w]]) fd__law_due := by
  refine atFd (p := DueV (n + 1) (.tup [.str p.kind, .str p.word, .lst [v]]) (.tup [.str p.kind, .str p.word, .lst [w]])) ⟨_, rfl, ?_⟩
  intro μ k hk
  cases k with
  | zero => exact absurd hk (Nat.not_succ_le_zero _)
  | succ k =>
    obtain ⟨N, e⟩ := ih μ k (Nat.le_of_succ_le_succ hk)
    have sk := p.kind_ok.1
    refine ev_inx N 60 (2 * k) 5 fun m d hd => ?_
    refine (enter (by rfl) rfl).trans ?_; dsimp only
    simp -dsimp (disch := first | assumption | exact mi | exact jj rfl | exact ke | exact kc | exact kf | exact kg | exact kh ‹_› rfl | exact mv ‹_› | exact mw ‹_› | exact mx ‹_› | exact my ‹_› | exact mz ‹_› | exact lv ‹_› rfl | exact lw ‹_› rfl | exact lu ‹_› rfl | exact m5 ‹_› rfl | exact m7 rfl | exact mj ‹_› rfl | exact ml ke | exact ml (ml ke) | exact ml (ml kc) | exact ml (ml (ml ke)) | exact ml (ml (ml kc)) | decide +kernel | omega | (intros; contradiction)) [zipArgs, gy, gz, jk, jm, ki, kj, bq, bg, br, b7, b8, bt, bu, jn, km, ko, jo, g5, g6, bh, bv, bi, d7, aa, ag, a5, ah, au, ac, ai, a6, aj, av, ak, aw, ba, ax, a7, ae, al, a8, am, ay, af, ao, a9, aq, az, jp, bj, bw, bk, bn, bc, g7, g8, g9, jq, jr, kr, kt, bz, b4, b9, b5, ce, d9, cw, eb, cy, cz, ku, kx, ky, kz, ec, eg, c6, eh, ej, ek, er, h9, cg, et, ch, eu, ia, ey, jt, ju, c7, ci, cj, cn, ↓k7, ↓k8, ↓k9, ↓lb, ez, c8, fa, ↓lz, lf, jv, ib, lg, lh, lj, ll, lq, ls, c9, da, cq, dg, cr, b6, cu, l6, l7, l8, l9, jw, ic, jx, jy, ie, ig, n_radd', jz, ij, j0, j1, j2, j3, ik, fc, fe, fg, bp, be, dh, j4, cv, im, j5, j6, j7, io, ip, iq, ir, j8, iu, ma, mc, md, me, mm, mn, mr, mf, iv, fh, iw, iy, ↓iz, i0, fi, di, fj, dk, fk, fm, dl, fp, fq, i6, ms, mt, i7, ft, fu, dm, dq, i9, fv, dt, fw, du, ja, dw, fy, fz, jb, f0, f5, dy, dz, jc, f7, d3, f8, d4, jd, d5, f9, gn, mu, j9, gp, gq, as1', as2', as3', appendV, popV, je, mh, gs, gu, jf, d6, gv, jg, jh, ji, gw, gx, in3_k, nk_k, eqV_str, tab__law_due, e]
theorem e_due_app2 {p : Ap} {n n2 : Nat} {v w v2 w2 : V} (ih : DueV n v w fd__law_due) (ih2 : DueV n2 v2 w2 fd__law_due) : DueV (max n n2 + 1) (.tup [.str p.kind, .str p.word, .lst [v, v2]]) (.tup [.str p.kind, .str p.word, .lst [w, w2]]) fd__law_due := by
  refine atFd (p := DueV (max n n2 + 1) (.tup [.str p.kind, .str p.word, .lst [v, v2]]) (.tup [.str p.kind, .str p.word, .lst [w, w2]])) ⟨_, rfl, ?_⟩
  intro μ k hk
  cases k with
  | zero => exact absurd hk (Nat.not_succ_le_zero _)
  | succ k =>
    obtain ⟨N, e⟩ := ih μ k (Nat.le_trans (Nat.le_max_left _ _) (Nat.le_of_succ_le_succ hk))
    obtain ⟨N2, e2⟩ := ih2 μ k (Nat.le_trans (Nat.le_max_right _ _) (Nat.le_of_succ_le_succ hk))
    have sk := p.kind_ok.1
    refine ev_inx (N + N2) 60 (2 * k) 5 fun m d hd => ?_
    refine (enter (by rfl) rfl).trans ?_; dsimp only
    simp -dsimp (disch := first | assumption | exact mi | exact jj rfl | exact ke | exact kc | exact kf | exact kg | exact kh ‹_› rfl | exact mv ‹_› | exact mw ‹_› | exact mx ‹_› | exact my ‹_› | exact mz ‹_› | exact lv ‹_› rfl | exact lw ‹_› rfl | exact lu ‹_› rfl | exact m5 ‹_› rfl | exact m7 rfl | exact mj ‹_› rfl | exact ml ke | exact ml (ml ke) | exact ml (ml kc) | exact ml (ml (ml ke)) | exact ml (ml (ml kc)) | decide +kernel | omega | (intros; contradiction)) [zipArgs, gy, gz, jk, jm, ki, kj, bq, bg, br, b7, b8, bt, bu, jn, km, ko, jo, g5, g6, bh, bv, bi, d7, aa, ag, a5, ah, au, ac, ai, a6, aj, av, ak, aw, ba, ax, a7, ae, al, a8, am, ay, af, ao, a9, aq, az, jp, bj, bw, bk, bn, bc, g7, g8, g9, jq, jr, kr, kt, bz, b4, b9, b5, ce, d9, cw, eb, cy, cz, ku, kx, ky, kz, ec, eg, c6, eh, ej, ek, er, h9, cg, et, ch, eu, ia, ey, jt, ju, c7, ci, cj, cn, ↓k7, ↓k8, ↓k9, ↓lb, ez, c8, fa, ↓lz, lf, jv, ib, lg, lh, lj, ll, lq, ls, c9, da, cq, dg, cr, b6, cu, l6, l7, l8, l9, jw, ic, jx, jy, ie, ig, n_radd', jz, ij, j0, j1, j2, j3, ik, fc, fe, fg, bp, be, dh, j4, cv, im, j5, j6, j7, io, ip, iq, ir, j8, iu, ma, mc, md, me, mm, mn, mr, mf, iv, fh, iw, iy, ↓iz, i0, fi, di, fj, dk, fk, fm, dl, fp, fq, i6, ms, mt, i7, ft, fu, dm, dq, i9, fv, dt, fw, du, ja, dw, fy, fz, jb, f0, f5, dy, dz, jc, f7, d3, f8, d4, jd, d5, f9, gn, mu, j9, gp, gq, as1', as2', as3', appendV, popV, je, mh, gs, gu, jf, d6, gv, jg, jh, ji, gw, gx, in3_k, nk_k, eqV_str, tab__law_due, e, e2]
theorem e_due_two {x : Str} {n n2 : Nat} {v w v2 w2 : V} (ih : DueV n v w fd__law_due) (ih2 : DueV n2 v2 w2 fd__law_due) : DueV (max n n2 + 1) (.tup [.str "two", .str x, v, v2]) (.tup [.str "two", .str x, w, w2]) fd__law_due := by
  refine atFd (p := DueV (max n n2 + 1) (.tup [.str "two", .str x, v, v2]) (.tup [.str "two", .str x, w, w2])) ⟨_, rfl, ?_⟩
  intro μ k hk
  cases k with
  | zero => exact absurd hk (Nat.not_succ_le_zero _)
  | succ k =>
    obtain ⟨N, e⟩ := ih μ k (Nat.le_trans (Nat.le_max_left _ _) (Nat.le_of_succ_le_succ hk))
    obtain ⟨N2, e2⟩ := ih2 μ k (Nat.le_trans (Nat.le_max_right _ _) (Nat.le_of_succ_le_succ hk))
    refine ev_inx (N + N2) 60 (2 * k) 5 fun m d hd => ?_
    refine (enter (by rfl) rfl).trans ?_; dsimp only
    simp -dsimp (disch := first | assumption | exact mi | exact jj rfl | exact ke | exact kc | exact kf | exact kg | exact kh ‹_› rfl | exact mv ‹_› | exact mw ‹_› | exact mx ‹_› | exact my ‹_› | exact mz ‹_› | exact lv ‹_› rfl | exact lw ‹_› rfl | exact lu ‹_› rfl | exact m5 ‹_› rfl | exact m7 rfl | exact mj ‹_› rfl | exact ml ke | exact ml (ml ke) | exact ml (ml kc) | exact ml (ml (ml ke)) | exact ml (ml (ml kc)) | decide +kernel | omega | (intros; contradiction)) [zipArgs, gy, gz, jk, jm, ki, kj, bq, bg, br, b7, b8, bt, bu, jn, km, ko, jo, g5, g6, bh, bv, bi, d7, aa, ag, a5, ah, au, ac, ai, a6, aj, av, ak, aw, ba, ax, a7, ae, al, a8, am, ay, af, ao, a9, aq, az, jp, bj, bw, bk, bn, bc, g7, g8, g9, jq, jr, kr, kt, bz, b4, b9, b5, ce, d9, cw, eb, cy, cz, ku, kx, ky, kz, ec, eg, c6, eh, ej, ek, er, h9, cg, et, ch, eu, ia, ey, jt, ju, c7, ci, cj, cn, ↓k7, ↓k8, ↓k9, ↓lb, ez, c8, fa, ↓lz, lf, jv, ib, lg, lh, lj, ll, lq, ls, c9, da, cq, dg, cr, b6, cu, l6, l7, l8, l9, jw, ic, jx, jy, ie, ig, n_radd', jz, ij, j0, j1, j2, j3, ik, fc, fe, fg, bp, be, dh, j4, cv, im, j5, j6, j7, io, ip, iq, ir, j8, iu, ma, mc, md, me, mm, mn, mr, mf, iv, fh, iw, iy, ↓iz, i0, fi, di, fj, dk, fk, fm, dl, fp, fq, i6, ms, mt, i7, ft, fu, dm, dq, i9, fv, dt, fw, du, ja, dw, fy, fz, jb, f0, f5, dy, dz, jc, f7, d3, f8, d4, jd, d5, f9, gn, mu, j9, gp, gq, as1', as2', as3', appendV, popV, je, mh, gs, gu, jf, d6, gv, jg, jh, ji, gw, gx, in3_two, eqV_str, tab__law_due, e, e2]
theorem kl_name : KL "name" false := ⟨s_name, by decide +kernel, by decide +kernel, in3_name, in2_name⟩
theorem kl_text : KL "text" false := ⟨s_text, by decide +kernel, by decide +kernel, in3_text, in2_text⟩
theorem kl_neg : KL "neg" true := ⟨s_neg, by decide +kernel, by decide +kernel, in3_neg, in2_neg⟩
theorem kl_not : KL "not" true := ⟨s_not, by decide +kernel, by decide +kernel, in3_not, in2_not⟩
theorem e_due {t : T} : t.WF → DueAt t fd__law_due := by
  induction t with
  | num i => exact fun h => e_due_num h
  | name x => exact fun _ => e_due_leaf kl_name
  | text x => exact fun _ => e_due_leaf kl_text
  | rnd => exact fun _ => e_due_cl s_call (by decide +kernel) in3_call
  | fna => exact fun _ => e_due_cl s_fn (by decide +kernel) in3_fn
  | neg t ih => exact fun h => e_due_un kl_neg (ih h)
  | not t ih => exact fun h => e_due_un kl_not (ih h)
  | app1 k a ih => exact fun h => e_due_app1 (ih h)
  | app2 k a b ih ih2 => exact fun h => e_due_app2 (ih h.1) (ih2 h.2)
  | two w l r ih ih2 => exact fun h => e_due_two (ih h.2.1) (ih2 h.2.2)
theorem is__law_sign : (tab "_law_sign").isSome = true := by rfl
noncomputable abbrev fd__law_sign := fdOf "_law_sign" is__law_sign
theorem tab__law_sign : tab "_law_sign" = some fd__law_sign := tab_fd _
theorem e_signw {w : String} (h : w ∈ ops16.map (·.1)) (μ : M) : Ev 2 fd__law_sign μ [.str w] (.ok (.tup [.str (opK w), .str w]) μ) := by
  refine w16_mem (P := fun w => Ev 2 fd__law_sign μ [.str w] (.ok (.tup [.str (opK w), .str w]) μ)) (l := ops16) ?_ h
  refine ⟨?_, ?_, ?_, ?_, ?_, ?_, ?_, ?_, ?_, ?_, ?_, ?_, ?_, ?_, ?_, ?_, trivial⟩ <;> exact ev_of (N := 60) (fun n d => by kernel_rfl)
noncomputable def lvD : List (Str × V) := match evCall tab cst 60 10 [] fd_law_levels [] with
  | .ok (.dict l) _ => l
  | _ => []
theorem e_levels (μ : M) : Ev 2 fd_law_levels μ [] (.ok (.dict lvD) μ) := ev_of (N := 60) (fun n d => by kernel_rfl)
theorem lv_at {w : String} (h : w ∈ ops16.map (·.1)) : keyIn w lvD = some (.int (opS w)) := by
  refine w16_mem (P := fun w => keyIn w lvD = some (.int (opS w))) (l := ops16) ?_ h
  refine ⟨?_, ?_, ?_, ?_, ?_, ?_, ?_, ?_, ?_, ?_, ?_, ?_, ?_, ?_, ?_, ?_, trivial⟩ <;> kernel_rfl
theorem m_get {μ : M} {l : List (Str × V)} {k : Str} {dv : V} : methV μ (.dict l) "get" [.str k, dv] = .ok ((keyIn k l).getD dv) μ := by kernel_rfl
theorem mo_get {l : List (Str × V)} : methOk (.dict l) "get" = true := by kernel_rfl
theorem is__law_level : (tab "_law_level").isSome = true := by rfl
noncomputable abbrev fd__law_level := fdOf "_law_level" is__law_level
theorem tab__law_level : tab "_law_level" = some fd__law_level := tab_fd _
noncomputable abbrev LevAt (t : T) (fd : DefRec) : Prop := ∀ μ : M, Ev 3 fd μ [t.enc] (.ok (.int t.level) μ)
noncomputable abbrev LevV (v : V) (i : Int) (fd : DefRec) : Prop := ∀ μ : M, Ev 3 fd μ [v] (.ok (.int i) μ)
theorem e_level_two {w : String} {v v2 : V} (h : w ∈ ops16.map (·.1)) : LevV (.tup [.str "two", .str w, v, v2]) (opS w) fd__law_level := by
  refine atFd (p := LevV (.tup [.str "two", .str w, v, v2]) (opS w)) ⟨_, rfl, ?_⟩
  intro μ
  obtain ⟨N, e⟩ := e_levels μ
  have hx := lv_at h
  refine ev_in N 60 fun m d => ?_
  refine (enter (by rfl) rfl).trans ?_; dsimp only
  simp -dsimp (disch := first | assumption | exact mi | exact jj rfl | exact ke | exact kc | exact kf | exact kg | exact kh ‹_› rfl | exact mv ‹_› | exact mw ‹_› | exact mx ‹_› | exact my ‹_› | exact mz ‹_› | exact lv ‹_› rfl | exact lw ‹_› rfl | exact lu ‹_› rfl | exact m5 ‹_› rfl | exact m7 rfl | exact mj ‹_› rfl | exact ml ke | exact ml (ml ke) | exact ml (ml kc) | exact ml (ml (ml ke)) | exact ml (ml (ml kc)) | decide +kernel | omega | (intros; contradiction)) [zipArgs, gy, gz, jk, jm, ki, kj, bq, bg, br, b7, b8, bt, bu, jn, km, ko, jo, g5, g6, bh, bv, bi, d7, aa, ag, a5, ah, au, ac, ai, a6, aj, av, ak, aw, ba, ax, a7, ae, al, a8, am, ay, af, ao, a9, aq, az, jp, bj, bw, bk, bn, bc, g7, g8, g9, jq, jr, kr, kt, bz, b4, b9, b5, ce, d9, cw, eb, cy, cz, ku, kx, ky, kz, ec, eg, c6, eh, ej, ek, er, h9, cg, et, ch, eu, ia, ey, jt, ju, c7, ci, cj, cn, ↓k7, ↓k8, ↓k9, ↓lb, ez, c8, fa, ↓lz, lf, jv, ib, lg, lh, lj, ll, lq, ls, c9, da, cq, dg, cr, b6, cu, l6, l7, l8, l9, jw, ic, jx, jy, ie, ig, n_radd', jz, ij, j0, j1, j2, j3, ik, fc, fe, fg, bp, be, dh, j4, cv, im, j5, j6, j7, io, ip, iq, ir, j8, iu, ma, mc, md, me, mm, mn, mr, mf, iv, fh, iw, iy, ↓iz, i0, fi, di, fj, dk, fk, fm, dl, fp, fq, i6, ms, mt, i7, ft, fu, dm, dq, i9, fv, dt, fw, du, ja, dw, fy, fz, jb, f0, f5, dy, dz, jc, f7, d3, f8, d4, jd, d5, f9, gn, mu, j9, gp, gq, as1', as2', as3', appendV, popV, je, mh, gs, gu, jf, d6, gv, jg, jh, ji, gw, gx, tab__law_levels, e, hx, eqV_str]
theorem e_level {t : T} (h : t.WF) : LevAt t fd__law_level := by
  cases t with
  | two w l r => exact e_level_two h.1
  | app1 k a => intro μ; cases k <;> exact ev_of (N := 60) (fun n d => by kernel_rfl)
  | app2 k a b => intro μ; cases k <;> exact ev_of (N := 60) (fun n d => by kernel_rfl)
  | _ => intro μ; exact ev_of (N := 60) (fun n d => by kernel_rfl)
end Mine
namespace Mine
theorem partOf_len {a b : Int} {ts : List Tk} : (partOf a b ts).length ≤ ts.length + 2 := by
  unfold partOf; split <;> simp
theorem tl1 {x X m : Nat} (h : x + 5 ≤ 6 * 2 ^ m) (hX : X ≤ x + 4) : X + 5 ≤ 6 * 2 ^ (m + 1) := by
  rw [Nat.pow_succ, ← Nat.mul_assoc]
  revert h
  generalize 6 * 2 ^ m = M
  omega
theorem tl2 {x y X m a b : Nat} (h : x + 5 ≤ 6 * 2 ^ a) (h2 : y + 5 ≤ 6 * 2 ^ b) (ha : a ≤ m) (hb : b ≤ m) (hX : X ≤ x + y + 5) : X + 5 ≤ 6 * 2 ^ (m + 1) := by
  have h := Nat.le_trans h (Nat.mul_le_mul_left 6 (Nat.pow_le_pow_right (by decide) ha))
  have h2 := Nat.le_trans h2 (Nat.mul_le_mul_left 6 (Nat.pow_le_pow_right (by decide) hb))
  rw [Nat.pow_succ, ← Nat.mul_assoc]
  revert h h2
  generalize 6 * 2 ^ m = M
  omega
theorem T.toks_len (t : T) : t.toks.length + 5 ≤ 6 * 2 ^ t.depth := by
  induction t with
  | neg t ih => exact tl1 ih (Nat.le_succ_of_le (Nat.succ_le_succ (partOf_len (a := 12) (b := t.level) (ts := t.toks))))
  | not t ih => exact tl1 ih (Nat.le_succ_of_le (Nat.succ_le_succ (partOf_len (a := 6) (b := t.level) (ts := t.toks))))
  | app1 k a ih => exact tl1 ih (by show (_ :: _ :: (a.toks ++ [tClose])).length ≤ _; rw [List.length_cons, List.length_cons, List.length_append]; exact Nat.le_succ (a.toks.length + 3))
  | app2 k a b ih ih2 => exact tl2 ih ih2 (Nat.le_max_left _ _) (Nat.le_max_right _ _) (by show (_ :: _ :: (a.toks ++ tComma :: (b.toks ++ [tClose]))).length ≤ _; simp only [List.length_cons, List.length_append, List.length_nil]; omega)
  | two w l r ih ih2 => exact tl2 ih ih2 (Nat.le_max_left _ _) (Nat.le_max_right _ _) (by
      show (partOf (opS w) l.level l.toks ++ (_ :: partOf (opS w + 1) r.level r.toks)).length ≤ _
      have p1 := partOf_len (a := opS w) (b := l.level) (ts := l.toks)
      have p2 := partOf_len (a := opS w + 1) (b := r.level) (ts := r.toks)
      rw [List.length_append, List.length_cons]; omega)
  | _ => exact Nat.le_refl 6
theorem T.toks_small {t : T} (h : t.depth ≤ 8) : t.toks.length ≤ 1600 := by
  have h1 := T.toks_len t
  have h2 : 2 ^ t.depth ≤ 2 ^ 8 := Nat.pow_le_pow_right (by decide) h
  omega
theorem len_toks {ts : List Tk} : (ts.map Tk.v).length = ts.length := by simp
theorem is__law_tokens : (tab "_law_tokens").isSome = true := by rfl
noncomputable abbrev fd__law_tokens := fdOf "_law_tokens" is__law_tokens
theorem tab__law_tokens : tab "_law_tokens" = some fd__law_tokens := tab_fd _
theorem is__law_part : (tab "_law_part").isSome = true := by rfl
noncomputable abbrev fd__law_part := fdOf "_law_part" is__law_part
theorem tab__law_part : tab "_law_part" = some fd__law_part := tab_fd _
noncomputable abbrev TokAt (t : T) (fd : DefRec) : Prop := ∀ (μ : M) (k : Nat), t.depth ≤ k → Ev (3 * k + 4) fd μ [t.enc] (.ok (toks t.toks) μ)
theorem e_part {t : T} (hw : t.WF) (hd : t.depth ≤ 8) (h : TokAt t fd__law_tokens) (least : Int) (μ : M) (k : Nat) (hk : t.depth ≤ k) : Ev (3 * k + 5) fd__law_part μ [t.enc, .int least] (.ok (toks (partOf least t.level t.toks)) μ) := by
  refine atFd (p := fun fd => Ev (3 * k + 5) fd μ [t.enc, .int least] (.ok (toks (partOf least t.level t.toks)) μ)) ⟨_, rfl, ?_⟩
  obtain ⟨N, e⟩ := h μ k hk
  obtain ⟨N2, e2⟩ := e_level hw μ
  have hz := T.toks_small hd
  refine ev_inx (N + N2) 60 (3 * k) 5 fun m d hd => ?_
  unfold toks at e ⊢
  refine (enter (by rfl) rfl).trans ?_; dsimp only
  unfold partOf
  by_cases q : least ≤ t.level
  · simp -dsimp (disch := first | assumption | exact mi | exact jj rfl | exact ke | exact kc | exact kf | exact kg | exact kh ‹_› rfl | exact mv ‹_› | exact mw ‹_› | exact mx ‹_› | exact my ‹_› | exact mz ‹_› | exact lv ‹_› rfl | exact lw ‹_› rfl | exact lu ‹_› rfl | exact m5 ‹_› rfl | exact m7 rfl | exact mj ‹_› rfl | exact ml ke | exact ml (ml ke) | exact ml (ml kc) | exact ml (ml (ml ke)) | exact ml (ml (ml kc)) | decide +kernel | omega | (intros; contradiction) | (simp only [List.length_append, List.length_cons, List.length_nil, List.length_map, List.length_replicate]; omega)) [zipArgs, gy, gz, jk, jm, ki, kj, bq, bg, br, b7, b8, bt, bu, jn, km, ko, jo, g5, g6, bh, bv, bi, d7, aa, ag, a5, ah, au, ac, ai, a6, aj, av, ak, aw, ba, ax, a7, ae, al, a8, am, ay, af, ao, a9, aq, az, jp, bj, bw, bk, bn, bc, g7, g8, g9, jq, jr, kr, kt, bz, b4, b9, b5, ce, d9, cw, eb, cy, cz, ku, kx, ky, kz, ec, eg, c6, eh, ej, ek, er, h9, cg, et, ch, eu, ia, ey, jt, ju, c7, ci, cj, cn, ↓k7, ↓k8, ↓k9, ↓lb, ez, c8, fa, ↓lz, lf, jv, ib, lg, lh, lj, ll, lq, ls, c9, da, cq, dg, cr, b6, cu, l6, l7, l8, l9, jw, ic, jx, jy, ie, ig, n_radd', jz, ij, j0, j1, j2, j3, ik, fc, fe, fg, bp, be, dh, j4, cv, im, j5, j6, j7, io, ip, iq, ir, j8, iu, ma, mc, md, me, mm, mn, mr, mf, iv, fh, iw, iy, ↓iz, i0, fi, di, fj, dk, fk, fm, dl, fp, fq, i6, ms, mt, i7, ft, fu, dm, dq, i9, fv, dt, fw, du, ja, dw, fy, fz, jb, f0, f5, dy, dz, jc, f7, d3, f8, d4, jd, d5, f9, gn, mu, j9, gp, gq, as1', as2', as3', appendV, popV, je, mh, gs, gu, jf, d6, gv, jg, jh, ji, gw, gx, r_f0, r_f1, ef_0, ef_1, tab__law_tokens, tab__law_level, e, e2, q]
  · simp -dsimp (disch := first | assumption | exact mi | exact jj rfl | exact ke | exact kc | exact kf | exact kg | exact kh ‹_› rfl | exact mv ‹_› | exact mw ‹_› | exact mx ‹_› | exact my ‹_› | exact mz ‹_› | exact lv ‹_› rfl | exact lw ‹_› rfl | exact lu ‹_› rfl | exact m5 ‹_› rfl | exact m7 rfl | exact mj ‹_› rfl | exact ml ke | exact ml (ml ke) | exact ml (ml kc) | exact ml (ml (ml ke)) | exact ml (ml (ml kc)) | decide +kernel | omega | (intros; contradiction) | (simp only [List.length_append, List.length_cons, List.length_nil, List.length_map, List.length_replicate]; omega)) [zipArgs, gy, gz, jk, jm, ki, kj, bq, bg, br, b7, b8, bt, bu, jn, km, ko, jo, g5, g6, bh, bv, bi, d7, aa, ag, a5, ah, au, ac, ai, a6, aj, av, ak, aw, ba, ax, a7, ae, al, a8, am, ay, af, ao, a9, aq, az, jp, bj, bw, bk, bn, bc, g7, g8, g9, jq, jr, kr, kt, bz, b4, b9, b5, ce, d9, cw, eb, cy, cz, ku, kx, ky, kz, ec, eg, c6, eh, ej, ek, er, h9, cg, et, ch, eu, ia, ey, jt, ju, c7, ci, cj, cn, ↓k7, ↓k8, ↓k9, ↓lb, ez, c8, fa, ↓lz, lf, jv, ib, lg, lh, lj, ll, lq, ls, c9, da, cq, dg, cr, b6, cu, l6, l7, l8, l9, jw, ic, jx, jy, ie, ig, n_radd', jz, ij, j0, j1, j2, j3, ik, fc, fe, fg, bp, be, dh, j4, cv, im, j5, j6, j7, io, ip, iq, ir, j8, iu, ma, mc, md, me, mm, mn, mr, mf, iv, fh, iw, iy, ↓iz, i0, fi, di, fj, dk, fk, fm, dl, fp, fq, i6, ms, mt, i7, ft, fu, dm, dq, i9, fv, dt, fw, du, ja, dw, fy, fz, jb, f0, f5, dy, dz, jc, f7, d3, f8, d4, jd, d5, f9, gn, mu, j9, gp, gq, as1', as2', as3', appendV, popV, je, mh, gs, gu, jf, d6, gv, jg, jh, ji, gw, gx, r_f0, r_f1, ef_0, ef_1, tab__law_tokens, tab__law_level, e, e2, q, Tk.v]
end Mine
namespace Mine
noncomputable abbrev inN (x : String) : Option Bool := inL (.str x) [.str "name", .str "text"]
theorem inN_name : inN "name" = some true := by kernel_rfl
theorem inN_text : inN "text" = some true := by kernel_rfl
theorem inN_neg : inN "neg" = some false := by kernel_rfl
theorem inN_not : inN "not" = some false := by kernel_rfl
theorem inN_two : inN "two" = some false := by kernel_rfl
theorem d_l {a b : Nat} (h : max a b + 1 ≤ 8) : a ≤ 8 := Nat.le_trans (Nat.le_max_left a b) (Nat.le_of_succ_le h)
theorem d_r {a b : Nat} (h : max a b + 1 ≤ 8) : b ≤ 8 := Nat.le_trans (Nat.le_max_right a b) (Nat.le_of_succ_le h)
theorem partOf_small {a b : Int} {ts : List Tk} (h : ts.length ≤ 1600) : (partOf a b ts).length ≤ 1602 := Nat.le_trans (partOf_len (a := a) (b := b) (ts := ts)) (Nat.add_le_add_right h 2)
theorem tab_enumerate : tab "enumerate" = none := by rfl
theorem nil_nil : eqV (.lst []) (.lst []) = some true := by kernel_rfl
noncomputable abbrev TokV (n : Nat) (v : V) (ts : List Tk) (fd : DefRec) : Prop := ∀ (μ : M) (k : Nat), n ≤ k → Ev (3 * k + 4) fd μ [v] (.ok (.lst (ts.map Tk.v)) μ)
theorem e_tok_num {i : Nat} (hi : i < 10) : TokV 0 (.tup [.str "number", .int i]) [("number", numT i)] fd__law_tokens := by
  refine atFd (p := TokV 0 (.tup [.str "number", .int i]) [("number", numT i)]) ⟨_, rfl, ?_⟩
  intro μ k _
  obtain ⟨N, e⟩ := e_law_numbers μ
  have hx := (ls_idx (μ := μ) (lu hi rfl)).trans (nl_at hi)
  rw [show (nums.map fun p => V.tup [.str p.1, p.2]) = nl from rfl] at e
  refine ev_inx N 60 (3 * k) 4 fun m d hd => ?_
  refine (enter (by rfl) rfl).trans ?_; dsimp only
  simp -dsimp (disch := first | assumption | exact mi | exact jj rfl | exact ke | exact kc | exact kf | exact kg | exact kh ‹_› rfl | exact mv ‹_› | exact mw ‹_› | exact mx ‹_› | exact my ‹_› | exact mz ‹_› | exact lv ‹_› rfl | exact lw ‹_› rfl | exact lu ‹_› rfl | exact m5 ‹_› rfl | exact m7 rfl | exact mj ‹_› rfl | exact ml ke | exact ml (ml ke) | exact ml (ml kc) | exact ml (ml (ml ke)) | exact ml (ml (ml kc)) | decide +kernel | omega | (intros; contradiction) | (simp only [List.length_append, List.length_cons, List.length_nil, List.length_map, List.length_replicate]; omega)) [zipArgs, gy, gz, jk, jm, ki, kj, bq, bg, br, b7, b8, bt, bu, jn, km, ko, jo, g5, g6, bh, bv, bi, d7, aa, ag, a5, ah, au, ac, ai, a6, aj, av, ak, aw, ba, ax, a7, ae, al, a8, am, ay, af, ao, a9, aq, az, jp, bj, bw, bk, bn, bc, g7, g8, g9, jq, jr, kr, kt, bz, b4, b9, b5, ce, d9, cw, eb, cy, cz, ku, kx, ky, kz, ec, eg, c6, eh, ej, ek, er, h9, cg, et, ch, eu, ia, ey, jt, ju, c7, ci, cj, cn, ↓k7, ↓k8, ↓k9, ↓lb, ez, c8, fa, ↓lz, lf, jv, ib, lg, lh, lj, ll, lq, ls, c9, da, cq, dg, cr, b6, cu, l6, l7, l8, l9, jw, ic, jx, jy, ie, ig, n_radd', jz, ij, j0, j1, j2, j3, ik, fc, fe, fg, bp, be, dh, j4, cv, im, j5, j6, j7, io, ip, iq, ir, j8, iu, ma, mc, md, me, mm, mn, mr, mf, iv, fh, iw, iy, ↓iz, i0, fi, di, fj, dk, fk, fm, dl, fp, fq, i6, ms, mt, i7, ft, fu, dm, dq, i9, fv, dt, fw, du, ja, dw, fy, fz, jb, f0, f5, dy, dz, jc, f7, d3, f8, d4, jd, d5, f9, gn, mu, j9, gp, gq, as1', as2', as3', appendV, popV, je, mh, gs, gu, jf, d6, gv, jg, jh, ji, gw, gx, r_f0, r_f1, ef_0, ef_1, eqV_str, Tk.v, tab__law_numbers, e, hx]
theorem e_tok_leaf {x y : Str} (hs : sok x) (h1 : x ≠ "number") (h2 : inL (.str x) [.str "name", .str "text"] = some true) : TokV 0 (.tup [.str x, .str y]) [(x, y)] fd__law_tokens := by
  refine atFd (p := TokV 0 (.tup [.str x, .str y]) [(x, y)]) ⟨_, rfl, ?_⟩
  intro μ k _
  refine ev_inx 0 60 (3 * k) 4 fun m d hd => ?_
  refine (enter (by rfl) rfl).trans ?_; dsimp only
  simp -dsimp (disch := first | assumption | exact mi | exact jj rfl | exact ke | exact kc | exact kf | exact kg | exact kh ‹_› rfl | exact mv ‹_› | exact mw ‹_› | exact mx ‹_› | exact my ‹_› | exact mz ‹_› | exact lv ‹_› rfl | exact lw ‹_› rfl | exact lu ‹_› rfl | exact m5 ‹_› rfl | exact m7 rfl | exact mj ‹_› rfl | exact ml ke | exact ml (ml ke) | exact ml (ml kc) | exact ml (ml (ml ke)) | exact ml (ml (ml kc)) | decide +kernel | omega | (intros; contradiction) | (simp only [List.length_append, List.length_cons, List.length_nil, List.length_map, List.length_replicate]; omega)) [zipArgs, gy, gz, jk, jm, ki, kj, bq, bg, br, b7, b8, bt, bu, jn, km, ko, jo, g5, g6, bh, bv, bi, d7, aa, ag, a5, ah, au, ac, ai, a6, aj, av, ak, aw, ba, ax, a7, ae, al, a8, am, ay, af, ao, a9, aq, az, jp, bj, bw, bk, bn, bc, g7, g8, g9, jq, jr, kr, kt, bz, b4, b9, b5, ce, d9, cw, eb, cy, cz, ku, kx, ky, kz, ec, eg, c6, eh, ej, ek, er, h9, cg, et, ch, eu, ia, ey, jt, ju, c7, ci, cj, cn, ↓k7, ↓k8, ↓k9, ↓lb, ez, c8, fa, ↓lz, lf, jv, ib, lg, lh, lj, ll, lq, ls, c9, da, cq, dg, cr, b6, cu, l6, l7, l8, l9, jw, ic, jx, jy, ie, ig, n_radd', jz, ij, j0, j1, j2, j3, ik, fc, fe, fg, bp, be, dh, j4, cv, im, j5, j6, j7, io, ip, iq, ir, j8, iu, ma, mc, md, me, mm, mn, mr, mf, iv, fh, iw, iy, ↓iz, i0, fi, di, fj, dk, fk, fm, dl, fp, fq, i6, ms, mt, i7, ft, fu, dm, dq, i9, fv, dt, fw, du, ja, dw, fy, fz, jb, f0, f5, dy, dz, jc, f7, d3, f8, d4, jd, d5, f9, gn, mu, j9, gp, gq, as1', as2', as3', appendV, popV, je, mh, gs, gu, jf, d6, gv, jg, jh, ji, gw, gx, r_f0, r_f1, ef_0, ef_1, eqV_str, Tk.v, h1, h2]
structure KA (x z : Str) : Prop where
  s : sok x
  n : x ≠ "number"
  t : x ≠ "two"
  ne : x ≠ "neg"
  no : x ≠ "not"
  i : inL (.str x) [.str "name", .str "text"] = some false
  z : (if x = ("call" : Str) then V.str "word" else V.str "name") = .str z
theorem ite_ok {α : Type} {c : Prop} [Decidable c] {a b : α} {μ : M} : (if c then Out.ok a μ else Out.ok b μ) = Out.ok (if c then a else b) μ := by by_cases h : c <;> simp [h]
theorem e_tok_cl {x y z : Str} (h : KA x z) : TokV 0 (.tup [.str x, .str y, .lst []]) [(z, y)] fd__law_tokens := by
  refine atFd (p := TokV 0 (.tup [.str x, .str y, .lst []]) [(z, y)]) ⟨_, rfl, ?_⟩
  intro μ k _
  obtain ⟨hs, h1, h2, h3, h4, h5, h6⟩ := h
  refine ev_inx 0 60 (3 * k) 4 fun m d hd => ?_
  refine (enter (by rfl) rfl).trans ?_; dsimp only
  simp -dsimp (disch := first | assumption | exact mi | exact jj rfl | exact ke | exact kc | exact kf | exact kg | exact kh ‹_› rfl | exact mv ‹_› | exact mw ‹_› | exact mx ‹_› | exact my ‹_› | exact mz ‹_› | exact lv ‹_› rfl | exact lw ‹_› rfl | exact lu ‹_› rfl | exact m5 ‹_› rfl | exact m7 rfl | exact mj ‹_› rfl | exact ml ke | exact ml (ml ke) | exact ml (ml kc) | exact ml (ml (ml ke)) | exact ml (ml (ml kc)) | decide +kernel | omega | (intros; contradiction) | (simp only [List.length_append, List.length_cons, List.length_nil, List.length_map, List.length_replicate]; omega)) [zipArgs, gy, gz, jk, jm, ki, kj, bq, bg, br, b7, b8, bt, bu, jn, km, ko, jo, g5, g6, bh, bv, bi, d7, aa, ag, a5, ah, au, ac, ai, a6, aj, av, ak, aw, ba, ax, a7, ae, al, a8, am, ay, af, ao, a9, aq, az, jp, bj, bw, bk, bn, bc, g7, g8, g9, jq, jr, kr, kt, bz, b4, b9, b5, ce, d9, cw, eb, cy, cz, ku, kx, ky, kz, ec, eg, c6, eh, ej, ek, er, h9, cg, et, ch, eu, ia, ey, jt, ju, c7, ci, cj, cn, ↓k7, ↓k8, ↓k9, ↓lb, ez, c8, fa, ↓lz, lf, jv, ib, lg, lh, lj, ll, lq, ls, c9, da, cq, dg, cr, b6, cu, l6, l7, l8, l9, jw, ic, jx, jy, ie, ig, n_radd', jz, ij, j0, j1, j2, j3, ik, fc, fe, fg, bp, be, dh, j4, cv, im, j5, j6, j7, io, ip, iq, ir, j8, iu, ma, mc, md, me, mm, mn, mr, mf, iv, fh, iw, iy, ↓iz, i0, fi, di, fj, dk, fk, fm, dl, fp, fq, i6, ms, mt, i7, ft, fu, dm, dq, i9, fv, dt, fw, du, ja, dw, fy, fz, jb, f0, f5, dy, dz, jc, f7, d3, f8, d4, jd, d5, f9, gn, mu, j9, gp, gq, as1', as2', as3', appendV, popV, je, mh, gs, gu, jf, d6, gv, jg, jh, ji, gw, gx, r_f0, r_f1, ef_0, ef_1, eqV_str, Tk.v, h1, h2, h3, h4, h5, h6, ite_ok, nil_nil, tab_enumerate]
theorem e_tok_neg {t : T} (h : t.WF) (hd : t.depth ≤ 8) (ih : TokAt t fd__law_tokens) : TokV (t.depth + 1) (.tup [.str "neg", t.enc]) (("sign", "-") :: partOf 12 t.level t.toks) fd__law_tokens := by
  have lv : LevV (.tup [.str "neg", t.enc]) 12 fd__law_level := e_level (t := .neg t) h
  refine atFd (p := TokV (t.depth + 1) (.tup [.str "neg", t.enc]) (("sign", "-") :: partOf 12 t.level t.toks)) ⟨_, rfl, ?_⟩
  intro μ k hk
  cases k with
  | zero => exact absurd hk (Nat.not_succ_le_zero _)
  | succ k =>
    obtain ⟨N, e⟩ := e_part (t := t) h hd ih 12 μ k (Nat.le_of_succ_le_succ hk)
    obtain ⟨N2, e2⟩ := lv μ
    have hz := partOf_small (a := 12) (b := t.level) (T.toks_small hd)
    unfold toks at e
    refine ev_inx (N + N2) 60 (3 * k) 7 fun m d hd => ?_
    refine (enter (by rfl) rfl).trans ?_; dsimp only
    simp -dsimp (disch := first | assumption | exact mi | exact jj rfl | exact ke | exact kc | exact kf | exact kg | exact kh ‹_› rfl | exact mv ‹_› | exact mw ‹_› | exact mx ‹_› | exact my ‹_› | exact mz ‹_› | exact lv ‹_› rfl | exact lw ‹_› rfl | exact lu ‹_› rfl | exact m5 ‹_› rfl | exact m7 rfl | exact mj ‹_› rfl | exact ml ke | exact ml (ml ke) | exact ml (ml kc) | exact ml (ml (ml ke)) | exact ml (ml (ml kc)) | decide +kernel | omega | (intros; contradiction) | (simp only [List.length_append, List.length_cons, List.length_nil, List.length_map, List.length_replicate]; omega)) [zipArgs, gy, gz, jk, jm, ki, kj, bq, bg, br, b7, b8, bt, bu, jn, km, ko, jo, g5, g6, bh, bv, bi, d7, aa, ag, a5, ah, au, ac, ai, a6, aj, av, ak, aw, ba, ax, a7, ae, al, a8, am, ay, af, ao, a9, aq, az, jp, bj, bw, bk, bn, bc, g7, g8, g9, jq, jr, kr, kt, bz, b4, b9, b5, ce, d9, cw, eb, cy, cz, ku, kx, ky, kz, ec, eg, c6, eh, ej, ek, er, h9, cg, et, ch, eu, ia, ey, jt, ju, c7, ci, cj, cn, ↓k7, ↓k8, ↓k9, ↓lb, ez, c8, fa, ↓lz, lf, jv, ib, lg, lh, lj, ll, lq, ls, c9, da, cq, dg, cr, b6, cu, l6, l7, l8, l9, jw, ic, jx, jy, ie, ig, n_radd', jz, ij, j0, j1, j2, j3, ik, fc, fe, fg, bp, be, dh, j4, cv, im, j5, j6, j7, io, ip, iq, ir, j8, iu, ma, mc, md, me, mm, mn, mr, mf, iv, fh, iw, iy, ↓iz, i0, fi, di, fj, dk, fk, fm, dl, fp, fq, i6, ms, mt, i7, ft, fu, dm, dq, i9, fv, dt, fw, du, ja, dw, fy, fz, jb, f0, f5, dy, dz, jc, f7, d3, f8, d4, jd, d5, f9, gn, mu, j9, gp, gq, as1', as2', as3', appendV, popV, je, mh, gs, gu, jf, d6, gv, jg, jh, ji, gw, gx, r_f0, r_f1, ef_0, ef_1, eqV_str, Tk.v, inN_neg, tab__law_part, tab__law_level, e, e2]
theorem e_tok_not {t : T} (h : t.WF) (hd : t.depth ≤ 8) (ih : TokAt t fd__law_tokens) : TokV (t.depth + 1) (.tup [.str "not", t.enc]) (("word", "NOT") :: partOf 6 t.level t.toks) fd__law_tokens := by
  have lv : LevV (.tup [.str "not", t.enc]) 6 fd__law_level := e_level (t := .not t) h
  refine atFd (p := TokV (t.depth + 1) (.tup [.str "not", t.enc]) (("word", "NOT") :: partOf 6 t.level t.toks)) ⟨_, rfl, ?_⟩
  intro μ k hk
  cases k with
  | zero => exact absurd hk (Nat.not_succ_le_zero _)
  | succ k =>
    obtain ⟨N, e⟩ := e_part (t := t) h hd ih 6 μ k (Nat.le_of_succ_le_succ hk)
    obtain ⟨N2, e2⟩ := lv μ
    have hz := partOf_small (a := 6) (b := t.level) (T.toks_small hd)
    unfold toks at e
    refine ev_inx (N + N2) 60 (3 * k) 7 fun m d hd => ?_
    refine (enter (by rfl) rfl).trans ?_; dsimp only
    simp -dsimp (disch := first | assumption | exact mi | exact jj rfl | exact ke | exact kc | exact kf | exact kg | exact kh ‹_› rfl | exact mv ‹_› | exact mw ‹_› | exact mx ‹_› | exact my ‹_› | exact mz ‹_› | exact lv ‹_› rfl | exact lw ‹_› rfl | exact lu ‹_› rfl | exact m5 ‹_› rfl | exact m7 rfl | exact mj ‹_› rfl | exact ml ke | exact ml (ml ke) | exact ml (ml kc) | exact ml (ml (ml ke)) | exact ml (ml (ml kc)) | decide +kernel | omega | (intros; contradiction) | (simp only [List.length_append, List.length_cons, List.length_nil, List.length_map, List.length_replicate]; omega)) [zipArgs, gy, gz, jk, jm, ki, kj, bq, bg, br, b7, b8, bt, bu, jn, km, ko, jo, g5, g6, bh, bv, bi, d7, aa, ag, a5, ah, au, ac, ai, a6, aj, av, ak, aw, ba, ax, a7, ae, al, a8, am, ay, af, ao, a9, aq, az, jp, bj, bw, bk, bn, bc, g7, g8, g9, jq, jr, kr, kt, bz, b4, b9, b5, ce, d9, cw, eb, cy, cz, ku, kx, ky, kz, ec, eg, c6, eh, ej, ek, er, h9, cg, et, ch, eu, ia, ey, jt, ju, c7, ci, cj, cn, ↓k7, ↓k8, ↓k9, ↓lb, ez, c8, fa, ↓lz, lf, jv, ib, lg, lh, lj, ll, lq, ls, c9, da, cq, dg, cr, b6, cu, l6, l7, l8, l9, jw, ic, jx, jy, ie, ig, n_radd', jz, ij, j0, j1, j2, j3, ik, fc, fe, fg, bp, be, dh, j4, cv, im, j5, j6, j7, io, ip, iq, ir, j8, iu, ma, mc, md, me, mm, mn, mr, mf, iv, fh, iw, iy, ↓iz, i0, fi, di, fj, dk, fk, fm, dl, fp, fq, i6, ms, mt, i7, ft, fu, dm, dq, i9, fv, dt, fw, du, ja, dw, fy, fz, jb, f0, f5, dy, dz, jc, f7, d3, f8, d4, jd, d5, f9, gn, mu, j9, gp, gq, as1', as2', as3', appendV, popV, je, mh, gs, gu, jf, d6, gv, jg, jh, ji, gw, gx, r_f0, r_f1, ef_0, ef_1, eqV_str, Tk.v, inN_not, tab__law_part, tab__law_level, e, e2]
theorem nk_neg (k : Ap) : k.kind ≠ "neg" := by cases k <;> decide +kernel
theorem nk_not (k : Ap) : k.kind ≠ "not" := by cases k <;> decide +kernel
theorem nk_two (k : Ap) : k.kind ≠ "two" := by cases k <;> decide +kernel
theorem inN_k (k : Ap) : inL (.str k.kind) [.str "name", .str "text"] = some false := by cases k <;> kernel_rfl
theorem tok_if (k : Ap) : (if k.kind = ("call" : Str) then V.str "word" else V.str "name") = .str k.tok := by cases k <;> rfl
theorem ka_k (k : Ap) : KA k.kind k.tok := ⟨k.kind_ok.1, nk_k k, nk_two k, nk_neg k, nk_not k, inN_k k, tok_if k⟩
theorem e_tok_app1 {x y z : Str} {a : T} (K : KA x z) (h : a.WF) (hd : a.depth ≤ 8) (ih : TokAt a fd__law_tokens) : TokV (a.depth + 1) (.tup [.str x, .str y, .lst [a.enc]]) ((z, y) :: tOpen :: (a.toks ++ [tClose])) fd__law_tokens := by
  refine atFd (p := TokV (a.depth + 1) (.tup [.str x, .str y, .lst [a.enc]]) ((z, y) :: tOpen :: (a.toks ++ [tClose]))) ⟨_, rfl, ?_⟩
  intro μ k hk
  cases k with
  | zero => exact absurd hk (Nat.not_succ_le_zero _)
  | succ k =>
    obtain ⟨N, e⟩ := ih μ k (Nat.le_of_succ_le_succ hk)
    have nn := Dat.ne_nil (T.enc_dat (t := a) h) .nil
    have hz2 := T.toks_small hd
    unfold toks at e
    refine ev_inx N 60 (3 * k) 7 fun m d hd => ?_
    refine (enter (by rfl) rfl).trans ?_; dsimp only
    obtain ⟨hs, k1, k2, k3, k4, k5, k6⟩ := K
    simp -dsimp (disch := first | assumption | exact mi | exact jj rfl | exact ke | exact kc | exact kf | exact kg | exact kh ‹_› rfl | exact mv ‹_› | exact mw ‹_› | exact mx ‹_› | exact my ‹_› | exact mz ‹_› | exact lv ‹_› rfl | exact lw ‹_› rfl | exact lu ‹_› rfl | exact m5 ‹_› rfl | exact m7 rfl | exact mj ‹_› rfl | exact ml ke | exact ml (ml ke) | exact ml (ml kc) | exact ml (ml (ml ke)) | exact ml (ml (ml kc)) | decide +kernel | omega | (intros; contradiction) | (simp only [List.length_append, List.length_cons, List.length_nil, List.length_map, List.length_replicate]; omega)) [zipArgs, gy, gz, jk, jm, ki, kj, bq, bg, br, b7, b8, bt, bu, jn, km, ko, jo, g5, g6, bh, bv, bi, d7, aa, ag, a5, ah, au, ac, ai, a6, aj, av, ak, aw, ba, ax, a7, ae, al, a8, am, ay, af, ao, a9, aq, az, jp, bj, bw, bk, bn, bc, g7, g8, g9, jq, jr, kr, kt, bz, b4, b9, b5, ce, d9, cw, eb, cy, cz, ku, kx, ky, kz, ec, eg, c6, eh, ej, ek, er, h9, cg, et, ch, eu, ia, ey, jt, ju, c7, ci, cj, cn, ↓k7, ↓k8, ↓k9, ↓lb, ez, c8, fa, ↓lz, lf, jv, ib, lg, lh, lj, ll, lq, ls, c9, da, cq, dg, cr, b6, cu, l6, l7, l8, l9, jw, ic, jx, jy, ie, ig, n_radd', jz, ij, j0, j1, j2, j3, ik, fc, fe, fg, bp, be, dh, j4, cv, im, j5, j6, j7, io, ip, iq, ir, j8, iu, ma, mc, md, me, mm, mn, mr, mf, iv, fh, iw, iy, ↓iz, i0, fi, di, fj, dk, fk, fm, dl, fp, fq, i6, ms, mt, i7, ft, fu, dm, dq, i9, fv, dt, fw, du, ja, dw, fy, fz, jb, f0, f5, dy, dz, jc, f7, d3, f8, d4, jd, d5, f9, gn, mu, j9, gp, gq, as1', as2', as3', appendV, popV, je, mh, gs, gu, jf, d6, gv, jg, jh, ji, gw, gx, r_f0, r_f1, ef_0, ef_1, eqV_str, Tk.v, k1, k2, k3, k4, k5, k6, ite_ok, e, tab_enumerate, nn, tab__law_tokens]
theorem e_tok_app2 {x y z : Str} {a b : T} (K : KA x z) (h : a.WF ∧ b.WF) (hd1 : a.depth ≤ 8) (hd2 : b.depth ≤ 8) (ih : TokAt a fd__law_tokens) (ih2 : TokAt b fd__law_tokens) : TokV (max a.depth b.depth + 1) (.tup [.str x, .str y, .lst [a.enc, b.enc]]) ((z, y) :: tOpen :: (a.toks ++ tComma :: (b.toks ++ [tClose]))) fd__law_tokens := by
  refine atFd (p := TokV (max a.depth b.depth + 1) (.tup [.str x, .str y, .lst [a.enc, b.enc]]) ((z, y) :: tOpen :: (a.toks ++ tComma :: (b.toks ++ [tClose])))) ⟨_, rfl, ?_⟩
  intro μ k hk
  cases k with
  | zero => exact absurd hk (Nat.not_succ_le_zero _)
  | succ k =>
    obtain ⟨N, e⟩ := ih μ k (Nat.le_trans (Nat.le_max_left _ _) (Nat.le_of_succ_le_succ hk))
    obtain ⟨N2, e2⟩ := ih2 μ k (Nat.le_trans (Nat.le_max_right _ _) (Nat.le_of_succ_le_succ hk))
    have nn := Dat.ne_nil (k := 26) ((T.enc_dat h.1).mono (Nat.add_le_add_right (Nat.mul_le_mul_left 3 hd1) 2)) (.cons ((T.enc_dat h.2).mono (Nat.add_le_add_right (Nat.mul_le_mul_left 3 hd2) 2)) .nil)
    have hz1 := T.toks_small hd1
    have hz2 := T.toks_small hd2
    unfold toks at e e2
    refine ev_inx (N + N2) 60 (3 * k) 7 fun m d hd => ?_
    refine (enter (by rfl) rfl).trans ?_; dsimp only
    obtain ⟨hs, k1, k2, k3, k4, k5, k6⟩ := K
    simp -dsimp (disch := first | assumption | exact mi | exact jj rfl | exact ke | exact kc | exact kf | exact kg | exact kh ‹_› rfl | exact mv ‹_› | exact mw ‹_› | exact mx ‹_› | exact my ‹_› | exact mz ‹_› | exact lv ‹_› rfl | exact lw ‹_› rfl | exact lu ‹_› rfl | exact m5 ‹_› rfl | exact m7 rfl | exact mj ‹_› rfl | exact ml ke | exact ml (ml ke) | exact ml (ml kc) | exact ml (ml (ml ke)) | exact ml (ml (ml kc)) | decide +kernel | omega | (intros; contradiction) | (simp only [List.length_append, List.length_cons, List.length_nil, List.length_map, List.length_replicate]; omega)) [zipArgs, gy, gz, jk, jm, ki, kj, bq, bg, br, b7, b8, bt, bu, jn, km, ko, jo, g5, g6, bh, bv, bi, d7, aa, ag, a5, ah, au, ac, ai, a6, aj, av, ak, aw, ba, ax, a7, ae, al, a8, am, ay, af, ao, a9, aq, az, jp, bj, bw, bk, bn, bc, g7, g8, g9, jq, jr, kr, kt, bz, b4, b9, b5, ce, d9, cw, eb, cy, cz, ku, kx, ky, kz, ec, eg, c6, eh, ej, ek, er, h9, cg, et, ch, eu, ia, ey, jt, ju, c7, ci, cj, cn, ↓k7, ↓k8, ↓k9, ↓lb, ez, c8, fa, ↓lz, lf, jv, ib, lg, lh, lj, ll, lq, ls, c9, da, cq, dg, cr, b6, cu, l6, l7, l8, l9, jw, ic, jx, jy, ie, ig, n_radd', jz, ij, j0, j1, j2, j3, ik, fc, fe, fg, bp, be, dh, j4, cv, im, j5, j6, j7, io, ip, iq, ir, j8, iu, ma, mc, md, me, mm, mn, mr, mf, iv, fh, iw, iy, ↓iz, i0, fi, di, fj, dk, fk, fm, dl, fp, fq, i6, ms, mt, i7, ft, fu, dm, dq, i9, fv, dt, fw, du, ja, dw, fy, fz, jb, f0, f5, dy, dz, jc, f7, d3, f8, d4, jd, d5, f9, gn, mu, j9, gp, gq, as1', as2', as3', appendV, popV, je, mh, gs, gu, jf, d6, gv, jg, jh, ji, gw, gx, r_f0, r_f1, ef_0, ef_1, eqV_str, Tk.v, k1, k2, k3, k4, k5, k6, ite_ok, e, e2, tab_enumerate, nn, tab__law_tokens]
theorem e_tok_two {w : String} {l r : T} (h : w ∈ ops16.map (·.1) ∧ l.WF ∧ r.WF) (hd1 : l.depth ≤ 8) (hd2 : r.depth ≤ 8) (ih : TokAt l fd__law_tokens) (ih2 : TokAt r fd__law_tokens) : TokV (max l.depth r.depth + 1) (.tup [.str "two", .str w, l.enc, r.enc]) (partOf (opS w) l.level l.toks ++ (opK w, Str.ofString w) :: partOf (opS w + 1) r.level r.toks) fd__law_tokens := by
  refine atFd (p := TokV (max l.depth r.depth + 1) (.tup [.str "two", .str w, l.enc, r.enc]) (partOf (opS w) l.level l.toks ++ (opK w, Str.ofString w) :: partOf (opS w + 1) r.level r.toks)) ⟨_, rfl, ?_⟩
  intro μ k hk
  cases k with
  | zero => exact absurd hk (Nat.not_succ_le_zero _)
  | succ k =>
    obtain ⟨N, e⟩ := e_part h.2.1 hd1 ih (opS w) μ k (Nat.le_trans (Nat.le_max_left _ _) (Nat.le_of_succ_le_succ hk))
    obtain ⟨N2, e2⟩ := e_part h.2.2 hd2 ih2 (opS w + 1) μ k (Nat.le_trans (Nat.le_max_right _ _) (Nat.le_of_succ_le_succ hk))
    obtain ⟨N3, e3⟩ := e_levels μ
    obtain ⟨N4, e4⟩ := e_signw h.1 μ
    have hx := lv_at h.1
    have p1 := partOf_small (a := opS w) (b := l.level) (T.toks_small hd1)
    have p2 := partOf_small (a := opS w + 1) (b := r.level) (T.toks_small hd2)
    unfold toks at e e2
    refine ev_inx (N + N2 + N3 + N4) 60 (3 * k) 7 fun m d hd => ?_
    refine (enter (by rfl) rfl).trans ?_; dsimp only
    simp -dsimp (disch := first | assumption | exact mi | exact jj rfl | exact ke | exact kc | exact kf | exact kg | exact kh ‹_› rfl | exact mv ‹_› | exact mw ‹_› | exact mx ‹_› | exact my ‹_› | exact mz ‹_› | exact lv ‹_› rfl | exact lw ‹_› rfl | exact lu ‹_› rfl | exact m5 ‹_› rfl | exact m7 rfl | exact mj ‹_› rfl | exact ml ke | exact ml (ml ke) | exact ml (ml kc) | exact ml (ml (ml ke)) | exact ml (ml (ml kc)) | decide +kernel | omega | (intros; contradiction) | (simp only [List.length_append, List.length_cons, List.length_nil, List.length_map, List.length_replicate]; omega)) [zipArgs, gy, gz, jk, jm, ki, kj, bq, bg, br, b7, b8, bt, bu, jn, km, ko, jo, g5, g6, bh, bv, bi, d7, aa, ag, a5, ah, au, ac, ai, a6, aj, av, ak, aw, ba, ax, a7, ae, al, a8, am, ay, af, ao, a9, aq, az, jp, bj, bw, bk, bn, bc, g7, g8, g9, jq, jr, kr, kt, bz, b4, b9, b5, ce, d9, cw, eb, cy, cz, ku, kx, ky, kz, ec, eg, c6, eh, ej, ek, er, h9, cg, et, ch, eu, ia, ey, jt, ju, c7, ci, cj, cn, ↓k7, ↓k8, ↓k9, ↓lb, ez, c8, fa, ↓lz, lf, jv, ib, lg, lh, lj, ll, lq, ls, c9, da, cq, dg, cr, b6, cu, l6, l7, l8, l9, jw, ic, jx, jy, ie, ig, n_radd', jz, ij, j0, j1, j2, j3, ik, fc, fe, fg, bp, be, dh, j4, cv, im, j5, j6, j7, io, ip, iq, ir, j8, iu, ma, mc, md, me, mm, mn, mr, mf, iv, fh, iw, iy, ↓iz, i0, fi, di, fj, dk, fk, fm, dl, fp, fq, i6, ms, mt, i7, ft, fu, dm, dq, i9, fv, dt, fw, du, ja, dw, fy, fz, jb, f0, f5, dy, dz, jc, f7, d3, f8, d4, jd, d5, f9, gn, mu, j9, gp, gq, as1', as2', as3', appendV, popV, je, mh, gs, gu, jf, d6, gv, jg, jh, ji, gw, gx, r_f0, r_f1, ef_0, ef_1, eqV_str, Tk.v, inN_two, e, e2, e3, e4, hx, tab__law_part, tab__law_levels, tab__law_sign]
theorem e_tokens {t : T} : t.WF → t.depth ≤ 8 → TokAt t fd__law_tokens := by
  induction t with
  | num i => exact fun h _ => e_tok_num h
  | name x => exact fun _ _ => e_tok_leaf s_name (by decide +kernel) inN_name
  | text x => exact fun _ _ => e_tok_leaf s_text (by decide +kernel) inN_text
  | rnd => exact fun _ _ => e_tok_cl (ka_k .call)
  | fna => exact fun _ _ => e_tok_cl (ka_k .fn)
  | neg t ih => exact fun h hd => e_tok_neg h (Nat.le_of_succ_le hd) (ih h (Nat.le_of_succ_le hd))
  | not t ih => exact fun h hd => e_tok_not h (Nat.le_of_succ_le hd) (ih h (Nat.le_of_succ_le hd))
  | app1 k a ih => exact fun h hd => e_tok_app1 (ka_k k) h (Nat.le_of_succ_le hd) (ih h (Nat.le_of_succ_le hd))
  | app2 k a b ih ih2 => exact fun h hd => e_tok_app2 (ka_k k) h (d_l hd) (d_r hd) (ih h.1 (d_l hd)) (ih2 h.2 (d_r hd))
  | two w l r ih ih2 => exact fun h hd => e_tok_two h (d_l hd) (d_r hd) (ih h.2.1 (d_l hd)) (ih2 h.2.2 (d_r hd))
end Mine
namespace Mine
theorem slice_ints (l : List Int) : ∃ js : List Int, sliceV (.lst (l.map .int)) none (some 24) = some (.lst (js.map .int)) ∧ js.length ≤ l.length := by
  have hb : sliceBounds none (some 24) none l.length = (0, max 0 (min 24 (l.length : Int)), 1) := by
    unfold sliceBounds
    simp
  refine ⟨(sliceRange 0 (max 0 (min 24 (l.length : Int))) 1).filterMap (l[·]?), ?_, ?_⟩
  · unfold sliceV
    simp only [List.length_map, hb]
    congr 2
    rw [List.map_filterMap]
    congr 1
    funext i
    rw [List.getElem?_map]
  · refine Nat.le_trans (List.length_filterMap_le _ _) (sliceRange_length_le _ _ _ _ (fun _ => ⟨Int.le_refl _, by omega⟩) (fun h => absurd (by decide) h))
noncomputable def lcOf : Expr → Option (Expr × Scope)
  | .ListComp e _ sc _ => some (e, sc)
  | _ => none
noncomputable def nthE (n : Nat) (e : Expr) : Expr := match view e with
  | .list es _ => es.getD n e
  | .call _ as _ _ => as.getD n e
  | _ => e
noncomputable def compA (l : List Stmt) : Option (Expr × Scope) := l[0]?.bind fun s => match sv s with
  | .asg _ e _ => lcOf e
  | _ => none
noncomputable def compB (l : List Stmt) : Option (Expr × Scope) := l[1]?.bind fun s => match sv s with
  | .asg _ e _ => lcOf (nthE 0 (nthE 2 e))
  | _ => none
theorem is_law : (tab "law").isSome = true := by rfl
noncomputable abbrev fd_law := fdOf "law" is_law
theorem tab_law : tab "law" = some fd_law := tab_fd _
theorem tab_abs : tab "abs" = none := by rfl
theorem tab_int : tab "int" = none := by rfl
theorem tab_sum : tab "sum" = none := by rfl
theorem blt_abs : ("abs" : Str) ∈ bltNames := by simp [bltNames]
theorem blt_int : ("int" : Str) ∈ bltNames := by simp [bltNames]
theorem blt_sum : ("sum" : Str) ∈ bltNames := by simp [bltNames]
noncomputable def iabs (i : Int) : Int := if i < 0 then -i else i
theorem abs1 {i : Int} : absV [.int i] = some (.int (if i < 0 then -i else i)) := rfl
theorem int1 {i : Int} : intV [.int i] = some (.int i) := rfl
noncomputable abbrev CompA (fd : DefRec) : Prop := ∀ e sc, compA fd.body = some (e, sc) → ∀ (js : List Int), ∀ n, js.length + 60 ≤ n → ∀ d ρ μ, evComp tab cst n d sc ρ "cell" μ e (js.map .int) = .ok ((js.map iabs).map .int) μ
theorem comp_a : CompA fd_law := by
  refine atFd (p := CompA) ⟨_, rfl, ?_⟩
  intro e sc he
  replace he : some (_, _) = some (e, sc) := he
  cases he
  intro js
  induction js with
  | nil =>
    intro n hn d ρ μ
    obtain ⟨n, rfl⟩ : ∃ e, n = e + 60 := ⟨n - 60, by simp at hn; omega⟩
    exact ec
  | cons j js ih =>
    intro n hn d ρ μ
    obtain ⟨n, rfl⟩ : ∃ e, n = e + 61 := ⟨n - 61, by simp at hn; omega⟩
    simp only [List.length_cons] at hn
    have e2 := fun d ρ μ => ih (n + 60) (by first | exact lu (by assumption) rfl | exact lv (by assumption) rfl | exact lw (by assumption) rfl | exact lx (by assumption) rfl | exact ly (by assumption) rfl | omega) d ρ μ
    rw [List.map_cons]
    simp -dsimp (disch := first | assumption | exact mi | exact jj rfl | exact ke | exact kc | exact kf | exact kg | exact kh ‹_› rfl | exact mv ‹_› | exact mw ‹_› | exact mx ‹_› | exact my ‹_› | exact mz ‹_› | exact lv ‹_› rfl | exact lw ‹_› rfl | exact lu ‹_› rfl | exact m5 ‹_› rfl | exact m7 rfl | exact mj ‹_› rfl | exact ml ke | exact ml (ml ke) | exact ml (ml kc) | exact ml (ml (ml ke)) | exact ml (ml (ml kc)) | decide +kernel | omega | (intros; contradiction)) [zipArgs, gy, gz, jk, jm, ki, kj, bq, bg, br, b7, b8, bt, bu, jn, km, ko, jo, g5, g6, bh, bv, bi, d7, aa, ag, a5, ah, au, ac, ai, a6, aj, av, ak, aw, ba, ax, a7, ae, al, a8, am, ay, af, ao, a9, aq, az, jp, bj, bw, bk, bn, bc, g7, g8, g9, jq, jr, kr, kt, bz, b4, b9, b5, ce, d9, cw, eb, cy, cz, ku, kx, ky, kz, ec, eg, c6, eh, ej, ek, er, h9, cg, et, ch, eu, ia, ey, jt, ju, c7, ci, cj, cn, ↓k7, ↓k8, ↓k9, ↓lb, ez, c8, fa, ↓lz, lf, jv, ib, lg, lh, lj, ll, lq, ls, c9, da, cq, dg, cr, b6, cu, l6, l7, l8, l9, jw, ic, jx, jy, ie, ig, n_radd', jz, ij, j0, j1, j2, j3, ik, fc, fe, fg, bp, be, dh, j4, cv, im, j5, j6, j7, io, ip, iq, ir, j8, iu, ma, mc, md, me, mm, mn, mr, mf, iv, fh, iw, iy, ↓iz, i0, fi, di, fj, dk, fk, fm, dl, fp, fq, i6, ms, mt, i7, ft, fu, dm, dq, i9, fv, dt, fw, du, ja, dw, fy, fz, jb, f0, f5, dy, dz, jc, f7, d3, f8, d4, jd, d5, f9, gn, mu, j9, gp, gq, as1', as2', as3', appendV, popV, je, mh, gs, gu, jf, d6, gv, jg, jh, ji, gw, gx, tab_abs, tab_int, blt_abs, blt_int, abs1, int1, e2, iabs]
noncomputable abbrev CompB (fd : DefRec) : Prop := ∀ e sc, compB fd.body = some (e, sc) → ∀ (js : List Int), ∀ n, js.length + 60 ≤ n → ∀ d ρ μ, evComp tab cst n d sc ρ "cell" μ e (js.map .int) = .ok ((js.map fun i => i.fmod 50).map .int) μ
theorem comp_b : CompB fd_law := by
  refine atFd (p := CompB) ⟨_, rfl, ?_⟩
  intro e sc he
  replace he : some (_, _) = some (e, sc) := he
  cases he
  intro js
  induction js with
  | nil =>
    intro n hn d ρ μ
    obtain ⟨n, rfl⟩ : ∃ e, n = e + 60 := ⟨n - 60, by simp at hn; omega⟩
    exact ec
  | cons j js ih =>
    intro n hn d ρ μ
    obtain ⟨n, rfl⟩ : ∃ e, n = e + 61 := ⟨n - 61, by simp at hn; omega⟩
    simp only [List.length_cons] at hn
    have e2 := fun d ρ μ => ih (n + 60) (by first | exact lu (by assumption) rfl | exact lv (by assumption) rfl | exact lw (by assumption) rfl | exact lx (by assumption) rfl | exact ly (by assumption) rfl | omega) d ρ μ
    rw [List.map_cons]
    simp -dsimp (disch := first | assumption | exact mi | exact jj rfl | exact ke | exact kc | exact kf | exact kg | exact kh ‹_› rfl | exact mv ‹_› | exact mw ‹_› | exact mx ‹_› | exact my ‹_› | exact mz ‹_› | exact lv ‹_› rfl | exact lw ‹_› rfl | exact lu ‹_› rfl | exact m5 ‹_› rfl | exact m7 rfl | exact mj ‹_› rfl | exact ml ke | exact ml (ml ke) | exact ml (ml kc) | exact ml (ml (ml ke)) | exact ml (ml (ml kc)) | decide +kernel | omega | (intros; contradiction)) [zipArgs, gy, gz, jk, jm, ki, kj, bq, bg, br, b7, b8, bt, bu, jn, km, ko, jo, g5, g6, bh, bv, bi, d7, aa, ag, a5, ah, au, ac, ai, a6, aj, av, ak, aw, ba, ax, a7, ae, al, a8, am, ay, af, ao, a9, aq, az, jp, bj, bw, bk, bn, bc, g7, g8, g9, jq, jr, kr, kt, bz, b4, b9, b5, ce, d9, cw, eb, cy, cz, ku, kx, ky, kz, ec, eg, c6, eh, ej, ek, er, h9, cg, et, ch, eu, ia, ey, jt, ju, c7, ci, cj, cn, ↓k7, ↓k8, ↓k9, ↓lb, ez, c8, fa, ↓lz, lf, jv, ib, lg, lh, lj, ll, lq, ls, c9, da, cq, dg, cr, b6, cu, l6, l7, l8, l9, jw, ic, jx, jy, ie, ig, n_radd', jz, ij, j0, j1, j2, j3, ik, fc, fe, fg, bp, be, dh, j4, cv, im, j5, j6, j7, io, ip, iq, ir, j8, iu, ma, mc, md, me, mm, mn, mr, mf, iv, fh, iw, iy, ↓iz, i0, fi, di, fj, dk, fk, fm, dl, fp, fq, i6, ms, mt, i7, ft, fu, dm, dq, i9, fv, dt, fw, du, ja, dw, fy, fz, jb, f0, f5, dy, dz, jc, f7, d3, f8, d4, jd, d5, f9, gn, mu, j9, gp, gq, as1', as2', as3', appendV, popV, je, mh, gs, gu, jf, d6, gv, jg, jh, ji, gw, gx, e2]
theorem ints_of : ∀ (ns : List Int), intsOf (ns.map .int) = some ns
  | [] => rfl
  | n :: r => by show (intsOf (r.map .int)).map (n :: ·) = _; rw [ints_of r]; rfl
theorem sum_small : ∀ (ns : List Int), (∀ n ∈ ns, 0 ≤ n ∧ n ≤ 1000) → 0 ≤ ns.sum ∧ ns.sum ≤ 1000 * ns.length
  | [], _ => by simp
  | n :: r, h => by
    have h1 := h n List.mem_cons_self
    have h2 := sum_small r fun m hm => h m (List.mem_cons_of_mem _ hm)
    simp only [List.sum_cons, List.length_cons]
    omega
theorem sumV_ints {ns : List Int} (hl : ns.length ≤ 100) (h : ∀ n ∈ ns, 0 ≤ n ∧ n ≤ 1000) : sumV [.lst (ns.map .int)] = some (.int ns.sum) := by
  unfold sumV
  simp only [ints_of]
  rw [if_pos ⟨by omega, h⟩]
end Mine
namespace Mine
theorem is__law_long_right : (tab "_law_long_right").isSome = true := by rfl
noncomputable abbrev fd__law_long_right := fdOf "_law_long_right" is__law_long_right
theorem tab__law_long_right : tab "_law_long_right" = some fd__law_long_right := tab_fd _
noncomputable def forOf : List Stmt → Option (Expr × List Stmt)
  | s :: r => (match sv s with
    | .fo t b => some (t, b)
    | _ => forOf r)
  | [] => none
theorem lng_out : ∀ (n : Nat) (acc : V), lng (n + 1) acc = .tup [.str "two", .str "-", lng n acc, vB]
  | 0, _ => rfl
  | n + 1, acc => lng_out n _
noncomputable abbrev ForDue (fd : DefRec) : Prop := ∀ t b, forOf fd.body = some (t, b) → ∀ (n i : Nat) (acc : V) (ρ : Rho) (μ : M), ρ.lookup ("due" : Str) = some acc →
  ∃ ρ' : Rho, ρ'.lookup ("due" : Str) = some (lng n acc) ∧ (∀ y : Str, y ≠ "due" → y ≠ "turn" → ρ'.lookup y = ρ.lookup y) ∧ ∀ m, n + 60 ≤ m → ∀ d, evF tab cst m d fd.scope ρ μ t b (rangeFrom i n) = .ok (.next, ρ') μ
theorem for_due : ForDue fd__law_long_right := by
  refine atFd (p := ForDue) ⟨_, rfl, ?_⟩
  intro t b ht
  replace ht : some _ = some _ := ht
  cases ht
  intro n
  induction n with
  | zero =>
    intro i acc ρ μ h
    refine ⟨ρ, h, fun _ _ _ => rfl, fun m hm d => ?_⟩
    first | obtain ⟨m, rfl, hq_m⟩ := sub_ex2 (C := 60) hm | obtain ⟨m, rfl⟩ := sub_ex1 (C := 60) hm | obtain ⟨m, rfl⟩ : ∃ e, m = e + 60 := ⟨m - 60, by omega⟩
    exact r_f0
  | succ n ih =>
    intro i acc ρ μ h
    obtain ⟨ρ', h1, h2, e⟩ := ih (i + 1) (.tup [.str "two", .str "-", acc, vB]) (Rho.set (Rho.set ρ "turn" (.int i)) "due" (.tup [.str "two", .str "-", acc, vB])) μ (by simp [lookup_set])
    refine ⟨ρ', h1, fun y y1 y2 => by rw [h2 y y1 y2]; simp [lookup_set, y1, y2], fun m hm d => ?_⟩
    first | obtain ⟨m, rfl, hq_m⟩ := sub_ex2 (C := 61) hm | obtain ⟨m, rfl⟩ := sub_ex1 (C := 61) hm | obtain ⟨m, rfl⟩ : ∃ e, m = e + 61 := ⟨m - 61, by omega⟩
    refine (r_f1 (v := .int i) (vs := rangeFrom (i + 1) n)).trans ?_
    have e' := e (m + 60) (by first | exact lu (by assumption) rfl | exact lv (by assumption) rfl | exact lw (by assumption) rfl | exact lx (by assumption) rfl | exact ly (by assumption) rfl | omega)
    unfold vB at e'
    simp -dsimp (disch := first | assumption | exact mi | exact jj rfl | exact ke | exact kc | exact kf | exact kg | exact kh ‹_› rfl | exact mv ‹_› | exact mw ‹_› | exact mx ‹_› | exact my ‹_› | exact mz ‹_› | exact lv ‹_› rfl | exact lw ‹_› rfl | exact lu ‹_› rfl | exact m5 ‹_› rfl | exact m7 rfl | exact mj ‹_› rfl | exact ml ke | exact ml (ml ke) | exact ml (ml kc) | exact ml (ml (ml ke)) | exact ml (ml (ml kc)) | decide +kernel | omega | (intros; contradiction)) [zipArgs, gy, gz, jk, jm, ki, kj, bq, bg, br, b7, b8, bt, bu, jn, km, ko, jo, g5, g6, bh, bv, bi, d7, aa, ag, a5, ah, au, ac, ai, a6, aj, av, ak, aw, ba, ax, a7, ae, al, a8, am, ay, af, ao, a9, aq, az, jp, bj, bw, bk, bn, bc, g7, g8, g9, jq, jr, kr, kt, bz, b4, b9, b5, ce, d9, cw, eb, cy, cz, ku, kx, ky, kz, ec, eg, c6, eh, ej, ek, er, h9, cg, et, ch, eu, ia, ey, jt, ju, c7, ci, cj, cn, ↓k7, ↓k8, ↓k9, ↓lb, ez, c8, fa, ↓lz, lf, jv, ib, lg, lh, lj, ll, lq, ls, c9, da, cq, dg, cr, b6, cu, l6, l7, l8, l9, jw, ic, jx, jy, ie, ig, n_radd', jz, ij, j0, j1, j2, j3, ik, fc, fe, fg, bp, be, dh, j4, cv, im, j5, j6, j7, io, ip, iq, ir, j8, iu, ma, mc, md, me, mm, mn, mr, mf, iv, fh, iw, iy, ↓iz, i0, fi, di, fj, dk, fk, fm, dl, fp, fq, i6, ms, mt, i7, ft, fu, dm, dq, i9, fv, dt, fw, du, ja, dw, fy, fz, jb, f0, f5, dy, dz, jc, f7, d3, f8, d4, jd, d5, f9, gn, mu, j9, gp, gq, as1', as2', as3', appendV, popV, je, mh, gs, gu, jf, d6, gv, jg, jh, ji, gw, gx, h, e']
theorem eqBB : eqV (.tup [.str "name", .str "B%"]) (.tup [.str "name", .str "B%"]) = some true := by kernel_rfl
theorem eqAA : eqV (.tup [.str "name", .str "A"]) (.tup [.str "name", .str "A"]) = some true := by kernel_rfl
theorem vA_dat (k : Nat) : Dat (k + 1) vA := (Dats.cons (k := k) (.str (by decide +kernel)) (.cons (.str (by decide +kernel)) .nil)).tup
theorem vB_dat (k : Nat) : Dat (k + 1) vB := (Dats.cons (k := k) (.str (by decide +kernel)) (.cons (.str (by decide +kernel)) .nil)).tup
theorem lng_dat : ∀ n : Nat, Dat (n + 1) (lng n vA)
  | 0 => vA_dat 0
  | n + 1 => by
    rw [lng_out]
    exact (Dats.cons (k := n + 1) (.str (by decide +kernel)) (.cons (.str (by decide +kernel)) (.cons (lng_dat n) (.cons (vB_dat n) .nil)))).tup
theorem found_sn (n : Nat) (j : Int) : eqV (.tup [lng n vA, .int j]) (.str "SN") = some false := Dats.tup_str (k := n + 1) (Dats.cons (lng_dat n) (.cons .int .nil)) (by decide +kernel)
noncomputable abbrev WhileOk (fd : DefRec) : Prop := ∀ t b, whileOf fd.body = some (t, b) → ∀ (n : Nat) (j : Int) (ρ : Rho) (μ : M), ρ.lookup ("due" : Str) = some (lng n vA) → ρ.lookup ("found" : Str) = some (.tup [lng n vA, .int j]) →
  ∃ ρ' : Rho, ρ'.lookup ("due" : Str) = some vA ∧ ρ'.lookup ("found" : Str) = some (.tup [vA, .int j]) ∧ (∀ y : Str, y ≠ "due" → y ≠ "found" → ρ'.lookup y = ρ.lookup y) ∧ ∀ m, n + 60 ≤ m → ∀ d, evW tab cst m d fd.scope ρ μ t b = .ok (.next, ρ') μ
theorem while_ok : WhileOk fd__law_long_right := by
  refine atFd (p := WhileOk) ⟨_, rfl, ?_⟩
  intro t b ht
  replace ht : some _ = some _ := ht
  cases ht
  have s1 : sok "name" := by decide +kernel
  have s2 : sok "two" := by decide +kernel
  have s3 : sok "-" := by decide +kernel
  intro n
  induction n with
  | zero =>
    intro j ρ μ h1 h2
    have hf := found_sn 0 j
    refine ⟨ρ, h1, h2, fun _ _ _ => rfl, fun m hm d => ?_⟩
    first | obtain ⟨m, rfl, hq_m⟩ := sub_ex2 (C := 60) hm | obtain ⟨m, rfl⟩ := sub_ex1 (C := 60) hm | obtain ⟨m, rfl⟩ : ∃ e, m = e + 60 := ⟨m - 60, by omega⟩
    rw [show lng 0 vA = .tup [.str "name", .str "A"] from rfl] at h1 h2 hf
    rw [r_w]
    simp -dsimp (disch := first | assumption | exact mi | exact jj rfl | exact ke | exact kc | exact kf | exact kg | exact kh ‹_› rfl | exact mv ‹_› | exact mw ‹_› | exact mx ‹_› | exact my ‹_› | exact mz ‹_› | exact lv ‹_› rfl | exact lw ‹_› rfl | exact lu ‹_› rfl | exact m5 ‹_› rfl | exact m7 rfl | exact mj ‹_› rfl | exact ml ke | exact ml (ml ke) | exact ml (ml kc) | exact ml (ml (ml ke)) | exact ml (ml (ml kc)) | decide +kernel | omega | (intros; contradiction)) [zipArgs, gy, gz, jk, jm, ki, kj, bq, bg, br, b7, b8, bt, bu, jn, km, ko, jo, g5, g6, bh, bv, bi, d7, aa, ag, a5, ah, au, ac, ai, a6, aj, av, ak, aw, ba, ax, a7, ae, al, a8, am, ay, af, ao, a9, aq, az, jp, bj, bw, bk, bn, bc, g7, g8, g9, jq, jr, kr, kt, bz, b4, b9, b5, ce, d9, cw, eb, cy, cz, ku, kx, ky, kz, ec, eg, c6, eh, ej, ek, er, h9, cg, et, ch, eu, ia, ey, jt, ju, c7, ci, cj, cn, ↓k7, ↓k8, ↓k9, ↓lb, ez, c8, fa, ↓lz, lf, jv, ib, lg, lh, lj, ll, lq, ls, c9, da, cq, dg, cr, b6, cu, l6, l7, l8, l9, jw, ic, jx, jy, ie, ig, n_radd', jz, ij, j0, j1, j2, j3, ik, fc, fe, fg, bp, be, dh, j4, cv, im, j5, j6, j7, io, ip, iq, ir, j8, iu, ma, mc, md, me, mm, mn, mr, mf, iv, fh, iw, iy, ↓iz, i0, fi, di, fj, dk, fk, fm, dl, fp, fq, i6, ms, mt, i7, ft, fu, dm, dq, i9, fv, dt, fw, du, ja, dw, fy, fz, jb, f0, f5, dy, dz, jc, f7, d3, f8, d4, jd, d5, f9, gn, mu, j9, gp, gq, as1', as2', as3', appendV, popV, je, mh, gs, gu, jf, d6, gv, jg, jh, ji, gw, gx, h1, h2, hf, eqV_str]
  | succ n ih =>
    intro j ρ μ h1 h2
    have hf := found_sn (n + 1) j
    obtain ⟨ρ', k1, k2, k3, e⟩ := ih j (Rho.set (Rho.set ρ "found" (.tup [lng n vA, .int j])) "due" (lng n vA)) μ (by simp [lookup_set]) (by simp [lookup_set, ofString_inj])
    refine ⟨ρ', k1, k2, fun y y1 y2 => by rw [k3 y y1 y2]; simp [lookup_set, y1, y2], fun m hm d => ?_⟩
    first | obtain ⟨m, rfl, hq_m⟩ := sub_ex2 (C := 61) hm | obtain ⟨m, rfl⟩ := sub_ex1 (C := 61) hm | obtain ⟨m, rfl⟩ : ∃ e, m = e + 61 := ⟨m - 61, by omega⟩
    have e' := e (m + 60) (by first | exact lu (by assumption) rfl | exact lv (by assumption) rfl | exact lw (by assumption) rfl | exact lx (by assumption) rfl | exact ly (by assumption) rfl | omega)
    rw [lng_out] at h1 h2 hf
    generalize lng n vA = x at h1 h2 hf e'
    unfold vB at h1 h2 hf
    rw [r_w]
    simp -dsimp (disch := first | assumption | exact mi | exact jj rfl | exact ke | exact kc | exact kf | exact kg | exact kh ‹_› rfl | exact mv ‹_› | exact mw ‹_› | exact mx ‹_› | exact my ‹_› | exact mz ‹_› | exact lv ‹_› rfl | exact lw ‹_› rfl | exact lu ‹_› rfl | exact m5 ‹_› rfl | exact m7 rfl | exact mj ‹_› rfl | exact ml ke | exact ml (ml ke) | exact ml (ml kc) | exact ml (ml (ml ke)) | exact ml (ml (ml kc)) | decide +kernel | omega | (intros; contradiction)) [zipArgs, gy, gz, jk, jm, ki, kj, bq, bg, br, b7, b8, bt, bu, jn, km, ko, jo, g5, g6, bh, bv, bi, d7, aa, ag, a5, ah, au, ac, ai, a6, aj, av, ak, aw, ba, ax, a7, ae, al, a8, am, ay, af, ao, a9, aq, az, jp, bj, bw, bk, bn, bc, g7, g8, g9, jq, jr, kr, kt, bz, b4, b9, b5, ce, d9, cw, eb, cy, cz, ku, kx, ky, kz, ec, eg, c6, eh, ej, ek, er, h9, cg, et, ch, eu, ia, ey, jt, ju, c7, ci, cj, cn, ↓k7, ↓k8, ↓k9, ↓lb, ez, c8, fa, ↓lz, lf, jv, ib, lg, lh, lj, ll, lq, ls, c9, da, cq, dg, cr, b6, cu, l6, l7, l8, l9, jw, ic, jx, jy, ie, ig, n_radd', jz, ij, j0, j1, j2, j3, ik, fc, fe, fg, bp, be, dh, j4, cv, im, j5, j6, j7, io, ip, iq, ir, j8, iu, ma, mc, md, me, mm, mn, mr, mf, iv, fh, iw, iy, ↓iz, i0, fi, di, fj, dk, fk, fm, dl, fp, fq, i6, ms, mt, i7, ft, fu, dm, dq, i9, fv, dt, fw, du, ja, dw, fy, fz, jb, f0, f5, dy, dz, jc, f7, d3, f8, d4, jd, d5, f9, gn, mu, j9, gp, gq, as1', as2', as3', appendV, popV, je, mh, gs, gu, jf, d6, gv, jg, jh, ji, gw, gx, h1, h2, hf, eqV_str, eqBB, e']
end Mine
namespace Mine
theorem tok_ok_A : Tk.Ok tA := ⟨by decide +kernel, by decide +kernel⟩
theorem tok_ok_B : Tk.Ok tB := ⟨by decide +kernel, by decide +kernel⟩
theorem tok_ok_m : Tk.Ok tMinus := ⟨by decide +kernel, by decide +kernel⟩
theorem tok_ok_o : Tk.Ok tOpen := ⟨by decide +kernel, by decide +kernel⟩
theorem tok_ok_c : Tk.Ok tClose := ⟨by decide +kernel, by decide +kernel⟩
theorem minusB_ok : ∀ n, ∀ t ∈ minusB n, Tk.Ok t
  | 0, t, h => by cases h
  | n + 1, t, h => by
    simp only [minusB, List.mem_cons] at h
    rcases h with rfl | rfl | h
    · exact tok_ok_m
    · exact tok_ok_B
    · exact minusB_ok n t h
theorem long_ok {n : Nat} (h : n ≤ 1000) : OkTs (tA :: minusB n) := ⟨by rw [List.length_cons, len_minusB]; omega, fun t ht => by
  rcases List.mem_cons.mp ht with rfl | ht
  · exact tok_ok_A
  · exact minusB_ok n t ht⟩
theorem deep_ok {n : Nat} (h : n ≤ 1000) : OkTs (deepT n) := ⟨by simp [deepT]; omega, fun t ht => by
  simp only [deepT, List.mem_append, List.mem_cons, List.mem_replicate] at ht
  rcases ht with ⟨_, rfl⟩ | rfl | ⟨_, rfl⟩
  · exact tok_ok_o
  · exact tok_ok_A
  · exact tok_ok_c⟩
theorem rep_minus : ∀ n : Nat, (List.replicate n [V.tup [.str "sign", .str "-"], .tup [.str "name", .str "B%"]]).flatten = (minusB n).map Tk.v
  | 0 => rfl
  | n + 1 => by rw [List.replicate_succ, List.flatten_cons, rep_minus n]; rfl
theorem rep_one (v : V) : ∀ n : Nat, (List.replicate n [v]).flatten = List.replicate n v
  | 0 => rfl
  | n + 1 => by rw [List.replicate_succ, List.flatten_cons, rep_one v n]; rfl
theorem two_dat (v : V) (k : Nat) (h : Dat k v) (i : Int) : Dat (k + 1) (.tup [v, .int i]) := (Dats.cons h (.cons .int .nil)).tup
theorem map_rep {n : Nat} {t : Tk} : (List.replicate n t).map Tk.v = List.replicate n t.v := List.map_replicate
theorem deep_len {q : Nat} (h : q ≤ 63) : (deepT q).length ≤ 8000 := by simp [deepT]; omega
theorem e_long {cs : List Int} {s : Int} (B : BoxOk cs s) {k : Int} (h1 : -1 ≤ k) (h2 : k ≤ 9000) (r : M) : ∃ μ', Ev 38 fd__law_long_right (bx cs s k r) [.ref 0] (.ok (.bool true) μ') := by
  obtain ⟨i, hi, N1, e1⟩ := e_drawn B h1 (Int.le_trans h2 (by decide)) (m := 200) (by decide) r
  obtain ⟨j, hj, N2, e2⟩ := e_drawn B (k := k + 1) (Int.le_trans h1 (Int.le_add_of_nonneg_right (by decide))) (Int.le_trans (Int.add_le_add_right h2 1) (by decide)) (m := 7) (by decide) r
  have hn : 1 + (i : Int) = ((i + 1 : Nat) : Int) := by rw [Int.add_comm]; rfl
  have hq : 57 + (j : Int) = ((j + 57 : Nat) : Int) := by rw [Int.add_comm]; rfl
  have n1 : i + 1 ≤ 200 := Int.ofNat_lt.mp hi
  have q1 : j + 57 ≤ 63 := Nat.add_le_add_right (Nat.le_of_lt_succ (Int.ofNat_lt.mp hj)) 57
  generalize i + 1 = n at hn n1
  generalize j + 57 = q at hq q1
  clear hi hj
  obtain ⟨μ1, o1, N3, e3⟩ := e_heard_ok (long_ok (n := n) (lv n1 rfl)) (by rw [List.length_cons, len_minusB]; exact Nat.le_trans (Nat.succ_le_succ (Nat.mul_le_mul_left 2 n1)) (by decide)) (run_long n) (bx cs s (k + 1 + 1) r)
  refine atFd (p := fun fd => ForDue fd → WhileOk fd → ∃ μ', Ev 38 fd (bx cs s k r) [.ref 0] (.ok (.bool true) μ')) ⟨_, rfl, ?_⟩ for_due while_ok
  intro ff ww
  obtain ⟨ρ1, f1, f2, f3⟩ := ff _ _ rfl n 0 vA (Rho.set (Rho.set (Rho.set [(("box" : Str), V.ref 0)] "many" (.int n)) "deep" (.int q)) "due" vA) (bx cs s (k + 1 + 1) r) (by simp [lookup_set])
  obtain ⟨ρ2, g1, g2, g3, g4⟩ := ww _ _ rfl n ((1 + 2 * n : Nat) : Int) (Rho.set ρ1 "found" (.tup [lng n vA, .int ((1 + 2 * n : Nat) : Int)])) μ1 (by simp [lookup_set, ofString_inj, f1]) (by simp [lookup_set])
  have m1 : List.lookup ("many" : Str) ρ1 = some (.int n) := by rw [f2 _ (by decide +kernel) (by decide +kernel)]; simp [lookup_set, ofString_inj]
  have m2 : List.lookup ("many" : Str) ρ2 = some (.int n) := by rw [g3 _ (by decide +kernel) (by decide +kernel)]; simp [lookup_set, ofString_inj, m1]
  have d1 : List.lookup ("deep" : Str) ρ1 = some (.int q) := by rw [f2 _ (by decide +kernel) (by decide +kernel)]; simp [lookup_set, ofString_inj]
  have d2 : List.lookup ("deep" : Str) ρ2 = some (.int q) := by rw [g3 _ (by decide +kernel) (by decide +kernel)]; simp [lookup_set, ofString_inj, d1]
  have sST : sok "ST" := by decide +kernel
  have E1 := (two_dat vA 1 (vA_dat 0) (1 + 2 * (n : Int))).refl (by decide)
  have E2 := (vA_dat 0).refl (by decide)
  have E3 := (two_dat vA 1 (vA_dat 0) (2 * (q : Int) + 1)).refl (by decide)
  have lm : (minusB n).length = 2 * n := len_minusB n
  obtain ⟨μ2, v, N4, e4, hv⟩ : ∃ μ2 v N4, (∀ n, N4 ≤ n → ∀ d, 36 ≤ d → evCall tab cst n d μ1 fd__law_heard [toks (deepT q)] = .ok v μ2) ∧ ((q ≤ 60 ∧ v = .tup [vA, .int (2 * (q : Int) + 1)]) ∨ (60 < q ∧ v = .str "ST")) := by
    by_cases z : q ≤ 60
    · obtain ⟨μ2, _, N4, e4⟩ := e_heard_ok (deep_ok (n := q) (lv q1 rfl)) (deep_len q1) (run_deep_ok z) μ1
      push_cast at e4
      exact ⟨μ2, _, N4, e4, .inl ⟨z, rfl⟩⟩
    · obtain ⟨μ2, _, N4, e4⟩ := e_heard_exc (deep_ok (n := q) (lv q1 rfl)) (deep_len q1) (run_deep_st (Nat.lt_of_not_le z)) μ1
      exact ⟨μ2, _, N4, e4, .inr ⟨Nat.lt_of_not_le z, rfl⟩⟩
  refine ⟨μ2, ?_⟩
  refine ev_in (N1 + N2 + N3 + N4 + n) 100 fun m d => ?_
  have qi : (q : Int) ≤ 63 := Int.ofNat_le.mpr q1
  have ni : (n : Int) ≤ 200 := Int.ofNat_le.mpr n1
  have na : (n : Int).natAbs < 2 ^ 60 := Nat.lt_of_le_of_lt (show (n : Int).natAbs ≤ 200 from n1) (by decide)
  have qa : (q : Int).natAbs < 2 ^ 60 := Nat.lt_of_le_of_lt (show (q : Int).natAbs ≤ 63 from q1) (by decide)
  have qq : q + (0 + 1) + q ≤ 127 := Nat.add_le_add (Nat.add_le_add_right q1 1) q1
  have lm1 : 0 + 1 + (minusB n).length ≤ 401 := by rw [lm, Nat.add_comm]; exact Nat.succ_le_succ (Nat.mul_le_mul_left 2 n1)
  simp only [toks, deepT, List.map_append, List.map_cons, Tk.v, List.map_replicate] at e3 e4
  push_cast at e3 g4 g2
  unfold vA at *
  dsimp only at f3 g4
  refine (enter (by rfl) rfl).trans ?_; dsimp only
  have hE : eqV v (if (q : Int) ≤ 60 then V.tup [.tup [.str "name", .str "A"], .int (2 * (q : Int) + 1)] else V.str "ST") = some true := by
    rcases hv with ⟨z, rfl⟩ | ⟨z, rfl⟩
    · rw [if_pos (show (q : Int) ≤ 60 from Int.ofNat_le.mpr z)]; exact E3
    · rw [if_neg (show ¬ (q : Int) ≤ 60 from fun h => Nat.not_le_of_lt z (Int.ofNat_le.mp h)), eqV_str sST sST]; rfl
  clear hv E3
  simp -dsimp (disch := first | assumption | exact mi | exact jj rfl | exact ke | exact kc | exact kf | exact kg | exact kh ‹_› rfl | exact mv ‹_› | exact mw ‹_› | exact mx ‹_› | exact my ‹_› | exact mz ‹_› | exact lv ‹_› rfl | exact lw ‹_› rfl | exact lu ‹_› rfl | exact m5 ‹_› rfl | exact m7 rfl | exact mj ‹_› rfl | exact ml ke | exact ml (ml ke) | exact ml (ml kc) | exact ml (ml (ml ke)) | exact ml (ml (ml kc)) | decide +kernel | omega | (intros; contradiction) | (simp only [List.length_append, List.length_cons, List.length_nil, List.length_map, List.length_replicate]; omega)) [zipArgs, gy, gz, jk, jm, ki, kj, bq, bg, br, b7, b8, bt, bu, jn, km, ko, jo, g5, g6, bh, bv, bi, d7, aa, ag, a5, ah, au, ac, ai, a6, aj, av, ak, aw, ba, ax, a7, ae, al, a8, am, ay, af, ao, a9, aq, az, jp, bj, bw, bk, bn, bc, g7, g8, g9, jq, jr, kr, kt, bz, b4, b9, b5, ce, d9, cw, eb, cy, cz, ku, kx, ky, kz, ec, eg, c6, eh, ej, ek, er, h9, cg, et, ch, eu, ia, ey, jt, ju, c7, ci, cj, cn, ↓k7, ↓k8, ↓k9, ↓lb, ez, c8, fa, ↓lz, lf, jv, ib, lg, lh, lj, ll, lq, ls, c9, da, cq, dg, cr, b6, cu, l6, l7, l8, l9, jw, ic, jx, jy, ie, ig, n_radd', jz, ij, j0, j1, j2, j3, ik, fc, fe, fg, bp, be, dh, j4, cv, im, j5, j6, j7, io, ip, iq, ir, j8, iu, ma, mc, md, me, mm, mn, mr, mf, iv, fh, iw, iy, ↓iz, i0, fi, di, fj, dk, fk, fm, dl, fp, fq, i6, ms, mt, i7, ft, fu, dm, dq, i9, fv, dt, fw, du, ja, dw, fy, fz, jb, f0, f5, dy, dz, jc, f7, d3, f8, d4, jd, d5, f9, gn, mu, j9, gp, gq, as1', as2', as3', appendV, popV, je, mh, gs, gu, jf, d6, gv, jg, jh, ji, gw, gx, r_f0, r_f1, ef_0, ef_1, tab__law_draw, tab_range, tab__law_heard, e1, e2, e3, e4, hn, hq, f1, f3, g1, g2, g4, m1, m2, d1, d2, rep_minus, rep_one, E1, E2, jz, ite_ok, hE]
end Mine
namespace Mine
noncomputable abbrev AllOk (ts : List Tk) : Prop := ∀ x ∈ ts, Tk.Ok x
theorem ok_nil : AllOk [] := fun _ h => absurd h List.not_mem_nil
theorem ok_cons {x : Tk} {ts : List Tk} (hx : Tk.Ok x) (h : AllOk ts) : AllOk (x :: ts) := fun y m => (List.mem_cons.mp m).elim (fun e => e ▸ hx) (h y)
theorem ok_app {us ts : List Tk} (h : AllOk us) (h' : AllOk ts) : AllOk (us ++ ts) := fun y m => (List.mem_append.mp m).elim (h y) (h' y)
theorem ok_one {x : Tk} (hx : Tk.Ok x) : AllOk [x] := ok_cons hx ok_nil
theorem part_ok {a b : Int} {ts : List Tk} (h : AllOk ts) : AllOk (partOf a b ts) := by
  unfold partOf
  by_cases q : a ≤ b
  · rw [if_pos q]; exact h
  · rw [if_neg q]; exact ok_cons tok_ok_o (ok_app h (ok_one tok_ok_c))
theorem Ap.tok_ok (k : Ap) : Tk.Ok (k.tok, k.word) := by cases k <;> exact ⟨by decide +kernel, by decide +kernel⟩
theorem num_ok {i : Nat} (hi : i < nums.length) : sok (numT i) := by
  have e : numT i = Str.ofString nums[i].1 := by simp [numT, hi]
  rw [e]
  exact (by decide +kernel : ∀ p ∈ nums, sok (Str.ofString p.1)) _ (List.getElem_mem hi)
theorem op_ok {w : String} (h : w ∈ ops16.map (·.1)) : Tk.Ok (opK w, Str.ofString w) := by
  have d := ops_dec w h
  exact ⟨d.1.elim (fun q => show sok (opK w) by rw [q]; decide +kernel) (fun q => show sok (opK w) by rw [q]; decide +kernel), d.2.1⟩
theorem T.toks_ok {t : T} (h : t.WF) : AllOk t.toks := by
  induction t with
  | num i => exact ok_one ⟨(by decide +kernel : sok "number"), num_ok h⟩
  | name x => exact ok_one ⟨s_name, names1 x h⟩
  | text x => exact ok_one ⟨s_text, names2 x h⟩
  | rnd => exact ok_one ⟨by decide +kernel, by decide +kernel⟩
  | fna => exact ok_one ⟨by decide +kernel, by decide +kernel⟩
  | neg t ih => exact ok_cons ⟨by decide +kernel, by decide +kernel⟩ (part_ok (ih h))
  | not t ih => exact ok_cons ⟨by decide +kernel, by decide +kernel⟩ (part_ok (ih h))
  | app1 k a ih => exact ok_cons k.tok_ok (ok_cons tok_ok_o (ok_app (ih h) (ok_one tok_ok_c)))
  | app2 k a b ih ih2 => exact ok_cons k.tok_ok (ok_cons tok_ok_o (ok_app (ih h.1) (ok_cons ⟨by decide +kernel, by decide +kernel⟩ (ok_app (ih2 h.2) (ok_one tok_ok_c)))))
  | two w l r ih ih2 => exact ok_app (part_ok (ih h.2.1)) (ok_cons (op_ok h.1) (part_ok (ih2 h.2.2)))
theorem okTs {t : T} (h : t.WF) (hd : t.depth ≤ 8) {us vs : List Tk} (hu : ∀ x ∈ us, Tk.Ok x) (hv : ∀ x ∈ vs, Tk.Ok x) (l1 : us.length ≤ 10) (l2 : vs.length ≤ 10) : OkTs (us ++ (t.toks ++ vs)) ∧ (us ++ (t.toks ++ vs)).length ≤ 8000 := by
  have hz := T.toks_small hd
  have hl : (us ++ (t.toks ++ vs)).length ≤ 8000 := by
    rw [List.length_append, List.length_append]; exact Nat.le_trans (Nat.add_le_add l1 (Nat.add_le_add hz l2)) (by decide)
  exact ⟨⟨Nat.le_trans hl (by decide), ok_app hu (ok_app (T.toks_ok h) hv)⟩, hl⟩
theorem okT {t : T} (h : t.WF) (hd : t.depth ≤ 8) {us : List Tk} (hu : AllOk us) (l1 : us.length ≤ 10) : OkTs (us ++ t.toks) ∧ (us ++ t.toks).length ≤ 8000 := by
  have k := okTs h hd hu ok_nil l1 (Nat.zero_le 10)
  rwa [List.append_nil] at k
noncomputable def behinds : List (List Tk) := [[], [("sign", ")")], [("word", "THEN")], [("sign", ",")], [("sign", ":")]]
theorem behinds_ok : ∀ us ∈ behinds, Behind us ∧ (∀ x ∈ us, Tk.Ok x) ∧ us.length ≤ 1 := by
  intro us h
  simp only [behinds, List.mem_cons, List.not_mem_nil, or_false] at h
  rcases h with rfl | rfl | rfl | rfl | rfl
  · exact ⟨.inl rfl, ok_nil, by simp⟩
  · exact ⟨.inr ⟨_, _, _, rfl, .inl rfl, by kernel_rfl, noOpen_close⟩, ok_one ⟨by decide +kernel, by decide +kernel⟩, by simp⟩
  · exact ⟨.inr ⟨_, _, _, rfl, .inr rfl, by kernel_rfl, fun q => absurd (Option.some.inj q) (show ¬ (("word" : Str), ("THEN" : Str)) = tOpen by decide +kernel)⟩, ok_one ⟨by decide +kernel, by decide +kernel⟩, by simp⟩
  · exact ⟨.inr ⟨_, _, _, rfl, .inl rfl, by kernel_rfl, noOpen_comma⟩, ok_one ⟨by decide +kernel, by decide +kernel⟩, by simp⟩
  · exact ⟨.inr ⟨_, _, _, rfl, .inl rfl, by kernel_rfl, fun q => absurd (Option.some.inj q) (show ¬ (("sign" : Str), (":" : Str)) = tOpen by decide +kernel)⟩, ok_one ⟨by decide +kernel, by decide +kernel⟩, by simp⟩
end Mine
namespace Mine
theorem box_kept {cs : List Int} {s k : Int} {r : M} {μ : M} (h : Old (bx cs s k r).length (bx cs s k r) μ) : ∃ r', μ = bx cs s k r' := by
  have h0 := h.2 0 (by simp [bx])
  cases μ with
  | nil => simp [bx] at h0
  | cons x r' => exact ⟨r', by simp [bx] at h0; simp [bx, h0]⟩
theorem heard_box {cs : List Int} {s k : Int} {r : M} {ts : List Tk} {c : Str} (h : OkTs ts ∧ ts.length ≤ 8000) (run : Run ts [fr0] 0 true (.exc c)) : ∃ r', Ev 36 fd__law_heard (bx cs s k r) [toks ts] (.ok (.str c) (bx cs s k r')) := by
  obtain ⟨μ, o, e⟩ := e_heard_exc h.1 h.2 run (bx cs s k r)
  obtain ⟨r', rfl⟩ := box_kept o
  exact ⟨r', e⟩
theorem heard_box_ok {cs : List Int} {s k : Int} {r : M} {ts : List Tk} {v : V} {j : Nat} (h : OkTs ts ∧ ts.length ≤ 8000) (run : Run ts [fr0] 0 true (.done v j)) : ∃ r', Ev 36 fd__law_heard (bx cs s k r) [toks ts] (.ok (.tup [v, .int j]) (bx cs s k r')) := by
  obtain ⟨μ, o, e⟩ := e_heard_ok h.1 h.2 run (bx cs s k r)
  obtain ⟨r', rfl⟩ := box_kept o
  exact ⟨r', e⟩
theorem the_law (l : List Int) (hlen : l.length ≤ 63) : ∃ fd n μ, tab "law" = some fd ∧ evCall tab cst n 40 [] fd [.lst (l.map .int)] = .ok (.bool true) μ := by
  refine ⟨fd_law, ?_⟩
  suffices ∃ n μ, evCall tab cst n 40 [] fd_law [.lst (l.map .int)] = .ok (.bool true) μ by
    obtain ⟨n, μ, e⟩ := this
    exact ⟨n, μ, tab_law, e⟩
  obtain ⟨js, hsl, hjl⟩ := slice_ints l
  obtain ⟨cs, hcs⟩ : ∃ cs, cs = js.map iabs := ⟨_, rfl⟩
  obtain ⟨ns, hns⟩ : ∃ ns, ns = cs.map fun i => i.fmod 50 := ⟨_, rfl⟩
  have hcl : cs.length ≤ 63 := by rw [hcs, List.length_map]; exact Nat.le_trans hjl hlen
  have hnl : ns.length ≤ 63 := by rw [hns, List.length_map]; exact hcl
  have hnr : ∀ n ∈ ns, 0 ≤ n ∧ n ≤ 1000 := by
    intro n hn
    rw [hns] at hn
    obtain ⟨c, _, rfl⟩ := List.mem_map.mp hn
    have := fmod_in (x := c) (m := 50) (by decide)
    exact ⟨this.1, Int.le_of_lt (Int.lt_trans this.2 (by decide))⟩
  have hsum := sumV_ints (lv hnl rfl) hnr
  have hss := sum_small ns hnr
  generalize hs : ns.sum = s at hsum hss
  have B : BoxOk cs s := ⟨hcl, hss.1, Int.le_trans hss.2 (Int.le_trans (Int.mul_le_mul_of_nonneg_left (Int.ofNat_le.mpr hnl) (by decide)) (by decide))⟩
  obtain ⟨t, k', hw, hd, ka, kb, N1, e1⟩ := e_tree B 3 (-1) (by decide) (by decide) []
  have kb : k' ≤ 100 := Int.le_trans kb (by decide)
  obtain ⟨N2, e2⟩ := e_tokens hw (lv hd rfl) (bx cs s k' []) 3 hd
  obtain ⟨N3, e3⟩ := e_due hw (bx cs s k' []) 3 hd
  obtain ⟨j, hj, N4, e4⟩ := e_drawn B (k := k') ka (Int.le_trans kb (by decide)) (m := 5) (by decide) []
  obtain ⟨us, hx, hb, hu, hul⟩ : ∃ us, ([.lst [], .lst [.tup [.str "sign", .str ")"]], .lst [.tup [.str "word", .str "THEN"]], .lst [.tup [.str "sign", .str ","]], .lst [.tup [.str "sign", .str ":"]]] : List V)[j]? = some (.lst (us.map Tk.v)) ∧ Behind us ∧ (∀ x ∈ us, Tk.Ok x) ∧ us.length ≤ 1 := by
    obtain rfl | rfl | rfl | rfl | rfl := i5 hj
    · exact ⟨_, rfl, behinds_ok [] (by simp [behinds])⟩
    · exact ⟨_, rfl, behinds_ok [(("sign" : Str), (")" : Str))] (by simp [behinds])⟩
    · exact ⟨_, rfl, behinds_ok [(("word" : Str), ("THEN" : Str))] (by simp [behinds])⟩
    · exact ⟨_, rfl, behinds_ok [(("sign" : Str), ("," : Str))] (by simp [behinds])⟩
    · exact ⟨_, rfl, behinds_ok [(("sign" : Str), (":" : Str))] (by simp [behinds])⟩
  have d8 : t.depth ≤ 8 := lv hd rfl
  have d50 : t.depth ≤ 50 := lv hd rfl
  obtain ⟨r0, M0, h0⟩ := heard_box_ok (cs := cs) (s := s) (k := k' + 1) (r := []) (okTs hw d8 (us := []) ok_nil hu (Nat.zero_le 10) (lv hul rfl)) (run_good hw d50 hb)
  obtain ⟨r1, M1, h1⟩ := heard_box (cs := cs) (s := s) (k := k' + 1) (r := r0) (okTs hw d8 (us := []) (vs := [("sign", "*")]) ok_nil (ok_one ⟨by decide +kernel, by decide +kernel⟩) (Nat.zero_le 10) (by decide)) (run_op_end hw d50 (s := 11) (.inl rfl) (by kernel_rfl) (by decide) (fun q => absurd (Option.some.inj q) (show ¬ (("sign" : Str), ("*" : Str)) = tOpen by decide +kernel)))
  obtain ⟨r2, M2, h2⟩ := heard_box (cs := cs) (s := s) (k := k' + 1) (r := r1) (ts := tOpen :: t.toks) (okT hw d8 (us := [tOpen]) (ok_one tok_ok_o) (by decide)) (run_group_end hw d50)
  obtain ⟨r3, M3, h3⟩ := heard_box (cs := cs) (s := s) (k := k' + 1) (r := r2) (ts := ("sign", "/") :: t.toks) (okT hw d8 (us := [("sign", "/")]) (ok_one ⟨by decide +kernel, by decide +kernel⟩) (by decide)) (run_slash _)
  obtain ⟨r4, M4, h4⟩ := heard_box (cs := cs) (s := s) (k := k' + 1) (r := r3) (ts := []) ⟨⟨Nat.zero_le _, ok_nil⟩, Nat.zero_le _⟩ run_empty
  obtain ⟨r5, M5, h5⟩ := heard_box (cs := cs) (s := s) (k := k' + 1) (r := r4) (okTs hw d8 (us := []) (vs := [("word", "OR")]) ok_nil (ok_one ⟨by decide +kernel, by decide +kernel⟩) (Nat.zero_le 10) (by decide)) (run_op_end hw d50 (s := 4) (.inr rfl) (by kernel_rfl) (by decide) (fun q => absurd (Option.some.inj q) (show ¬ (("word" : Str), ("OR" : Str)) = tOpen by decide +kernel)))
  obtain ⟨r6, M6, h6⟩ := heard_box (cs := cs) (s := s) (k := k' + 1) (r := r5) (ts := [("word", "LEN")]) ⟨⟨by decide, ok_one ⟨by decide +kernel, by decide +kernel⟩⟩, by decide⟩ run_len
  obtain ⟨r7, M7, h7⟩ := heard_box (cs := cs) (s := s) (k := k' + 1) (r := r6) (ts := tA :: tOpen :: t.toks) (okT hw d8 (us := [tA, tOpen]) (ok_cons tok_ok_A (ok_one tok_ok_o)) (by decide)) (run_item_end hw d50)
  obtain ⟨μ8, M8, h8⟩ := e_long B (k := k' + 1) (Int.le_trans ka (Int.le_add_of_nonneg_right (by decide))) (Int.le_trans (Int.add_le_add_right kb 1) (by decide)) r7
  have hz := T.toks_small d8
  have E0 := (two_dat t.due 11 ((T.due_dat hw).mono (Nat.add_le_add_right (Nat.mul_le_mul_left 3 hd) 2)) (t.toks.length : Int)).refl (by decide)
  have sSN : sok "SN" := by decide +kernel
  have ok : slOk (.lst (l.map .int)) = true := decide_eq_true (by rw [List.length_map]; exact Nat.le_trans hlen (by decide))
  have b0 : bx cs s (-1) [] = [[.lst (cs.map .int), .int (-1), .int s]] := rfl
  rw [b0] at e1
  replace e1 : ∀ n, N1 ≤ n → ∀ d, 10 ≤ d → evCall tab cst n d [[V.lst (cs.map .int), .int (-1), .int s]] fd__law_tree [.ref 0, .int 3] = .ok t.enc (bx cs s k' []) := e1
  refine atFd (p := fun fd => CompA fd → CompB fd → ∃ n μ, evCall tab cst n 40 [] fd [.lst (l.map .int)] = .ok (.bool true) μ) ⟨_, rfl, ?_⟩ comp_a comp_b
  intro ca cb
  have c1 := fun n hn d ρ μ => ca _ _ rfl js n hn d ρ μ
  have c2 := fun n hn d ρ μ => cb _ _ rfl cs n hn d ρ μ
  rw [← hcs] at c1
  rw [← hns] at c2
  clear ca cb hcs hns hs b0
  refine ⟨N1 + N2 + N3 + N4 + M0 + M1 + M2 + M3 + M4 + M5 + M6 + M7 + M8 + 400, μ8, ?_⟩
  generalize hN : N1 + N2 + N3 + N4 + M0 + M1 + M2 + M3 + M4 + M5 + M6 + M7 + M8 = N
  have qa := ab (Nat.le_of_eq hN)
  have qb := ab qa.1
  have qc := ab qb.1
  have qd := ab qc.1
  have qe := ab qd.1
  have qf := ab qe.1
  have qg := ab qf.1
  have qh := ab qg.1
  have qi := ab qh.1
  have qj := ab qi.1
  have qk := ab qj.1
  have ql := ab qk.1
  have ga := qa.2
  have gb := qb.2
  have gc := qc.2
  have gd := qd.2
  have ge := qe.2
  have gf := qf.2
  have gg := qg.2
  have gh := qh.2
  have gi := qi.2
  have gj := qj.2
  have gk := qk.2
  have gl := ql.2
  have gm := ql.1
  clear qa qb qc qd qe qf qg qh qi qj qk ql hN
  have js6 : js.length + 60 ≤ 123 := Nat.add_le_add_right (Nat.le_trans hjl hlen) 60
  have cs6 : cs.length + 60 ≤ 123 := Nat.add_le_add_right hcl 60
  have tu6 : t.toks.length + us.length ≤ 1601 := Nat.add_le_add hz hul
  have jn5 : j < 5 := Int.ofNat_lt.mp hj
  simp only [toks, List.map_append, List.map_cons, List.map_nil, List.nil_append, Tk.v] at e2 h0 h1 h2 h3 h4 h5 h6 h7
  refine (enter (by rfl) rfl).trans ?_; dsimp only
  simp -dsimp (disch := first | assumption | exact mi | exact jj rfl | exact ke | exact kc | exact kf | exact kg | exact kh ‹_› rfl | exact mv ‹_› | exact mw ‹_› | exact mx ‹_› | exact my ‹_› | exact mz ‹_› | exact lv ‹_› rfl | exact lw ‹_› rfl | exact lu ‹_› rfl | exact m5 ‹_› rfl | exact m7 rfl | exact mj ‹_› rfl | exact ml ke | exact ml (ml ke) | exact ml (ml kc) | exact ml (ml (ml ke)) | exact ml (ml (ml kc)) | decide +kernel | omega | (intros; contradiction) | (simp only [List.length_append, List.length_cons, List.length_nil, List.length_map, List.length_replicate]; omega)) [zipArgs, gy, gz, jk, jm, ki, kj, bq, bg, br, b7, b8, bt, bu, jn, km, ko, jo, g5, g6, bh, bv, bi, d7, aa, ag, a5, ah, au, ac, ai, a6, aj, av, ak, aw, ba, ax, a7, ae, al, a8, am, ay, af, ao, a9, aq, az, jp, bj, bw, bk, bn, bc, g7, g8, g9, jq, jr, kr, kt, bz, b4, b9, b5, ce, d9, cw, eb, cy, cz, ku, kx, ky, kz, ec, eg, c6, eh, ej, ek, er, h9, cg, et, ch, eu, ia, ey, jt, ju, c7, ci, cj, cn, ↓k7, ↓k8, ↓k9, ↓lb, ez, c8, fa, ↓lz, lf, jv, ib, lg, lh, lj, ll, lq, ls, c9, da, cq, dg, cr, b6, cu, l6, l7, l8, l9, jw, ic, jx, jy, ie, ig, n_radd', jz, ij, j0, j1, j2, j3, ik, fc, fe, fg, bp, be, dh, j4, cv, im, j5, j6, j7, io, ip, iq, ir, j8, iu, ma, mc, md, me, mm, mn, mr, mf, iv, fh, iw, iy, ↓iz, i0, fi, di, fj, dk, fk, fm, dl, fp, fq, i6, ms, mt, i7, ft, fu, dm, dq, i9, fv, dt, fw, du, ja, dw, fy, fz, jb, f0, f5, dy, dz, jc, f7, d3, f8, d4, jd, d5, f9, gn, mu, j9, gp, gq, as1', as2', as3', appendV, popV, je, mh, gs, gu, jf, d6, gv, jg, jh, ji, gw, gx, r_f0, r_f1, ef_0, ef_1, tab__law_tree, tab__law_tokens, tab__law_due, tab__law_draw, tab__law_heard, tab__law_long_right, tab_sum, blt_sum, ok, hsl, c1, c2, hsum, e1, e2, e3, e4, hx, ls_idx, h0, E0, h1, h2, h3, h4, h5, h6, h7, h8, eqV_str, -List.getElem?_eq_getElem, -getElem?_pos]
end Mine
namespace Mine
namespace hd2
theorem tw5162195762927539322 : True := trivial
theorem tw521047591097249419 : True := trivial
theorem tw10188748099632924578 : True := trivial
theorem tw18248147197437350449 : True := trivial
theorem tw5080211309789425099 : True := trivial
theorem tw87145970435450675 : True := trivial
theorem tw15423517189023148729 : True := trivial
theorem tw6815210391746928124 : True := trivial
theorem tw17122416369250961311 : True := trivial
theorem tw10189825699233536357 : True := trivial
theorem tw5203767396539817749 : True := trivial
theorem tw12896583090037188366 : True := trivial
theorem tw7973587357895806194 : True := trivial
theorem tw3202660704905915197 : True := trivial
theorem tw9749753934752944884 : True := trivial
theorem tw2132613098981253317 : True := trivial
theorem tw17130049829372506651 : True := trivial
theorem tw4208630012958610394 : True := trivial
theorem tw1516466767955233119 : True := trivial
theorem tw9119293857461180547 : True := trivial
theorem tw9514616225478430594 : True := trivial
theorem tw1935317536839960691 : True := trivial
theorem tw2331008334238325607 : True := trivial
theorem tw13818045471477145132 : True := trivial
theorem tw18219251044603616160 : True := trivial
theorem tw3486723893036766803 : True := trivial
theorem tw3574309194180151348 : True := trivial
theorem tw13808098181718039452 : True := trivial
theorem tw13507579669612370178 : True := trivial
theorem tw175109583173815259 : True := trivial
theorem tw17154464714986587404 : True := trivial
theorem tw13175543063059372526 : True := trivial
theorem tw8820833757433601248 : True := trivial
theorem tw7114538484913203130 : True := trivial
theorem tw16224822230647373906 : True := trivial
theorem tw7247576151377463746 : True := trivial
theorem tw4128767988726417249 : True := trivial
theorem tw1230165769213727595 : True := trivial
theorem tw14921811630059155960 : True := trivial
theorem tw734633284641387689 : True := trivial
theorem tw2348690137466451480 : True := trivial
theorem tw6686078306103431042 : True := trivial
theorem tw3726972912220129213 : True := trivial
theorem tw10949718306181768204 : True := trivial
theorem tw5506855588011826855 : True := trivial
theorem tw9001575777495838784 : True := trivial
theorem tw8108540578436229937 : True := trivial
theorem tw6360799348238518018 : True := trivial
theorem tw10790398233487625515 : True := trivial
theorem tw1595972307316097103 : True := trivial
theorem tw5693816991731773788 : True := trivial
theorem tw2126447280774793394 : True := trivial
theorem tw7875540786070732152 : True := trivial
theorem tw8779171860619232142 : True := trivial
theorem tw14634638626487965559 : True := trivial
theorem tw18097591840932859414 : True := trivial
theorem tw4436973419971921206 : True := trivial
theorem tw754285140521276078 : True := trivial
theorem tw10254093599156545313 : True := trivial
theorem tw1256580951684823992 : True := trivial
theorem tw2769112049811719188 : True := trivial
theorem tw17971443411627580558 : True := trivial
theorem tw5737332735241192480 : True := trivial
theorem tw14401057463952056089 : True := trivial
theorem tw18019478846407220815 : True := trivial
theorem tw15191579460534920666 : True := trivial
theorem tw10756121090747429043 : True := trivial
theorem tw6335107781196790513 : True := trivial
theorem tw10533107972697636804 : True := trivial
theorem tw8642559067746812850 : True := trivial
theorem tw401881018233993473 : True := trivial
theorem tw14194125027541112797 : True := trivial
theorem tw14472753914779276088 : True := trivial
theorem tw5331086248898644504 : True := trivial
theorem tw16910883158370928493 : True := trivial
theorem tw10093022765178181272 : True := trivial
theorem tw14163117343867048754 : True := trivial
theorem tw18005265497134895539 : True := trivial
theorem tw3792150083703065982 : True := trivial
theorem tw5236335410611732991 : True := trivial
theorem tw10272945827294731763 : True := trivial
theorem tw16891520828879567593 : True := trivial
theorem tw8733659265945308904 : True := trivial
theorem tw11149403225895476569 : True := trivial
theorem tw10219850682025270129 : True := trivial
theorem tw17149979933336599690 : True := trivial
theorem tw2108963761862365243 : True := trivial
theorem tw4986522300587698104 : True := trivial
theorem tw11081427018123450144 : True := trivial
theorem tw6433835771088390112 : True := trivial
theorem tw5361115814481138938 : True := trivial
theorem tw12537377171073117298 : True := trivial
theorem tw10041127296896847916 : True := trivial
theorem tw10088504024309026110 : True := trivial
theorem tw622305421618594425 : True := trivial
theorem tw4080911265041974390 : True := trivial
theorem tw1836901660661362197 : True := trivial
theorem tw16549696160805026549 : True := trivial
theorem tw4661944426840446322 : True := trivial
theorem tw5894657894921262582 : True := trivial
theorem tw13619548112358091664 : True := trivial
theorem tw10628401907142525191 : True := trivial
theorem tw13504252885213688065 : True := trivial
theorem tw8883832819917700884 : True := trivial
theorem tw14521410870882814254 : True := trivial
theorem tw9250895064746319272 : True := trivial
theorem tw4222025404068306701 : True := trivial
theorem tw6727789753133388713 : True := trivial
theorem tw8739050139373961009 : True := trivial
theorem tw13245907384282631839 : True := trivial
theorem tw14821936039021965399 : True := trivial
theorem tw16410498635708539651 : True := trivial
theorem tw10666633089758425780 : True := trivial
theorem tw71533331695246426 : True := trivial
theorem tw9677877252148682199 : True := trivial
theorem tw3556367115372997290 : True := trivial
theorem tw710885876865845836 : True := trivial
theorem tw11174228389967080086 : True := trivial
theorem tw10191696753133945466 : True := trivial
theorem tw15352490148716938460 : True := trivial
theorem tw5010817206199610734 : True := trivial
theorem tw15717762271390065686 : True := trivial
theorem tw18376440725419151620 : True := trivial
theorem tw11979136065424681370 : True := trivial
theorem tw17039020653511099826 : True := trivial
theorem tw7290744685163844800 : True := trivial
theorem tw1909785642558140098 : True := trivial
theorem tw17377126412373271015 : True := trivial
theorem tw11387425415538479326 : True := trivial
theorem tw14396293657529361391 : True := trivial
theorem tw7731060619895641366 : True := trivial
theorem tw14686837934422546615 : True := trivial
theorem tw12800997404657656192 : True := trivial
theorem tw15231150651594951603 : True := trivial
theorem tw9025149566346154062 : True := trivial
theorem tw4346409662881557102 : True := trivial
theorem tw2453779947581398894 : True := trivial
theorem tw3786290236359867107 : True := trivial
theorem tw16715680138880398560 : True := trivial
theorem tw11970665417900345971 : True := trivial
theorem tw6541981660880656221 : True := trivial
theorem tw992009045571396808 : True := trivial
theorem tw7480664447817381275 : True := trivial
theorem tw4138052882804363771 : True := trivial
theorem tw4987636919662039959 : True := trivial
theorem tw11636861072522841108 : True := trivial
theorem tw4272443717928200365 : True := trivial
theorem tw6758173574556093506 : True := trivial
theorem tw6094729067435387435 : True := trivial
theorem tw16686898776239975625 : True := trivial
theorem tw9874975876783469125 : True := trivial
theorem tw16565451473518323588 : True := trivial
theorem tw17680995164864114740 : True := trivial
theorem tw6943482231213170573 : True := trivial
theorem tw4531429069147537543 : True := trivial
theorem tw3047423576518684788 : True := trivial
theorem tw17048861347830081487 : True := trivial
theorem tw3428949384659299139 : True := trivial
theorem tw13195917780136099402 : True := trivial
theorem tw1435591422723803084 : True := trivial
theorem tw10272772584803894524 : True := trivial
theorem tw12501706066654292219 : True := trivial
theorem tw7364602861681324575 : True := trivial
theorem tw17442912257199536875 : True := trivial
theorem tw7235931902288160564 : True := trivial
theorem tw8436607001355094974 : True := trivial
theorem tw4047575660166857361 : True := trivial
theorem tw2693518484206568101 : True := trivial
theorem tw101041087702457904 : True := trivial
theorem tw8844539425579231078 : True := trivial
theorem tw4384171828855458497 : True := trivial
theorem tw10703380130156237404 : True := trivial
theorem tw4960970959582891546 : True := trivial
theorem tw5439220691504817211 : True := trivial
theorem tw11253710270555237016 : True := trivial
theorem tw1698310995043944543 : True := trivial
theorem tw15989832115310774332 : True := trivial
theorem tw4717654017078143654 : True := trivial
theorem tw16289564860063074514 : True := trivial
theorem tw14342148964104363333 : True := trivial
theorem tw8435538589820232700 : True := trivial
theorem tw13170595746660695564 : True := trivial
theorem tw6101760290850618121 : True := trivial
theorem tw5724285506335090026 : True := trivial
theorem tw17237646537067781763 : True := trivial
theorem tw1444440135474070075 : True := trivial
theorem tw6589855753372965957 : True := trivial
theorem tw12397336453873556141 : True := trivial
theorem tw12466773587236661786 : True := trivial
theorem tw8417349901890957011 : True := trivial
theorem tw2239638238429186564 : True := trivial
theorem tw14939525105098405936 : True := trivial
theorem tw9975164428627517902 : True := trivial
theorem tw16873221599792419055 : True := trivial
theorem tw14023998935749123435 : True := trivial
theorem tw11564645500747994937 : True := trivial
theorem tw4564416937610578931 : True := trivial
theorem tw4608914758703064736 : True := trivial
theorem tw14078174918965225603 : True := trivial
theorem tw3433207971968412175 : True := trivial
theorem tw2087716684499464581 : True := trivial
theorem tw8808935482714438731 : True := trivial
theorem tw12530866522774754677 : True := trivial
theorem tw8090823174340995975 : True := trivial
theorem tw17063568424206148002 : True := trivial
theorem tw11129188869610538314 : True := trivial
theorem tw17696548171621591989 : True := trivial
theorem tw3231304084998413415 : True := trivial
theorem tw13464015321323206389 : True := trivial
theorem tw11081256818881743468 : True := trivial
theorem tw15959769663615884937 : True := trivial
theorem tw6718111456414773483 : True := trivial
theorem tw5909614296626568523 : True := trivial
theorem tw13635312476280050021 : True := trivial
theorem tw16986457858870850220 : True := trivial
theorem tw9030083065773517369 : True := trivial
theorem tw11818442767299857642 : True := trivial
theorem tw5113211338630201030 : True := trivial
theorem tw17081775300665929400 : True := trivial
theorem tw11153258991729135738 : True := trivial
theorem tw17729420277734569955 : True := trivial
theorem tw13366119217861580157 : True := trivial
theorem tw7033548827143034228 : True := trivial
theorem tw5034723987699173382 : True := trivial
theorem tw10942033058075514817 : True := trivial
theorem tw1808859036645578109 : True := trivial
theorem tw5925304531832806970 : True := trivial
theorem tw14747932260711156607 : True := trivial
theorem tw10686981873337859931 : True := trivial
theorem tw8006859400109840664 : True := trivial
theorem tw17766606952786767317 : True := trivial
theorem tw1196108307587243228 : True := trivial
theorem tw15696999210736300618 : True := trivial
theorem tw6442998482030438663 : True := trivial
theorem tw6009688105174031872 : True := trivial
theorem tw16249154343376908211 : True := trivial
theorem tw6368226021125579375 : True := trivial
theorem tw8651155517412177002 : True := trivial
theorem tw262287036633283243 : True := trivial
theorem tw1386277679703014416 : True := trivial
theorem tw14250843949610307300 : True := trivial
theorem tw6355366842176592239 : True := trivial
theorem tw15719296428168962565 : True := trivial
theorem tw17142955953045606057 : True := trivial
theorem tw4222651890790745610 : True := trivial
theorem tw18121077527062402413 : True := trivial
theorem tw12751814530280855791 : True := trivial
theorem tw5150017175976815442 : True := trivial
theorem tw18059104594531047267 : True := trivial
theorem tw1863054346547387268 : True := trivial
theorem tw332627713378957678 : True := trivial
theorem tw5626584828201687806 : True := trivial
theorem tw8077335385857423075 : True := trivial
theorem tw7290428043505870489 : True := trivial
end hd2
set_option Elab.async true in
theorem hd2 : PySem.Challenge.rw_pc0007_01.Holds := by
  w_on; o_law; k_head
  case hw => w_witness2
  intro w s₀ s₁ mg mb G Y a o pm cd doc dV kV ho hdt hcd hDf hm hg args vals as hpre hlay hrd hwl hlo
  have X := kIn_of Y
  have T := G.T
  clear Y G ho hdt hcd hDf hlay hwl hlo
  have V : LV (PP (hd2.heap_1_39 w.params) w s₁.heap mg mb) := by
    refine ⟨by rfl, ⟨_, _, 127, _, _, _, _, _, _, _, _, _, _, _, _, _, X 128 _ (by rfl), ns_of X (a := 127) (by rfl) (by rfl), by rfl, by rfl, by rfl, by rfl, by rfl, by rfl⟩, ?_⟩
    refine ⟨125, _, _, posAt (hd2.heap_1_39 w.params) 125, by rfl, by rfl, X 125 _ (by rfl), rfl, ?_, ?_, ?_, ?_, ?_, ?_, ?_, ?_, ?_, ?_, ?_, ?_, ?_⟩
    · exact code_of X (by rfl)
    all_goals first | rfl | skip
    intro x hx
    simp at hx
    rcases hx with rfl | rfl | rfl <;> simp
  have B : BV (PP (hd2.heap_1_39 w.params) w s₁.heap mg mb) := {
    nm := _
    q := _
    N := 40
    bs := _
    sn := _
    sub := _
    ab := _
    col := _
    dd := _
    k0 := _
    k1 := _
    k2 := _
    k3 := _
    k5 := _
    mN := _
    fI := 38
    oI := _
    fd := _
    ar := _
    cd := _
    cc := 25
    oc := _
    ca := 37
    oa := _
    vs := _
    file := _
    tf := _
    p := posAt (hd2.heap_1_39 w.params) 38
    pl := _
    hC := X 41 _ (by rfl)
    hN := ns_of X (a := 40) (by rfl) (by rfl)
    hi := by rfl
    hs := by rfl
    h1 := by rfl
    h2 := by rfl
    hf := X 38 _ (by rfl)
    hfc := rfl
    hfd := rfl
    hcr := by exact code_of X (by rfl)
    hbind := bind_told (by rfl) (fun s x c ht => ⟨_, .of_defaults (T := 30) (by rfl) ht (by rfl) (by rfl) (by rfl)⟩) (fun s x c y ht => ⟨_, .of_defaults (T := 30) (by rfl) ht (by rfl) (by rfl) (by rfl)⟩) X
    hcells := by
      intro x hx
      simp at hx
      rcases hx with rfl | rfl | rfl | rfl | rfl <;> simp
    hself := by rfl
    hcode := by rfl
    htold := by rfl
    hsup := by rfl
    hcls := by rfl
    hco := by rfl
    hgen := by rfl
    hk := by rfl
    hglob := by rfl
    hblt := by rfl
    hclos := by rfl
    hcc := X 25 _ (by rfl)
    hcd := by rfl
    har := by rfl
    harn := by rfl
    hca := by rfl
    hoa := X 37 _ (by rfl)
    hvs := by rfl
    hv2 := by rfl
    hfile := by rfl
    htop := by rfl
    hmg := mg_none_of X T.g (by rfl)
    hmb := (T.builtins _ (by decide +kernel)).trans (by decide +kernel)
    hsub := by rfl
    hexc := by rfl
    hcl := by rfl
    hal := by rfl
    hop := by rfl
    hev := fun env => by rfl
    hbody := by rfl }
  have C : AllC (fun x v => ∃ v', mg x = some v' ∧ Rel (PP (hd2.heap_1_39 w.params) w s₁.heap mg mb) s₁.heap [] [] v v') csts := by
    rw [csts_are]
    refine ⟨.inl rfl, .inr ⟨_, mg_of X T.g (by rfl), .str _ _⟩, .inl rfl, .inr ⟨_, mg_of X T.g (by rfl), .int _ _⟩, .inl rfl, .inr ?_, .inr ⟨_, mg_of X T.g (by rfl), .int _ _⟩, .inr ⟨_, mg_of X T.g (by rfl), .int _ _⟩, .inr ⟨_, mg_of X T.g (by rfl), .int _ _⟩,
      .inr ?_, .inr ?_, .inr ⟨_, mg_of X T.g (by rfl), .int _ _⟩, .inr ⟨_, mg_of X T.g (by rfl), .int _ _⟩, .inl rfl, trivial⟩
    · exact ⟨.ref 66, mg_of X T.g (by rfl), ent_rel (P := PP (hd2.heap_1_39 w.params) w s₁.heap mg mb) (.cons (.cons (.cons (.cons (.cons (.cons (.cons (.cons (.cons (.cons (.cons (.cons (.cons (.cons (.cons (.cons (.cons (.cons .nil)))))))))))))))))) (X 66 _ (by rfl)) ⟨rfl, rfl, rfl⟩ rfl (by rfl)⟩
    · exact ⟨.ref 68, mg_of X T.g (by rfl), .tup ⟨_, X 68 _ (by rfl), rfl, _, rfl⟩ List.not_mem_nil List.not_mem_nil (.cons (.str _ _) (.cons (.str _ _) (.cons (.str _ _) (.cons (.str _ _) (.cons (.str _ _) (.cons (.str _ _) .nil))))))⟩
    · exact ⟨.ref 69, mg_of X T.g (by rfl), .tup ⟨_, X 69 _ (by rfl), rfl, _, rfl⟩ List.not_mem_nil List.not_mem_nil (.cons (.str _ _) (.cons (.str _ _) .nil))⟩
  have GGP : GG (PP (hd2.heap_1_39 w.params) w s₁.heap mg mb) tab cst := {
    gf := ⟨X, T.g, T.b, T.nolimit, fun x fd h => fn_of T (by rfl) h, fun x v h => cst_all C h⟩
    cf := cf_of X (by rfl) (by rfl) (fun od x h => by rcases h with rfl | rfl | rfl | rfl | rfl <;> exact ⟨by rfl, by rfl⟩)
    big := ⟨273, _, by decide, X 273 _ (by rfl)⟩
    blt := fun x h => by
      simp only [bltNames, List.mem_cons, List.not_mem_nil, or_false] at h
      rcases h with rfl | rfl | rfl | rfl | rfl <;> exact ⟨mg_none_of X T.g (by rfl), (T.builtins _ (by decide +kernel)).trans (by decide +kernel)⟩
    rng := ⟨mg_none_of X T.g (by rfl), (T.builtins _ (by decide +kernel)).trans (by decide +kernel)⟩
    enm := ⟨mg_none_of X T.g (by rfl), (T.builtins _ (by decide +kernel)).trans (by decide +kernel)⟩
    lvl := mg_of X T.g (by rfl)
    exc := mg_of X T.g (by rfl)
    lvlKeep := by rfl
    excKeep := by rfl
    make := fun c S p => make_ok V X T.nolimit ⟨c.frames, c.frame, c.all, c.handled, by have := c.depth; omega, by have := c.units; omega⟩ S p }
  have GXP : GX (PP (hd2.heap_1_39 w.params) w s₁.heap mg mb) := {
    make := fun c S hr hq => exc_make B X T.g T.b T.nolimit c S hr hq
    code := fun kp e1 e2 e3 e4 e5 e6 e7 q => code_ok (P := PP (hd2.heap_1_39 w.params) w s₁.heap mg mb) X (by rfl) (by rfl) (by rfl) (fun od v e => find_own (by rfl) (by rfl) (by rfl) e) kp e1 e2 e3 e4 e5 e6 e7 q
    catch_ := fun k e1 e2 _ q => catch_ok (P := PP (hd2.heap_1_39 w.params) w s₁.heap mg mb) X (by rfl) k e1 e2 q
    from_ := fun k e1 e2 e3 q => from_ok (P := PP (hd2.heap_1_39 w.params) w s₁.heap mg mb) X (by rfl) k e1 e2 e3 q
    raised := fun k e1 e2 _ q => raised_ok (P := PP (hd2.heap_1_39 w.params) w s₁.heap mg mb) X (by rfl) k e1 e2 q }
  exact fin the_law GGP GXP rfl rfl hm hg hpre hrd rfl
end Mine
set_option maxRecDepth 100000 in
set_option maxHeartbeats 8000000 in
theorem PySem.Challenge.cw_pc0007_01_holds : PySem.Challenge.rw_pc0007_01.Holds := by
  exact Mine.hd2
