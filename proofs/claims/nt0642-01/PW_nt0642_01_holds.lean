import PyProof.Rows.All
import Wide.All
import OpenK.AllK
import Wide.FinOn
import PySem.Challenge.RW_nt0642_01
set_option genSizeOf false
set_option genSizeOfSpec false
set_option genInjectivity false
set_option backward.eqns.nonrecursive false
set_option backward.eqns.deepRecursiveSplit false
set_option bootstrap.genMatcherCode false
set_option compiler.extract_closed false
set_option Elab.async false
set_option maxRecDepth 100000
set_option maxHeartbeats 4000000
set_option linter.all false
open PySem PySem.W PySem.Calls PyProof.Rows
namespace Mine
local macro_rules | `(tactic| tb_start) => `(tactic| first | (with_reducible first | assumption | decide | exact Nat.le_trans (by assumption) (by decide) | exact Int.le_trans (by assumption) (by decide) | exact Int.lt_of_le_of_lt (by assumption) (by decide) | exact Int.add_nonneg (by assumption) (by first | assumption | decide) | exact Int.natCast_nonneg _) | ((fail_if_success (fail_if_success (omega (config := {})))); first | lia | omega (config := {})))
/-- data -/
inductive D where
  | none
  | bool (b : Bool)
  | int (i : Int)
  | str (s : Str)
  | bytes (l : List Int)
  | tup (ds : List D)
  | lst (ds : List D)
  | cel (a : Addr)
  | obj (dx : Addr)
  | rng (a b c : Int)
inductive Cell where
  | lst (ds : List D)
  | inst (fs : List D)
noncomputable abbrev Mu := List (Addr × Cell)
noncomputable abbrev Led := List (Addr × Obj)
noncomputable def fieldNames : List Str := ["text", "pattern", "most_depth", "depth", "level", "starts", "lengths"]
/-- what stays the same for the whole call -/
structure Gx where
  prog : Program
  w : World
  K : Frag
  base : Heap
  p : Program
  loose : List Str
  mean : ExcName → Option Value
  mg : Str → Option Value
  mb : Str → Option Value
  s₀ : Shared
  /-- the class Matcher, the class LuaError -/
  C : Addr
  X : Addr
  T : Top p loose mean mg mb base
  KX : K.In base
  gens0 : s₀.gens = #[]
  hget : ∀ x ∈ fieldNames, plainGet K C x = true
  hdict : hasDictIn K C = true
  hfind : ∀ x ∈ fieldNames, findIn K (.ref C) x = some none
  hset : findIn K (.ref C) "__setattr__" = some (some (.builtin "object.__setattr__"))
  hover : plainOver K C = true
  htake : ∀ x ∈ fieldNames, takerIn K C x = some none
/-- the written part of the heap and the class, alone -/
structure KC where
  K : Frag
  C : Addr
@[reducible] noncomputable def Gx.kc (G : Gx) : KC := ⟨G.K, G.C⟩
variable (G : Gx)
noncomputable def Fz (F : Led) (a : Addr) (o : Obj) : Prop := G.base.get? a = some o ∨ (a, o) ∈ F
noncomputable abbrev toU (i : Int) : UInt8 := UInt8.ofNat i.toNat
mutual
noncomputable def RV (F : Led) : D → Value → Prop
  | .none, v => v = .none
  | .bool b, v => v = .bool b
  | .int i, v => ∃ tk, v = .int i tk
  | .str x, v => ∃ tk, v = .str x tk
  | .bytes l, v => (∃ tk, v = .bytes (l.map toU).toArray tk) ∧ ∀ i ∈ l, 0 ≤ i ∧ i < 256
  | .tup ds, v => ∃ a o vs n, v = .ref a ∧ Fz G F a o ∧ o.cls = .type "tuple" ∧ o.data = .seq vs n ∧ RVs F ds vs.toList
  | .lst ds, v => ∃ a o vs n, v = .ref a ∧ Fz G F a o ∧ (o.cls = .type "list" ∧ o.dict = none) ∧ o.data = .seq vs n ∧ RVs F ds vs.toList
  | .cel a, v => v = .ref a
  | .obj dx, v => ∃ x, v = .ref x ∧ (x, instObj G.C dx) ∈ F
  | .rng a b c, v => ∃ r t u w, v = .ref r ∧ (r, ({ cls := .type "range", data := .fields #[.int a t, .int b u, .int c w] } : Obj)) ∈ F
noncomputable def RVs (F : Led) : List D → List Value → Prop
  | [], vs => vs = []
  | d :: ds, vs => ∃ v r, vs = v :: r ∧ RV F d v ∧ RVs F ds r
end
theorem Fz.mono {F F' : Led} (h : ∀ p ∈ F, p ∈ F') {a o} (x : Fz G F a o) : Fz G F' a o := x.imp id (h _)
mutual
theorem RV.mono {F F' : Led} (h : ∀ p ∈ F, p ∈ F') : ∀ {d : D} {v : Value}, RV G F d v → RV G F' d v
  | .none, _, x => x
  | .bool _, _, x => x
  | .int _, _, x => x
  | .str _, _, x => x
  | .bytes _, _, x => x
  | .tup ds, _, x => by
    obtain ⟨a, o, vs, n, h1, h2, h3, h4, h5⟩ := x
    exact ⟨a, o, vs, n, h1, h2.mono G h, h3, h4, RVs.mono h h5⟩
  | .lst ds, _, x => by
    obtain ⟨a, o, vs, n, h1, h2, h3, h4, h5⟩ := x
    exact ⟨a, o, vs, n, h1, h2.mono G h, h3, h4, RVs.mono h h5⟩
  | .cel _, _, x => x
  | .obj _, _, x => by
    obtain ⟨a, h1, h2⟩ := x
    exact ⟨a, h1, h _ h2⟩
  | .rng _ _ _, _, x => by
    obtain ⟨r, t, u, w, h1, h2⟩ := x
    exact ⟨r, t, u, w, h1, h _ h2⟩
theorem RVs.mono {F F' : Led} (h : ∀ p ∈ F, p ∈ F') : ∀ {ds : List D} {vs : List Value}, RVs G F ds vs → RVs G F' ds vs
  | [], _, x => x
  | d :: ds, _, x => by
    obtain ⟨v, r, h1, h2, h3⟩ := x
    exact ⟨v, r, h1, RV.mono h h2, RVs.mono h h3⟩
end
/-- entries of an object's dict, field by field -/
inductive EsR (F : Led) : List Str → List DictEntry → List D → Prop where
  | nil (ns : List Str) : EsR F ns [] []
  | cons (n : Str) (ns : List Str) (e : DictEntry) (es : List DictEntry) (d : D) (fs : List D) (tk : Tok) (hk : e.key = .str n tk) (hv : RV G F d e.val) (h : EsR F ns es fs) : EsR F (n :: ns) (e :: es) (d :: fs)
noncomputable def CellRep (F : Led) : Cell → Obj → Prop
  | .lst ds, o => ∃ vs n, o = listOf vs n ∧ RVs G F ds vs.toList
  | .inst fs, o => ∃ es n, o = dictOf es n ∧ EsR G F fieldNames es fs
noncomputable def CellsRep (F : Led) : Mu → Led → Prop
  | [], cs => cs = []
  | p :: μ, cs => ∃ o r, cs = (p.1, o) :: r ∧ CellRep G F p.2 o ∧ CellsRep F μ r
inductive Bi where
  | len | range | sum | abs | bytes | list | int | repr
inductive Bm where
  | find | append | count | index
set_option genCtorIdx false
mutual
inductive E where
  | nil (k : Nat) (p : Pos)
  | bool (b : Bool) (k : Nat) (p : Pos)
  | int (i : Int) (k : Nat) (p : Pos)
  | neg (i : Int) (k : Nat) (q p : Pos)
  | str (s : Str) (k : Nat) (p : Pos)
  | bytes (l : List UInt8) (k : Nat) (p : Pos)
  | var (i : Nat) (x : Str) (p : Pos)
  | gint (v : Int) (x : Str) (p : Pos)
  | known (p : Pos)
  | attr (j : Nat) (e : E) (p : Pos)
  | bin (op : Operator) (m : Bool) (a b : E) (p : Pos)
  | not (a : E) (p : Pos)
  | bop (op : BoolOp) (es : Es) (p : Pos)
  | cmp1 (op : CmpOp) (a b : E) (p : Pos)
  | cmp2 (o1 o2 : CmpOp) (a b c : E) (p : Pos)
  | ite (t a b : E) (p : Pos)
  | call (f : Nat) (x : Str) (px : Pos) (as : Es) (p : Pos)
  | meth (f : Nat) (m : Str) (o : E) (pa : Pos) (as : Es) (p : Pos)
  | make (x : Str) (px : Pos) (as : Es) (p : Pos)
  | bi (b : Bi) (px : Pos) (as : Es) (p : Pos)
  | bm (b : Bm) (o : E) (pa : Pos) (as : Es) (p : Pos)
  | idx (o i : E) (p : Pos)
  | slc (o : E) (lo hi : Eo) (ps p : Pos)
  | rev (o : E) (q1 q2 q3 : Pos) (ps p : Pos)
  | list (m : Bool) (es : Es) (p : Pos)
  | tup (es : Es) (k : Nat) (p : Pos)
  | comp (elt : E) (cond : Eo) (ts : List (Nat × Str × Pos)) (tk : Option (Nat × Pos)) (src : E) (sc : Scope) (init : List (Option Nat)) (p : Pos)
inductive Es where
  | nil
  | cons (e : E) (r : Es)
inductive Eo where
  | none
  | some (e : E)
end
mutual
inductive S where
  | ret (e : E) (p : Pos)
  | asg (i : Nat) (x : Str) (px : Pos) (e : E) (p : Pos)
  | asgC (i : Nat) (x : Str) (px : Pos) (e : E) (p : Pos)
  | asgT (ts : List (Nat × Str × Pos)) (k : Nat) (pt : Pos) (e : E) (p : Pos)
  | seta (j : Nat) (o : E) (pa : Pos) (e : E) (p : Pos)
  | seti (o i : E) (ps : Pos) (e : E) (p : Pos)
  | aug (i : Nat) (x : Str) (px : Pos) (op : Operator) (e : E) (p : Pos)
  | auga (j : Nat) (o : E) (pa : Pos) (op : Operator) (e : E) (p : Pos)
  | ite (t : E) (b o : Ss) (p : Pos)
  | whl (t : E) (b : Ss) (p : Pos)
  | loop (i : Nat) (x : Str) (px : Pos) (it : E) (b : Ss) (p : Pos)
  | raise (l : List UInt8) (k : Nat) (pl px pc p : Pos)
  | cont (p : Pos)
  | exp (e : E) (p : Pos)
inductive Ss where
  | nil
  | cons (s : S) (r : Ss)
end
set_option genCtorIdx true
noncomputable def Eo.isS : Eo → Prop
  | .none => False
  | .some _ => True
noncomputable def Eo.val : Eo → E → E
  | .none, d => d
  | .some e, _ => e
/-! the model's own text -/
noncomputable def Bi.name : Bi → Str
  | .len => "len" | .range => "range" | .sum => "sum" | .abs => "abs" | .bytes => "bytes" | .list => "list" | .int => "int" | .repr => "repr"
noncomputable def Bm.name : Bm → Str
  | .find => "find" | .append => "append" | .count => "count" | .index => "index"
noncomputable def tgt (ts : List (Nat × Str × Pos)) (tk : Option (Nat × Pos)) : Expr := match tk, ts with
  | none, t :: _ => .Name t.2.1 t.2.2
  | none, [] => .Tuple [] 0 default
  | some (k, p), ts => .Tuple (ts.map fun t => .Name t.2.1 t.2.2) k p
mutual
noncomputable def E.ast : E → Expr
  | .nil k p => .Constant .none k p
  | .bool b k p => .Constant (.bool b) k p
  | .int i k p => .Constant (.int i) k p
  | .neg i k q p => .UnaryOp .USub (.Constant (.int i) k q) p
  | .str s k p => .Constant (.str s) k p
  | .bytes l k p => .Constant (.bytes l) k p
  | .var _ x p => .Name x p
  | .gint _ x p => .Name x p
  | .known p => .Name "_law_known" p
  | .attr j e p => .Attribute e.ast (fieldNames.getD j Str.empty) p
  | .bin op _ a b p => .BinOp a.ast op b.ast p
  | .not a p => .UnaryOp .Not a.ast p
  | .bop op es p => .BoolOp op es.ast p
  | .cmp1 op a b p => .Compare a.ast [op] [b.ast] p
  | .cmp2 o1 o2 a b c p => .Compare a.ast [o1, o2] [b.ast, c.ast] p
  | .ite t a b p => .IfExp t.ast a.ast b.ast p
  | .call _ x px as p => .Call (.Name x px) as.ast [] p
  | .meth _ m o pa as p => .Call (.Attribute o.ast m pa) as.ast [] p
  | .make x px as p => .Call (.Name x px) as.ast [] p
  | .bi b px as p => .Call (.Name b.name px) as.ast [] p
  | .bm b o pa as p => .Call (.Attribute o.ast b.name pa) as.ast [] p
  | .idx o i p => .Subscript o.ast i.ast p
  | .slc o lo hi ps p => .Subscript o.ast (.Slice lo.ast hi.ast none ps) p
  | .rev o q1 q2 _ ps p => .Subscript o.ast (.Slice none none (some (.UnaryOp .USub (.Constant (.int 1) 0 q1) q2)) ps) p
  | .list _ es p => .List es.ast p
  | .tup es k p => .Tuple es.ast k p
  | .comp elt cond ts tk src sc _ p => .ListComp elt.ast [{ target := tgt ts tk, iter := src.ast, ifs := cond.asts, is_async := 0 }] sc p
noncomputable def Es.ast : Es → List Expr
  | .nil => []
  | .cons e r => e.ast :: r.ast
noncomputable def Eo.ast : Eo → Option Expr
  | .none => Option.none
  | .some e => Option.some e.ast
noncomputable def Eo.asts : Eo → List Expr
  | .none => []
  | .some e => [e.ast]
end
mutual
noncomputable def S.ast : S → Stmt
  | .ret e p => .Return (some e.ast) p
  | .asg _ x px e p => .Assign [.Name x px] e.ast p
  | .asgC _ x px e p => .Assign [.Name x px] e.ast p
  | .asgT ts k pt e p => .Assign [.Tuple (ts.map fun t => .Name t.2.1 t.2.2) k pt] e.ast p
  | .seta j o pa e p => .Assign [.Attribute o.ast (fieldNames.getD j Str.empty) pa] e.ast p
  | .seti o i ps e p => .Assign [.Subscript o.ast i.ast ps] e.ast p
  | .aug _ x px op e p => .AugAssign (.Name x px) op e.ast p
  | .auga j o pa op e p => .AugAssign (.Attribute o.ast (fieldNames.getD j Str.empty) pa) op e.ast p
  | .ite t b o p => .If t.ast b.ast o.ast p
  | .whl t b p => .While t.ast b.ast [] p
  | .loop _ x px it b p => .For (.Name x px) it.ast b.ast [] p
  | .raise l k pl px pc p => .Raise (some (.Call (.Name "LuaError" px) [.Constant (.bytes l) k pl] [] pc)) none p
  | .cont p => .Continue p
  | .exp e p => .Expr e.ast p
noncomputable def Ss.ast : Ss → List Stmt
  | .nil => []
  | .cons s r => s.ast :: r.ast
end
/-! the meaning, over data alone -/
noncomputable abbrev Loc := List (Option D)
inductive Out where
  | next | cont | ret (d : D)
theorem no_some {α : Type} {a : α} {p : Prop} (h : none = some a) : p := nomatch h
/-- numbers that every rule serves -/
noncomputable def Sm (i : Int) : Prop := -1073741824 < i ∧ i < 1073741824
noncomputable def Fits (n : Nat) : Prop := n ≤ 1048576
@[reducible] noncomputable def asB (d : D) (k : Bool → Prop) : Prop := match d with | .bool b => k b | _ => False
@[reducible] noncomputable def asI (d : D) (k : Int → Prop) : Prop := match d with | .int i => k i | _ => False
theorem intD {a b : Int} : (D.int a = D.int b) = (a = b) := propext ⟨fun h => by cases h; rfl, congrArg _⟩
noncomputable def ofI : D → Option Int
  | .int i => some i
  | _ => none
noncomputable def ofB : D → Option Bool
  | .bool i => some i
  | _ => none
noncomputable def intsOf : List D → Option (List Int)
  | [] => some []
  | .int i :: r => (intsOf r).map (i :: ·)
  | _ :: _ => none
noncomputable def boolsOf : List D → Option (List Bool)
  | [] => some []
  | .bool i :: r => (boolsOf r).map (i :: ·)
  | _ :: _ => none
theorem intsOf_cons {d : D} {ds : List D} {is : List Int} (h : intsOf (d :: ds) = some is) : ∃ i js, d = .int i ∧ intsOf ds = some js ∧ is = i :: js := by
  cases d with
  | int i =>
    have h : (intsOf ds).map (i :: ·) = some is := h
    cases q : intsOf ds with
    | none => rw [q] at h; exact no_some h
    | some js => rw [q] at h; exact ⟨i, js, rfl, rfl, (Option.some.inj h).symm⟩
  | _ => exact no_some h
theorem boolsOf_cons {d : D} {ds : List D} {bs : List Bool} (h : boolsOf (d :: ds) = some bs) : ∃ b js, d = .bool b ∧ boolsOf ds = some js ∧ bs = b :: js := by
  cases d with
  | bool b =>
    have h : (boolsOf ds).map (b :: ·) = some bs := h
    cases q : boolsOf ds with
    | none => rw [q] at h; exact no_some h
    | some js => rw [q] at h; exact ⟨b, js, rfl, rfl, (Option.some.inj h).symm⟩
  | _ => exact no_some h
/-- the items of a list, frozen or a cell -/
noncomputable def itemsOf (μ : Mu) : D → Option (List D)
  | .lst ds => some ds
  | .cel a => (match μ.lookup a with | some (.lst ds) => some ds | _ => none)
  | _ => none
noncomputable def freshMu (μ : Mu) (a : Addr) : Prop := ∀ p ∈ μ, p.1 ≠ a
/-- a new list: frozen, or a cell -/
noncomputable def newL (m : Bool) (ds : List D) (μ : Mu) (Q : D → Mu → Prop) : Prop := Fits ds.length ∧ match m with
  | false => Q (.lst ds) μ
  | true => ∀ a, freshMu μ a → Q (.cel a) ((a, .lst ds) :: μ)
/-- the one argument of a list -/
noncomputable def arg1 (ds : List D) (k : D → Prop) : Prop := match ds with
  | [] => False
  | d :: r => match r with
    | [] => k d
    | _ :: _ => False
theorem arg1_of {ds : List D} {k : D → Prop} (h : arg1 ds k) : ∃ d, ds = [d] ∧ k d := by
  cases ds with
  | nil => exact False.elim h
  | cons d r => cases r with
    | nil => exact ⟨d, rfl, h⟩
    | cons => exact False.elim h
noncomputable def asL (d : D) (k : List D → Prop) : Prop := match d with | .lst l => k l | _ => False
noncomputable def asBy (d : D) (k : List Int → Prop) : Prop := match d with | .bytes l => k l | _ => False
theorem asB_of {d : D} {k : Bool → Prop} (h : asB d k) : ∃ b, d = .bool b ∧ k b := by
  cases d with
  | bool b => exact ⟨b, rfl, h⟩
  | _ => exact False.elim h
theorem asI_of {d : D} {k : Int → Prop} (h : asI d k) : ∃ b, d = .int b ∧ k b := by
  cases d with
  | int b => exact ⟨b, rfl, h⟩
  | _ => exact False.elim h
theorem asL_of {d : D} {k : List D → Prop} (h : asL d k) : ∃ b, d = .lst b ∧ k b := by
  cases d with
  | lst b => exact ⟨b, rfl, h⟩
  | _ => exact False.elim h
theorem asBy_of {d : D} {k : List Int → Prop} (h : asBy d k) : ∃ b, d = .bytes b ∧ k b := by
  cases d with
  | bytes b => exact ⟨b, rfl, h⟩
  | _ => exact False.elim h
/-- what an option hands on -/
noncomputable def optQ {α : Type} (o : Option α) (k : α → Prop) : Prop := match o with | some a => k a | none => False
theorem optQ_of {α : Type} {o : Option α} {k : α → Prop} (h : optQ o k) : ∃ a, o = some a ∧ k a := by
  cases o with
  | some a => exact ⟨a, rfl, h⟩
  | none => exact False.elim h
noncomputable def catS (m : Bool) (x y : D) (μ : Mu) (Q : D → Mu → Prop) : Prop := optQ (itemsOf μ x) fun ds => optQ (itemsOf μ y) fun es => newL m (ds ++ es) μ Q
theorem catS_of {m : Bool} {x y : D} {μ : Mu} {Q : D → Mu → Prop} (h : catS m x y μ Q) : ∃ ds es, itemsOf μ x = some ds ∧ itemsOf μ y = some es ∧ newL m (ds ++ es) μ Q := by
  obtain ⟨ds, e1, h⟩ := optQ_of h
  obtain ⟨es, e2, h⟩ := optQ_of h
  exact ⟨ds, es, e1, e2, h⟩
noncomputable def addS (m : Bool) (x y : D) (μ : Mu) (Q : D → Mu → Prop) : Prop := match x with
  | .int i => asI y fun j => Q (.int (i + j)) μ
  | x => catS m x y μ Q
theorem addS_of {m : Bool} {x y : D} {μ : Mu} {Q : D → Mu → Prop} (h : addS m x y μ Q) : (∃ i, x = .int i ∧ asI y fun j => Q (.int (i + j)) μ) ∨ catS m x y μ Q := by
  cases x with
  | int i => exact .inl ⟨i, rfl, h⟩
  | _ => exact .inr h
noncomputable def binS (op : Operator) (m : Bool) (x y : D) (μ : Mu) (Q : D → Mu → Prop) : Prop := match op with
  | .Add => addS m x y μ Q
  | .Sub => asI x fun i => asI y fun j => Q (.int (i - j)) μ
  | .Mult => asI x fun i => asI y fun j => Sm i ∧ Sm j ∧ Q (.int (i * j)) μ
  | .FloorDiv => asI x fun i => asI y fun j => 0 < j ∧ Sm j ∧ Q (.int (i / j)) μ
  | .Mod => asI x fun i => asI y fun j => 0 < j ∧ Sm j ∧ Q (.int (i % j)) μ
  | _ => False
noncomputable def eqS (x y : D) : Option Bool := match x with
  | .int i => (match y with | .int j => some (decide (i = j)) | .str _ => some false | _ => none)
  | .str x => (match y with | .str y => some (decide (x = y)) | _ => none)
  | .bytes x => (match y with | .bytes y => some (decide (x = y)) | _ => none)
  | .lst ds => (match y with | .lst es => (match es with | [] => some ds.isEmpty | _ :: _ => none) | _ => none)
  | _ => none
noncomputable def neS (x y : D) : Option Bool := match x with
  | .int i => (match y with | .int j => some (!decide (i = j)) | _ => none)
  | x => (eqS x y).map (!·)
noncomputable def int2 (x y : D) (f : Int → Int → Bool) : Option Bool := match x with
  | .int i => (match y with | .int j => some (f i j) | _ => none)
  | _ => none
theorem int2_of {x y : D} {f : Int → Int → Bool} {r : Bool} (h : int2 x y f = some r) : ∃ i j, x = .int i ∧ y = .int j ∧ f i j = r := by
  cases x with
  | int i => cases y with
    | int j => exact ⟨i, j, rfl, rfl, Option.some.inj h⟩
    | _ => exact no_some h
  | _ => exact no_some h
noncomputable def isS (x y : D) : Option Bool := match y with
  | .none => (match x with | .none => some true | .int _ => some false | .tup _ => some false | .str _ => some false | _ => none)
  | _ => none
noncomputable def isnS (x y : D) : Option Bool := match y with
  | .none => (match x with | .none => some false | .int _ => some true | .tup _ => some true | .str _ => some true | _ => none)
  | _ => none
theorem isnS_of {x y : D} {r : Bool} (h : isnS x y = some r) : isS x y = some (!r) := by
  cases y with
  | none => cases x with
    | none => cases Option.some.inj h; rfl
    | int => cases Option.some.inj h; rfl
    | tup => cases Option.some.inj h; rfl
    | str => cases Option.some.inj h; rfl
    | _ => exact no_some h
  | _ => exact no_some h
noncomputable def inS (x y : D) : Option Bool := match x with
  | .int i => (match y with
    | .bytes l => if 0 ≤ i ∧ i < 256 then some (l.contains i) else none
    | .lst ds => (intsOf ds).map (·.contains i)
    | _ => none)
  | .bool b => (match y with
    | .lst ds => (boolsOf ds).map (·.contains b)
    | _ => none)
  | _ => none
noncomputable def cmpS (op : CmpOp) (x y : D) : Option Bool := match op with
  | .Eq => eqS x y
  | .NotEq => neS x y
  | .Lt => int2 x y fun i j => decide (i < j)
  | .LtE => int2 x y fun i j => decide (i ≤ j)
  | .Gt => int2 x y fun i j => decide (j < i)
  | .GtE => int2 x y fun i j => decide (j ≤ i)
  | .Is => isS x y
  | .IsNot => isnS x y
  | .In => inS x y
  | .NotIn => (inS x y).map (!·)
/-- what an equality is asked of -/
inductive EqD : D → D → Bool → Prop where
  | int {i j : Int} : EqD (.int i) (.int j) (decide (i = j))
  | mix {i : Int} {x : Str} : EqD (.int i) (.str x) false
  | str {x y : Str} : EqD (.str x) (.str y) (decide (x = y))
  | bytes {x y : List Int} : EqD (.bytes x) (.bytes y) (decide (x = y))
  | lst {ds : List D} : EqD (.lst ds) (.lst []) ds.isEmpty
theorem EqD.to {x y : D} {r r' : Bool} (e : EqD x y r) (h : some r = some r') : EqD x y r' := Option.some.inj h ▸ e
theorem eqS_of {x y : D} {r : Bool} (h : eqS x y = some r) : EqD x y r := by
  cases x with
  | int i => cases y with
    | int j => exact EqD.int.to h
    | str => exact EqD.mix.to h
    | _ => exact no_some h
  | str => cases y with
    | str => exact EqD.str.to h
    | _ => exact no_some h
  | bytes => cases y with
    | bytes => exact EqD.bytes.to h
    | _ => exact no_some h
  | lst => cases y with
    | lst es => cases es with
      | nil => exact EqD.lst.to h
      | cons => exact no_some h
    | _ => exact no_some h
  | _ => exact no_some h
theorem map_of {α β : Type} {f : α → β} {o : Option α} {b : β} (h : o.map f = some b) : ∃ a, o = some a ∧ f a = b := by
  cases o with
  | some a => exact ⟨a, rfl, Option.some.inj h⟩
  | none => exact no_some h
theorem neS_of {x y : D} {r : Bool} (h : neS x y = some r) : ∃ r', EqD x y r' ∧ (!r') = r := by
  have key : (eqS x y).map (!·) = some r := by
    cases x with
    | int i => cases y with
      | int j => exact h
      | _ => exact no_some h
    | _ => exact h
  obtain ⟨a, h1, h2⟩ := map_of key
  exact ⟨a, eqS_of h1, h2⟩
inductive InD : D → D → Bool → Prop where
  | bt {i : Int} {l : List Int} (h : 0 ≤ i ∧ i < 256) : InD (.int i) (.bytes l) (l.contains i)
  | il {i : Int} {ds : List D} {is : List Int} (h : intsOf ds = some is) : InD (.int i) (.lst ds) (is.contains i)
  | bl {b : Bool} {ds : List D} {bs : List Bool} (h : boolsOf ds = some bs) : InD (.bool b) (.lst ds) (bs.contains b)
theorem if_of {α : Type} {c : Prop} [Decidable c] {a b : α} (h : (if c then some a else none) = some b) : c ∧ a = b := by
  by_cases q : c
  · rw [if_pos q] at h; exact ⟨q, Option.some.inj h⟩
  · rw [if_neg q] at h; exact no_some h
theorem inS_of {x y : D} {r : Bool} (h : inS x y = some r) : InD x y r := by
  cases x with
  | int i => cases y with
    | bytes l => obtain ⟨c, rfl⟩ := if_of h; exact .bt c
    | lst => obtain ⟨a, h1, rfl⟩ := map_of h; exact .il h1
    | _ => exact no_some h
  | bool => cases y with
    | lst => obtain ⟨a, h1, rfl⟩ := map_of h; exact .bl h1
    | _ => exact no_some h
  | _ => exact no_some h
/-- an item: in bounds, or one from the end -/
noncomputable def ixN (n : Nat) (i : Int) : Option Nat := if 0 ≤ i ∧ i < n then some i.toNat else if i < 0 ∧ -i ≤ n then some (n - (-i).toNat) else none
noncomputable def ixL (ds : List D) (i : Int) : Option D := if ds.length ≤ 1048576 then (ixN ds.length i).bind (ds[·]?) else none
noncomputable def idxS (μ : Mu) (o i : D) : Option D := match i with
  | .int i => (match o with
    | .bytes l => if 0 ≤ i ∧ i < l.length ∧ l.length ≤ 1048576 then some (.int (l.getD i.toNat 0)) else none
    | .tup ds => ixL ds i
    | o => match itemsOf μ o with
      | some ds => ixL ds i
      | none => none)
  | _ => none
noncomputable def knownL : List Int := [97, 98, 65, 49, 32, 46, 40, 41, 45, 0, 9, 127, 71, 103]
/-- a bound of a slice that is nought or more -/
noncomputable def loN : Option D → Option Nat
  | none => some 0
  | some (.int i) => if 0 ≤ i ∧ i < 1073741824 then some i.toNat else none
  | _ => none
noncomputable def hiN (n : Nat) : Option D → Option Nat
  | none => some n
  | some (.int i) => if 0 ≤ i ∧ i < 1073741824 then some i.toNat else none
  | _ => none
noncomputable def cut {α : Type} (l : List α) (a b : Nat) : List α := (l.take b).drop a
noncomputable def slcS (μ : Mu) (o : D) (lo hi : Option D) (Q : D → Prop) : Prop := match o with
  | .bytes l => l.length ≤ 1048576 ∧ (match loN lo, hiN l.length hi with
    | some a, some b => Q (.bytes (cut l a b))
    | _, _ => False)
  | o => match itemsOf μ o with
    | some ds => ds.length ≤ 1048576 ∧ (match loN lo, hiN ds.length hi with
      | some a, some b => Q (.lst (cut ds a b))
      | _, _ => False)
    | none => False
noncomputable def revS (μ : Mu) (o : D) (Q : D → Prop) : Prop := match itemsOf μ o with
    | some ds => ds.length ≤ 1048576 ∧ Q (.lst ds.reverse)
    | none => False
/-- the fields of an object -/
noncomputable def asObj (d : D) (k : Addr → Prop) : Prop := match d with | .obj a => k a | _ => False
noncomputable def asCel (d : D) (k : Addr → Prop) : Prop := match d with | .cel a => k a | _ => False
noncomputable def optC {α : Type} (o : Option α) (k : α → Prop) : Prop := match o with | some a => k a | none => False
noncomputable def instC (c : Cell) (k : List D → Prop) : Prop := match c with | .inst fs => k fs | .lst _ => False
noncomputable def lstC (c : Cell) (k : List D → Prop) : Prop := match c with | .lst ds => k ds | .inst _ => False
theorem asObj_of {d : D} {k : Addr → Prop} (h : asObj d k) : ∃ b, d = .obj b ∧ k b := by
  cases d with
  | obj b => exact ⟨b, rfl, h⟩
  | _ => exact False.elim h
theorem asCel_of {d : D} {k : Addr → Prop} (h : asCel d k) : ∃ b, d = .cel b ∧ k b := by
  cases d with
  | cel b => exact ⟨b, rfl, h⟩
  | _ => exact False.elim h
theorem instC_of {o : Option Cell} {k : List D → Prop} (h : optC o fun c => instC c k) : ∃ fs, o = some (.inst fs) ∧ k fs := by
  cases o with
  | none => exact False.elim h
  | some c => cases c with
    | inst fs => exact ⟨fs, rfl, h⟩
    | lst => exact False.elim h
theorem lstC_of {o : Option Cell} {k : List D → Prop} (h : optC o fun c => lstC c k) : ∃ fs, o = some (.lst fs) ∧ k fs := by
  cases o with
  | none => exact False.elim h
  | some c => cases c with
    | lst fs => exact ⟨fs, rfl, h⟩
    | inst => exact False.elim h
theorem optC_of {α : Type} {o : Option α} {k : α → Prop} (h : optC o k) : ∃ a, o = some a ∧ k a := by
  cases o with
  | some a => exact ⟨a, rfl, h⟩
  | none => exact False.elim h
noncomputable def getF (μ : Mu) (o : D) (j : Nat) (k : D → Prop) : Prop := asObj o fun dx => optC (μ.lookup dx) fun c => instC c fun fs => optC fs[j]? k
noncomputable def isInst (μ : Mu) (d : D) : Prop := asObj d fun dx => optC (μ.lookup dx) fun c => instC c fun _ => True
noncomputable def putMu (μ : Mu) (a : Addr) (c : Cell) : Mu := match μ with
  | [] => []
  | p :: r => if p.1 = a then (a, c) :: r else p :: putMu r a c
noncomputable def setF (μ : Mu) (o : D) (j : Nat) (v : D) (k : Mu → Prop) : Prop := asObj o fun dx => optC (μ.lookup dx) fun c => instC c fun fs =>
  j ≤ fs.length ∧ j < 7 ∧ k (putMu μ dx (.inst (if j < fs.length then fs.set j v else fs ++ [v])))
noncomputable def setI (μ : Mu) (o i v : D) (k : Mu → Prop) : Prop := asCel o fun a => asI i fun i => optC (μ.lookup a) fun c => lstC c fun ds =>
  0 ≤ i ∧ i < ds.length ∧ ds.length ≤ 1048576 ∧ k (putMu μ a (.lst (ds.set i.toNat v)))
noncomputable def rangeN (a b c : Int) : Nat := (if c > 0 then (if a < b then (b - a - 1) / c + 1 else 0) else (if a > b then (a - b - 1) / (-c) + 1 else 0)).toNat
noncomputable def rangeL (a b c : Int) : List Int := (List.range (rangeN a b c)).map (fun (k : Nat) => a + (k : Int) * c)
/-- a loop that may take or leave each item -/
noncomputable def gath (step : D → Mu → (Option D → Mu → Prop) → Prop) : List D → List D → Mu → (D → Mu → Prop) → Prop
  | [], acc, μ, Q => Fits acc.length ∧ Q (.lst acc) μ
  | d :: ds, acc, μ, Q => Fits acc.length ∧ step d μ fun r μ => match r with
    | some v => gath step ds (acc ++ [v]) μ Q
    | none => gath step ds acc μ Q
/-- what a for walks over -/
noncomputable def srcOf (d : D) : Option (List D) := match d with
  | .lst ds => some ds
  | .rng a b c => if Builtin.Range.small a b c = true then some ((rangeL a b c).map .int) else none
  | _ => none
/-- a local, read and laid, by the recursors: they reckon by themselves -/
@[reducible] noncomputable def getV (l : Loc) (i : Nat) (K : D → Prop) : Prop :=
  List.rec (motive := fun _ => Nat → Prop) (fun _ => False) (fun o _ ih i => Nat.rec (motive := fun _ => Prop) (Option.rec (motive := fun _ => Prop) False K o) (fun j _ => ih j) i) l i
@[reducible] noncomputable def setV (l : Loc) (i : Nat) (v : Option D) : Loc :=
  List.rec (motive := fun _ => Nat → Loc) (fun _ => []) (fun o r ih i => Nat.rec (motive := fun _ => Loc) (v :: r) (fun j _ => o :: ih j) i) l i
theorem getV_of {K : D → Prop} : ∀ {l : Loc} {i : Nat}, getV l i K → ∃ d, l[i]? = some (some d) ∧ K d
  | [], _, h => h.elim
  | o :: _, 0, h => by
    cases o with
    | none => exact h.elim
    | some d => exact ⟨d, rfl, h⟩
  | _ :: r, i + 1, h => getV_of (l := r) (i := i) h
theorem getV_k {K : D → Prop} : ∀ {l : Loc} {i : Nat} {d : D}, l[i]? = some (some d) → K d → getV l i K
  | [], _, _, h, _ => by cases h
  | o :: _, 0, d, h, k => by cases h; exact k
  | _ :: r, i + 1, d, h, k => getV_k (l := r) (i := i) h k
theorem setV_eq : ∀ {l : Loc} {i : Nat} {v : Option D}, setV l i v = l.set i v
  | [], _, _ => rfl
  | _ :: _, 0, _ => rfl
  | o :: r, i + 1, v => congrArg (o :: ·) (setV_eq (l := r) (i := i) (v := v))
/-- the targets of a comprehension or a tuple assignment -/
noncomputable def bindT : List (Nat × Str × Pos) → List D → Loc → Option Loc
  | [], [], l => some l
  | t :: ts, d :: ds, l => bindT ts ds (setV l t.1 (some d))
  | _, _, _ => none
noncomputable def bindO (tk : Option (Nat × Pos)) (ts : List (Nat × Str × Pos)) (d : D) (l : Loc) : Option Loc := match tk, d with
  | none, d => bindT (ts.take 1) [d] l
  | some _, .tup ds => bindT ts ds l
  | _, _ => none
noncomputable def initL (init : List (Option Nat)) (loc : Loc) : Loc := init.map fun o => match o with
  | some i => (loc[i]?).join
  | none => none
/-- initL by the recursors -/
@[reducible] noncomputable def getOp (l : Loc) (i : Nat) : Option D :=
  List.rec (motive := fun _ => Nat → Option D) (fun _ => none) (fun o _ ih i => Nat.rec (motive := fun _ => Option D) o (fun j _ => ih j) i) l i
theorem getOp_eq : ∀ {l : Loc} {i : Nat}, getOp l i = (l[i]?).join
  | [], _ => rfl
  | _ :: _, 0 => rfl
  | _ :: r, i + 1 => getOp_eq (l := r) (i := i)
@[reducible] noncomputable def initX (init : List (Option Nat)) (loc : Loc) : Loc :=
  List.rec (motive := fun _ => Loc) [] (fun o _ ih => Option.rec (motive := fun _ => Option D) none (fun i => getOp loc i) o :: ih) init
theorem initX_eq {loc : Loc} : ∀ {init : List (Option Nat)}, initX init loc = initL init loc
  | [] => rfl
  | none :: r => congrArg (none :: ·) (initX_eq (init := r))
  | some i :: r => by
    show getOp loc i :: initX r loc = (loc[i]?).join :: initL r loc
    rw [getOp_eq, initX_eq]
/-- what repr is asked of -/
noncomputable def rpLeaf : D → Prop
  | .int i => Sm i
  | .bytes l => l.length ≤ 64
  | _ => False
noncomputable def rpOk : D → Prop
  | .none => True
  | .tup ds => (match ds with
    | a :: r => asI a fun a => (match r with
      | b :: r => asI b fun b => (match r with
        | l :: r => asL l fun ds => (match r with
          | [] => Sm a ∧ Sm b ∧ ds.length ≤ 64 ∧ ∀ d ∈ ds, rpLeaf d
          | _ :: _ => False)
        | [] => False)
      | [] => False)
    | [] => False)
  | _ => False
noncomputable def biS (rp : D → Str) (b : Bi) (ds : List D) (μ : Mu) (Q : D → Mu → Prop) : Prop := match b with
  | .len => arg1 ds fun d => (match d with
    | .bytes l => Fits l.length ∧ Q (.int l.length) μ
    | .lst l => Fits l.length ∧ Q (.int l.length) μ
    | _ => False)
  | .range => (match ds with
    | d :: r => asI d fun a => (match r with
      | [] => Sm a ∧ Q (.rng 0 a 1) μ
      | e :: r => asI e fun b => (match r with
        | [] => Sm a ∧ Sm b ∧ Q (.rng a b 1) μ
        | f :: r => asI f fun c => (match r with
          | [] => Sm a ∧ Sm b ∧ c = -1 ∧ Q (.rng a b c) μ
          | _ :: _ => False)))
    | [] => False)
  | .sum => arg1 ds fun d => asL d fun ds => optQ (intsOf ds) fun is => ds.length ≤ 64 ∧ Q (.int is.sum) μ
  | .abs => arg1 ds fun d => asI d fun i => Q (.int i.natAbs) μ
  | .bytes => arg1 ds fun d => asL d fun ds => optQ (intsOf ds) fun is => (∀ i ∈ is, 0 ≤ i ∧ i < 256) ∧ Fits is.length ∧ Q (.bytes is) μ
  | .list => arg1 ds fun d => (match d with
    | .rng a b c => Builtin.Range.small a b c = true ∧ Fits (rangeL a b c).length ∧ Q (.lst ((rangeL a b c).map .int)) μ
    | _ => False)
  | .int => arg1 ds fun d => asB d fun b => Q (.int (if b then 1 else 0)) μ
  | .repr => arg1 ds fun d => rpOk d ∧ Q (.str (rp d)) μ
/-- the first place of a bytes in a bytes of one octet: place or -1 -/
noncomputable def findI (l : List Int) (x : Int) : Int := match l.findIdx? (· == x) with
  | some i => i
  | none => -1
/-- which kinds have the method -/
noncomputable def bmOk (μ : Mu) (b : Bm) (d : D) : Prop := match b with
  | .find => asBy d fun _ => True
  | .append => (match d with | .cel a => ∃ es, μ.lookup a = some (.lst es) | _ => False)
  | .count => asL d fun _ => True
  | .index => asL d fun _ => True
noncomputable def bmS (b : Bm) (o : D) (ds : List D) (μ : Mu) (Q : D → Mu → Prop) : Prop := match b with
  | .find => asBy o fun l => arg1 ds fun d => asBy d fun k => (match k with
    | x :: r => (match r with | [] => Fits l.length ∧ Q (.int (findI l x)) μ | _ :: _ => False)
    | [] => False)
  | .append => (match o with
    | .cel a => arg1 ds fun d => (match μ.lookup a with
      | some (.lst es) => Fits (es.length + 1) ∧ Q .none (putMu μ a (.lst (es ++ [d])))
      | _ => False)
    | _ => False)
  | .count => asL o fun es => arg1 ds fun d => asB d fun b => optQ (boolsOf es) fun bs => Fits bs.length ∧ Q (.int (bs.count b)) μ
  | .index => asL o fun es => arg1 ds fun d => asB d fun b => optQ (boolsOf es) fun bs => Fits bs.length ∧ b ∈ bs ∧ Q (.int (bs.idxOf b)) μ
structure pick (c : Bool) (A B : Prop) : Prop where
  ok : match c with | true => A | false => B
/-- a fact that is asked for: boxed, so that nothing reckons past it -/
structure Rg (P : Prop) : Prop where
  ok : P
noncomputable def cmpQ (op : CmpOp) (x y : D) (Q : Bool → Prop) : Prop := match cmpS op x y with | some r => Q r | none => False
noncomputable def idxQ (μ : Mu) (x y : D) (Q : D → Prop) : Prop := match idxS μ x y with | some v => Q v | none => False
noncomputable def tupQ (ts : List (Nat × Str × Pos)) (loc : Loc) (d : D) (Q : Loc → Prop) : Prop := match d with
  | .tup ds => (match bindT ts ds loc with | some loc => Q loc | none => False)
  | _ => False
/-- a comparison, a sum: of two ints at once -/
@[reducible] noncomputable def cmpX (op : CmpOp) (x y : D) (Q : Bool → Prop) : Prop := match op with
  | .Eq => (match x with
    | .int i => (match y with
      | .int j => Q (decide (i = j))
      | y => Rg (cmpQ .Eq (.int i) y Q))
    | x => Rg (cmpQ .Eq x y Q))
  | .NotEq => (match x with
    | .int i => (match y with
      | .int j => Q (!decide (i = j))
      | y => Rg (cmpQ .NotEq (.int i) y Q))
    | x => Rg (cmpQ .NotEq x y Q))
  | .Lt => (match x with
    | .int i => (match y with
      | .int j => Q (decide (i < j))
      | y => Rg (cmpQ .Lt (.int i) y Q))
    | x => Rg (cmpQ .Lt x y Q))
  | .LtE => (match x with
    | .int i => (match y with
      | .int j => Q (decide (i ≤ j))
      | y => Rg (cmpQ .LtE (.int i) y Q))
    | x => Rg (cmpQ .LtE x y Q))
  | .Gt => (match x with
    | .int i => (match y with
      | .int j => Q (decide (j < i))
      | y => Rg (cmpQ .Gt (.int i) y Q))
    | x => Rg (cmpQ .Gt x y Q))
  | .GtE => (match x with
    | .int i => (match y with
      | .int j => Q (decide (j ≤ i))
      | y => Rg (cmpQ .GtE (.int i) y Q))
    | x => Rg (cmpQ .GtE x y Q))
  | op => Rg (cmpQ op x y Q)
theorem cmpX_to {op : CmpOp} {x y : D} {Q : Bool → Prop} (h : cmpX op x y Q) : cmpQ op x y Q := by
  cases op <;> first
    | exact h.ok
    | (cases x <;> first
        | exact h.ok
        | (cases y <;> first | exact h | exact h.ok))
@[reducible] noncomputable def binX (op : Operator) (m : Bool) (x y : D) (μ : Mu) (Q : D → Mu → Prop) : Prop := match x with
  | .int i => (match y with
    | .int j => (match op with
      | .Add => Q (.int (i + j)) μ
      | .Sub => Q (.int (i - j)) μ
      | op => Rg (binS op m (.int i) (.int j) μ Q))
    | y => Rg (binS op m (.int i) y μ Q))
  | x => Rg (binS op m x y μ Q)
theorem binX_to {op : Operator} {m : Bool} {x y : D} {μ : Mu} {Q : D → Mu → Prop} (h : binX op m x y μ Q) : binS op m x y μ Q := by
  cases x <;> try exact h.ok
  cases y <;> try exact h.ok
  cases op <;> first | exact h | exact h.ok
/-! the meaning of the forms: by the recursors, so that it reckons by itself -/
noncomputable abbrev TF := Nat → List D → Mu → (D → Mu → Prop) → Prop → Prop
noncomputable abbrev TM := List D → Mu → (D → Mu → Prop) → Prop → Prop
structure WE where
  go : TF → TM → (D → Str) → Loc → Mu → (D → Mu → Prop) → Prop → Prop
structure WL where
  go : TF → TM → (D → Str) → Loc → Mu → (List D → Mu → Prop) → Prop → Prop
/-- a form's meaning, set going -/
@[reducible] noncomputable def goE (w : WE) (FS : TF) (MK : TM) (rp : D → Str) (loc : Loc) (μ : Mu) (Q : D → Mu → Prop) (X : Prop) : Prop := w.go FS MK rp loc μ Q X
@[reducible] noncomputable def goL (w : WL) (FS : TF) (MK : TM) (rp : D → Str) (loc : Loc) (μ : Mu) (Q : List D → Mu → Prop) (X : Prop) : Prop := w.go FS MK rp loc μ Q X
/-! what comes behind, each by a name: what it holds stands beneath no binder -/
section
variable (FS : TF) (MK : TM) (rp : D → Str) (loc : Loc) (μ : Mu) (Q : D → Mu → Prop) (X : Prop)
@[reducible] noncomputable def kL2 (Q : List D → Mu → Prop) (d : D) : List D → Mu → Prop := fun ds μ => Q (d :: ds) μ
@[reducible] noncomputable def kL1 (ih : WL) (Q : List D → Mu → Prop) : D → Mu → Prop := fun d μ => goL ih FS MK rp loc μ (kL2 Q d) X
@[reducible] noncomputable def kA2 (ih : WE) : Bool → Prop := fun b => pick b (goE ih FS MK rp loc μ Q X) (Q (.bool false) μ)
@[reducible] noncomputable def kA1 (ih : WE) : D → Mu → Prop := fun d μ => asB d (kA2 FS MK rp loc μ Q X ih)
@[reducible] noncomputable def kO2 (ih : WE) : Bool → Prop := fun b => pick b (Q (.bool true) μ) (goE ih FS MK rp loc μ Q X)
@[reducible] noncomputable def kO1 (ih : WE) : D → Mu → Prop := fun d μ => asB d (kO2 FS MK rp loc μ Q X ih)
@[reducible] noncomputable def kXo2 (Q : Option D → Mu → Prop) : Int → Prop := fun i => Q (some (.int i)) μ
@[reducible] noncomputable def kXo (Q : Option D → Mu → Prop) : D → Mu → Prop := fun d μ => asI d (kXo2 μ Q)
@[reducible] noncomputable def kXc2 (Q : Bool → Mu → Prop) : Bool → Prop := fun b => Q b μ
@[reducible] noncomputable def kXc (Q : Bool → Mu → Prop) : D → Mu → Prop := fun d μ => asB d (kXc2 μ Q)
@[reducible] noncomputable def kV : D → Prop := fun d => Q d μ
@[reducible] noncomputable def kAt (j : Nat) : D → Mu → Prop := fun d μ => Rg (getF μ d j (kV μ Q))
@[reducible] noncomputable def kN2 : Bool → Prop := fun b => Q (.bool (!b)) μ
@[reducible] noncomputable def kN : D → Mu → Prop := fun d μ => asB d (kN2 μ Q)
@[reducible] noncomputable def kR : Bool → Prop := fun r => Q (.bool r) μ
@[reducible] noncomputable def kC2 (op : CmpOp) (x : D) : D → Mu → Prop := fun y μ => cmpX op x y (kR μ Q)
@[reducible] noncomputable def kC1 (op : CmpOp) (b : WE) : D → Mu → Prop := fun x μ => goE b FS MK rp loc μ (kC2 Q op x) X
@[reducible] noncomputable def kD3 (o2 : CmpOp) (c : WE) (y : D) : Bool → Prop := fun r => pick r (goE c FS MK rp loc μ (kC2 Q o2 y) X) (Q (.bool false) μ)
@[reducible] noncomputable def kD2 (o1 o2 : CmpOp) (c : WE) (x : D) : D → Mu → Prop := fun y μ => cmpX o1 x y (kD3 FS MK rp loc μ Q X o2 c y)
@[reducible] noncomputable def kD1 (o1 o2 : CmpOp) (b c : WE) : D → Mu → Prop := fun x μ => goE b FS MK rp loc μ (kD2 FS MK rp loc Q X o1 o2 c x) X
@[reducible] noncomputable def kI2 (a b : WE) : Bool → Prop := fun c => pick c (goE a FS MK rp loc μ Q X) (goE b FS MK rp loc μ Q X)
@[reducible] noncomputable def kI1 (a b : WE) : D → Mu → Prop := fun d μ => asB d (kI2 FS MK rp loc μ Q X a b)
@[reducible] noncomputable def kCa (f : Nat) : List D → Mu → Prop := fun ds μ => Rg (FS f ds μ Q X)
@[reducible] noncomputable def kMe2 (f : Nat) (d : D) : List D → Mu → Prop := fun ds μ => Rg (FS f (d :: ds) μ Q X)
@[reducible] noncomputable def kMa : List D → Mu → Prop := fun ds μ => Rg (MK ds μ Q X)
@[reducible] noncomputable def kBi (b : Bi) : List D → Mu → Prop := fun ds μ => Rg (biS rp b ds μ Q)
@[reducible] noncomputable def kBm2 (b : Bm) (d : D) : List D → Mu → Prop := fun ds μ => Rg (bmS b d ds μ Q)
@[reducible] noncomputable def kX2 (x : D) : D → Mu → Prop := fun y μ => Rg (idxQ μ x y (kV μ Q))
@[reducible] noncomputable def kX1 (i : WE) : D → Mu → Prop := fun x μ => goE i FS MK rp loc μ (kX2 Q x) X
@[reducible] noncomputable def kS3 (x : D) (l : Option D) : Option D → Mu → Prop := fun h μ => Rg (slcS μ x l h (kV μ Q))
@[reducible] noncomputable def kRv : D → Mu → Prop := fun x μ => Rg (revS μ x (kV μ Q))
@[reducible] noncomputable def kLi (m : Bool) : List D → Mu → Prop := fun ds μ => Rg (newL m ds μ Q)
@[reducible] noncomputable def kTu : List D → Mu → Prop := fun ds μ => Fits ds.length ∧ Q (.tup ds) μ
end
@[reducible] noncomputable def xl_nil : WL := ⟨fun _ _ _ _ μ Q _ => Q [] μ⟩
@[reducible] noncomputable def xl_cons (w : WE) (_ : List WE) (ih : WL) : WL := ⟨fun FS MK rp loc μ Q X => goE w FS MK rp loc μ (kL1 FS MK rp loc X ih Q) X⟩
@[reducible] noncomputable def xs (l : List WE) (FS : TF) (MK : TM) (rp : D → Str) (loc : Loc) (μ : Mu) (Q : List D → Mu → Prop) (X : Prop) : Prop :=
  (List.rec (motive := fun _ => WL) xl_nil xl_cons l).go FS MK rp loc μ Q X
@[reducible] noncomputable def a_nilX : WE := ⟨fun _ _ _ _ μ Q _ => Q (.bool true) μ⟩
@[reducible] noncomputable def a_consX (w : WE) (_ : List WE) (ih : WE) : WE := ⟨fun FS MK rp loc μ Q X => goE w FS MK rp loc μ (kA1 FS MK rp loc Q X ih) X⟩
@[reducible] noncomputable def o_nilX : WE := ⟨fun _ _ _ _ μ Q _ => Q (.bool false) μ⟩
@[reducible] noncomputable def o_consX (w : WE) (_ : List WE) (ih : WE) : WE := ⟨fun FS MK rp loc μ Q X => goE w FS MK rp loc μ (kO1 FS MK rp loc Q X ih) X⟩
@[reducible] noncomputable def xb (op : BoolOp) (l : List WE) (FS : TF) (MK : TM) (rp : D → Str) (loc : Loc) (μ : Mu) (Q : D → Mu → Prop) (X : Prop) : Prop := match op with
  | .And => (List.rec (motive := fun _ => WE) a_nilX a_consX l).go FS MK rp loc μ Q X
  | .Or => (List.rec (motive := fun _ => WE) o_nilX o_consX l).go FS MK rp loc μ Q X
@[reducible] noncomputable def xo (o : Option WE) (FS : TF) (MK : TM) (rp : D → Str) (loc : Loc) (μ : Mu) (Q : Option D → Mu → Prop) (X : Prop) : Prop :=
  Option.rec (motive := fun _ => Prop) (Q none μ) (fun w => goE w FS MK rp loc μ (kXo Q) X) o
@[reducible] noncomputable def xc (o : Option WE) (FS : TF) (MK : TM) (rp : D → Str) (loc : Loc) (μ : Mu) (Q : Bool → Mu → Prop) : Prop :=
  Option.rec (motive := fun _ => Prop) (Q true μ) (fun w => goE w FS MK rp loc μ (kXc Q) False) o
section
variable (FS : TF) (MK : TM) (rp : D → Str) (loc : Loc) (μ : Mu) (Q : D → Mu → Prop) (X : Prop)
@[reducible] noncomputable def kMe1 (f : Nat) (as : List WE) : D → Mu → Prop := fun d μ => isInst μ d ∧ xs as FS MK rp loc μ (kMe2 FS Q X f d) X
@[reducible] noncomputable def kBm1 (b : Bm) (as : List WE) : D → Mu → Prop := fun d μ => bmOk μ b d ∧ xs as FS MK rp loc μ (kBm2 Q b d) X
@[reducible] noncomputable def kS2 (hi : Option WE) (x : D) : Option D → Mu → Prop := fun l μ => xo hi FS MK rp loc μ (kS3 Q x l) X
@[reducible] noncomputable def kS1 (lo hi : Option WE) : D → Mu → Prop := fun x μ => xo lo FS MK rp loc μ (kS2 FS MK rp loc Q X hi x) X
end
/-- what a loop walks over -/
@[reducible] noncomputable def overQ (d : D) (K : List D → Prop) : Prop := ∃ ds, srcOf d = some ds ∧ K ds
@[reducible] noncomputable def x_nil (_ : Nat) (_ : Pos) : WE := ⟨fun _ _ _ _ μ Q _ => Q .none μ⟩
@[reducible] noncomputable def x_bool (b : Bool) (_ : Nat) (_ : Pos) : WE := ⟨fun _ _ _ _ μ Q _ => Q (.bool b) μ⟩
@[reducible] noncomputable def x_int (i : Int) (_ : Nat) (_ : Pos) : WE := ⟨fun _ _ _ _ μ Q _ => Q (.int i) μ⟩
@[reducible] noncomputable def x_neg (i : Int) (_ : Nat) (_ _ : Pos) : WE := ⟨fun _ _ _ _ μ Q _ => Q (.int (-i)) μ⟩
@[reducible] noncomputable def x_str (s : Str) (_ : Nat) (_ : Pos) : WE := ⟨fun _ _ _ _ μ Q _ => Q (.str s) μ⟩
@[reducible] noncomputable def x_bytes (l : List UInt8) (_ : Nat) (_ : Pos) : WE := ⟨fun _ _ _ _ μ Q _ => Q (.bytes (l.map fun u => (u.toNat : Int))) μ⟩
@[reducible] noncomputable def x_var (i : Nat) (_ : Str) (_ : Pos) : WE := ⟨fun _ _ _ loc μ Q _ => getV loc i (kV μ Q)⟩
@[reducible] noncomputable def x_gint (v : Int) (_ : Str) (_ : Pos) : WE := ⟨fun _ _ _ _ μ Q _ => Q (.int v) μ⟩
@[reducible] noncomputable def x_known (_ : Pos) : WE := ⟨fun _ _ _ _ μ Q _ => Q (.lst (knownL.map .int)) μ⟩
@[reducible] noncomputable def x_attr (j : Nat) (_ : E) (_ : Pos) (e : WE) : WE := ⟨fun FS MK rp loc μ Q X => goE e FS MK rp loc μ (kAt Q j) X⟩
/-- where a list is written on the right: no int -/
@[reducible] noncomputable def binY (e : E) (op : Operator) (m : Bool) (x y : D) (μ : Mu) (Q : D → Mu → Prop) : Prop := match e with
  | .list _ _ _ => Rg (binS op m x y μ Q)
  | .ite _ (.list _ _ _) _ _ => Rg (binS op m x y μ Q)
  | _ => binX op m x y μ Q
theorem binY_to {e : E} {op : Operator} {m : Bool} {x y : D} {μ : Mu} {Q : D → Mu → Prop} (h : binY e op m x y μ Q) : binS op m x y μ Q := by
  cases e with
  | ite t a b p => cases a <;> first | exact h.ok | exact binX_to h
  | _ => first | exact h.ok | exact binX_to h
@[reducible] noncomputable def kB2 (Q : D → Mu → Prop) (op : Operator) (m : Bool) (eb : E) (x : D) : D → Mu → Prop := fun y μ => binY eb op m x y μ Q
@[reducible] noncomputable def kB1 (FS : TF) (MK : TM) (rp : D → Str) (loc : Loc) (Q : D → Mu → Prop) (X : Prop) (op : Operator) (m : Bool) (eb : E) (b : WE) : D → Mu → Prop := fun x μ => goE b FS MK rp loc μ (kB2 Q op m eb x) X
@[reducible] noncomputable def x_bin (op : Operator) (m : Bool) (_ eb : E) (_ : Pos) (a b : WE) : WE := ⟨fun FS MK rp loc μ Q X => goE a FS MK rp loc μ (kB1 FS MK rp loc Q X op m eb b) X⟩
@[reducible] noncomputable def x_not (_ : E) (_ : Pos) (a : WE) : WE := ⟨fun FS MK rp loc μ Q X => goE a FS MK rp loc μ (kN Q) X⟩
@[reducible] noncomputable def x_bop (op : BoolOp) (_ : Es) (_ : Pos) (es : List WE) : WE := ⟨fun FS MK rp loc μ Q X => xb op es FS MK rp loc μ Q X⟩
@[reducible] noncomputable def x_cmp1 (op : CmpOp) (_ _ : E) (_ : Pos) (a b : WE) : WE := ⟨fun FS MK rp loc μ Q X => goE a FS MK rp loc μ (kC1 FS MK rp loc Q X op b) X⟩
@[reducible] noncomputable def x_cmp2 (o1 o2 : CmpOp) (_ _ _ : E) (_ : Pos) (a b c : WE) : WE := ⟨fun FS MK rp loc μ Q X => goE a FS MK rp loc μ (kD1 FS MK rp loc Q X o1 o2 b c) X⟩
@[reducible] noncomputable def x_ite (_ _ _ : E) (_ : Pos) (t a b : WE) : WE := ⟨fun FS MK rp loc μ Q X => goE t FS MK rp loc μ (kI1 FS MK rp loc Q X a b) X⟩
@[reducible] noncomputable def x_call (f : Nat) (_ : Str) (_ : Pos) (_ : Es) (_ : Pos) (as : List WE) : WE := ⟨fun FS MK rp loc μ Q X => xs as FS MK rp loc μ (kCa FS Q X f) X⟩
@[reducible] noncomputable def x_meth (f : Nat) (_ : Str) (_ : E) (_ : Pos) (_ : Es) (_ : Pos) (o : WE) (as : List WE) : WE := ⟨fun FS MK rp loc μ Q X => goE o FS MK rp loc μ (kMe1 FS MK rp loc Q X f as) X⟩
@[reducible] noncomputable def x_make (_ : Str) (_ : Pos) (_ : Es) (_ : Pos) (as : List WE) : WE := ⟨fun FS MK rp loc μ Q X => xs as FS MK rp loc μ (kMa MK Q X) X⟩
@[reducible] noncomputable def x_bi (b : Bi) (_ : Pos) (_ : Es) (_ : Pos) (as : List WE) : WE := ⟨fun FS MK rp loc μ Q X => xs as FS MK rp loc μ (kBi rp Q b) X⟩
@[reducible] noncomputable def x_bm (b : Bm) (_ : E) (_ : Pos) (_ : Es) (_ : Pos) (o : WE) (as : List WE) : WE := ⟨fun FS MK rp loc μ Q X => goE o FS MK rp loc μ (kBm1 FS MK rp loc Q X b as) X⟩
@[reducible] noncomputable def x_idx (_ _ : E) (_ : Pos) (o i : WE) : WE := ⟨fun FS MK rp loc μ Q X => goE o FS MK rp loc μ (kX1 FS MK rp loc Q X i) X⟩
@[reducible] noncomputable def x_slc (_ : E) (_ _ : Eo) (_ _ : Pos) (o : WE) (lo hi : Option WE) : WE := ⟨fun FS MK rp loc μ Q X => goE o FS MK rp loc μ (kS1 FS MK rp loc Q X lo hi) X⟩
@[reducible] noncomputable def x_rev (_ : E) (_ _ _ _ _ : Pos) (o : WE) : WE := ⟨fun FS MK rp loc μ Q X => goE o FS MK rp loc μ (kRv Q) X⟩
@[reducible] noncomputable def x_list (m : Bool) (_ : Es) (_ : Pos) (es : List WE) : WE := ⟨fun FS MK rp loc μ Q X => xs es FS MK rp loc μ (kLi Q m) X⟩
@[reducible] noncomputable def x_tup (_ : Es) (_ : Nat) (_ : Pos) (es : List WE) : WE := ⟨fun FS MK rp loc μ Q X => xs es FS MK rp loc μ (kTu Q) X⟩
@[reducible] noncomputable def kSt2 (k : Option D → Mu → Prop) : D → Mu → Prop := fun v μ => k (some v) μ
@[reducible] noncomputable def kSt (FS : TF) (MK : TM) (rp : D → Str) (loc : Loc) (elt : WE) (k : Option D → Mu → Prop) : Bool → Mu → Prop := fun c μ => pick c (goE elt FS MK rp loc μ (kSt2 k) False) (k none μ)
/-- the step of a comprehension -/
noncomputable def stepX (FS : TF) (MK : TM) (rp : D → Str) (elt : WE) (cond : Option WE) (ts : List (Nat × Str × Pos)) (tk : Option (Nat × Pos)) (l0 : Loc) (d : D) (μ : Mu) (k : Option D → Mu → Prop) : Prop := match bindO tk ts d l0 with
  | some loc => xc cond FS MK rp loc μ (kSt FS MK rp loc elt k)
  | none => False
@[reducible] noncomputable def kCo2 (FS : TF) (MK : TM) (rp : D → Str) (loc : Loc) (μ : Mu) (Q : D → Mu → Prop) (elt : WE) (cond : Option WE) (ts : List (Nat × Str × Pos)) (tk : Option (Nat × Pos)) (init : List (Option Nat)) : List D → Prop := fun ds => gath (stepX FS MK rp elt cond ts tk (initX init loc)) ds [] μ Q
@[reducible] noncomputable def kCo1 (FS : TF) (MK : TM) (rp : D → Str) (loc : Loc) (Q : D → Mu → Prop) (elt : WE) (cond : Option WE) (ts : List (Nat × Str × Pos)) (tk : Option (Nat × Pos)) (init : List (Option Nat)) : D → Mu → Prop := fun d μ => overQ d (kCo2 FS MK rp loc μ Q elt cond ts tk init)
@[reducible] noncomputable def x_comp (_ : E) (_ : Eo) (ts : List (Nat × Str × Pos)) (tk : Option (Nat × Pos)) (_ : E) (_ : Scope) (init : List (Option Nat)) (_ : Pos) (elt : WE) (cond : Option WE) (src : WE) : WE := ⟨fun FS MK rp loc μ Q X =>
  goE src FS MK rp loc μ (kCo1 FS MK rp loc Q elt cond ts tk init) X⟩
@[reducible] noncomputable def x_econs (_ : E) (_ : Es) (e : WE) (r : List WE) : List WE := e :: r
@[reducible] noncomputable def x_osome (_ : E) (e : WE) : Option WE := some e
@[reducible] noncomputable def eX (e : E) : WE := E.rec (motive_1 := fun _ => WE) (motive_2 := fun _ => List WE) (motive_3 := fun _ => Option WE)
  x_nil x_bool x_int x_neg x_str x_bytes x_var x_gint x_known x_attr x_bin x_not x_bop x_cmp1 x_cmp2 x_ite x_call x_meth x_make x_bi x_bm x_idx x_slc x_rev x_list x_tup x_comp [] x_econs none x_osome e
@[reducible] noncomputable def esX (e : Es) : List WE := Es.rec (motive_1 := fun _ => WE) (motive_2 := fun _ => List WE) (motive_3 := fun _ => Option WE)
  x_nil x_bool x_int x_neg x_str x_bytes x_var x_gint x_known x_attr x_bin x_not x_bop x_cmp1 x_cmp2 x_ite x_call x_meth x_make x_bi x_bm x_idx x_slc x_rev x_list x_tup x_comp [] x_econs none x_osome e
@[reducible] noncomputable def eoX (e : Eo) : Option WE := Eo.rec (motive_1 := fun _ => WE) (motive_2 := fun _ => List WE) (motive_3 := fun _ => Option WE)
  x_nil x_bool x_int x_neg x_str x_bytes x_var x_gint x_known x_attr x_bin x_not x_bop x_cmp1 x_cmp2 x_ite x_call x_meth x_make x_bi x_bm x_idx x_slc x_rev x_list x_tup x_comp [] x_econs none x_osome e
@[reducible] noncomputable def wpE (FS : TF) (MK : TM) (rp : D → Str) (e : E) (loc : Loc) (μ : Mu) (Q : D → Mu → Prop) (X : Prop) : Prop := goE (eX e) FS MK rp loc μ Q X
@[reducible] noncomputable def wpEs (FS : TF) (MK : TM) (rp : D → Str) (e : Es) (loc : Loc) (μ : Mu) (Q : List D → Mu → Prop) (X : Prop) : Prop := xs (esX e) FS MK rp loc μ Q X
@[reducible] noncomputable def wpB (FS : TF) (MK : TM) (rp : D → Str) (op : BoolOp) (e : Es) (loc : Loc) (μ : Mu) (Q : D → Mu → Prop) (X : Prop) : Prop := xb op (esX e) FS MK rp loc μ Q X
@[reducible] noncomputable def wpO (FS : TF) (MK : TM) (rp : D → Str) (e : Eo) (loc : Loc) (μ : Mu) (Q : Option D → Mu → Prop) (X : Prop) : Prop := xo (eoX e) FS MK rp loc μ Q X
@[reducible] noncomputable def wpC (FS : TF) (MK : TM) (rp : D → Str) (e : Eo) (loc : Loc) (μ : Mu) (Q : Bool → Mu → Prop) : Prop := xc (eoX e) FS MK rp loc μ Q
/-- behind a turn's body -/
@[reducible] noncomputable def turnR (K : Loc → Mu → Prop) (Q : Out → Loc → Mu → Prop) : Out → Loc → Mu → Prop := fun o loc μ => match o with
  | .next => K loc μ
  | .cont => K loc μ
  | .ret d => Q (.ret d) loc μ
/-- while, by the number of turns that are left -/
noncomputable def whileN (t : Loc → Mu → (Bool → Mu → Prop) → Prop) (b : Loc → Mu → (Out → Loc → Mu → Prop) → Prop) (Q : Out → Loc → Mu → Prop) : Nat → Loc → Mu → Prop
  | 0, _, _ => False
  | k + 1, loc, μ => t loc μ fun c μ => pick c (b loc μ (turnR (whileN t b Q k) Q)) (Q .next loc μ)
noncomputable def forN (i : Nat) (b : Loc → Mu → (Out → Loc → Mu → Prop) → Prop) (Q : Out → Loc → Mu → Prop) : List D → Loc → Mu → Prop
  | [], loc, μ => Q .next loc μ
  | d :: ds, loc, μ => b (setV loc i (some d)) μ (turnR (forN i b Q ds) Q)
structure WS where
  go : TF → TM → (D → Str) → Loc → Mu → (Out → Loc → Mu → Prop) → Prop → Prop
@[reducible] noncomputable def goS (w : WS) (FS : TF) (MK : TM) (rp : D → Str) (loc : Loc) (μ : Mu) (Q : Out → Loc → Mu → Prop) (X : Prop) : Prop := w.go FS MK rp loc μ Q X
/-- behind a statement -/
@[reducible] noncomputable def thenR (w : WS) (FS : TF) (MK : TM) (rp : D → Str) (Q : Out → Loc → Mu → Prop) (X : Prop) : Out → Loc → Mu → Prop := fun o loc μ => match o with
  | .next => goS w FS MK rp loc μ Q X
  | .cont => Q .cont loc μ
  | .ret d => Q (.ret d) loc μ
noncomputable def whlX (FS : TF) (MK : TM) (rp : D → Str) (t : WE) (b : WS) (Q : Out → Loc → Mu → Prop) (X : Prop) (loc : Loc) (μ : Mu) : Prop :=
  ∃ k, whileN (fun loc μ k => goE t FS MK rp loc μ (fun d μ => asB d fun c => k c μ) X) (fun loc μ k => goS b FS MK rp loc μ k X) Q k loc μ
noncomputable def forX (FS : TF) (MK : TM) (rp : D → Str) (i : Nat) (b : WS) (Q : Out → Loc → Mu → Prop) (X : Prop) (ds : List D) (loc : Loc) (μ : Mu) : Prop := forN i (fun loc μ k => goS b FS MK rp loc μ k X) Q ds loc μ
section
variable (FS : TF) (MK : TM) (rp : D → Str) (loc : Loc) (μ : Mu) (R : Out → Loc → Mu → Prop) (X : Prop)
@[reducible] noncomputable def kRet : D → Mu → Prop := fun d μ => R (.ret d) loc μ
@[reducible] noncomputable def kAs (i : Nat) : D → Mu → Prop := fun d μ => R .next (setV loc i (some d)) μ
@[reducible] noncomputable def kT2 : Loc → Prop := fun loc => R .next loc μ
@[reducible] noncomputable def kT1 (ts : List (Nat × Str × Pos)) : D → Mu → Prop := fun d μ => Rg (tupQ ts loc d (kT2 μ R))
@[reducible] noncomputable def kMu : Mu → Prop := fun μ => R .next loc μ
@[reducible] noncomputable def kSa2 (j : Nat) (v : D) : D → Mu → Prop := fun d μ => Rg (setF μ d j v (kMu loc R))
@[reducible] noncomputable def kSa1 (j : Nat) (o : WE) : D → Mu → Prop := fun v μ => goE o FS MK rp loc μ (kSa2 loc R j v) X
@[reducible] noncomputable def kSi3 (d v : D) : D → Mu → Prop := fun k μ => Rg (setI μ d k v (kMu loc R))
@[reducible] noncomputable def kSi2 (i : WE) (v : D) : D → Mu → Prop := fun d μ => goE i FS MK rp loc μ (kSi3 loc R d v) X
@[reducible] noncomputable def kSi1 (o i : WE) : D → Mu → Prop := fun v μ => goE o FS MK rp loc μ (kSi2 FS MK rp loc R X i v) X
@[reducible] noncomputable def kG4 (i : Nat) (op : Operator) (a : Int) : Int → Prop := fun b => match op with
  | .Add => R .next (setV loc i (some (.int (a + b)))) μ
  | .Sub => R .next (setV loc i (some (.int (a - b)))) μ
  | _ => False
@[reducible] noncomputable def kG3 (i : Nat) (op : Operator) (a : Int) : D → Mu → Prop := fun y μ => asI y (kG4 loc μ R i op a)
@[reducible] noncomputable def kG2 (i : Nat) (op : Operator) (e : WE) : Int → Prop := fun a => goE e FS MK rp loc μ (kG3 loc R i op a) X
@[reducible] noncomputable def kG1 (i : Nat) (op : Operator) (e : WE) : D → Prop := fun x => asI x (kG2 FS MK rp loc μ R X i op e)
@[reducible] noncomputable def kU5 (j : Nat) (op : Operator) (d : D) (a : Int) : Int → Prop := fun b => match op with
  | .Add => Rg (setF μ d j (.int (a + b)) (kMu loc R))
  | .Sub => Rg (setF μ d j (.int (a - b)) (kMu loc R))
  | _ => False
@[reducible] noncomputable def kU4 (j : Nat) (op : Operator) (d : D) (a : Int) : D → Mu → Prop := fun y μ => asI y (kU5 loc μ R j op d a)
@[reducible] noncomputable def kU3 (j : Nat) (op : Operator) (e : WE) (d : D) : Int → Prop := fun a => goE e FS MK rp loc μ (kU4 loc R j op d a) X
@[reducible] noncomputable def kU2 (j : Nat) (op : Operator) (e : WE) (d : D) : D → Prop := fun x => asI x (kU3 FS MK rp loc μ R X j op e d)
@[reducible] noncomputable def kU1 (j : Nat) (op : Operator) (e : WE) : D → Mu → Prop := fun d μ => Rg (getF μ d j (kU2 FS MK rp loc μ R X j op e d))
@[reducible] noncomputable def kJ2 (b o : WS) : Bool → Prop := fun c => pick c (goS b FS MK rp loc μ R X) (goS o FS MK rp loc μ R X)
@[reducible] noncomputable def kJ1 (b o : WS) : D → Mu → Prop := fun d μ => asB d (kJ2 FS MK rp loc μ R X b o)
@[reducible] noncomputable def kLo2 (i : Nat) (b : WS) : List D → Prop := fun ds => forX FS MK rp i b R X ds loc μ
@[reducible] noncomputable def kLo1 (i : Nat) (b : WS) : D → Mu → Prop := fun d μ => overQ d (kLo2 FS MK rp loc μ R X i b)
@[reducible] noncomputable def kEx : D → Mu → Prop := fun _ μ => R .next loc μ
@[reducible] noncomputable def kW2 (b : WS) (W : Loc → Mu → Prop) : Bool → Prop := fun c => pick c (goS b FS MK rp loc μ (turnR W R) X) (R .next loc μ)
@[reducible] noncomputable def kW1 (b : WS) (W : Loc → Mu → Prop) : D → Mu → Prop := fun d μ => asB d (kW2 FS MK rp loc μ R X b W)
end
@[reducible] noncomputable def y_ret (e : E) (_ : Pos) : WS := ⟨fun FS MK rp loc μ Q X => goE (eX e) FS MK rp loc μ (kRet loc Q) X⟩
@[reducible] noncomputable def y_asg (i : Nat) (_ : Str) (_ : Pos) (e : E) (_ : Pos) : WS := ⟨fun FS MK rp loc μ Q X => goE (eX e) FS MK rp loc μ (kAs loc Q i) X⟩
@[reducible] noncomputable def y_asgT (ts : List (Nat × Str × Pos)) (_ : Nat) (_ : Pos) (e : E) (_ : Pos) : WS := ⟨fun FS MK rp loc μ Q X => goE (eX e) FS MK rp loc μ (kT1 loc Q ts) X⟩
@[reducible] noncomputable def y_seta (j : Nat) (o : E) (_ : Pos) (e : E) (_ : Pos) : WS := ⟨fun FS MK rp loc μ Q X => goE (eX e) FS MK rp loc μ (kSa1 FS MK rp loc Q X j (eX o)) X⟩
@[reducible] noncomputable def y_seti (o i : E) (_ : Pos) (e : E) (_ : Pos) : WS := ⟨fun FS MK rp loc μ Q X => goE (eX e) FS MK rp loc μ (kSi1 FS MK rp loc Q X (eX o) (eX i)) X⟩
@[reducible] noncomputable def y_aug (i : Nat) (_ : Str) (_ : Pos) (op : Operator) (e : E) (_ : Pos) : WS := ⟨fun FS MK rp loc μ Q X => getV loc i (kG1 FS MK rp loc μ Q X i op (eX e))⟩
@[reducible] noncomputable def y_auga (j : Nat) (o : E) (_ : Pos) (op : Operator) (e : E) (_ : Pos) : WS := ⟨fun FS MK rp loc μ Q X => goE (eX o) FS MK rp loc μ (kU1 FS MK rp loc Q X j op (eX e)) X⟩
@[reducible] noncomputable def y_ite (t : E) (_ _ : Ss) (_ : Pos) (b o : WS) : WS := ⟨fun FS MK rp loc μ Q X => goE (eX t) FS MK rp loc μ (kJ1 FS MK rp loc Q X b o) X⟩
@[reducible] noncomputable def y_whl (t : E) (_ : Ss) (_ : Pos) (b : WS) : WS := ⟨fun FS MK rp loc μ Q X => Rg (whlX FS MK rp (eX t) b Q X loc μ)⟩
@[reducible] noncomputable def y_loop (i : Nat) (_ : Str) (_ : Pos) (it : E) (_ : Ss) (_ : Pos) (b : WS) : WS := ⟨fun FS MK rp loc μ Q X => goE (eX it) FS MK rp loc μ (kLo1 FS MK rp loc Q X i b) X⟩
@[reducible] noncomputable def y_raise (_ : List UInt8) (_ : Nat) (_ _ _ _ : Pos) : WS := ⟨fun _ _ _ _ _ _ X => X⟩
@[reducible] noncomputable def y_cont (_ : Pos) : WS := ⟨fun _ _ _ loc μ Q _ => Q .cont loc μ⟩
@[reducible] noncomputable def y_exp (e : E) (_ : Pos) : WS := ⟨fun FS MK rp loc μ Q X => goE (eX e) FS MK rp loc μ (kEx loc Q) X⟩
@[reducible] noncomputable def y_nil : WS := ⟨fun _ _ _ loc μ Q _ => Q .next loc μ⟩
@[reducible] noncomputable def y_cons (_ : S) (_ : Ss) (s r : WS) : WS := ⟨fun FS MK rp loc μ Q X => goS s FS MK rp loc μ (thenR r FS MK rp Q X) X⟩
@[reducible] noncomputable def sX (s : S) : WS := S.rec (motive_1 := fun _ => WS) (motive_2 := fun _ => WS) y_ret y_asg y_asg y_asgT y_seta y_seti y_aug y_auga y_ite y_whl y_loop y_raise y_cont y_exp y_nil y_cons s
@[reducible] noncomputable def ssX (s : Ss) : WS := Ss.rec (motive_1 := fun _ => WS) (motive_2 := fun _ => WS) y_ret y_asg y_asg y_asgT y_seta y_seti y_aug y_auga y_ite y_whl y_loop y_raise y_cont y_exp y_nil y_cons s
@[reducible] noncomputable def wpS (FS : TF) (MK : TM) (rp : D → Str) (s : S) (loc : Loc) (μ : Mu) (Q : Out → Loc → Mu → Prop) (X : Prop) : Prop := goS (sX s) FS MK rp loc μ Q X
@[reducible] noncomputable def wpSs (FS : TF) (MK : TM) (rp : D → Str) (s : Ss) (loc : Loc) (μ : Mu) (Q : Out → Loc → Mu → Prop) (X : Prop) : Prop := goS (ssX s) FS MK rp loc μ Q X
variable (G : Gx)
structure Same (s : Shared) : Prop where
  gens : s.gens = G.s₀.gens
  drawn : s.drawn = G.s₀.drawn
  os : s.os = G.s₀.os
theorem nodup_mid {α : Type} {l₁ l₂ : List α} {a : α} : (l₁ ++ a :: l₂).Nodup ↔ (a :: (l₁ ++ l₂)).Nodup := List.perm_middle.nodup_iff
noncomputable def HasV (F : Led) (w : Option Value) (o : Option D) : Prop := ∀ d, o = some d → ∃ v, w = some v ∧ RV G F d v
/-- a name's cell -/
inductive CelR (F : Led) (env : Env) (R : Led) (x : Str) (o : Option D) : Prop where
  | mk (c : Addr) (ob : Obj) (w : Option Value) (h1 : env.cells.lookup x = some c) (h2 : (c, ob) ∈ R) (h3 : ob.data = .cell w) (h4 : HasV G F w o)
/-- a name of the frame: in its dict, in a cell of its own, in a cell of the frame around -/
inductive SlotRep (F : Led) (env : Env) (m : Str → Option Value) (clo R : Led) (x : Str) (k : NameKind) (o : Option D) : Prop where
  | loc (e : k = .local) (h : HasV G F (m x) o)
  | cell (e : k = .cell) (h : CelR G F env clo x o)
  | free (e : k = .free) (h : CelR G F env R x o)
  | oth (e1 : k ≠ .local) (e2 : k ≠ .cell) (e3 : k ≠ .free) (h : o = none)
theorem HasV.none {G : Gx} {F : Led} {w : Option Value} : HasV G F w none := fun _ h => no_some h
theorem HasV.mono {G : Gx} {F F' : Led} (h : ∀ p ∈ F, p ∈ F') {w : Option Value} {o : Option D} (x : HasV G F w o) : HasV G F' w o := fun d hd => let ⟨v, a, b⟩ := x d hd; ⟨v, a, b.mono G h⟩
theorem CelR.imp {G : Gx} {F F' R R' : Led} {env : Env} {y : Str} {o o' : Option D} (x : CelR G F env R y o) (h2 : ∀ c ob w, env.cells.lookup y = some c → (c, ob) ∈ R → ob.data = .cell w → (c, ob) ∈ R') (h4 : ∀ w, HasV G F w o → HasV G F' w o') : CelR G F' env R' y o' := by
  obtain ⟨c, ob, w, a, b, e, f⟩ := x
  exact ⟨c, ob, w, a, h2 c ob w a b e, e, h4 w f⟩
theorem SlotRep.imp {G : Gx} {F F' clo clo' R R' : Led} {env : Env} {m m' : Str → Option Value} {y : Str} {k : NameKind} {o o' : Option D} (x : SlotRep G F env m clo R y k o) (h1 : HasV G F (m y) o → HasV G F' (m' y) o') (h2 : k = .cell → CelR G F env clo y o → CelR G F' env clo' y o')
    (h3 : CelR G F env R y o → CelR G F' env R' y o') (h4 : o = none → o' = none) : SlotRep G F' env m' clo' R' y k o' := by
  cases x with
  | loc e h => exact .loc e (h1 h)
  | cell e h => exact .cell e (h2 e h)
  | free e h => exact .free e (h3 h)
  | oth e1 e2 e3 h => exact .oth e1 e2 e3 (h4 h)
section
variable {G : Gx} {F clo R : Led} {env : Env} {m : Str → Option Value} {y : Str} {o : Option D}
theorem SlotRep.l (x : SlotRep G F env m clo R y .local o) : HasV G F (m y) o := by
  cases x with
  | loc _ h => exact h
  | cell e => cases e
  | free e => cases e
  | oth e => exact absurd rfl e
theorem SlotRep.c (x : SlotRep G F env m clo R y .cell o) : CelR G F env clo y o := by
  cases x with
  | loc e => cases e
  | cell _ h => exact h
  | free e => cases e
  | oth _ e => exact absurd rfl e
theorem SlotRep.f (x : SlotRep G F env m clo R y .free o) : CelR G F env R y o := by
  cases x with
  | loc e => cases e
  | cell e => cases e
  | free _ h => exact h
  | oth _ _ e => exact absurd rfl e
end
noncomputable def LocRep (F : Led) (env : Env) (m : Str → Option Value) (clo R : Led) (loc : Loc) : Prop :=
  loc.length = env.scope.names.length ∧ ∀ (i : Nat) (x : Str) (k : NameKind) (o : Option D), env.scope.names[i]? = some (x, k) → loc[i]? = some o → SlotRep G F env m clo R x k o
inductive RepX (env : Env) (L : Addr) (loc : Loc) (μ : Mu) (F R : Led) (hp : Heap) : Prop where
  | mk (m : Str → Option Value) (cs clo : Led) (h1 : Fr G.base L hp m) (h2 : News G.base L hp (cs ++ (F ++ (clo ++ R)))) (h3 : ((cs ++ (F ++ (clo ++ R))).map (·.1)).Nodup) (h4 : CellsRep G F μ cs) (h5 : LocRep G F env m clo R loc)
structure Rep (env : Env) (L : Addr) (loc : Loc) (μ : Mu) (F R : Led) (s : Shared) : Prop where
  ex : RepX G env L loc μ F R s.heap
  same : Same G s
/-- the heap between two frames -/
inductive HRepX (μ : Mu) (F R : Led) (hp : Heap) : Prop where
  | mk (cs : Led) (h1 : ∀ p ∈ cs ++ (F ++ R), hp.get? p.1 = some p.2 ∧ G.base.get? p.1 = none) (h2 : ((cs ++ (F ++ R)).map (·.1)).Nodup) (h3 : CellsRep G F μ cs)
structure HRep (μ : Mu) (F R : Led) (s : Shared) : Prop where
  ex : HRepX G μ F R s.heap
  stays : G.base.StaysIn s.heap
  size : G.base.objs.size ≤ s.heap.objs.size
  same : Same G s
theorem EsR.mono {F F' : Led} (h : ∀ p ∈ F, p ∈ F') {ns : List Str} {es : List DictEntry} {fs : List D} (x : EsR G F ns es fs) : EsR G F' ns es fs := by
  induction x with
  | nil ns => exact .nil ns
  | cons n ns e es d fs tk hk hv _ ih => exact .cons n ns e es d fs tk hk (hv.mono G h) ih
theorem CellRep.mono {F F' : Led} (h : ∀ p ∈ F, p ∈ F') {c : Cell} {o : Obj} (x : CellRep G F c o) : CellRep G F' c o := by
  cases c with
  | lst ds =>
    obtain ⟨vs, n, h1, h2⟩ := x
    exact ⟨vs, n, h1, h2.mono G h⟩
  | inst fs =>
    obtain ⟨es, n, h1, h2⟩ := x
    exact ⟨es, n, h1, h2.mono G h⟩
theorem CellsRep.mono {F F' : Led} (h : ∀ p ∈ F, p ∈ F') : ∀ {μ : Mu} {cs : Led}, CellsRep G F μ cs → CellsRep G F' μ cs
  | [], _, x => x
  | p :: μ, _, x => by
    obtain ⟨o, r, e, h1, h2⟩ := x
    exact ⟨o, r, e, h1.mono G h, CellsRep.mono h h2⟩
theorem SlotRep.mono {F F' : Led} (h : ∀ p ∈ F, p ∈ F') {env m clo R y k o} (x : SlotRep G F env m clo R y k o) : SlotRep G F' env m clo R y k o :=
  x.imp (HasV.mono h) (fun _ x => x.imp (fun _ _ _ _ q _ => q) fun _ => HasV.mono h) (fun x => x.imp (fun _ _ _ _ q _ => q) fun _ => HasV.mono h) id
theorem LocRep.mono {F F' : Led} (h : ∀ p ∈ F, p ∈ F') {env m clo R loc} (x : LocRep G F env m clo R loc) : LocRep G F' env m clo R loc :=
  ⟨x.1, fun i y k o h1 h2 => (x.2 i y k o h1 h2).mono G h⟩
/-- into a callee: the frame joins what rests -/
inductive ToH (env : Env) (L : Addr) (loc : Loc) (μ : Mu) (F R : Led) (s : Shared) : Prop where
  | mk (m : Str → Option Value) (oL : Obj) (es : Array DictEntry) (ep : Nat) (clo : Led) (h1 : Fr G.base L s.heap m) (h2 : s.heap.get? L = some oL) (h3 : oL.data = .dict es ep) (h4 : StrKeys es) (h5 : ∀ name, nsFind es name = m name) (h6 : LocRep G F env m clo R loc) (h7 : HRep G μ F ((L, oL) :: (clo ++ R)) s)
theorem Rep.toH {env L loc μ F R s} (x : Rep G env L loc μ F R s) : ToH G env L loc μ F R s := by
  obtain ⟨⟨m, cs, clo, Fm, N, nd, hc, hl⟩, hs⟩ := x
  obtain ⟨oL, es, ep, ho, hd, hk, hf⟩ := Fm.ns
  refine ⟨m, oL, es, ep, clo, Fm, ho, hd, hk, hf, hl, ⟨⟨cs, ?_, ?_, hc⟩, Fm.keep, Nat.le_of_lt (Nat.lt_of_le_of_lt Fm.above (Heap.lt_size ho)), hs⟩⟩
  · intro p hp
    simp only [List.mem_append, List.mem_cons] at hp
    have hLn : G.base.get? L = none := by
      cases hq : G.base.get? L with
      | none => rfl
      | some o => exact absurd (Nat.lt_of_lt_of_le (Heap.lt_size hq) Fm.above) (Nat.lt_irrefl _)
    rcases hp with h | h | rfl | h | h
    · exact ⟨(N p (by simp [h])).1, (N p (by simp [h])).2.2⟩
    · exact ⟨(N p (by simp [h])).1, (N p (by simp [h])).2.2⟩
    · exact ⟨ho, hLn⟩
    · exact ⟨(N p (by simp [h])).1, (N p (by simp [h])).2.2⟩
    · exact ⟨(N p (by simp [h])).1, (N p (by simp [h])).2.2⟩
  · have hL : ∀ p ∈ cs ++ (F ++ (clo ++ R)), p.1 ≠ L := fun p hp => (N p hp).2.1
    simp only [List.map_append, List.map_cons] at nd ⊢
    have e : cs.map (·.1) ++ (F.map (·.1) ++ L :: (clo.map (·.1) ++ R.map (·.1))) = (cs.map (·.1) ++ F.map (·.1)) ++ L :: (clo.map (·.1) ++ R.map (·.1)) := by simp
    rw [e, nodup_mid]
    refine List.nodup_cons.mpr ⟨?_, by simpa using nd⟩
    intro hm
    have : L ∈ (cs ++ (F ++ (clo ++ R))).map (·.1) := by simpa using hm
    obtain ⟨p, hp, he⟩ := List.mem_map.mp this
    exact hL p hp he
/-- back from a callee -/
theorem HRep.toRep {env L loc μ F clo R s} {m : Str → Option Value} {oL : Obj} {es : Array DictEntry} {ep : Nat} (x : HRep G μ F ((L, oL) :: (clo ++ R)) s) (hL : G.base.objs.size ≤ L)
    (hd : oL.data = .dict es ep) (hk : StrKeys es) (hf : ∀ name, nsFind es name = m name) (hl : LocRep G F env m clo R loc) : Rep G env L loc μ F R s := by
  obtain ⟨⟨cs, h1, nd, hc⟩, st, hsz, hs⟩ := x
  have gL := (h1 (L, oL) (by simp)).1
  have e : cs.map (·.1) ++ (F.map (·.1) ++ L :: (clo.map (·.1) ++ R.map (·.1))) = (cs.map (·.1) ++ F.map (·.1)) ++ L :: (clo.map (·.1) ++ R.map (·.1)) := by simp
  simp only [List.map_append, List.map_cons] at nd
  rw [e, nodup_mid] at nd
  obtain ⟨n1, n2⟩ := List.nodup_cons.mp nd
  refine ⟨⟨m, cs, clo, ⟨⟨oL, es, ep, gL, hd, hk, hf⟩, st, hL⟩, ?_, by simpa using n2, hc, hl⟩, hs⟩
  intro p hp
  refine ⟨(h1 p (by simp only [List.mem_append, List.mem_cons] at hp ⊢; rcases hp with h | h | h | h <;> simp [h])).1, ?_, (h1 p (by simp only [List.mem_append, List.mem_cons] at hp ⊢; rcases hp with h | h | h | h <;> simp [h])).2⟩
  rintro rfl
  apply n1
  have : p.1 ∈ (cs ++ (F ++ (clo ++ R))).map (·.1) := List.mem_map_of_mem hp
  simpa using this
/-- a fresh object, frozen -/
theorem nodup_cons_F {cs F X : Led} {a : Addr} {o : Obj} (nd : ((cs ++ (F ++ X)).map (·.1)).Nodup) (hf : ∀ p ∈ cs ++ (F ++ X), p.1 ≠ a) : ((cs ++ (((a, o) :: F) ++ X)).map (·.1)).Nodup := by
  simp only [List.cons_append, List.map_append, List.map_cons] at nd ⊢
  rw [nodup_mid]
  refine List.nodup_cons.mpr ⟨?_, nd⟩
  intro hm
  have : a ∈ (cs ++ (F ++ X)).map (·.1) := by simpa using hm
  obtain ⟨p, hp, he⟩ := List.mem_map.mp this
  exact hf p hp he
theorem News.fresh_ne {h : Heap} {base : Heap} {L : Addr} {news : Led} (N : News base L h news) : ∀ p ∈ news, p.1 ≠ h.objs.size := fun p hp => Nat.ne_of_lt (Heap.lt_size (N p hp).1)
theorem Rep.push {env L loc μ F R s} (x : Rep G env L loc μ F R s) (o : Obj) (hfree : o.isFreed = false := by rfl) (tk : Nat) :
    Rep G env L loc μ ((s.heap.objs.size, o) :: F) R { s with heap := s.heap.push o, toks := tk } := by
  obtain ⟨⟨m, cs, clo, Fm, N, nd, hc, hl⟩, hs⟩ := x
  have hm : ∀ p ∈ F, p ∈ (s.heap.objs.size, o) :: F := fun p h => List.mem_cons_of_mem _ h
  refine ⟨⟨m, cs, clo, Fm.push o, ?_, nodup_cons_F nd (News.fresh_ne N), hc.mono G hm, hl.mono G hm⟩, ⟨hs.gens, hs.drawn, hs.os⟩⟩
  have N' := News.push Fm N o hfree
  intro p hp
  apply N' p
  simp only [List.cons_append, List.mem_append, List.mem_cons] at hp ⊢
  rcases hp with h | h | h | h | h <;> simp [h]
/-- a fresh object, a cell -/
theorem Rep.pushC {env L loc μ F R s} (x : Rep G env L loc μ F R s) (o : Obj) (c : Cell) (hc' : CellRep G F c o) (hfree : o.isFreed = false := by rfl) (tk : Nat) :
    Rep G env L loc ((s.heap.objs.size, c) :: μ) F R { s with heap := s.heap.push o, toks := tk } := by
  obtain ⟨⟨m, cs, clo, Fm, N, nd, hc, hl⟩, hs⟩ := x
  refine ⟨⟨m, (s.heap.objs.size, o) :: cs, clo, Fm.push o, News.push Fm N o hfree, ?_, ⟨o, cs, rfl, hc', hc⟩, hl⟩, ⟨hs.gens, hs.drawn, hs.os⟩⟩
  show (((s.heap.objs.size, o) :: (cs ++ (F ++ (clo ++ R)))).map (·.1)).Nodup
  rw [List.map_cons]
  refine List.nodup_cons.mpr ⟨?_, nd⟩
  intro hm
  obtain ⟨p, hp, he⟩ := List.mem_map.mp hm
  exact News.fresh_ne N p hp he
theorem CellsRep.addr {F : Led} : ∀ {μ : Mu} {cs : Led}, CellsRep G F μ cs → cs.map (·.1) = μ.map (·.1)
  | [], _, x => by cases x; rfl
  | p :: μ, _, x => by
    obtain ⟨o, r, e, h1, h2⟩ := x
    subst e
    simp [CellsRep.addr h2]
/-- the fresh address lies in no cell -/
theorem Rep.freshMu {env L loc μ F R s} (x : Rep G env L loc μ F R s) : freshMu μ s.heap.objs.size := by
  obtain ⟨⟨m, cs, clo, Fm, N, nd, hc, hl⟩, hs⟩ := x
  intro p hp
  have : p.1 ∈ cs.map (·.1) := by rw [hc.addr G]; exact List.mem_map_of_mem hp
  obtain ⟨q, hq, he⟩ := List.mem_map.mp this
  rw [← he]
  exact News.fresh_ne N q (List.mem_append_left _ hq)
theorem CellsRep.look {F : Led} {a : Addr} {c : Cell} : ∀ {μ : Mu} {cs : Led}, CellsRep G F μ cs → μ.lookup a = some c → ∃ o, (a, o) ∈ cs ∧ CellRep G F c o
  | [], _, _, h => by cases h
  | p :: μ, _, x, h => by
    obtain ⟨o, r, e, h1, h2⟩ := x
    subst e
    obtain ⟨b, c'⟩ := p
    rw [List.lookup_cons] at h
    by_cases hb : a = b
    · subst hb
      simp only [beq_self_eq_true] at h
      cases h
      exact ⟨o, List.mem_cons_self, h1⟩
    · rw [beq_false_of_ne hb] at h
      obtain ⟨o', h3, h4⟩ := CellsRep.look h2 h
      exact ⟨o', List.mem_cons_of_mem _ h3, h4⟩
/-- a cell changed: its object stands once in the ledger -/
theorem CellsRep.upd {F : Led} {a : Addr} {c c' : Cell} {o' : Obj} : ∀ {μ : Mu} {cs : Led}, CellsRep G F μ cs → μ.lookup a = some c → CellRep G F c' o' → (cs.map (·.1)).Nodup →
    ∃ pre o post, cs = pre ++ (a, o) :: post ∧ CellRep G F c o ∧ CellsRep G F (putMu μ a c') (pre ++ (a, o') :: post)
  | [], _, _, h, _, _ => by cases h
  | p :: μ, _, x, h, hc', nd => by
    obtain ⟨o, r, e, h1, h2⟩ := x
    subst e
    obtain ⟨b, c''⟩ := p
    rw [List.lookup_cons] at h
    by_cases hb : a = b
    · subst hb
      simp only [beq_self_eq_true] at h
      cases h
      refine ⟨[], o, r, rfl, h1, ?_⟩
      simp only [putMu, if_true, List.nil_append]
      exact ⟨o', r, rfl, hc', h2⟩
    · rw [beq_false_of_ne hb] at h
      obtain ⟨pre, o2, post, e2, h3, h4⟩ := CellsRep.upd h2 h hc' (List.nodup_cons.mp nd).2
      refine ⟨(b, o) :: pre, o2, post, by rw [e2]; rfl, h3, ?_⟩
      simp only [putMu, if_neg (Ne.symm hb : ¬ (b, c'').1 = a)]
      exact ⟨o, _, rfl, h1, h4⟩
theorem upd_of_nodup {d : Addr} {o o' : Obj} : ∀ {pre post : Led}, ((pre ++ (d, o) :: post).map (·.1)).Nodup → Upd d o o' (pre ++ (d, o) :: post) (pre ++ (d, o') :: post)
  | [], post, nd => by
    simp only [List.nil_append, List.map_cons] at nd ⊢
    refine Upd.head fun p hp e => ?_
    exact (List.nodup_cons.mp nd).1 (e ▸ List.mem_map_of_mem hp)
  | q :: pre, post, nd => by
    simp only [List.cons_append, List.map_cons] at nd ⊢
    obtain ⟨n1, n2⟩ := List.nodup_cons.mp nd
    refine Upd.tail (fun e => n1 ?_) (upd_of_nodup n2)
    rw [e]
    simp
/-- forget cells -/
theorem CellsRep.sub {F : Led} {μ μ' : Mu} (h : μ'.Sublist μ) : ∀ {cs : Led}, CellsRep G F μ cs → ∃ cs', cs'.Sublist cs ∧ CellsRep G F μ' cs' := by
  induction h with
  | slnil => intro cs x; exact ⟨cs, List.Sublist.refl _, x⟩
  | cons _ _ ih =>
    intro cs x
    obtain ⟨o, r, e, h1, h2⟩ := x
    obtain ⟨cs', a, b⟩ := ih h2
    exact ⟨cs', e ▸ List.Sublist.cons _ a, b⟩
  | cons_cons p _ ih =>
    intro cs x
    obtain ⟨o, r, e, h1, h2⟩ := x
    obtain ⟨cs', a, b⟩ := ih h2
    exact ⟨(p.1, o) :: cs', e ▸ List.Sublist.cons_cons _ a, o, cs', rfl, h1, b⟩
theorem HRep.sub {μ μ' : Mu} {F R : Led} {s : Shared} (x : HRep G μ F R s) (h : μ'.Sublist μ) : HRep G μ' F R s := by
  obtain ⟨⟨cs, h1, nd, hc⟩, st, hsz, hs⟩ := x
  obtain ⟨cs', a, b⟩ := CellsRep.sub G h hc
  exact ⟨⟨cs', fun p hp => h1 p (by rcases List.mem_append.mp hp with q | q; exact List.mem_append_left _ (a.mem q); exact List.mem_append_right _ q), nd.sublist ((a.append (List.Sublist.refl _)).map _), b⟩, st, hsz, hs⟩
/-- forget what rests -/
theorem HRep.subR {μ : Mu} {F R R' : Led} {s : Shared} (x : HRep G μ F R s) (h : R'.Sublist R) : HRep G μ F R' s := by
  obtain ⟨⟨cs, h1, nd, hc⟩, st, hsz, hs⟩ := x
  refine ⟨⟨cs, fun p hp => h1 p ?_, nd.sublist (((List.Sublist.refl cs).append ((List.Sublist.refl F).append h)).map _), hc⟩, st, hsz, hs⟩
  simp only [List.mem_append] at hp ⊢
  rcases hp with q | q | q
  · exact .inl q
  · exact .inr (.inl q)
  · exact .inr (.inr (h.mem q))
variable (G : Gx)
/-- what an expression hands on -/
inductive Post (env : Env) (L : Addr) (loc : Loc) (F R : Led) (Q : D → Mu → Prop) (v : Value) (s' : Shared) : Prop where
  | mk (d : D) (μ' : Mu) (F' : Led) (h1 : ∀ p ∈ F, p ∈ F') (h2 : Rep G env L loc μ' F' R s') (h3 : RV G F' d v) (h4 : Q d μ')
/-- what a step hands on -/
inductive PostU (env : Env) (L : Addr) (loc : Loc) (F R : Led) (Q : Mu → Prop) (s' : Shared) : Prop where
  | mk (μ' : Mu) (F' : Led) (h1 : ∀ p ∈ F, p ∈ F') (h2 : Rep G env L loc μ' F' R s') (h3 : Q μ')
section
variable {G} {env : Env} {L : Addr} {loc : Loc} {μ : Mu} {F R : Led} {s : Shared} {A : Around} {E : Value → Shared → Prop} {Q : D → Mu → Prop}
theorem Rep.toks (x : Rep G env L loc μ F R s) (tk : Nat) : Rep G env L loc μ F R { s with toks := tk } :=
  ⟨x.ex, ⟨x.same.gens, x.same.drawn, x.same.os⟩⟩
theorem Post.here {d : D} {v : Value} (x : Rep G env L loc μ F R s) (hv : RV G F d v) (q : Q d μ) : Post G env L loc F R Q v s := ⟨d, μ, F, fun _ h => h, x, hv, q⟩
theorem rv_int (i : Int) (tk : Tok) : RV G F (.int i) (.int i tk) := ⟨tk, rfl⟩
theorem rv_str (i : Str) (tk : Tok) : RV G F (.str i) (.str i tk) := ⟨tk, rfl⟩
/-- a frozen ledger's object stands in the heap -/
theorem Rep.frozen (x : Rep G env L loc μ F R s) {a : Addr} {o : Obj} (h : Fz G F a o) : s.heap.get? a = some o := by
  obtain ⟨⟨m, cs, clo, Fm, N, nd, hc, hl⟩, hs⟩ := x
  rcases h with h | h
  · exact Fm.keep a o h
  · exact (N (a, o) (by simp [h])).1
theorem Rep.inF (x : Rep G env L loc μ F R s) {a : Addr} {o : Obj} (h : (a, o) ∈ F) : s.heap.get? a = some o := x.frozen (.inr h)
theorem Rep.list (x : Rep G env L loc μ F R s) {ds : List D} {v : Value} (h : RV G F (.lst ds) v) : ∃ a vs, v = .ref a ∧ s.heap.IsList a vs ∧ RVs G F ds vs.toList := by
  obtain ⟨a, o, vs, n, h1, h2, h3, h4, h5⟩ := h
  exact ⟨a, vs, h1, ⟨o, x.frozen h2, h3.1, n, h4⟩, h5⟩
theorem Rep.tup (x : Rep G env L loc μ F R s) {ds : List D} {v : Value} (h : RV G F (.tup ds) v) : ∃ a vs, v = .ref a ∧ IsTup s.heap a vs ∧ RVs G F ds vs.toList := by
  obtain ⟨a, o, vs, n, h1, h2, h3, h4, h5⟩ := h
  exact ⟨a, vs, h1, ⟨o, x.frozen h2, h3, n, h4⟩, h5⟩
theorem Rep.cell (x : Rep G env L loc μ F R s) {a : Addr} {c : Cell} (h : μ.lookup a = some c) : ∃ o, s.heap.get? a = some o ∧ CellRep G F c o := by
  obtain ⟨⟨m, cs, clo, Fm, N, nd, hc, hl⟩, hs⟩ := x
  obtain ⟨o, h1, h2⟩ := hc.look G h
  exact ⟨o, (N (a, o) (by simp [h1])).1, h2⟩
theorem itemsOf_of {d : D} {ds : List D} (e : itemsOf μ d = some ds) : d = .lst ds ∨ ∃ a, d = .cel a ∧ μ.lookup a = some (.lst ds) := by
  cases d with
  | lst l => exact .inl (congrArg _ (Option.some.inj e))
  | cel a =>
    refine .inr ⟨a, rfl, ?_⟩
    have e : (match μ.lookup a with | some (.lst ds) => some ds | _ => none) = some ds := e
    cases h : μ.lookup a with
    | none => rw [h] at e; exact no_some e
    | some c => cases c with
      | lst l => rw [h] at e; rw [Option.some.inj e]
      | inst => rw [h] at e; exact no_some e
  | _ => exact no_some e
/-- a list, frozen or a cell -/
theorem Rep.items (x : Rep G env L loc μ F R s) {d : D} {ds : List D} {v : Value} (h : RV G F d v) (e : itemsOf μ d = some ds) : ∃ a vs, v = .ref a ∧ s.heap.IsList a vs ∧ RVs G F ds vs.toList := by
  rcases itemsOf_of e with rfl | ⟨b, rfl, q⟩
  · exact x.list h
  · obtain ⟨o, h1, vs, n, rfl, e2⟩ := x.cell q
    exact ⟨_, vs, h, ⟨_, h1, rfl, n, rfl⟩, e2⟩
theorem RVs.length {ds : List D} : ∀ {vs : List Value}, RVs G F ds vs → vs.length = ds.length := by
  induction ds with
  | nil => rintro _ rfl; rfl
  | cons d ds ih => rintro _ ⟨v, r, rfl, _, h⟩; exact congrArg (· + 1) (ih h)
theorem RVs.append {es : List D} {ws : List Value} {ds : List D} : ∀ {vs : List Value}, RVs G F ds vs → RVs G F es ws → RVs G F (ds ++ es) (vs ++ ws) := by
  induction ds with
  | nil => rintro _ rfl h'; exact h'
  | cons d ds ih => rintro _ ⟨v, r, rfl, h1, h2⟩ h'; exact ⟨v, _, rfl, h1, ih h2 h'⟩
theorem RVs.get {d : D} {ds : List D} : ∀ {vs : List Value} {i : Nat}, RVs G F ds vs → ds[i]? = some d → ∃ v, vs[i]? = some v ∧ RV G F d v := by
  induction ds with
  | nil => rintro _ _ _ e; cases e
  | cons d' ds ih =>
    rintro _ i ⟨v, r, rfl, h1, h2⟩ e
    cases i with
    | zero => obtain rfl := Option.some.inj e; exact ⟨v, rfl, h1⟩
    | succ i => exact ih (vs := r) (i := i) h2 e
theorem RVs.take {ds : List D} : ∀ {vs : List Value} (i : Nat), RVs G F ds vs → RVs G F (ds.take i) (vs.take i) := by
  induction ds with
  | nil => rintro _ i rfl; cases i <;> exact rfl
  | cons d ds ih =>
    rintro _ i ⟨v, r, rfl, h1, h2⟩
    cases i with
    | zero => exact rfl
    | succ i => exact ⟨v, _, rfl, h1, ih i h2⟩
theorem RVs.drop {ds : List D} : ∀ {vs : List Value} (i : Nat), RVs G F ds vs → RVs G F (ds.drop i) (vs.drop i) := by
  induction ds with
  | nil => rintro _ i rfl; cases i <;> exact rfl
  | cons d ds ih =>
    rintro _ i ⟨v, r, rfl, h1, h2⟩
    cases i with
    | zero => exact ⟨v, r, rfl, h1, h2⟩
    | succ i => exact ih i h2
theorem RVs.reverse {ds : List D} {vs : List Value} (h : RVs G F ds vs) : RVs G F ds.reverse vs.reverse := by
  induction ds generalizing vs with
  | nil => obtain rfl := h; exact rfl
  | cons d ds ih =>
    obtain ⟨v, r, rfl, h1, h2⟩ := h
    rw [List.reverse_cons, List.reverse_cons]
    exact (ih h2).append ⟨v, [], rfl, h1, rfl⟩
theorem RVs.set {d : D} {v : Value} {ds : List D} : ∀ {vs : List Value} {i : Nat}, RVs G F ds vs → RV G F d v → RVs G F (ds.set i d) (vs.set i v) := by
  induction ds with
  | nil => rintro _ _ rfl _; exact rfl
  | cons d' ds ih =>
    rintro _ i ⟨w, r, rfl, h1, h2⟩ h'
    cases i with
    | zero => exact ⟨_, _, rfl, h', h2⟩
    | succ i => exact ⟨_, _, rfl, h1, ih h2 h'⟩
/-- a new list out of values -/
theorem newL_push {ds : List D} {vs : List Value} {m : Bool} (x : Rep G env L loc μ F R s) (hr : RVs G F ds vs) (q : newL m ds μ Q) :
    Post G env L loc F R Q (.ref s.heap.objs.size) { s with heap := s.heap.push { cls := .type "list", data := .seq vs.toArray } } := by
  obtain ⟨_, q⟩ := q
  cases m with
  | false =>
    refine ⟨.lst ds, μ, _, fun p h => List.mem_cons_of_mem _ h, x.push (G := G) (o := { cls := .type "list", data := .seq vs.toArray }) rfl s.toks, ?_, q⟩
    refine ⟨_, _, vs.toArray, 0, rfl, .inr List.mem_cons_self, ⟨rfl, rfl⟩, rfl, ?_⟩
    exact RVs.mono G (fun p h => List.mem_cons_of_mem _ h) hr
  | true =>
    refine ⟨.cel s.heap.objs.size, _, F, fun p h => h, x.pushC (G := G) (o := { cls := .type "list", data := .seq vs.toArray }) (c := .lst ds) ⟨vs.toArray, 0, rfl, hr⟩ rfl s.toks, rfl, ?_⟩
    exact q _ (x.freshMu G)
theorem sm_natAbs {i : Int} (h : Sm i) : i.natAbs < 2 ^ 30 := by unfold Sm at h; omega
theorem add_push {l b : Addr} {vs ws : List Value} {Q : Value → Shared → Prop} (hl : s.heap.IsList l vs.toArray) (hb : s.heap.IsList b ws.toArray)
    (h : Q (.ref s.heap.objs.size) { s with heap := s.heap.push { cls := .type "list", data := .seq (vs ++ ws).toArray } }) (hsz : vs.length + ws.length ≤ sizeLine) :
    wpAny (model G.prog G.w) A (binaryOp .Add (.ref l) (.ref b)) Q E s := by
  obtain ⟨⟨cls, dd, data, sl⟩, ho, hc, n, hd⟩ := id hl
  obtain ⟨⟨cls2, dd2, data2, sl2⟩, ho2, hc2, n2, hd2⟩ := id hb
  simp only at hc hd hc2 hd2
  subst hc hd hc2 hd2
  have e : vs.toArray ++ ws.toArray = (vs ++ ws).toArray := by simp
  refine concat_meets ⟨_, ho, rfl⟩ ⟨_, ho2, rfl⟩ noFill_list_add seq_list_add PySem.F.slot_list_add PySem.F.entry_list_add (PySem.F.args_list_add_2 _ _) (list_addW l b vs.toArray ws.toArray n n2 dd dd2 sl sl2 (by simpa using hsz)) ⟨ho, ho2, ?_⟩
  rw [e]
  exact h
theorem ints2 {d e : D} {a b : Value} {k : Int → Int → Prop} (hd : RV G F d a) (he : RV G F e b) (q : asI d fun i => asI e fun j => k i j) : ∃ i j t u, a = .int i t ∧ b = .int j u ∧ k i j := by
  obtain ⟨i, rfl, q1⟩ := asI_of q
  obtain ⟨j, rfl, q2⟩ := asI_of q1
  obtain ⟨t, rfl⟩ := hd
  obtain ⟨u, rfl⟩ := he
  exact ⟨i, j, t, u, rfl, rfl, q2⟩
theorem binS_sound {op : Operator} {m : Bool} {d e : D} {a b : Value} (x : Rep G env L loc μ F R s) (hd : RV G F d a) (he : RV G F e b) (q : binS op m d e μ Q) :
    wpAny (model G.prog G.w) A (binaryOp op a b) (Post G env L loc F R Q) E s := by
  cases op with
  | Add =>
    rcases addS_of q with ⟨i, rfl, q⟩ | q
    · obtain ⟨i, j, t, u, rfl, rfl, q⟩ := ints2 (k := fun i j => Q (.int (i + j)) μ) hd he q
      exact P.add_int (Post.here (x.toks _) (rv_int _ _) q)
    · obtain ⟨ds, es, h1, h2, q⟩ := catS_of q
      obtain ⟨l, vs, rfl, hl, hr⟩ := x.items hd h1
      obtain ⟨l', ws, rfl, hl', hr'⟩ := x.items he h2
      refine add_push (vs := vs.toList) (ws := ws.toList) hl hl' (newL_push x (hr.append hr') q) ?_
      rw [hr.length, hr'.length]
      have := q.1
      unfold Fits at this
      rw [List.length_append] at this
      rw [sizeLine_eq]; omega
  | Sub =>
    obtain ⟨i, j, t, u, rfl, rfl, q⟩ := ints2 (k := fun i j => Q (.int (i - j)) μ) hd he q
    exact P.sub_int (Post.here (x.toks _) (rv_int _ _) q)
  | Mult =>
    obtain ⟨i, j, t, u, rfl, rfl, h1, h2, q⟩ := ints2 (k := fun i j => Sm i ∧ Sm j ∧ Q (.int (i * j)) μ) hd he q
    refine P.mul_int (Post.here (x.toks _) (rv_int _ _) q) (IntMulOk.of_left (intBits_le_64 ?_ ?_)) <;> (unfold Sm at h1; omega)
  | FloorDiv =>
    obtain ⟨i, j, t, u, rfl, rfl, h1, h2, q⟩ := ints2 (k := fun i j => 0 < j ∧ Sm j ∧ Q (.int (i / j)) μ) hd he q
    refine floordiv_int (Int.ne_of_gt h1) ?_ (Or.inl (PyProof.noPylong_small (sm_natAbs h2)))
    rw [Int.fdiv_eq_ediv_of_nonneg _ (Int.le_of_lt h1)]
    exact Post.here (x.toks _) (rv_int _ _) q
  | Mod =>
    obtain ⟨i, j, t, u, rfl, rfl, h1, h2, q⟩ := ints2 (k := fun i j => 0 < j ∧ Sm j ∧ Q (.int (i % j)) μ) hd he q
    refine mod_int (Int.ne_of_gt h1) ?_
    rw [Int.fmod_eq_emod_of_nonneg _ (Int.le_of_lt h1)]
    exact Post.here (x.toks _) (rv_int _ _) q
  | _ => exact False.elim q
end
section
variable {G : Gx} {env : Env} {L : Addr} {loc : Loc} {μ : Mu} {F R : Led} {s : Shared} {A : Around} {E : Value → Shared → Prop}
noncomputable def EqG (y x : Value) (b : Bool) : Prop := MeetsSeq.EqGives y x b
theorem eqG_bool (b k : Bool) : EqG (.bool b) (.bool k) (b == k) := fun prog w A E s Q h => SeqAt.EqAt.bool_bool b k prog w E Q h
theorem ints_are {ds : List D} : ∀ {is : List Int} {vs : List Value}, intsOf ds = some is → RVs G F ds vs → IntsAre vs is := by
  induction ds with
  | nil =>
    intro is vs e h
    obtain rfl := Option.some.inj e
    obtain rfl := h
    exact .nil
  | cons d ds ih =>
    rintro is _ e ⟨v, r, rfl, h1, h2⟩
    obtain ⟨i, js, rfl, q, rfl⟩ := intsOf_cons e
    obtain ⟨t, rfl⟩ := h1
    exact .cons _ _ (ih q h2)
/-- the bools among values -/
theorem bools_in {k : Bool} {ds : List D} : ∀ {bs : List Bool} {vs : List Value}, boolsOf ds = some bs → RVs G F ds vs → (∀ y ∈ vs, EqG y (.bool k) (isBoolOf k y)) ∧ vs.any (isBoolOf k) = bs.contains k ∧ vs.countP (isBoolOf k) = bs.count k := by
  induction ds with
  | nil =>
    intro bs vs e h
    obtain rfl := Option.some.inj e
    obtain rfl := h
    exact ⟨fun _ h => (nomatch h), rfl, rfl⟩
  | cons d ds ih =>
    rintro bs _ e ⟨v, r, rfl, h1, h2⟩
    obtain ⟨b, js, rfl, q, rfl⟩ := boolsOf_cons e
    obtain rfl := h1
    obtain ⟨i1, i2, i3⟩ := ih q h2
    refine ⟨fun y hy => ?_, ?_, ?_⟩
    · rcases List.mem_cons.mp hy with rfl | hy
      · exact eqG_bool b k
      · exact i1 y hy
    · rw [List.any_cons, i2, List.contains_cons]
      cases b <;> cases k <;> rfl
    · rw [List.countP_cons, i3, List.count_cons]
      cases b <;> cases k <;> rfl
theorem tn_lt {i : Int} (h : 0 ≤ i ∧ i < 256) : i.toNat < 256 := (Int.toNat_lt h.1).mpr h.2
theorem toU_inj {i j : Int} (hi : 0 ≤ i ∧ i < 256) (hj : 0 ≤ j ∧ j < 256) (h : toU i = toU j) : i = j := by
  have := congrArg UInt8.toNat h
  rw [UInt8.toNat_ofNat', UInt8.toNat_ofNat', Nat.mod_eq_of_lt (tn_lt hi), Nat.mod_eq_of_lt (tn_lt hj)] at this
  rw [← Int.toNat_of_nonneg hi.1, this, Int.toNat_of_nonneg hj.1]
theorem toU_map_inj {l : List Int} : ∀ {k : List Int}, (∀ i ∈ l, 0 ≤ i ∧ i < 256) → (∀ i ∈ k, 0 ≤ i ∧ i < 256) → l.map toU = k.map toU → l = k := by
  induction l with
  | nil =>
    intro k _ _ h
    cases k with
    | nil => rfl
    | cons => cases h
  | cons a l ih =>
    intro k h1 h2 h
    cases k with
    | nil => cases h
    | cons b k =>
      rw [toU_inj (h1 a List.mem_cons_self) (h2 b List.mem_cons_self) (List.cons.inj h).1, ih (fun i hi => h1 i (List.mem_cons_of_mem _ hi)) (fun i hi => h2 i (List.mem_cons_of_mem _ hi)) (List.cons.inj h).2]
theorem toU_beq {l k : List Int} (h1 : ∀ i ∈ l, 0 ≤ i ∧ i < 256) (h2 : ∀ i ∈ k, 0 ≤ i ∧ i < 256) : (((l.map toU).toArray.toList == (k.map toU).toArray.toList) : Bool) = decide (l = k) := by
  by_cases h : l = k
  · subst h; simp
  · have : l.map toU ≠ k.map toU := fun e => h (toU_map_inj h1 h2 e)
    simp [h, this]
theorem toU_contains {l : List Int} (h1 : ∀ i ∈ l, 0 ≤ i ∧ i < 256) {k : Int} (hk : 0 ≤ k ∧ k < 256) : (l.map toU).contains (toU k) = l.contains k := by
  induction l with
  | nil => rfl
  | cons a l ih =>
    rw [List.map_cons, List.contains_cons, List.contains_cons, ih fun i hi => h1 i (List.mem_cons_of_mem _ hi)]
    by_cases h : k = a
    · subst h; simp
    · have : toU k ≠ toU a := fun e => h (toU_inj hk (h1 a List.mem_cons_self) e)
      rw [beq_false_of_ne h, beq_false_of_ne this]
theorem str_beq (x y : Str) : ((x.cps.toList == y.cps.toList) : Bool) = decide (x = y) := by
  by_cases h : x = y
  · subst h; simp
  · have : x.cps.toList ≠ y.cps.toList := fun e => h (by cases x; cases y; simp only at e; exact congrArg _ (Array.toList_inj.mp e))
    rw [beq_false_of_ne this, decide_eq_false h]
theorem contains_bytes (l : List Int) (hl : ∀ i ∈ l, 0 ≤ i ∧ i < 256) (t u : Tok) (i : Int) (h0 : 0 ≤ i ∧ i < 256) :
    Gives (Builtin.«bytes.__contains__» ⟨[.bytes (l.map toU).toArray t, .int i u], []⟩) (.val (.bool (l.contains i))) := by
  refine .of_wp fun M A E s Q hq => ?_
  show wpAny M A ((Builtin.Bytes.containsIn "bytes.__contains__" (.bytes (l.map toU).toArray t) (.int i u)) >>= fun r => ret (.bool r)) _ E s
  unfold Builtin.Bytes.containsIn
  refine wpAny_bind (wpAny_bind (wpAny_attempt (wpAny_bind (wpAny_pure (wpAny_pure ?_)))))
  rw [KBy.buffer_eq]
  refine wpAny_bind (wpAny_pure ?_)
  dsimp only
  have hr : (decide (i < 0) || decide (i ≥ 256)) = false := by simp; omega
  rw [hr]
  simp only [Bool.false_eq_true, if_false]
  refine wpAny_pure (wpAny_pure ⟨_, rfl, ?_⟩)
  have e : (l.map toU).toArray.contains i.toNat.toUInt8 = l.contains i := by
    rw [List.contains_toArray]
    exact toU_contains hl h0
  rw [e]
  exact hq
theorem any_contains (ns : List Int) (k : Int) : ns.any (· == k) = ns.contains k := by
  induction ns with
  | nil => rfl
  | cons n r ih => rw [List.any_cons, List.contains_cons, ih, Bool.beq_comm]
noncomputable def CmpQ (s : Shared) (r : Bool) (v : Value) (s' : Shared) : Prop := v = .bool r ∧ s' = s
theorem CmpQ.mk {r r' : Bool} (h : r' = r) : CmpQ s r (.bool r') s := ⟨congrArg _ h, rfl⟩
theorem lists_of {ds : List D} {a b : Value} (x : Rep G env L loc μ F R s) (hd : RV G F (.lst ds) a) (he : RV G F (.lst []) b) : ∃ l b' vs us, a = .ref l ∧ b = .ref b' ∧ s.heap.IsList l vs ∧ s.heap.IsList b' us ∧ us.size = 0 ∧ vs.size = ds.length := by
  obtain ⟨l, vs, rfl, hl, hr⟩ := x.list hd
  obtain ⟨l', us, rfl, hl', hr'⟩ := x.list he
  exact ⟨l, l', vs, us, rfl, rfl, hl, hl', hr'.length, hr.length⟩
theorem eqD_sound (hu : A.units < cLine) {d e : D} {a b : Value} {r : Bool} (x : Rep G env L loc μ F R s) (hd : RV G F d a) (he : RV G F e b) (q : EqD d e r) : wpAny (model G.prog G.w) A (compareOp .Eq a b) (CmpQ s r) E s := by
  cases q with
  | int => obtain ⟨t, rfl⟩ := hd; obtain ⟨u, rfl⟩ := he; exact P.eq_int (.mk rfl)
  | mix => obtain ⟨t, rfl⟩ := hd; obtain ⟨u, rfl⟩ := he; exact EqMixed.eq_int_str (.mk rfl)
  | str => obtain ⟨t, rfl⟩ := hd; obtain ⟨u, rfl⟩ := he; exact P.eq_str (.mk (str_beq _ _))
  | bytes => obtain ⟨⟨t, rfl⟩, h1⟩ := hd; obtain ⟨⟨u, rfl⟩, h2⟩ := he; exact eq_bytes (.mk (toU_beq h1 h2))
  | lst =>
    obtain ⟨l, b', vs, us, rfl, rfl, hl, hl', h1, h2⟩ := lists_of x hd he
    rename_i ds
    cases ds with
    | nil =>
      refine (SeqAt.RcAt.lists (e := fun _ => true) hl hl' (by rw [h1, h2]; rfl) hu (fun j h3 h4 => absurd h3 (by rw [h2]; exact Nat.not_lt_zero _))) G.prog G.w E _ (.mk ?_)
      rw [h2]; rfl
    | cons => exact (SeqAt.RcAt.lists_lengths hl hl' (by rw [h1, h2]; rfl) hu) G.prog G.w E _ (.mk rfl)
theorem neD_sound (hu : A.units < cLine) {d e : D} {a b : Value} {r : Bool} (x : Rep G env L loc μ F R s) (hd : RV G F d a) (he : RV G F e b) (q : EqD d e r) (hm : ¬ ∃ i x, d = .int i ∧ e = .str x) : wpAny (model G.prog G.w) A (compareOp .NotEq a b) (CmpQ s (!r)) E s := by
  cases q with
  | int => obtain ⟨t, rfl⟩ := hd; obtain ⟨u, rfl⟩ := he; exact P.ne_int (.mk rfl)
  | mix => exact absurd ⟨_, _, rfl, rfl⟩ hm
  | str => obtain ⟨t, rfl⟩ := hd; obtain ⟨u, rfl⟩ := he; exact P.ne_str (.mk (congrArg (!·) (str_beq _ _)))
  | bytes => obtain ⟨⟨t, rfl⟩, h1⟩ := hd; obtain ⟨⟨u, rfl⟩, h2⟩ := he; exact ne_bytes (.mk (congrArg (!·) (toU_beq h1 h2)))
  | lst =>
    obtain ⟨l, b', vs, us, rfl, rfl, hl, hl', h1, h2⟩ := lists_of x hd he
    rename_i ds
    cases ds with
    | nil =>
      refine (SeqAt.RcNeAt.lists (e := fun _ => true) hl hl' (by rw [h1, h2]; rfl) hu (fun j h3 h4 => absurd h3 (by rw [h2]; exact Nat.not_lt_zero _))) G.prog G.w E _ (.mk ?_)
      rw [h2]; rfl
    | cons => exact (SeqAt.RcNeAt.lists_lengths hl hl' (by rw [h1, h2]; rfl) hu) G.prog G.w E _ (.mk rfl)
/-- `is None` -/
theorem isS_of {d e : D} {a b : Value} {r : Bool} (hd : RV G F d a) (he : RV G F e b) (q : isS d e = some r) : b = .none ∧ (a == Value.none) = r := by
  cases e with
  | none =>
    refine ⟨he, ?_⟩
    cases d with
    | none => cases Option.some.inj q; rw [show a = .none from hd]; rfl
    | int => cases Option.some.inj q; obtain ⟨t, rfl⟩ := hd; rfl
    | str => cases Option.some.inj q; obtain ⟨t, rfl⟩ := hd; rfl
    | tup => cases Option.some.inj q; obtain ⟨a, o, vs, n, rfl, _⟩ := (show ∃ a o vs n, _ = Value.ref a ∧ _ from hd); rfl
    | _ => exact no_some q
  | _ => exact no_some q
theorem inD_sound {d e : D} {a b : Value} {r : Bool} (x : Rep G env L loc μ F R s) (hd : RV G F d a) (he : RV G F e b) (q : InD d e r) :
    wpAny (model G.prog G.w) A (compareOp .In a b) (CmpQ s r) E s ∧ wpAny (model G.prog G.w) A (compareOp .NotIn a b) (CmpQ s (!r)) E s := by
  cases q with
  | bt h0 =>
    obtain ⟨t, rfl⟩ := hd; obtain ⟨⟨u, rfl⟩, h2⟩ := he
    have h := (contains_bytes _ h2 u t _ h0).meets
    exact ⟨SeqRoads2.in_meets (typeIs_bytes s _ u) FB.slot_bytes_contains FB.entry_bytes_contains (FB.args_bytes_contains_2 _ _) h ⟨_, rfl, .mk rfl⟩, SeqRoads2.notIn_meets (typeIs_bytes s _ u) FB.slot_bytes_contains FB.entry_bytes_contains (FB.args_bytes_contains_2 _ _) h ⟨_, rfl, .mk rfl⟩⟩
  | il hb =>
    obtain ⟨l, vs, rfl, hl, hr⟩ := x.list he
    obtain ⟨t, rfl⟩ := hd
    exact ⟨in_list_ints (vs := vs.toList) hl (ints_are hb hr) (.mk (any_contains _ _)), notin_list_ints (vs := vs.toList) hl (ints_are hb hr) (.mk (congrArg (!·) (any_contains _ _)))⟩
  | bl hb =>
    obtain ⟨l, vs, rfl, hl, hr⟩ := x.list he
    obtain rfl : a = .bool _ := hd
    obtain ⟨h1, h2, _⟩ := bools_in hb hr
    have h3 : vs.any (isBoolOf _) = _ := Array.any_toList.symm.trans h2
    exact ⟨SeqInW.in_listW _ (fun y hy => h1 y (Array.mem_toList_iff.mpr hy)) hl (.mk h3), SeqInW.notIn_listW _ (fun y hy => h1 y (Array.mem_toList_iff.mpr hy)) hl (.mk (congrArg (!·) h3))⟩
/-- a comparison hands on a bool and leaves the state -/
theorem cmpS_sound (hu : A.units + 64 < cLine) {op : CmpOp} {d e : D} {a b : Value} {r : Bool} (x : Rep G env L loc μ F R s) (hd : RV G F d a) (he : RV G F e b) (q : cmpS op d e = some r) :
    wpAny (model G.prog G.w) A (compareOp op a b) (CmpQ s r) E s := by
  have hu' : A.units < cLine := Nat.lt_of_le_of_lt (Nat.le_add_right _ _) hu
  have two : ∀ {f : Int → Int → Bool}, int2 d e f = some r → ∃ i j t u, a = .int i t ∧ b = .int j u ∧ f i j = r := fun h => by
    obtain ⟨i, j, rfl, rfl, h1⟩ := int2_of h
    obtain ⟨t, rfl⟩ := hd; obtain ⟨u, rfl⟩ := he
    exact ⟨i, j, t, u, rfl, rfl, h1⟩
  cases op with
  | Eq => exact eqD_sound hu' x hd he (eqS_of q)
  | NotEq =>
    obtain ⟨r', h1, rfl⟩ := neS_of q
    refine neD_sound hu' x hd he h1 ?_
    rintro ⟨i, x, rfl, rfl⟩
    exact no_some q
  | Lt => obtain ⟨i, j, t, u, rfl, rfl, h⟩ := two q; exact P.lt_int (.mk h)
  | LtE => obtain ⟨i, j, t, u, rfl, rfl, h⟩ := two q; exact P.le_int (.mk h)
  | Gt => obtain ⟨i, j, t, u, rfl, rfl, h⟩ := two q; exact P.gt_int (.mk h)
  | GtE => obtain ⟨i, j, t, u, rfl, rfl, h⟩ := two q; exact P.ge_int (.mk h)
  | Is =>
    obtain ⟨rfl, h⟩ := isS_of hd he q
    exact is_none (.mk h)
  | IsNot =>
    obtain ⟨rfl, h⟩ := isS_of hd he (isnS_of q)
    exact isNot_none (.mk ((congrArg (!·) h).trans (Bool.not_not r)))
  | In => exact (inD_sound x hd he (inS_of q)).1
  | NotIn =>
    obtain ⟨r', q1, rfl⟩ := map_of q
    exact (inD_sound x hd he (inS_of q1)).2
end
theorem pick_range {α : Type} (m : List α) : ∀ c, (List.range c).filterMap (fun k => m[k]?) = m.take c
  | 0 => by simp
  | c + 1 => by
    rw [List.range_succ, List.filterMap_append, pick_range m c, List.take_add_one]
    cases h : m[c]? <;> simp [h]
theorem sliceRange_one (a b : Nat) : sliceRange (a : Int) (b : Int) 1 = (List.range (b - a)).map (a + ·) := by
  unfold sliceRange
  have e : (if (1 : Int) > 0 then (if (a : Int) < b then ((b : Int) - a + 1 - 1) / 1 else 0) else (if (a : Int) > b then ((a : Int) - b - 1 - 1) / (-1) else 0)).toNat = b - a := by
    rw [if_pos (by decide)]
    split <;> tb_start
  dsimp only
  rw [e]
  apply List.map_congr_left
  intro k _
  tb_start
theorem pick_cut {α : Type} (l : List α) (a b : Nat) : (sliceRange (a : Int) (b : Int) 1).filterMap (l.toArray[·]?) = cut l a b := by
  rw [sliceRange_one, List.filterMap_map]
  have e : ((fun x => l.toArray[x]?) ∘ fun x => a + x) = fun k => (l.drop a)[k]? := by
    funext k
    simp [List.getElem?_drop]
  rw [e, pick_range]
  unfold cut
  rw [List.drop_take]
theorem cut_clip {α : Type} (l : List α) (a b : Nat) : cut l (min a l.length) (min b l.length) = cut l a b := by
  unfold cut
  have h1 : l.take (min b l.length) = l.take b := by
    by_cases h : b ≤ l.length
    · rw [Nat.min_eq_left h]
    · rw [Nat.min_eq_right (by tb_start), List.take_of_length_le (Nat.le_refl _), List.take_of_length_le (by tb_start)]
  rw [h1]
  by_cases h : a ≤ l.length
  · rw [Nat.min_eq_left h]
  · rw [Nat.min_eq_right (by tb_start)]
    rw [List.drop_eq_nil_of_le (by rw [List.length_take]; tb_start), List.drop_eq_nil_of_le (by rw [List.length_take]; tb_start)]
/-- a slice's bound as the model reads it -/
noncomputable def boundOf : Option D → Option Int
  | some (.int i) => some i
  | _ => none
theorem bounds_lo {lo : Option D} {a : Nat} (h : loN lo = some a) (n : Nat) : kms_lo (boundOf lo) n = min a n := by
  unfold loN at h
  split at h
  · cases h; simp [boundOf, kms_lo]
  · split at h <;> cases h
    rename_i q
    simp only [boundOf, kms_lo]
    rw [if_neg (by tb_start)]
  · cases h
theorem bounds_hi {hi : Option D} {b n : Nat} (h : hiN n hi = some b) : kms_hi (boundOf hi) n = min b n := by
  unfold hiN at h
  split at h
  · cases h; simp [boundOf, kms_hi]
  · split at h <;> cases h
    rename_i q
    simp only [boundOf, kms_hi]
    rw [if_neg (by tb_start)]
  · cases h
/-- a part of a slice: none, or an int -/
noncomputable def PartV : Option D → Value → Prop
  | none, v => v = .none
  | some d, v => ∃ i t, d = .int i ∧ v = .int i t
theorem PartV.is {o : Option D} {v : Value} (h : PartV o v) : IsPart v (boundOf o) := by
  cases o with
  | none => simp only [PartV] at h; subst h; exact .none
  | some d => obtain ⟨i, t, rfl, rfl⟩ := h; exact .int i t
theorem picked_cut {l : List Int} {lo hi : Option D} {a b : Nat} (h1 : loN lo = some a) (h2 : hiN l.length hi = some b) :
    KBy.picked (l.map toU).toArray (boundOf lo) (boundOf hi) = ((cut l a b).map toU).toArray := by
  unfold KBy.picked Builtin.Bytes.sliced
  rw [kms_bounds]
  dsimp only
  rw [pick_cut]
  have hn : (l.map toU).toArray.size = (l.map toU).length := by simp
  rw [hn, bounds_lo h1, bounds_hi (by rw [List.length_map]; exact h2), cut_clip]
  unfold cut
  rw [List.map_drop, List.map_take]
theorem whole_cut {l : List Int} {lo hi : Option D} {a b : Nat} (h1 : loN lo = some a) (h2 : hiN l.length hi = some b) (hw : KBy.whole (l.map toU).toArray (boundOf lo) (boundOf hi) = true) : cut l a b = l := by
  unfold KBy.whole at hw
  rw [kms_bounds] at hw
  simp only [Bool.and_eq_true, beq_iff_eq] at hw
  have hn : (l.map toU).toArray.size = l.length := by simp
  rw [hn, bounds_lo h1, bounds_hi h2] at hw
  rw [← cut_clip]
  have e1 : min a l.length = 0 := by tb_start
  have e2 : min b l.length = l.length := by tb_start
  rw [e1, e2]
  simp [cut]
theorem ite_yes {c : Prop} [Decidable c] {X Y : Prop} (hc : c) (h : X) : if c then X else Y := by rw [if_pos hc]; exact h
/-- a slice that takes the whole of a bytes hands on the object itself -/
theorem meets_whole (b : Array UInt8) (t : Tok) (a : Addr) {l u : Value} {lo hi : Option Int} (hl : IsPart l lo) (hu : IsPart u hi) (hw : KBy.whole b lo hi = true) :
    Meets (Builtin.«bytes.__getitem__» ⟨[.bytes b t, .ref a], []⟩) (fun _ R s => s.heap.IsSliceOf a l u .none ∧ R (.ok (.ret (.bytes b t))) s) := by
  refine .of_wp fun prog w A R s hS => ?_
  obtain ⟨⟨o, ho, hc, hd⟩, h⟩ := hS
  have hT : s.TypeIs (.ref a) "slice" := ⟨o, ho, hc⟩
  show wpAny _ _ (Builtin.Bytes.payload (.bytes b t) >>= fun r => _) _ _ s
  refine wpAny_bind (wpAny_of_eq (a := b) rfl ?_)
  show wpAny _ _ (Builtin.Bytes.subscript? (.ref a) >>= fun r => _) _ _ s
  refine wpAny_bind ?_
  unfold Builtin.Bytes.subscript?
  refine wpAny_bind (wpAny_specialOf hT slice_no_index (wpAny_pure ?_))
  refine wpAny_bind (wpAny_typeOf hT ?_)
  show wpAny _ _ (Builtin.Bytes.sliceParts (.ref a) >>= fun r => _) _ _ s
  refine wpAny_bind ?_
  unfold Builtin.Bytes.sliceParts
  refine wpAny_bind (wpAny_field (x := .none) ho hd rfl ?_)
  kby_none
  refine wpAny_ite (KBy.ite_no (show ¬ ((Value.none == rawInt 0) = true) from Bool.false_ne_true) ?_)
  refine wpAny_bind (wpAny_field (x := l) ho hd rfl ?_)
  have go : wpAny (model prog w) A.in1 (sliceIndices (rawPart lo) (rawPart hi) (rawPart none) b.size) (fun r s' => r = sliceBounds lo hi none b.size ∧ s' = s) (fun _ _ => False) s :=
    wpAny_of_eq (sliceIndices_raw lo hi none b.size (fun e => nomatch e)) ⟨rfl, rfl⟩
  cases hl <;> cases hu <;> (first
    | (kby_none; (refine wpAny_bind (wpAny_field (x := .none) ho hd rfl ?_)); kby_none)
    | (kby_none; (refine wpAny_bind (wpAny_field (x := .int _ _) ho hd rfl ?_)); kby_int)
    | (kby_int; (refine wpAny_bind (wpAny_field (x := .none) ho hd rfl ?_)); kby_none)
    | (kby_int; (refine wpAny_bind (wpAny_field (x := .int _ _) ho hd rfl ?_)); kby_int)) <;> refine wpAny_pure ?_
  all_goals
    refine wpAny_bind (wpAny_mono go (fun r s' hr => ?_) fun _ _ e => e.elim)
    obtain ⟨hr1, hr2⟩ := hr
    subst hr1 hr2
    refine wpAny_ite (ite_yes hw ?_)
    refine wpAny_bind (wpAny_typeOf (typeIs_bytes _ b t) ?_)
    refine wpAny_ite (ite_yes (by decide) ?_)
    exact wpAny_bind (wpAny_rule (wpAny_bind (wpAny_pure (wpAny_pure ⟨_, rfl, h⟩))))
section
variable {G : Gx} {env : Env} {L : Addr} {loc : Loc} {μ : Mu} {F R : Led} {s : Shared} {A : Around} {E : Value → Shared → Prop} {Q : D → Mu → Prop}
theorem rv_bytes {l : List Int} (h : ∀ i ∈ l, 0 ≤ i ∧ i < 256) (t : Tok) : RV G F (.bytes l) (.bytes (l.map toU).toArray t) := ⟨⟨t, rfl⟩, h⟩
theorem filterMap_some {α β : Type} {g : α → Option β} {h : α → β} : ∀ {l : List α}, (∀ k ∈ l, g k = some (h k)) → l.filterMap g = l.map h
  | [], _ => rfl
  | a :: l, e => by rw [List.filterMap_cons, e a List.mem_cons_self, filterMap_some fun k hk => e k (List.mem_cons_of_mem _ hk), List.map_cons]
theorem ixN_lt {n : Nat} {i : Int} {j : Nat} (h : ixN n i = some j) : j < n ∧ ((0 ≤ i ∧ i.toNat = j ∧ i < n) ∨ (i < 0 ∧ -i ≤ n ∧ (i + n).toNat = j)) := by
  unfold ixN at h
  split at h
  · cases h; rename_i q; exact ⟨by tb_start, .inl ⟨q.1, rfl, q.2⟩⟩
  · split at h <;> cases h
    rename_i q
    exact ⟨by tb_start, .inr ⟨q.1, q.2, by tb_start⟩⟩
theorem u8_back {l : List Int} (h : ∀ i ∈ l, 0 ≤ i ∧ i < 256) {k : Nat} (hk : k < l.length) : (((l.map toU).getD k 0).toNat : Int) = l.getD k 0 := by
  have e1 : (l.map toU).getD k 0 = toU l[k] := by simp [hk]
  have e2 : l.getD k 0 = l[k] := by simp [hk]
  rw [e1, e2]
  have := h l[k] (List.getElem_mem hk)
  simp only [UInt8.toNat_ofNat']
  tb_start
noncomputable def IdxQ (G : Gx) (F : Led) (r : D) (s : Shared) (v : Value) (s' : Shared) : Prop := RV G F r v ∧ ∃ tk, s' = { s with toks := tk }
theorem ixL_of {ds : List D} {i : Int} {r : D} (h : ixL ds i = some r) : ds.length ≤ 1048576 ∧ ∃ j, ixN ds.length i = some j ∧ ds[j]? = some r := by
  unfold ixL at h
  by_cases c : ds.length ≤ 1048576
  · rw [if_pos c] at h; exact ⟨c, Option.bind_eq_some_iff.mp h⟩
  · rw [if_neg c] at h; exact no_some h
theorem idx_list {value slice : Expr} (hs : ∀ o i, subscripted slice false o i = operate [o, i] (getItem o i)) {d r : D} {ds : List D} {i : Int} {u : Tok} {a : Value} (x : Rep G env L loc μ F R s) (hd : RV G F d a) (h1 : itemsOf μ d = some ds) (h3 : ixL ds i = some r) :
    wpAny (model G.prog G.w) A (subscriptTail value slice a (.int i u)) (IdxQ G F r s) E s := by
  obtain ⟨l, vs, rfl, hl, hr⟩ := x.items hd h1
  obtain ⟨hz, j, h4, h5⟩ := ixL_of h3
  obtain ⟨h6, h7⟩ := ixN_lt h4
  obtain ⟨v, h8, h9⟩ := hr.get h5
  have hlen : vs.size = ds.length := hr.length
  have h8' : vs[j]? = some v := by rw [← Array.getElem?_toList]; exact h8
  refine tail_any hl.typeIs slot_list_getitem.lookup ?_ (hs _ _)
  rcases h7 with ⟨p1, p2, p3⟩ | ⟨p1, p2, p3⟩
  · exact wpAny_getItem_list hl p1 (by tb_start) (by rw [p2]; exact h8') ⟨h9, _, rfl⟩
  · exact wpAny_getItem_list_neg hl p1 (by tb_start) (by tb_start) (by rw [hlen, p3]; exact h8') ⟨h9, _, rfl⟩
theorem idx_tupD {value slice : Expr} (hs : ∀ o i, subscripted slice false o i = operate [o, i] (getItem o i)) {r : D} {ds : List D} {i : Int} {u : Tok} {a : Value} (x : Rep G env L loc μ F R s) (hd : RV G F (.tup ds) a) (h3 : ixL ds i = some r) :
    wpAny (model G.prog G.w) A (subscriptTail value slice a (.int i u)) (IdxQ G F r s) E s := by
  obtain ⟨hz, j, h4, h5⟩ := ixL_of h3
  obtain ⟨l, vs, rfl, hl, hr⟩ := x.tup hd
  obtain ⟨h6, h7⟩ := ixN_lt h4
  obtain ⟨v, h8, h9⟩ := hr.get h5
  have hlen := hr.length
  refine item_tupleT (l := vs.toList) (j := j) hl (by tb_start) (by tb_start) ?_ h8 ⟨h9, _, rfl⟩ (hs _ _)
  rw [hlen]
  rcases h7 with ⟨p1, p2, p3⟩ | ⟨p1, p2, p3⟩
  · have e1 : (if i < 0 then i + (ds.length : Int) else i) = i := if_neg (by tb_start)
    simp only [seqIndex?, e1]
    rw [if_pos (by simp; tb_start), p2]
  · have e1 : (if i < 0 then i + (ds.length : Int) else i) = i + (ds.length : Int) := if_pos p1
    simp only [seqIndex?, e1]
    rw [if_pos (by simp; tb_start), p3]
theorem idx_byt {value slice : Expr} (hs : ∀ o i, subscripted slice false o i = operate [o, i] (getItem o i)) {r : D} {l : List Int} {i : Int} {u : Tok} {a : Value} (hd : RV G F (.bytes l) a) (h0 : 0 ≤ i ∧ i < l.length ∧ l.length ≤ 1048576) (e : D.int (l.getD i.toNat 0) = r) :
    wpAny (model G.prog G.w) A (subscriptTail value slice a (.int i u)) (IdxQ G F r s) E s := by
  subst e
  obtain ⟨⟨t, rfl⟩, h2⟩ := hd
  refine tail_any (typeIs_bytes s _ t) FB.slot_bytes_getitem.lookup ?_ (hs _ _)
  refine getItem_bytes (l := l.map toU) (by rw [List.length_map]; tb_start) h0.1 (by rw [List.length_map]; exact h0.2.1) ⟨?_, _, rfl⟩
  rw [u8_back h2 (by tb_start)]
  exact rv_int _ _
theorem idx_sound {value slice : Expr} (hs : ∀ o i, subscripted slice false o i = operate [o, i] (getItem o i)) {d e r : D} {a b : Value} (x : Rep G env L loc μ F R s) (hd : RV G F d a) (he : RV G F e b)
    (q : idxS μ d e = some r) : wpAny (model G.prog G.w) A (subscriptTail value slice a b) (IdxQ G F r s) E s := by
  cases e with
  | int i =>
    obtain ⟨u, rfl⟩ := he
    cases d with
    | bytes l => exact idx_byt hs hd (if_of q).1 (if_of q).2
    | tup ds => exact idx_tupD hs x hd q
    | lst ds => exact idx_list hs x hd rfl q
    | cel c =>
      have q : (match itemsOf μ (.cel c) with | some ds => ixL ds i | none => none) = some r := q
      cases h : itemsOf μ (.cel c) with
      | none => rw [h] at q; exact no_some q
      | some ds => rw [h] at q; exact idx_list hs x hd h q
    | _ => exact no_some q
  | _ => exact no_some q
theorem RVs.cut {ds : List D} {vs : List Value} (a b : Nat) (h : RVs G F ds vs) : RVs G F (cut ds a b) (cut vs a b) := by
  unfold Mine.cut
  exact (h.take b).drop a
theorem cutQ_of {n : Nat} {lo hi : Option D} {Q : Nat → Nat → Prop} (h : match loN lo, hiN n hi with
    | some a, some b => Q a b
    | _, _ => False) : ∃ p r, loN lo = some p ∧ hiN n hi = some r ∧ Q p r := by
  cases e1 : loN lo with
  | none => rw [e1] at h; exact h.elim
  | some p =>
    cases e2 : hiN n hi with
    | none => rw [e1, e2] at h; exact h.elim
    | some r => rw [e1, e2] at h; exact ⟨p, r, rfl, rfl, h⟩
theorem slc_list {value slice : Expr} (hs : ∀ o i, subscripted slice false o i = operate [i, o] (getItem o i)) {d : D} {ds : List D} {lo hi : Option D} {a : Value} {sl : Addr} {vl vu : Value} (x : Rep G env L loc μ F R s) (hd : RV G F d a)
    (hsl : s.heap.IsSliceOf sl vl vu .none) (hlo : PartV lo vl) (hhi : PartV hi vu) (h1 : itemsOf μ d = some ds) (h3 : ds.length ≤ 1048576) {p r : Nat} (e1 : loN lo = some p) (e2 : hiN ds.length hi = some r) (h4 : Q (.lst (Mine.cut ds p r)) μ) :
    wpAny (model G.prog G.w) A (subscriptTail value slice a (.ref sl)) (Post G env L loc F R Q) E s := by
  obtain ⟨l, vs, rfl, hl, hr⟩ := x.items hd h1
  have hlen : vs.size = ds.length := hr.length
  refine tail_any hl.typeIs slot_list_getitem.lookup ?_ (hs _ _)
  refine wpAny_getItem_list_slice hl hsl hlo.is hhi.is .none (fun e => nomatch e) ?_ (by rw [hlen, sizeLine_eq]; tb_start)
  have e : slicePick vs (boundOf lo) (boundOf hi) none = (Mine.cut vs.toList p r).toArray := by
    rw [kms_pick_eq]
    unfold kms_pick
    rw [bounds_lo e1, bounds_hi (by rw [Array.length_toList, hlen]; exact e2), ← List.drop_take]
    exact congrArg _ (cut_clip _ _ _)
  rw [e]
  exact newL_push (m := false) x (hr.cut p r) ⟨by unfold Fits Mine.cut; rw [List.length_drop, List.length_take]; tb_start, h4⟩
theorem slc_byt {value slice : Expr} (hs : ∀ o i, subscripted slice false o i = operate [i, o] (getItem o i)) {l : List Int} {lo hi : Option D} {a : Value} {sl : Addr} {vl vu : Value} (x : Rep G env L loc μ F R s) (hd : RV G F (.bytes l) a)
    (hsl : s.heap.IsSliceOf sl vl vu .none) (hlo : PartV lo vl) (hhi : PartV hi vu) (h3 : l.length ≤ 1048576) {p r : Nat} (e1 : loN lo = some p) (e2 : hiN l.length hi = some r) (h4 : Q (.bytes (Mine.cut l p r)) μ) :
    wpAny (model G.prog G.w) A (subscriptTail value slice a (.ref sl)) (Post G env L loc F R Q) E s := by
  obtain ⟨⟨t, rfl⟩, h2⟩ := hd
  have hb : ∀ i ∈ Mine.cut l p r, 0 ≤ i ∧ i < 256 := fun i hi => h2 i (List.mem_of_mem_take (List.mem_of_mem_drop hi))
  refine tail_any (typeIs_bytes s _ t) FB.slot_bytes_getitem.lookup ?_ (hs _ _)
  cases hw : KBy.whole (l.map toU).toArray (boundOf lo) (boundOf hi) with
  | true =>
    refine getItem_meets (typeIs_bytes _ _ _) (by decide) FB.slot_bytes_getitem FB.entry_bytes_getitem (FB.args_bytes_getitem_2 _ _) (meets_whole _ t sl hlo.is hhi.is hw) ⟨hsl, ?_⟩
    rw [whole_cut e1 e2 hw] at h4
    exact Post.here x (rv_bytes h2 t) h4
  | false =>
    refine getItem_meets (typeIs_bytes _ _ _) (by decide) FB.slot_bytes_getitem FB.entry_bytes_getitem (FB.args_bytes_getitem_2 _ _) (KBy.meets_slice _ t sl hlo.is hhi.is hw) ⟨hsl, ?_, ?_⟩
    · rw [picked_cut e1 e2, List.size_toArray, List.length_map, sizeLine_eq]
      unfold Mine.cut
      rw [List.length_drop, List.length_take]; tb_start
    · rw [picked_cut e1 e2]
      exact Post.here (x.toks _) (rv_bytes hb _) h4
theorem slc_sound {value slice : Expr} (hs : ∀ o i, subscripted slice false o i = operate [i, o] (getItem o i)) {d : D} {lo hi : Option D} {a : Value} {sl : Addr} {vl vu : Value} (x : Rep G env L loc μ F R s) (hd : RV G F d a)
    (hsl : s.heap.IsSliceOf sl vl vu .none) (hlo : PartV lo vl) (hhi : PartV hi vu) (q : slcS μ d lo hi fun v => Q v μ) :
    wpAny (model G.prog G.w) A (subscriptTail value slice a (.ref sl)) (Post G env L loc F R Q) E s := by
  have ls : ∀ {ds : List D}, itemsOf μ d = some ds → (ds.length ≤ 1048576 ∧ (match loN lo, hiN ds.length hi with
      | some a, some b => Q (.lst (Mine.cut ds a b)) μ
      | _, _ => False)) → wpAny (model G.prog G.w) A (subscriptTail value slice a (.ref sl)) (Post G env L loc F R Q) E s := by
    rintro ds h1 ⟨h3, h4⟩
    obtain ⟨p, r, e1, e2, h5⟩ := cutQ_of (Q := fun a b => Q (.lst (Mine.cut ds a b)) μ) h4
    exact slc_list hs x hd hsl hlo hhi h1 h3 e1 e2 h5
  cases d with
  | bytes l =>
    obtain ⟨h3, h4⟩ := q
    obtain ⟨p, r, e1, e2, h5⟩ := cutQ_of (Q := fun a b => Q (.bytes (Mine.cut l a b)) μ) h4
    exact slc_byt hs x hd hsl hlo hhi h3 e1 e2 h5
  | lst ds => exact ls rfl q
  | cel c =>
    have q : (match itemsOf μ (.cel c) with
      | some ds => ds.length ≤ 1048576 ∧ (match loN lo, hiN ds.length hi with
        | some a, some b => Q (.lst (Mine.cut ds a b)) μ
        | _, _ => False)
      | none => False) := q
    cases h : itemsOf μ (.cel c) with
    | none => rw [h] at q; exact q.elim
    | some ds => rw [h] at q; exact ls h q
  | _ => exact False.elim q
theorem rev_pick (vs : Array Value) : slicePick vs none none (some (-1)) = vs.toList.reverse.toArray := by
  unfold slicePick
  have e : sliceBounds none none (some (-1)) vs.size = ((vs.size : Int) - 1, -1, -1) := by simp [sliceBounds]
  rw [e]
  dsimp only
  have e2 : sliceRange ((vs.size : Int) - 1) (-1) (-1) = (List.range vs.size).map (fun k => vs.size - 1 - k) := by
    unfold sliceRange
    have : (if (-1 : Int) > 0 then (if (vs.size : Int) - 1 < -1 then (-1 - ((vs.size : Int) - 1) + (-1) - 1) / (-1) else 0) else (if (vs.size : Int) - 1 > -1 then ((vs.size : Int) - 1 - (-1) - (-1) - 1) / (- -1) else 0)).toNat = vs.size := by
      rw [if_neg (by decide)]
      have e1 : (- -1 : Int) = 1 := by decide
      rw [e1, Int.ediv_one]
      split <;> tb_start
    dsimp only
    rw [this]
    apply List.map_congr_left
    intro k hk
    have := List.mem_range.mp hk
    tb_start
  rw [e2]
  congr 1
  apply List.ext_getElem?
  intro i
  rw [List.filterMap_map]
  have e3 : List.filterMap ((fun x => vs[x]?) ∘ fun k => vs.size - 1 - k) (List.range vs.size) = (List.range vs.size).map (fun k => vs.toList.reverse[k]!) := by
    apply filterMap_some
    intro k hk
    have hk := List.mem_range.mp hk
    simp only [Function.comp]
    rw [getElem!_pos _ _ (by simpa using hk)]
    rw [List.getElem_reverse]
    simp only [Array.length_toList, Array.getElem_toList]
    rw [Array.getElem?_eq_getElem (by tb_start)]
  rw [e3]
  by_cases h : i < vs.size
  · rw [List.getElem?_map, List.getElem?_range h]
    simp only [Option.map_some]
    rw [getElem!_pos _ _ (by simpa using h), List.getElem?_eq_getElem (by simpa using h)]
  · rw [List.getElem?_eq_none (by simpa using h), List.getElem?_eq_none (by simpa using h)]
theorem rev_sound {value slice : Expr} (hs : ∀ o i, subscripted slice false o i = operate [o, i] (getItem o i)) {d : D} {a : Value} {sl : Addr} {t : Tok} (x : Rep G env L loc μ F R s) (hd : RV G F d a)
    (hsl : s.heap.IsSliceOf sl .none .none (.int (-1) t)) (q : revS μ d fun v => Q v μ) :
    wpAny (model G.prog G.w) A (subscriptTail value slice a (.ref sl)) (Post G env L loc F R Q) E s := by
  unfold revS at q
  split at q
  · rename_i ds h1
    obtain ⟨l, vs, rfl, hl, hr⟩ := x.items hd h1
    have hlen := hr.length
    rw [Array.length_toList] at hlen
    refine tail_any hl.typeIs slot_list_getitem.lookup ?_ (hs _ _)
    refine wpAny_getItem_list_slice hl hsl .none .none (.int _ _) (fun e => nomatch e) ?_ (by rw [hlen, sizeLine_eq]; tb_start)
    rw [rev_pick]
    exact newL_push (m := false) x hr.reverse ⟨by unfold Fits; rw [List.length_reverse]; tb_start, q.2⟩
  · exact q.elim
end
section
variable {G : Gx} {env : Env} {L : Addr} {loc : Loc} {μ : Mu} {F R : Led} {s : Shared} {A : Around} {E : Value → Shared → Prop} {Q : D → Mu → Prop}
/-- an item stored: the very object that stands there then -/
theorem setItem_at {l : Addr} {its : Array Value} {n : Nat} {k : Int} {t : Tok} {v : Value} {Q : Unit → Shared → Prop} (ho : s.heap.get? l = some (listOf its n)) (h0 : 0 ≤ k) (hfit : k < 2 ^ 63) (hn : k < its.size)
    (hQ : Q () { s with heap := s.heap.update l (Obj.mapSeq (·.setIfInBounds k.toNat v)) }) : wpAny (model G.prog G.w) A (setItem (.ref l) (.int k t) v) Q E s := by
  have hl : s.heap.IsList l its := ⟨_, ho, rfl, n, rfl⟩
  have hx : its[k.toNat]? = some its[k.toNat] := Array.getElem?_eq_getElem (by omega)
  unfold setItem
  refine wpAny_holding ?_
  refine wpAny_bind (wpAny_sequenceKey hl.typeIs (by decide) (wpAny_bind (wpAny_callSpecial?_slot (name := Str.ofString "__setitem__") hl.typeIs slot_list_setitem
    (wpAny_call_entry slot_list_setitem hl.typeIs entry_list_setitem ?_ (args_list_setitem _ _ _)))))
  show wpAny _ _ (Builtin.List.listSubscript? (.int k t) >>= _) _ _ s
  refine wpAny_bind (wpAny_listSubscript_int (fitsIndex_of h0 hfit) ?_)
  obtain ⟨j, rfl⟩ := Int.eq_ofNat_of_zero_le h0
  show wpAny _ _ ((seqItemAt l j >>= fun r => pure (r.map (j, ·))) >>= _) _ _ s
  refine wpAny_bind (wpAny_bind (wpAny_seqItemAt ho rfl (wpAny_pure ?_)))
  rw [show its[j]? = some its[j] from hx]
  show wpAny _ _ (setSeqItemAt l j v >>= _) _ _ s
  refine wpAny_bind (wpAny_setSeqItemAt ho rfl ?_)
  exact wpAny_pure ⟨.none, rfl, wpAny_pure hQ⟩
/-- a cell's object changed -/
theorem Rep.changed (x : Rep G env L loc μ F R s) {a : Addr} {c c' : Cell} {o o' : Obj} {h' : Heap} (hl : μ.lookup a = some c) (ho : s.heap.get? a = some o) (hs' : Heap.SameBut a s.heap h') (ho' : h'.get? a = some o') (hc' : CellRep G F c' o') :
    Rep G env L loc (putMu μ a c') F R { s with heap := h' } := by
  obtain ⟨⟨m, cs, clo, Fm, N, nd, hc, hll⟩, hs⟩ := x
  have ndc : (cs.map (·.1)).Nodup := by rw [List.map_append] at nd; exact (List.nodup_append.mp nd).1
  obtain ⟨pre, o₁, post, e, h1, h2⟩ := hc.upd G hl hc' ndc
  subst e
  have z := N (a, o₁) (by simp)
  have nd' : ((pre ++ (a, o₁) :: (post ++ (F ++ (clo ++ R)))).map (·.1)).Nodup := by simpa using nd
  have N' : News G.base L s.heap (pre ++ (a, o₁) :: (post ++ (F ++ (clo ++ R)))) := by simpa using N
  have hne : (∀ p ∈ pre, p.1 ≠ a) ∧ ∀ p ∈ post ++ (F ++ (clo ++ R)), p.1 ≠ a := by
    rw [List.map_append, List.map_cons, nodup_mid] at nd'
    have h0 := (List.nodup_cons.mp nd').1
    constructor
    · rintro p hp rfl
      have q := List.mem_map_of_mem (f := fun p : Addr × Obj => p.1) hp
      exact h0 (List.mem_append_left _ q)
    · rintro p hp rfl
      have q := List.mem_map_of_mem (f := fun p : Addr × Obj => p.1) hp
      exact h0 (List.mem_append_right _ q)
  refine ⟨⟨m, pre ++ (a, o') :: post, clo, Fm.change hs' z.2.1 z.2.2, ?_, ?_, h2, hll⟩, ⟨hs.gens, hs.drawn, hs.os⟩⟩
  · have := news_set N' hne.1 hne.2 hs' ho'
    simpa using this
  · simpa using nd
theorem Rep.change (x : Rep G env L loc μ F R s) {a : Addr} {c c' : Cell} {o o' : Obj} {f : Obj → Obj} (hl : μ.lookup a = some c) (ho : s.heap.get? a = some o) (hf : f o = o') (hfr : o'.isFreed = false) (hc' : CellRep G F c' o') :
    Rep G env L loc (putMu μ a c') F R { s with heap := s.heap.update a f } :=
  x.changed hl ho (Heap.SameBut.update ..) (hf ▸ Heap.get?_update_self f ho (hf ▸ hfr)) hc'
theorem lookup_list {ds : List D} {a : Addr} (x : Rep G env L loc μ F R s) (h : μ.lookup a = some (.lst ds)) : ∃ vs n, s.heap.get? a = some (listOf vs n) ∧ RVs G F ds vs.toList := by
  obtain ⟨o, h1, vs, n, e, h2⟩ := x.cell h
  subst e
  exact ⟨vs, n, h1, h2⟩
theorem lookup_inst {fs : List D} {a : Addr} (x : Rep G env L loc μ F R s) (h : μ.lookup a = some (.inst fs)) : ∃ es n, s.heap.get? a = some (dictOf es n) ∧ EsR G F fieldNames es fs := by
  obtain ⟨o, h1, vs, n, e, h2⟩ := x.cell h
  subst e
  exact ⟨vs, n, h1, h2⟩
theorem setI_sound {k : Mu → Prop} {d e w : D} {a b v : Value} (x : Rep G env L loc μ F R s) (hd : RV G F d a) (he : RV G F e b) (hw : RV G F w v) (q : setI μ d e w k) :
    wpAny (model G.prog G.w) A (setItem a b v) (fun _ s' => PostU G env L loc F R k s') E s := by
  obtain ⟨c, rfl, q1⟩ := asCel_of q
  obtain ⟨i, rfl, q2⟩ := asI_of q1
  obtain ⟨ds, h, h0, h1, h2, q3⟩ := lstC_of q2
  obtain rfl : a = .ref c := hd
  obtain ⟨u, rfl⟩ := he
  obtain ⟨vs, n, h3, h4⟩ := lookup_list x h
  have hlen : vs.size = ds.length := h4.length
  refine setItem_at h3 h0 (by omega) (by omega) ⟨_, F, fun _ h => h, ?_, q3⟩
  refine x.change h h3 (o' := listOf (vs.setIfInBounds i.toNat v) n) ?_ rfl ⟨_, _, rfl, ?_⟩
  · simp [Obj.mapSeq]
  · rw [Array.toList_setIfInBounds]
    exact h4.set hw
theorem isStr_eq (n x : Str) (tk : Tok) : (Value.str n tk).isStr x = decide (n = x) := by
  show (n == x) = _
  by_cases h : n = x
  · subst h; simp
  · rw [beq_false_of_ne h, decide_eq_false h]
theorem getL_hd {x : Str} {e : DictEntry} {es : List DictEntry} {tk : Tok} (hk : e.key = .str x tk) : getL x (e :: es) = some (some e.val) := by
  unfold getL
  rw [List.find?_cons, hk, isStr_eq, decide_eq_true rfl]
theorem find_tl {n x : Str} {e : DictEntry} {es : List DictEntry} {tk : Tok} (hk : e.key = .str n tk) (hne : n ≠ x) : (e :: es).find? (·.key.isStr x) = es.find? (·.key.isStr x) := by
  rw [List.find?_cons, hk, isStr_eq, decide_eq_false hne]
theorem ref_str {n : Str} {e : DictEntry} {tk : Tok} (hk : e.key = .str n tk) : e.refKey = false := by unfold DictEntry.refKey; rw [hk]
theorem any_tl {n : Str} {e : DictEntry} {es : List DictEntry} {tk : Tok} (hk : e.key = .str n tk) : (e :: es).any (·.refKey) = es.any (·.refKey) := by rw [List.any_cons, ref_str hk, Bool.false_or]
theorem getL_tl {n x : Str} {e : DictEntry} {es : List DictEntry} {tk : Tok} (hk : e.key = .str n tk) (hne : n ≠ x) : getL x (e :: es) = getL x es := by
  unfold getL
  rw [find_tl hk hne, any_tl hk]
/-- a field's entry -/
theorem EsR.get {ns : List Str} {es : List DictEntry} {fs : List D} (h : EsR G F ns es fs) : ∀ {j : Nat} {x : Str} {d : D}, ns.Nodup → ns[j]? = some x → fs[j]? = some d → ∃ v, getL x es = some (some v) ∧ RV G F d v := by
  induction h with
  | nil => intro j x d _ _ h; cases h
  | cons n ns e es f fs tk hk h3 _ ih =>
    intro j x d nd h1 h2
    obtain ⟨n1, n2⟩ := List.nodup_cons.mp nd
    cases j with
    | zero =>
      obtain rfl := Option.some.inj h1
      obtain rfl := Option.some.inj h2
      exact ⟨e.val, getL_hd hk, h3⟩
    | succ j =>
      obtain ⟨v, h5, h6⟩ := ih n2 h1 h2
      exact ⟨v, (getL_tl hk fun e => n1 (e ▸ List.mem_of_getElem? h1)).trans h5, h6⟩
/-- the dict may be asked for any name -/
theorem EsR.refs {ns : List Str} {es : List DictEntry} {fs : List D} (h : EsR G F ns es fs) : es.any (·.refKey) = false := by
  induction h with
  | nil => rfl
  | cons n ns e es f fs tk hk _ _ ih => rw [any_tl hk, ih]
theorem EsR.info {x : Str} {ns : List Str} {es : List DictEntry} {fs : List D} (h : EsR G F ns es fs) : (getL x es).isSome = true ∧ es.any (·.refKey) = false ∧ es.length = fs.length ∧ fs.length ≤ ns.length := by
  refine ⟨?_, h.refs, ?_⟩
  · unfold getL
    split
    · rfl
    · rw [h.refs]; rfl
  · induction h with
    | nil => exact ⟨rfl, Nat.zero_le _⟩
    | cons n ns e es f fs tk hk _ _ ih => exact ⟨congrArg (· + 1) ih.1, Nat.succ_le_succ ih.2⟩
theorem EsR.put {v : Value} {d : D} {hsh : Int} {tk : Tok} (hv : RV G F d v) {ns : List Str} {es : List DictEntry} {fs : List D} (h : EsR G F ns es fs) : ∀ {j : Nat} {x : Str}, ns.Nodup → ns[j]? = some x → j ≤ fs.length →
    EsR G F ns (putL x hsh (.str x tk) v es) (if j < fs.length then fs.set j d else fs ++ [d]) := by
  induction h with
  | nil ns =>
    intro j x nd h1 h2
    obtain rfl := Nat.le_zero.mp h2
    cases ns with
    | nil => cases h1
    | cons n ns =>
      obtain rfl := Option.some.inj h1
      exact .cons _ _ _ _ _ _ tk rfl hv (.nil ns)
  | cons n ns e es f fs tk' hk h3 h4 ih =>
    intro j x nd h1 h2
    obtain ⟨n1, n2⟩ := List.nodup_cons.mp nd
    cases j with
    | zero =>
      obtain rfl := Option.some.inj h1
      rw [if_pos (show 0 < (f :: fs).length from Nat.zero_lt_succ _)]
      simp only [putL, hk, isStr_eq, decide_eq_true_eq, if_true]
      exact .cons _ _ _ _ _ _ tk' (by simp) hv h4
    | succ j =>
      have hne : n ≠ x := fun e => n1 (e ▸ List.mem_of_getElem? h1)
      have ih := ih n2 h1 (Nat.le_of_succ_le_succ h2)
      simp only [putL, hk, isStr_eq, decide_eq_true_eq, if_neg hne]
      by_cases hj : j < fs.length
      · rw [if_pos hj] at ih
        rw [if_pos (show j + 1 < (f :: fs).length from Nat.succ_lt_succ hj)]
        exact .cons _ _ _ _ _ _ tk' hk h3 ih
      · rw [if_neg hj] at ih
        rw [if_neg fun q : j + 1 < (f :: fs).length => hj (Nat.lt_of_succ_lt_succ q)]
        exact .cons _ _ _ _ _ _ tk' hk h3 ih
theorem EsR.miss {x : Str} {ns : List Str} {es : List DictEntry} {fs : List D} (h : EsR G F ns es fs) : x ∉ ns → getL x es = some none := by
  induction h with
  | nil => exact fun _ => rfl
  | cons n ns e es f fs tk hk _ _ ih => exact fun hn => (getL_tl hk fun e => hn (e ▸ List.mem_cons_self)).trans (ih fun hm => hn (List.mem_cons_of_mem _ hm))
theorem names_nodup : fieldNames.Nodup := by decide +kernel
theorem handed_of {d : D} {v : Value} (h : RV G F d v) : handedIn v = true := by
  cases d with
  | none => obtain rfl := h; rfl
  | bool => obtain rfl := h; rfl
  | int => obtain ⟨t, rfl⟩ := h; rfl
  | str => obtain ⟨t, rfl⟩ := h; rfl
  | bytes => obtain ⟨⟨t, rfl⟩, _⟩ := h; rfl
  | tup => obtain ⟨a, o, vs, n, rfl, _⟩ := h; rfl
  | lst => obtain ⟨a, o, vs, n, rfl, _⟩ := h; rfl
  | cel => obtain rfl := h; rfl
  | obj => obtain ⟨a, rfl, _⟩ := h; rfl
  | rng => obtain ⟨a, t, u, w, rfl, _⟩ := h; rfl
theorem Rep.view (x : Rep G env L loc μ F R s) : ∃ m, Fr G.base L s.heap m := by
  cases x.ex with
  | mk m _ _ Fm => exact ⟨m, Fm⟩
theorem inst_at (x : Rep G env L loc μ F R s) {a dx : Addr} {es : List DictEntry} {n : Nat} (h1 : (a, instObj G.C dx) ∈ F) (h2 : s.heap.get? dx = some (dictOf es n)) : InstAt s.heap a (instObj G.C dx) G.C (some (dictOf es n)) :=
  ⟨x.inF h1, rfl, rfl, h2⟩
theorem getF_sound {k : D → Prop} {expr : Bool} {d : D} {a : Value} {j : Nat} (x : Rep G env L loc μ F R s) (hd : RV G F d a) (q : getF μ d j k) :
    wpAny (model G.prog G.w) A (getAttr a (fieldNames.getD j Str.empty) expr) (fun v s' => ∃ r, RV G F r v ∧ k r ∧ ∃ tk, s' = { s with toks := tk }) E s := by
  obtain ⟨dx, rfl, q1⟩ := asObj_of q
  obtain ⟨fs, hl, q2⟩ := instC_of q1
  obtain ⟨r, hr, q3⟩ := optC_of q2
  clear q
  have q := q3
  obtain ⟨b, rfl, hb⟩ := (show ∃ x, a = Value.ref x ∧ (x, instObj G.C dx) ∈ F from hd)
  obtain ⟨es, n, h1, h2⟩ := lookup_inst x hl
  have hj : j < fieldNames.length := by
    have := (h2.info (x := Str.empty)).2.2.2
    obtain ⟨h9, _⟩ := List.getElem?_eq_some_iff.mp hr
    omega
  have hn : fieldNames[j]? = some (fieldNames.getD j Str.empty) := by simp [hj]
  have hm : fieldNames.getD j Str.empty ∈ fieldNames := List.mem_of_getElem? hn
  obtain ⟨v, h3, h4⟩ := h2.get names_nodup hn hr
  obtain ⟨m, Fm⟩ := x.view
  exact get_own Fm G.KX (inst_at x hb h1) (G.hget _ hm) G.hdict (G.hfind _ hm) rfl h3 (handed_of h4) ⟨r, h4, q, _, rfl⟩
theorem mapDict_put : True := trivial
theorem setF_sound {k : Mu → Prop} {d w : D} {a v : Value} {j : Nat} (x : Rep G env L loc μ F R s) (hd : RV G F d a) (hw : RV G F w v) (q : setF μ d j w k) :
    wpAny (model G.prog G.w) A (setAttr a (fieldNames.getD j Str.empty) v) (fun _ s' => PostU G env L loc F R k s') E s := by
  obtain ⟨dx, rfl, q1⟩ := asObj_of q
  obtain ⟨fs, hl, hj1, hj2, q2⟩ := instC_of q1
  clear q
  have q := q2
  obtain ⟨b, rfl, hb⟩ := (show ∃ x, a = Value.ref x ∧ (x, instObj G.C dx) ∈ F from hd)
  obtain ⟨es, n, h1, h2⟩ := lookup_inst x hl
  have hj : j < fieldNames.length := hj2
  have hn : fieldNames[j]? = some (fieldNames.getD j Str.empty) := by simp [hj]
  have hm : fieldNames.getD j Str.empty ∈ fieldNames := List.mem_of_getElem? hn
  have I := inst_at x hb h1
  obtain ⟨⟨m, cs, clo, Fm, N, nd, hc, hll⟩, hs⟩ := x
  have ndc : (cs.map (·.1)).Nodup := by rw [List.map_append] at nd; exact (List.nodup_append.mp nd).1
  have hnew : CellRep G F (.inst (if j < fs.length then fs.set j w else fs ++ [w])) (dictOf (putL (fieldNames.getD j Str.empty) (PyData.keyHash G.w.params (fieldNames.getD j Str.empty)) (.str (fieldNames.getD j Str.empty) (s.toks + 1)) v es) (putN (fieldNames.getD j Str.empty) es n)) :=
    ⟨_, _, rfl, h2.put hw names_nodup hn hj1⟩
  obtain ⟨pre, o₁, post, e, hc1, hc2⟩ := hc.upd G hl hnew ndc
  subst e
  have ho1 := (N (dx, o₁) (by simp)).1
  rw [h1] at ho1
  have e1 := Option.some.inj ho1
  subst e1
  have nd' : ((pre ++ (dx, dictOf es n) :: (post ++ (F ++ (clo ++ R)))).map (·.1)).Nodup := by simpa using nd
  have N' : News G.base L s.heap (pre ++ (dx, dictOf es n) :: (post ++ (F ++ (clo ++ R)))) := by simpa using N
  have hlen : (putL (fieldNames.getD j Str.empty) (PyData.keyHash G.w.params (fieldNames.getD j Str.empty)) (.str (fieldNames.getD j Str.empty) (s.toks + 1)) v es).length ≤ 1000 := by
    obtain ⟨es', n', e1, e2⟩ := hnew
    injection e1 with _ _ e1
    have := (h2.put (hsh := PyData.keyHash G.w.params (fieldNames.getD j Str.empty)) (tk := s.toks + 1) hw names_nodup hn hj1).info (x := Str.empty)
    have h7 : fieldNames.length = 7 := rfl
    omega
  refine set_dict Fm G.KX N' I rfl G.hset G.hover (G.htake _ hm) G.hdict h2.info.1 rfl (upd_of_nodup nd') hlen fun h' F2 N2 => ?_
  refine ⟨_, F, fun _ h => h, ⟨⟨m, _, clo, F2, ?_, ?_, hc2, hll⟩, ⟨hs.gens, hs.drawn, hs.os⟩⟩, q⟩
  · simpa using N2
  · simpa using nd
end
section
variable {G : Gx} {env : Env} {L : Addr} {loc : Loc} {μ : Mu} {F R : Led} {s : Shared} {A : Around} {E : Value → Shared → Prop} {Q : D → Mu → Prop}
/-- a heap that keeps all that stood -/
theorem Rep.keeps (x : Rep G env L loc μ F R s) {h' : Heap} (k : ∀ b o, s.heap.get? b = some o → h'.get? b = some o) (tk : Tok) : Rep G env L loc μ F R { s with heap := h', toks := tk } := by
  obtain ⟨⟨m, cs, clo, Fm, N, nd, hc, hl⟩, hs⟩ := x
  exact ⟨⟨m, cs, clo, ⟨Fm.ns.keeps k, fun b o e => k b o (Fm.keep b o e), Fm.above⟩, fun p hp => ⟨k _ _ (N p hp).1, (N p hp).2⟩, nd, hc, hl⟩, ⟨hs.gens, hs.drawn, hs.os⟩⟩
/-- a new object that the heap holds behind a call -/
theorem Rep.keepsNew (x : Rep G env L loc μ F R s) {h' : Heap} (k : ∀ b o, s.heap.get? b = some o → h'.get? b = some o) {o : Obj} (hn : h'.get? s.heap.objs.size = some o) (tk : Tok) :
    Rep G env L loc μ ((s.heap.objs.size, o) :: F) R { s with heap := h', toks := tk } := by
  have hfr : ∀ p ∈ F, p ∈ (s.heap.objs.size, o) :: F := fun p h => List.mem_cons_of_mem _ h
  obtain ⟨⟨m, cs, clo, Fm, N, nd, hc, hl⟩, hs⟩ := x
  have e : ∀ p ∈ cs ++ (F ++ (clo ++ R)), p.1 ≠ s.heap.objs.size := News.fresh_ne N
  have hL : s.heap.objs.size ≠ L := by
    obtain ⟨oL, _, _, hL, _⟩ := Fm.ns
    exact Nat.ne_of_gt (Heap.lt_size hL)
  have hb : G.base.get? s.heap.objs.size = none := by
    cases hq : G.base.get? s.heap.objs.size with
    | none => rfl
    | some o' => exact absurd (Heap.lt_size (Fm.keep _ _ hq)) (Nat.lt_irrefl _)
  refine ⟨⟨m, cs, clo, ⟨Fm.ns.keeps k, fun b o e => k b o (Fm.keep b o e), Fm.above⟩, ?_, nodup_cons_F nd e, hc.mono G hfr, hl.mono G hfr⟩, ⟨hs.gens, hs.drawn, hs.os⟩⟩
  intro p hp
  simp only [List.cons_append, List.mem_append, List.mem_cons] at hp
  rcases hp with h | rfl | h | h | h
  · exact ⟨k _ _ (N p (by simp [h])).1, (N p (by simp [h])).2⟩
  · exact ⟨hn, hL, hb⟩
  · exact ⟨k _ _ (N p (by simp [h])).1, (N p (by simp [h])).2⟩
  · exact ⟨k _ _ (N p (by simp [h])).1, (N p (by simp [h])).2⟩
  · exact ⟨k _ _ (N p (by simp [h])).1, (N p (by simp [h])).2⟩
theorem rvs_of_items {a c : Int} {n : Nat} : ∀ {acc : Array Value}, ItemsOf (fun (i : Nat) (v : Value) => ∃ t, v = Value.int (a + i * c) t) acc n → RVs G F (((List.range n).map fun (k : Nat) => a + (k : Int) * c).map D.int) acc.toList := by
  intro acc h
  have key : ∀ (l : List Value) (m : Nat) , (∀ j v, l[j]? = some v → ∃ t, v = Value.int (a + ((m + j : Nat) : Int) * c) t) → RVs G F (((List.range' m l.length).map fun (k : Nat) => a + (k : Int) * c).map D.int) l := by
    intro l
    induction l with
    | nil => intro m _; exact rfl
    | cons v r ih =>
      intro m hv
      obtain ⟨t, ht⟩ := hv 0 v rfl
      simp only [List.length_cons, List.range'_succ, List.map_cons]
      refine ⟨v, r, rfl, ⟨t, by simpa using ht⟩, ih (m + 1) fun j w hj => ?_⟩
      obtain ⟨t, ht⟩ := hv (j + 1) w (by simpa using hj)
      exact ⟨t, by rw [ht]; congr 4; omega⟩
  have hn : acc.toList.length = n := by rw [Array.length_toList]; exact h.1
  have := key acc.toList 0 fun j v hj => by
    obtain ⟨t, ht⟩ := h.2 j v (by simpa using hj)
    exact ⟨t, by rw [ht]; congr 3; simp⟩
  rw [hn, ← List.range_eq_range'] at this
  exact this
theorem natAbs_if (i : Int) : (if i < 0 then -i else i) = (i.natAbs : Int) := by split <;> omega
theorem rv_rng {a b c : Int} {r : Addr} {t u w : Tok} (h : (r, ({ cls := .type "range", data := .fields #[.int a t, .int b u, .int c w] } : Obj)) ∈ F) : RV G F (.rng a b c) (.ref r) := ⟨r, t, u, w, rfl, h⟩
theorem rangeSize_eq (a b c : Int) : Builtin.Range.rangeSize a b c = ((rangeN a b c : Nat) : Int) := by
  unfold Builtin.Range.rangeSize rangeN
  rw [Int.toNat_of_nonneg]
  split
  · split
    · have := Int.ediv_nonneg (a := b - a - 1) (b := c) (by omega) (by omega)
      omega
    · omega
  · split
    · have := Int.ediv_nonneg (a := a - b - 1) (b := -c) (by omega) (by omega)
      omega
    · omega
noncomputable def Bi.val : Bi → Value
  | .len => .builtin "len" | .range => .type "range" | .sum => .builtin "sum" | .abs => .builtin "abs" | .bytes => .type "bytes" | .list => .type "list" | .int => .type "int" | .repr => .builtin "repr"
theorem rvs_one {d : D} {vs : List Value} (h : RVs G F [d] vs) : ∃ v, vs = [v] ∧ RV G F d v := by
  obtain ⟨v, r, rfl, h1, rfl⟩ := (show ∃ v r, vs = v :: r ∧ RV G F d v ∧ r = [] from h)
  exact ⟨v, rfl, h1⟩
theorem rvs_cons {d : D} {ds : List D} {vs : List Value} (h : RVs G F (d :: ds) vs) : ∃ v r, vs = v :: r ∧ RV G F d v ∧ RVs G F ds r := h
theorem rv_range {a b c : Int} {t u w : Tok} {k : Nat} (x : Rep G env L loc μ F R s) (q : Q (.rng a b c) μ) : Post G env L loc F R Q (.ref s.heap.objs.size) { s with heap := s.heap.push { cls := .type "range", data := .fields #[.int a t, .int b u, .int c w] }, toks := k } :=
  ⟨_, μ, _, fun p h => List.mem_cons_of_mem _ h, x.push (G := G) (o := { cls := .type "range", data := .fields #[.int a t, .int b u, .int c w] }) rfl _, rv_rng List.mem_cons_self, q⟩
theorem bi_range {d : D} {r : List D} {vs : List Value} {rp : D → Str} (x : Rep G env L loc μ F R s) (hr : RVs G F (d :: r) vs) (q : biS rp .range (d :: r) μ Q) :
    wpAny (model G.prog G.w) A (call (Bi.val .range) vs) (Post G env L loc F R Q) E s := by
  obtain ⟨v, vs, rfl, h1, hr1⟩ := rvs_cons hr
  obtain ⟨a, rfl, q1⟩ := asI_of q
  obtain ⟨t, rfl⟩ := h1
  cases r with
  | nil =>
    obtain rfl : vs = [] := hr1
    exact call_range_1 (rv_range x q1.2)
  | cons e r =>
    obtain ⟨v, vs, rfl, h1, hr2⟩ := rvs_cons hr1
    obtain ⟨b, rfl, q2⟩ := asI_of q1
    obtain ⟨u, rfl⟩ := h1
    cases r with
    | nil =>
      obtain rfl : vs = [] := hr2
      exact call_range_2 (rv_range x q2.2.2)
    | cons f r =>
      obtain ⟨v, vs, rfl, h1, hr3⟩ := rvs_cons hr2
      obtain ⟨c, rfl, q3⟩ := asI_of q2
      obtain ⟨w, rfl⟩ := h1
      cases r with
      | cons => exact False.elim q3
      | nil =>
        obtain rfl : vs = [] := hr3
        obtain ⟨g1, g2, rfl, q4⟩ := q3
        exact call_range_3 (by decide) (rv_range x q4) (Or.inl (PyProof.noPylong_small (by decide)))
theorem bi_len1 {d : D} {v : Value} {rp : D → Str} (x : Rep G env L loc μ F R s) (h1 : RV G F d v) (q : biS rp .len [d] μ Q) :
    wpAny (model G.prog G.w) A (call (Bi.val .len) [v]) (Post G env L loc F R Q) E s := by
  cases d with
  | bytes l =>
    obtain ⟨⟨t, rfl⟩, h3⟩ := h1
    have hsz : (l.map toU).toArray.size = l.length := by simp
    refine len_bytes (by rw [hsz]; exact Nat.le_trans q.1 (by decide)) ?_
    rw [hsz]
    exact Post.here (x.toks _) (rv_int _ _) q.2
  | lst l =>
    obtain ⟨l, ws, rfl, hl, hr'⟩ := x.list h1
    have hlen : ws.size = _ := hr'.length
    refine call_len_list hl (by rw [hlen]; have := q.1; unfold Fits at this; omega) ?_
    rw [hlen]
    exact Post.here (x.toks _) (rv_int _ _) q.2
  | _ => exact False.elim q
theorem bi_sum {l : List D} {v : Value} {is : List Int} (hh : A.handled = none) (x : Rep G env L loc μ F R s) (h1 : RV G F (.lst l) v) (e : intsOf l = some is) (q : Q (.int is.sum) μ) :
    wpAny (model G.prog G.w) A (call (Bi.val .sum) [v]) (Post G env L loc F R Q) E s := by
  obtain ⟨l, ws, rfl, hl, hr'⟩ := x.list h1
  have hi : IntsAre ws.toList is := ints_are e hr'
  obtain ⟨xs, hx⟩ := hi.allInts.items
  have hn : numsOf ws.toList.toArray.toList = is := by rw [show ws.toList.toArray.toList = ws.toList from rfl, hi.numsOf]
  have hl' : s.heap.IsList l ws.toList.toArray := hl
  rw [hx] at hl' hn
  rw [nums_intItems] at hn
  refine sum_intListG hh hl' fun h' tk t' hk => ?_
  rw [preSum_eq, List.take_of_length_le (by simp), hn]
  exact ⟨_, μ, F, fun _ h => h, x.keeps hk tk, rv_int _ _, q⟩
theorem bi_bytes {l : List D} {v : Value} {is : List Int} (hh : A.handled = none) (x : Rep G env L loc μ F R s) (h1 : RV G F (.lst l) v) (e : intsOf l = some is) (q1 : ∀ i ∈ is, 0 ≤ i ∧ i < 256) (q2 : Fits is.length) (q : Q (.bytes is) μ) :
    wpAny (model G.prog G.w) A (call (Bi.val .bytes) [v]) (Post G env L loc F R Q) E s := by
  obtain ⟨l, ws, rfl, hl, hr'⟩ := x.list h1
  have hi : IntsAre ws.toList is := ints_are e hr'
  refine call_bytes_ints (vs := ws.toList) hl hi q1 (by rw [hi.length, sizeLine_eq]; unfold Fits at q2; omega) hh fun h' t k hk => ?_
  exact ⟨_, μ, F, fun _ h => h, x.keeps hk k, rv_bytes q1 t, q⟩
theorem bi_list {a b c : Int} {v : Value} (hh : A.handled = none) (x : Rep G env L loc μ F R s) (h1 : RV G F (.rng a b c) v) (q1 : Builtin.Range.small a b c = true) (q2 : Fits (rangeL a b c).length) (q : Q (.lst ((rangeL a b c).map .int)) μ) :
    wpAny (model G.prog G.w) A (call (Bi.val .list) [v]) (Post G env L loc F R Q) E s := by
  obtain ⟨r, t, u, w, rfl, hm⟩ := (show ∃ r t u w, v = Value.ref r ∧ (r, ({ cls := .type "range", data := .fields #[.int a t, .int b u, .int c w] } : Obj)) ∈ F from h1)
  have hg := x.inF hm
  have hN : Builtin.Range.rangeSize a b c = ((rangeN a b c : Nat) : Int) := rangeSize_eq _ _ _
  have hlen : rangeN a b c ≤ 2 ^ 24 := by
    have : (rangeL a b c).length = rangeN a b c := by unfold rangeL; rw [List.length_map, List.length_range]
    unfold Fits at q2
    rw [this] at q2
    exact Nat.le_trans q2 (by decide)
  refine call_list_range hh hg q1 hN hlen fun h' tk acc c' hk hS hacc => ?_
  refine ⟨_, μ, _, fun p h => List.mem_cons_of_mem _ h, x.keepsNew hk hS tk, ?_, q⟩
  exact ⟨_, _, acc, c', rfl, .inr List.mem_cons_self, ⟨rfl, rfl⟩, rfl, (rvs_of_items hacc).mono G fun p h => List.mem_cons_of_mem _ h⟩
/-- what the call of a built-in hands on (repr apart) -/
theorem biS_sound {rp : D → Str} {b : Bi} (hh : A.handled = none) {ds : List D} {vs : List Value} (x : Rep G env L loc μ F R s) (hr : RVs G F ds vs) (hb : b ≠ .repr) (q : biS rp b ds μ Q) :
    wpAny (model G.prog G.w) A (call b.val vs) (Post G env L loc F R Q) E s := by
  cases b with
  | repr => exact absurd rfl hb
  | range =>
    cases ds with
    | nil => exact False.elim q
    | cons d r => exact bi_range x hr q
  | len =>
    obtain ⟨d, rfl, q1⟩ := arg1_of q
    obtain ⟨v, rfl, h1⟩ := rvs_one hr
    exact bi_len1 x h1 q
  | sum =>
    obtain ⟨d, rfl, q1⟩ := arg1_of q
    obtain ⟨v, rfl, h1⟩ := rvs_one hr
    obtain ⟨l, rfl, q2⟩ := asL_of q1
    obtain ⟨is, e, q3⟩ := optQ_of q2
    exact bi_sum hh x h1 e q3.2
  | abs =>
    obtain ⟨d, rfl, q1⟩ := arg1_of q
    obtain ⟨v, rfl, h1⟩ := rvs_one hr
    obtain ⟨i, rfl, q2⟩ := asI_of q1
    obtain ⟨t, rfl⟩ := h1
    refine call_abs_int fun u tk => ?_
    rw [natAbs_if]
    exact Post.here (x.toks _) (rv_int _ _) q2
  | bytes =>
    obtain ⟨d, rfl, q1⟩ := arg1_of q
    obtain ⟨v, rfl, h1⟩ := rvs_one hr
    obtain ⟨l, rfl, q2⟩ := asL_of q1
    obtain ⟨is, e, q3⟩ := optQ_of q2
    exact bi_bytes hh x h1 e q3.1 q3.2.1 q3.2.2
  | list =>
    obtain ⟨d, rfl, q1⟩ := arg1_of q
    obtain ⟨v, rfl, h1⟩ := rvs_one hr
    cases d with
    | rng a b c => exact bi_list hh x h1 q1.1 q1.2.1 q1.2.2
    | _ => exact False.elim q1
  | int =>
    obtain ⟨d, rfl, q1⟩ := arg1_of q
    obtain ⟨v, rfl, h1⟩ := rvs_one hr
    obtain ⟨b, rfl, q2⟩ := asB_of q1
    obtain rfl : v = .bool b := h1
    exact call_int_bool (Post.here (x.toks _) (rv_int _ _) q2)
end
theorem slot_find : Slot "bytes" "find" "bytes.find" :=
  .of (owner := "bytes") (n := "find") (by rw [typeLookup_type, builtinLookup_eq_fast]; kernel_rfl) (by decide +kernel) (by decide +kernel) (by decide +kernel)
    (by first | exact .inl (by decide +kernel) | exact .inr (by decide +kernel)) (by rw [isSubtype_type]; kernel_rfl)
theorem type_find : typeOf (.builtin "bytes.find") = pure (.type "method_descriptor") := by show builtinType _ = _; rw [builtinType_eq_fast]; kernel_rfl
theorem entry_find : entryFor table "bytes.find" = some Builtin.«bytes.find» := entryFor_of_tree (by kernel_rfl)
theorem args_find (a b : Value) : argsOk "bytes.find" ⟨[a, b], []⟩ := by
  unfold argsOk; rw [signature?_of (id := "bytes.find") (n := ['d', 'n', 'i', 'f']) (o := ['s', 'e', 't', 'y', 'b']) (by kernel_rfl) FB.owner_bytes]; kernel_rfl
theorem find_range {α : Type} (p : α → Bool) : ∀ (l : List α) (g : Nat → Bool), (∀ i (h : i < l.length), g i = p l[i]) → (List.range l.length).find? g = l.findIdx? p
  | [], g, _ => rfl
  | a :: l, g, h => by
    rw [List.findIdx?_cons, List.length_cons, List.range_succ_eq_map, List.find?_cons]
    have h0 : g 0 = p a := h 0 (by simp)
    rw [h0]
    cases hp : p a with
    | true => simp
    | false =>
      simp only [Bool.false_eq_true, if_false]
      rw [List.find?_map]
      have ih := find_range p l (g ∘ Nat.succ) fun i hi => by
        have := h (i + 1) (by simpa using hi)
        simpa using this
      rw [ih]
theorem find_one (l : List UInt8) (x : UInt8) : Builtin.Bytes.find? l.toArray [x].toArray 0 l.toArray.size = l.findIdx? (· == x) := by
  unfold Builtin.Bytes.find?
  have e : l.toArray.size + 1 - (0 + [x].toArray.size) = l.length := by simp
  rw [e]
  have e2 : (List.range l.length).map (· + 0) = List.range l.length := by simp
  rw [e2]
  refine find_range _ l _ fun i hi => ?_
  have e3 : l.toArray.extract i (i + [x].toArray.size) = [l[i]].toArray := by
    apply Array.toList_inj.mp
    rw [Array.toList_extract]
    simp only [List.size_toArray, List.length_singleton, List.extract_eq_take_drop]
    rw [show i + 1 - i = 1 by omega]
    rw [List.drop_eq_getElem_cons hi]
    rfl
  rw [e3]
  by_cases h : l[i] = x
  · rw [h]; simp
  · rw [beq_false_of_ne h]
    apply beq_false_of_ne
    intro q
    simp at q
    exact h q
theorem findIdx_toU {l : List Int} (hl : ∀ i ∈ l, 0 ≤ i ∧ i < 256) {x : Int} (hx : 0 ≤ x ∧ x < 256) : (l.map toU).findIdx? (· == toU x) = l.findIdx? (· == x) := by
  induction l with
  | nil => rfl
  | cons a l ih =>
    rw [List.map_cons, List.findIdx?_cons, List.findIdx?_cons, ih fun i hi => hl i (List.mem_cons_of_mem _ hi)]
    by_cases h : a = x
    · subst h; simp
    · have : toU a ≠ toU x := fun e => h (toU_inj (hl a List.mem_cons_self) hx e)
      rw [beq_false_of_ne h, beq_false_of_ne this]
theorem retInt_any {M : Model} {A : Around} {E : Value → Shared → Prop} {s : Shared} {i : Int} {Q : Value → Shared → Prop} (h : Q (.int i s.toks) { s with toks := s.toks + 1 }) :
    wpAny M A (retInt i) (fun fin s' => ∃ v, fin = Fin.done (Flow.ret v) ∧ Q v s') E s := fun _ _ _ => ⟨_, rfl, h⟩
theorem gives_find (l : List Int) (hl : ∀ i ∈ l, 0 ≤ i ∧ i < 256) (t u : Tok) (x : Int) (hx : 0 ≤ x ∧ x < 256) :
    Gives (Builtin.«bytes.find» ⟨[.bytes (l.map toU).toArray t, .bytes ([x].map toU).toArray u], []⟩) (.int (findI l x)) := by
  refine .of_wp fun M A E s Q hq => ?_
  show wpAny M A (Builtin.Bytes.searchArgs .bytes "find" ⟨[.bytes (l.map toU).toArray t, .bytes ([x].map toU).toArray u], []⟩ >>= _) _ E s
  refine wpAny_bind ?_
  unfold Builtin.Bytes.searchArgs
  refine wpAny_bind (wpAny_of_eq (a := ((.bytes (l.map toU).toArray t : Value), [(.bytes ([x].map toU).toArray u : Value)])) rfl ?_)
  refine wpAny_bind (wpAny_of_eq (a := none) rfl ?_)
  refine wpAny_bind (wpAny_of_eq (a := none) rfl ?_)
  refine wpAny_bind (wpAny_of_eq KBy.buffer_eq ?_)
  refine wpAny_bind (wpAny_pure ?_)
  refine wpAny_bind (wpAny_of_eq (a := (l.map toU).toArray) rfl ?_)
  have hw : Builtin.Bytes.window (l.map toU).toArray.size none none = (0, (l.length : Int)) := by
    unfold Builtin.Bytes.window
    simp only [List.size_toArray, List.length_map, Option.getD_none]
    rw [if_neg (by decide), if_neg (by omega), Int.min_self]
  rw [hw]
  refine wpAny_pure ?_
  dsimp only
  have hs : ((List.map toU [x]).toArray.size : Int) = 1 := rfl
  rw [hs]
  have hz : (0 : Int).toNat = 0 := rfl
  by_cases h0 : l = []
  · subst h0
    rw [if_pos (by decide)]
    exact wpAny_bind (wpAny_rule (retInt_any hq))
  · have hpos : 0 < l.length := List.length_pos_iff.mpr h0
    rw [if_neg (by omega)]
    have e : Builtin.Bytes.find? (List.map toU l).toArray (List.map toU [x]).toArray 0 ((l.length : Int)).toNat = l.findIdx? (· == x) := by
      have := find_one (l.map toU) (toU x)
      rw [findIdx_toU hl hx] at this
      rw [← this]
      congr 1
      simp
    show wpAny M A (match Builtin.Bytes.find? (List.map toU l).toArray (List.map toU [x]).toArray 0 ((l.length : Int)).toNat with | some i => _ | none => _) _ _ _
    rw [e]
    unfold findI at hq
    cases hf : l.findIdx? (· == x) with
    | none => rw [hf] at hq; exact wpAny_bind (wpAny_rule (retInt_any hq))
    | some i => rw [hf] at hq; exact retInt_any hq
section
variable {G : Gx} {env : Env} {L : Addr} {loc : Loc} {μ : Mu} {F R : Led} {s : Shared} {A : Around} {E : Value → Shared → Prop} {Q : D → Mu → Prop}
theorem Rep.nodict (x : Rep G env L loc μ F R s) {ds : List D} {a : Addr} (h : RV G F (.lst ds) (.ref a)) : ∃ o, s.heap.get? a = some o ∧ o.dict = none := by
  obtain ⟨b, o, vs, n, h1, h2, h3, h4, h5⟩ := h
  cases h1
  exact ⟨o, x.frozen h2, h3.2⟩
theorem bools_items : ∀ {ds : List D} {bs : List Bool} {vs : Array Value}, boolsOf ds = some bs → RVs G F ds vs.toList → vs.toList = bs.map Value.bool ∧ ∀ m (hm : m < vs.size) (hb : m < bs.length), vs[m] = .bool bs[m] := by
  have key : ∀ {ds : List D} {bs : List Bool} {vs : List Value}, boolsOf ds = some bs → RVs G F ds vs → vs = bs.map Value.bool := by
    intro ds
    induction ds with
    | nil => intro bs vs h1 h2; simp only [boolsOf, Option.some.injEq] at h1; subst h1 h2; rfl
    | cons d ds ih =>
      intro bs vs h1 h2
      obtain ⟨v, r, rfl, h3, h4⟩ := h2
      cases d <;> simp only [boolsOf] at h1 <;> try (cases h1)
      subst h3
      cases q : boolsOf ds with
      | none => rw [q] at h1; cases h1
      | some js =>
        rw [q] at h1
        simp only [Option.map_some, Option.some.injEq] at h1
        subst h1
        rw [ih q h4]
        rfl
  intro ds bs vs h1 h2
  have h := key h1 h2
  refine ⟨h, fun m hm hb => ?_⟩
  have h3 : vs.toList[m]? = some (.bool bs[m]) := by rw [h]; simp [hb]
  rw [Array.getElem?_toList, Array.getElem?_eq_getElem hm] at h3
  exact Option.some.inj h3
noncomputable def Bm.id (d : D) : Bm → Value
  | .find => .builtin "bytes.find"
  | .append => .builtin "list.append"
  | .count => .builtin "list.count"
  | .index => .builtin "list.index"
theorem getMethod_bm {b : Bm} {d : D} {a : Value} {pl : Sem Bool} {Q : Value × List Value → Shared → Prop} (x : Rep G env L loc μ F R s) (hd : RV G F d a) (ok : bmOk μ b d) (h : Q (Bm.id d b, [a]) s) :
    wpAny (model G.prog G.w) A (getMethod a b.name pl) Q E s := by
  cases b with
  | find =>
    obtain ⟨l, rfl, _⟩ := asBy_of ok
    obtain ⟨⟨t, rfl⟩, _⟩ := hd
    exact getMethod_builtin (typeIs_bytes s _ t) FB.plainAttrs_bytes slot_find type_find (fun _ e => nomatch e) h
  | append =>
    cases d with
    | cel c =>
      obtain rfl : a = .ref c := hd
      obtain ⟨es, he⟩ := (show ∃ es, μ.lookup c = some (.lst es) from ok)
      obtain ⟨vs, n, h3, h4⟩ := lookup_list x he
      exact getMethod_list_append h3 rfl rfl h
    | _ => exact False.elim ok
  | count =>
    obtain ⟨l, rfl, _⟩ := asL_of ok
    obtain ⟨l, vs, rfl, hl, hr⟩ := x.list hd
    exact getMethod_builtin hl.typeIs PySem.F.plainAttrs_list PySem.F.slot_list_count PySem.F.type_list_count (fun b e => by cases e; exact x.nodict hd) h
  | index =>
    obtain ⟨l, rfl, _⟩ := asL_of ok
    obtain ⟨l, vs, rfl, hl, hr⟩ := x.list hd
    exact getMethod_builtin hl.typeIs PySem.F.plainAttrs_list PySem.F.slot_list_index PySem.F.type_list_index (fun b e => by cases e; exact x.nodict hd) h
theorem bm_append_at {c : Addr} {e : D} {es : List D} {v : Value} (x : Rep G env L loc μ F R s) (h1 : RV G F e v) (he : μ.lookup c = some (.lst es)) (q : Fits (es.length + 1) ∧ Q .none (putMu μ c (.lst (es ++ [e])))) :
    wpAny (model G.prog G.w) A (call (.builtin "list.append") [.ref c, v]) (Post G env L loc F R Q) E s := by
  obtain ⟨vs, n, h3, h4⟩ := lookup_list x he
  have hlen : vs.size = es.length := h4.length
  have hz : vs.size ≤ sizeLine := by rw [hlen, sizeLine_eq]; have := q.1; unfold Fits at this; omega
  refine append_at h3 (fun h' hs ho' => ?_) hz
  have hnew : CellRep G F (.lst (es ++ [e])) (listOf (vs.push v) (n + 1)) := by
    refine ⟨_, _, rfl, ?_⟩
    rw [Array.toList_push]
    exact h4.append ⟨v, [], rfl, h1, rfl⟩
  exact ⟨.none, _, F, fun _ h => h, x.changed he h3 hs ho' hnew, rfl, q.2⟩
theorem list_obj {l : Addr} {vs : Array Value} (hl : s.heap.IsList l vs) : ∃ n dd sl, s.heap.get? l = some ⟨.type "list", dd, .seq vs n, sl⟩ := by
  obtain ⟨⟨cls, dd, data, sl⟩, ho, hc, n, hdt⟩ := hl
  simp only at hc hdt
  subst hc hdt
  exact ⟨n, dd, sl, ho⟩
theorem bm_count_at {es : List D} {bs : List Bool} {b : Bool} {a : Value} (x : Rep G env L loc μ F R s) (hd : RV G F (.lst es) a) (hb : boolsOf es = some bs) (q : Q (.int (bs.count b)) μ) :
    wpAny (model G.prog G.w) A (call (.builtin "list.count") [a, .bool b]) (Post G env L loc F R Q) E s := by
  obtain ⟨l, vs, rfl, hl, hr'⟩ := x.list hd
  obtain ⟨n, dd, sl, ho⟩ := list_obj hl
  obtain ⟨g1, g2, g3⟩ := bools_in hb hr'
  refine call_meets PySem.F.slot_list_count ⟨_, ho, rfl⟩ PySem.F.entry_list_count (PySem.F.args_list_count_2 _ _) (SeqAt.list_countAt l vs n dd sl (.bool _) (isBoolOf _)) ⟨ho, fun y hy => (g1 y (Array.mem_toList_iff.mpr hy)).at _ _, ?_⟩
  rw [g3]
  exact Post.here (x.toks _) (rv_int _ _) q
theorem bm_index_at {es : List D} {bs : List Bool} {b : Bool} {a : Value} (x : Rep G env L loc μ F R s) (hd : RV G F (.lst es) a) (hb : boolsOf es = some bs) (q1 : Fits bs.length) (q2 : b ∈ bs) (q : Q (.int (bs.idxOf b)) μ) :
    wpAny (model G.prog G.w) A (call (.builtin "list.index") [a, .bool b]) (Post G env L loc F R Q) E s := by
  obtain ⟨l, vs, rfl, hl, hr'⟩ := x.list hd
  obtain ⟨n, dd, sl, ho⟩ := list_obj hl
  obtain ⟨g1, g2, g3⟩ := bools_in (k := b) hb hr'
  have hn := bools_items hb hr'
  have hbl : bs.length = vs.size := by rw [← Array.length_toList, hn.1, List.length_map]
  have hj : bs.idxOf b < vs.size := by rw [← hbl]; exact List.idxOf_lt_length_iff.mpr q2
  have hget : ∀ m (hm : m < vs.size), isBoolOf b vs[m] = (bs[m]'(by omega) == b) := by
    intro m hm
    rw [hn.2 m hm (by omega)]
    rfl
  refine call_meets PySem.F.slot_list_index ⟨_, ho, rfl⟩ PySem.F.entry_list_index (PySem.F.args_list_index_2 _ _) (SeqAt.list_indexAt l vs n dd sl (.bool b) (isBoolOf b) (bs.idxOf b) hj ?_ ?_ ?_) ⟨ho, fun y hy => (g1 y (Array.mem_toList_iff.mpr hy)).at _ _, ?_⟩
  · unfold Fits at q1; omega
  · rw [hget _ hj]
    simp
  · intro m hm hlt
    rw [hget m hm]
    have := List.not_of_lt_findIdx (p := (· == b)) (xs := bs) hlt
    simpa using this
  · exact Post.here (x.toks _) (rv_int _ _) q
theorem call_bm {b : Bm} {d : D} {a : Value} {ds : List D} {vs : List Value} (x : Rep G env L loc μ F R s) (hd : RV G F d a) (hr : RVs G F ds vs) (q : bmS b d ds μ Q) :
    wpAny (model G.prog G.w) A (call (Bm.id d b) (a :: vs)) (Post G env L loc F R Q) E s := by
  cases b with
  | find =>
    obtain ⟨l, rfl, q1⟩ := asBy_of q
    obtain ⟨e, rfl, q2⟩ := arg1_of q1
    obtain ⟨k, rfl, q3⟩ := asBy_of q2
    obtain ⟨v, rfl, h1⟩ := rvs_one hr
    obtain ⟨⟨t, rfl⟩, h2⟩ := hd
    obtain ⟨⟨u, rfl⟩, h3⟩ := h1
    rcases k with _ | ⟨y, _ | ⟨y2, r⟩⟩
    · exact False.elim q3
    · exact call_meets slot_find (typeIs_bytes s _ t) entry_find (args_find _ _) (gives_find l h2 t u y (h3 y List.mem_cons_self)).meets (Post.here (x.toks _) (rv_int _ _) q3.2)
    · exact False.elim q3
  | append =>
    cases d with
    | cel c =>
      obtain rfl : a = .ref c := hd
      obtain ⟨e, rfl, q1⟩ := arg1_of (k := fun d => match μ.lookup c with
        | some (.lst es) => Fits (es.length + 1) ∧ Q .none (putMu μ c (.lst (es ++ [d])))
        | _ => False) q
      obtain ⟨v, rfl, h1⟩ := rvs_one hr
      cases he : μ.lookup c with
      | none => rw [he] at q1; exact q1.elim
      | some o =>
        rw [he] at q1
        cases o with
        | lst es => exact bm_append_at x h1 he q1
        | inst => exact q1.elim
    | _ => exact False.elim q
  | count =>
    obtain ⟨l, rfl, q1⟩ := asL_of q
    obtain ⟨e, rfl, q2⟩ := arg1_of q1
    obtain ⟨k, rfl, q3⟩ := asB_of q2
    obtain ⟨bs, hb, q4⟩ := optQ_of q3
    obtain ⟨v, rfl, h1⟩ := rvs_one hr
    obtain rfl : v = .bool k := h1
    exact bm_count_at x hd hb q4.2
  | index =>
    obtain ⟨l, rfl, q1⟩ := asL_of q
    obtain ⟨e, rfl, q2⟩ := arg1_of q1
    obtain ⟨k, rfl, q3⟩ := asB_of q2
    obtain ⟨bs, hb, q4⟩ := optQ_of q3
    obtain ⟨v, rfl, h1⟩ := rvs_one hr
    obtain rfl : v = .bool k := h1
    exact bm_index_at x hd hb q4.1 q4.2.1 q4.2.2
end
/-- an exception on its way -/
inductive Trail (G : Gx) (x : Addr) (vs : Array Value) (hp : Heap) : Prop where
  | mk (T : Addr) (oT : Obj) (ts : Array Value) (fl : Value) (h1 : vs[1]? = some (.ref T)) (h2 : G.base.get? T = none) (h3 : T ≠ x) (h4 : hp.get? T = some oT) (h5 : oT.data = .fields ts) (h6 : ts[3]? = some fl)
inductive Fly (G : Gx) (stk : List Env) (e : Value) (s : Shared) : Prop where
  | mk (x : Addr) (oe : Obj) (vs : Array Value) (h1 : e = .ref x) (h2 : G.base.StaysIn s.heap) (h3 : G.base.get? x = none) (h4 : s.heap.FunFrames G.base stk) (h5 : s.heap.get? x = some oe) (h6 : oe.cls = .ref G.X) (h7 : oe.data = .fields vs)
    (h8 : vs[1]? = some .none ∨ Trail G x vs s.heap) (h9 : Same G s)
/-- every frame of the stack stands in the ledger -/
noncomputable def StkIn (R : Led) (stk : List Env) : Prop := ∀ e ∈ stk, e.scope.kind ≠ .module ∧ ∃ L o, e.frame = some L ∧ (L, o) ∈ R ∧ ∀ vs, o.data ≠ .fields vs
/-- what a call may be asked under -/
structure Room (A : Around) (stk : List Env) (n : Nat) : Prop where
  hand : A.handled = none
  guards : A.guards = some []
  frames : A.frames = some stk
  depth : A.depth + 2 * n + 8 < recursionLimit
  units : A.units + 32 * n + 80 < cLine
inductive PostH (G : Gx) (F R : Led) (Q : D → Mu → Prop) (v : Value) (s' : Shared) : Prop where
  | mk (d : D) (μ' : Mu) (F' : Led) (h1 : ∀ p ∈ F, p ∈ F') (h2 : HRep G μ' F' R s') (h3 : RV G F' d v) (h4 : Q d μ')
/-- the contract of a def -/
noncomputable def FS (G : Gx) (n f : Nat) (ds : List D) (μ : Mu) (Q : D → Mu → Prop) (X : Prop) : Prop :=
  ∀ (A : Around) (stk : List Env) (F R : Led) (s : Shared) (vs : List Value), Room A stk n → StkIn R stk → HRep G μ F R s → RVs G F ds vs →
    wpAny (model G.prog G.w) A (call (.ref f) vs) (PostH G F R Q) (fun e s' => X ∧ Fly G stk e s') s
/-- the contract of the making of a Matcher -/
noncomputable def MK (G : Gx) (n : Nat) (ds : List D) (μ : Mu) (Q : D → Mu → Prop) (X : Prop) : Prop :=
  ∀ (A : Around) (stk : List Env) (F R : Led) (s : Shared) (vs : List Value), Room A stk n → StkIn R stk → HRep G μ F R s → RVs G F ds vs →
    wpAny (model G.prog G.w) A (call (.ref G.C) vs) (PostH G F R Q) (fun e s' => X ∧ Fly G stk e s') s
/-- where an expression is evaluated -/
structure Cx where
  A : Around
  env : Env
  L : Addr
  stk : List Env
  R : Led
  n : Nat
  sc : Scope
noncomputable def storeOk1 (sc : Scope) (i : Nat) (x : Str) : Bool := match sc.names[i]? with | some (y, k) => y == x && (k == .local || k == .cell) | none => false
noncomputable def isGlobal (sc : Scope) (x : Str) : Bool := sc.names.lookup x == some .globalImplicit && !(x == ("__debug__" : Str))
noncomputable def slotOk (sc : Scope) (i : Nat) (x : Str) : Bool := (match sc.names[i]? with | some (y, k) => y == x && (k == .local || k == .cell || k == .free) | none => false) && !(x == ("__debug__" : Str)) && !(x == ("__classdict__" : Str))
/-- the kind that the context's own table names, and the kind that the frame's names -/
noncomputable def kindGoes (k : NameKind) (o : Option NameKind) : Prop := match k with
  | .local => o = some .local
  | .cell => o = some .cell
  | .free => o = some .cell ∨ o = some .free
  | _ => True
structure Cx.Ok (c : Cx) : Prop where
  room : Room c.A c.stk c.n
  kind : c.env.scope.kind = .function
  glob : c.env.globals = mainGlobals
  blt : c.env.builtins = builtinsNs
  loc : c.env.locals = c.L
  nodup : (c.sc.names.map (·.1)).Nodup
  kinds : ∀ (i : Nat) (x : Str) (k : NameKind), c.sc.names[i]? = some (x, k) → kindGoes k (c.env.kindOf x)
  globs : ∀ x, c.sc.names.lookup x = some .globalImplicit → c.env.scope.names.lookup x = some .globalImplicit
  inj : ∀ x y a, (x, NameKind.cell) ∈ c.sc.names → (y, NameKind.cell) ∈ c.sc.names → c.env.cells.lookup x = some a → c.env.cells.lookup y = some a → x = y
  own : ∀ e ∈ c.stk, e.scope.kind ≠ .module ∧ ∃ L, e.frame = some L ∧ (L = c.L ∨ ∃ o, (L, o) ∈ c.R ∧ ∀ vs, o.data ≠ .fields vs)
/-- the frame's names as the context's own table has them -/
noncomputable abbrev Cx.renv (c : Cx) : Env := { c.env with scope := c.sc }
noncomputable abbrev Cx.Rep (G : Gx) (c : Cx) (loc : Loc) (μ : Mu) (F : Led) (s : Shared) : Prop := Mine.Rep G c.renv c.L loc μ F c.R s
noncomputable abbrev Cx.Post (G : Gx) (c : Cx) (loc : Loc) (F : Led) (Q : D → Mu → Prop) : Value → Shared → Prop := Mine.Post G c.renv c.L loc F c.R Q
noncomputable abbrev Cx.Ex (G : Gx) (c : Cx) (X : Prop) : Value → Shared → Prop := fun e s' => X ∧ Fly G c.stk e s'
noncomputable abbrev Cx.wp (G : Gx) (c : Cx) {α : Type} (t : Sem α) (Q : α → Shared → Prop) (X : Prop) (s : Shared) : Prop := wpAny (model G.prog G.w) c.A t Q (c.Ex G X) s
/-- values handed on -/
inductive PostS (G : Gx) (c : Cx) (loc : Loc) (F : Led) (Q : List D → Mu → Prop) (vs : List Value) (s' : Shared) : Prop where
  | mk (ds : List D) (μ' : Mu) (F' : Led) (h1 : ∀ p ∈ F, p ∈ F') (h2 : c.Rep G loc μ' F' s') (h3 : RVs G F' ds vs) (h4 : Q ds μ')
/-- a test's bool handed on -/
inductive PostB (G : Gx) (c : Cx) (loc : Loc) (F : Led) (Q : Bool → Mu → Prop) (b : Bool) (s' : Shared) : Prop where
  | mk (μ' : Mu) (F' : Led) (h1 : ∀ p ∈ F, p ∈ F') (h2 : c.Rep G loc μ' F' s') (h3 : Q b μ')
section
variable {G : Gx} {c : Cx} {loc : Loc} {μ : Mu} {F : Led} {s : Shared} {Q : D → Mu → Prop} {X : Prop}
theorem Room.mono {A stk n m} (h : Room A stk m) (hn : n ≤ m) : Room A stk n := ⟨h.hand, h.guards, h.frames, by have := h.depth; omega, by have := h.units; omega⟩
theorem FS.mono {n m f ds μ} (hn : n ≤ m) (h : FS G n f ds μ Q X) : FS G m f ds μ Q X := fun A stk F R s vs r => h A stk F R s vs (r.mono hn)
/-- into a callee and back -/
theorem Cx.callee (ok : c.Ok) {ds : List D} {vs : List Value} {f : Value} (x : c.Rep G loc μ F s) (hr : RVs G F ds vs)
    (h : ∀ (R : Led), StkIn R c.stk → HRep G μ F R s → wpAny (model G.prog G.w) c.A (call f vs) (PostH G F R Q) (fun e s' => X ∧ Fly G c.stk e s') s) :
    c.wp G (call f vs) (c.Post G loc F Q) X s := by
  obtain ⟨m, oL, es, ep, clo, Fm, ho, hd, hk, hf, hl, H⟩ := x.toH
  refine wpAny_mono (h _ ?_ H) ?_ fun _ _ e => e
  · intro e he
    obtain ⟨h1, L, h2, h3⟩ := ok.own e he
    refine ⟨h1, L, ?_⟩
    rcases h3 with rfl | ⟨o, h3, h4⟩
    · exact ⟨oL, h2, List.mem_cons_self, fun vs q => by rw [hd] at q; cases q⟩
    · exact ⟨o, h2, List.mem_cons_of_mem _ (List.mem_append_right _ h3), h4⟩
  · rintro v s' ⟨d, μ', F', h1, h2, h3, h4⟩
    exact ⟨d, μ', F', h1, h2.toRep G Fm.above hd hk hf (hl.mono G h1), h3, h4⟩
theorem star_one (e : E) (r : List Expr) (env : Env) : starEach (e.ast :: r) env = (false, eval e.ast env) :: starEach r env := by
  cases e <;> rfl
theorem stars_plain (env : Env) (pos : Pos) : ∀ es : Es, (backTo pos (starEach es.ast env)).any (·.1) = false
  | .nil => rfl
  | .cons e r => by
    simp only [Es.ast]
    rw [star_one]
    have ih := stars_plain env pos r
    simp only [backTo, List.map_cons, List.any_cons] at ih ⊢
    rw [ih]
    rfl
end
noncomputable def isVar : E → Bool
  | .var _ _ _ => true
  | _ => false
/-- no call by a bare name: the model looks at those apart -/
noncomputable def plainO : E → Bool
  | .call .. | .make .. | .bi .. => false
  | _ => true
theorem no_tt {p : Prop} (h : false = true) : p := nomatch h
theorem isVar_of {e : E} (h : isVar e = true) : ∃ i y p, e = .var i y p := by
  cases e with
  | var i y p => exact ⟨i, y, p, rfl⟩
  | _ => exact no_tt h
noncomputable def Es.len : Es → Nat
  | .nil => 0
  | .cons _ r => r.len + 1
noncomputable def knownOk (K : Frag) : Bool := match nsIn K mainGlobals "_law_known" with
  | some (some (.ref a)) => (match K.lookup a with
    | some ⟨.type t, none, .seq vs _, _⟩ => t == "list" && (vs.toList.map fun v => match v with | .int i _ => i | _ => -1) == knownL && vs.toList.all fun v => match v with | .int _ _ => true | _ => false
    | _ => false)
  | _ => false
section
variable {G : Gx} {c : Cx} {loc : Loc} {μ : Mu} {F : Led} {s : Shared} {Q : D → Mu → Prop} {X : Prop}
theorem lookup_of_nodup {α β : Type} [BEq α] [LawfulBEq α] : ∀ {l : List (α × β)} {i : Nat} {x : α} {k : β}, (l.map (·.1)).Nodup → l[i]? = some (x, k) → l.lookup x = some k
  | [], _, _, _, _, h => by cases h
  | (y, k') :: l, i, x, k, nd, h => by
    rw [List.map_cons] at nd
    obtain ⟨n1, n2⟩ := List.nodup_cons.mp nd
    cases i with
    | zero => simp only [List.getElem?_cons_zero, Option.some.injEq, Prod.mk.injEq] at h; obtain ⟨rfl, rfl⟩ := h; rw [List.lookup_cons, beq_self_eq_true]
    | succ i =>
      simp only [List.getElem?_cons_succ] at h
      have hm := List.mem_map_of_mem (f := fun p : α × β => p.1) (List.mem_of_getElem? h)
      have hne : x ≠ y := by rintro rfl; exact n1 hm
      rw [List.lookup_cons, beq_false_of_ne hne]
      exact lookup_of_nodup n2 h
/-- a name of the frame's own -/
theorem load_sound (ok : c.Ok) {i : Nat} {x : Str} {d : D} (r : c.Rep G loc μ F s) (w : slotOk c.sc i x = true) (hd : loc[i]? = some (some d)) {Qv : Value → Shared → Prop} {E : Value → Shared → Prop} (q : ∀ v, RV G F d v → Qv v s) :
    wpAny (model G.prog G.w) c.A (loadName c.env x) Qv E s := by
  unfold slotOk at w
  simp only [Bool.and_eq_true, Bool.not_eq_true'] at w
  obtain ⟨⟨w1, w2⟩, w3⟩ := w
  split at w1
  · rename_i y k hk
    simp only [Bool.and_eq_true, Bool.or_eq_true, beq_iff_eq] at w1
    obtain ⟨rfl, w1⟩ := w1
    obtain ⟨⟨m, cs, clo, Fm, N, nd, hc, hl⟩, hs⟩ := id r
    have hl' := hl.2 i y k _ hk hd
    have hkind := ok.kinds i y k hk
    rcases w1 with (rfl | rfl) | rfl
    · obtain ⟨v, h1, h2⟩ := hl'.l d rfl
      exact wpAny_loadName_local ok.kind hkind (by rw [ok.loc]; exact Fm.ns) h1 (q v h2)
    · obtain ⟨a, o, w, h1, h2, h3, h4⟩ := hl'.c
      obtain ⟨v, rfl, h5⟩ := h4 d rfl
      exact wpAny_loadName_cell ok.kind hkind h1 ⟨o, (N (a, o) (by simp [h2])).1, h3⟩ (q v h5)
    · obtain ⟨a, o, w, h1, h2, h3, h4⟩ := hl'.f
      obtain ⟨v, rfl, h5⟩ := h4 d rfl
      rcases hkind with hkind | hkind
      · exact wpAny_loadName_cell ok.kind hkind h1 ⟨o, (N (a, o) (by simp [h2])).1, h3⟩ (q v h5)
      · exact wpAny_loadName_free ok.kind hkind h1 ⟨o, (N (a, o) (by simp [h2])).1, h3⟩ (q v h5) w3
  · cases w1
theorem var_sound (ok : c.Ok) {i : Nat} {x : Str} {p : Pos} {d : D} (r : c.Rep G loc μ F s) (w : slotOk c.sc i x = true) (hd : loc[i]? = some (some d)) (q : Q d μ) :
    c.wp G (eval (.Name x p) c.env) (c.Post G loc F Q) X s := by
  refine wpAny_Name (load_sound ok r w hd fun v hv => Post.here r hv q) ?_
  unfold slotOk at w
  simp only [Bool.and_eq_true, Bool.not_eq_true'] at w
  exact w.1.2
/-- a name of the module -/
theorem glob_name (ok : c.Ok) {x : Str} {p : Pos} {v : Value} (r : c.Rep G loc μ F s) (w : isGlobal c.sc x = true) (hv : nsIn G.K mainGlobals x = some (some v)) {Qv : Value → Shared → Prop} {E : Value → Shared → Prop} (q : Qv v s) :
    wpAny (model G.prog G.w) c.A (eval (.Name x p) c.env) Qv E s := by
  unfold isGlobal at w
  simp only [Bool.and_eq_true, Bool.not_eq_true', beq_iff_eq] at w
  replace w := And.intro (ok.globs _ w.1) w.2
  obtain ⟨m, Fm⟩ := r.view
  refine Name_function_global ok.kind w.1 (loadGlobal_global (by rw [ok.glob]; exact G.T.g.keeps Fm.keep) (mg_of G.KX G.T.g hv) q) w.2
/-- a name of the interpreter -/
theorem boot_name (ok : c.Ok) {x : Str} {p : Pos} {v : Value} (r : c.Rep G loc μ F s) (w : isGlobal c.sc x = true) (hv : nsIn G.K mainGlobals x = some none) (hb : bootBuiltins x = some v) (hn : x ≠ "__name__")
    {Qv : Value → Shared → Prop} {E : Value → Shared → Prop} (q : Qv v s) : wpAny (model G.prog G.w) c.A (eval (.Name x p) c.env) Qv E s := by
  unfold isGlobal at w
  simp only [Bool.and_eq_true, Bool.not_eq_true', beq_iff_eq] at w
  replace w := And.intro (ok.globs _ w.1) w.2
  obtain ⟨m, Fm⟩ := r.view
  exact Name_function_global ok.kind w.1 (loadGlobal_builtin (by rw [ok.glob]; exact G.T.g.keeps Fm.keep) (mg_none_of G.KX G.T.g hv) (by rw [ok.blt]; exact G.T.b.keeps Fm.keep) ((G.T.builtins x hn).trans hb) q) w.2
theorem bi_boot : ∀ b : Bi, bootBuiltins b.name = some b.val ∧ b.name ≠ ("__name__" : Str)
  | .len => ⟨by kernel_rfl, by decide +kernel⟩
  | .range => ⟨by kernel_rfl, by decide +kernel⟩
  | .sum => ⟨by kernel_rfl, by decide +kernel⟩
  | .abs => ⟨by kernel_rfl, by decide +kernel⟩
  | .bytes => ⟨by kernel_rfl, by decide +kernel⟩
  | .list => ⟨by kernel_rfl, by decide +kernel⟩
  | .int => ⟨by kernel_rfl, by decide +kernel⟩
  | .repr => ⟨by kernel_rfl, by decide +kernel⟩
end
/-- an exception with its trail, in flight at a frame -/
inductive FlyAt (G : Gx) (stk : List Env) (e fl : Value) (s : Shared) : Prop where
  | mk (x : Addr) (a0 : Value) (h1 : e = .ref x) (h2 : G.base.StaysIn s.heap) (h3 : G.base.get? x = none) (h4 : s.heap.FunFrames G.base stk) (h5 : s.heap.TracedAtW G.base x (.ref G.X) a0 fl) (h6 : Same G s)
inductive Fly0 (G : Gx) (stk : List Env) (e : Value) (s : Shared) : Prop where
  | mk (a : Addr) (oe : Obj) (vs : Array Value) (h1 : e = .ref a) (h2 : G.base.StaysIn s.heap) (h3 : G.base.get? a = none) (h4 : s.heap.FunFrames G.base stk) (h5 : s.heap.get? a = some oe) (h6 : oe.cls = .ref G.X) (h7 : oe.data = .fields vs) (h8 : vs[1]? = some .none) (h9 : Same G s)
theorem FlyAt.fly {G : Gx} {stk e fl s} (x : FlyAt G stk e fl s) : Fly G stk e s := by
  obtain ⟨x, a0, rfl, h1, h2, h3, ⟨oe, vs, T, oT, ts, g1, g2, g3, g4, g5, g6, g7, g8, g9⟩, h5⟩ := x
  exact ⟨x, oe, vs, rfl, h1, h2, h3, g1, g2.1, g3, .inr ⟨T, oT, ts, fl, g4, g5, g6, g7, g8, g9⟩, h5⟩
theorem Fly.cases {G : Gx} {stk e s} (x : Fly G stk e s) : Fly0 G stk e s ∨ ∃ fl, FlyAt G stk e fl s := by
  obtain ⟨x, oe, vs, rfl, h1, h2, h3, g1, g2, g3, g4, h5⟩ := x
  rcases g4 with g4 | ⟨T, oT, ts, fl, g4, g5, g6, g7, g8, g9⟩
  · exact .inl ⟨x, oe, vs, rfl, h1, h2, h3, g1, g2, g3, g4, h5⟩
  · have hsz : 0 < vs.size := by
      have := (Array.getElem?_eq_some_iff.mp g4).1
      omega
    exact .inr ⟨fl, x, vs[0], rfl, h1, h2, h3, ⟨oe, vs, T, oT, ts, g1, ⟨g2, by simp [hsz]⟩, g3, g4, g5, g6, g7, g8, g9⟩, h5⟩
theorem FlyAt.outer {G : Gx} {env outer e fl s} (x : FlyAt G (env :: outer) e fl s) : FlyAt G outer e fl s := by
  obtain ⟨x, a0, rfl, h1, h2, ⟨_, _, h3⟩, h4, h5⟩ := x
  exact ⟨x, a0, rfl, h1, h2, h3, h4, h5⟩
section
variable {G : Gx} {A : Around} {env : Env} {outer : List Env} {L : Addr} {e fl : Value} {s : Shared} {Q : Unit → Shared → Prop} {E : Value → Shared → Prop}
theorem Same.heap {G : Gx} {s : Shared} {h' : Heap} (x : Same G s) : Same G { s with heap := h' } := ⟨x.gens, x.drawn, x.os⟩
theorem FlyAt.noted {M : Model} (hfr : A.frames = some (env :: outer)) (hf : env.frame = some L) (x : FlyAt G (env :: outer) e fl s) (h : ∀ s', FlyAt G (env :: outer) e (rawInt L) s' → Q () s') :
    wpAny M A (noteFrame e env) Q E s := by
  obtain ⟨x, a0, rfl, h1, h2, h3, h4, h5⟩ := x
  by_cases hfl : fl = rawInt L
  · subst hfl
    exact wpAny_noteFrame_againW hf h4 (h s ⟨x, a0, rfl, h1, h2, h3, h4, h5⟩)
  obtain ⟨oe, vs, T, oT, ts, he, ⟨hcls, h0⟩, hd, g1, hnT, hTe, hT, hdT, g3⟩ := h4
  unfold noteFrame
  simp only [hf]
  refine wpAny_bind (wpAny_field he hd g1 ?_)
  rw [if_pos (show (Value.ref T != Value.none) = true from by simp)]
  refine wpAny_bind (wpAny_field hT hdT g3 ?_)
  rw [if_neg (show ¬ ((fl == rawInt L) = true) from by simpa using hfl)]
  refine wpAny_bind (wpAny_setField hT hdT (Array.getElem?_eq_some_iff.mp g3).1 ?_)
  have other : ∀ b, b ≠ T → (s.heap.update T (Obj.mapFields (·.setIfInBounds 3 Value.none))).get? b = s.heap.get? b := fun b hb => Heap.get?_update_other _ _ (Ne.symm hb)
  have noRecord : ∀ b o, s.heap.get? b = some o → (∀ vs, o.data ≠ .fields vs) → b ≠ T := fun b o hb hnf q => by
    rw [q, hT] at hb; injection hb with hb; subst hb; exact hnf ts hdT
  refine wpAny_entryW hfr (h3.of_keeps fun b o hb hnf => ⟨o, (other b (noRecord b o hb hnf)).trans hb, rfl⟩) hf ((other x (Ne.symm hTe)).trans he)
    (fun b o hbo => (other b fun q => by rw [q, hnT] at hbo; cases hbo).trans (h1 b o hbo)) h2 hd (Array.getElem?_eq_some_iff.mp g1).1 h0
    fun h' ⟨x1, x2, x3, x4⟩ => h _ ⟨x, a0, rfl, x1, h2, x2, hcls ▸ x3, ⟨h5.gens, h5.drawn, h5.os⟩⟩
theorem Fly.noted {M : Model} (hfr : A.frames = some (env :: outer)) (hf : env.frame = some L) (x : Fly G (env :: outer) e s) (h : ∀ s', FlyAt G (env :: outer) e (rawInt L) s' → Q () s') :
    wpAny M A (noteFrame e env) Q E s := by
  rcases x.cases with ⟨a, oe, vs, rfl, h1, h2, h3, he, hc, hd, g1, h5⟩ | ⟨fl, x⟩
  · have hsz : 1 < vs.size := (Array.getElem?_eq_some_iff.mp g1).1
    unfold noteFrame
    simp only [hf]
    refine wpAny_bind (wpAny_field he hd g1 ?_)
    rw [if_neg (by decide)]
    refine wpAny_entryW (a0 := vs[0]) hfr h3 hf he h1 h2 hd hsz (by simp) fun h' ⟨x1, x2, x3, x4⟩ => h _ ⟨a, _, rfl, x1, h2, x2, hc ▸ x3, ⟨h5.gens, h5.drawn, h5.os⟩⟩
  · exact x.noted hfr hf h
theorem FlyAt.flight {M : Model} {stk : List Env} (f : Option Addr) (x : FlyAt G stk e fl s) (h : ∀ s', FlyAt G stk e (f.elim Value.none fun f => rawInt f) s' → Q () s') : wpAny M A (setFlight e f) Q E s := by
  obtain ⟨x, a0, rfl, h1, h2, h3, ⟨oe, vs, T, oT, ts, he, hcls, hd, g1, hnT, hTe, hT, hdT, g3⟩, h5⟩ := x
  have hsz3 : 3 < ts.size := (Array.getElem?_eq_some_iff.mp g3).1
  have other : ∀ b, b ≠ T → (s.heap.update T (Obj.mapFields (·.setIfInBounds 3 (f.elim Value.none fun f => rawInt f)))).get? b = s.heap.get? b :=
    fun b hb => Heap.get?_update_other _ _ (Ne.symm hb)
  have noRecord : ∀ b o, s.heap.get? b = some o → (∀ vs, o.data ≠ .fields vs) → b ≠ T := fun b o hb hnf q => by
    rw [q, hT] at hb; injection hb with hb; subst hb; exact hnf ts hdT
  unfold setFlight
  refine wpAny_bind (wpAny_field he hd g1 ?_)
  rw [if_pos (show (Value.ref T != Value.none) = true from by simp)]
  refine wpAny_setField hT hdT hsz3 (h _ ⟨x, a0, rfl, fun b o hbo => (other b fun q => by rw [q, hnT] at hbo; cases hbo).trans (h1 b o hbo), h2,
    h3.of_keeps fun b o hb hnf => ⟨o, (other b (noRecord b o hb hnf)).trans hb, rfl⟩, ?_, h5.heap⟩)
  exact ⟨oe, vs, T, _, _, (other x (Ne.symm hTe)).trans he, hcls, hd, g1, hnT, hTe, Heap.get?_update_self _ hT (Obj.isFreed_of_fields (Obj.data_mapFields hdT _)), Obj.data_mapFields hdT _, by simp [hsz3]⟩
/-- out of a def's frame -/
theorem Fly.leaves {M : Model} (hfr : A.frames = some (env :: outer)) (hf : env.frame = some L) (x : Fly G (env :: outer) e s) (h : ∀ s', Fly G outer e s' → Q () s') : wpAny M A (leaving env e) Q E s := by
  unfold leaving
  exact wpAny_bind (x.noted hfr hf fun s' y => y.flight none fun s'' z => h s'' z.outer.fly)
/-- out of a loop -/
theorem Fly.loop {M : Model} {E : Value → Shared → Prop} (hfr : A.frames = some (env :: outer)) (hf : env.frame = some L) (x : Fly G (env :: outer) e s) (h : ∀ s', Fly G (env :: outer) e s' → E e s') :
    notedBy M A env (fun e s' => cameBackBy M A env E e s') e s := by
  refine x.noted hfr hf fun s' y => ?_
  unfold cameBackBy
  obtain ⟨x, a0, rfl, h1, h2, h3, ⟨oe, vs, T, oT, ts, he, hcls, hd, g1, r⟩, h5⟩ := id y
  refine wpAny_bind (wpAny_field he hd g1 ?_)
  rw [if_neg (show ¬ ((Value.ref T == Value.none) = true) from Bool.false_ne_true)]
  exact y.flight _ fun s'' z => h s'' z.fly
end
section
variable {G : Gx} {c : Cx} {loc : Loc} {μ : Mu} {F : Led} {s : Shared}
theorem names_inj {l : List (Str × NameKind)} (nd : (l.map (·.1)).Nodup) {i j : Nat} {x : Str} {k k' : NameKind} (h1 : l[i]? = some (x, k)) (h2 : l[j]? = some (x, k')) : i = j := by
  have a : (l.map (·.1))[i]? = some x := by simp [h1]
  have b : (l.map (·.1))[j]? = some x := by simp [h2]
  obtain ⟨hi, ei⟩ := List.getElem?_eq_some_iff.mp a
  obtain ⟨hj, ej⟩ := List.getElem?_eq_some_iff.mp b
  exact (List.getElem_inj nd).mp (ei.trans ej.symm)
theorem mem_other {a b : Addr} {o o1 o2 : Obj} {pre post : Led} (h : (b, o) ∈ pre ++ (a, o1) :: post) (hne : b ≠ a) : (b, o) ∈ pre ++ (a, o2) :: post := by
  rcases List.mem_append.mp h with h | h
  · exact List.mem_append_left _ h
  · rcases List.mem_cons.mp h with h | h
    · exact absurd (congrArg Prod.fst h) hne
    · exact List.mem_append_right _ (List.mem_cons_of_mem _ h)
theorem storeOk1_of {sc : Scope} {i : Nat} {x : Str} (w : storeOk1 sc i x = true) : ∃ k, sc.names[i]? = some (x, k) ∧ (k = .local ∨ k = .cell) := by
  unfold storeOk1 at w
  cases hq : sc.names[i]? with
  | none => rw [hq] at w; cases w
  | some p =>
    rw [hq] at w
    obtain ⟨w1, w2⟩ := Bool.and_eq_true_iff.mp w
    exact ⟨p.2, by rw [← eq_of_beq w1], (Bool.or_eq_true_iff.mp w2).imp eq_of_beq eq_of_beq⟩
/-- a name stored -/
theorem store_sound (ok : c.Ok) {i : Nat} {x : Str} {d : D} {v : Value} (r : c.Rep G loc μ F s) (w : storeOk1 c.sc i x = true) (hv : RV G F d v) {Q : Unit → Shared → Prop} {E : Value → Shared → Prop}
    (q : ∀ s', c.Rep G (loc.set i (some d)) μ F s' → Q () s') : wpAny (model G.prog G.w) c.A (storeName c.env x v) Q E s := by
  obtain ⟨k, hk, w⟩ := storeOk1_of w
  obtain ⟨⟨m, cs, clo, Fm, N, nd, hc, hl⟩, hs⟩ := id r
  have hkind := ok.kinds i x k hk
  have hp : (c.env.scope.kind == .class || (c.env.scope.kind == .module && c.env.locals != c.env.globals)) = false := by rw [ok.kind]; rfl
  have hlen : (loc.set i (some d)).length = c.sc.names.length := by rw [List.length_set]; exact hl.1
  have other : ∀ {j : Nat} {z : Str} {k' : NameKind} {o : Option D}, c.sc.names[j]? = some (z, k') → (loc.set i (some d))[j]? = some o → z ≠ x → loc[j]? = some o := by
    intro j z k' o h1 h2 hz
    rw [List.getElem?_set_ne] at h2
    · exact h2
    · rintro rfl
      rw [hk] at h1
      simp only [Option.some.injEq, Prod.mk.injEq] at h1
      exact hz h1.1.symm
  have self : ∀ {j : Nat} {k' : NameKind} {o : Option D}, c.sc.names[j]? = some (x, k') → (loc.set i (some d))[j]? = some o → k' = k ∧ o = some d := by
    intro j k' o h1 h2
    have e := names_inj ok.nodup hk h1
    subst e
    rw [hk] at h1
    simp only [Option.some.injEq, Prod.mk.injEq, true_and] at h1
    have hi : i < loc.length := by rw [hl.1]; exact (List.getElem?_eq_some_iff.mp hk).1
    rw [List.getElem?_set_self hi] at h2
    exact ⟨h1.symm, (Option.some.inj h2).symm⟩
  rcases w with rfl | rfl
  · refine wpAny_storeName_local hkind (by rw [ok.loc]; exact Fm.ns) (fun h' hn hb => ?_) hp
    rw [ok.loc] at hn hb
    refine q _ ⟨⟨_, cs, clo, Fm.set hn hb, N.set hb, nd, hc, hlen, fun j z k' o h1 h2 => ?_⟩, ⟨hs.gens, hs.drawn, hs.os⟩⟩
    by_cases hz : z = x
    · subst hz
      obtain ⟨rfl, rfl⟩ := self h1 h2
      exact .loc rfl fun d' e => ⟨v, if_pos rfl, Option.some.inj e ▸ hv⟩
    · exact (hl.2 j z k' o h1 (other h1 h2 hz)).imp (fun q => by rw [if_neg hz]; exact q) (fun _ => id) id id
  · have hi : i < loc.length := by rw [hl.1]; exact (List.getElem?_eq_some_iff.mp hk).1
    obtain ⟨a, ob, w, h1, h2, h3, h4⟩ := (hl.2 i x .cell loc[i] hk (List.getElem?_eq_getElem hi)).c
    obtain ⟨pre, post, rfl⟩ := List.append_of_mem h2
    have hm := N (a, ob) (by simp)
    refine wpAny_storeName_cell ok.kind hkind h1 ⟨ob, hm.1, h3⟩ fun h' hv' hb => ?_
    obtain ⟨ob', ho', hd'⟩ := hv'
    have e0 : cs ++ (F ++ ((pre ++ (a, ob) :: post) ++ c.R)) = (cs ++ (F ++ pre)) ++ (a, ob) :: (post ++ c.R) := by simp
    have e1 : cs ++ (F ++ ((pre ++ (a, ob') :: post) ++ c.R)) = (cs ++ (F ++ pre)) ++ (a, ob') :: (post ++ c.R) := by simp
    rw [e0] at N nd
    have nd' := nd
    rw [List.map_append, List.map_cons, nodup_mid] at nd'
    have hn0 := (List.nodup_cons.mp nd').1
    have n1 : ∀ p ∈ cs ++ (F ++ pre), p.1 ≠ a := by
      rintro p hp rfl
      have q := List.mem_map_of_mem (f := fun p : Addr × Obj => p.1) hp
      exact hn0 (List.mem_append_left _ q)
    have n2 : ∀ p ∈ post ++ c.R, p.1 ≠ a := by
      rintro p hp rfl
      have q := List.mem_map_of_mem (f := fun p : Addr × Obj => p.1) hp
      exact hn0 (List.mem_append_right _ q)
    refine q _ ⟨⟨m, cs, pre ++ (a, ob') :: post, Fm.change hb hm.2.1 hm.2.2, ?_, ?_, hc, hlen, fun j z k' o g1 g2 => ?_⟩, ⟨hs.gens, hs.drawn, hs.os⟩⟩
    · rw [e1]; exact news_set N n1 n2 hb ho'
    · rw [e1]; simpa using nd
    · by_cases hz : z = x
      · subst hz
        obtain ⟨rfl, rfl⟩ := self g1 g2
        exact .cell rfl ⟨a, ob', some v, h1, List.mem_append_right _ List.mem_cons_self, hd', fun d' e => ⟨v, rfl, Option.some.inj e ▸ hv⟩⟩
      · exact (hl.2 j z k' o g1 (other g1 g2 hz)).imp id (fun e0 q => q.imp (fun a' ob2 w2 f1 f2 _ => mem_other f2 fun e => hz (ok.inj z x a (List.mem_of_getElem? (e0 ▸ g1)) (List.mem_of_getElem? hk) (e ▸ f1) h1)) fun _ => id) id id
noncomputable def setAll (ts : List (Nat × Str × Pos)) (ds : List D) (l : Loc) : Loc := match ts with
  | [] => l
  | t :: ts => match ds with
    | [] => l
    | d :: ds => setAll ts ds (l.set t.1 (some d))
theorem bindT_setAll {ts : List (Nat × Str × Pos)} : ∀ {ds : List D} {l l' : Loc}, bindT ts ds l = some l' → ts.length = ds.length ∧ l' = setAll ts ds l := by
  induction ts with
  | nil =>
    intro ds l l' h
    cases ds with
    | nil => exact ⟨rfl, (Option.some.inj h).symm⟩
    | cons => exact no_some h
  | cons t ts ih =>
    intro ds l l' h
    cases ds with
    | nil => exact no_some h
    | cons d ds =>
      have h : bindT ts ds (setV l t.1 (some d)) = some l' := h
      rw [setV_eq] at h
      obtain ⟨h1, h2⟩ := ih h
      exact ⟨congrArg (· + 1) h1, h2⟩
theorem bindO_tup {kp : Nat × Pos} {ts : List (Nat × Str × Pos)} {d : D} {l l' : Loc} (h : bindO (some kp) ts d l = some l') : ∃ ds, d = .tup ds ∧ bindT ts ds l = some l' := by
  cases d with
  | tup ds => exact ⟨ds, rfl, h⟩
  | _ => exact no_some h
theorem setAll_set {i : Nat} {o : Option D} {ts : List (Nat × Str × Pos)} : ∀ {ds : List D} {l : Loc}, i ∉ ts.map (·.1) → setAll ts ds (l.set i o) = (setAll ts ds l).set i o := by
  induction ts with
  | nil => intro ds l _; rfl
  | cons t ts ih =>
    intro ds l h
    cases ds with
    | nil => rfl
    | cons d ds => exact (congrArg (setAll ts ds) (List.set_comm _ _ fun e : i = t.1 => h (List.mem_cons.mpr (.inl e)))).trans (ih fun q => h (List.mem_cons_of_mem _ q))
theorem setAll_append {us : List (Nat × Str × Pos)} {es : List D} {ts : List (Nat × Str × Pos)} : ∀ {ds : List D} {l : Loc}, ts.length = ds.length → setAll (ts ++ us) (ds ++ es) l = setAll us es (setAll ts ds l) := by
  induction ts with
  | nil =>
    intro ds l h
    cases ds with
    | nil => rfl
    | cons => cases h
  | cons t ts ih =>
    intro ds l h
    cases ds with
    | nil => cases h
    | cons d ds => exact ih (Nat.succ.inj h)
theorem setAll_reverse {ts : List (Nat × Str × Pos)} : ∀ {ds : List D} {l : Loc}, ts.length = ds.length → (ts.map (·.1)).Nodup → setAll ts.reverse ds.reverse l = setAll ts ds l := by
  induction ts with
  | nil =>
    intro ds l h _
    cases ds with
    | nil => rfl
    | cons => cases h
  | cons t ts ih =>
    intro ds l h nd
    cases ds with
    | nil => cases h
    | cons d ds =>
      obtain ⟨n1, n2⟩ := List.nodup_cons.mp nd
      have h' : ts.length = ds.length := Nat.succ.inj h
      rw [List.reverse_cons, List.reverse_cons, setAll_append (by rw [List.length_reverse, List.length_reverse]; exact h'), ih h' n2]
      exact (setAll_set n1).symm
/-- names stored one behind the other -/
theorem store_many (ok : c.Ok) (f : Nat × Str × Pos → Value → Sem Unit) {E : Value → Shared → Prop}
    (hf : ∀ t v s Q, wpAny (model G.prog G.w) c.A (storeName c.env t.2.1 v) Q E s → wpAny (model G.prog G.w) c.A (f t v) Q E s) {Q : Unit → Shared → Prop} {ts : List (Nat × Str × Pos)} :
    ∀ {ds : List D} {vs : List Value} {loc : Loc} {s : Shared}, c.Rep G loc μ F s → RVs G F ds vs → ts.length = ds.length → (∀ t ∈ ts, storeOk1 c.sc t.1 t.2.1 = true) →
      (∀ s', c.Rep G (setAll ts ds loc) μ F s' → Q () s') → wpAny (model G.prog G.w) c.A (assignInOrder (ts.map f) vs) Q E s := by
  induction ts with
  | nil =>
    intro ds vs loc s r hr h hw q
    cases ds with
    | nil => exact assignInOrder_nil (q _ r)
    | cons => cases h
  | cons t ts ih =>
    intro ds vs loc s r hr h hw q
    cases ds with
    | nil => cases h
    | cons d ds =>
      obtain ⟨v, vs, rfl, h1, h2⟩ := hr
      exact assignInOrder_cons (hf _ _ _ _ (store_sound ok r (hw t List.mem_cons_self) h1 fun s' r' => ih r' h2 (Nat.succ.inj h) (fun t ht => hw t (List.mem_cons_of_mem _ ht)) q))
theorem assignEach_names (env : Env) (ts : List (Nat × Str × Pos)) : assignEach (ts.map fun t => Expr.Name t.2.1 t.2.2) env = ts.map fun t => (false, assign (.Name t.2.1 t.2.2) env) := by
  induction ts with
  | nil => rfl
  | cons t ts ih =>
    rw [List.map_cons, List.map_cons, ← ih]
    rfl
/-- a tuple taken apart -/
theorem unpack_sound (ok : c.Ok) {ts : List (Nat × Str × Pos)} {k : Nat} {p : Pos} {ds : List D} {v : Value} {Q : Unit → Shared → Prop} {E : Value → Shared → Prop} (r : c.Rep G loc μ F s) (hv : RV G F (.tup ds) v) (hl : ts.length = ds.length)
    (hw : ∀ t ∈ ts, storeOk1 c.sc t.1 t.2.1 = true) (q : ∀ s', c.Rep G (setAll ts ds loc) μ F s' → Q () s') :
    wpAny (model G.prog G.w) c.A (assign (.Tuple (ts.map fun t => Expr.Name t.2.1 t.2.2) k p) c.env v) Q E s := by
  obtain ⟨a, vs, rfl, ht, hr⟩ := r.tup hv
  have hsz : vs.size = ds.length := by rw [← hr.length]; simp
  refine assign_Tuple_tuple ok.room.hand ht (by rw [assignEach_names, List.length_map, hl, hsz]) ?_ fun h' he => ?_
  · rw [assignEach_names]
    rw [List.findIdx?_eq_none_iff]
    intro x hx
    obtain ⟨t, _, rfl⟩ := List.mem_map.mp hx
    rfl
  · rw [assignEach_names, List.map_map]
    refine store_many ok (fun t => assign (.Name t.2.1 t.2.2) c.env) (fun t v s Q h => assign_Name h) (r.keeps (fun b o e => he b o (Nat.ne_of_lt (Heap.lt_size e)) e) _) hr hl hw q
theorem unpackItems_sound (ok : c.Ok) {ds : List D} {v : Value} {n : Nat} {Q : List Value → Shared → Prop} {E : Value → Shared → Prop} (r : c.Rep G loc μ F s) (hv : RV G F (.tup ds) v) (hl : n = ds.length)
    (q : ∀ vs s', c.Rep G loc μ F s' → RVs G F ds vs → Q vs s') : wpAny (model G.prog G.w) c.A (unpackItems v n none) Q E s := by
  obtain ⟨a, vs, rfl, ht, hr⟩ := r.tup hv
  have hsz : vs.size = ds.length := by rw [← hr.length]; simp
  rw [hl, ← hsz]
  exact unpackItems_tuple ok.room.hand ht fun h' he => q _ _ (r.keeps (fun b o e => he b o (Nat.ne_of_lt (Heap.lt_size e)) e) _) hr
end
section
variable {G : Gx} {env : Env} {L : Addr} {loc : Loc} {μ : Mu} {F R : Led} {s : Shared} {A : Around}
theorem SlotRep.monoR {R R' : Led} (h : ∀ p ∈ R, (∀ w, p.2.data ≠ .cell w) ∨ p ∈ R') {env m clo F y k o} (x : SlotRep G F env m clo R y k o) : SlotRep G F env m clo R' y k o := by
  refine x.imp id (fun _ => id) (fun q => q.imp (fun c ob w _ b e => ?_) fun _ => id) id
  rcases h _ b with q | q
  · exact (q w e).elim
  · exact q
theorem LocRep.monoR {R R' : Led} (h : ∀ p ∈ R, (∀ w, p.2.data ≠ .cell w) ∨ p ∈ R') {env m clo F loc} (x : LocRep G F env m clo R loc) : LocRep G F env m clo R' loc :=
  ⟨x.1, fun i y k o h1 h2 => (x.2 i y k o h1 h2).monoR h⟩
/-- a fresh object that rests -/
theorem Rep.pushR (x : Rep G env L loc μ F R s) {h' : Heap} (k : ∀ b o, s.heap.get? b = some o → h'.get? b = some o) {o : Obj} (hn : h'.get? s.heap.objs.size = some o) (tk : Tok) :
    Rep G env L loc μ F ((s.heap.objs.size, o) :: R) { s with heap := h', toks := tk } := by
  obtain ⟨⟨m, cs, clo, Fm, N, nd, hc, hl⟩, hs⟩ := x
  have e : ∀ p ∈ cs ++ (F ++ (clo ++ R)), p.1 ≠ s.heap.objs.size := News.fresh_ne N
  have hL : s.heap.objs.size ≠ L := by
    obtain ⟨oL, _, _, hL, _⟩ := Fm.ns
    exact Nat.ne_of_gt (Heap.lt_size hL)
  have hb : G.base.get? s.heap.objs.size = none := by
    cases hq : G.base.get? s.heap.objs.size with
    | none => rfl
    | some o' => exact absurd (Heap.lt_size (Fm.keep _ _ hq)) (Nat.lt_irrefl _)
  have ea : cs ++ (F ++ (clo ++ ((s.heap.objs.size, o) :: R))) = (cs ++ (F ++ clo)) ++ (s.heap.objs.size, o) :: R := by simp
  have eb : cs ++ (F ++ (clo ++ R)) = (cs ++ (F ++ clo)) ++ R := by simp
  refine ⟨⟨m, cs, clo, ⟨Fm.ns.keeps k, fun b o e => k b o (Fm.keep b o e), Fm.above⟩, ?_, ?_, hc, hl.monoR fun p hp => .inr (List.mem_cons_of_mem _ hp)⟩, ⟨hs.gens, hs.drawn, hs.os⟩⟩
  · rw [ea]
    rw [eb] at N
    intro p hp
    simp only [List.mem_append, List.mem_cons] at hp
    rcases hp with h | rfl | h
    · exact ⟨k _ _ (N p (by simp only [List.mem_append]; exact .inl h)).1, (N p (by simp only [List.mem_append]; exact .inl h)).2⟩
    · exact ⟨hn, hL, hb⟩
    · exact ⟨k _ _ (N p (by simp [h])).1, (N p (by simp [h])).2⟩
  · rw [ea, List.map_append, List.map_cons, nodup_mid]
    rw [eb, List.map_append] at nd
    refine List.nodup_cons.mpr ⟨?_, nd⟩
    intro hm
    rw [← List.map_append, ← eb] at hm
    obtain ⟨p, hp, he⟩ := List.mem_map.mp hm
    exact e p hp he
theorem Rep.dropR {a : Addr} {o : Obj} (x : Rep G env L loc μ F ((a, o) :: R) s) (ho : ∀ w, o.data ≠ .cell w) : Rep G env L loc μ F R s := by
  obtain ⟨⟨m, cs, clo, Fm, N, nd, hc, hl⟩, hs⟩ := x
  have ea : cs ++ (F ++ (clo ++ ((a, o) :: R))) = (cs ++ (F ++ clo)) ++ (a, o) :: R := by simp
  have eb : cs ++ (F ++ (clo ++ R)) = (cs ++ (F ++ clo)) ++ R := by simp
  rw [ea] at N nd
  refine ⟨⟨m, cs, clo, Fm, ?_, ?_, hc, hl.monoR fun p hp => ?_⟩, hs⟩
  · rw [eb]
    intro p hp
    apply N p
    simp only [List.mem_append, List.mem_cons] at hp ⊢
    rcases hp with h | h
    · exact .inl h
    · exact .inr (.inr h)
  · rw [eb, List.map_append]
    rw [List.map_append, List.map_cons, nodup_mid] at nd
    exact (List.nodup_cons.mp nd).2
  · rcases List.mem_cons.mp hp with rfl | h
    · exact .inl ho
    · exact .inr h
theorem Rep.getR {a : Addr} {o : Obj} (x : Rep G env L loc μ F R s) (h : (a, o) ∈ R) : s.heap.get? a = some o := by
  obtain ⟨⟨m, cs, clo, Fm, N, nd, hc, hl⟩, hs⟩ := x
  exact (N (a, o) (by simp [h])).1
/-- a resting object changed -/
theorem Rep.changeR {a : Addr} {o o' : Obj} {h' : Heap} (x : Rep G env L loc μ F ((a, o) :: R) s) (ho : ∀ w, o.data ≠ .cell w) (hb : Heap.SameBut a s.heap h') (hn : h'.get? a = some o') (tk : Tok) :
    Rep G env L loc μ F ((a, o') :: R) { s with heap := h', toks := tk } := by
  obtain ⟨⟨m, cs, clo, Fm, N, nd, hc, hl⟩, hs⟩ := x
  have ea : ∀ o : Obj, cs ++ (F ++ (clo ++ ((a, o) :: R))) = (cs ++ (F ++ clo)) ++ (a, o) :: R := fun o => by simp
  rw [ea] at N nd
  have hm := N (a, o) (by simp)
  have nd' := nd
  rw [List.map_append, List.map_cons, nodup_mid] at nd'
  have hn0 := (List.nodup_cons.mp nd').1
  have n1 : ∀ p ∈ cs ++ (F ++ clo), p.1 ≠ a := by
    rintro p hp rfl
    have q := List.mem_map_of_mem (f := fun p : Addr × Obj => p.1) hp
    exact hn0 (List.mem_append_left _ q)
  have n2 : ∀ p ∈ R, p.1 ≠ a := by
    rintro p hp rfl
    have q := List.mem_map_of_mem (f := fun p : Addr × Obj => p.1) hp
    exact hn0 (List.mem_append_right _ q)
  refine ⟨⟨m, cs, clo, Fm.change hb hm.2.1 hm.2.2, ?_, ?_, hc, hl.monoR fun p hp => ?_⟩, ⟨hs.gens, hs.drawn, hs.os⟩⟩
  · rw [ea]; exact news_set N n1 n2 hb hn
  · rw [ea]; simpa using nd
  · rcases List.mem_cons.mp hp with rfl | h
    · exact .inl ho
    · exact .inr (List.mem_cons_of_mem _ h)
/-- an iterator, with what it will still give -/
noncomputable def IterAt (G : Gx) (F : Led) (o : Obj) (ds : List D) : Prop :=
  (∃ l i ol vs n all, o.cls = .type "list_iterator" ∧ o.data = .fields #[.ref l, .int (i : Nat) 0] ∧ Fz G F l ol ∧ ol.cls = .type "list" ∧ ol.data = .seq vs n ∧ RVs G F all vs.toList ∧ ds = all.drop i) ∨
  ∃ x left step, o = { cls := .type "range_iterator", dict := none, data := .fields #[rawInt x, rawInt (left : Nat), rawInt step], slots := #[] } ∧ ds = ((List.range left).map fun (k : Nat) => D.int (x + (k : Int) * step))
theorem IterAt.mono {F F' : Led} (h : ∀ p ∈ F, p ∈ F') {o ds} (x : IterAt G F o ds) : IterAt G F' o ds := by
  rcases x with ⟨l, i, ol, vs, n, all, h1, h2, h3, h4, h5, h6, h7⟩ | x
  · exact .inl ⟨l, i, ol, vs, n, all, h1, h2, h3.mono G h, h4, h5, h6.mono G h, h7⟩
  · exact .inr x
theorem IterAt.nocell {o ds} (x : IterAt G F o ds) : ∀ w, o.data ≠ .cell w := by
  intro w h
  rcases x with ⟨l, i, ol, vs, n, all, h1, h2, h3⟩ | ⟨x, left, step, rfl, _⟩
  · rw [h2] at h; cases h
  · cases h
theorem IterAt.fields {o ds} (x : IterAt G F o ds) : ∃ vs, o.data = .fields vs := by
  rcases x with ⟨l, i, ol, vs, n, all, h1, h2, h3⟩ | ⟨x, left, step, rfl, _⟩
  · exact ⟨_, h2⟩
  · exact ⟨_, rfl⟩
theorem iter_start {d : D} {ds : List D} {v : Value} {Q : Value → Shared → Prop} {E : Value → Shared → Prop} (x : Rep G env L loc μ F R s) (hv : RV G F d v) (hs : srcOf d = some ds)
    (q : ∀ it o s', Rep G env L loc μ F ((it, o) :: R) s' → IterAt G F o ds → Q (.ref it) s') : wpAny (model G.prog G.w) A (pyIter v) Q E s := by
  unfold srcOf at hs
  split at hs
  · cases hs
    obtain ⟨a, o, vs, n, rfl, h1, h2, h3, h4⟩ := hv
    refine wpAny_pyIter_list (items := vs) ⟨o, x.frozen h1, h2.1, n, h3⟩ (q _ { cls := .type "list_iterator", data := .fields #[.ref a, .int 0 0] } _ (x.pushR (fun b o e => Heap.get?_push_of_some _ e) (Heap.get?_push_size _ rfl) _) ?_)
    exact .inl ⟨a, 0, o, vs, n, _, rfl, rfl, h1, h2.1, h3, h4, by simp⟩
  · rename_i a b c
    split at hs
    · rename_i hsm
      cases hs
      obtain ⟨r, t, u, w, rfl, h1⟩ := hv
      refine wpAny_pyIter_range (x.inF h1) hsm (q _ _ _ (x.pushR (fun b o e => Heap.get?_push_of_some _ e) (Heap.get?_push_size _ rfl) _) ?_)
      refine .inr ⟨a, rangeN a b c, c, by rw [rangeSize_eq], ?_⟩
      unfold rangeL
      rw [List.map_map]
      rfl
    · cases hs
  · cases hs
theorem iter_next {it : Addr} {o : Obj} {d : D} {ds : List D} {Q : Option Value → Shared → Prop} {E : Value → Shared → Prop} (x : Rep G env L loc μ F ((it, o) :: R) s) (h : IterAt G F o (d :: ds))
    (q : ∀ v o' s', Rep G env L loc μ F ((it, o') :: R) s' → IterAt G F o' ds → RV G F d v → Q (some v) s') : wpAny (model G.prog G.w) A (pyNext (.ref it)) Q E s := by
  have hc := h.nocell
  have ho : s.heap.get? it = some o := x.getR List.mem_cons_self
  rcases h with ⟨l, i, ol, vs, n, all, h1, h2, h3, h4, h5, h6, h7⟩ | ⟨y, left, step, rfl, h2⟩
  · have hd : all[i]? = some d := by
      have : (all.drop i)[0]? = some d := by rw [← h7]; rfl
      rw [List.getElem?_drop] at this
      exact this
    obtain ⟨v, hv, hrv⟩ := h6.get hd
    refine wpAny_pyNext_list_item (l := l) (i := i) (items := vs) ⟨o, ho, h1, h2⟩ ⟨ol, x.frozen h3, h4, n, h5⟩ (x := v) (by rw [← Array.getElem?_toList]; exact hv) fun h' hit hb => ?_
    obtain ⟨o', ho', hc', hd'⟩ := hit
    refine q v o' _ (x.changeR hc hb ho' _) (.inl ⟨l, i + 1, ol, vs, n, all, hc', hd', h3, h4, h5, h6, ?_⟩) hrv
    have := congrArg List.tail h7
    simpa using this
  · cases left with
    | zero => simp at h2
    | succ left =>
      rw [List.range_succ_eq_map] at h2
      simp only [List.map_cons, List.map_map, List.cons.injEq] at h2
      obtain ⟨rfl, h2⟩ := h2
      refine wpAny_pyNext_range_item (x := y) (left := ((left + 1 : Nat) : Int)) (step := step) ho (by omega) fun h' hit hb => ?_
      refine q _ _ _ (x.changeR hc hb hit _) (.inr ⟨y + step, left, step, ?_, ?_⟩) ⟨s.toks, by simp⟩
      · congr 4
        simp
      · rw [h2]
        apply List.map_congr_left
        intro k _
        simp only [Function.comp]
        congr 1
        push_cast
        rw [Int.add_mul]
        omega
theorem iter_end {it : Addr} {o : Obj} {Q : Option Value → Shared → Prop} {E : Value → Shared → Prop} (hh : A.handled = none) (x : Rep G env L loc μ F ((it, o) :: R) s) (h : IterAt G F o [])
    (q : ∀ s', Rep G env L loc μ F R s' → Q none s') : wpAny (model G.prog G.w) A (pyNext (.ref it)) Q E s := by
  have hc := h.nocell
  have ho : s.heap.get? it = some o := x.getR List.mem_cons_self
  have key : ∀ h', Heap.ExtBut it s.heap h' → Rep G env L loc μ F R { s with heap := h' } := by
    intro h' he
    obtain ⟨⟨m, cs, clo, Fm, N, nd, hcc, hl⟩, hs⟩ := x
    have ea : cs ++ (F ++ (clo ++ ((it, o) :: R))) = (cs ++ (F ++ clo)) ++ (it, o) :: R := by simp
    have eb : cs ++ (F ++ (clo ++ R)) = (cs ++ (F ++ clo)) ++ R := by simp
    rw [ea] at N nd
    have hm := N (it, o) (by simp)
    have nd' := nd
    rw [List.map_append, List.map_cons, nodup_mid, ← List.map_append] at nd'
    have hn0 := (List.nodup_cons.mp nd').1
    refine ⟨⟨m, cs, clo, ⟨?_, fun b ob e => he b ob (fun q => by rw [q, hm.2.2] at e; cases e) (Fm.keep b ob e), Fm.above⟩, ?_, ?_, hcc, hl.monoR fun p hp => ?_⟩, ⟨hs.gens, hs.drawn, hs.os⟩⟩
    · obtain ⟨oL, es, ep, g1, g2, g3, g4⟩ := Fm.ns
      exact ⟨oL, es, ep, he L oL (Ne.symm hm.2.1) g1, g2, g3, g4⟩
    · rw [eb]
      intro p hp
      have hp' : p ∈ (cs ++ (F ++ clo)) ++ (it, o) :: R := by
        simp only [List.mem_append, List.mem_cons] at hp ⊢
        rcases hp with h | h
        · exact .inl h
        · exact .inr (.inr h)
      refine ⟨he p.1 p.2 ?_ (N p hp').1, (N p hp').2⟩
      rintro rfl
      have q := List.mem_map_of_mem (f := fun p : Addr × Obj => p.1) hp
      exact hn0 q
    · rw [eb]
      exact (List.nodup_cons.mp nd').2
    · rcases List.mem_cons.mp hp with rfl | h
      · exact .inl hc
      · exact .inr h
  rcases h with ⟨l, i, ol, vs, n, all, h1, h2, h3, h4, h5, h6, h7⟩ | ⟨y, left, step, rfl, h2⟩
  · have hlen : all.length ≤ i := by
      have := congrArg List.length h7
      simp only [List.length_nil, List.length_drop] at this
      omega
    refine wpAny_pyNext_list_end (l := l) (i := i) (items := vs) hh ⟨o, ho, h1, h2⟩ ⟨ol, x.frozen h3, h4, n, h5⟩ ?_ fun h' he => q _ (key h' he)
    rw [Array.getElem?_eq_none]
    have := h6.length
    simp only [Array.length_toList] at this
    omega
  · cases left with
    | zero => exact wpAny_pyNext_range_end hh ho (by omega) fun h' he => q _ (key h' he)
    | succ left => rw [List.range_succ_eq_map] at h2; simp at h2
end
noncomputable def initOk1 (outer : Scope) (x : Str) (k : NameKind) (o : Option Nat) : Bool := match k with
  | .free => (match o with
    | some j => (match outer.names[j]? with | some y => y.1 == x && (y.2 == .cell || y.2 == .free) | none => false)
    | none => false)
  | .local => o.isNone
  | .cell => o.isNone
  | .globalImplicit => o.isNone
  | _ => false
noncomputable def initOk (outer : Scope) (names : List (Str × NameKind)) (init : List (Option Nat)) : Bool := init.length == names.length && (names.zip init).all fun p => initOk1 outer p.1.1 p.1.2 p.2
noncomputable def compOk (outer sc : Scope) (init : List (Option Nat)) (ts : List (Nat × Str × Pos)) (tk : Option (Nat × Pos)) : Bool :=
  sc.kind == .function && decide ((sc.names.map (·.1)).Nodup) && decide (((cellsFrom 0 sc.names []).map (·.1)).Nodup) && initOk outer sc.names init &&
  (ts.all fun t => storeOk1 sc t.1 t.2.1) && (match tk with | none => ts.length == 1 | some _ => true)
structure CompOk (outer sc : Scope) (init : List (Option Nat)) (ts : List (Nat × Str × Pos)) (tk : Option (Nat × Pos)) : Prop where
  kind : sc.kind = .function
  nd : (sc.names.map (·.1)).Nodup
  cells : ((cellsFrom 0 sc.names []).map (·.1)).Nodup
  init : initOk outer sc.names init = true
  st : ∀ t ∈ ts, storeOk1 sc t.1 t.2.1 = true
  one : tk = none → ts.length = 1
theorem compOk_of {outer sc : Scope} {init : List (Option Nat)} {ts : List (Nat × Str × Pos)} {tk : Option (Nat × Pos)} (w : compOk outer sc init ts tk = true) : CompOk outer sc init ts tk := by
  unfold compOk at w
  simp only [Bool.and_eq_true, beq_iff_eq, decide_eq_true_eq, List.all_eq_true] at w
  obtain ⟨⟨⟨⟨⟨w1, w2⟩, w3⟩, w4⟩, w5⟩, w6⟩ := w
  exact ⟨w1, w2, w3, w4, w5, fun h => by subst h; exact eq_of_beq w6⟩
noncomputable def closL (cells : List (Str × Addr)) : List (Str × NameKind) → List (Str × Addr) → List (Str × Addr)
  | [], acc => acc
  | (x, k) :: r, acc => if k == .free then closL cells r ((x, (cells.lookup x).getD 0) :: acc) else closL cells r acc
theorem clos_forIn {env : Env} (f : Str × NameKind → List (Str × Addr) → Sem (ForInStep (List (Str × Addr))))
    (hf : ∀ name kind cs, f (name, kind) cs = if kind == .free then (do let a ← cellOf env name; pure (.yield ((name, a) :: cs))) else pure (.yield cs)) :
    ∀ (names : List (Str × NameKind)) (acc : List (Str × Addr)), (∀ x, (x, NameKind.free) ∈ names → (env.cells.lookup x).isSome = true) → forIn names acc f = (pure (closL env.cells names acc) : Sem _)
  | [], acc, _ => rfl
  | (x, k) :: r, acc, h => by
    rw [List.forIn_cons, hf]
    have ih := fun acc => clos_forIn f hf r acc fun y hy => h y (List.mem_cons_of_mem _ hy)
    by_cases hk : (k == NameKind.free) = true
    · rw [if_pos hk]
      have hk' : k = .free := by simpa using hk
      subst hk'
      obtain ⟨a, ha⟩ := Option.isSome_iff_exists.mp (h x List.mem_cons_self)
      have e : cellOf env x = pure a := by unfold cellOf; rw [ha]
      rw [e]
      simp only [closL, hk, if_true, ha, Option.getD_some]
      exact ih _
    · rw [if_neg hk]
      simp only [closL, hk, Bool.false_eq_true, if_false]
      exact ih _
theorem closure_pure {scope : Scope} {env : Env} (h : ∀ x, (x, NameKind.free) ∈ scope.names → (env.cells.lookup x).isSome = true) : closureFor scope env = pure (closL env.cells scope.names []) := by
  simp only [closureFor]
  rw [clos_forIn (env := env) _ (fun name kind cs => by cases hkc : kind == NameKind.free <;> simp [hkc]) scope.names [] h]
  rfl
theorem cellsFrom_append : ∀ (names : List (Str × NameKind)) (n : Nat) (acc : List (Str × Addr)), cellsFrom n names acc = cellsFrom n names [] ++ acc
  | [], _, _ => rfl
  | (x, k) :: r, n, acc => by
    unfold cellsFrom
    split
    · rw [cellsFrom_append r (n + 1) ((x, n) :: acc), cellsFrom_append r (n + 1) [(x, n)]]; simp
    · exact cellsFrom_append r n acc
theorem cellsFrom_kind : ∀ (names : List (Str × NameKind)) (n : Nat) (x : Str) (a : Addr), (x, a) ∈ cellsFrom n names [] → (x, NameKind.cell) ∈ names
  | [], _, _, _, h => by simp [cellsFrom] at h
  | (y, k) :: r, n, x, a, h => by
    unfold cellsFrom at h
    split at h
    · rename_i hk
      have hk' : k = .cell := by simpa using hk
      rw [cellsFrom_append] at h
      rcases List.mem_append.mp h with h | h
      · exact List.mem_cons_of_mem _ (cellsFrom_kind r _ _ _ h)
      · simp only [List.mem_singleton, Prod.mk.injEq] at h
        rw [h.1, ← hk']; exact List.mem_cons_self
    · exact List.mem_cons_of_mem _ (cellsFrom_kind r _ _ _ h)
theorem closL_lookup {cells : List (Str × Addr)} {x : Str} {a : Addr} (ha : cells.lookup x = some a) : ∀ (names : List (Str × NameKind)) (acc : List (Str × Addr)), (names.map (·.1)).Nodup → (x, NameKind.free) ∈ names ∨ (acc.lookup x = some a ∧ x ∉ names.map (·.1)) → (closL cells names acc).lookup x = some a
  | [], acc, _, h => by
    rcases h with h | h
    · cases h
    · exact h.1
  | (y, k) :: r, acc, nd, h => by
    rw [List.map_cons] at nd
    obtain ⟨n1, n2⟩ := List.nodup_cons.mp nd
    unfold closL
    rcases h with h | ⟨h, hn⟩
    · rcases List.mem_cons.mp h with e | h
      · cases e
        simp only [beq_self_eq_true, if_true]
        exact closL_lookup ha r _ n2 (.inr ⟨by simp [ha], n1⟩)
      · split
        · exact closL_lookup ha r _ n2 (.inl h)
        · exact closL_lookup ha r _ n2 (.inl h)
    · simp only [List.map_cons, List.mem_cons, not_or] at hn
      split
      · refine closL_lookup ha r _ n2 (.inr ⟨?_, hn.2⟩)
        rw [List.lookup_cons, beq_false_of_ne hn.1]
        exact h
      · exact closL_lookup ha r _ n2 (.inr ⟨h, hn.2⟩)
theorem CellsAre.get {cm : Str → Option Value} {cs : List (Str × Addr)} {cells : Led} (h : CellsAre cm cs cells) {x : Str} {a : Addr} (hm : (x, a) ∈ cs) : ∃ o, (a, o) ∈ cells ∧ o.data = .cell (cm x) := by
  induction h with
  | nil => cases hm
  | cons hd _ ih =>
    rename_i n c o cs cells _
    rcases List.mem_cons.mp hm with e | hm
    · cases e
      exact ⟨o, List.mem_cons_self, hd⟩
    · obtain ⟨o', h1, h2⟩ := ih hm
      exact ⟨o', List.mem_cons_of_mem _ h1, h2⟩
theorem CellsAre.addrs {cm : Str → Option Value} {cs : List (Str × Addr)} {cells : Led} (h : CellsAre cm cs cells) : cells.map (·.1) = cs.map (·.2) := by
  induction h with
  | nil => rfl
  | cons _ _ ih => simp [ih]
/-- the frame of a comprehension, made -/
theorem newEnv_comp {M : Model} {A : Around} {E : Value → Shared → Prop} {s : Shared} {scope : Scope} {cl : List (Str × Addr)} {env : Env} {Q : Env → Shared → Prop}
    (h : Q { scope := scope, locals := s.heap.objs.size, globals := env.globals, cells := cellsFrom (s.heap.objs.size + 1) scope.names cl, qual := env.qual, func := none, code := env.code, frame := env.frame, builtins := env.builtins }
      { s with heap := pushCells (s.heap.push { cls := .type "dict", data := .dict #[] }) scope.names }) :
    wpAny M A (newFunctionEnv scope env.globals cl [] env.qual none .none (some env)) Q E s := by
  simp only [newFunctionEnv, Option.isSome_some, if_true]
  refine wpAny_bind (wpAny_alloc ?_)
  refine wpAny_bind (wpAny_layCells _ (fun name kind cells => by cases hkc : kind == NameKind.cell <;> simp [hkc]) _ _ _ _ ?_)
  rw [show ({ s with heap := s.heap.push { cls := .type "dict", data := .dict #[] } } : Shared).heap.objs.size = s.heap.objs.size + 1 from Heap.size_push ..]
  rw [List.forIn_nil]
  exact wpAny_bind (wpAny_pure (wpAny_pure h))
section
variable {G : Gx} {env : Env} {L : Addr} {loc : Loc} {μ : Mu} {F R : Led} {s : Shared} {A : Around}
/-- a fresh frame upon what rests -/
theorem HRep.frame (x : HRep G μ F R s) {env : Env} {m : Str → Option Value} {own : List (Str × Addr)} {cm : Str → Option Value} {h' : Heap} (hkeep : ∀ b o, s.heap.get? b = some o → h'.get? b = some o)
    (ns : h'.Ns s.heap.objs.size m) (hc : ∀ n c, (n, c) ∈ own → h'.IsCell c (cm n) ∧ s.heap.objs.size < c) (apart : own.Pairwise fun x y => x.2 ≠ y.2)
    (hl : ∀ clo, CellsAre cm own clo → LocRep G F env m clo R loc) (tk : Tok) : Rep G env s.heap.objs.size loc μ F R { s with heap := h', toks := tk } := by
  obtain ⟨⟨cs, h1, nd, hcr⟩, st, hsz, hs⟩ := x
  obtain ⟨clo, NC, YC⟩ := Cl.news (h₀ := s.heap) (L := s.heap.objs.size) (cm := cm) (Nat.le_refl _) (cs := own) (h := h') hc
  refine ⟨⟨m, cs, clo, ⟨ns, fun b o e => hkeep b o (st b o e), hsz⟩, ?_, ?_, hcr, hl clo YC⟩, ⟨hs.gens, hs.drawn, hs.os⟩⟩
  · intro p hp
    have old : ∀ p ∈ cs ++ (F ++ R), h'.get? p.1 = some p.2 ∧ p.1 ≠ s.heap.objs.size ∧ G.base.get? p.1 = none := fun p hp => ⟨hkeep _ _ (h1 p hp).1, Nat.ne_of_lt (Heap.lt_size (h1 p hp).1), (h1 p hp).2⟩
    simp only [List.mem_append] at hp old
    rcases hp with q | q | q | q
    · exact old p (.inl q)
    · exact old p (.inr (.inl q))
    · obtain ⟨n1, n2, n3⟩ := NC p q
      refine ⟨n1, n2, ?_⟩
      cases hq : G.base.get? p.1 with
      | none => rfl
      | some o => rw [st _ _ hq] at n3; cases n3
    · exact old p (.inr (.inr q))
  · have hclo : (clo.map (·.1)).Nodup := by
      have e : clo.map (·.1) = own.map (·.2) := by
        clear NC hl
        induction YC with
        | nil => rfl
        | cons _ _ ih => simp [ih (fun n c hm => hc n c (List.mem_cons_of_mem _ hm)) (List.pairwise_cons.mp apart).2]
      rw [e, List.nodup_iff_pairwise_ne, List.pairwise_map]
      exact apart
    have hdis : ∀ p ∈ cs ++ (F ++ R), ∀ q ∈ clo, p.1 ≠ q.1 := by
      intro p hp q hq e
      have := (NC q hq).2.2
      rw [← e, (h1 p hp).1] at this
      cases this
    simp only [List.map_append, List.nodup_append, List.mem_append] at nd hclo ⊢
    obtain ⟨n1, ⟨n2, n3, n4⟩, n5⟩ := nd
    have cross : ∀ {l : Led} {a b : Addr}, (∀ p ∈ l, p ∈ cs ++ (F ++ R)) → a ∈ l.map (·.1) → b ∈ clo.map (·.1) → a ≠ b := by
      intro l a b hl ha hb
      obtain ⟨p, hp, rfl⟩ := List.mem_map.mp ha
      obtain ⟨q, hq, rfl⟩ := List.mem_map.mp hb
      exact hdis p (hl p hp) q hq
    refine ⟨n1, ⟨n2, ⟨hclo, n3, fun a ha b hb e => cross (l := R) (fun p hp => by simp [hp]) hb ha e.symm⟩, ?_⟩, ?_⟩
    · rintro a ha b (hb | hb)
      · exact cross (l := F) (fun p hp => by simp [hp]) ha hb
      · exact n4 a ha b hb
    · rintro a ha b (hb | hb | hb)
      · exact n5 a ha b (.inl hb)
      · exact cross (l := cs) (fun p hp => by simp [hp]) ha hb
      · exact n5 a ha b (.inr hb)
theorem HRep.permR {R' : Led} (x : HRep G μ F R s) (h : R.Perm R') : HRep G μ F R' s := by
  obtain ⟨⟨cs, h1, nd, hc⟩, st, hsz, hs⟩ := x
  refine ⟨⟨cs, fun p hp => h1 p ?_, ?_, hc⟩, st, hsz, hs⟩
  · simp only [List.mem_append] at hp ⊢
    rcases hp with q | q | q
    · exact .inl q
    · exact .inr (.inl q)
    · exact .inr (.inr (h.mem_iff.mpr q))
  · exact ((((List.Perm.refl cs).append ((List.Perm.refl F).append h)).map _).nodup_iff).mp nd
/-- what rests becomes frozen -/
theorem HRep.freeze {a : Addr} {o : Obj} (x : HRep G μ F ((a, o) :: R) s) : HRep G μ ((a, o) :: F) R s := by
  obtain ⟨⟨cs, h1, nd, hc⟩, st, hsz, hs⟩ := x
  refine ⟨⟨cs, fun p hp => h1 p ?_, ?_, hc.mono G fun p h => List.mem_cons_of_mem _ h⟩, st, hsz, hs⟩
  · simp only [List.mem_append, List.mem_cons] at hp ⊢
    rcases hp with q | (q | q) | q
    · exact .inl q
    · exact .inr (.inr (.inl q))
    · exact .inr (.inl q)
    · exact .inr (.inr (.inr q))
  · refine (List.Perm.nodup_iff ?_).mp nd
    refine List.Perm.map _ ((List.Perm.refl cs).append ?_)
    exact List.perm_middle
theorem Rep.permR {R' : Led} (x : Rep G env L loc μ F R s) (h : R.Perm R') : Rep G env L loc μ F R' s := by
  obtain ⟨⟨m, cs, clo, Fm, N, nd, hc, hl⟩, hs⟩ := x
  refine ⟨⟨m, cs, clo, Fm, fun p hp => N p ?_, ?_, hc, hl.monoR fun p hp => .inr (h.mem_iff.mp hp)⟩, hs⟩
  · simp only [List.mem_append] at hp ⊢
    rcases hp with q | q | q | q
    · exact .inl q
    · exact .inr (.inl q)
    · exact .inr (.inr (.inl q))
    · exact .inr (.inr (.inr (h.mem_iff.mpr q)))
  · exact ((((List.Perm.refl cs).append ((List.Perm.refl F).append ((List.Perm.refl clo).append h))).map _).nodup_iff).mp nd
/-- an object that rests goes, whatever it has become -/
theorem Rep.dropBut {it : Addr} {o : Obj} (x : Rep G env L loc μ F ((it, o) :: R) s) (hc : ∀ w, o.data ≠ .cell w) {h' : Heap} (he : Heap.ExtBut it s.heap h') : Rep G env L loc μ F R { s with heap := h' } := by
  obtain ⟨⟨m, cs, clo, Fm, N, nd, hcc, hl⟩, hs⟩ := x
  have ea : cs ++ (F ++ (clo ++ ((it, o) :: R))) = (cs ++ (F ++ clo)) ++ (it, o) :: R := by simp
  have eb : cs ++ (F ++ (clo ++ R)) = (cs ++ (F ++ clo)) ++ R := by simp
  rw [ea] at N nd
  have hm := N (it, o) (by simp)
  have nd' := nd
  rw [List.map_append, List.map_cons, nodup_mid, ← List.map_append] at nd'
  have hn0 := (List.nodup_cons.mp nd').1
  refine ⟨⟨m, cs, clo, ⟨?_, fun b ob e => he b ob (fun q => by rw [q, hm.2.2] at e; cases e) (Fm.keep b ob e), Fm.above⟩, ?_, ?_, hcc, hl.monoR fun p hp => ?_⟩, ⟨hs.gens, hs.drawn, hs.os⟩⟩
  · obtain ⟨oL, es, ep, g1, g2, g3, g4⟩ := Fm.ns
    exact ⟨oL, es, ep, he L oL (Ne.symm hm.2.1) g1, g2, g3, g4⟩
  · rw [eb]
    intro p hp
    have hp' : p ∈ (cs ++ (F ++ clo)) ++ (it, o) :: R := by
      simp only [List.mem_append, List.mem_cons] at hp ⊢
      rcases hp with h | h
      · exact .inl h
      · exact .inr (.inr h)
    refine ⟨he p.1 p.2 ?_ (N p hp').1, (N p hp').2⟩
    rintro rfl
    have q := List.mem_map_of_mem (f := fun p : Addr × Obj => p.1) hp
    exact hn0 q
  · rw [eb]
    exact (List.nodup_cons.mp nd').2
  · rcases List.mem_cons.mp hp with rfl | h
    · exact .inl hc
    · exact .inr h
/-- names forgotten -/
theorem LocRep.forget {env : Env} {m : Str → Option Value} {clo : Led} {loc loc' : Loc} (x : LocRep G F env m clo R loc) (hlen : loc'.length = loc.length) (h : ∀ (i : Nat) (o : Option D), loc'[i]? = some o → loc[i]? = some o ∨ o = none) : LocRep G F env m clo R loc' := by
  refine ⟨hlen.trans x.1, fun i y k o h1 h2 => ?_⟩
  have hi : i < loc.length := by rw [← hlen]; exact (List.getElem?_eq_some_iff.mp h2).1
  have h3 := x.2 i y k loc[i] h1 (List.getElem?_eq_getElem hi)
  rcases h i o h2 with q | rfl
  · rw [List.getElem?_eq_getElem hi] at q
    exact Option.some.inj q ▸ h3
  · exact h3.imp (fun _ => .none) (fun _ q => q.imp (fun _ _ _ _ q _ => q) fun _ _ => .none) (fun q => q.imp (fun _ _ _ _ q _ => q) fun _ _ => .none) fun _ => rfl
theorem Rep.forget {loc loc' : Loc} (x : Rep G env L loc μ F R s) (hlen : loc'.length = loc.length) (h : ∀ (i : Nat) (o : Option D), loc'[i]? = some o → loc[i]? = some o ∨ o = none) : Rep G env L loc' μ F R s := by
  obtain ⟨⟨m, cs, clo, Fm, N, nd, hc, hl⟩, hs⟩ := x
  exact ⟨⟨m, cs, clo, Fm, N, nd, hc, hl.forget hlen h⟩, hs⟩
theorem iter_self {it : Addr} {o : Obj} {ds : List D} {Q : Value → Shared → Prop} {E : Value → Shared → Prop} (ho : s.heap.get? it = some o) (h : IterAt G F o ds) (q : Q (.ref it) s) : wpAny (model G.prog G.w) A (pyIter (.ref it)) Q E s := by
  rcases h with ⟨l, i, ol, vs, n, all, h1, h2, h3⟩ | ⟨x, left, step, rfl, _⟩
  · exact wpAny_pyIter_listiter (l := l) (i := i) ⟨o, ho, h1, h2⟩ q
  · exact wpAny_pyIter_rangeiter ho q
theorem iter_owned {it : Addr} {o : Obj} {ds : List D} {ts : List (Nat × Str × Pos)} {tk : Option (Nat × Pos)} {v : Value} {Q : Unit → Shared → Prop} {E : Value → Shared → Prop} (ho : s.heap.get? it = some o) (h : IterAt G F o ds) (q : Q () s) : wpAny (model G.prog G.w) A (letOwnedTupleGo (tgt ts tk) (.ref it) v) Q E s := by
  have key : wpAny (model G.prog G.w) A (do
      let (.ref r, .ref a) := ((Value.ref it, v) : Value × Value) | return
      let o ← load r
      match o.cls, o.data with
      | .type n, .fields vs =>
        if ["enumerate", "zip", "dict_itemiterator", "dict_reverseitemiterator", "odict_iterator", "itertools.zip_longest", "itertools.pairwise"].contains n && vs[0]? == some (rawInt a) then
          rule "for.unpacks-the-owned-tuple"
          updateField r 0 .none
      | _, _ => pure ()) Q E s := by
    cases v <;> try exact wpAny_pure q
    refine wpAny_bind (wpAny_load ho ?_)
    rcases h with ⟨l, i, ol, vs, n, all, h1, h2, h3⟩ | ⟨x, left, step, rfl, _⟩
    · rw [h1, h2]
      show wpAny (model G.prog G.w) A (if _ then _ else _) Q E s
      rw [if_neg (by simp)]
      exact wpAny_pure q
    · show wpAny (model G.prog G.w) A (if _ then _ else _) Q E s
      rw [if_neg (by simp)]
      exact wpAny_pure q
  cases tk with
  | some kp => exact key
  | none => cases ts with
    | nil => exact key
    | cons t ts => exact wpAny_pure q
end
theorem initOk_len {outer : Scope} {names : List (Str × NameKind)} {init : List (Option Nat)} (h : initOk outer names init = true) : init.length = names.length := eq_of_beq (Bool.and_eq_true_iff.mp h).1
theorem initOk1_of {outer : Scope} {x : Str} {k : NameKind} {o : Option Nat} (h : initOk1 outer x k o = true) :
    (k = .free ∧ ∃ j k', o = some j ∧ outer.names[j]? = some (x, k') ∧ (k' = .cell ∨ k' = .free)) ∨ ((k = .local ∨ k = .cell ∨ k = .globalImplicit) ∧ o = none) := by
  cases k with
  | free =>
    cases o with
    | none => cases h
    | some j =>
      have h : (match outer.names[j]? with | some y => y.1 == x && (y.2 == .cell || y.2 == .free) | none => false) = true := h
      cases hy : outer.names[j]? with
      | none => rw [hy] at h; cases h
      | some y =>
        rw [hy] at h
        simp only [Bool.and_eq_true, Bool.or_eq_true, beq_iff_eq] at h
        exact .inl ⟨rfl, j, y.2, rfl, by rw [hy, ← h.1], h.2⟩
  | «local» => exact .inr ⟨.inl rfl, Option.isNone_iff_eq_none.mp h⟩
  | cell => exact .inr ⟨.inr (.inl rfl), Option.isNone_iff_eq_none.mp h⟩
  | globalImplicit => exact .inr ⟨.inr (.inr rfl), Option.isNone_iff_eq_none.mp h⟩
  | _ => cases h
theorem initOk_get {outer : Scope} {names : List (Str × NameKind)} {init : List (Option Nat)} {i : Nat} {x : Str} {k : NameKind} (h : initOk outer names init = true) (hi : names[i]? = some (x, k)) :
    (k = .free ∧ ∃ j k', init[i]? = some (some j) ∧ outer.names[j]? = some (x, k') ∧ (k' = .cell ∨ k' = .free)) ∨ ((k = .local ∨ k = .cell ∨ k = .globalImplicit) ∧ init[i]? = some none) := by
  have hl : i < init.length := by rw [initOk_len h]; exact (List.getElem?_eq_some_iff.mp hi).1
  have ho : init[i]? = some init[i] := List.getElem?_eq_getElem hl
  have hz : (names.zip init)[i]? = some ((x, k), init[i]) := List.getElem?_zip_eq_some.mpr ⟨hi, ho⟩
  have h1 := initOk1_of (List.all_eq_true.mp (Bool.and_eq_true_iff.mp h).2 _ (List.mem_of_getElem? hz))
  rw [ho]
  rcases h1 with ⟨h2, j, k', h3, h4⟩ | ⟨h2, h3⟩
  · exact .inl ⟨h2, j, k', congrArg some h3, h4⟩
  · exact .inr ⟨h2, congrArg some h3⟩
theorem relabel_kind {scope : Scope} {env : Env} {i : Nat} {x : Str} {k : NameKind} (nd : (scope.names.map (·.1)).Nodup) (h : scope.names[i]? = some (x, k)) :
    (relabel scope env).names.lookup x = some (if (k == .free && env.scope.kind == .function && env.kindOf x == some .cell) then .cell else k) := by
  have e : (relabel scope env).names.map (·.1) = scope.names.map (·.1) := by
    unfold relabel
    simp only [List.map_map]
    apply List.map_congr_left
    rintro ⟨n, k⟩ _
    simp only [Function.comp]
    split <;> rfl
  refine lookup_of_nodup (i := i) (by rw [e]; exact nd) ?_
  unfold relabel
  simp only [List.getElem?_map, h, Option.map_some]
  split <;> rfl
theorem lookup_app {α β : Type} [BEq α] {l₁ l₂ : List (α × β)} {x : α} : (l₁ ++ l₂).lookup x = (l₁.lookup x).or (l₂.lookup x) := by
  induction l₁ with
  | nil => simp
  | cons p r ih =>
    obtain ⟨a, b⟩ := p
    simp only [List.cons_append, List.lookup_cons]
    cases x == a
    · simp [ih]
    · simp
/-- the context of a comprehension -/
noncomputable def Cx.comp (c : Cx) (sc : Scope) (C : Addr) (cells : List (Str × Addr)) (R0 : Led) : Cx :=
  { A := c.A, env := { scope := relabel sc c.env, locals := C, globals := c.env.globals, cells := cells, qual := c.env.qual, func := none, code := c.env.code, frame := c.env.frame, builtins := c.env.builtins }, L := C, stk := c.stk, R := R0, n := c.n, sc := sc }
/-- a context with one more object that rests -/
noncomputable def Cx.plus (c : Cx) (a : Addr) (o : Obj) : Cx := { c with R := (a, o) :: c.R }
theorem Cx.Ok.plus {c : Cx} (ok : c.Ok) (a : Addr) (o : Obj) : (c.plus a o).Ok :=
  ⟨ok.room, ok.kind, ok.glob, ok.blt, ok.loc, ok.nodup, ok.kinds, ok.globs, ok.inj, fun e he => by
    obtain ⟨h1, L, h2, h3⟩ := ok.own e he
    refine ⟨h1, L, h2, h3.imp_right ?_⟩
    rintro ⟨o', h4, h5⟩
    exact ⟨o', List.mem_cons_of_mem _ h4, h5⟩⟩
section
variable {G : Gx} {c : Cx} {loc : Loc} {μ : Mu} {F : Led} {s : Shared}
theorem comp_free (ok : c.Ok) {sc : Scope} {init : List (Option Nat)} {R : Led} (hi : initOk c.sc sc.names init = true) (x : Mine.Rep G c.renv c.L loc μ F R s) {y : Str} (hy : (y, NameKind.free) ∈ sc.names) : (c.env.cells.lookup y).isSome = true := by
  obtain ⟨i, hi'⟩ := List.mem_iff_getElem?.mp hy
  obtain ⟨⟨m, cs, clo, Fm, N, nd, hc, hl⟩, hs⟩ := x
  rcases initOk_get hi hi' with ⟨_, j, k', h1, h2, h3⟩ | ⟨h, _⟩
  · have hj : j < loc.length := by rw [hl.1]; exact (List.getElem?_eq_some_iff.mp h2).1
    have := hl.2 j y k' _ h2 (List.getElem?_eq_getElem hj)
    have key : ∀ {R : Led} {o : Option D}, CelR G F c.renv R y o → (c.env.cells.lookup y).isSome = true := by
      rintro R o ⟨a, ob, w, h4, _⟩
      have h4 : c.env.cells.lookup y = some a := h4
      rw [h4]; rfl
    rcases h3 with rfl | rfl
    · exact key this.c
    · exact key this.f
  · rcases h with h | h | h <;> cases h
inductive Entered (G : Gx) (c : Cx) (loc : Loc) (μ : Mu) (F : Led) (s : Shared) (sc : Scope) (init : List (Option Nat)) (it D : Addr) (oi oD : Obj) : Prop where
  | mk (R0 : Led) (ok : (c.comp sc s.heap.objs.size (cellsFrom (s.heap.objs.size + 1) sc.names (closL c.env.cells sc.names [])) R0).Ok)
      (r : Mine.Rep G (c.comp sc s.heap.objs.size (cellsFrom (s.heap.objs.size + 1) sc.names (closL c.env.cells sc.names [])) R0).renv s.heap.objs.size (initL init loc) μ F ((it, oi) :: (D, oD) :: R0)
        { s with heap := pushCells (s.heap.push { cls := .type "dict", data := .dict #[] }) sc.names })
      (back : ∀ loc' μ' F' s' oD', (∀ p ∈ F, p ∈ F') → Mine.Rep G (c.comp sc s.heap.objs.size (cellsFrom (s.heap.objs.size + 1) sc.names (closL c.env.cells sc.names [])) R0).renv s.heap.objs.size loc' μ' F' ((D, oD') :: R0) s' →
        ∃ oC m, (c.plus s.heap.objs.size oC).Rep G loc μ' ((D, oD') :: F') s' ∧ s'.heap.Ns s.heap.objs.size m ∧ ∀ w, oC.data ≠ .cell w)
theorem comp_enter (ok : c.Ok) {sc : Scope} {init : List (Option Nat)} {ts : List (Nat × Str × Pos)} {tk : Option (Nat × Pos)} (W : CompOk c.sc sc init ts tk) {it D : Addr} {oi oD : Obj} (hni : ∀ w, oi.data ≠ .cell w) (hnD : ∀ w, oD.data ≠ .cell w)
    (x : Mine.Rep G c.renv c.L loc μ F ((D, oD) :: (it, oi) :: c.R) s) :
    Entered G c loc μ F s sc init it D oi oD := by
  obtain ⟨m, oL, es, ep, clo, Fm, ho, hd, hk, hf, hl, H⟩ := x.toH
  have hnL : ∀ vs, oL.data ≠ .fields vs := fun vs q => by rw [hd] at q; cases q
  have hown : (cellsFrom (s.heap.objs.size + 1) sc.names []).map (·.1) = (cellsFrom 0 sc.names []).map (·.1) := cellsFrom_names sc.names _ _ [] [] rfl
  have hownN : ((cellsFrom (s.heap.objs.size + 1) sc.names []).map (·.1)).Nodup := hown ▸ W.cells
  have okc := cellsFrom_ok sc.names (s.heap.push { cls := .type "dict", data := .dict #[] }) (s.heap.objs.size + 1) [] ⟨fun _ _ hm => (nomatch hm), List.Pairwise.nil⟩ (by rw [Heap.size_push]; exact Nat.le_refl _)
  rw [Heap.size_push] at okc
  refine ⟨(c.L, oL) :: (clo ++ c.R), ⟨ok.room, W.kind, ok.glob, ok.blt, rfl, W.nd, ?_, ?_, ?_, ?_⟩, ?_, ?_⟩
  · intro i y k h
    have := relabel_kind (env := c.env) W.nd h
    show kindGoes k ((relabel sc c.env).names.lookup y)
    rw [this]
    cases k <;> simp [kindGoes]
    exact fun _ => Classical.em _
  · intro y h
    obtain ⟨i, hi⟩ := List.mem_iff_getElem?.mp (mem_of_lookup h)
    exact relabel_kind (env := c.env) W.nd hi
  · intro y z a hy hz h1 h2
    have key : ∀ {y}, (y, NameKind.cell) ∈ sc.names → (cellsFrom (s.heap.objs.size + 1) sc.names (closL c.env.cells sc.names [])).lookup y = some a → (y, a) ∈ cellsFrom (s.heap.objs.size + 1) sc.names [] := by
      intro y hy h
      obtain ⟨i, hi⟩ := List.mem_iff_getElem?.mp hy
      obtain ⟨b, hb⟩ := Option.isSome_iff_exists.mp (cellsFrom_some (x := y) sc.names (s.heap.objs.size + 1) [] (.inl (lookup_of_nodup W.nd hi)))
      rw [cellsFrom_append, lookup_app, hb] at h
      simp only [Option.some_or, Option.some.injEq] at h
      exact h ▸ mem_of_lookup hb
    exact name_of_addr okc.apart (key hy h1) (key hz h2)
  · intro e he
    obtain ⟨h1, L, h2, h3⟩ := ok.own e he
    refine ⟨h1, L, h2, .inr ?_⟩
    rcases h3 with rfl | ⟨o, h3, h4⟩
    · exact ⟨oL, List.mem_cons_self, hnL⟩
    · exact ⟨o, List.mem_cons_of_mem _ (List.mem_append_right _ h3), h4⟩
  · have H' : HRep G μ F ((it, oi) :: (D, oD) :: (c.L, oL) :: (clo ++ c.R)) s := H.permR (by
      refine List.Perm.trans (List.Perm.cons _ (l₂ := (it, oi) :: (D, oD) :: (clo ++ c.R)) ?_) ?_
      · refine List.perm_middle.trans ?_
        refine (List.Perm.cons _ List.perm_middle).trans ?_
        exact List.Perm.swap _ _ _
      · refine (List.Perm.swap _ _ _).trans (List.Perm.cons _ ?_)
        exact List.Perm.swap _ _ _)
    refine HRep.frame H' (env := (c.comp sc s.heap.objs.size (cellsFrom (s.heap.objs.size + 1) sc.names (closL c.env.cells sc.names [])) ((c.L, oL) :: (clo ++ c.R))).renv) (m := fun _ => none) (own := cellsFrom (s.heap.objs.size + 1) sc.names []) (cm := fun _ => none)
      (fun b o e => pushCells_keeps _ _ b o (Heap.get?_push_of_some _ e)) ((Heap.Ns.new s.heap (.type "dict")).keeps (pushCells_keeps _ _)) (fun n a hm => (okc.empty n a hm).imp id fun h => h) okc.apart (fun clo' hY => ?_) s.toks
    refine ⟨?_, fun i y k o h1 h2 => ?_⟩
    · show (initL init loc).length = sc.names.length
      unfold initL
      rw [List.length_map, initOk_len W.init]
    · have h1 : sc.names[i]? = some (y, k) := h1
      unfold initL at h2
      rcases initOk_get W.init h1 with ⟨rfl, j, k', g1, g2, g3⟩ | ⟨hk', g1⟩
      · rw [List.getElem?_map, g1] at h2
        simp only [Option.map_some, Option.some.injEq] at h2
        have hj : j < loc.length := by rw [hl.1]; exact (List.getElem?_eq_some_iff.mp g2).1
        have hs := hl.2 j y k' _ g2 (List.getElem?_eq_getElem hj)
        rw [List.getElem?_eq_getElem hj] at h2
        have hs' : CelR G F c.renv ((it, oi) :: (D, oD) :: (c.L, oL) :: (clo ++ c.R)) y loc[j] := by
          rcases g3 with rfl | rfl
          · exact hs.c.imp (fun _ _ _ _ q _ => List.mem_cons_of_mem _ (List.mem_cons_of_mem _ (List.mem_cons_of_mem _ (List.mem_append_left _ q)))) fun _ => id
          · refine hs.f.imp (fun a ob w _ f _ => ?_) fun _ => id
            rcases List.mem_cons.mp f with f | f
            · exact List.mem_cons_of_mem _ (List.mem_cons.mpr (.inl f))
            · rcases List.mem_cons.mp f with f | f
              · exact List.mem_cons.mpr (.inl f)
              · exact List.mem_cons_of_mem _ (List.mem_cons_of_mem _ (List.mem_cons_of_mem _ (List.mem_append_right _ f)))
        obtain ⟨a, ob, w, f1, f2, f3, f4⟩ := hs'
        refine .free rfl ⟨a, ob, w, ?_, f2, f3, fun d hd => f4 d ?_⟩
        · show (cellsFrom (s.heap.objs.size + 1) sc.names (closL c.env.cells sc.names [])).lookup y = some a
          rw [cellsFrom_append, lookup_app]
          have hnone : (cellsFrom (s.heap.objs.size + 1) sc.names []).lookup y = none := by
            cases hq : (cellsFrom (s.heap.objs.size + 1) sc.names []).lookup y with
            | none => rfl
            | some b =>
              have hm := cellsFrom_kind _ _ _ _ (mem_of_lookup hq)
              obtain ⟨i', hi'⟩ := List.mem_iff_getElem?.mp hm
              have := (lookup_of_nodup W.nd hi').symm.trans (lookup_of_nodup W.nd h1)
              cases this
          rw [hnone, Option.none_or]
          exact closL_lookup f1 _ _ W.nd (.inl (List.mem_of_getElem? h1))
        · rw [← h2] at hd
          simpa using hd
      · rw [List.getElem?_map, g1] at h2
        simp only [Option.map_some, Option.some.injEq] at h2
        subst h2
        rcases hk' with rfl | rfl | rfl
        · exact .loc rfl .none
        · obtain ⟨a, ha⟩ := Option.isSome_iff_exists.mp (cellsFrom_some (x := y) sc.names (s.heap.objs.size + 1) [] (.inl (lookup_of_nodup W.nd h1)))
          obtain ⟨ob, q1, q2⟩ := CellsAre.get hY (mem_of_lookup ha)
          refine .cell rfl ⟨a, ob, _, ?_, q1, q2, .none⟩
          show (cellsFrom (s.heap.objs.size + 1) sc.names (closL c.env.cells sc.names [])).lookup y = some a
          rw [cellsFrom_append, lookup_app, ha, Option.some_or]
        · exact .oth (fun h => by cases h) (fun h => by cases h) (fun h => by cases h) rfl
  · intro loc' μ' F' s' oD' hF y
    obtain ⟨m', oC, es', ep', clo', Fm', ho', hd', hk', hf', hl', H'⟩ := y.toH
    refine ⟨oC, m', ?_, Fm'.ns, fun w q => by rw [hd'] at q; cases q⟩
    have H2 : HRep G μ' F' ((s.heap.objs.size, oC) :: (D, oD') :: (c.L, oL) :: (clo ++ c.R)) s' := H'.subR G (List.Sublist.cons_cons _ (List.sublist_append_right clo' _))
    have H3 : HRep G μ' F' ((D, oD') :: (c.L, oL) :: (clo ++ ((s.heap.objs.size, oC) :: c.R))) s' := H2.permR (by
      refine (List.Perm.swap _ _ _).trans (List.Perm.cons _ ?_)
      refine (List.Perm.swap _ _ _).trans (List.Perm.cons _ ?_)
      exact List.perm_middle.symm)
    refine HRep.toRep G (HRep.freeze H3) Fm.above hd hk hf ?_
    refine (hl.mono G fun p hp => List.mem_cons_of_mem _ (hF p hp)).monoR fun p hp => ?_
    rcases List.mem_cons.mp hp with rfl | hp
    · exact .inl hnD
    · rcases List.mem_cons.mp hp with rfl | hp
      · exact .inl hni
      · exact .inr (List.mem_cons_of_mem _ hp)
end
noncomputable abbrev testsTree (ifs : List Expr) (env : Env) : Sem Bool := forIn ifs true fun c r => if r = true then do let ok ← isTrue c env (eval c env); pure (ForInStep.yield ok) else pure (ForInStep.yield r)
/-- the turns of a comprehension that raises nothing -/
theorem comp_turns {prog : Program} {w : World} {A : Around} {R : Result → Shared → Prop} {s : Shared} {elt target iter : Expr} {ifs : List Expr} {scope : Scope} {pos : Pos} {it acc : Value} {env : Env} (I : Nat → Shared → Prop)
    (turn : ∀ n s, I n s → wpAny (model prog w) A (pyNext it) (fun r s₁ => match r with
      | none => R (.ok .next) s₁
      | some v => wpAny (model prog w) A (letOwnedTupleGo target it v) (fun _ s₂ => wpAny (model prog w) A (assign target env v) (fun _ s₃ => wpAny (model prog w) A (testsTree ifs env) (fun ok s₄ => match ok with
        | true => wpAny (model prog w) A (eval elt env) (fun x s₅ => wpAny (model prog w) A (call (.builtin "list.append") [acc, x]) (fun _ s₆ => ∃ m, m < n ∧ I m s₆) (fun _ _ => False) s₅) (fun _ _ => False) s₄
        | false => ∃ m, m < n ∧ I m s₄) (fun _ _ => False) s₃) (fun _ _ => False) s₂) (fun _ _ => False) s₁) (fun _ _ => False) s)
    (n : Nat) (h : I n s) : codeAny (model prog w) A (.compLoop (.ListComp elt [⟨target, iter, ifs, 0⟩] scope pos) 0 it acc env) R s := by
  have up : ∀ {α : Type} {t : Sem α} {Q : α → Shared → Prop} {E : Value → Shared → Prop} {s : Shared}, wpAny (model prog w) A t Q (fun _ _ => False) s → wpAny (model prog w) A t Q E s := fun h => wpAny_mono h (fun _ _ q => q) fun _ _ f => f.elim
  refine codeAny_loop rfl I (fun n s hI => ?_) n h
  show wpAny _ A ((compTurn (.ListComp elt [⟨target, iter, ifs, 0⟩] scope pos) 0 it acc env).onRaise (fun x => do noteFrame x env; theTreesLotGoes x)) _ _ s
  refine wpAny_noted ?_
  rw [compTurn_list]
  refine up (wpAny_bind (wpAny_standAt (wpAny_bind (wpAny_mono (turn n s hI) (fun r s₁ h₁ => ?_) fun _ _ f => f))))
  cases r with
  | none => exact wpAny_pure h₁
  | some v =>
    refine wpAny_bind (wpAny_mono h₁ (fun _ s₂ h₂ => wpAny_bind (wpAny_mono h₂ (fun _ s₃ h₃ => wpAny_bind (wpAny_mono h₃ (fun ok s₄ h₄ => ?_) fun _ _ f => f)) fun _ _ f => f)) fun _ _ f => f)
    cases ok with
    | false => exact wpAny_pure ⟨rfl, h₄⟩
    | true => exact wpAny_bind (wpAny_bind (wpAny_mono h₄ (fun x s₅ h₅ => wpAny_bind (wpAny_mono h₅ (fun _ s₆ h₆ => wpAny_pure (wpAny_pure ⟨rfl, h₆⟩)) fun _ _ f => f)) fun _ _ f => f))
section
variable {G : Gx} {c : Cx} {loc : Loc} {μ : Mu} {F : Led} {s : Shared}
theorem setAll_get {i : Nat} {ts : List (Nat × Str × Pos)} : ∀ {ds : List D} {l : Loc}, i ∉ ts.map (·.1) → (setAll ts ds l)[i]? = l[i]? := by
  induction ts with
  | nil => intro ds l _; rfl
  | cons t ts ih =>
    intro ds l h
    cases ds with
    | nil => rfl
    | cons d ds => exact (ih fun q => h (List.mem_cons_of_mem _ q)).trans (List.getElem?_set_ne fun e : t.1 = i => h (List.mem_cons.mpr (.inl e.symm)))
theorem setAll_len {ts : List (Nat × Str × Pos)} : ∀ {ds : List D} {l : Loc}, (setAll ts ds l).length = l.length := by
  induction ts with
  | nil => intro ds l; rfl
  | cons t ts ih =>
    intro ds l
    cases ds with
    | nil => rfl
    | cons d ds => exact ih.trans List.length_set
theorem sub_mem {F F' : Led} {p : Addr × Obj} (h : ∀ p ∈ F, p ∈ F') (hp : p ∈ F) : p ∈ F' := h p hp
/-- the targets are names of the scope's own; what was there before them stays, or was not there -/
theorem comp_forget {outer sc : Scope} {init : List (Option Nat)} {ts : List (Nat × Str × Pos)} {tk : Option (Nat × Pos)} (W : CompOk outer sc init ts tk) {d : D} {loc loc' : Loc} (hb : bindO tk ts d (initL init loc) = some loc') :
    (initL init loc).length = loc'.length ∧ ∀ (i : Nat) (o : Option D), (initL init loc)[i]? = some o → loc'[i]? = some o ∨ o = none := by
  obtain ⟨us, es, hu, rfl⟩ : ∃ us es, (∀ t ∈ us, t ∈ ts) ∧ loc' = setAll us es (initL init loc) := by
    cases tk with
    | none => exact ⟨_, _, fun t ht => List.mem_of_mem_take ht, (bindT_setAll hb).2⟩
    | some kp => obtain ⟨ds, rfl, hb⟩ := bindO_tup hb; exact ⟨_, _, fun t ht => ht, (bindT_setAll hb).2⟩
  refine ⟨setAll_len.symm, fun i o ho => ?_⟩
  by_cases hi : i ∈ us.map (·.1)
  · right
    obtain ⟨t, ht, rfl⟩ := List.mem_map.mp hi
    obtain ⟨k, hy, hk⟩ := storeOk1_of (W.st t (hu t ht))
    unfold initL at ho
    rcases initOk_get W.init hy with ⟨rfl, _⟩ | ⟨_, g1⟩
    · rcases hk with h | h <;> cases h
    · rw [List.getElem?_map, g1] at ho
      exact (Option.some.inj ho).symm
  · left; rw [setAll_get hi]; exact ho
theorem comp_store {A : Around} {sc : Scope} {init : List (Option Nat)} {outer : Scope} {ts : List (Nat × Str × Pos)} {tk : Option (Nat × Pos)} (W : CompOk outer sc init ts tk) (ok : c.Ok) (hA : c.A = A) (hsc : c.sc = sc) {d : D} {v : Value} {l0 loc' : Loc} (hb : bindO tk ts d l0 = some loc') (r : c.Rep G l0 μ F s) (hv : RV G F d v)
    {Q' : Unit → Shared → Prop} (hQ : ∀ s', c.Rep G loc' μ F s' → Q' () s') : wpAny (model G.prog G.w) A (assign (tgt ts tk) c.env v) Q' (fun _ _ => False) s := by
  subst hA hsc
  cases tk with
  | none =>
    obtain ⟨t, rfl⟩ := List.length_eq_one_iff.mp (W.one rfl)
    have hb : some (setV l0 t.1 (some d)) = some loc' := hb
    rw [setV_eq] at hb
    cases hb
    exact assign_Name (store_sound ok r (W.st t List.mem_cons_self) hv hQ)
  | some kp =>
    obtain ⟨ds, rfl, hb⟩ := bindO_tup hb
    obtain ⟨b1, rfl⟩ := bindT_setAll hb
    exact unpack_sound ok r hv b1 W.st hQ
/-- the step of a comprehension, its parts told by what they mean -/
noncomputable def stepB (We : Loc → Mu → (D → Mu → Prop) → Prop) (Wc : Loc → Mu → (Bool → Mu → Prop) → Prop) (ts : List (Nat × Str × Pos)) (tk : Option (Nat × Pos)) (l0 : Loc) (d : D) (μ : Mu) (k : Option D → Mu → Prop) : Prop := match bindO tk ts d l0 with
  | some loc => Wc loc μ (fun c μ => pick c (We loc μ (fun v μ => k (some v) μ)) (k none μ))
  | none => False
theorem stepB_of {We : Loc → Mu → (D → Mu → Prop) → Prop} {Wc : Loc → Mu → (Bool → Mu → Prop) → Prop} {ts : List (Nat × Str × Pos)} {tk : Option (Nat × Pos)} {l0 : Loc} {d : D} {μ : Mu} {k : Option D → Mu → Prop} (h : stepB We Wc ts tk l0 d μ k) :
    ∃ loc, bindO tk ts d l0 = some loc ∧ Wc loc μ (fun c μ => pick c (We loc μ (fun v μ => k (some v) μ)) (k none μ)) := by
  unfold stepB at h
  cases hb : bindO tk ts d l0 with
  | none => rw [hb] at h; exact h.elim
  | some loc => rw [hb] at h; exact ⟨loc, rfl, h⟩
/-- what stands between two turns -/
inductive CompI (G : Gx) (c0 : Cx) (D0 it : Addr) (l0 : Loc) (F : Led) (K : List D → List D → Mu → Prop) (n : Nat) (s' : Shared) : Prop where
  | mk (μ : Mu) (F' : Led) (o : Obj) (vs : Array Value) (k : Nat) (ds acc : List D) (hn : n = ds.length) (hF : ∀ p ∈ F, p ∈ F') (r : ((c0.plus D0 (listOf vs k)).plus it o).Rep G l0 μ F' s') (hi : IterAt G F' o ds) (hr : RVs G F' acc vs.toList) (q : K ds acc μ)
theorem comp_loop {c0 : Cx} {D0 it : Addr} (ok0 : c0.Ok) {elt src : Expr} {ifs : List Expr} {ts : List (Nat × Str × Pos)} {tk : Option (Nat × Pos)} {outer sc : Scope} {init : List (Option Nat)} {p : Pos} (W : CompOk outer sc init ts tk) (hsc : c0.sc = sc) {N : Nat} (hn0 : c0.n = N)
    {We : Loc → Mu → (D → Mu → Prop) → Prop} {Wc : Loc → Mu → (Bool → Mu → Prop) → Prop}
    (helt : ∀ (c' : Cx) (loc : Loc) (μ : Mu) (F : Led) (s : Shared) (Q : D → Mu → Prop), c'.Ok → c'.sc = sc → c'.n = N → We loc μ Q → c'.Rep G loc μ F s → c'.wp G (eval elt c'.env) (c'.Post G loc F Q) False s)
    (hcond : ∀ (c' : Cx) (loc : Loc) (μ : Mu) (F : Led) (s : Shared) (Q : Bool → Mu → Prop), c'.Ok → c'.sc = sc → c'.n = N → Wc loc μ Q → c'.Rep G loc μ F s →
      c'.wp G (testsTree ifs c'.env) (PostB G c' loc F Q) False s)
    {Q : D → Mu → Prop} {RR : Result → Shared → Prop}
    (hR : ∀ μ F' vs k acc s', (∀ p ∈ F, p ∈ F') → Mine.Rep G c0.renv c0.L (initL init loc) μ F' ((D0, listOf vs k) :: c0.R) s' → RVs G F' acc vs.toList → Q (.lst acc) μ → RR (.ok .next) s')
    (n : Nat) (h : CompI G c0 D0 it (initL init loc) F (fun ds acc μ => gath (stepB We Wc ts tk (initL init loc)) ds acc μ Q) n s) :
    codeAny (model G.prog G.w) c0.A (.compLoop (.ListComp elt [⟨tgt ts tk, src, ifs, 0⟩] sc p) 0 (.ref it) (.ref D0) c0.env) RR s := by
  refine comp_turns _ ?_ n h
  rintro _ s' ⟨μ, F', o, vs, k, ds, acc, rfl, hF, r, hi, hr, q⟩
  cases ds with
  | nil => exact iter_end ok0.room.hand r hi fun s₁ r₁ => hR _ _ _ _ _ _ hF r₁ hr q.2
  | cons d ds =>
    obtain ⟨q0, q⟩ := q
    obtain ⟨loc', hb, q⟩ := stepB_of q
    refine iter_next r hi fun v o' s₁ r₁ hi₁ hv₁ => ?_
    have okq : ((c0.plus D0 (listOf vs k)).plus it o').Ok := (ok0.plus _ _).plus _ _
    refine iter_owned (r₁.getR List.mem_cons_self) hi₁ ?_
    refine comp_store (c := (c0.plus D0 (listOf vs k)).plus it o') W okq rfl hsc hb r₁ hv₁ fun s₂' r₂ => ?_
    obtain ⟨f1, f2⟩ := comp_forget W hb
    refine wpAny_mono (hcond ((c0.plus D0 (listOf vs k)).plus it o') loc' μ F' s₂' _ okq hsc hn0 q r₂) ?_ fun _ _ f => f.1
    rintro b s₃ ⟨μ', F'', g1, g2, g3⟩
    cases b with
    | false => exact ⟨ds.length, Nat.lt_succ_self _, μ', F'', o', vs, k, ds, acc, rfl, fun p hp => g1 p (hF p hp), g2.forget f1 f2, hi₁.mono g1, hr.mono G g1, g3.ok⟩
    | true =>
      refine wpAny_mono (helt ((c0.plus D0 (listOf vs k)).plus it o') loc' μ' F'' s₃ _ okq hsc hn0 g3.ok g2) ?_ fun _ _ f => f.1
      rintro y s₄ ⟨d', μ3, F3, e1, e2, e3, e4⟩
      have e2' : Mine.Rep G c0.renv c0.L loc' μ3 F3 ((D0, listOf vs k) :: (it, o') :: c0.R) s₄ := Rep.permR e2 (List.Perm.swap _ _ _)
      refine append_at (e2'.getR List.mem_cons_self) (fun h' hsb hnew => ?_) (by
        have hlen := hr.length
        rw [Array.length_toList] at hlen
        rw [hlen, sizeLine_eq]; unfold Fits at q0; omega)
      have hm3 : ∀ p ∈ F', p ∈ F3 := fun p hp => e1 p (g1 p hp)
      refine ⟨ds.length, Nat.lt_succ_self _, μ3, F3, o', vs.push y, k + 1, ds, acc ++ [d'], rfl, fun p hp => hm3 p (hF p hp), ?_, hi₁.mono hm3, ?_, e4⟩
      · exact (Rep.permR (e2'.changeR (fun w q => by cases q) hsb hnew s₄.toks) (List.Perm.swap _ _ _)).forget f1 f2
      · rw [Array.toList_push]
        exact (hr.mono G hm3).append ⟨y, [], rfl, e3, rfl⟩
theorem comp_run (ok : c.Ok) {elt src : Expr} {ifs : List Expr} {ts : List (Nat × Str × Pos)} {tk : Option (Nat × Pos)} {sc : Scope} {init : List (Option Nat)} {p : Pos} (w : compOk c.sc sc init ts tk = true)
    {We : Loc → Mu → (D → Mu → Prop) → Prop} {Wc : Loc → Mu → (Bool → Mu → Prop) → Prop}
    (helt : ∀ (c' : Cx) (loc : Loc) (μ : Mu) (F : Led) (s : Shared) (Q : D → Mu → Prop), c'.Ok → c'.sc = sc → c'.n = c.n → We loc μ Q → c'.Rep G loc μ F s → c'.wp G (eval elt c'.env) (c'.Post G loc F Q) False s)
    (hcond : ∀ (c' : Cx) (loc : Loc) (μ : Mu) (F : Led) (s : Shared) (Q : Bool → Mu → Prop), c'.Ok → c'.sc = sc → c'.n = c.n → Wc loc μ Q → c'.Rep G loc μ F s →
      c'.wp G (testsTree ifs c'.env) (PostB G c' loc F Q) False s)
    {d : D} {v : Value} {ds : List D} (x : c.Rep G loc μ F s) (hv : RV G F d v) (hs : srcOf d = some ds) {Q : D → Mu → Prop}
    (q : gath (stepB We Wc ts tk (initL init loc)) ds [] μ Q)
    {RR : Value → Addr → Result → Shared → Prop} {E : Value → Shared → Prop}
    (hRR : ∀ D C oC m acc μ' F' s', (∀ p ∈ F, p ∈ F') → (c.plus C oC).Rep G loc μ' F' s' → s'.heap.Ns C m → (∀ w, oC.data ≠ .cell w) → RV G F' (.lst acc) (.ref D) → Q (.lst acc) μ' → RR (.ref D) C (.ok .next) s') :
    wpAny (model G.prog G.w) c.A (pyIter v) (fun it s₂ => wpAny (model G.prog G.w) c.A (newList []) (fun acc s₃ => wpAny (model G.prog G.w) c.A (newFunctionEnv sc c.env.globals (closL c.env.cells sc.names []) [] c.env.qual none .none (some c.env))
      (fun cenv s₄ => codeAny (model G.prog G.w) c.A (.compStart (.ListComp elt [⟨tgt ts tk, src, ifs, 0⟩] sc p) 0 it acc { cenv with scope := relabel sc c.env }) (RR acc cenv.locals) s₄) E s₃) E s₂) E s := by
  refine iter_start x hv hs fun it oi s₂ x2 hi => ?_
  refine wpAny_newObj_type (newEnv_comp ?_)
  have x3 := x2.pushR (h' := s₂.heap.push { cls := .type "list", dict := none, data := .seq ([] : List Value).toArray }) (o := { cls := .type "list", dict := none, data := .seq ([] : List Value).toArray }) (fun b o e => Heap.get?_push_of_some _ e) (Heap.get?_push_size _ rfl) s₂.toks
  obtain ⟨R0, ok0, r0, back⟩ := comp_enter ok (compOk_of w) hi.nocell (fun w q => by cases q) x3
  have r0 := Rep.permR r0 (List.Perm.refl _)
  have loop := comp_loop (G := G) (elt := elt) (src := src) (p := p) (RR := RR (.ref s₂.heap.objs.size) _) ok0 (compOk_of w) rfl rfl helt hcond (fun μ F' vs k acc s' hF r₁ hr q => by
    obtain ⟨oC, m, b1, b2, b3⟩ := back _ _ _ _ _ hF r₁
    refine hRR _ _ oC m acc μ _ s' (fun p hp => List.mem_cons_of_mem _ (hF p hp)) b1 b2 b3 ?_ q
    exact ⟨_, _, vs, k, rfl, .inr List.mem_cons_self, ⟨rfl, rfl⟩, rfl, hr.mono G fun p hp => List.mem_cons_of_mem _ hp⟩) ds.length ⟨μ, F, oi, #[], 0, ds, [], rfl, fun _ h => h, r0, hi, rfl, q⟩
  exact codeAny_compStart_list loop (iter_self (r0.getR List.mem_cons_self) hi loop)
end
mutual
noncomputable def E.wf (G : KC) (sc : Scope) : E → Bool
  | .nil _ _ | .bool _ _ _ | .int _ _ _ | .neg _ _ _ _ | .str _ _ _ | .bytes _ _ _ => true
  | .var i x _ => slotOk sc i x
  | .gint v x _ => isGlobal sc x && (match nsIn G.K mainGlobals x with | some (some (.int i _)) => i == v | _ => false)
  | .known _ => isGlobal sc "_law_known" && knownOk G.K
  | .attr j e _ => decide (j < 7) && isVar e && e.wf G sc
  | .bin _ _ a b _ => a.wf G sc && b.wf G sc
  | .not a _ => a.wf G sc
  | .bop _ es _ => decide (0 < es.len) && es.wf G sc
  | .cmp1 _ a b _ => a.wf G sc && b.wf G sc
  | .cmp2 _ _ a b d _ => a.wf G sc && b.wf G sc && d.wf G sc
  | .ite t a b _ => t.wf G sc && a.wf G sc && b.wf G sc
  | .call f x _ as _ => isGlobal sc x && nsIn G.K mainGlobals x == some (some (.ref f)) && keepIn G.K (.ref f) && as.wf G sc
  | .meth f m o pa as p => plainO o && o.wf G sc && as.wf G sc && pa.endLine == p.line && decide (as.len < 30) && findIn G.K (.ref G.C) m == some (some (.ref f)) && isFn G.K (.ref f) && keepIn G.K (.ref f) && plainGet G.K G.C m && !fieldNames.contains m
  | .make x _ as _ => isGlobal sc x && nsIn G.K mainGlobals x == some (some (.ref G.C)) && keepIn G.K (.ref G.C) && as.wf G sc
  | .bi b _ as _ => isGlobal sc b.name && nsIn G.K mainGlobals b.name == some none && as.wf G sc
  | .bm _ o pa as p => plainO o && o.wf G sc && as.wf G sc && pa.endLine == p.line && decide (as.len < 30)
  | .idx o i _ => o.wf G sc && i.wf G sc
  | .slc o lo hi _ _ => o.wf G sc && lo.wf G sc && hi.wf G sc
  | .rev o _ _ _ _ _ => o.wf G sc
  | .list _ es _ => es.wf G sc
  | .tup es _ _ => es.wf G sc
  | .comp elt cond ts tk src sc' init _ => src.wf G sc && elt.wf G sc' && cond.wf G sc' && compOk sc sc' init ts tk
noncomputable def Es.wf (G : KC) (sc : Scope) : Es → Bool
  | .nil => true
  | .cons e r => e.wf G sc && r.wf G sc
noncomputable def Eo.wf (G : KC) (sc : Scope) : Eo → Bool
  | .none => true
  | .some e => e.wf G sc
end
theorem wfE_gint {G : KC} {sc : Scope} {v x p} : E.wf G sc (.gint v x p) = (isGlobal sc x && (match nsIn G.K mainGlobals x with | some (some (.int i _)) => i == v | _ => false)) := rfl
theorem wfE_known {G : KC} {sc : Scope} {x0} : E.wf G sc (.known x0) = (isGlobal sc "_law_known" && knownOk G.K) := rfl
theorem wfE_attr {G : KC} {sc : Scope} {j e x2} : E.wf G sc (.attr j e x2) = (decide (j < 7) && isVar e && e.wf G sc) := rfl
theorem wfE_bin {G : KC} {sc : Scope} {x0 x1 a b x4} : E.wf G sc (.bin x0 x1 a b x4) = (a.wf G sc && b.wf G sc) := rfl
theorem wfE_not {G : KC} {sc : Scope} {a x1} : E.wf G sc (.not a x1) = (a.wf G sc) := rfl
theorem wfE_bop {G : KC} {sc : Scope} {x0 es x2} : E.wf G sc (.bop x0 es x2) = (decide (0 < es.len) && es.wf G sc) := rfl
theorem wfE_cmp1 {G : KC} {sc : Scope} {x0 a b x3} : E.wf G sc (.cmp1 x0 a b x3) = (a.wf G sc && b.wf G sc) := rfl
theorem wfE_cmp2 {G : KC} {sc : Scope} {x0 x1 a b d x5} : E.wf G sc (.cmp2 x0 x1 a b d x5) = (a.wf G sc && b.wf G sc && d.wf G sc) := rfl
theorem wfE_ite {G : KC} {sc : Scope} {t a b x3} : E.wf G sc (.ite t a b x3) = (t.wf G sc && a.wf G sc && b.wf G sc) := rfl
theorem wfE_call {G : KC} {sc : Scope} {f x x2 as x4} : E.wf G sc (.call f x x2 as x4) = (isGlobal sc x && nsIn G.K mainGlobals x == some (some (.ref f)) && keepIn G.K (.ref f) && as.wf G sc) := rfl
theorem wfE_meth {G : KC} {sc : Scope} {f m o pa as p} : E.wf G sc (.meth f m o pa as p) = (plainO o && o.wf G sc && as.wf G sc && pa.endLine == p.line && decide (as.len < 30) && findIn G.K (.ref G.C) m == some (some (.ref f)) && isFn G.K (.ref f) && keepIn G.K (.ref f) && plainGet G.K G.C m && !fieldNames.contains m) := rfl
theorem wfE_make {G : KC} {sc : Scope} {x x1 as x3} : E.wf G sc (.make x x1 as x3) = (isGlobal sc x && nsIn G.K mainGlobals x == some (some (.ref G.C)) && keepIn G.K (.ref G.C) && as.wf G sc) := rfl
theorem wfE_bi {G : KC} {sc : Scope} {b x1 as x3} : E.wf G sc (.bi b x1 as x3) = (isGlobal sc b.name && nsIn G.K mainGlobals b.name == some none && as.wf G sc) := rfl
theorem wfE_bm {G : KC} {sc : Scope} {x0 o pa as p} : E.wf G sc (.bm x0 o pa as p) = (plainO o && o.wf G sc && as.wf G sc && pa.endLine == p.line && decide (as.len < 30)) := rfl
theorem wfE_idx {G : KC} {sc : Scope} {o i x2} : E.wf G sc (.idx o i x2) = (o.wf G sc && i.wf G sc) := rfl
theorem wfE_slc {G : KC} {sc : Scope} {o lo hi x3 x4} : E.wf G sc (.slc o lo hi x3 x4) = (o.wf G sc && lo.wf G sc && hi.wf G sc) := rfl
theorem wfE_rev {G : KC} {sc : Scope} {o x1 x2 x3 x4 x5} : E.wf G sc (.rev o x1 x2 x3 x4 x5) = (o.wf G sc) := rfl
theorem wfE_list {G : KC} {sc : Scope} {x0 es x2} : E.wf G sc (.list x0 es x2) = (es.wf G sc) := rfl
theorem wfE_tup {G : KC} {sc : Scope} {es x1 x2} : E.wf G sc (.tup es x1 x2) = (es.wf G sc) := rfl
theorem wfE_comp {G : KC} {sc : Scope} {elt cond ts tk src sc' init x7} : E.wf G sc (.comp elt cond ts tk src sc' init x7) = (src.wf G sc && elt.wf G sc' && cond.wf G sc' && compOk sc sc' init ts tk) := rfl
theorem wfEs_cons {G : KC} {sc : Scope} {e r} : Es.wf G sc (.cons e r) = (e.wf G sc && r.wf G sc) := rfl
theorem wfEo_some {G : KC} {sc : Scope} {e} : Eo.wf G sc (.some e) = (e.wf G sc) := rfl
section
variable {G : Gx} {rp : D → Str}
theorem known_val {G : Gx} (h : knownOk G.K = true) : ∃ v, nsIn G.K mainGlobals "_law_known" = some (some v) ∧ ∀ F, RV G F (.lst (knownL.map .int)) v := by
  unfold knownOk at h
  generalize hns : nsIn G.K mainGlobals "_law_known" = o at h ⊢
  cases o with
  | none => exact no_tt h
  | some o => cases o with
    | none => exact no_tt h
    | some v => cases v with
      | ref a =>
        dsimp only at h
        generalize hl : G.K.lookup a = ol at h
        cases ol with
        | none => exact no_tt h
        | some ob =>
          obtain ⟨cls, dict, data, sl⟩ := ob
          cases cls with
          | type t => cases dict with
            | some => exact no_tt h
            | none => cases data with
              | seq vs n =>
                dsimp only at h
                simp only [Bool.and_eq_true, beq_iff_eq, List.all_eq_true] at h
                obtain ⟨⟨h1, h2⟩, h3⟩ := h
                subst h1
                refine ⟨.ref a, rfl, fun F => ?_⟩
                refine ⟨a, _, vs, n, rfl, .inl (G.KX _ _ hl), ⟨rfl, rfl⟩, rfl, ?_⟩
                rw [← h2]
                generalize vs.toList = l at h3
                clear h2 hl
                induction l with
                | nil => rfl
                | cons v r ih =>
                  have h4 := h3 v List.mem_cons_self
                  have ih := ih fun u hu => h3 u (List.mem_cons_of_mem _ hu)
                  cases v <;> first | (cases h4; done) | exact ⟨_, _, rfl, ⟨_, rfl⟩, ih⟩
              | _ => exact no_tt h
          | _ => exact no_tt h
      | _ => exact no_tt h
theorem Post.weaken {c : Cx} {loc F F'} {Q : D → Mu → Prop} {v s'} (h : ∀ p ∈ F, p ∈ F') (x : c.Post G loc F' Q v s') : c.Post G loc F Q v s' := by
  obtain ⟨d, μ', F₂, h1, h2, h3, h4⟩ := x
  exact ⟨d, μ', F₂, fun p hp => h1 p (h p hp), h2, h3, h4⟩
theorem PostB.weaken {c : Cx} {loc F F'} {Q : Bool → Mu → Prop} {v s'} (h : ∀ p ∈ F, p ∈ F') (x : PostB G c loc F' Q v s') : PostB G c loc F Q v s' := by
  obtain ⟨μ', F₂, h1, h2, h4⟩ := x
  exact ⟨μ', F₂, fun p hp => h1 p (h p hp), h2, h4⟩
theorem PostS.weaken {c : Cx} {loc F F'} {Q : List D → Mu → Prop} {v s'} (h : ∀ p ∈ F, p ∈ F') (x : PostS G c loc F' Q v s') : PostS G c loc F Q v s' := by
  obtain ⟨d, μ', F₂, h1, h2, h3, h4⟩ := x
  exact ⟨d, μ', F₂, fun p hp => h1 p (h p hp), h2, h3, h4⟩
/-- evaluate, then go on -/
theorem Cx.seq {c : Cx} {loc F} {Q : D → Mu → Prop} {X : Prop} {t : Sem Value} {s : Shared} {Qv : Value → Shared → Prop} (h : c.wp G t (c.Post G loc F Q) X s)
    (k : ∀ v s' d μ' F', (∀ p ∈ F, p ∈ F') → c.Rep G loc μ' F' s' → RV G F' d v → Q d μ' → Qv v s') : c.wp G t Qv X s :=
  wpAny_mono h (fun v s' ⟨d, μ', F', h1, h2, h3, h4⟩ => k v s' d μ' F' h1 h2 h3 h4) fun _ _ e => e
noncomputable abbrev ws (G : Gx) (rp : D → Str) (c : Cx) (e : E) (loc : Loc) (μ : Mu) (Q : D → Mu → Prop) (X : Prop) : Prop := wpE (FS G c.n) (MK G c.n) rp e loc μ Q X
theorem rv_none : RV G F .none .none := rfl
theorem rv_bool (b : Bool) : RV G F (.bool b) (.bool b) := rfl
theorem cmpQ_of {op : CmpOp} {x y : D} {Q : Bool → Prop} (h : cmpQ op x y Q) : ∃ r, cmpS op x y = some r ∧ Q r := by
  unfold cmpQ at h
  cases e : cmpS op x y with
  | none => rw [e] at h; exact h.elim
  | some r => rw [e] at h; exact ⟨r, rfl, h⟩
theorem cmpX_of {op : CmpOp} {x y : D} {Q : Bool → Prop} (h : cmpX op x y Q) : ∃ r, cmpS op x y = some r ∧ Q r := cmpQ_of (cmpX_to h)
theorem idxQ_of {μ : Mu} {x y : D} {Q : D → Prop} (h : idxQ μ x y Q) : ∃ r, idxS μ x y = some r ∧ Q r := by
  unfold idxQ at h
  cases e : idxS μ x y with
  | none => rw [e] at h; exact h.elim
  | some r => rw [e] at h; exact ⟨r, rfl, h⟩
theorem rv_tup {F : Led} {a : Addr} {vs : List Value} {n : Nat} {ds : List D} (h : (a, ({ cls := .type "tuple", data := .seq vs.toArray n } : Obj)) ∈ F) (hr : RVs G F ds vs) : RV G F (.tup ds) (.ref a) := by
  exact ⟨a, _, vs.toArray, n, rfl, .inr h, rfl, rfl, hr⟩
/-- what repr must show -/
noncomputable def ReprOk (G : Gx) (rp : D → Str) : Prop := ∀ (c : Cx) (loc : Loc) (μ : Mu) (F : Led) (s : Shared) (Q : D → Mu → Prop) (X : Prop) (ds : List D) (vs : List Value), c.Ok → c.Rep G loc μ F s → RVs G F ds vs → biS rp .repr ds μ Q →
  c.wp G (call (.builtin "repr") vs) (c.Post G loc F Q) X s
theorem repr_sound {c : Cx} {loc : Loc} {μ : Mu} {F : Led} {s : Shared} {Q : D → Mu → Prop} {X : Prop} {ds : List D} {vs : List Value} (h : ReprOk G rp) (ok : c.Ok) (x : c.Rep G loc μ F s) (hr : RVs G F ds vs) (q : biS rp .repr ds μ Q) :
    c.wp G (call (.builtin "repr") vs) (c.Post G loc F Q) X s := h c loc μ F s Q X ds vs ok x hr q
theorem behind_false (op : CmpOp) (e : E) : behindInMarks op e.ast = false := by cases e <;> rfl
theorem sub_plain (e : E) (o i : Value) : subscripted e.ast false o i = operate [o, i] (getItem o i) := by cases e <;> rfl
theorem tie_true {c : Cx} {loc F} {Q : Bool → Mu → Prop} {X : Prop} {t : Sem Value} {s : Shared} (h : c.wp G t (c.Post G loc F fun d μ => asB d fun b => Q b μ) X s) :
    c.wp G (t >>= fun v => truthy v) (PostB G c loc F Q) X s :=
  wpAny_bind (Cx.seq h fun v s' d μ' F' h1 h2 h3 h4 => by
    obtain ⟨b, rfl, h5⟩ := asB_of h4
    subst h3
    exact wpAny_truthy_bool ⟨μ', F', h1, h2, h5⟩)
/-- a plain expression as a test -/
theorem test_value {c : Cx} {loc F} {Q : Bool → Mu → Prop} {X : Prop} {e : Expr} {t : Sem Value} {s : Shared} (h : c.wp G t (c.Post G loc F fun d μ => asB d fun b => Q b μ) X s)
    (he : isTrue e c.env t = (do let v ← t; standAt e.pos; holding [v] (truthy v))) : c.wp G (isTrue e c.env t) (PostB G c loc F Q) X s := by
  refine wpAny_isTrue_value (Cx.seq h fun v s' d μ' F' h1 h2 h3 h4 => ?_) he
  obtain ⟨b, rfl, h5⟩ := asB_of h4
  subst h3
  exact wpAny_truthy_bool ⟨μ', F', h1, h2, h5⟩
theorem method_any {c : Cx} {o : Expr} {name : Str} {apos pos : Pos} {as : Es} {s : Shared} {Qv : Value → Shared → Prop} {E : Value → Shared → Prop}
    (ho : attributeBase o name c.env (eval o c.env) = eval o c.env) (hp : (apos.endLine == pos.line) = true) (hl : as.len < 30)
    (h : wpAny (model G.prog G.w) c.A (eval o c.env) (fun ov s₁ => ∀ pl, wpAny (model G.prog G.w) c.A (getMethod ov name pl) (fun fx s₂ => wpAny (model G.prog G.w) c.A (callWith pos fx.1 fx.2 (backTo pos (starEach as.ast c.env)) []) Qv E s₂) E s₁) E s) :
    wpAny (model G.prog G.w) c.A (eval (.Call (.Attribute o name apos) as.ast [] pos) c.env) Qv E s := by
  show wpAny _ _ (attributeBase o name c.env (eval o c.env) >>= fun ov => standAt apos.atName >>= fun _ => methodCall o name apos pos c.env ov (as.ast.length + 0) (backTo pos (starEach as.ast c.env)) []) _ _ _
  rw [ho]
  refine wpAny_bind (wpAny_mono h (fun ov s₁ h₁ => wpAny_bind (wpAny_standAt ?_)) fun _ _ e => e)
  have hlen : ∀ es : Es, es.ast.length = es.len := fun es => go es
  have hform : methodCallForm (as.ast.length + 0) (backTo pos (starEach as.ast c.env)) [] = true := by
    unfold methodCallForm
    have h1 := stars_plain c.env pos as
    rw [List.any_eq_false] at h1
    have h2 : (backTo pos (starEach as.ast c.env)).all (!·.1) = true := by
      rw [List.all_eq_true]
      intro p hp
      simpa using h1 p hp
    rw [h2, hlen]
    simp
    omega
  unfold methodCall
  rw [hform]
  unfold calleeOf methodCallPos
  simp only [if_true]
  refine wpAny_bind (wpAny_holding (wpAny_mono (h₁ _) (fun fx s₂ h₂ => ?_) fun _ _ e => e))
  rw [hp]
  exact wpAny_bind (wpAny_pure h₂)
where
  go : ∀ es : Es, es.ast.length = es.len
    | .nil => rfl
    | .cons e r => by simp only [Es.ast, List.length_cons, Es.len, go r]
theorem base_plain (e : E) (name : Str) (env : Env) (h : plainO e = true) : attributeBase e.ast name env (eval e.ast env) = eval e.ast env := by
  cases e <;> first | rfl | exact no_tt h
theorem args_es {c : Cx} {f : Value} {pos : Pos} {as : Es} {s : Shared} {Qa : Args → Shared → Prop} {E : Value → Shared → Prop}
    (h : wpAny (model G.prog G.w) c.A (spliced (backTo pos (starEach as.ast c.env))) (fun vs s₁ => Qa ⟨vs, []⟩ s₁) E s) :
    wpAny (model G.prog G.w) c.A (evalArgs f true (backTo pos (starEach as.ast c.env)) []) Qa E s := by
  cases as with
  | nil =>
    unfold evalArgs
    show wpAny _ _ (spliced [] >>= _) _ _ _
    refine wpAny_bind (wpAny_mono h (fun vs s' h' => ?_) fun _ _ x => x)
    refine wpAny_holding ?_
    exact wpAny_bind (wpAny_pure (wpAny_bind (wpAny_pure (wpAny_pure h'))))
  | cons e r =>
    simp only [Es.ast] at h ⊢
    rw [star_one] at h ⊢
    exact evalArgs_plain h
/-- the built-in's call by its name -/
theorem callWith_bi {c : Cx} {b : Bi} {pos : Pos} {as : Es} {s : Shared} {Qv : Value → Shared → Prop} {E : Value → Shared → Prop}
    (h : wpAny (model G.prog G.w) c.A (spliced (backTo pos (starEach as.ast c.env))) (fun vs s₁ => wpAny (model G.prog G.w) c.A (call b.val vs) Qv E s₁) E s) :
    wpAny (model G.prog G.w) c.A (callWith pos b.val [] (backTo pos (starEach as.ast c.env)) []) Qv E s := by
  have hargs : ∀ f, wpAny (model G.prog G.w) c.A (evalArgs f true (backTo pos (starEach as.ast c.env)) []) (fun a s₁ => wpAny (model G.prog G.w) c.A (call b.val ([] ++ a.pos) a.kw) Qv E s₁) E s :=
    fun f => args_es h
  cases b
  all_goals first
    | exact callWith_builtin (stars_plain c.env pos as) (hargs _)
    | exact PyProof.Rows.callWith_type (stars_plain c.env pos as) (hargs _)
/-- a method of a built-in type -/
theorem callWith_bm {c : Cx} {b : Bm} {d : D} {pos : Pos} {a : Value} {as : Es} {s : Shared} {Qv : Value → Shared → Prop} {E : Value → Shared → Prop}
    (h : wpAny (model G.prog G.w) c.A (spliced (backTo pos (starEach as.ast c.env))) (fun vs s₁ => wpAny (model G.prog G.w) c.A (call (Bm.id d b) (a :: vs)) Qv E s₁) E s) :
    wpAny (model G.prog G.w) c.A (callWith pos (Bm.id d b) [a] (backTo pos (starEach as.ast c.env)) []) Qv E s := by
  cases b <;> exact callWith_builtin (stars_plain c.env pos as) (args_es h)
/-- a def of the text, called -/
theorem callWith_fn {c : Cx} {f : Addr} {first : List Value} {pos : Pos} {as : Es} {s : Shared} {Qv : Value → Shared → Prop} {E : Value → Shared → Prop} (hk : keepIn G.K (.ref f) = true)
    (h : wpAny (model G.prog G.w) c.A (spliced (backTo pos (starEach as.ast c.env))) (fun vs s₁ => G.K.In s₁.heap ∧ wpAny (model G.prog G.w) c.A (call (.ref f) (first ++ vs)) Qv E s₁) E s) :
    wpAny (model G.prog G.w) c.A (callWith pos (.ref f) first (backTo pos (starEach as.ast c.env)) []) Qv E s :=
  callWith_of (by rw [stars_plain]; rfl) (keeps_K hk) (args_es h)
/-- the soundness of an expression, as a value and as a test -/
noncomputable def SndE (G : Gx) (rp : D → Str) (e : E) : Prop := ∀ (c : Cx) (loc : Loc) (μ : Mu) (F : Led) (s : Shared) (Q : D → Mu → Prop) (X : Prop), c.Ok → e.wf G.kc c.sc = true → wpE (FS G c.n) (MK G c.n) rp e loc μ Q X → c.Rep G loc μ F s →
    c.wp G (eval e.ast c.env) (c.Post G loc F Q) X s
noncomputable def SndT (G : Gx) (rp : D → Str) (e : E) : Prop := ∀ (c : Cx) (loc : Loc) (μ : Mu) (F : Led) (s : Shared) (Q : Bool → Mu → Prop) (X : Prop), c.Ok → e.wf G.kc c.sc = true → wpE (FS G c.n) (MK G c.n) rp e loc μ (fun d μ => asB d fun b => Q b μ) X → c.Rep G loc μ F s →
    c.wp G (isTrue e.ast c.env (eval e.ast c.env)) (PostB G c loc F Q) X s
noncomputable abbrev Snd (G : Gx) (rp : D → Str) (e : E) : Prop := SndE G rp e ∧ SndT G rp e
noncomputable def SndA (G : Gx) (rp : D → Str) (es : Es) : Prop := ∀ (p : Pos) (c : Cx) (loc : Loc) (μ : Mu) (F : Led) (s : Shared) (Q : List D → Mu → Prop) (X : Prop), c.Ok → es.wf G.kc c.sc = true → wpEs (FS G c.n) (MK G c.n) rp es loc μ Q X → c.Rep G loc μ F s →
    c.wp G (spliced (backTo p (starEach es.ast c.env))) (PostS G c loc F Q) X s
noncomputable def SndB (G : Gx) (rp : D → Str) (es : Es) : Prop := ∀ (op : BoolOp) (p : Pos) (c : Cx) (loc : Loc) (μ : Mu) (F : Led) (s : Shared) (Q : D → Mu → Prop) (X : Prop), c.Ok → 0 < es.len → es.wf G.kc c.sc = true → wpB (FS G c.n) (MK G c.n) rp op es loc μ Q X → c.Rep G loc μ F s →
    c.wp G (boolOp p op (evalEach es.ast c.env)) (c.Post G loc F Q) X s
noncomputable def SndL (G : Gx) (rp : D → Str) (es : Es) : Prop := ∀ (op : BoolOp) (c : Cx) (loc : Loc) (μ : Mu) (F : Led) (s : Shared) (Q : Bool → Mu → Prop) (X : Prop), c.Ok → es.wf G.kc c.sc = true → wpB (FS G c.n) (MK G c.n) rp op es loc μ (fun d μ => asB d fun b => Q b μ) X → c.Rep G loc μ F s →
    c.wp G (allTrue op es.ast c.env) (PostB G c loc F Q) X s
noncomputable abbrev SndS (G : Gx) (rp : D → Str) (es : Es) : Prop := SndA G rp es ∧ SndB G rp es ∧ SndL G rp es
noncomputable def SndO (G : Gx) (rp : D → Str) (eo : Eo) : Prop := ∀ (c : Cx) (loc : Loc) (μ : Mu) (F : Led) (s : Shared) (Q : Option D → Mu → Prop) (X : Prop), c.Ok → eo.wf G.kc c.sc = true → wpO (FS G c.n) (MK G c.n) rp eo loc μ Q X → c.Rep G loc μ F s →
    c.wp G (evalPart eo.ast c.env) (fun v s' => ∃ o μ' F', (∀ p ∈ F, p ∈ F') ∧ c.Rep G loc μ' F' s' ∧ PartV o v ∧ Q o μ') X s
theorem e_nil {k : Nat} {p : Pos}  : SndE G rp (.nil k p) := by
  intro c loc μ F s Q X ok w q x
  exact wpAny_Constant_none (Post.here x rv_none q)
theorem e_bool {b : Bool} {k : Nat} {p : Pos}  : SndE G rp (.bool b k p) := by
  intro c loc μ F s Q X ok w q x
  exact wpAny_Constant_bool (Post.here x (rv_bool b) q)
theorem e_int {i : Int} {k : Nat} {p : Pos}  : SndE G rp (.int i k p) := by
  intro c loc μ F s Q X ok w q x
  exact wpAny_Constant_int (Post.here (x.toks _) (rv_int _ _) q)
theorem e_neg {i : Int} {k : Nat} {p₁ : Pos} {p : Pos}  : SndE G rp (.neg i k p₁ p) := by
  intro c loc μ F s Q X ok w q x
  refine wpAny_UnaryOp (wpAny_Constant_int ?_)
  exact P.neg_int (Post.here (x.toks _) (rv_int _ _) q)
theorem e_str {t : Str} {k : Nat} {p : Pos}  : SndE G rp (.str t k p) := by
  intro c loc μ F s Q X ok w q x
  exact wpAny_Constant_str (Post.here (x.toks _) (rv_str _ _) q)
theorem e_bytes {l : List UInt8} {k : Nat} {p : Pos}  : SndE G rp (.bytes l k p) := by
  intro c loc μ F s Q X ok w q x
  have e : (l.map fun u : UInt8 => (u.toNat : Int)).map toU = l := by
    rw [List.map_map]
    conv => rhs; rw [← List.map_id l]
    apply List.map_congr_left
    intro u _
    simp [toU]
  have h := rv_bytes (G := G) (F := F) (l := l.map fun u : UInt8 => (u.toNat : Int)) (fun i hi => by
    obtain ⟨u, _, rfl⟩ := List.mem_map.mp hi
    exact ⟨Int.natCast_nonneg _, by have := u.toNat_lt; omega⟩) s.toks
  rw [e] at h
  exact Constant_bytes (Post.here (x.toks _) h q)
theorem e_var {i : Nat} {y : Str} {p : Pos}  : SndE G rp (.var i y p) := by
  intro c loc μ F s Q X ok w q x
  obtain ⟨d, hd, q⟩ := getV_of q
  exact var_sound ok x w hd q
theorem e_gint {v : Int} {y : Str} {p : Pos}  : SndE G rp (.gint v y p) := by
  intro c loc μ F s Q X ok w q x
  simp only [wfE_gint, Bool.and_eq_true] at w
  obtain ⟨w1, w2⟩ := w
  split at w2
  · rename_i i t hv
    rw [beq_iff_eq] at w2
    subst w2
    exact glob_name ok x w1 hv (Post.here x (rv_int _ _) q)
  · cases w2
theorem e_known {p : Pos}  : SndE G rp (.known p) := by
  intro c loc μ F s Q X ok w q x
  simp only [wfE_known, Bool.and_eq_true] at w
  obtain ⟨w1, w2⟩ := w
  obtain ⟨v, hv, hr⟩ := known_val w2
  exact glob_name ok x w1 hv (Post.here x (hr F) q)
theorem e_attr {j : Nat} {e : E} {p : Pos} (he : Snd G rp e) : SndE G rp (.attr j e p) := by
  intro c loc μ F s Q X ok w q x
  simp only [wfE_attr, Bool.and_eq_true, decide_eq_true_eq] at w
  obtain ⟨⟨w1, w2⟩, w3⟩ := w
  obtain ⟨i, y, p', rfl⟩ := isVar_of w2
  have ih := he.1 c loc μ F s (fun d μ => Rg (getF μ d j fun v => Q v μ)) X ok w3 q x
  refine Attribute_Name_ (Cx.seq ih fun v s' d μ' F' h1 h2 h3 h4 => ?_)
  refine wpAny_mono (getF_sound h2 h3 h4.ok) ?_ fun _ _ e => e
  rintro v' s'' ⟨r, h5, h6, tk, rfl⟩
  exact Post.weaken h1 (Post.here (h2.toks tk) h5 h6)
theorem e_bin {op : Operator} {m : Bool} {a : E} {b : E} {p : Pos} (ha : Snd G rp a) (hb : Snd G rp b) : SndE G rp (.bin op m a b p) := by
  intro c loc μ F s Q X ok w q x
  simp only [wfE_bin, Bool.and_eq_true] at w
  refine wpAny_BinOp (Cx.seq (ha.1 c loc μ F s _ X ok w.1 q x) fun v s' d μ' F' h1 h2 h3 h4 => ?_)
  refine Cx.seq (hb.1 c loc μ' F' s' _ X ok w.2 h4 h2) fun v' s'' d' μ'' F'' h5 h6 h7 h8 => ?_
  refine wpAny_mono (binS_sound h6 (h3.mono G h5) h7 (binY_to h8)) (fun v s y => Post.weaken (fun p hp => h5 p (h1 p hp)) y) fun _ _ e => e
theorem e_not {a : E} {p : Pos} (ha : Snd G rp a) : SndE G rp (.not a p) := by
  intro c loc μ F s Q X ok w q x
  simp only [wfE_not] at w
  refine wpAny_UnaryOp (Cx.seq (ha.1 c loc μ F s _ X ok w q x) fun v s' d μ' F' h1 h2 h3 h4 => ?_)
  obtain ⟨b, rfl, h5⟩ := asB_of h4
  subst h3
  exact not_value (wpAny_truthy_bool (Post.weaken h1 (Post.here h2 (rv_bool _) h5)))
theorem e_bop {op : BoolOp} {es : Es} {p : Pos} (hes : SndS G rp es) : SndE G rp (.bop op es p) := by
  intro c loc μ F s Q X ok w q x
  simp only [wfE_bop, Bool.and_eq_true, decide_eq_true_eq] at w
  exact hes.2.1 op p c loc μ F s Q X ok w.1 w.2 q x
theorem e_cmp1 {op : CmpOp} {a : E} {b : E} {p : Pos} (ha : Snd G rp a) (hb : Snd G rp b) : SndE G rp (.cmp1 op a b p) := by
  intro c loc μ F s Q X ok w q x
  simp only [wfE_cmp1, Bool.and_eq_true] at w
  refine wpAny_Compare1 (Cx.seq (ha.1 c loc μ F s _ X ok w.1 q x) fun v s' d μ' F' h1 h2 h3 h4 => ?_) (behind_false op b)
  refine Cx.seq (hb.1 c loc μ' F' s' _ X ok w.2 h4 h2) fun v' s'' d' μ'' F'' h5 h6 h7 h8 => ?_
  obtain ⟨r, hr, h8⟩ := cmpX_of h8
  · refine wpAny_mono (cmpS_sound (by have := ok.room.units; omega) h6 (h3.mono G h5) h7 hr) ?_ fun _ _ e => e
    rintro v s ⟨rfl, rfl⟩
    exact Post.weaken (fun p hp => h5 p (h1 p hp)) (Post.here h6 (rv_bool _) h8)
theorem e_cmp2 {o1 : CmpOp} {o2 : CmpOp} {a : E} {b : E} {d : E} {p : Pos} (ha : Snd G rp a) (hb : Snd G rp b) (hd : Snd G rp d) : SndE G rp (.cmp2 o1 o2 a b d p) := by
  intro c loc μ F s Q X ok w q x
  simp only [wfE_cmp2, Bool.and_eq_true] at w
  have hu : c.A.units + 64 < cLine := by have := ok.room.units; omega
  show c.wp G (eval a.ast c.env >>= fun l => compareChain p l [o1, o2] (markedEach [o1, o2] [b.ast, d.ast] (evalEach [b.ast, d.ast] c.env))) _ X s
  refine wpAny_bind (Cx.seq (ha.1 c loc μ F s _ X ok w.1.1 q x) fun v s' d1 μ' F' h1 h2 h3 h4 => ?_)
  show wpAny _ _ (do
    let rv ← holding [v] (eval b.ast c.env)
    standAt p
    let r ← holding [v, rv] (compareOp o1 v rv)
    release [v, rv] [r]
    if ← holding [r, rv] (truthy r) then compareChain p rv [o2] [markedBehindIn o2 d.ast (eval d.ast c.env)] else pure r) _ _ _
  refine wpAny_bind (wpAny_holding (Cx.seq (hb.1 c loc μ' F' s' _ X ok w.1.2 h4 h2) fun v' s'' d' μ'' F'' h5 h6 h7 h8 => ?_))
  refine wpAny_bind (wpAny_standAt (wpAny_bind (wpAny_holding ?_)))
  obtain ⟨r, hr, h8⟩ := cmpX_of h8
  cases r
  rotate_left
  · refine wpAny_mono (cmpS_sound hu h6 (h3.mono G h5) h7 hr) ?_ fun _ _ e => e
    rintro r s ⟨rfl, rfl⟩
    refine wpAny_bind (wpAny_release (wpAny_bind (wpAny_holding (wpAny_truthy_bool ?_))))
    simp only [if_true]
    show wpAny _ _ (do
      let rv ← holding [v'] (markedBehindIn o2 d.ast (eval d.ast c.env))
      standAt p
      operate [v', rv] (compareOp o2 v' rv)) _ _ _
    rw [markedBehindIn_of_false (behind_false o2 d)]
    refine wpAny_bind (wpAny_holding (Cx.seq (hd.1 c loc μ'' F'' _ _ X ok w.2 h8.ok h6) fun v3 s3 d3 μ3 F3 g1 g2 g3 g4 => ?_))
    obtain ⟨r2, hr2, g4⟩ := cmpX_of g4
    ·
      refine wpAny_bind (wpAny_standAt (wpAny_operating (wpAny_mono (cmpS_sound hu g2 (h7.mono G g1) g3 hr2) ?_ fun _ _ e => e)))
      rintro r s ⟨rfl, rfl⟩
      exact Post.weaken (fun p hp => g1 p (h5 p (h1 p hp))) (Post.here g2 (rv_bool _) g4)
  · refine wpAny_mono (cmpS_sound hu h6 (h3.mono G h5) h7 hr) ?_ fun _ _ e => e
    rintro r s ⟨rfl, rfl⟩
    refine wpAny_bind (wpAny_release (wpAny_bind (wpAny_holding (wpAny_truthy_bool ?_))))
    simp only [Bool.false_eq_true, if_false]
    exact wpAny_pure (Post.weaken (fun p hp => h5 p (h1 p hp)) (Post.here h6 (rv_bool _) h8.ok))
theorem e_ite {t : E} {a : E} {b : E} {p : Pos} (ht : Snd G rp t) (ha : Snd G rp a) (hb : Snd G rp b) : SndE G rp (.ite t a b p) := by
  intro c loc μ F s Q X ok w q x
  simp only [wfE_ite, Bool.and_eq_true] at w
  refine wpAny_IfExp (wpAny_mono (ht.2 c loc μ F s (fun b' μ => pick b' (wpE (FS G c.n) (MK G c.n) rp a loc μ Q X) (wpE (FS G c.n) (MK G c.n) rp b loc μ Q X)) X ok w.1.1 q x) ?_ fun _ _ e => e)
  rintro r s' ⟨μ', F', h1, h2, h3⟩
  cases r with
  | true => exact wpAny_mono (ha.1 c loc μ' F' s' Q X ok w.1.2 h3.ok h2) (fun _ _ y => Post.weaken h1 y) fun _ _ e => e
  | false => exact wpAny_mono (hb.1 c loc μ' F' s' Q X ok w.2 h3.ok h2) (fun _ _ y => Post.weaken h1 y) fun _ _ e => e
theorem e_call {f : Nat} {y : Str} {px : Pos} {as : Es} {p : Pos} (has : SndS G rp as) : SndE G rp (.call f y px as p) := by
  intro c loc μ F s Q X ok w q x
  simp only [wfE_call, Bool.and_eq_true, beq_iff_eq] at w
  obtain ⟨⟨⟨w1, w2⟩, w3⟩, w4⟩ := w
  refine Call_Name rfl (glob_name ok x w1 w2 (callWith_fn w3 ?_))
  refine wpAny_mono (has.1 p c loc μ F s _ X ok w4 q x) ?_ fun _ _ e => e
  rintro vs s' ⟨ds, μ', F', h1, h2, h3, h4⟩
  obtain ⟨m, Fm⟩ := h2.view
  refine ⟨G.KX.keeps Fm.keep, wpAny_mono (Cx.callee ok h2 h3 fun R hR H => h4.ok c.A c.stk F' R s' vs ok.room hR H h3) (fun _ _ y => Post.weaken h1 y) fun _ _ e => e⟩
theorem e_meth {f : Nat} {m : Str} {o : E} {pa : Pos} {as : Es} {p : Pos} (ho : Snd G rp o) (has : SndS G rp as) : SndE G rp (.meth f m o pa as p) := by
  intro c loc μ F s Q X ok w q x
  simp only [wfE_meth, Bool.and_eq_true, beq_iff_eq, decide_eq_true_eq, Bool.not_eq_true'] at w
  obtain ⟨⟨⟨⟨⟨⟨⟨⟨⟨w1, w2⟩, w3⟩, w4⟩, w5⟩, w6⟩, w7⟩, w8⟩, w9⟩, w10⟩ := w
  refine method_any (base_plain o m c.env w1) (by rw [w4]; exact beq_self_eq_true _) w5 (Cx.seq (ho.1 c loc μ F s _ X ok w2 q x) fun ov s' d μ' F' h1 h2 h3 h4 pl => ?_)
  obtain ⟨h4, h5⟩ := h4
  obtain ⟨dx, rfl, k1⟩ := asObj_of h4
  obtain ⟨fs, hl, _⟩ := instC_of k1
  have h3' := h3
  obtain ⟨b, rfl, hb⟩ := (show ∃ x, ov = Value.ref x ∧ (x, instObj G.C dx) ∈ F' from h3)
  obtain ⟨es, n, i1, i2⟩ := lookup_inst h2 hl
  obtain ⟨m', Fm⟩ := h2.view
  refine method_inst Fm G.KX (inst_at h2 hb i1) w9 w6 w7 (i2.miss fun hm => ?_) (callWith_fn w8 ?_)
  · rw [List.contains_iff_mem.mpr hm] at w10; cases w10
  · refine wpAny_mono (has.1 p c loc μ' F' s' _ X ok w3 h5 h2) ?_ fun _ _ e => e
    rintro vs s'' ⟨ds, μ'', F'', g1, g2, g3, g4⟩
    obtain ⟨m'', Fm⟩ := g2.view
    have g5 : RVs G F'' (.obj dx :: ds) (.ref b :: vs) := ⟨_, _, rfl, h3'.mono G g1, g3⟩
    exact ⟨G.KX.keeps Fm.keep, wpAny_mono (Cx.callee ok g2 g5 fun R hR H => g4.ok c.A c.stk F'' R s'' _ ok.room hR H g5) (fun _ _ y => Post.weaken (fun p hp => g1 p (h1 p hp)) y) fun _ _ e => e⟩
theorem e_make {y : Str} {px : Pos} {as : Es} {p : Pos} (has : SndS G rp as) : SndE G rp (.make y px as p) := by
  intro c loc μ F s Q X ok w q x
  simp only [wfE_make, Bool.and_eq_true, beq_iff_eq] at w
  obtain ⟨⟨⟨w1, w2⟩, w3⟩, w4⟩ := w
  refine Call_Name rfl (glob_name ok x w1 w2 (callWith_fn w3 ?_))
  refine wpAny_mono (has.1 p c loc μ F s _ X ok w4 q x) ?_ fun _ _ e => e
  rintro vs s' ⟨ds, μ', F', h1, h2, h3, h4⟩
  obtain ⟨m, Fm⟩ := h2.view
  refine ⟨G.KX.keeps Fm.keep, wpAny_mono (Cx.callee ok h2 h3 fun R hR H => h4.ok c.A c.stk F' R s' vs ok.room hR H h3) (fun _ _ y => Post.weaken h1 y) fun _ _ e => e⟩
theorem e_bi {b : Bi} {px : Pos} {as : Es} {p : Pos} (has : SndS G rp as) (hrp : ReprOk G rp) : SndE G rp (.bi b px as p) := by
  intro c loc μ F s Q X ok w q x
  simp only [wfE_bi, Bool.and_eq_true, beq_iff_eq] at w
  obtain ⟨⟨w1, w2⟩, w3⟩ := w
  refine Call_Name rfl (boot_name ok x w1 w2 (bi_boot b).1 (bi_boot b).2 (callWith_bi ?_))
  refine wpAny_mono (has.1 p c loc μ F s _ X ok w3 q x) ?_ fun _ _ e => e
  rintro vs s' ⟨ds, μ', F', h1, h2, h3, h4⟩
  by_cases hb : b = .repr
  · subst hb
    exact wpAny_mono (repr_sound hrp ok h2 h3 h4.ok) (fun _ _ y => Post.weaken h1 y) fun _ _ e => e
  · exact wpAny_mono (biS_sound ok.room.hand h2 h3 hb h4.ok) (fun _ _ y => Post.weaken h1 y) fun _ _ e => e
theorem e_bm {b : Bm} {o : E} {pa : Pos} {as : Es} {p : Pos} (ho : Snd G rp o) (has : SndS G rp as) : SndE G rp (.bm b o pa as p) := by
  intro c loc μ F s Q X ok w q x
  simp only [wfE_bm, Bool.and_eq_true, beq_iff_eq, decide_eq_true_eq] at w
  obtain ⟨⟨⟨⟨w1, w2⟩, w3⟩, w4⟩, w5⟩ := w
  refine method_any (base_plain o b.name c.env w1) (by rw [w4]; exact beq_self_eq_true _) w5 (Cx.seq (ho.1 c loc μ F s _ X ok w2 q x) fun ov s' d μ' F' h1 h2 h3 h4 pl => ?_)
  obtain ⟨h4, h5⟩ := h4
  refine getMethod_bm h2 h3 h4 (callWith_bm (d := d) ?_)
  refine wpAny_mono (has.1 p c loc μ' F' s' _ X ok w3 h5 h2) ?_ fun _ _ e => e
  rintro vs s' ⟨ds, μ'', F'', g1, g2, g3, g4⟩
  exact wpAny_mono (call_bm g2 (h3.mono G g1) g3 g4.ok) (fun _ _ y => Post.weaken (fun p hp => g1 p (h1 p hp)) y) fun _ _ e => e
theorem e_idx {o : E} {i : E} {p : Pos} (ho : Snd G rp o) (hi : Snd G rp i) : SndE G rp (.idx o i p) := by
  intro c loc μ F s Q X ok w q x
  simp only [wfE_idx, Bool.and_eq_true] at w
  refine Subscript_ (Cx.seq (ho.1 c loc μ F s _ X ok w.1 q x) fun v s' d μ' F' h1 h2 h3 h4 => ?_)
  refine Cx.seq (hi.1 c loc μ' F' s' _ X ok w.2 h4 h2) fun v' s'' d' μ'' F'' h5 h6 h7 h8 => ?_
  obtain ⟨r, hr, h8⟩ := idxQ_of h8.ok
  · refine wpAny_mono (idx_sound (sub_plain i) h6 (h3.mono G h5) h7 hr) ?_ fun _ _ e => e
    rintro v s ⟨hv, tk, rfl⟩
    exact Post.weaken (fun p hp => h5 p (h1 p hp)) (Post.here (h6.toks tk) hv h8)
theorem e_slc {o : E} {lo : Eo} {hi : Eo} {ps : Pos} {p : Pos} (ho : Snd G rp o) (hlo : SndO G rp lo) (hhi : SndO G rp hi) : SndE G rp (.slc o lo hi ps p) := by
  intro c loc μ F s Q X ok w q x
  simp only [wfE_slc, Bool.and_eq_true] at w
  refine Subscript_ (Cx.seq (ho.1 c loc μ F s _ X ok w.1.1 q x) fun v s' d μ' F' h1 h2 h3 h4 => ?_)
  refine wpAny_Slice (wpAny_mono (hlo c loc μ' F' s' _ X ok w.1.2 h4 h2) ?_ fun _ _ e => e)
  rintro vl s1 ⟨l, μ1, F1, a1, a2, a3, a4⟩
  refine wpAny_mono (hhi c loc μ1 F1 s1 _ X ok w.2 a4 a2) ?_ fun _ _ e => e
  rintro vu s2 ⟨h, μ2, F2, b1, b2, b3, b4⟩
  refine wpAny_pure ?_
  have y := b2.push (G := G) (o := { cls := .type "slice", data := .fields #[vl, vu, .none] }) rfl s2.toks
  have hm : ∀ p ∈ F2, p ∈ (s2.heap.objs.size, ({ cls := .type "slice", data := .fields #[vl, vu, .none] } : Obj)) :: F2 := fun p hp => List.mem_cons_of_mem _ hp
  refine wpAny_mono (slc_sound (fun o i => rfl) y (h3.mono G fun p hp => hm p (b1 p (a1 p hp))) (Heap.IsSliceOf.new _ _ _ _) ?_ ?_ b4.ok) (fun _ _ y => Post.weaken (fun p hp => hm p (b1 p (a1 p (h1 p hp)))) y) fun _ _ e => e
  · exact a3
  · exact b3
theorem e_rev {o : E} {q1 : Pos} {q2 : Pos} {q3 : Pos} {ps : Pos} {p : Pos} (ho : Snd G rp o) : SndE G rp (.rev o q1 q2 q3 ps p) := by
  intro c loc μ F s Q X ok w q x
  simp only [wfE_rev] at w
  refine Subscript_ (Cx.seq (ho.1 c loc μ F s _ X ok w q x) fun v s' d μ' F' h1 h2 h3 h4 => ?_)
  refine wpAny_Slice (wpAny_pure (wpAny_pure ?_))
  rw [evalPart_some]
  refine wpAny_UnaryOp (wpAny_Constant_int (P.neg_int ?_))
  have y := (h2.toks (s'.toks + 1 + 1)).push (G := G) (o := { cls := .type "slice", data := .fields #[.none, .none, .int (-1) (s'.toks + 1)] }) rfl (s'.toks + 1 + 1)
  have hm : ∀ p ∈ F', p ∈ (s'.heap.objs.size, ({ cls := .type "slice", data := .fields #[.none, .none, .int (-1) (s'.toks + 1)] } : Obj)) :: F' := fun p hp => List.mem_cons_of_mem _ hp
  refine wpAny_mono (rev_sound (fun o i => rfl) y (h3.mono G hm) (Heap.IsSliceOf.new _ _ _ _) h4.ok) (fun _ _ y => Post.weaken (fun p hp => hm p (h1 p hp)) y) fun _ _ e => e
theorem e_list {m : Bool} {es : Es} {p : Pos} (hes : SndS G rp es) : SndE G rp (.list m es p) := by
  intro c loc μ F s Q X ok w q x
  simp only [wfE_list] at w
  refine wpAny_List (wpAny_mono (hes.1 p c loc μ F s _ X ok w q x) ?_ fun _ _ e => e)
  rintro vs s' ⟨ds, μ', F', h1, h2, h3, h4⟩
  refine ⟨?_, Post.weaken h1 (newL_push h2 h3 h4.ok)⟩
  rw [h3.length, sizeLine_eq]
  have := h4.ok.1
  unfold Fits at this
  omega
theorem e_tup {es : Es} {k : Nat} {p : Pos} (hes : SndS G rp es) : SndE G rp (.tup es k p) := by
  intro c loc μ F s Q X ok w q x
  simp only [wfE_tup] at w
  refine wpAny_Tuple (wpAny_mono (hes.1 p c loc μ F s _ X ok w q x) ?_ fun _ _ e => e)
  rintro vs s' ⟨ds, μ', F', h1, h2, h3, h4⟩
  obtain ⟨h4, h5⟩ := h4
  unfold Fits at h4
  refine ⟨by rw [h3.length, sizeLine_eq]; omega, ?_⟩
  have y := h2.push (G := G) (o := { cls := .type "tuple", data := .seq vs.toArray }) rfl s'.toks
  have hm : ∀ p ∈ F', p ∈ (s'.heap.objs.size, ({ cls := .type "tuple", data := .seq vs.toArray } : Obj)) :: F' := fun p hp => List.mem_cons_of_mem _ hp
  exact ⟨.tup ds, μ', _, fun p hp => hm p (h1 p hp), y, rv_tup List.mem_cons_self (h3.mono G hm), h5⟩
theorem folded_none {env : Env} {e : E} (x : Value) : foldedSetIterable e.ast env x = pure x := by cases e <;> rfl
/-- what a comprehension's run wants of its parts -/
theorem comp_elt {c : Cx} {elt : E} {sc : Scope} (helt : Snd G rp elt) (w : elt.wf G.kc sc = true) : ∀ (c' : Cx) (loc : Loc) (μ : Mu) (F : Led) (s : Shared) (Q : D → Mu → Prop), c'.Ok → c'.sc = sc → c'.n = c.n →
    wpE (FS G c.n) (MK G c.n) rp elt loc μ Q False → c'.Rep G loc μ F s → c'.wp G (eval elt.ast c'.env) (c'.Post G loc F Q) False s := by
  intro c' loc μ F s Q ok h1 h2 q x
  subst h1
  rw [← h2] at q
  exact helt.1 c' loc μ F s Q False ok w q x
theorem comp_cond {c : Cx} {cond : Eo} {sc : Scope} (hcond : ∀ e, cond = .some e → Snd G rp e) (w : cond.wf G.kc sc = true) : ∀ (c' : Cx) (loc : Loc) (μ : Mu) (F : Led) (s : Shared) (Q : Bool → Mu → Prop), c'.Ok → c'.sc = sc → c'.n = c.n →
    wpC (FS G c.n) (MK G c.n) rp cond loc μ Q → c'.Rep G loc μ F s → c'.wp G (testsTree cond.asts c'.env) (PostB G c' loc F Q) False s := by
  intro c' loc μ F s Q ok h1 h2 q x
  subst h1
  cases cond with
  | none =>
    exact wpAny_tests_nil ⟨μ, F, fun _ h => h, x, q⟩
  | some e =>
    simp only [wfEo_some] at w
    rw [← h2] at q
    exact wpAny_tests_one ((hcond e rfl).2 c' loc μ F s Q False ok w q x)
theorem comp_hyps {c : Cx} {sc : Scope} {init : List (Option Nat)} {ts : List (Nat × Str × Pos)} {tk : Option (Nat × Pos)} (w : compOk c.sc sc init ts tk = true) :
    initOk c.sc sc.names init = true ∧ sc.kind = .function ∧ ∀ x ∈ sc.names, x.2 = .local → sc.names.lookup x.1 = some .local := by
  unfold compOk at w
  simp only [Bool.and_eq_true, beq_iff_eq, decide_eq_true_eq] at w
  obtain ⟨⟨⟨⟨⟨w1, w2⟩, w3⟩, w4⟩, w5⟩, w6⟩ := w
  refine ⟨w4, w1, ?_⟩
  rintro ⟨y, k⟩ hx rfl
  obtain ⟨i, hi⟩ := List.mem_iff_getElem?.mp hx
  exact lookup_of_nodup w2 hi
theorem e_comp {elt : E} {cond : Eo} {ts : List (Nat × Str × Pos)} {tk : Option (Nat × Pos)} {src : E} {sc : Scope} {init : List (Option Nat)} {p : Pos} (helt : Snd G rp elt) (hcond : ∀ e, cond = .some e → Snd G rp e) (hsrc : Snd G rp src) : SndE G rp (.comp elt cond ts tk src sc init p) := by
  intro c loc μ F s Q X ok w q x
  simp only [wfE_comp, Bool.and_eq_true] at w
  obtain ⟨⟨⟨w1, w2⟩, w3⟩, w4⟩ := w
  obtain ⟨h1, h2, h3⟩ := comp_hyps w4
  show c.wp G (eval (.ListComp elt.ast [⟨tgt ts tk, src.ast, cond.asts, 0⟩] sc p) c.env) _ X s
  rw [eval_ListComp]
  refine wpAny_comprehension_free (use := none) rfl folded_none (closure_pure fun y hy => comp_free ok h1 x hy) h2 h3 ?_
  refine Cx.seq (hsrc.1 c loc μ F s _ X ok w1 q x) fun v s' d μ' F' g1 g2 g3 g4 => ?_
  obtain ⟨ds, hds, g4⟩ := g4
  unfold kCo2 at g4
  rw [initX_eq] at g4
  · refine comp_run ok w4 (comp_elt helt w2) (comp_cond hcond w3) g2 g3 hds g4 (RR := fun acc C => compPost (model G.prog G.w) c.A (c.Ex G X) none (c.Post G loc F Q) acc C) fun D C oC m acc μ2 F2 s2 k1 k2 k3 k4 k5 k6 => ?_
    exact ⟨m, k3, fun h' hsb => ⟨.lst acc, μ2, F2, fun p hp => k1 p (g1 p hp), Rep.dropBut k2 k4 hsb.extBut, k5, k6⟩⟩
theorem t_not {a : E} {p : Pos} (ha : Snd G rp a) : SndT G rp (.not a p) := by
  intro c loc μ F s Q X ok w q x
  simp only [wfE_not] at w
  refine wpAny_isTrue_Not (wpAny_mono (ha.2 c loc μ F s (fun b μ => Q (!b) μ) X ok w q x) (fun b s y => by cases y with | mk μ' F' h1 h2 h3 => exact ⟨μ', F', h1, h2, h3⟩) fun _ _ e => e)
theorem t_bop {op : BoolOp} {es : Es} {p : Pos} (hes : SndS G rp es) : SndT G rp (.bop op es p) := by
  intro c loc μ F s Q X ok w q x
  simp only [wfE_bop, Bool.and_eq_true, decide_eq_true_eq] at w
  exact wpAny_isTrue_BoolOp (hes.2.2 op c loc μ F s Q X ok w.2 q x)
theorem t_ite {t : E} {a : E} {b : E} {p : Pos} (ht : Snd G rp t) (ha : Snd G rp a) (hb : Snd G rp b) : SndT G rp (.ite t a b p) := by
  intro c loc μ F s Q X ok w q x
  simp only [wfE_ite, Bool.and_eq_true] at w
  refine isTrue_IfExp (wpAny_mono (ht.2 c loc μ F s (fun b' μ => pick b' (wpE (FS G c.n) (MK G c.n) rp a loc μ (fun d μ => asB d fun b => Q b μ) X) (wpE (FS G c.n) (MK G c.n) rp b loc μ (fun d μ => asB d fun b => Q b μ) X)) X ok w.1.1 q x) ?_ fun _ _ e => e)
  rintro r s' ⟨μ', F', h1, h2, h3⟩
  cases r with
  | true => exact wpAny_mono (ha.2 c loc μ' F' s' Q X ok w.1.2 h3.ok h2) (fun _ _ y => PostB.weaken h1 y) fun _ _ e => e
  | false => exact wpAny_mono (hb.2 c loc μ' F' s' Q X ok w.2 h3.ok h2) (fun _ _ y => PostB.weaken h1 y) fun _ _ e => e
theorem t_cmp1 {op : CmpOp} {a : E} {b : E} {p : Pos} (ha : Snd G rp a) (hb : Snd G rp b) : SndT G rp (.cmp1 op a b p) := by
  intro c loc μ F s Q X ok w q x
  simp only [wfE_cmp1, Bool.and_eq_true] at w
  refine wpAny_isTrue_Compare1 (Cx.seq (ha.1 c loc μ F s _ X ok w.1 q x) fun v s' d μ' F' h1 h2 h3 h4 => ?_) (behind_false op b)
  refine Cx.seq (hb.1 c loc μ' F' s' _ X ok w.2 h4 h2) fun v' s'' d' μ'' F'' h5 h6 h7 h8 => ?_
  obtain ⟨r, hr, h8⟩ := cmpX_of h8
  · refine wpAny_mono (cmpS_sound (by have := ok.room.units; omega) h6 (h3.mono G h5) h7 hr) ?_ fun _ _ e => e
    rintro v s ⟨rfl, rfl⟩
    exact wpAny_truthy_bool ⟨μ'', F'', fun p hp => h5 p (h1 p hp), h6, h8⟩
theorem t_cmp2 {o1 : CmpOp} {o2 : CmpOp} {a : E} {b : E} {d : E} {p : Pos} (ha : Snd G rp a) (hb : Snd G rp b) (hd : Snd G rp d) : SndT G rp (.cmp2 o1 o2 a b d p) := by
  intro c loc μ F s Q X ok w q x
  simp only [wfE_cmp2, Bool.and_eq_true] at w
  have hu : c.A.units + 64 < cLine := by have := ok.room.units; omega
  show c.wp G (eval a.ast c.env >>= fun l => testChain p l [o1, o2] (markedEach [o1, o2] [b.ast, d.ast] (evalEach [b.ast, d.ast] c.env))) _ X s
  refine wpAny_bind (Cx.seq (ha.1 c loc μ F s _ X ok w.1.1 q x) fun v s' d1 μ' F' h1 h2 h3 h4 => ?_)
  show wpAny _ _ (do
    let rv ← holding [v] (eval b.ast c.env)
    standAt p
    let r ← holding [v, rv] (compareOp o1 v rv)
    release [v, rv] [r]
    if ← holding [r, rv] (truthy r) then testChain p rv [o2] [markedBehindIn o2 d.ast (eval d.ast c.env)] else pure false) _ _ _
  refine wpAny_bind (wpAny_holding (Cx.seq (hb.1 c loc μ' F' s' _ X ok w.1.2 h4 h2) fun v' s'' d' μ'' F'' h5 h6 h7 h8 => ?_))
  refine wpAny_bind (wpAny_standAt (wpAny_bind (wpAny_holding ?_)))
  obtain ⟨r, hr, h8⟩ := cmpX_of h8
  cases r
  rotate_left
  · refine wpAny_mono (cmpS_sound hu h6 (h3.mono G h5) h7 hr) ?_ fun _ _ e => e
    rintro r s ⟨rfl, rfl⟩
    refine wpAny_bind (wpAny_release (wpAny_bind (wpAny_holding (wpAny_truthy_bool ?_))))
    simp only [if_true]
    show wpAny _ _ (do
      let rv ← holding [v'] (markedBehindIn o2 d.ast (eval d.ast c.env))
      standAt p
      let r ← operate [v', rv] (compareOp o2 v' rv)
      holding [r] (truthy r)) _ _ _
    rw [markedBehindIn_of_false (behind_false o2 d)]
    refine wpAny_bind (wpAny_holding (Cx.seq (hd.1 c loc μ'' F'' _ _ X ok w.2 h8.ok h6) fun v3 s3 d3 μ3 F3 g1 g2 g3 g4 => ?_))
    obtain ⟨r2, hr2, g4⟩ := cmpX_of g4
    ·
      refine wpAny_bind (wpAny_standAt (wpAny_bind (wpAny_operating (wpAny_mono (cmpS_sound hu g2 (h7.mono G g1) g3 hr2) ?_ fun _ _ e => e))))
      rintro r s ⟨rfl, rfl⟩
      exact wpAny_holding (wpAny_truthy_bool ⟨μ3, F3, fun p hp => g1 p (h5 p (h1 p hp)), g2, g4⟩)
  · refine wpAny_mono (cmpS_sound hu h6 (h3.mono G h5) h7 hr) ?_ fun _ _ e => e
    rintro r s ⟨rfl, rfl⟩
    refine wpAny_bind (wpAny_release (wpAny_bind (wpAny_holding (wpAny_truthy_bool ?_))))
    simp only [Bool.false_eq_true, if_false]
    exact wpAny_pure ⟨μ'', F'', fun p hp => h5 p (h1 p hp), h6, h8.ok⟩
theorem t_plain {e : E} (h : SndE G rp e) (he : ∀ env, isTrue e.ast env (eval e.ast env) = (do let v ← eval e.ast env; standAt e.ast.pos; holding [v] (truthy v))) : SndT G rp e :=
  fun c loc μ F s Q X ok w q x => test_value (h c loc μ F s _ X ok w q x) (he _)
theorem a_nil  : SndA G rp .nil := by
  intro p c loc μ F s Q X ok w q x
  exact wpAny_items_nil ⟨[], μ, F, fun _ h => h, x, rfl, q⟩
theorem a_cons {e : E} {r : Es} (he : Snd G rp e) (hr : SndS G rp r) : SndA G rp (.cons e r) := by
  intro p c loc μ F s Q X ok w q x
  simp only [wfEs_cons, Bool.and_eq_true] at w
  refine wpAny_items_cons (Cx.seq (he.1 c loc μ F s _ X ok w.1 q x) fun v s' d μ' F' h1 h2 h3 h4 => ?_) (star_one e r.ast c.env)
  refine wpAny_mono (hr.1 p c loc μ' F' s' _ X ok w.2 h4 h2) ?_ fun _ _ e => e
  rintro vs s'' ⟨ds, μ'', F'', g1, g2, g3, g4⟩
  exact ⟨d :: ds, μ'', F'', fun p hp => g1 p (h1 p hp), g2, ⟨v, vs, rfl, h3.mono G g1, g3⟩, g4⟩
theorem wpB_cons {FS : TF} {MK : TM} {op : BoolOp} {e : E} {r : Es} {loc : Loc} {μ : Mu} {Q : D → Mu → Prop} {X : Prop} (q : wpB FS MK rp op (.cons e r) loc μ Q X) : wpE FS MK rp e loc μ (fun d μ => asB d fun b => match op with
    | .And => pick b (wpB FS MK rp op r loc μ Q X) (Q (.bool false) μ)
    | .Or => pick b (Q (.bool true) μ) (wpB FS MK rp op r loc μ Q X)) X := by
  cases op <;> exact q
theorem l_nil  : SndL G rp .nil := by
  intro op c loc μ F s Q X ok w q x
  cases op
  · exact wpAny_allTrue_And_nil ⟨μ, F, fun _ h => h, x, q⟩
  · exact wpAny_allTrue_Or_nil ⟨μ, F, fun _ h => h, x, q⟩
theorem l_cons {e : E} {r : Es} (he : Snd G rp e) (hr : SndS G rp r) : SndL G rp (.cons e r) := by
  intro op c loc μ F s Q X ok w q x
  replace q := wpB_cons q
  simp only [wfEs_cons, Bool.and_eq_true] at w
  have ih := he.2 c loc μ F s _ X ok w.1 q x
  cases op
  · refine wpAny_allTrue_And_cons (wpAny_mono ih ?_ fun _ _ e => e)
    rintro b s' ⟨μ', F', h1, h2, h3⟩
    cases b with
    | false => exact ⟨μ', F', h1, h2, h3.ok⟩
    | true => exact wpAny_mono (hr.2.2 .And c loc μ' F' s' Q X ok w.2 h3.ok h2) (fun _ _ y => PostB.weaken h1 y) fun _ _ e => e
  · refine wpAny_allTrue_Or_cons (wpAny_mono ih ?_ fun _ _ e => e)
    rintro b s' ⟨μ', F', h1, h2, h3⟩
    cases b with
    | true => exact ⟨μ', F', h1, h2, h3.ok⟩
    | false => exact wpAny_mono (hr.2.2 .Or c loc μ' F' s' Q X ok w.2 h3.ok h2) (fun _ _ y => PostB.weaken h1 y) fun _ _ e => e
theorem b_nil  : SndB G rp .nil := by
  intro op p c loc μ F s Q X ok hl w q x
  exact absurd hl (Nat.lt_irrefl _)
theorem b_one {e : E} (he : Snd G rp e) : SndB G rp (.cons e .nil) := by
  intro op p c loc μ F s Q X ok hl w q x
  replace q := wpB_cons q
  simp only [wfEs_cons, Bool.and_eq_true] at w
  refine Cx.seq (he.1 c loc μ F s _ X ok w.1 q x) fun v s' d μ' F' h1 h2 h3 h4 => ?_
  obtain ⟨b, rfl, h5⟩ := asB_of h4
  refine Post.weaken h1 (Post.here h2 h3 ?_)
  cases op <;> cases b <;> exact h5.ok
theorem b_more {e e2 : E} {r : Es} (he : Snd G rp e) (hr : SndB G rp (.cons e2 r)) : SndB G rp (.cons e (.cons e2 r)) := by
  intro op p c loc μ F s Q X ok hl w q x
  replace q := wpB_cons q
  simp only [wfEs_cons, Bool.and_eq_true] at w
  show c.wp G (do
    let v ← eval e.ast c.env
    standAt p
    let t ← holding [v] (truthy v)
    match op, t with
    | .And, false | .Or, true => pure v
    | _, _ => boolOp p op (evalEach (Es.cons e2 r).ast c.env)) _ X s
  refine wpAny_bind (Cx.seq (he.1 c loc μ F s _ X ok w.1 q x) fun v s' d μ' F' h1 h2 h3 h4 => ?_)
  obtain ⟨b, rfl, h5⟩ := asB_of h4
  have h3' := h3
  subst h3
  refine wpAny_bind (wpAny_standAt (wpAny_bind (wpAny_holding (wpAny_truthy_bool ?_))))
  have ih := fun q => hr op p c loc μ' F' s' Q X ok (Nat.succ_pos _) (by simp only [wfEs_cons, Bool.and_eq_true]; exact w.2) q h2
  cases op <;> cases b
  · exact wpAny_pure (Post.weaken h1 (Post.here h2 h3' h5.ok))
  · exact wpAny_mono (ih h5.ok) (fun _ _ y => Post.weaken h1 y) fun _ _ e => e
  · exact wpAny_mono (ih h5.ok) (fun _ _ y => Post.weaken h1 y) fun _ _ e => e
  · exact wpAny_pure (Post.weaken h1 (Post.here h2 h3' h5.ok))
theorem b_cons {e : E} {r : Es} (he : Snd G rp e) (hr : SndS G rp r) : SndB G rp (.cons e r) := by
  cases r with
  | nil => exact b_one he
  | cons e2 r => exact b_more he hr.2.1
theorem o_none  : SndO G rp .none := by
  intro c loc μ F s Q X ok w q x
  exact wpAny_pure ⟨none, μ, F, fun _ h => h, x, rfl, q⟩
theorem o_some {e : E} (he : Snd G rp e) : SndO G rp (.some e) := by
  intro c loc μ F s Q X ok w q x
  simp only [wfEo_some] at w
  simp only [Eo.ast]
  rw [evalPart_some]
  refine Cx.seq (he.1 c loc μ F s _ X ok w q x) fun v s' d μ' F' h1 h2 h3 h4 => ?_
  obtain ⟨i, rfl, h5⟩ := asI_of h4
  obtain ⟨t, rfl⟩ := h3
  exact ⟨some (.int i), μ', F', h1, h2, ⟨i, t, rfl, rfl⟩, h5⟩
theorem snd_all (hrp : ReprOk G rp) (e : E) : Snd G rp e :=
  E.rec (motive_1 := Snd G rp) (motive_2 := SndS G rp) (motive_3 := fun eo => SndO G rp eo ∧ ∀ e, eo = .some e → Snd G rp e)
    (fun _ _ => ⟨(e_nil ), (t_plain (e_nil ) fun _ => rfl)⟩)
    (fun _ _ _ => ⟨(e_bool ), (t_plain (e_bool ) fun _ => rfl)⟩)
    (fun _ _ _ => ⟨(e_int ), (t_plain (e_int ) fun _ => rfl)⟩)
    (fun _ _ _ _ => ⟨(e_neg ), (t_plain (e_neg ) fun _ => rfl)⟩)
    (fun _ _ _ => ⟨(e_str ), (t_plain (e_str ) fun _ => rfl)⟩)
    (fun _ _ _ => ⟨(e_bytes ), (t_plain (e_bytes ) fun _ => rfl)⟩)
    (fun _ _ _ => ⟨(e_var ), (t_plain (e_var ) fun _ => rfl)⟩)
    (fun _ _ _ => ⟨(e_gint ), (t_plain (e_gint ) fun _ => rfl)⟩)
    (fun _ => ⟨(e_known ), (t_plain (e_known ) fun _ => rfl)⟩)
    (fun _ _ _ he => ⟨(e_attr he), (t_plain (e_attr he) fun _ => rfl)⟩)
    (fun _ _ _ _ _ ha hb => ⟨(e_bin ha hb), (t_plain (e_bin ha hb) fun _ => rfl)⟩)
    (fun _ _ ha => ⟨(e_not ha), (t_not ha)⟩)
    (fun _ _ _ hes => ⟨(e_bop hes), (t_bop hes)⟩)
    (fun _ _ _ _ ha hb => ⟨(e_cmp1 ha hb), (t_cmp1 ha hb)⟩)
    (fun _ _ _ _ _ _ ha hb hd => ⟨(e_cmp2 ha hb hd), (t_cmp2 ha hb hd)⟩)
    (fun _ _ _ _ ht ha hb => ⟨(e_ite ht ha hb), (t_ite ht ha hb)⟩)
    (fun _ _ _ _ _ has => ⟨(e_call has), (t_plain (e_call has) fun _ => rfl)⟩)
    (fun _ _ _ _ _ _ ho has => ⟨(e_meth ho has), (t_plain (e_meth ho has) fun _ => rfl)⟩)
    (fun _ _ _ _ has => ⟨(e_make has), (t_plain (e_make has) fun _ => rfl)⟩)
    (fun _ _ _ _ has => ⟨(e_bi has hrp), (t_plain (e_bi has hrp) fun _ => rfl)⟩)
    (fun _ _ _ _ _ ho has => ⟨(e_bm ho has), (t_plain (e_bm ho has) fun _ => rfl)⟩)
    (fun _ _ _ ho hi => ⟨(e_idx ho hi), (t_plain (e_idx ho hi) fun _ => rfl)⟩)
    (fun _ _ _ _ _ ho hlo hhi => ⟨(e_slc ho hlo.1 hhi.1), (t_plain (e_slc ho hlo.1 hhi.1) fun _ => rfl)⟩)
    (fun _ _ _ _ _ _ ho => ⟨(e_rev ho), (t_plain (e_rev ho) fun _ => rfl)⟩)
    (fun _ _ _ hes => ⟨(e_list hes), (t_plain (e_list hes) fun _ => rfl)⟩)
    (fun _ _ _ hes => ⟨(e_tup hes), (t_plain (e_tup hes) fun _ => rfl)⟩)
    (fun _ _ _ _ _ _ _ _ helt hcond hsrc => ⟨(e_comp helt hcond.2 hsrc), (t_plain (e_comp helt hcond.2 hsrc) fun _ => rfl)⟩)
    ⟨a_nil, b_nil, l_nil⟩
    (fun _ _ he hr => ⟨a_cons he hr, b_cons he hr, l_cons he hr⟩)
    ⟨o_none, fun _ h => False.elim (cast (congrArg Eo.isS h.symm) trivial)⟩
    (fun _ he => ⟨o_some he, fun e h => (show _ = e from congrArg (Eo.val · e) h) ▸ he⟩)
    e
end
theorem slot_brepr : Slot "bytes" "__repr__" "bytes.__repr__" :=
  .of (owner := "bytes") (n := "__repr__") (by rw [typeLookup_type, builtinLookup_eq_fast]; kernel_rfl) (by decide +kernel) (by decide +kernel) (by decide +kernel)
    (by first | exact .inl (by decide +kernel) | exact .inr (by decide +kernel)) (by rw [isSubtype_type]; kernel_rfl)
theorem entry_brepr : entryFor table "bytes.__repr__" = some Builtin.«bytes.__repr__» := entryFor_of_tree (by kernel_rfl)
theorem args_brepr (a : Value) : argsOk "bytes.__repr__" ⟨[a], []⟩ := by unfold argsOk; kernel_rfl
theorem foldl_size (f : UInt8 → Array Nat) (hf : ∀ c, (f c).size ≤ 4) : ∀ (l : List UInt8) (acc : Array Nat), (l.foldl (fun acc c => acc ++ f c) acc).size ≤ acc.size + 4 * l.length
  | [], acc => by simp
  | c :: l, acc => by
    have ih := foldl_size f hf l (acc ++ f c)
    have := hf c
    simp only [List.foldl_cons, Array.size_append, List.length_cons] at ih ⊢
    tb_start
theorem literal_len (l : List UInt8) : (Builtin.Bytes.literal l.toArray).length ≤ 4 * l.length + 3 := by
  unfold Builtin.Bytes.literal
  simp only [List.foldl_toArray]
  show (Array.push _ _).size ≤ _
  rw [Array.size_push]
  have := foldl_size (fun c : UInt8 => (fun (c : Nat) => if c == (if false = true then 39 else (if l.toArray.contains 39 && !l.toArray.contains 34 then 34 else 39)) || c == 92 then #[92, c]
    else if c == 9 then #[92, 116]
    else if c == 10 then #[92, 110]
    else if c == 13 then #[92, 114]
    else if c < 32 || c ≥ 127 then #[92, 120, (if c / 16 < 10 then 48 + c / 16 else 87 + c / 16), (if c % 16 < 10 then 48 + c % 16 else 87 + c % 16)]
    else #[c]) c.toNat) (fun c => by
      dsimp only
      repeat' split
      all_goals simp) l #[98, (if l.toArray.contains 39 && !l.toArray.contains 34 then 34 else 39)]
  refine Nat.le_trans (Nat.succ_le_succ this) ?_
  simp only [List.size_toArray, List.length_cons, List.length_nil]
  tb_start
theorem gives_brepr (l : List UInt8) (t : Tok) (h : l.length ≤ 64) : Gives (Builtin.«bytes.__repr__» ⟨[.bytes l.toArray t], []⟩) (.str (Builtin.Bytes.literal l.toArray)) := by
  have e : Builtin.Bytes.literalAsked l.toArray = pure (Builtin.Bytes.literal l.toArray) := by
    unfold Builtin.Bytes.literalAsked
    have : Builtin.Bytes.tooLong (4 * l.toArray.size + 3 + 0) = false := by
      unfold Builtin.Bytes.tooLong
      rw [sizeLine_eq]
      simp
      tb_start
    rw [this]
    rfl
  show Gives (do let x ← Builtin.Bytes.literalAsked l.toArray; retStr x) _
  rw [e]
  exact .of_eq rfl
noncomputable def leafText : D → Str
  | .int i => toString i
  | .bytes l => Builtin.Bytes.literal (l.map toU).toArray
  | _ => Str.empty
noncomputable def rpF : D → Str
  | .none => "None"
  | .tup [.int a, .int b, .lst ds] => tupleText [(toString a : Str), (toString b : Str), listText (ds.map leafText)]
  | _ => Str.empty
theorem sm_log {i : Int} (h : Sm i) : i.natAbs.log2 < 31 := by
  by_cases h0 : i.natAbs = 0
  · rw [h0]; decide
  · rw [Nat.log2_lt h0]
    have := sm_natAbs h
    tb_start
theorem int_len {i : Int} (h : Sm i) : (toString i : Str).length ≤ 32 := by
  show (Str.ofString (toString i)).length ≤ 32
  rw [PySem.ofString_length]
  exact int_text_length_le (k := 31) (by decide) (sm_log h)
theorem leaf_len {d : D} (h : rpLeaf d) : (leafText d).length ≤ 259 := by
  cases d <;> simp only [rpLeaf] at h <;> try (exact h.elim)
  · exact Nat.le_trans (int_len h) (by decide)
  · have := literal_len (‹List Int›.map toU)
    simp only [leafText]
    rw [List.length_map] at this
    tb_start
theorem piled_le {ts : List Str} {k : Nat} (h : ∀ t ∈ ts, t.length ≤ k) : piled ts ≤ ts.length * (k + 2) := by
  induction ts with
  | nil => simp [piled]
  | cons t r ih =>
    have h1 := h t List.mem_cons_self
    have h2 := ih fun u hu => h u (List.mem_cons_of_mem _ hu)
    rw [piled_cons, List.length_cons, Nat.succ_mul]
    tb_start
theorem listText_len (ts : List Str) : (listText ts).length ≤ piled ts + 2 := by
  cases ts with
  | nil => decide
  | cons t r =>
    have h := textFrom_length_pos r 1 (("[" : Str) ++ (if (0 : Nat) > 0 then ", " else "" : String) ++ t) (Nat.succ_pos 0)
    have e : ((("[" : Str) ++ (if (0 : Nat) > 0 then ", " else "" : String) ++ t)).length = 1 + t.length := by
      rw [strLen_append, strLen_append]; rfl
    have hX : (listText (t :: r)).length = (textFrom 0 "[" (t :: r)).length + 1 := by
      show (textFrom 0 "[" (t :: r) ++ "]").length = _
      rw [strLen_append]; rfl
    have hY : (textFrom 0 "[" (t :: r)).length = (textFrom 1 (("[" : Str) ++ (if (0 : Nat) > 0 then ", " else "" : String) ++ t) r).length := rfl
    rw [hX, hY, h, e, piled_cons]; tb_start
theorem tupleText_len (ts : List Str) (hne : ts ≠ []) : (tupleText ts).length ≤ piled ts + 1 := by
  unfold tupleText
  rw [strLen_append, strLen_append]
  have e1 : ((("(" : String) : Str)).length = 1 := rfl
  have e3 : (((if ts.length == 1 then ",)" else ")" : String) : Str)).length ≤ 2 := by split <;> decide
  have := join_length_add ts hne
  rw [e1]
  tb_start
section
variable {G : Gx}
theorem leaf_is {F : Led} {d : D} {v : Value} (h : rpLeaf d) (hv : RV G F d v) : ReprIs G.prog G.w v (leafText d) := by
  cases d <;> simp only [rpLeaf] at h <;> try (exact h.elim)
  · obtain ⟨t, rfl⟩ := hv
    exact ReprIs.int t (Nat.lt_trans (sm_log h) (by decide))
  · rename_i l
    obtain ⟨⟨t, rfl⟩, _⟩ := hv
    intro n hn A E s Q hq
    have hn' : n ≤ sizeLine := by tb_start
    rw [pyReprUnder_leaf (v := .bytes (l.map toU).toArray t) hn' (fun _ e => nomatch e)]
    unfold pyRepr
    refine wpAny_bind (wpAny_pyReprObj_gives (typeIs_bytes s _ t) slot_brepr entry_brepr (args_brepr _) (gives_brepr (l.map toU) t (by rw [List.length_map]; exact h)) (wpAny_pure (hq _)) (hx := ?_))
    have := literal_len (l.map toU)
    rw [List.length_map] at this
    rw [sizeLine_eq]
    tb_start
theorem leaf_all {F : Led} {as : List Addr} {h₀ : Heap} {k : Nat} : ∀ {ds : List D} {vs : List Value}, (∀ d ∈ ds, rpLeaf d) → RVs G F ds vs → ReprAllK G.prog G.w as h₀ k vs (ds.map leafText)
  | [], _, _, hr => by subst hr; exact .nil
  | d :: ds, _, h, hr => by
    obtain ⟨v, r, rfl, h1, h2⟩ := hr
    exact .cons (ReprK.of_is (leaf_is (h d List.mem_cons_self) h1) _ _ _) (leaf_all (fun e he => h e (List.mem_cons_of_mem _ he)) h2)
theorem rpOk_tup {ds : List D} (h : rpOk (.tup ds)) : ∃ a b es, ds = [.int a, .int b, .lst es] ∧ (Sm a ∧ Sm b ∧ es.length ≤ 64 ∧ ∀ d ∈ es, rpLeaf d) := by
  rcases ds with _ | ⟨d, _ | ⟨e, _ | ⟨f, r⟩⟩⟩
  · exact False.elim h
  · obtain ⟨a, rfl, h1⟩ := asI_of h
    exact False.elim h1
  · obtain ⟨a, rfl, h1⟩ := asI_of h
    obtain ⟨b, rfl, h2⟩ := asI_of h1
    exact False.elim h2
  · obtain ⟨a, rfl, h1⟩ := asI_of h
    obtain ⟨b, rfl, h2⟩ := asI_of h1
    obtain ⟨es, rfl, h3⟩ := asL_of h2
    cases r with
    | nil => exact ⟨a, b, es, rfl, h3⟩
    | cons => exact False.elim h3
theorem repr_ok : ReprOk G rpF := by
  intro c loc μ F s Q X ds vs ok x hr q
  have hu := ok.room.units
  obtain ⟨d, rfl, hok, q⟩ := arg1_of q
  obtain ⟨v, r, rfl, h1, rfl⟩ := hr
  have fin : ∀ h' u tk, (∀ b o, s.heap.get? b = some o → h'.get? b = some o) → c.Post G loc F Q (.str (rpF d) u) { s with heap := h', toks := tk } := fun h' u tk hk => ⟨.str (rpF d), μ, F, fun _ h => h, x.keeps hk tk, rv_str _ _, q⟩
  cases d with
  | none =>
    subst h1
    exact call_repr_gives (typeIs_none s) PySem.F.slot_NoneType_repr PySem.F.entry_NoneType_repr (PySem.F.args_NoneType_repr_1 _) gives_none_repr (fin _ _ _ fun _ _ h => h) (hx := by decide)
  | tup ds =>
    obtain ⟨a, b, ds, rfl, hok⟩ := rpOk_tup hok
    obtain ⟨k1, k2, k3, k4⟩ := hok
    have hl : ∀ t ∈ ds.map leafText, t.length ≤ 259 := by
      intro t ht
      obtain ⟨d, hd, rfl⟩ := List.mem_map.mp ht
      exact leaf_len (k4 d hd)
    have hp := piled_le hl
    rw [List.length_map] at hp
    have hlt := listText_len (ds.map leafText)
    have hlt2 : (listText (ds.map leafText)).length ≤ 20000 := by
      have : ds.length * (259 + 2) ≤ 64 * (259 + 2) := Nat.mul_le_mul_right _ k3
      tb_start
    have hsz : (tupleText [(toString a : Str), (toString b : Str), listText (ds.map leafText)]).length ≤ sizeLine := by
      refine Nat.le_trans (tupleText_len _ (by simp)) ?_
      have e1 := int_len k1
      have e2 := int_len k2
      simp only [piled, List.map_cons, List.map_nil, List.sum_cons, List.sum_nil]
      rw [sizeLine_eq]
      tb_start
    obtain ⟨A, items, rfl, ⟨oA, ho, hc, n, hd⟩, hrs⟩ := x.tup h1
    obtain ⟨items⟩ := items
    obtain ⟨va, r, e1, ra, vb, r', e2, rb, vl, r'', e3, rl, e4⟩ := hrs
    subst e4 e3 e2
    obtain ⟨l, lvs, rfl, ⟨ol, hol, hcl, nl, hdl⟩, hrl⟩ := x.list rl
    have e1 : items = [va, vb, .ref l] := e1
    subst e1
    have hAl : A ≠ l := by
      rintro rfl
      rw [ho] at hol
      cases hol
      rw [hc] at hcl
      exact absurd hcl (by decide)
    have all := leaf_all (as := []) (h₀ := s.heap) (k := 0) k4 hrl
    have hK : ReprK G.prog G.w [l] s.heap 1 (.ref l) (listText (ds.map leafText)) := by
      obtain ⟨lvs⟩ := lvs
      cases lvs with
      | nil =>
        cases ds with
        | nil => exact ReprK.listEmpty hol hcl hdl
        | cons d ds => obtain ⟨_, _, h, _⟩ := hrl; cases h
      | cons y ys => exact ReprK.list hol hcl hdl (by simp) (by simpa using all.length_eq) (fun i z e => all.item i z (by simpa using e))
    refine call_repr_slot (by tb_start) ⟨oA, ho, hc⟩ PySem.F.slot_tuple_repr ?_
    refine call_tuple_reprK (as := [l]) (h₀ := s.heap) (d := 1) (ts := [(toString a : Str), (toString b : Str), listText (ds.map leafText)]) ho hc hd (by simpa using hAl) ?_ (A := c.A.in1) ok.room.guards (fun b _ => Clear.nil b) (by show c.A.units + 1 + (1 + 1) < _; tb_start) (fun _ _ h => h)
      (fun h' u tk hk => ⟨_, _, rfl, fin h' u tk hk⟩) hsz
    refine .cons (ReprK.of_is (leaf_is (d := .int a) k1 ra) _ _ _) (.cons (ReprK.of_is (leaf_is (d := .int b) k2 rb) _ _ _) (.cons hK .nil))
  | _ => exact (show False from hok).elim
end
noncomputable def isComp : E → Bool
  | .comp .. => true
  | _ => false
noncomputable def isTupE : E → Bool
  | .tup .. => true
  | _ => false
theorem isTupE_of {e : E} (h : isTupE e = true) : ∃ es k p, e = .tup es k p := by
  cases e with
  | tup es k p => exact ⟨es, k, p, rfl⟩
  | _ => exact no_tt h
/-- the stores of `a, b = x, y` go in the other order: when they surely do -/
noncomputable def starB : Expr → Bool
  | .Starred .. => true
  | _ => false
noncomputable def swapL (ts : List (Nat × Str × Pos)) : Nat := (ts.head?.map (·.2.2.line)).getD 0
noncomputable def swapB (sc : Scope) (ts : List (Nat × Str × Pos)) (vs : List Expr) : Bool :=
  (ts.length == 2 || ts.length == 3) && vs.length == ts.length && sc.kind == .function && !(vs.any starB) &&
  (ts.all fun t => sc.names.lookup t.2.1 == some .local && t.2.2.line == swapL ts) && (ts.map (·.2.1)).eraseDups.length == ts.length && !(vs.all (foldedForSure 8)) && !(vs.all (constantsAlone 8))
theorem swap_names {env : Env} {n : Nat} {ts : List (Nat × Str × Pos)} (h : (ts.all fun t => env.scope.names.lookup t.2.1 == some .local && t.2.2.line == n) = true) :
    ((ts.map fun t => Expr.Name t.2.1 t.2.2).filterMap fun
      | .Name id pos => if env.kindOf id == some .local && pos.line == n then some id else none
      | _ => none) = ts.map (·.2.1) := by
  induction ts with
  | nil => rfl
  | cons t ts ih =>
    obtain ⟨h1, h2⟩ := Bool.and_eq_true_iff.mp h
    refine (List.filterMap_cons_some (b := t.2.1) ?_).trans (congrArg (t.2.1 :: ·) (ih h2))
    exact if_pos h1
theorem swapped_of {env : Env} {ts : List (Nat × Str × Pos)} {vs : List Expr} {k k' : Nat} {p p' : Pos} (h : swapB env.scope ts vs = true) :
    swappedStores [.Tuple (ts.map fun t => Expr.Name t.2.1 t.2.2) k p] (.Tuple vs k' p') env = pure (some (ts.map (·.2.1))) := by
  unfold swapB at h
  simp only [Bool.and_eq_true, Bool.not_eq_true', beq_iff_eq] at h
  obtain ⟨⟨⟨⟨⟨⟨⟨h1, h2⟩, h3⟩, h4⟩, h5⟩, h6⟩, h7⟩, h8⟩ := h
  have hb : env.blockKind = .function := by unfold Env.blockKind; rw [h3]; rfl
  have hl : ((ts.map fun t => Expr.Name t.2.1 t.2.2).head?.map (·.pos.line)).getD 0 = swapL ts := by
    cases ts <;> rfl
  have hn := swap_names (env := env) h5
  have hs : (vs.any fun | .Starred .. => true | _ => false) = false := by
    refine Eq.trans ?_ h4
    congr 1
  unfold swappedStores
  show (if _ then _ else _) = _
  refine (if_neg ?_).trans ?_
  · simp [h1, h2, hb]
  show (if _ then _ else _) = _
  refine (if_neg ?_).trans ?_
  · exact Bool.eq_false_iff.mp hs
  rw [hl]
  refine Eq.trans ?_ (congrArg (fun l => (pure (some l) : Sem (Option (List Str)))) hn)
  refine (if_neg ?_).trans ?_
  · intro q
    rw [List.length_map] at q
    have q' := (congrArg (fun l : List Str => (l.length != ts.length || l.eraseDups.length != l.length)) hn).symm.trans q
    simp [h6] at q'
  refine (if_neg ?_).trans ?_
  · exact Bool.eq_false_iff.mp h7
  refine (if_neg ?_).trans rfl
  exact Bool.eq_false_iff.mp h8
theorem not_swapped {env : Env} {ts : List Expr} {e : E} {k : Nat} {p : Pos} (h : isTupE e = false) : swappedStores [.Tuple ts k p] e.ast env = pure none := by
  cases e <;> first | rfl | cases h
theorem swaps_false {env : Env} {t : Option Expr} {l : Nat} {e : E} (h : isComp e = false) : swapsWith e.ast t l env = pure false := by
  cases e <;> first | rfl | cases h
theorem swapsSole_false {env : Env} {t : List Expr} {l : Nat} {e : E} (h : isComp e = false) : swapsWithSole t e.ast l env = pure false := by
  cases t with
  | nil => rfl
  | cons a r => cases r with
    | nil => exact swaps_false h
    | cons => rfl
/-- may `x = [..]` on one line be stored from within the comprehension -/
noncomputable def usedB (sc : Scope) (x : Str) (px : Pos) (line : Nat) : E → Bool
  | .comp _ _ _ _ _ sc' _ p => sc.kind == .function && sc.names.lookup x == some .local && px.line == p.line && p.line == line && !(sc'.names.any fun (n, k) => n == x && (k == .local || k == .cell))
  | _ => false
noncomputable def swapW (sc : Scope) (ts : List (Nat × Str × Pos)) (e : E) : Bool := match e with
  | .tup es _ _ => swapB sc ts es.ast
  | _ => true
mutual
noncomputable def S.wf (G : KC) (sc : Scope) : S → Bool
  | .ret e _ => e.wf G sc
  | .asg i x _ e _ => !isComp e && storeOk1 sc i x && e.wf G sc
  | .asgC i x px e p => usedB sc x px px.line e && storeOk1 sc i x && e.wf G sc
  | .asgT ts _ _ e _ => (ts.all fun t => storeOk1 sc t.1 t.2.1) && decide ((ts.map (·.1)).Nodup) && !isComp e && e.wf G sc && swapW sc ts e
  | .seta j o _ e _ => decide (j < 7) && isVar o && o.wf G sc && e.wf G sc && !isComp e
  | .seti o i _ e _ => o.wf G sc && i.wf G sc && e.wf G sc && !isComp e
  | .aug i x _ _ e _ => storeOk1 sc i x && slotOk sc i x && e.wf G sc
  | .auga j o _ _ e _ => decide (j < 7) && isVar o && o.wf G sc && e.wf G sc
  | .ite t b o _ => t.wf G sc && b.wf G sc && o.wf G sc
  | .whl t b _ => t.wf G sc && b.wf G sc
  | .loop i x _ it b _ => storeOk1 sc i x && it.wf G sc && b.wf G sc
  | .raise _ _ _ _ _ _ => isGlobal sc "LuaError"
  | .cont _ => true
  | .exp e _ => !isComp e && e.wf G sc
noncomputable def Ss.wf (G : KC) (sc : Scope) : Ss → Bool
  | .nil => true
  | .cons s r => s.wf G sc && r.wf G sc
end
theorem wfS_ret {G : KC} {sc : Scope} {e x1} : S.wf G sc (.ret e x1) = (e.wf G sc) := rfl
theorem wfS_asg {G : KC} {sc : Scope} {i x x2 e x4} : S.wf G sc (.asg i x x2 e x4) = (!isComp e && storeOk1 sc i x && e.wf G sc) := rfl
theorem wfS_asgT {G : KC} {sc : Scope} {ts x1 x2 e x4} : S.wf G sc (.asgT ts x1 x2 e x4) = ((ts.all fun t => storeOk1 sc t.1 t.2.1) && decide ((ts.map (·.1)).Nodup) && !isComp e && e.wf G sc && swapW sc ts e) := rfl
theorem wfS_seta {G : KC} {sc : Scope} {j o x2 e x4} : S.wf G sc (.seta j o x2 e x4) = (decide (j < 7) && isVar o && o.wf G sc && e.wf G sc && !isComp e) := rfl
theorem wfS_seti {G : KC} {sc : Scope} {o i x2 e x4} : S.wf G sc (.seti o i x2 e x4) = (o.wf G sc && i.wf G sc && e.wf G sc && !isComp e) := rfl
theorem wfS_aug {G : KC} {sc : Scope} {i x x2 x3 e x5} : S.wf G sc (.aug i x x2 x3 e x5) = (storeOk1 sc i x && slotOk sc i x && e.wf G sc) := rfl
theorem wfS_auga {G : KC} {sc : Scope} {j o x2 x3 e x5} : S.wf G sc (.auga j o x2 x3 e x5) = (decide (j < 7) && isVar o && o.wf G sc && e.wf G sc) := rfl
theorem wfS_ite {G : KC} {sc : Scope} {t b o x3} : S.wf G sc (.ite t b o x3) = (t.wf G sc && b.wf G sc && o.wf G sc) := rfl
theorem wfS_whl {G : KC} {sc : Scope} {t b x2} : S.wf G sc (.whl t b x2) = (t.wf G sc && b.wf G sc) := rfl
theorem wfS_loop {G : KC} {sc : Scope} {i x x2 it b x5} : S.wf G sc (.loop i x x2 it b x5) = (storeOk1 sc i x && it.wf G sc && b.wf G sc) := rfl
theorem wfS_exp {G : KC} {sc : Scope} {e x1} : S.wf G sc (.exp e x1) = (!isComp e && e.wf G sc) := rfl
theorem wfS_asgC {G : KC} {sc : Scope} {i x px e p} : S.wf G sc (.asgC i x px e p) = (usedB sc x px px.line e && storeOk1 sc i x && e.wf G sc) := rfl
theorem wfSs_cons {G : KC} {sc : Scope} {s r} : Ss.wf G sc (.cons s r) = (s.wf G sc && r.wf G sc) := rfl
inductive Flow0 (G : Gx) (c : Cx) (F : Led) (Q : Loc → Mu → Prop) (s' : Shared) : Prop where
  | mk (loc : Loc) (μ : Mu) (F' : Led) (h1 : ∀ p ∈ F, p ∈ F') (h2 : c.Rep G loc μ F' s') (h3 : Q loc μ)
inductive Flow1 (G : Gx) (c : Cx) (F : Led) (Q : D → Loc → Mu → Prop) (v : Value) (s' : Shared) : Prop where
  | mk (loc : Loc) (μ : Mu) (F' : Led) (d : D) (h1 : ∀ p ∈ F, p ∈ F') (h2 : c.Rep G loc μ F' s') (h3 : RV G F' d v) (h4 : Q d loc μ)
/-- how a statement ends -/
noncomputable def FlowR (G : Gx) (c : Cx) (F : Led) (Q : Out → Loc → Mu → Prop) (f : Flow) (s' : Shared) : Prop := match f with
  | .next => Flow0 G c F (Q .next) s'
  | .cont => Flow0 G c F (Q .cont) s'
  | .ret v => Flow1 G c F (fun d => Q (.ret d)) v s'
  | .brk => False
/-- the context is the frame of a def -/
structure Cx.Fun (c : Cx) : Prop where
  scope : c.env.scope = c.sc
  stk : ∃ outer, c.stk = c.env :: outer
  frame : c.env.frame = some c.L
/-- what raise LuaError must do -/
noncomputable def RaiseOk (G : Gx) : Prop := ∀ (c : Cx) (loc : Loc) (μ : Mu) (F : Led) (s : Shared) (Q : Flow → Shared → Prop) (X : Prop) (l : List UInt8) (k : Nat) (pl px pc p : Pos), c.Ok → c.Fun → isGlobal c.sc "LuaError" = true → c.Rep G loc μ F s → X →
  c.wp G (exec (S.raise l k pl px pc p).ast c.env) Q X s
/-- what a comprehension stored from within must do -/
noncomputable def UseOk (G : Gx) (rp : D → Str) : Prop := ∀ (c : Cx) (i : Nat) (x : Str) (px : Pos) (e : E) (p : Pos) (loc : Loc) (μ : Mu) (F : Led) (s : Shared) (Q : Out → Loc → Mu → Prop) (X : Prop), c.Ok → c.Fun → (S.asgC i x px e p).wf G.kc c.sc = true →
  wpS (FS G c.n) (MK G c.n) rp (.asgC i x px e p) loc μ Q X → c.Rep G loc μ F s → c.wp G (exec (S.asgC i x px e p).ast c.env) (FlowR G c F Q) X s
noncomputable def SndSt (G : Gx) (rp : D → Str) (st : S) : Prop := ∀ (c : Cx) (loc : Loc) (μ : Mu) (F : Led) (s : Shared) (Q : Out → Loc → Mu → Prop) (X : Prop), c.Ok → c.Fun → st.wf G.kc c.sc = true → wpS (FS G c.n) (MK G c.n) rp st loc μ Q X → c.Rep G loc μ F s →
  c.wp G (exec st.ast c.env) (FlowR G c F Q) X s
noncomputable def SndSs (G : Gx) (rp : D → Str) (ss : Ss) : Prop := ∀ (c : Cx) (loc : Loc) (μ : Mu) (F : Led) (s : Shared) (Q : Out → Loc → Mu → Prop) (X : Prop), c.Ok → c.Fun → ss.wf G.kc c.sc = true → wpSs (FS G c.n) (MK G c.n) rp ss loc μ Q X → c.Rep G loc μ F s →
  c.wp G (execs ss.ast c.env) (FlowR G c F Q) X s
section
variable {G : Gx} {rp : D → Str}
theorem FlowR.weaken {c : Cx} {F F' : Led} {Q : Out → Loc → Mu → Prop} {f : Flow} {s'} (h : ∀ p ∈ F, p ∈ F') (x : FlowR G c F' Q f s') : FlowR G c F Q f s' := by
  cases f with
  | next => obtain ⟨a, b, F2, h1, h2, h3⟩ := x; exact ⟨a, b, F2, fun p hp => h1 p (h p hp), h2, h3⟩
  | brk => exact x
  | cont => obtain ⟨a, b, F2, h1, h2, h3⟩ := x; exact ⟨a, b, F2, fun p hp => h1 p (h p hp), h2, h3⟩
  | ret v => obtain ⟨a, b, F2, d, h1, h2, h3, h4⟩ := x; exact ⟨a, b, F2, d, fun p hp => h1 p (h p hp), h2, h3, h4⟩
theorem Cx.exits {c : Cx} (ok : c.Ok) (fn : c.Fun) {X : Prop} {E : Value → Shared → Prop} {e : Value} {s : Shared} (h : c.Ex G X e s) (hE : ∀ e s', c.Ex G X e s' → E e s') :
    notedBy (model G.prog G.w) c.A c.env (fun e s' => cameBackBy (model G.prog G.w) c.A c.env E e s') e s := by
  obtain ⟨outer, ho⟩ := fn.stk
  obtain ⟨hx, hf⟩ := h
  rw [ho] at hf
  exact hf.loop (ho ▸ ok.room.frames) fn.frame fun s' y => hE e s' ⟨hx, ho ▸ y⟩
theorem Cx.Fun.plus {c : Cx} (fn : c.Fun) (a : Addr) (o : Obj) : (c.plus a o).Fun := ⟨fn.scope, fn.stk, fn.frame⟩
theorem tupQ_of {ts : List (Nat × Str × Pos)} {loc : Loc} {d : D} {K : Loc → Prop} (h : tupQ ts loc d K) : ∃ ds loc', d = .tup ds ∧ bindT ts ds loc = some loc' ∧ K loc' := by
  cases d with
  | tup ds =>
    have h : (match bindT ts ds loc with | some loc => K loc | none => False) := h
    cases hb : bindT ts ds loc with
    | none => rw [hb] at h; exact h.elim
    | some loc' => rw [hb] at h; exact ⟨ds, loc', rfl, hb, h⟩
  | _ => exact False.elim h
theorem kAs_of {loc : Loc} {R : Out → Loc → Mu → Prop} {i : Nat} {d : D} {μ : Mu} (h : kAs loc R i d μ) : R .next (loc.set i (some d)) μ := by
  unfold kAs at h
  rwa [setV_eq] at h
theorem kG4_of {loc : Loc} {μ : Mu} {R : Out → Loc → Mu → Prop} {i : Nat} {op : Operator} {a b : Int} (h : kG4 loc μ R i op a b) : (op = .Add ∧ R .next (loc.set i (some (.int (a + b)))) μ) ∨ (op = .Sub ∧ R .next (loc.set i (some (.int (a - b)))) μ) := by
  rw [← setV_eq, ← setV_eq]
  cases op with
  | Add => exact .inl ⟨rfl, h⟩
  | Sub => exact .inr ⟨rfl, h⟩
  | _ => exact False.elim h
theorem kU5_of {loc : Loc} {μ : Mu} {R : Out → Loc → Mu → Prop} {j : Nat} {op : Operator} {d : D} {a b : Int} (h : kU5 loc μ R j op d a b) : (op = .Add ∧ setF μ d j (.int (a + b)) (kMu loc R)) ∨ (op = .Sub ∧ setF μ d j (.int (a - b)) (kMu loc R)) := by
  cases op with
  | Add => exact .inl ⟨rfl, h.ok⟩
  | Sub => exact .inr ⟨rfl, h.ok⟩
  | _ => exact False.elim h
/-- what stands between two turns of a for -/
inductive LoopI (G : Gx) (c : Cx) (itv : Addr) (F : Led) (K : List D → Loc → Mu → Prop) (n : Nat) (s' : Shared) : Prop where
  | mk (loc : Loc) (μ : Mu) (F' : Led) (o : Obj) (ds : List D) (hn : n = ds.length) (hF : ∀ p ∈ F, p ∈ F') (r : (c.plus itv o).Rep G loc μ F' s') (hi : IterAt G F' o ds) (q : K ds loc μ)
theorem LoopI.of {c : Cx} {itv : Addr} {F F' : Led} {K : List D → Loc → Mu → Prop} {o : Obj} {ds : List D} {s' : Shared} (hF : ∀ p ∈ F, p ∈ F') (hi : IterAt G F' o ds) (x : Flow0 G (c.plus itv o) F' (K ds) s') : LoopI G c itv F K ds.length s' := by
  obtain ⟨loc, μ, F5, l1, l2, l3⟩ := x
  exact ⟨loc, μ, F5, o, ds, rfl, fun p hp => l1 p (hF p hp), l2, hi.mono l1, l3⟩
section
variable (hE : ∀ e, Snd G rp e)
include hE
theorem s_ret {e : E} {p : Pos} : SndSt G rp (.ret e p) := by
  intro c loc μ F s Q X ok fn w q x
  simp only [wfS_ret] at w
  refine wpAny_Return_some (Cx.seq ((hE e).1 c loc μ F s _ X ok w q x) fun v s' d μ' F' h1 h2 h3 h4 => ?_)
  exact ⟨loc, μ', F', d, h1, h2, h3, h4⟩
theorem s_asg {i : Nat} {x : Str} {px : Pos} {e : E} {p : Pos} : SndSt G rp (.asg i x px e p) := by
  intro c loc μ F s Q X ok fn w q x
  simp only [wfS_asg, Bool.and_eq_true, Bool.not_eq_true'] at w
  refine wpAny_Assign_Name (Cx.seq ((hE e).1 c loc μ F s _ X ok w.2 q x) fun v s' d μ' F' h1 h2 h3 h4 => ?_) (swaps_false w.1.1)
  exact store_sound ok h2 w.1.2 h3 fun s'' r => ⟨_, μ', F', h1, r, kAs_of h4⟩
theorem s_asgT {ts : List (Nat × Str × Pos)} {k : Nat} {pt : Pos} {e : E} {p : Pos} : SndSt G rp (.asgT ts k pt e p) := by
  intro c loc μ F s Q X ok fn w q x
  simp only [wfS_asgT, Bool.and_eq_true, Bool.not_eq_true', List.all_eq_true, decide_eq_true_eq] at w
  obtain ⟨⟨⟨⟨w1, w2⟩, w3⟩, w4⟩, w5⟩ := w
  have hev := (hE e).1 c loc μ F s _ X ok w4 q x
  have fin : ∀ {d : D} {μ' : Mu}, (tupQ ts loc d fun loc => Q .next loc μ') → ∃ ds, d = .tup ds ∧ ts.length = ds.length ∧ Q .next (setAll ts ds loc) μ' := by
    intro d μ' h
    obtain ⟨ds, loc', rfl, h1, h2⟩ := tupQ_of h
    obtain ⟨b1, rfl⟩ := bindT_setAll h1
    exact ⟨_, rfl, b1, h2⟩
  cases ht : isTupE e with
  | false =>
    refine Assign_Tuple (Cx.seq hev fun v s' d μ' F' h1 h2 h3 h4 => ?_) (swapsSole_false w3) (not_swapped ht)
    obtain ⟨ds, rfl, h5, h6⟩ := fin h4.ok
    exact unpack_sound ok h2 h3 h5 w1 fun s'' r => ⟨_, μ', F', h1, r, h6⟩
  | true =>
    obtain ⟨es, k', p', rfl⟩ := isTupE_of ht
    have w5 : swapB c.sc ts es.ast = true := w5
    refine Assign_Tuple_swapped (names := ts.map (·.2.1)) (Cx.seq hev fun v s' d μ' F' h1 h2 h3 h4 => ?_) (swapsSole_false w3) (swapped_of (by rw [fn.scope]; exact w5))
    obtain ⟨ds, rfl, h5, h6⟩ := fin h4.ok
    refine unpackItems_sound ok h2 h3 (by rw [List.length_map, h5]) fun vs s'' r hr => ?_
    rw [← List.map_reverse, List.map_map]
    refine store_many ok (fun t => bindName c.env t.2.1) (fun t v s Q h => wpAny_bindName h) r hr.reverse (by simpa using h5) (fun t ht => w1 t (List.mem_reverse.mp ht)) fun s3 r3 => ?_
    rw [setAll_reverse h5 w2] at r3
    exact ⟨_, μ', F', h1, r3, h6⟩
theorem s_seta {j : Nat} {o : E} {pa : Pos} {e : E} {p : Pos} : SndSt G rp (.seta j o pa e p) := by
  intro c loc μ F s Q X ok fn w q x
  simp only [wfS_seta, Bool.and_eq_true, Bool.not_eq_true', decide_eq_true_eq] at w
  obtain ⟨⟨⟨⟨w1, w2⟩, w3⟩, w4⟩, w5⟩ := w
  refine plainObj_wpAny_Assign_Attribute (Cx.seq ((hE e).1 c loc μ F s _ X ok w4 q x) fun v s' d μ' F' h1 h2 h3 h4 => ?_) (swaps_false w5)
  refine Cx.seq ((hE o).1 c loc μ' F' s' _ X ok w3 h4 h2) fun v' s'' d' μ'' F'' h5 h6 h7 h8 => ?_
  refine wpAny_mono (setF_sound h6 h7 (h3.mono G h5) h8.ok) ?_ fun _ _ e => e
  rintro _ s3 ⟨μ3, F3, g1, g2, g3⟩
  exact ⟨loc, μ3, F3, fun p hp => g1 p (h5 p (h1 p hp)), g2, g3⟩
theorem s_seti {o i : E} {ps : Pos} {e : E} {p : Pos} : SndSt G rp (.seti o i ps e p) := by
  intro c loc μ F s Q X ok fn w q x
  simp only [wfS_seti, Bool.and_eq_true, Bool.not_eq_true'] at w
  obtain ⟨⟨⟨w1, w2⟩, w3⟩, w4⟩ := w
  refine wpAny_Assign_Subscript (Cx.seq ((hE e).1 c loc μ F s _ X ok w3 q x) fun v s' d μ' F' h1 h2 h3 h4 => ?_) (swaps_false w4)
  refine Cx.seq ((hE o).1 c loc μ' F' s' _ X ok w1 h4 h2) fun v' s'' d' μ'' F'' h5 h6 h7 h8 => ?_
  refine Cx.seq ((hE i).1 c loc μ'' F'' s'' _ X ok w2 h8 h6) fun v3 s3 d3 μ3 F3 g1 g2 g3 g4 => ?_
  refine wpAny_mono (setI_sound g2 (h7.mono G g1) g3 (h3.mono G fun p hp => g1 p (h5 p hp)) g4.ok) ?_ fun _ _ e => e
  rintro _ s4 ⟨μ4, F4, f1, f2, f3⟩
  exact ⟨loc, μ4, F4, fun p hp => f1 p (g1 p (h5 p (h1 p hp))), f2, f3⟩
theorem s_aug {i : Nat} {x : Str} {px : Pos} {op : Operator} {e : E} {p : Pos} : SndSt G rp (.aug i x px op e p) := by
  intro c loc μ F s Q X ok fn w q r
  simp only [wfS_aug, Bool.and_eq_true] at w
  obtain ⟨d, ha, hq⟩ := getV_of q
  obtain ⟨a, rfl, hq⟩ := asI_of hq
  refine wpAny_AugAssign_Name (load_sound ok r w.1.2 ha fun v hv => ?_)
  obtain ⟨t, rfl⟩ := hv
  refine Cx.seq ((hE e).1 c loc μ F s _ X ok w.2 hq r) fun v s' d μ' F' h1 h2 h3 h4 => ?_
  obtain ⟨b, rfl, h5⟩ := asI_of h4
  obtain ⟨u, rfl⟩ := h3
  rcases kG4_of h5 with ⟨rfl, h6⟩ | ⟨rfl, h6⟩
  · exact P.iadd_int (store_sound ok (h2.toks _) w.1.1 (rv_int _ _) fun s'' r => ⟨_, μ', F', h1, r, h6⟩)
  · exact P.isub_int (store_sound ok (h2.toks _) w.1.1 (rv_int _ _) fun s'' r => ⟨_, μ', F', h1, r, h6⟩)
theorem s_auga {j : Nat} {o : E} {pa : Pos} {op : Operator} {e : E} {p : Pos} : SndSt G rp (.auga j o pa op e p) := by
  intro c loc μ F s Q X ok fn w q r
  simp only [wfS_auga, Bool.and_eq_true, decide_eq_true_eq] at w
  obtain ⟨⟨⟨w1, w2⟩, w3⟩, w4⟩ := w
  refine wpAny_AugAssign_AttributeAny (Cx.seq ((hE o).1 c loc μ F s _ X ok w3 q r) fun v s' d μ' F' h1 h2 h3 h4 => ?_)
  refine wpAny_mono (getF_sound h2 h3 h4.ok) ?_ fun _ _ e => e
  rintro v' s'' ⟨y, h5, h6, tk, rfl⟩
  obtain ⟨a, rfl, h7⟩ := asI_of h6
  obtain ⟨t, rfl⟩ := h5
  refine Cx.seq ((hE e).1 c loc μ' F' _ _ X ok w4 h7 (h2.toks tk)) fun v3 s3 d3 μ3 F3 g1 g2 g3 g4 => ?_
  obtain ⟨b, rfl, g5⟩ := asI_of g4
  obtain ⟨u, rfl⟩ := g3
  rcases kU5_of g5 with ⟨rfl, g6⟩ | ⟨rfl, g6⟩
  · refine P.iadd_int (wpAny_mono (setF_sound (g2.toks _) (h3.mono G g1) (rv_int _ _) g6) ?_ fun _ _ e => e)
    rintro _ s4 ⟨μ4, F4, f1, f2, f3⟩
    exact ⟨loc, μ4, F4, fun p hp => f1 p (g1 p (h1 p hp)), f2, f3⟩
  · refine P.isub_int (wpAny_mono (setF_sound (g2.toks _) (h3.mono G g1) (rv_int _ _) g6) ?_ fun _ _ e => e)
    rintro _ s4 ⟨μ4, F4, f1, f2, f3⟩
    exact ⟨loc, μ4, F4, fun p hp => f1 p (g1 p (h1 p hp)), f2, f3⟩
theorem s_ite {t : E} {b o : Ss} {p : Pos} (hb : SndSs G rp b) (ho : SndSs G rp o) : SndSt G rp (.ite t b o p) := by
  intro c loc μ F s Q X ok fn w q r
  simp only [wfS_ite, Bool.and_eq_true] at w
  refine wpAny_If (wpAny_mono ((hE t).2 c loc μ F s (fun c' μ => pick c' (wpSs (FS G c.n) (MK G c.n) rp b loc μ Q X) (wpSs (FS G c.n) (MK G c.n) rp o loc μ Q X)) X ok w.1.1 q r) ?_ fun _ _ e => e)
  rintro y s' ⟨μ', F', h1, h2, h3⟩
  cases y with
  | true => exact wpAny_mono (hb c loc μ' F' s' Q X ok fn w.1.2 h3.ok h2) (fun _ _ y => FlowR.weaken h1 y) fun _ _ e => e
  | false => exact wpAny_mono (ho c loc μ' F' s' Q X ok fn w.2 h3.ok h2) (fun _ _ y => FlowR.weaken h1 y) fun _ _ e => e
theorem s_cont {p : Pos} : SndSt G rp (.cont p) := by
  intro c loc μ F s Q X ok fn w q r
  exact wpAny_Continue ⟨loc, μ, F, fun _ h => h, r, q⟩
theorem s_exp {e : E} {p : Pos} : SndSt G rp (.exp e p) := by
  intro c loc μ F s Q X ok fn w q r
  simp only [wfS_exp, Bool.and_eq_true, Bool.not_eq_true'] at w
  refine wpAny_Expr_any (Cx.seq ((hE e).1 c loc μ F s _ X ok w.2 q r) fun v s' d μ' F' h1 h2 h3 h4 => ?_) ?_ (swaps_false w.1)
  · exact ⟨loc, μ', F', h1, h2, h4⟩
  · unfold interactive; rw [ok.kind]; rfl
theorem s_whl {t : E} {b : Ss} {p : Pos} (hb : SndSs G rp b) : SndSt G rp (.whl t b p) := by
  intro c loc μ F s Q X ok fn w q r
  obtain ⟨w1, w2⟩ := Bool.and_eq_true_iff.mp (wfS_whl ▸ w)
  obtain ⟨k, q⟩ := q.ok
  refine wpAny_While (codeAny_whileLoop (fun n s' => Flow0 G c F (whileN (fun loc μ k => wpE (FS G c.n) (MK G c.n) rp t loc μ (fun d μ => asB d fun c => k c μ) X) (fun loc μ k => wpSs (FS G c.n) (MK G c.n) rp b loc μ k X) Q n) s') ?_ k ⟨loc, μ, F, fun _ h => h, r, q⟩)
  rintro n s' ⟨loc, μ, F', h1, h2, h3⟩
  cases n with
  | zero => exact h3.elim
  | succ n =>
    refine wpAny_mono ((hE t).2 c loc μ F' s' _ X ok w1 h3 h2) ?_ fun _ _ e => Cx.exits ok fn e fun _ _ e => e
    rintro y s'' ⟨μ', F'', g1, g2, g3⟩
    cases y with
    | false => exact wpAny_execs_nil ⟨loc, μ', F'', fun p hp => g1 p (h1 p hp), g2, g3.ok⟩
    | true =>
      refine wpAny_mono (hb c loc μ' F'' s'' _ X ok fn w2 g3.ok g2) ?_ fun _ _ e => Cx.exits ok fn e fun _ _ e => e
      intro f s3 h4
      have h4 := FlowR.weaken (fun p hp => g1 p (h1 p hp)) h4
      cases f with
      | next => exact ⟨n, Nat.lt_succ_self n, h4⟩
      | cont => exact ⟨n, Nat.lt_succ_self n, h4⟩
      | brk => exact h4.elim
      | ret v => exact h4
theorem s_loop {i : Nat} {x : Str} {px : Pos} {it : E} {b : Ss} {p : Pos} (hb : SndSs G rp b) : SndSt G rp (.loop i x px it b p) := by
  intro c loc μ F s Q X ok fn w q r
  simp only [wfS_loop, Bool.and_eq_true] at w
  obtain ⟨⟨w1, w2⟩, w3⟩ := w
  refine wpAny_For (Cx.seq ((hE it).1 c loc μ F s _ X ok w2 q r) fun v s' d μ' F' h1 h2 h3 h4 => ?_) (fun x => folded_none x)
  obtain ⟨ds, hds, h4⟩ := h4
  refine iter_start h2 h3 hds fun itv o s'' h5 h6 => ?_
  refine codeAny_forLoop_any (LoopI G c itv F (forX (FS G c.n) (MK G c.n) rp i (ssX b) Q X)) ?_ ds.length ⟨loc, μ', F', o, ds, rfl, h1, h5, h6, h4⟩
  rintro n s3 ⟨loc, μ, F3, o, ds, rfl, f1, f2, f3, f4⟩
  cases ds with
  | nil => exact iter_end ok.room.hand f2 f3 fun s4 f5 => wpAny_execs_nil ⟨loc, μ, F3, f1, f5, f4⟩
  | cons d ds =>
    have f4 : goS (ssX b) (FS G c.n) (MK G c.n) rp (setV loc i (some d)) μ (turnR (forX (FS G c.n) (MK G c.n) rp i (ssX b) Q X ds) Q) X := f4
    rw [setV_eq] at f4
    refine iter_next f2 f3 fun v o' s4 g1 g2 g3 => ?_
    refine wpAny_of_eq (a := ()) rfl ?_
    refine assign_Name (store_sound (c := c.plus itv o') (ok.plus itv o') g1 w1 g3 fun s5 g4 => ?_)
    refine wpAny_mono (hb (c.plus itv o') _ μ F3 s5 _ X (ok.plus itv o') (fn.plus itv o') w3 f4 g4) ?_ fun _ _ e => Cx.exits ok fn e fun _ _ e => e
    intro f s6 k1
    cases f with
    | next => exact ⟨ds.length, Nat.lt_succ_self _, .of f1 g2 k1⟩
    | cont => exact ⟨ds.length, Nat.lt_succ_self _, .of f1 g2 k1⟩
    | brk => exact k1.elim
    | ret v =>
      obtain ⟨loc, μ, F5, d, l1, l2, l3, l4⟩ := k1
      exact ⟨loc, μ, F5, d, fun p hp => l1 p (f1 p hp), Rep.dropR l2 g2.nocell, l3, l4⟩
theorem ss_nil : SndSs G rp .nil := by
  intro c loc μ F s Q X ok fn w q r
  exact wpAny_execs_nil ⟨loc, μ, F, fun _ h => h, r, q⟩
theorem ss_cons {st : S} {r : Ss} (hs : SndSt G rp st) (hr : SndSs G rp r) : SndSs G rp (.cons st r) := by
  intro c loc μ F s Q X ok fn w q x
  simp only [wfSs_cons, Bool.and_eq_true] at w
  simp only [Ss.ast]
  refine wpAny_execs_cons (wpAny_mono (hs c loc μ F s _ X ok fn w.1 q x) ?_ fun _ _ e => e)
  intro f s' h
  cases f with
  | next =>
    obtain ⟨loc, μ, F', h1, h2, h3⟩ := h
    exact wpAny_mono (hr c loc μ F' s' Q X ok fn w.2 h3 h2) (fun _ _ y => FlowR.weaken h1 y) fun _ _ e => e
  | cont => exact h
  | brk => exact h
  | ret v => exact h
end
theorem sss_all (hE : ∀ e, Snd G rp e) (hraise : RaiseOk G) (huse : UseOk G rp) (ss : Ss) : SndSs G rp ss :=
  Ss.rec (motive_1 := SndSt G rp) (motive_2 := SndSs G rp)
    (fun _ _ => s_ret hE) (fun _ _ _ _ _ => s_asg hE) (fun _ _ _ _ _ => fun c loc μ F s Q X ok fn w q x => huse c _ _ _ _ _ loc μ F s Q X ok fn w q x) (fun _ _ _ _ _ => s_asgT hE)
    (fun _ _ _ _ _ => s_seta hE) (fun _ _ _ _ _ => s_seti hE) (fun _ _ _ _ _ _ => s_aug hE) (fun _ _ _ _ _ _ => s_auga hE)
    (fun _ _ _ _ hb ho => s_ite hE hb ho) (fun _ _ _ hb => s_whl hE hb) (fun _ _ _ _ _ _ hb => s_loop hE hb)
    (fun l k pl px pc p => fun c loc μ F s Q X ok fn w q x => by
      have w : isGlobal c.sc "LuaError" = true := w
      exact hraise c loc μ F s _ X l k pl px pc p ok fn w x q)
    (fun _ => s_cont hE) (fun _ _ => s_exp hE)
    (ss_nil hE) (fun _ _ hs hr => ss_cons hE hs hr) ss
end
section
variable {G : Gx} {rp : D → Str}
theorem swaps_true {env : Env} {x : Str} {px p : Pos} {elt src : Expr} {ifs : List Expr} {t : Expr} {sc : Scope} {l : Nat} (h1 : env.scope.kind = .function) (h2 : env.scope.names.lookup x = some .local) (h3 : px.line = p.line)
    (h4 : (sc.names.any fun (n, k) => n == x && (k == .local || k == .cell)) = false) : swapsWith (.ListComp elt [⟨t, src, ifs, 0⟩] sc p) (some (.Name x px)) l env = pure true := by
  show (pure (env.blockKind == .function && env.kindOf x == some .local && px.line == p.line && !(sc.names.any fun (n, k) => n == x && (k == .local || k == .cell))) : Sem Bool) = pure true
  have e1 : env.blockKind = .function := by unfold Env.blockKind; rw [h1]; rfl
  have e2 : env.kindOf x = some .local := h2
  rw [e1, e2, h3, h4]
  simp
theorem use_ok (hE : ∀ e, Snd G rp e) : UseOk G rp := by
  intro c i x px e p loc μ F s Q X ok fn w q r
  simp only [wfS_asgC, Bool.and_eq_true] at w
  obtain ⟨⟨w1, w2⟩, w3⟩ := w
  cases e <;> simp only [usedB] at w1 <;> try (cases w1; done)
  rename_i elt cond ts tk src sc init pc
  simp only [Bool.and_eq_true, Bool.not_eq_true', beq_iff_eq] at w1
  obtain ⟨⟨⟨⟨u1, u2⟩, u3⟩, u4⟩, u5⟩ := w1
  simp only [wfE_comp, Bool.and_eq_true] at w3
  obtain ⟨⟨⟨v1, v2⟩, v3⟩, v4⟩ := w3
  obtain ⟨h1, h2, h3⟩ := comp_hyps v4
  have hsw : swapsWith (.ListComp elt.ast [⟨tgt ts tk, src.ast, cond.asts, 0⟩] sc pc) (some (.Name x px)) p.line c.env = pure true := swaps_true ok.kind (by rw [fn.scope]; exact u2) u3 u5
  show c.wp G (exec (.Assign [.Name x px] (.ListComp elt.ast [⟨tgt ts tk, src.ast, cond.asts, 0⟩] sc pc) p) c.env) _ X s
  rw [exec_Assign_Name_used _ _ _ _ hsw]
  refine wpAny_bind (wpAny_standAt (wpAny_bind ?_))
  show wpAny _ c.A (do let _ ← comprehension (.ListComp elt.ast [⟨tgt ts tk, src.ast, cond.asts, 0⟩] sc pc) sc c.env _ (newList []) false (eval src.ast c.env) (some (assign (.Name x px) c.env))) _ _ s
  refine wpAny_bind (wpAny_mono (wpAny_comprehension_free (use := some (assign (.Name x px) c.env)) (Q := fun _ s' => FlowR G c F Q .next s') rfl folded_none (closure_pure fun y hy => comp_free ok h1 r hy) h2 h3 ?_)
    (fun _ s' hq => wpAny_pure (wpAny_pure hq)) fun _ _ e => e)
  refine Cx.seq ((hE src).1 c loc μ F s _ X ok v1 q r) fun v s' d μ' F' g1 g2 g3 g4 => ?_
  obtain ⟨ds, hds, g4⟩ := g4
  · unfold kCo2 at g4
    rw [initX_eq] at g4
    refine comp_run ok v4 (comp_elt (hE elt) v2) (comp_cond (fun e _ => hE e) v3) g2 g3 hds g4
      (RR := fun acc C => compPost (model G.prog G.w) c.A (c.Ex G X) (some (assign (.Name x px) c.env)) (fun _ s' => FlowR G c F Q .next s') acc C) fun D C oC m acc μ2 F2 s2 k1 k2 k3 k4 k5 k6 => ?_
    refine assign_Name (store_sound (c := c.plus C oC) (ok.plus _ _) k2 w2 k5 fun s3 r3 => ?_)
    have hC2 : s2.heap.get? C = some oC := k2.getR List.mem_cons_self
    have hC3 : s3.heap.get? C = some oC := r3.getR List.mem_cons_self
    obtain ⟨o, es, ep, ho, hd, hk, hf⟩ := k3
    rw [hC2] at ho
    cases ho
    refine ⟨m, ⟨oC, es, ep, hC3, hd, hk, hf⟩, fun h' hsb => ⟨loc.set i (some (.lst acc)), μ2, F2, fun p hp => k1 p (g1 p hp), Rep.dropBut r3 k4 hsb.extBut, kAs_of k6⟩⟩
end
noncomputable def luaScope : Scope := { kind := .function, names := [("self", .local), ("value", .local)], isGenerator := false, isCoroutine := false, more := [] }
noncomputable def luaBody : List Stmt := [.Assign [.Attribute (.Name "self" ⟨5,8,5,12⟩) "value" ⟨5,8,5,18⟩] (.Name "value" ⟨5,21,5,26⟩) ⟨5,8,5,26⟩, .Assign [.Attribute (.Name "self" ⟨6,8,6,12⟩) "trace" ⟨6,8,6,18⟩] (.List [] ⟨6,21,6,23⟩) ⟨6,8,6,23⟩]
/-- the class LuaError as it stands -/
structure LuaAt (G : Gx) (N fI : Addr) (fd : FuncData) : Prop where
  obj : ∃ nm q bs sn sub ab col dd k0 k1 k2 k3 k5, G.K.lookup G.X = some (excClassObj nm q G.X N bs [.type "Exception", .type "BaseException", .type "object"] true sn sub ab col dd k0 k1 k2 k3 k5 "Exception.__new__")
  glob : nsIn G.K mainGlobals "LuaError" = some (some (.ref G.X))
  keep : keepIn G.K (.ref G.X) = true
  nsok : nsOkIn G.K N = true
  init : nsIn G.K N "__init__" = some (some (.ref fI))
  sa : nsIn G.K N "__setattr__" = some none
  value : nsIn G.K N "value" = some none
  trace : nsIn G.K N "trace" = some none
  fn : ∃ od osl, G.K.lookup fI = some ⟨.type "function", od, .func fd, osl⟩
  scope : fd.scope = luaScope
  body : fd.body = .stmts luaBody
  closure : fd.closure = []
  globals : fd.globals = mainGlobals
  builtins : fd.builtins = builtinsNs
  code : codeIn G.K fd.code fd.qualname = true
  bind : ∀ a b, bindArgs fd ⟨[a, b], []⟩ = pure ([("self", a), ("value", b)] : List (Str × Value))
section
variable {G : Gx} {N fI : Addr} {fd : FuncData}
theorem ns_some_of {K : Frag} {h : Heap} {N : Addr} {mg : Str → Option Value} {n : Str} {v : Value} (X : K.In h) (G : h.Ns N mg) (e : nsIn K N n = some (some v)) : mg n = some v := by
  obtain ⟨o, es, ep, ho, hd, _, hf⟩ := G
  cases q : K.lookup N with
  | none => unfold nsIn at e; rw [q] at e; exact no_some e
  | some ob =>
    obtain rfl := Option.some.inj ((X _ _ q).symm.trans ho)
    obtain ⟨c, d, dt, sl⟩ := ob
    obtain rfl : dt = .dict es ep := hd
    unfold nsIn at e
    rw [q] at e
    have e : (match es.toList.find? (·.key.isStr n) with | some e => some (some e.val) | none => if es.toList.any (·.refKey) then none else some none) = some (some v) := e
    rw [← hf]
    unfold nsFind findBy
    rw [← Array.find?_toList]
    cases he : es.toList.find? (·.key.isStr n) with
    | some en => rw [he] at e; exact Option.some.inj e
    | none =>
      rw [he] at e
      by_cases h : es.toList.any (·.refKey) = true
      · rw [if_pos h] at e; exact no_some e
      · rw [if_neg h] at e; exact no_some (Option.some.inj e)
theorem evO_some {e : Expr} {env : Env} : evalOpt (some e) env = some (eval e env) := rfl
theorem evO_none {env : Env} : evalOpt none env = none := rfl
theorem no_value : typeLookup (.type "Exception") "value" = pure none := by rw [typeLookup_type, builtinLookup_eq_fast]; kernel_rfl
theorem no_trace : typeLookup (.type "Exception") "trace" = pure none := by rw [typeLookup_type, builtinLookup_eq_fast]; kernel_rfl
open Builtin Builtin.ObjectAttr in
/-- the first store into an exception makes its dict -/
theorem store_first {prog : Program} {w : World} {A : Around} {E : Value → Shared → Prop} {h : Heap} {g : Array GenState} {d : Drawn} {t : Nat} {os : OsState}
    {nm q : Str} {C N x : Addr} {bs bm : List Value} {sn : List Str} {sub : List Value} {ab : Bool} {col : Option Bool} {dd : Option Addr} {k0 k1 k2 k3 k5 : Option Value} {B newId sa owner : String}
    {mN : Str → Option Value} {name : Str} {v : Value} {fs : Array Value} {sl : Array (Option Value)} {Q : Unit → Shared → Prop} (SF : StoreFacts B bm sa owner)
    (hC : h.get? C = some (excClassObj nm q C N bs bm true sn sub ab col dd k0 k1 k2 k3 k5 newId)) (hn : h.Ns N mN) (hns : mN "__setattr__" = none) (hna : mN name = none)
    (hB : typeLookup (.type B) name = pure none) (hxC : x ≠ C) (hx : h.get? x = some ⟨.ref C, none, .fields fs, sl⟩)
    (hq : ∀ h' tk', h'.get? x = some ⟨.ref C, some h.objs.size, .fields fs, sl⟩ → h'.Ns1 h.objs.size (fun y => if y = name then some v else none) → (∀ b o, b ≠ x → h.get? b = some o → h'.get? b = some o) → Q () ⟨h', g, d, tk', os⟩) :
    wpAny (model prog w) A (setAttr (.ref x) name v) Q E ⟨h, g, d, t, os⟩ := by
  have f3 := SF.slot.bind (.ref x)
  have hpass := SF.passes (.ref x)
  unfold setAttr callSpecial? specialOf
  repeat (any_goals (first | assumption | (with_reducible refine wpAny_loadPart_at hx ?_; dsimp only) | (with_reducible refine wpAny_typeLookup_exc hC hn SF.mro SF.slot.lookup ?_; rw [hns]) | wp_step))
  refine codeAny_call_builtin SF.slot.plain SF.entry (wpAny_check_sa SF hC hx rfl ?_)
  unfold Builtin.«object.__setattr__»
  repeat (first | rw [refuse_eq] | (rw [refuseLoop_ref, hpass]) | (with_reducible refine wpAny_loadPart_at hx ?_; dsimp only) | with_reducible refine wpAny_mroOf_exc hC ?_ | (with_reducible refine wpAny_typeLookup_exc hC hn SF.mro hB ?_; rw [hna]) | (with_reducible refine wpAny_nsSet1 ?n1 ?n2) | wp_step)
  have hxs : x ≠ h.objs.size := Nat.ne_of_lt (Heap.lt_size hx)
  have hx₁ : (h.push { cls := .type "dict", data := .dict #[] }).get? x = some _ := Heap.get?_push_of_some _ hx
  have D : ((h.push { cls := .type "dict", data := .dict #[] }).update x fun o => { cls := o.cls, dict := some h.objs.size, data := o.data, slots := o.slots }).get? h.objs.size = some { cls := .type "dict", data := .dict #[] } :=
    (Heap.get?_update_ne _ _ _ _ hxs.symm).trans (Heap.get?_push_at rfl rfl)
  refine wpAny_askSetting (wpAny_pure (wpAny_bind (wpAny_mkText (wpAny_bind (wpAny_loadPart D ?_)))))
  dsimp only
  rw [if_neg (show ¬ (aRefKeyMayBeTheName name #[] = true) from by rw [aRefKeyMayBeTheName_at]; simp)]
  refine wpAny_updatePart D ?_
  have put : ∀ hs, Obj.putName name hs (.str name (t + 1)) v { cls := .type "dict", data := .dict #[] } = { cls := .type "dict", data := .dict #[⟨hs, .str name (t + 1), v⟩] 1 } := by
    intro hs
    rw [Obj.putName_eq]
    simp [Obj.putNameByArray]
  generalize hh : (if name.cps.isEmpty = true then (0 : Int) else reduceHash ((model prog w).w.params.strHash name.cps)) = hs
  generalize hH : (((h.push { cls := .type "dict", data := .dict #[] }).update x fun o => { cls := o.cls, dict := some h.objs.size, data := o.data, slots := o.slots })) = H at D ⊢
  have hx₂ : H.get? x = some ⟨.ref C, some h.objs.size, .fields fs, sl⟩ := by rw [← hH]; exact Heap.get?_update_self _ hx₁ rfl
  have D' : (H.update h.objs.size (Obj.putName name hs (.str name (t + 1)) v)).get? h.objs.size = some { cls := .type "dict", data := .dict #[⟨hs, .str name (t + 1), v⟩] 1 } := by
    rw [Heap.get?_update_self _ D (by rw [put]; rfl), put]
  refine wpAny_bind (wpAny_lookBehind D' (pastItsLine_dict (by rw [sizeLine_eq]; simp)) ?_)
  refine wpAny_pure (wpAny_pure (wpAny_pure (hq _ _ ?_ ?_ fun b o hbx hb => ?_)))
  · exact (Heap.get?_update_ne _ _ _ _ hxs).trans hx₂
  · refine ⟨_, _, _, D', rfl, ?_, ?_, fun y => ?_⟩
    · intro e he
      simp only [List.mem_toArray, List.mem_singleton] at he
      exact ⟨name, t + 1, by rw [he]⟩
    · unfold UniqKeys
      simp
    · unfold nsFind findBy
      have e : (fun e : DictEntry => e.key.isStr y) ⟨hs, .str name (t + 1), v⟩ = decide (name = y) := isStr_eq name y (t + 1)
      by_cases hy : y = name
      · subst hy
        simp [isStr_eq]
      · have hy' : name ≠ y := fun q => hy q.symm
        simp [isStr_eq, hy, hy']
  · refine (Heap.get?_update_ne _ _ _ _ (Nat.ne_of_lt (Heap.lt_size hb))).trans ?_
    rw [← hH]
    exact (Heap.get?_update_ne _ _ _ _ hbx).trans (Heap.get?_push_of_some _ hb)
theorem lua_init (U : LuaAt G N fI fd) {A : Around} (hd : A.depth < recursionLimit) {s : Shared} {e : Addr} {v : Value} {fs : Array Value} (hk : G.base.StaysIn s.heap) (he : s.heap.get? e = some { cls := .ref G.X, data := .fields fs }) (hb : G.base.get? e = none)
    {Q : Value → Shared → Prop} {E : Value → Shared → Prop}
    (q : ∀ h' tk od sl, (∀ b o, b ≠ e → s.heap.get? b = some o → h'.get? b = some o) → h'.get? e = some ⟨.ref G.X, od, .fields fs, sl⟩ → Q .none { s with heap := h', toks := tk }) :
    wpAny (model G.prog G.w) A (call (.ref fI) [.ref e, v]) Q E s := by
  obtain ⟨nm, qn, bs, sn, sub, ab, col, dd, k0, k1, k2, k3, k5, hX⟩ := U.obj
  obtain ⟨od, osl, hF⟩ := U.fn
  have X0 : G.K.In s.heap := G.KX.keeps hk
  have hfd := U.scope
  refine wpAny_call (codeAny_call_def (fd := fd) (body := luaBody) (binds := [("self", .ref e), ("value", v)]) hd (X0 _ _ hF) rfl (G.T.nolimit.keeps hk) (codeRec_of X0 U.code) U.body (BindsTo.of_eq (U.bind _ _)) (by rw [hfd]; decide) (by rw [hfd]; intro x hx; simp only [List.mem_cons, List.not_mem_nil, or_false] at hx; rcases hx with rfl | rfl <;> rfl) (fun h₁ hns hk₁ => ?_) (by rw [hfd]; rfl) (by rw [hfd]; rfl) (by rw [hfd]; rfl))
  generalize henv : callEnv fd s.heap.objs.size fI = env
  have e1 : env.scope = luaScope := by rw [← henv]; exact hfd
  have e2 : env.locals = s.heap.objs.size := by rw [← henv]; rfl
  have hkf : env.scope.kind = .function := by rw [e1]; rfl
  have ks : env.kindOf "self" = some .local := by unfold Env.kindOf; rw [e1]; rfl
  have kv : env.kindOf "value" = some .local := by unfold Env.kindOf; rw [e1]; rfl
  have hL : ∀ b o, s.heap.get? b = some o → b ≠ env.locals := fun b o h => by rw [e2]; exact Nat.ne_of_lt (Heap.lt_size h)
  rw [← e2] at hns
  have he1 := hk₁ _ _ he
  have hC1 : h₁.get? G.X = _ := hk₁ _ _ (hk _ _ (G.KX _ _ hX))
  have X1 : G.K.In h₁ := fun a o ha => hk₁ _ _ (X0 a o ha)
  have hxC : e ≠ G.X := fun q => by rw [q, G.KX _ _ hX] at hb; cases hb
  have hN1 := Heap.Ns.of_isNs (isNs_of_in X1 U.nsok)
  have one : ∀ {h : Heap}, (∀ b o, G.base.get? b = some o → h.get? b = some o) → G.K.In h := fun k a o ha => k _ _ (G.KX a o ha)
  have hLe : e ≠ env.locals := hL _ _ he
  unfold luaBody
  refine wpAny_execs_cons (plainObj_wpAny_Assign_Attribute ?_ rfl)
  refine wpAny_Name (wpAny_loadName_local hkf kv hns (v := v) rfl ?_) (by decide)
  refine wpAny_Name (wpAny_loadName_local hkf ks hns (v := .ref e) rfl ?_) (by decide)
  refine store_first (N := N) (mN := h₁.nsMap N) PySem.F.store_Exception hC1 hN1 (nsMap_none_of_in X1 U.nsok U.sa) (nsMap_none_of_in X1 U.nsok U.value) no_value hxC he1 (fun h₂ tk₂ he2 hd2 keep2 => ?_)
  have hns2 : h₂.Ns env.locals (fun x => List.lookup x ([("self", .ref e), ("value", v)] : List (Str × Value)).reverse) := by
    obtain ⟨o, es, ep, g1, g2⟩ := hns
    exact ⟨o, es, ep, keep2 _ _ (Ne.symm hLe) g1, g2⟩
  refine wpAny_execs_cons (plainObj_wpAny_Assign_Attribute ?_ rfl)
  refine wpAny_List ?_
  refine wpAny_items_nil ⟨Nat.zero_le _, ?_⟩
  have hpk : ∀ b o, h₂.get? b = some o → (h₂.push { cls := .type "list", data := .seq ([] : List Value).toArray }).get? b = some o := fun b o h => Heap.get?_push_of_some _ h
  refine wpAny_Name (wpAny_loadName_local hkf ks (hns2.keeps hpk) (v := .ref e) rfl ?_) (by decide)
  have X2 : G.K.In (h₂.push { cls := .type "list", data := .seq ([] : List Value).toArray }) := fun a o ha => hpk _ _ (keep2 _ _ (fun q => by rw [q] at ha; have := G.KX _ _ ha; rw [hb] at this; cases this) (X1 a o ha))
  have hN2 := Heap.Ns.of_isNs (isNs_of_in X2 U.nsok)
  have hed : h₁.objs.size ≠ e := Nat.ne_of_gt (Heap.lt_size he1)
  have I2' : (h₂.push { cls := .type "list", data := .seq ([] : List Value).toArray }).Inst e G.X (fun y => if y = "value" then some v else none) := by
    refine ⟨_, hpk _ _ he2, rfl, fun c q => (by cases q), .inr ⟨h₁.objs.size, rfl, hed, ?_⟩⟩
    exact hd2.at fun o g => hpk _ _ g
  refine store_attr (N := N) PySem.F.store_Exception (hpk _ _ (keep2 _ _ hxC.symm hC1)) hN2 (nsMap_none_of_in X2 U.nsok U.sa) (nsMap_none_of_in X2 U.nsok U.trace) no_trace hxC I2' (fun h₃ tk₃ I₃ hk₃ hs₃ => ?_)
  obtain ⟨o₃, he3, c4, c5, c6, -⟩ := hs₃ _ (hpk _ _ he2)
  refine wpAny_execs_nil ?_
  refine q h₃ tk₃ o₃.dict o₃.slots (fun b o hbe h => hk₃ b o hbe (fun o₀ dx q1 q2 => ?_) (hpk _ _ (keep2 _ _ hbe (hk₁ _ _ h)))) ?_
  · rw [hpk _ _ he2] at q1
    cases q1
    cases q2
    exact Nat.ne_of_lt (Heap.lt_size (hk₁ _ _ h))
  · rw [he3]
    obtain ⟨a1, a2, a3, a4⟩ := o₃
    simp only at c4 c5
    rw [c4, c5]
theorem frames_of {c : Cx} (ok : c.Ok) {loc : Loc} {μ : Mu} {F : Led} {s : Shared} (x : c.Rep G loc μ F s) : s.heap.FunFrames G.base c.stk := by
  obtain ⟨⟨m, cs, clo, Fm, N, nd, hc, hl⟩, hs⟩ := x
  have key : ∀ l : List Env, (∀ e ∈ l, e ∈ c.stk) → s.heap.FunFrames G.base l := by
    intro l
    induction l with
    | nil => intro _; trivial
    | cons e r ih =>
      intro h
      obtain ⟨h1, L, h2, h3⟩ := ok.own e (h e List.mem_cons_self)
      refine ⟨h1, ?_, ih fun e he => h e (List.mem_cons_of_mem _ he)⟩
      rcases h3 with rfl | ⟨o, h3, h4⟩
      · obtain ⟨oL, es, ep, g1, g2, g3, g4⟩ := Fm.ns
        refine ⟨_, oL, h2, ?_, g1, fun vs q => by rw [g2] at q; cases q⟩
        cases hq : G.base.get? c.L with
        | none => rfl
        | some o => exact absurd (Nat.lt_of_lt_of_le (Heap.lt_size hq) Fm.above) (Nat.lt_irrefl _)
      · have := N (L, o) (by simp [h3])
        exact ⟨L, o, h2, this.2.2, this.1, h4⟩
  exact key _ fun e h => h
theorem raise_ok (U : LuaAt G N fI fd) : RaiseOk G := by
  intro c loc μ F s Q X l k pl px pc p ok fn hg x hX
  obtain ⟨nm, qn, bs, sn, sub, ab, col, dd, k0, k1, k2, k3, k5, hXo⟩ := U.obj
  obtain ⟨od, osl, hF⟩ := U.fn
  show c.wp G (exec (.Raise (some (.Call (.Name "LuaError" px) [.Constant (.bytes l) k pl] [] pc)) none p) c.env) Q X s
  have mid : wpAny (model G.prog G.w) c.A (eval (.Call (.Name "LuaError" px) (Es.cons (.bytes l k pl) .nil).ast [] pc) c.env) (fun v s' => ∃ e od sl t, v = .ref e ∧ s'.heap.get? e = some ⟨.ref G.X, od, .fields #[.ref t, .none, .none, .none, .bool false, .none], sl⟩ ∧
      G.base.StaysIn s'.heap ∧ G.base.get? e = none ∧ s'.heap.FunFrames G.base c.stk ∧ Same G s') (c.Ex G X) s := by
    refine Call_Name rfl (glob_name ok x hg U.glob (callWith_fn U.keep ?_))
    have ha : SndA G (fun _ => Str.empty) (.cons (.bytes l k pl) .nil) := a_cons ⟨e_bytes, t_plain e_bytes fun _ => rfl⟩ ⟨a_nil, b_nil, l_nil⟩
    refine wpAny_mono (ha pc c loc μ F s (fun ds _ => ds.length = 1) X ok rfl (show (1 : Nat) = 1 from rfl) x) ?_ fun _ _ e => e
    rintro vs s₁ ⟨ds, μ', F', h1, h2, h3, h4⟩
    obtain ⟨m, Fm⟩ := h2.view
    have hvs : vs.length = 1 := by rw [h3.length, h4]
    obtain ⟨v, rfl⟩ := List.length_eq_one_iff.mp hvs
    have X1 : G.K.In s₁.heap := G.KX.keeps Fm.keep
    have hfr := frames_of ok h2
    have hsame := h2.same
    refine ⟨X1, ?_⟩
    obtain ⟨hh, g, d, t, os⟩ := s₁
    have hN1 := Heap.Ns.of_isNs (isNs_of_in X1 U.nsok)
    refine wpAny_call_exc_init PySem.F.excBase_Exception (X1 _ _ hXo) hN1 (ns_some_of X1 hN1 U.init) (X1 _ _ hF) rfl (fun h' e hm => ?_) (by show 1 ≤ sizeLine; rw [sizeLine_eq]; omega)
    obtain ⟨t', ht', hn', htup⟩ := hm.there
    have hbe : G.base.get? e = none := by
      cases hq : G.base.get? e with
      | none => rfl
      | some o => have := Fm.keep _ _ hq; rw [hm.new] at this; cases this
    refine lua_init U (s := ⟨h', g, d, t, os⟩) (by show c.A.depth + 1 < _; have := ok.room.depth; omega) (fun b o h => hm.keeps _ _ (Fm.keep _ _ h)) ht' hbe (fun h₂ tk₂ od₂ sl₂ hk₂ he₂ => ⟨rfl, e, od₂, sl₂, t', rfl, he₂, ?_, hbe, ?_, ⟨hsame.gens, hsame.drawn, hsame.os⟩⟩)
    · intro b o h
      exact hk₂ b o (fun q => by rw [q, hbe] at h; cases h) (hm.keeps _ _ (Fm.keep _ _ h))
    · refine hfr.of_keeps fun b o h _ => ⟨o, hk₂ b o (fun q => ?_) (hm.keeps _ _ h), rfl⟩
      have h := h
      rw [q] at h
      have := hm.new
      rw [h] at this
      cases this
  rw [arm_exec_Raise]
  simp only [evO_some, evO_none, Option.map]
  refine wpAny_bind (wpAny_standAt ?_)
  unfold raiseStmt
  refine wpAny_bind (wpAny_bind (wpAny_mono mid (fun v s' h => wpAny_bind (wpAny_standAt (wpAny_pure ?_))) fun _ _ e => e))
  obtain ⟨e, od, sl, t, rfl, he, hk, hb, hfr, hsame⟩ := h
  have hC : s'.heap.get? G.X = _ := hk _ _ (G.KX _ _ hXo)
  have hcB : (Value.ref G.X :: ([.type "Exception", .type "BaseException", .type "object"] : List Value)).contains (.type "BaseException") = true := by simp
  have fin : c.Ex G X (.ref e) s' := ⟨hX, e, _, _, rfl, hk, hb, hfr, he, rfl, rfl, .inl rfl, hsame⟩
  obtain ⟨hp, g, d, tk, os⟩ := s'
  repeat (first | with_reducible refine wpAny_loadPart_at he ?_ | with_reducible refine wpAny_loadPart_at hC ?_ | (with_reducible refine wpAny_isSubtype_exc hC ?_; rw [hcB]) | wp_step)
  exact wpAny_raiseNew_none ok.room.hand fin
end
theorem bindL_other {kindOf : Str → Option NameKind} {p : Str} : ∀ {ps : List Str} {vs : List Value} {m : Str → Option Value}, p ∉ ps → bindL kindOf (ps.zip vs) m p = m p
  | [], vs, m, _ => by simp [bindL]
  | q :: ps, [], m, _ => by simp [bindL]
  | q :: ps, v :: vs, m, h => by
    simp only [List.mem_cons, not_or] at h
    simp only [List.zip_cons_cons, bindL]
    rw [bindL_other h.2]
    split
    · simp [h.1]
    · rfl
theorem bindC_other {kindOf : Str → Option NameKind} {p : Str} : ∀ {ps : List Str} {vs : List Value} {m : Str → Option Value}, p ∉ ps → bindC kindOf (ps.zip vs) m p = m p
  | [], vs, m, _ => by simp [bindC]
  | q :: ps, [], m, _ => by simp [bindC]
  | q :: ps, v :: vs, m, h => by
    simp only [List.mem_cons, not_or] at h
    simp only [List.zip_cons_cons, bindC]
    rw [bindC_other h.2]
    split
    · rfl
    · simp [h.1]
theorem bindL_get {G : Gx} {F : Led} {kindOf : Str → Option NameKind} {p : Str} {d : D} (hk : kindOf p = some .local) : ∀ {ps : List Str} {vs : List Value} {ds : List D} {m : Str → Option Value} {i : Nat}, ps.Nodup → RVs G F ds vs → ps[i]? = some p → ds[i]? = some d →
    ∃ v, bindL kindOf (ps.zip vs) m p = some v ∧ RV G F d v
  | [], _, _, _, _, _, _, h, _ => by cases h
  | q :: ps, vs, [], m, i, _, hr, _, hd => by cases hd
  | q :: ps, vs, e :: ds, m, i, nd, hr, h, hd => by
    obtain ⟨v, vs, rfl, h1, h2⟩ := hr
    obtain ⟨n1, n2⟩ := List.nodup_cons.mp nd
    simp only [List.zip_cons_cons, bindL]
    cases i with
    | zero =>
      simp only [List.getElem?_cons_zero, Option.some.injEq] at h hd
      subst h hd
      rw [bindL_other n1, if_pos hk]
      exact ⟨v, by simp, h1⟩
    | succ i =>
      simp only [List.getElem?_cons_succ] at h hd
      exact bindL_get hk n2 h2 h hd
theorem bindC_get {G : Gx} {F : Led} {kindOf : Str → Option NameKind} {p : Str} {d : D} (hk : kindOf p = some .cell) : ∀ {ps : List Str} {vs : List Value} {ds : List D} {m : Str → Option Value} {i : Nat}, ps.Nodup → RVs G F ds vs → ps[i]? = some p → ds[i]? = some d →
    ∃ v, bindC kindOf (ps.zip vs) m p = some v ∧ RV G F d v
  | [], _, _, _, _, _, _, h, _ => by cases h
  | q :: ps, vs, [], m, i, _, hr, _, hd => by cases hd
  | q :: ps, vs, e :: ds, m, i, nd, hr, h, hd => by
    obtain ⟨v, vs, rfl, h1, h2⟩ := hr
    obtain ⟨n1, n2⟩ := List.nodup_cons.mp nd
    simp only [List.zip_cons_cons, bindC]
    cases i with
    | zero =>
      simp only [List.getElem?_cons_zero, Option.some.injEq] at h hd
      subst h hd
      rw [bindC_other n1, if_neg (by rw [hk]; decide)]
      exact ⟨v, by simp, h1⟩
    | succ i =>
      simp only [List.getElem?_cons_succ] at h hd
      exact bindC_get hk n2 h2 h hd
/-- a scope that a def may have -/
noncomputable def scOk (sc : Scope) (ps : List Str) : Bool :=
  sc.kind == .function && !sc.isCoroutine && !sc.isGenerator && decide ((sc.names.map (·.1)).Nodup) && (sc.names.take ps.length).map (·.1) == ps && (ps.all fun p => sc.names.lookup p == some .local || sc.names.lookup p == some .cell) &&
    decide (((cellsFrom 0 sc.names []).map (·.1)).Nodup) && (sc.names.all fun x => x.2 == .local || x.2 == .cell || x.2 == .globalImplicit)
structure ScOk (sc : Scope) (ps : List Str) : Prop where
  k1 : sc.kind = .function
  k2 : sc.isCoroutine = false
  k3 : sc.isGenerator = false
  k4 : (sc.names.map (·.1)).Nodup
  k5 : (sc.names.take ps.length).map (·.1) = ps
  k6 : ∀ p ∈ ps, sc.names.lookup p = some .local ∨ sc.names.lookup p = some .cell
  k7 : ((cellsFrom 0 sc.names []).map (·.1)).Nodup
  k8 : ∀ x ∈ sc.names, (x.2 = .local ∨ x.2 = .cell) ∨ x.2 = .globalImplicit
theorem scOk_of {sc : Scope} {ps : List Str} (hok : scOk sc ps = true) : ScOk sc ps := by
  unfold scOk at hok
  simp only [Bool.and_eq_true, Bool.not_eq_true', beq_iff_eq, decide_eq_true_eq, List.all_eq_true, Bool.or_eq_true] at hok
  obtain ⟨⟨⟨⟨⟨⟨⟨k1, k2⟩, k3⟩, k4⟩, k5⟩, k6⟩, k7⟩, k8⟩ := hok
  exact ⟨k1, k2, k3, k4, k5, k6, k7, k8⟩
/-- the def at an address, its body as it stands -/
structure FnAtL (K : Frag) (f : Nat) (ps : List Str) (sc : Scope) (body : List Stmt) (fd : FuncData) : Prop where
  ex : ∃ oc od osl, K.lookup f = some ⟨oc, od, .func fd, osl⟩
  scope : fd.scope = sc
  body : fd.body = .stmts body
  closure : fd.closure = []
  globals : fd.globals = mainGlobals
  builtins : fd.builtins = builtinsNs
  code : codeIn K fd.code fd.qualname = true
  ok : scOk sc ps = true
/-- the def at an address -/
noncomputable abbrev FnAt (K : Frag) (f : Nat) (ps : List Str) (sc : Scope) (body : Ss) (fd : FuncData) : Prop := FnAtL K f ps sc body.ast fd
noncomputable def locOf (sc : Scope) (ds : List D) : Loc := ds.map some ++ List.replicate (sc.names.length - ds.length) none
/-- what a body must do -/
noncomputable def retQ (Q : D → Mu → Prop) : Out → Loc → Mu → Prop := fun o _ μ => match o with
  | .next => ∃ ν, ν.Sublist μ ∧ Q .none ν
  | .ret d => ∃ ν, ν.Sublist μ ∧ Q d ν
  | .cont => False
section
variable {G : Gx} {rp : D → Str}
theorem locOf_get {sc : Scope} {ds : List D} {i : Nat} {o : Option D} (h : (locOf sc ds)[i]? = some o) : (∃ d, ds[i]? = some d ∧ o = some d) ∨ o = none := by
  unfold locOf at h
  by_cases hi : i < ds.length
  · rw [List.getElem?_append_left (by simpa using hi), List.getElem?_map] at h
    rw [List.getElem?_eq_getElem hi] at h ⊢
    exact .inl ⟨_, rfl, (Option.some.inj h).symm⟩
  · rw [List.getElem?_append_right (by simpa using Nat.le_of_not_lt hi)] at h
    exact .inr (List.eq_of_mem_replicate (List.mem_of_getElem? h))
theorem mem_of_lookup' {l : List (Str × Addr)} {x : Str} {a : Addr} (h : l.lookup x = some a) : (x, a) ∈ l := mem_of_lookup h
/-- a def called, whatever its body is: the body is given, at the frame that is made -/
theorem enterL {f : Nat} {ps : List Str} {sc : Scope} {body : List Stmt} {fd : FuncData} {n : Nat} {ds : List D} {μ : Mu} {X : Prop} (fa : FnAtL G.K f ps sc body fd)
    (hlen : ds.length = ps.length) 
    {A : Around} {stk : List Env} {F R : Led} {s : Shared} {args : Args} {ws : List Value} (room : Room A stk (n + 1)) (hst : StkIn R stk) (x : HRep G μ F R s) (hr : RVs G F ds ws) (hbind : BindsTo s fd args (ps.zip ws))
    {RR : Result → Shared → Prop} (hwp : ∀ (c : Cx) (s' : Shared), c.Ok → c.Fun → c.sc = sc → c.n = n → c.stk = c.env :: stk → c.R = R → c.A.frames = some (c.env :: stk) → c.Rep G (locOf sc ds) μ F s' →
      wpAny (model G.prog G.w) c.A (execs body c.env) (fun fl s' => RR (.ok (.ret (match fl with | .ret v => v | _ => .none))) s') (fun e s' => X ∧ Fly G (c.env :: stk) e s') s') (he : ∀ e s', X → Fly G stk e s' → RR (.error e) s') :
    codeAny (model G.prog G.w) A (.call (.ref f) args) RR s := by
  obtain ⟨⟨oc, od, osl, hK⟩, f1, f2, f3, f4, f5, f6, hok⟩ := fa
  have K := scOk_of hok
  obtain ⟨⟨cs, h1, nd, hc⟩, st, hsz, hs⟩ := id x
  have hX : G.K.In s.heap := G.KX.keeps st
  have hd := room.depth
  have hu := room.units
  have hpn : ps.Nodup := by rw [← K.k5]; exact (K.k4.sublist ((List.take_sublist _ _).map _))
  have hpi : ∀ (i : Nat) (p : Str), ps[i]? = some p → ∃ k, sc.names[i]? = some (p, k) := by
    intro i p hp
    rw [← K.k5, List.getElem?_map, List.getElem?_take] at hp
    split at hp
    · cases hq : sc.names[i]? with
      | none => rw [hq] at hp; cases hp
      | some y => rw [hq] at hp; exact ⟨y.2, by rw [← Option.some.inj hp]⟩
    · cases hp
  refine codeAny_call_function (by tb_start) (hX _ _ hK) rfl (f1 ▸ K.k2) (f1 ▸ K.k3) f2 (codeRec_of hX f6) (hbind _ _ _ _ ?_)
  rw [f3]
  refine wpAny_newFunctionEnv_cells (f1 ▸ K.k1) ?_ fun env henv s' y => ⟨G.T.nolimit.keeps fun b o e => y.toInCall.keep b o (st b o e), ?_⟩
  · intro p hp
    have hpm : p.1 ∈ ps := (List.of_mem_zip hp).1
    rw [f1]
    rcases K.k6 _ hpm with h | h
    · exact .inl h
    · exact .inr ⟨h, cellsFrom_some _ _ _ (.inl h)⟩
  have e1 : env.scope = sc := by rw [henv]; exact f1
  have e2 : env.locals = s.heap.objs.size := by rw [henv]; rfl
  have e3 : env.globals = mainGlobals := by rw [henv]; exact f4
  have e4 : env.builtins = builtinsNs := by rw [henv]; exact f5
  have e5 : env.frame = some s.heap.objs.size := by rw [henv]; rfl
  have e6 : env.cells = cellsFrom (s.heap.objs.size + 1) sc.names [] := by rw [henv, ← f1]; rfl
  have ekind : env.scope.kind = .function := e1 ▸ K.k1
  clear henv
  obtain ⟨h', tk, rfl, hkeep⟩ := y.done
  have hkn : (env.cells.map (·.1)).Nodup := by rw [e6]; rw [cellsFrom_names sc.names _ 0 [] [] rfl]; exact K.k7
  obtain ⟨clo, NC, YC⟩ := Cl.news (h₀ := s.heap) (L := s.heap.objs.size) (cm := bindC env.kindOf (ps.zip ws) fun _ => none) (Nat.le_refl _) (cs := env.cells) (h := h') fun n c hm => ⟨y.cell n c (lookup_of_mem_nodup hkn hm), by have := y.above n c hm; rw [e2] at this; exact this⟩
  -- the context
  have hroom : Room (A.deeper env) (env :: stk) n := ⟨room.hand, room.guards, Around.frames_deeper room.frames, by show A.depth + 1 + 2 * n + 8 < _; tb_start, by show A.units + 3 + 32 * n + 80 < _; tb_start⟩
  let c : Cx := { A := A.deeper env, env := env, L := s.heap.objs.size, stk := env :: stk, R := R, n := n, sc := sc }
  have ok : c.Ok := by
    refine ⟨hroom, ekind, e3, e4, e2, K.k4, ?_, ?_, ?_, ?_⟩
    · intro i z k h
      have hzk : env.kindOf z = some k := by unfold Env.kindOf; rw [e1]; exact lookup_of_nodup K.k4 h
      show kindGoes k (env.kindOf z)
      rw [hzk]
      cases k <;> simp [kindGoes]
    · intro z h; show env.scope.names.lookup z = _; rw [e1]; exact h
    · intro z z' a _ _ q1 q2
      exact name_of_addr y.apart (mem_of_lookup' q1) (mem_of_lookup' q2)
    · intro e he
      rcases List.mem_cons.mp he with rfl | he
      · exact ⟨by rw [ekind]; decide, _, e5, .inl rfl⟩
      · obtain ⟨q1, L, o, q2, q3, q4⟩ := hst e he
        exact ⟨q1, L, q2, .inr ⟨o, q3, q4⟩⟩
  have fn : c.Fun := ⟨e1, ⟨stk, rfl⟩, e5⟩
  have rep : c.Rep G (locOf sc ds) μ F { s with heap := h', toks := tk } := by
    refine ⟨⟨bindL env.kindOf (ps.zip ws) fun _ => none, cs, clo, ⟨by have := y.toInCall.ns; rw [e2] at this; exact this, fun b o e => hkeep b o (st b o e), hsz⟩, ?_, ?_, hc, ?_, ?_⟩, ⟨hs.gens, hs.drawn, hs.os⟩⟩
    · intro p hp
      have old : ∀ p ∈ cs ++ (F ++ R), h'.get? p.1 = some p.2 ∧ p.1 ≠ s.heap.objs.size ∧ G.base.get? p.1 = none := fun p hp => ⟨hkeep _ _ (h1 p hp).1, Nat.ne_of_lt (Heap.lt_size (h1 p hp).1), (h1 p hp).2⟩
      simp only [List.mem_append] at hp old
      rcases hp with q | q | q | q
      · exact old p (.inl q)
      · exact old p (.inr (.inl q))
      · obtain ⟨n1, n2, n3⟩ := NC p q
        refine ⟨n1, n2, ?_⟩
        cases hq : G.base.get? p.1 with
        | none => rfl
        | some o => rw [st _ _ hq] at n3; cases n3
      · exact old p (.inr (.inr q))
    · have hclo : (clo.map (·.1)).Nodup := by
        rw [CellsAre.addrs YC, List.nodup_iff_pairwise_ne, List.pairwise_map]
        exact y.apart
      have hdis : ∀ p ∈ cs ++ (F ++ R), ∀ q ∈ clo, p.1 ≠ q.1 := by
        intro p hp q hq e
        have := (NC q hq).2.2
        rw [← e, (h1 p hp).1] at this
        cases this
      have hp : (cs ++ (F ++ (clo ++ R))).Perm (clo ++ (cs ++ (F ++ R))) :=
        ((List.perm_append_comm_assoc F clo R).append_left cs).trans (List.perm_append_comm_assoc cs clo (F ++ R))
      refine ((hp.map _).nodup_iff).mpr ?_
      rw [List.map_append]
      refine List.nodup_append.mpr ⟨hclo, nd, fun a ha b hb => ?_⟩
      obtain ⟨q, hq, rfl⟩ := List.mem_map.mp ha
      obtain ⟨p, hp, rfl⟩ := List.mem_map.mp hb
      exact (hdis p hp q hq).symm
    · show (locOf sc ds).length = sc.names.length
      unfold locOf
      have : ps.length ≤ sc.names.length := by
        have := congrArg List.length K.k5
        simp only [List.length_map, List.length_take] at this
        tb_start
      simp only [List.length_append, List.length_map, List.length_replicate]
      tb_start
    · intro i z k o g1 g2
      have hzk : sc.names.lookup z = some k := lookup_of_nodup K.k4 g1
      have hki : env.kindOf z = some k := by unfold Env.kindOf; rw [e1]; exact hzk
      have hpz : ∀ d, ds[i]? = some d → ps[i]? = some z := by
        intro d hd'
        have hi : i < ps.length := by rw [← hlen]; exact (List.getElem?_eq_some_iff.mp hd').1
        obtain ⟨k', hk'⟩ := hpi i ps[i] (List.getElem?_eq_getElem hi)
        rw [g1] at hk'
        simp only [Option.some.injEq, Prod.mk.injEq] at hk'
        rw [List.getElem?_eq_getElem hi, hk'.1]
      rcases K.k8 _ (List.mem_of_getElem? g1) with (rfl | rfl) | rfl
      · refine .loc rfl fun d hd' => ?_
        subst hd'
        rcases locOf_get g2 with ⟨d', q1, q2⟩ | q
        · cases q2
          exact bindL_get hki hpn hr (hpz _ q1) q1
        · cases q
      · have hcm : (z, NameKind.cell) ∈ sc.names := List.mem_of_getElem? g1
        obtain ⟨a, ha⟩ := Option.isSome_iff_exists.mp (cellsFrom_some (x := z) sc.names (s.heap.objs.size + 1) [] (.inl hzk))
        rw [← e6] at ha
        obtain ⟨ob, q1, q2⟩ := CellsAre.get YC (mem_of_lookup' ha)
        refine .cell rfl ⟨a, ob, _, ha, q1, q2, fun d hd' => ?_⟩
        subst hd'
        rcases locOf_get g2 with ⟨d', q3, q4⟩ | q
        · cases q4
          exact bindC_get hki hpn hr (hpz _ q3) q3
        · cases q
      · refine .oth (fun h => by cases h) (fun h => by cases h) (fun h => by cases h) ?_
        rcases locOf_get g2 with ⟨d', q3, q4⟩ | q
        · have := K.k6 z (List.mem_of_getElem? (hpz _ q3))
          rw [hzk] at this
          rcases this with q | q <;> cases q
        · exact q
  refine codeAny_func (wpAny_mono (hwp c _ ok fn rfl rfl rfl rfl hroom.frames rep) (fun fl s' h => h) fun e s' h => Fly.leaves hroom.frames e5 h.2 fun s'' hf' => he _ _ h.1 hf')
theorem enter (hS : ∀ ss, SndSs G rp ss) {f : Nat} {ps : List Str} {sc : Scope} {body : Ss} {fd : FuncData} {n : Nat} {ds : List D} {μ : Mu} {Q : D → Mu → Prop} {X : Prop} (fa : FnAt G.K f ps sc body fd) (hw : body.wf G.kc sc = true)
    (hlen : ds.length = ps.length) (hwp : wpSs (FS G n) (MK G n) rp body (locOf sc ds) μ (retQ Q) X)
    {A : Around} {stk : List Env} {F R : Led} {s : Shared} {args : Args} {ws : List Value} (room : Room A stk (n + 1)) (hst : StkIn R stk) (x : HRep G μ F R s) (hr : RVs G F ds ws) (hbind : BindsTo s fd args (ps.zip ws))
    {RR : Result → Shared → Prop} (hq : ∀ v s', PostH G F R Q v s' → RR (.ok (.ret v)) s') (he : ∀ e s', X → Fly G stk e s' → RR (.error e) s') :
    codeAny (model G.prog G.w) A (.call (.ref f) args) RR s := by
  refine enterL (X := X) fa hlen room hst x hr hbind (fun c s₁ ok fn hsc hcn hstk hR hfr rep => ?_) he
  subst hsc hcn hR
  refine wpAny_mono (hS body c _ μ F _ _ X ok fn hw hwp rep) ?_ fun e s' h => ⟨h.1, hstk ▸ h.2⟩
  intro fl s' hfl
  have fin : ∀ {loc' μ' F' d v}, (∀ p ∈ F, p ∈ F') → c.Rep G loc' μ' F' s' → RV G F' d v → (∃ ν, ν.Sublist μ' ∧ Q d ν) → PostH G F c.R Q v s' := by
    rintro loc' μ' F' d v q1 q2 q3 ⟨ν, q4, q5⟩
    obtain ⟨m, oL, es, ep, clo, Fm, ho, hd, hk, hf, hl, H⟩ := q2.toH
    refine ⟨d, ν, F', q1, (H.sub G q4).subR G ?_, q3, q5⟩
    exact List.Sublist.cons _ (List.sublist_append_right _ _)
  cases fl with
  | next =>
    obtain ⟨loc', μ', F', q1, q2, q3⟩ := hfl
    exact hq _ _ (fin (d := .none) q1 q2 rfl q3)
  | brk => exact hfl.elim
  | cont => obtain ⟨loc', μ', F', q1, q2, q3⟩ := hfl; exact q3.elim
  | ret v =>
    obtain ⟨loc', μ', F', d, q1, q2, q3, q4⟩ := hfl
    exact hq _ _ (fin q1 q2 q3 q4)
/-- the contract of a def, from its body -/
theorem FS_intro (hS : ∀ ss, SndSs G rp ss) {f : Nat} {ps : List Str} {sc : Scope} {body : Ss} {fd : FuncData} {n : Nat} {ds : List D} {μ : Mu} {Q : D → Mu → Prop} {X : Prop} (fa : FnAt G.K f ps sc body fd)
    (hb : ∀ vs : List Value, vs.length = ps.length → bindArgs fd ⟨vs, []⟩ = pure (ps.zip vs)) (hw : body.wf G.kc sc = true)
    (hlen : ds.length = ps.length) (hwp : wpSs (FS G n) (MK G n) rp body (locOf sc ds) μ (retQ Q) X) : FS G (n + 1) f ds μ Q X := by
  intro A stk F R s vs room hst x hr
  refine wpAny_call (enter hS fa hw hlen hwp room hst x hr (BindsTo.of_eq (hb vs ?_)) (fun v s' h => h) fun e s' h1 h2 => ⟨h1, h2⟩)
  rw [hr.length, hlen]
end
section
variable {G : Gx} {rp : D → Str} {μ : Mu} {F R : Led} {s : Shared}
theorem HRep.news (x : HRep G μ F R s) : ∀ p ∈ μ, p.1 ≠ s.heap.objs.size := by
  obtain ⟨⟨cs, h1, nd, hc⟩, st, hsz, hs⟩ := x
  intro p hp
  have : p.1 ∈ cs.map (·.1) := by rw [hc.addr G]; exact List.mem_map_of_mem hp
  obtain ⟨q, hq, he⟩ := List.mem_map.mp this
  rw [← he]
  exact Nat.ne_of_lt (Heap.lt_size (h1 q (List.mem_append_left _ hq)).1)
theorem HRep.push (x : HRep G μ F R s) (o : Obj) (hfree : o.isFreed = false := by rfl) (tk : Tok) : HRep G μ ((s.heap.objs.size, o) :: F) R { s with heap := s.heap.push o, toks := tk } := by
  obtain ⟨⟨cs, h1, nd, hc⟩, st, hsz, hs⟩ := x
  have hb : G.base.get? s.heap.objs.size = none := by
    cases hq : G.base.get? s.heap.objs.size with
    | none => rfl
    | some o' => exact absurd (Heap.lt_size (st _ _ hq)) (Nat.lt_irrefl _)
  refine ⟨⟨cs, ?_, ?_, hc.mono G fun p h => List.mem_cons_of_mem _ h⟩, fun b o e => Heap.get?_push_of_some _ (st b o e), by rw [Heap.size_push]; exact Nat.le_succ_of_le hsz, ⟨hs.gens, hs.drawn, hs.os⟩⟩
  · intro p hp
    have old : ∀ p ∈ cs ++ (F ++ R), (s.heap.push o).get? p.1 = some p.2 ∧ G.base.get? p.1 = none := fun p hp => ⟨Heap.get?_push_of_some _ (h1 p hp).1, (h1 p hp).2⟩
    simp only [List.cons_append, List.mem_append, List.mem_cons] at hp old
    rcases hp with q | rfl | q | q
    · exact old p (.inl q)
    · exact ⟨Heap.get?_push_size _ hfree, hb⟩
    · exact old p (.inr (.inl q))
    · exact old p (.inr (.inr q))
  · exact nodup_cons_F nd fun p hp => Nat.ne_of_lt (Heap.lt_size (h1 p hp).1)
theorem HRep.pushC (x : HRep G μ F R s) (o : Obj) (c : Cell) (hc' : CellRep G F c o) (hfree : o.isFreed = false := by rfl) (tk : Tok) : HRep G ((s.heap.objs.size, c) :: μ) F R { s with heap := s.heap.push o, toks := tk } := by
  obtain ⟨⟨cs, h1, nd, hc⟩, st, hsz, hs⟩ := x
  have hb : G.base.get? s.heap.objs.size = none := by
    cases hq : G.base.get? s.heap.objs.size with
    | none => rfl
    | some o' => exact absurd (Heap.lt_size (st _ _ hq)) (Nat.lt_irrefl _)
  refine ⟨⟨(s.heap.objs.size, o) :: cs, ?_, ?_, ⟨o, cs, rfl, hc', hc⟩⟩, fun b o e => Heap.get?_push_of_some _ (st b o e), by rw [Heap.size_push]; exact Nat.le_succ_of_le hsz, ⟨hs.gens, hs.drawn, hs.os⟩⟩
  · intro p hp
    rcases List.mem_cons.mp hp with rfl | hp
    · exact ⟨Heap.get?_push_size _ hfree, hb⟩
    · exact ⟨Heap.get?_push_of_some _ (h1 p hp).1, (h1 p hp).2⟩
  · show (((s.heap.objs.size, o) :: (cs ++ (F ++ R))).map (·.1)).Nodup
    rw [List.map_cons]
    refine List.nodup_cons.mpr ⟨?_, nd⟩
    intro hm
    obtain ⟨p, hp, he⟩ := List.mem_map.mp hm
    exact Nat.ne_of_lt (Heap.lt_size (h1 p hp).1) he
/-- a Matcher made -/
theorem MK_intro (hS : ∀ ss, SndSs G rp ss) {f : Nat} {ps : List Str} {sc : Scope} {body : Ss} {fd : FuncData} {n : Nat} {t p : D} {Q : D → Mu → Prop} {X : Prop} (fa : FnAt G.K f ps sc body fd) (hw : body.wf G.kc sc = true) (hps : ps.length = 4)
    (hmk : makesIn G.K G.C = true) (hi : findIn G.K (.ref G.C) "__init__" = some (some (.ref f))) (hf : typeIn G.K (.ref f) = some (.type "function"))
    (hb : ∀ (s : Shared) (v0 v1 v2 : Value), G.K.In s.heap → ∃ tk, BindsTo s fd ⟨[v0, v1, v2], []⟩ (ps.zip [v0, v1, v2, .int 60 tk]))
    (hwp : ∀ dx, freshMu μ dx → wpSs (FS G n) (MK G n) rp body (locOf sc [.obj dx, t, p, .int 60]) ((dx, .inst []) :: μ) (retQ fun d μ' => d = .none ∧ Q (.obj dx) μ') X) : MK G (n + 2) [t, p] μ Q X := by
  intro A stk F R s vs room hst x hr
  obtain ⟨hh, g, d, tk, os⟩ := s
  obtain ⟨v1, r, rfl, r1, v2, r', rfl, r2, rfl⟩ := hr
  have hX : G.K.In hh := G.KX.keeps x.stays
  refine wpAny_call (make_core (makes_of hX hmk) (looks_findIn hX hi) (fun self => bind_fn hX self hf) (.inl rfl) ?_)
  have x1 := x.pushC emptyDict (.inst []) ⟨[], 0, rfl, .nil _⟩ rfl tk
  have x2 := x1.push (instObj G.C hh.objs.size) rfl tk
  have hsz : (hh.push emptyDict).objs.size = hh.objs.size + 1 := Heap.size_push ..
  have x2 : HRep G ((hh.objs.size, .inst []) :: μ) ((hh.objs.size + 1, instObj G.C hh.objs.size) :: F) R ⟨(hh.push emptyDict).push (instObj G.C hh.objs.size), g, d, tk, os⟩ := by
    have := x2
    simp only [hsz] at this
    exact this
  have hm : ∀ p ∈ F, p ∈ ((hh.objs.size + 1, instObj G.C hh.objs.size) :: F) := fun p h => List.mem_cons_of_mem _ h
  have hX2 : G.K.In ((hh.push emptyDict).push (instObj G.C hh.objs.size)) := G.KX.keeps x2.stays
  obtain ⟨tk60, hbind⟩ := hb ⟨(hh.push emptyDict).push (instObj G.C hh.objs.size), g, d, tk, os⟩ (.ref (hh.objs.size + 1)) v1 v2 hX2
  have hrs : RVs G ((hh.objs.size + 1, instObj G.C hh.objs.size) :: F) [.obj hh.objs.size, t, p, .int 60] [.ref (hh.objs.size + 1), v1, v2, .int 60 tk60] :=
    ⟨_, _, rfl, ⟨_, rfl, List.mem_cons_self⟩, _, _, rfl, r1.mono G hm, _, _, rfl, r2.mono G hm, _, _, rfl, ⟨_, rfl⟩, rfl⟩
  have room' : Room (A.under (.builtin "type.__call__" ⟨.ref G.C :: [v1, v2], []⟩)) stk (n + 1) :=
    ⟨room.hand, by unfold Around.under; rw [room.guards]; rfl, by unfold Around.under; rw [room.frames]; rfl,
      by show A.depth + 1 + 2 * (n + 1) + 8 < _; have := room.depth; omega, by show A.units + 1 + 32 * (n + 1) + 80 < _; have := room.units; omega⟩
  refine enter (Q := fun d' μ' => d' = .none ∧ Q (.obj hh.objs.size) μ') hS fa hw (by rw [hps]; rfl) (hwp hh.objs.size x.news) room' hst x2 hrs hbind (fun v s' h => ?_) fun e s' h1 h2 => ⟨h1, h2⟩
  obtain ⟨d', μ', F', h1, h2, h3, rfl, h5⟩ := h
  exact ⟨h3, .obj hh.objs.size, μ', F', fun p hp => h1 p (hm p hp), h2, ⟨_, rfl, h1 _ List.mem_cons_self⟩, h5⟩
end
noncomputable def f_is_lower_s : Scope := { kind := .function, names := [("c", .local)], isGenerator := false, isCoroutine := false, more := [] }
@[reducible] noncomputable def f_is_lower : Ss := (.cons (.ret (.cmp2 .LtE .LtE (.int 97 0 ⟨24,11,24,13⟩) (.var 0 "c" ⟨24,17,24,18⟩) (.int 122 0 ⟨24,22,24,25⟩) ⟨24,11,24,25⟩) ⟨24,4,24,25⟩)
  .nil)
noncomputable def f_is_upper_s : Scope := { kind := .function, names := [("c", .local)], isGenerator := false, isCoroutine := false, more := [] }
@[reducible] noncomputable def f_is_upper : Ss := (.cons (.ret (.cmp2 .LtE .LtE (.int 65 0 ⟨26,11,26,13⟩) (.var 0 "c" ⟨26,17,26,18⟩) (.int 90 0 ⟨26,22,26,24⟩) ⟨26,11,26,24⟩) ⟨26,4,26,24⟩)
  .nil)
noncomputable def f_is_alpha_s : Scope := { kind := .function, names := [("c", .local), ("is_lower", .globalImplicit), ("is_upper", .globalImplicit)], isGenerator := false, isCoroutine := false, more := [] }
@[reducible] noncomputable def f_is_alpha : Ss := (.cons (.ret (.bop .Or (.cons (.call 41 "is_lower" ⟨28,11,28,19⟩ (.cons (.var 0 "c" ⟨28,20,28,21⟩) .nil) ⟨28,11,28,22⟩) (.cons (.call 48 "is_upper" ⟨28,26,28,34⟩ (.cons (.var 0 "c" ⟨28,35,28,36⟩) .nil) ⟨28,26,28,37⟩) .nil)) ⟨28,11,28,37⟩) ⟨28,4,28,37⟩)
  .nil)
noncomputable def f_is_digit_s : Scope := { kind := .function, names := [("c", .local)], isGenerator := false, isCoroutine := false, more := [] }
@[reducible] noncomputable def f_is_digit : Ss := (.cons (.ret (.cmp2 .LtE .LtE (.int 48 0 ⟨30,11,30,13⟩) (.var 0 "c" ⟨30,17,30,18⟩) (.int 57 0 ⟨30,22,30,24⟩) ⟨30,11,30,24⟩) ⟨30,4,30,24⟩)
  .nil)
noncomputable def f_is_space_s : Scope := { kind := .function, names := [("c", .local)], isGenerator := false, isCoroutine := false, more := [] }
@[reducible] noncomputable def f_is_space : Ss := (.cons (.ret (.bop .Or (.cons (.cmp1 .Eq (.var 0 "c" ⟨32,11,32,12⟩) (.int 32 0 ⟨32,16,32,18⟩) ⟨32,11,32,18⟩) (.cons (.cmp2 .LtE .LtE (.int 9 0 ⟨32,22,32,23⟩) (.var 0 "c" ⟨32,27,32,28⟩) (.int 13 0 ⟨32,32,32,34⟩) ⟨32,22,32,34⟩) .nil)) ⟨32,11,32,34⟩) ⟨32,4,32,34⟩)
  .nil)
noncomputable def f_is_control_s : Scope := { kind := .function, names := [("c", .local)], isGenerator := false, isCoroutine := false, more := [] }
@[reducible] noncomputable def f_is_control : Ss := (.cons (.ret (.bop .Or (.cons (.cmp1 .Lt (.var 0 "c" ⟨34,11,34,12⟩) (.int 32 0 ⟨34,15,34,17⟩) ⟨34,11,34,17⟩) (.cons (.cmp1 .Eq (.var 0 "c" ⟨34,21,34,22⟩) (.int 127 0 ⟨34,26,34,29⟩) ⟨34,21,34,29⟩) .nil)) ⟨34,11,34,29⟩) ⟨34,4,34,29⟩)
  .nil)
noncomputable def f_is_punctuation_s : Scope := { kind := .function, names := [("c", .local), ("is_alpha", .globalImplicit), ("is_digit", .globalImplicit)], isGenerator := false, isCoroutine := false, more := [] }
@[reducible] noncomputable def f_is_punctuation : Ss := (.cons (.ret (.bop .And (.cons (.cmp2 .Lt .Lt (.int 32 0 ⟨36,11,36,13⟩) (.var 0 "c" ⟨36,16,36,17⟩) (.int 127 0 ⟨36,20,36,23⟩) ⟨36,11,36,23⟩) (.cons (.not (.call 55 "is_alpha" ⟨36,33,36,41⟩ (.cons (.var 0 "c" ⟨36,42,36,43⟩) .nil) ⟨36,33,36,44⟩) ⟨36,29,36,44⟩) (.cons (.not (.call 62 "is_digit" ⟨36,55,36,63⟩ (.cons (.var 0 "c" ⟨36,64,36,65⟩) .nil) ⟨36,55,36,66⟩) ⟨36,51,36,66⟩) .nil))) ⟨36,11,36,67⟩) ⟨36,4,36,67⟩)
  .nil)
noncomputable def f_is_hex_s : Scope := { kind := .function, names := [("c", .local), ("is_digit", .globalImplicit)], isGenerator := false, isCoroutine := false, more := [] }
@[reducible] noncomputable def f_is_hex : Ss := (.cons (.ret (.bop .Or (.cons (.call 62 "is_digit" ⟨38,11,38,19⟩ (.cons (.var 0 "c" ⟨38,20,38,21⟩) .nil) ⟨38,11,38,22⟩) (.cons (.cmp2 .LtE .LtE (.int 65 0 ⟨38,26,38,28⟩) (.var 0 "c" ⟨38,32,38,33⟩) (.int 70 0 ⟨38,37,38,39⟩) ⟨38,26,38,39⟩) (.cons (.cmp2 .LtE .LtE (.int 97 0 ⟨38,43,38,45⟩) (.var 0 "c" ⟨38,49,38,50⟩) (.int 102 0 ⟨38,54,38,57⟩) ⟨38,43,38,57⟩) .nil))) ⟨38,11,38,57⟩) ⟨38,4,38,57⟩)
  .nil)
noncomputable def f_in_class_s : Scope := { kind := .function, names := [("c", .local), ("letter", .local), ("low", .local), ("found", .local), ("is_upper", .globalImplicit), ("is_alpha", .globalImplicit), ("is_control", .globalImplicit), ("is_digit", .globalImplicit), ("is_lower", .globalImplicit), ("is_punctuation", .globalImplicit), ("is_space", .globalImplicit), ("is_hex", .globalImplicit)], isGenerator := false, isCoroutine := false, more := [] }
@[reducible] noncomputable def f_in_class : Ss := (.cons (.asg 2 "low" ⟨40,4,40,7⟩ (.ite (.call 48 "is_upper" ⟨40,25,40,33⟩ (.cons (.var 1 "letter" ⟨40,34,40,40⟩) .nil) ⟨40,25,40,41⟩) (.bin .Add false (.var 1 "letter" ⟨40,10,40,16⟩) (.int 32 0 ⟨40,19,40,21⟩) ⟨40,10,40,21⟩) (.var 1 "letter" ⟨40,47,40,53⟩) ⟨40,10,40,53⟩) ⟨40,4,40,53⟩)
  (.cons (.ite (.cmp1 .Eq (.var 2 "low" ⟨41,7,41,10⟩) (.int 97 0 ⟨41,14,41,16⟩) ⟨41,7,41,16⟩) (.cons (.asg 3 "found" ⟨42,8,42,13⟩ (.call 55 "is_alpha" ⟨42,16,42,24⟩ (.cons (.var 0 "c" ⟨42,25,42,26⟩) .nil) ⟨42,16,42,27⟩) ⟨42,8,42,27⟩)
  .nil) (.cons (.ite (.cmp1 .Eq (.var 2 "low" ⟨43,9,43,12⟩) (.int 99 0 ⟨43,16,43,18⟩) ⟨43,9,43,18⟩) (.cons (.asg 3 "found" ⟨44,8,44,13⟩ (.call 76 "is_control" ⟨44,16,44,26⟩ (.cons (.var 0 "c" ⟨44,27,44,28⟩) .nil) ⟨44,16,44,29⟩) ⟨44,8,44,29⟩)
  .nil) (.cons (.ite (.cmp1 .Eq (.var 2 "low" ⟨45,9,45,12⟩) (.int 100 0 ⟨45,16,45,19⟩) ⟨45,9,45,19⟩) (.cons (.asg 3 "found" ⟨46,8,46,13⟩ (.call 62 "is_digit" ⟨46,16,46,24⟩ (.cons (.var 0 "c" ⟨46,25,46,26⟩) .nil) ⟨46,16,46,27⟩) ⟨46,8,46,27⟩)
  .nil) (.cons (.ite (.cmp1 .Eq (.var 2 "low" ⟨47,9,47,12⟩) (.int 108 0 ⟨47,16,47,19⟩) ⟨47,9,47,19⟩) (.cons (.asg 3 "found" ⟨48,8,48,13⟩ (.call 41 "is_lower" ⟨48,16,48,24⟩ (.cons (.var 0 "c" ⟨48,25,48,26⟩) .nil) ⟨48,16,48,27⟩) ⟨48,8,48,27⟩)
  .nil) (.cons (.ite (.cmp1 .Eq (.var 2 "low" ⟨49,9,49,12⟩) (.int 112 0 ⟨49,16,49,19⟩) ⟨49,9,49,19⟩) (.cons (.asg 3 "found" ⟨50,8,50,13⟩ (.call 83 "is_punctuation" ⟨50,16,50,30⟩ (.cons (.var 0 "c" ⟨50,31,50,32⟩) .nil) ⟨50,16,50,33⟩) ⟨50,8,50,33⟩)
  .nil) (.cons (.ite (.cmp1 .Eq (.var 2 "low" ⟨51,9,51,12⟩) (.int 115 0 ⟨51,16,51,19⟩) ⟨51,9,51,19⟩) (.cons (.asg 3 "found" ⟨52,8,52,13⟩ (.call 69 "is_space" ⟨52,16,52,24⟩ (.cons (.var 0 "c" ⟨52,25,52,26⟩) .nil) ⟨52,16,52,27⟩) ⟨52,8,52,27⟩)
  .nil) (.cons (.ite (.cmp1 .Eq (.var 2 "low" ⟨53,9,53,12⟩) (.int 117 0 ⟨53,16,53,19⟩) ⟨53,9,53,19⟩) (.cons (.asg 3 "found" ⟨54,8,54,13⟩ (.call 48 "is_upper" ⟨54,16,54,24⟩ (.cons (.var 0 "c" ⟨54,25,54,26⟩) .nil) ⟨54,16,54,27⟩) ⟨54,8,54,27⟩)
  .nil) (.cons (.ite (.cmp1 .Eq (.var 2 "low" ⟨55,9,55,12⟩) (.int 119 0 ⟨55,16,55,19⟩) ⟨55,9,55,19⟩) (.cons (.asg 3 "found" ⟨56,8,56,13⟩ (.bop .Or (.cons (.call 55 "is_alpha" ⟨56,16,56,24⟩ (.cons (.var 0 "c" ⟨56,25,56,26⟩) .nil) ⟨56,16,56,27⟩) (.cons (.call 62 "is_digit" ⟨56,31,56,39⟩ (.cons (.var 0 "c" ⟨56,40,56,41⟩) .nil) ⟨56,31,56,42⟩) .nil)) ⟨56,16,56,42⟩) ⟨56,8,56,42⟩)
  .nil) (.cons (.ite (.cmp1 .Eq (.var 2 "low" ⟨57,9,57,12⟩) (.int 120 0 ⟨57,16,57,19⟩) ⟨57,9,57,19⟩) (.cons (.asg 3 "found" ⟨58,8,58,13⟩ (.call 90 "is_hex" ⟨58,16,58,22⟩ (.cons (.var 0 "c" ⟨58,23,58,24⟩) .nil) ⟨58,16,58,25⟩) ⟨58,8,58,25⟩)
  .nil) (.cons (.ite (.cmp1 .Eq (.var 2 "low" ⟨59,9,59,12⟩) (.int 122 0 ⟨59,16,59,19⟩) ⟨59,9,59,19⟩) (.cons (.asg 3 "found" ⟨60,8,60,13⟩ (.cmp1 .Eq (.var 0 "c" ⟨60,16,60,17⟩) (.int 0 0 ⟨60,21,60,22⟩) ⟨60,16,60,22⟩) ⟨60,8,60,22⟩)
  .nil) (.cons (.ret (.cmp1 .Eq (.var 1 "letter" ⟨62,15,62,21⟩) (.var 0 "c" ⟨62,25,62,26⟩) ⟨62,15,62,26⟩) ⟨62,8,62,26⟩)
  .nil) ⟨59,4,62,26⟩)
  .nil) ⟨57,4,62,26⟩)
  .nil) ⟨55,4,62,26⟩)
  .nil) ⟨53,4,62,26⟩)
  .nil) ⟨51,4,62,26⟩)
  .nil) ⟨49,4,62,26⟩)
  .nil) ⟨47,4,62,26⟩)
  .nil) ⟨45,4,62,26⟩)
  .nil) ⟨43,4,62,26⟩)
  .nil) ⟨41,4,62,26⟩)
  (.cons (.ret (.ite (.call 48 "is_upper" ⟨63,24,63,32⟩ (.cons (.var 1 "letter" ⟨63,33,63,39⟩) .nil) ⟨63,24,63,40⟩) (.not (.var 3 "found" ⟨63,15,63,20⟩) ⟨63,11,63,20⟩) (.var 3 "found" ⟨63,46,63,51⟩) ⟨63,11,63,51⟩) ⟨63,4,63,51⟩)
  .nil)))
noncomputable def m_init_s : Scope := { kind := .function, names := [("self", .local), ("text", .local), ("pattern", .local), ("depth", .local), ("zero", .local)], isGenerator := false, isCoroutine := false, more := [] }
@[reducible] noncomputable def m_init : Ss := (.cons (.asg 4 "zero" ⟨67,8,67,12⟩ (.bm .find (.var 2 "pattern" ⟨67,15,67,22⟩) ⟨67,15,67,27⟩ (.cons (.bytes [0] 0 ⟨67,28,67,35⟩) .nil) ⟨67,15,67,36⟩) ⟨67,8,67,36⟩)
  (.cons (.seta 0 (.var 0 "self" ⟨68,8,68,12⟩) ⟨68,8,68,17⟩ (.var 1 "text" ⟨68,20,68,24⟩) ⟨68,8,68,24⟩)
  (.cons (.seta 1 (.var 0 "self" ⟨69,8,69,12⟩) ⟨69,8,69,20⟩ (.ite (.cmp1 .Lt (.var 4 "zero" ⟨69,34,69,38⟩) (.int 0 0 ⟨69,41,69,42⟩) ⟨69,34,69,42⟩) (.var 2 "pattern" ⟨69,23,69,30⟩) (.slc (.var 2 "pattern" ⟨69,48,69,55⟩) .none (.some (.var 4 "zero" ⟨69,57,69,61⟩)) ⟨69,56,69,61⟩ ⟨69,48,69,62⟩) ⟨69,23,69,62⟩) ⟨69,8,69,62⟩)
  (.cons (.seta 2 (.var 0 "self" ⟨70,8,70,12⟩) ⟨70,8,70,23⟩ (.var 3 "depth" ⟨70,26,70,31⟩) ⟨70,8,70,31⟩)
  (.cons (.seta 3 (.var 0 "self" ⟨71,8,71,12⟩) ⟨71,8,71,18⟩ (.int 0 0 ⟨71,21,71,22⟩) ⟨71,8,71,22⟩)
  (.cons (.seta 4 (.var 0 "self" ⟨72,8,72,12⟩) ⟨72,8,72,18⟩ (.int 0 0 ⟨72,21,72,22⟩) ⟨72,8,72,22⟩)
  (.cons (.seta 5 (.var 0 "self" ⟨73,8,73,12⟩) ⟨73,8,73,19⟩ (.list false .nil ⟨73,22,73,24⟩) ⟨73,8,73,24⟩)
  (.cons (.seta 6 (.var 0 "self" ⟨74,8,74,12⟩) ⟨74,8,74,20⟩ (.list true .nil ⟨74,23,74,25⟩) ⟨74,8,74,25⟩)
  .nil))))))))
noncomputable def m_reset_s : Scope := { kind := .function, names := [("self", .local)], isGenerator := false, isCoroutine := false, more := [] }
@[reducible] noncomputable def m_reset : Ss := (.cons (.seta 3 (.var 0 "self" ⟨77,8,77,12⟩) ⟨77,8,77,18⟩ (.int 0 0 ⟨77,21,77,22⟩) ⟨77,8,77,22⟩)
  (.cons (.seta 4 (.var 0 "self" ⟨78,8,78,12⟩) ⟨78,8,78,18⟩ (.int 0 0 ⟨78,21,78,22⟩) ⟨78,8,78,22⟩)
  (.cons (.seta 5 (.var 0 "self" ⟨79,8,79,12⟩) ⟨79,8,79,19⟩ (.list false .nil ⟨79,22,79,24⟩) ⟨79,8,79,24⟩)
  (.cons (.seta 6 (.var 0 "self" ⟨80,8,80,12⟩) ⟨80,8,80,20⟩ (.list true .nil ⟨80,23,80,25⟩) ⟨80,8,80,25⟩)
  .nil))))
noncomputable def m_at_s : Scope := { kind := .function, names := [("self", .local), ("p", .local), ("len", .globalImplicit)], isGenerator := false, isCoroutine := false, more := [] }
@[reducible] noncomputable def m_at : Ss := (.cons (.ret (.ite (.cmp1 .Lt (.var 1 "p" ⟨83,34,83,35⟩) (.bi .len ⟨83,38,83,41⟩ (.cons (.attr 1 (.var 0 "self" ⟨83,42,83,46⟩) ⟨83,42,83,54⟩) .nil) ⟨83,38,83,55⟩) ⟨83,34,83,55⟩) (.idx (.attr 1 (.var 0 "self" ⟨83,15,83,19⟩) ⟨83,15,83,27⟩) (.var 1 "p" ⟨83,28,83,29⟩) ⟨83,15,83,30⟩) (.int 0 0 ⟨83,61,83,62⟩) ⟨83,15,83,62⟩) ⟨83,8,83,62⟩)
  .nil)
noncomputable def m_class_end_s : Scope := { kind := .function, names := [("self", .local), ("p", .local), ("first", .local), ("is_first", .local), ("is_escaped", .local), ("ESCAPE", .globalImplicit), ("len", .globalImplicit), ("LuaError", .globalImplicit), ("SET_OPEN", .globalImplicit), ("CARET", .globalImplicit), ("SET_CLOSE", .globalImplicit)], isGenerator := false, isCoroutine := false, more := [] }
@[reducible] noncomputable def m_class_end : Ss := (.cons (.asg 2 "first" ⟨86,8,86,13⟩ (.meth 126 "at" (.var 0 "self" ⟨86,16,86,20⟩) ⟨86,16,86,23⟩ (.cons (.var 1 "p" ⟨86,24,86,25⟩) .nil) ⟨86,16,86,26⟩) ⟨86,8,86,26⟩)
  (.cons (.ite (.cmp1 .Eq (.var 2 "first" ⟨87,11,87,16⟩) (.gint 37 "ESCAPE" ⟨87,20,87,26⟩) ⟨87,11,87,26⟩) (.cons (.ite (.cmp1 .GtE (.bin .Add false (.var 1 "p" ⟨88,15,88,16⟩) (.int 1 0 ⟨88,19,88,20⟩) ⟨88,15,88,20⟩) (.bi .len ⟨88,24,88,27⟩ (.cons (.attr 1 (.var 0 "self" ⟨88,28,88,32⟩) ⟨88,28,88,40⟩) .nil) ⟨88,24,88,41⟩) ⟨88,15,88,41⟩) (.cons (.raise [109,97,108,102,111,114,109,101,100,32,112,97,116,116,101,114,110,32,40,101,110,100,115,32,119,105,116,104,32,39,37,39,41] 0 ⟨89,31,89,67⟩ ⟨89,22,89,30⟩ ⟨89,22,89,68⟩ ⟨89,16,89,68⟩)
  .nil) .nil ⟨88,12,89,68⟩)
  (.cons (.ret (.bin .Add false (.var 1 "p" ⟨90,19,90,20⟩) (.int 2 0 ⟨90,23,90,24⟩) ⟨90,19,90,24⟩) ⟨90,12,90,24⟩)
  .nil)) .nil ⟨87,8,90,24⟩)
  (.cons (.ite (.cmp1 .NotEq (.var 2 "first" ⟨91,11,91,16⟩) (.gint 91 "SET_OPEN" ⟨91,20,91,28⟩) ⟨91,11,91,28⟩) (.cons (.ret (.bin .Add false (.var 1 "p" ⟨92,19,92,20⟩) (.int 1 0 ⟨92,23,92,24⟩) ⟨92,19,92,24⟩) ⟨92,12,92,24⟩)
  .nil) .nil ⟨91,8,92,24⟩)
  (.cons (.aug 1 "p" ⟨93,8,93,9⟩ .Add (.int 1 0 ⟨93,13,93,14⟩) ⟨93,8,93,14⟩)
  (.cons (.ite (.cmp1 .Eq (.meth 126 "at" (.var 0 "self" ⟨94,11,94,15⟩) ⟨94,11,94,18⟩ (.cons (.var 1 "p" ⟨94,19,94,20⟩) .nil) ⟨94,11,94,21⟩) (.gint 94 "CARET" ⟨94,25,94,30⟩) ⟨94,11,94,30⟩) (.cons (.aug 1 "p" ⟨95,12,95,13⟩ .Add (.int 1 0 ⟨95,17,95,18⟩) ⟨95,12,95,18⟩)
  .nil) .nil ⟨94,8,95,18⟩)
  (.cons (.asg 3 "is_first" ⟨96,8,96,16⟩ (.bool true 0 ⟨96,19,96,23⟩) ⟨96,8,96,23⟩)
  (.cons (.whl (.bop .Or (.cons (.var 3 "is_first" ⟨97,14,97,22⟩) (.cons (.cmp1 .NotEq (.meth 126 "at" (.var 0 "self" ⟨97,26,97,30⟩) ⟨97,26,97,33⟩ (.cons (.var 1 "p" ⟨97,34,97,35⟩) .nil) ⟨97,26,97,36⟩) (.gint 93 "SET_CLOSE" ⟨97,40,97,49⟩) ⟨97,26,97,49⟩) .nil)) ⟨97,14,97,49⟩) (.cons (.asg 3 "is_first" ⟨98,12,98,20⟩ (.bool false 0 ⟨98,23,98,28⟩) ⟨98,12,98,28⟩)
  (.cons (.ite (.cmp1 .GtE (.var 1 "p" ⟨99,15,99,16⟩) (.bi .len ⟨99,20,99,23⟩ (.cons (.attr 1 (.var 0 "self" ⟨99,24,99,28⟩) ⟨99,24,99,36⟩) .nil) ⟨99,20,99,37⟩) ⟨99,15,99,37⟩) (.cons (.raise [109,97,108,102,111,114,109,101,100,32,112,97,116,116,101,114,110,32,40,109,105,115,115,105,110,103,32,39,93,39,41] 0 ⟨100,31,100,65⟩ ⟨100,22,100,30⟩ ⟨100,22,100,66⟩ ⟨100,16,100,66⟩)
  .nil) .nil ⟨99,12,100,66⟩)
  (.cons (.asg 4 "is_escaped" ⟨101,12,101,22⟩ (.cmp1 .Eq (.idx (.attr 1 (.var 0 "self" ⟨101,25,101,29⟩) ⟨101,25,101,37⟩) (.var 1 "p" ⟨101,38,101,39⟩) ⟨101,25,101,40⟩) (.gint 37 "ESCAPE" ⟨101,44,101,50⟩) ⟨101,25,101,50⟩) ⟨101,12,101,50⟩)
  (.cons (.aug 1 "p" ⟨102,12,102,13⟩ .Add (.int 1 0 ⟨102,17,102,18⟩) ⟨102,12,102,18⟩)
  (.cons (.ite (.bop .And (.cons (.var 4 "is_escaped" ⟨103,15,103,25⟩) (.cons (.cmp1 .Lt (.var 1 "p" ⟨103,30,103,31⟩) (.bi .len ⟨103,34,103,37⟩ (.cons (.attr 1 (.var 0 "self" ⟨103,38,103,42⟩) ⟨103,38,103,50⟩) .nil) ⟨103,34,103,51⟩) ⟨103,30,103,51⟩) .nil)) ⟨103,15,103,51⟩) (.cons (.aug 1 "p" ⟨104,16,104,17⟩ .Add (.int 1 0 ⟨104,21,104,22⟩) ⟨104,16,104,22⟩)
  .nil) .nil ⟨103,12,104,22⟩)
  .nil))))) ⟨97,8,104,22⟩)
  (.cons (.ret (.bin .Add false (.var 1 "p" ⟨105,15,105,16⟩) (.int 1 0 ⟨105,19,105,20⟩) ⟨105,15,105,20⟩) ⟨105,8,105,20⟩)
  .nil))))))))
noncomputable def m_in_set_s : Scope := { kind := .function, names := [("self", .local), ("c", .local), ("p", .local), ("last", .local), ("is_wanted", .local), ("here", .local), ("CARET", .globalImplicit), ("ESCAPE", .globalImplicit), ("in_class", .globalImplicit), ("MINUS", .globalImplicit)], isGenerator := false, isCoroutine := false, more := [] }
@[reducible] noncomputable def m_in_set : Ss := (.cons (.asg 4 "is_wanted" ⟨108,8,108,17⟩ (.bool true 0 ⟨108,20,108,24⟩) ⟨108,8,108,24⟩)
  (.cons (.aug 2 "p" ⟨109,8,109,9⟩ .Add (.int 1 0 ⟨109,13,109,14⟩) ⟨109,8,109,14⟩)
  (.cons (.ite (.cmp1 .Eq (.meth 126 "at" (.var 0 "self" ⟨110,11,110,15⟩) ⟨110,11,110,18⟩ (.cons (.var 2 "p" ⟨110,19,110,20⟩) .nil) ⟨110,11,110,21⟩) (.gint 94 "CARET" ⟨110,25,110,30⟩) ⟨110,11,110,30⟩) (.cons (.asg 4 "is_wanted" ⟨111,12,111,21⟩ (.bool false 0 ⟨111,24,111,29⟩) ⟨111,12,111,29⟩)
  (.cons (.aug 2 "p" ⟨112,12,112,13⟩ .Add (.int 1 0 ⟨112,17,112,18⟩) ⟨112,12,112,18⟩)
  .nil)) .nil ⟨110,8,112,18⟩)
  (.cons (.whl (.cmp1 .Lt (.var 2 "p" ⟨113,14,113,15⟩) (.var 3 "last" ⟨113,18,113,22⟩) ⟨113,14,113,22⟩) (.cons (.asg 5 "here" ⟨114,12,114,16⟩ (.idx (.attr 1 (.var 0 "self" ⟨114,19,114,23⟩) ⟨114,19,114,31⟩) (.var 2 "p" ⟨114,32,114,33⟩) ⟨114,19,114,34⟩) ⟨114,12,114,34⟩)
  (.cons (.ite (.cmp1 .Eq (.var 5 "here" ⟨115,15,115,19⟩) (.gint 37 "ESCAPE" ⟨115,23,115,29⟩) ⟨115,15,115,29⟩) (.cons (.aug 2 "p" ⟨116,16,116,17⟩ .Add (.int 1 0 ⟨116,21,116,22⟩) ⟨116,16,116,22⟩)
  (.cons (.ite (.call 97 "in_class" ⟨117,19,117,27⟩ (.cons (.var 1 "c" ⟨117,28,117,29⟩) (.cons (.meth 126 "at" (.var 0 "self" ⟨117,31,117,35⟩) ⟨117,31,117,38⟩ (.cons (.var 2 "p" ⟨117,39,117,40⟩) .nil) ⟨117,31,117,41⟩) .nil)) ⟨117,19,117,42⟩) (.cons (.ret (.var 4 "is_wanted" ⟨118,27,118,36⟩) ⟨118,20,118,36⟩)
  .nil) .nil ⟨117,16,118,36⟩)
  .nil)) (.cons (.ite (.bop .And (.cons (.cmp1 .Eq (.meth 126 "at" (.var 0 "self" ⟨119,17,119,21⟩) ⟨119,17,119,24⟩ (.cons (.bin .Add false (.var 2 "p" ⟨119,25,119,26⟩) (.int 1 0 ⟨119,29,119,30⟩) ⟨119,25,119,30⟩) .nil) ⟨119,17,119,31⟩) (.gint 45 "MINUS" ⟨119,35,119,40⟩) ⟨119,17,119,40⟩) (.cons (.cmp1 .Lt (.bin .Add false (.var 2 "p" ⟨119,45,119,46⟩) (.int 2 0 ⟨119,49,119,50⟩) ⟨119,45,119,50⟩) (.var 3 "last" ⟨119,53,119,57⟩) ⟨119,45,119,57⟩) .nil)) ⟨119,17,119,57⟩) (.cons (.ite (.cmp2 .LtE .LtE (.var 5 "here" ⟨120,19,120,23⟩) (.var 1 "c" ⟨120,27,120,28⟩) (.idx (.attr 1 (.var 0 "self" ⟨120,32,120,36⟩) ⟨120,32,120,44⟩) (.bin .Add false (.var 2 "p" ⟨120,45,120,46⟩) (.int 2 0 ⟨120,49,120,50⟩) ⟨120,45,120,50⟩) ⟨120,32,120,51⟩) ⟨120,19,120,51⟩) (.cons (.ret (.var 4 "is_wanted" ⟨121,27,121,36⟩) ⟨121,20,121,36⟩)
  .nil) .nil ⟨120,16,121,36⟩)
  (.cons (.aug 2 "p" ⟨122,16,122,17⟩ .Add (.int 2 0 ⟨122,21,122,22⟩) ⟨122,16,122,22⟩)
  .nil)) (.cons (.ite (.cmp1 .Eq (.var 5 "here" ⟨123,17,123,21⟩) (.var 1 "c" ⟨123,25,123,26⟩) ⟨123,17,123,26⟩) (.cons (.ret (.var 4 "is_wanted" ⟨124,23,124,32⟩) ⟨124,16,124,32⟩)
  .nil) .nil ⟨123,12,124,32⟩)
  .nil) ⟨119,12,124,32⟩)
  .nil) ⟨115,12,124,32⟩)
  (.cons (.aug 2 "p" ⟨125,12,125,13⟩ .Add (.int 1 0 ⟨125,17,125,18⟩) ⟨125,12,125,18⟩)
  .nil))) ⟨113,8,125,18⟩)
  (.cons (.ret (.not (.var 4 "is_wanted" ⟨126,19,126,28⟩) ⟨126,15,126,28⟩) ⟨126,8,126,28⟩)
  .nil)))))
noncomputable def m_is_single_s : Scope := { kind := .function, names := [("self", .local), ("s", .local), ("p", .local), ("end", .local), ("c", .local), ("first", .local), ("len", .globalImplicit), ("DOT", .globalImplicit), ("ESCAPE", .globalImplicit), ("in_class", .globalImplicit), ("SET_OPEN", .globalImplicit)], isGenerator := false, isCoroutine := false, more := [] }
@[reducible] noncomputable def m_is_single : Ss := (.cons (.ite (.cmp1 .GtE (.var 1 "s" ⟨129,11,129,12⟩) (.bi .len ⟨129,16,129,19⟩ (.cons (.attr 0 (.var 0 "self" ⟨129,20,129,24⟩) ⟨129,20,129,29⟩) .nil) ⟨129,16,129,30⟩) ⟨129,11,129,30⟩) (.cons (.ret (.bool false 0 ⟨130,19,130,24⟩) ⟨130,12,130,24⟩)
  .nil) .nil ⟨129,8,130,24⟩)
  (.cons (.asgT [(4, "c", ⟨131,8,131,9⟩), (5, "first", ⟨131,11,131,16⟩)] 0 ⟨131,8,131,16⟩ (.tup (.cons (.idx (.attr 0 (.var 0 "self" ⟨131,20,131,24⟩) ⟨131,20,131,29⟩) (.var 1 "s" ⟨131,30,131,31⟩) ⟨131,20,131,32⟩) (.cons (.idx (.attr 1 (.var 0 "self" ⟨131,34,131,38⟩) ⟨131,34,131,46⟩) (.var 2 "p" ⟨131,47,131,48⟩) ⟨131,34,131,49⟩) .nil)) 0 ⟨131,19,131,50⟩) ⟨131,8,131,50⟩)
  (.cons (.ite (.cmp1 .Eq (.var 5 "first" ⟨132,11,132,16⟩) (.gint 46 "DOT" ⟨132,20,132,23⟩) ⟨132,11,132,23⟩) (.cons (.ret (.bool true 0 ⟨133,19,133,23⟩) ⟨133,12,133,23⟩)
  .nil) .nil ⟨132,8,133,23⟩)
  (.cons (.ite (.cmp1 .Eq (.var 5 "first" ⟨134,11,134,16⟩) (.gint 37 "ESCAPE" ⟨134,20,134,26⟩) ⟨134,11,134,26⟩) (.cons (.ret (.call 97 "in_class" ⟨135,19,135,27⟩ (.cons (.var 4 "c" ⟨135,28,135,29⟩) (.cons (.idx (.attr 1 (.var 0 "self" ⟨135,31,135,35⟩) ⟨135,31,135,43⟩) (.bin .Add false (.var 2 "p" ⟨135,44,135,45⟩) (.int 1 0 ⟨135,48,135,49⟩) ⟨135,44,135,49⟩) ⟨135,31,135,50⟩) .nil)) ⟨135,19,135,51⟩) ⟨135,12,135,51⟩)
  .nil) .nil ⟨134,8,135,51⟩)
  (.cons (.ite (.cmp1 .Eq (.var 5 "first" ⟨136,11,136,16⟩) (.gint 91 "SET_OPEN" ⟨136,20,136,28⟩) ⟨136,11,136,28⟩) (.cons (.ret (.meth 140 "in_set" (.var 0 "self" ⟨137,19,137,23⟩) ⟨137,19,137,30⟩ (.cons (.var 4 "c" ⟨137,31,137,32⟩) (.cons (.var 2 "p" ⟨137,34,137,35⟩) (.cons (.bin .Sub false (.var 3 "end" ⟨137,37,137,40⟩) (.int 1 0 ⟨137,43,137,44⟩) ⟨137,37,137,44⟩) .nil))) ⟨137,19,137,45⟩) ⟨137,12,137,45⟩)
  .nil) .nil ⟨136,8,137,45⟩)
  (.cons (.ret (.cmp1 .Eq (.var 5 "first" ⟨138,15,138,20⟩) (.var 4 "c" ⟨138,24,138,25⟩) ⟨138,15,138,25⟩) ⟨138,8,138,25⟩)
  .nil))))))
noncomputable def m_match_s : Scope := { kind := .function, names := [("self", .local), ("s", .local), ("p", .local), ("found", .local), ("LuaError", .globalImplicit)], isGenerator := false, isCoroutine := false, more := [] }
@[reducible] noncomputable def m_match : Ss := (.cons (.auga 3 (.var 0 "self" ⟨141,8,141,12⟩) ⟨141,8,141,18⟩ .Add (.int 1 0 ⟨141,22,141,23⟩) ⟨141,8,141,23⟩)
  (.cons (.ite (.cmp1 .Gt (.attr 3 (.var 0 "self" ⟨142,11,142,15⟩) ⟨142,11,142,21⟩) (.attr 2 (.var 0 "self" ⟨142,24,142,28⟩) ⟨142,24,142,39⟩) ⟨142,11,142,39⟩) (.cons (.raise [112,97,116,116,101,114,110,32,116,111,111,32,99,111,109,112,108,101,120] 0 ⟨143,27,143,49⟩ ⟨143,18,143,26⟩ ⟨143,18,143,50⟩ ⟨143,12,143,50⟩)
  .nil) .nil ⟨142,8,143,50⟩)
  (.cons (.asg 3 "found" ⟨144,8,144,13⟩ (.meth 161 "match_here" (.var 0 "self" ⟨144,16,144,20⟩) ⟨144,16,144,31⟩ (.cons (.var 1 "s" ⟨144,32,144,33⟩) (.cons (.var 2 "p" ⟨144,35,144,36⟩) .nil)) ⟨144,16,144,37⟩) ⟨144,8,144,37⟩)
  (.cons (.auga 3 (.var 0 "self" ⟨145,8,145,12⟩) ⟨145,8,145,18⟩ .Sub (.int 1 0 ⟨145,22,145,23⟩) ⟨145,8,145,23⟩)
  (.cons (.ret (.var 3 "found" ⟨146,15,146,20⟩) ⟨146,8,146,20⟩)
  .nil)))))
noncomputable def m_match_here_s : Scope := { kind := .function, names := [("self", .local), ("s", .local), ("p", .local), ("first", .local), ("second", .local), ("end", .local), ("after", .local), ("is_here", .local), ("found", .local), ("len", .globalImplicit), ("OPEN", .globalImplicit), ("CLOSE", .globalImplicit), ("POSITION", .globalImplicit), ("UNFINISHED", .globalImplicit), ("DOLLAR", .globalImplicit), ("ESCAPE", .globalImplicit), ("is_digit", .globalImplicit), ("STAR", .globalImplicit), ("PLUS", .globalImplicit), ("MINUS", .globalImplicit), ("MARK", .globalImplicit)], isGenerator := false, isCoroutine := false, more := [] }
@[reducible] noncomputable def m_match_here_b1 : Ss := (.cons (.asgT [(3, "first", ⟨150,12,150,17⟩), (4, "second", ⟨150,19,150,25⟩)] 0 ⟨150,12,150,25⟩ (.tup (.cons (.idx (.attr 1 (.var 0 "self" ⟨150,29,150,33⟩) ⟨150,29,150,41⟩) (.var 2 "p" ⟨150,42,150,43⟩) ⟨150,29,150,44⟩) (.cons (.meth 126 "at" (.var 0 "self" ⟨150,46,150,50⟩) ⟨150,46,150,53⟩ (.cons (.bin .Add false (.var 2 "p" ⟨150,54,150,55⟩) (.int 1 0 ⟨150,58,150,59⟩) ⟨150,54,150,59⟩) .nil) ⟨150,46,150,60⟩) .nil)) 0 ⟨150,28,150,61⟩) ⟨150,12,150,61⟩)
  (.cons (.ite (.cmp1 .Eq (.var 3 "first" ⟨151,15,151,20⟩) (.gint 40 "OPEN" ⟨151,24,151,28⟩) ⟨151,15,151,28⟩) (.cons (.ite (.cmp1 .Eq (.var 4 "second" ⟨152,19,152,25⟩) (.gint 41 "CLOSE" ⟨152,29,152,34⟩) ⟨152,19,152,34⟩) (.cons (.ret (.meth 203 "start_capture" (.var 0 "self" ⟨153,27,153,31⟩) ⟨153,27,153,45⟩ (.cons (.var 1 "s" ⟨153,46,153,47⟩) (.cons (.bin .Add false (.var 2 "p" ⟨153,49,153,50⟩) (.int 2 0 ⟨153,53,153,54⟩) ⟨153,49,153,54⟩) (.cons (.gint (-2) "POSITION" ⟨153,56,153,64⟩) .nil))) ⟨153,27,153,65⟩) ⟨153,20,153,65⟩)
  .nil) .nil ⟨152,16,153,65⟩)
  (.cons (.ret (.meth 203 "start_capture" (.var 0 "self" ⟨154,23,154,27⟩) ⟨154,23,154,41⟩ (.cons (.var 1 "s" ⟨154,42,154,43⟩) (.cons (.bin .Add false (.var 2 "p" ⟨154,45,154,46⟩) (.int 1 0 ⟨154,49,154,50⟩) ⟨154,45,154,50⟩) (.cons (.gint (-1) "UNFINISHED" ⟨154,52,154,62⟩) .nil))) ⟨154,23,154,63⟩) ⟨154,16,154,63⟩)
  .nil)) .nil ⟨151,12,154,63⟩)
  (.cons (.ite (.cmp1 .Eq (.var 3 "first" ⟨155,15,155,20⟩) (.gint 41 "CLOSE" ⟨155,24,155,29⟩) ⟨155,15,155,29⟩) (.cons (.ret (.meth 210 "end_capture" (.var 0 "self" ⟨156,23,156,27⟩) ⟨156,23,156,39⟩ (.cons (.var 1 "s" ⟨156,40,156,41⟩) (.cons (.bin .Add false (.var 2 "p" ⟨156,43,156,44⟩) (.int 1 0 ⟨156,47,156,48⟩) ⟨156,43,156,48⟩) .nil)) ⟨156,23,156,49⟩) ⟨156,16,156,49⟩)
  .nil) .nil ⟨155,12,156,49⟩)
  (.cons (.ite (.bop .And (.cons (.cmp1 .Eq (.var 3 "first" ⟨157,15,157,20⟩) (.gint 36 "DOLLAR" ⟨157,24,157,30⟩) ⟨157,15,157,30⟩) (.cons (.cmp1 .Eq (.bin .Add false (.var 2 "p" ⟨157,35,157,36⟩) (.int 1 0 ⟨157,39,157,40⟩) ⟨157,35,157,40⟩) (.bi .len ⟨157,44,157,47⟩ (.cons (.attr 1 (.var 0 "self" ⟨157,48,157,52⟩) ⟨157,48,157,60⟩) .nil) ⟨157,44,157,61⟩) ⟨157,35,157,61⟩) .nil)) ⟨157,15,157,61⟩) (.cons (.ret (.ite (.cmp1 .Eq (.var 1 "s" ⟨158,28,158,29⟩) (.bi .len ⟨158,33,158,36⟩ (.cons (.attr 0 (.var 0 "self" ⟨158,37,158,41⟩) ⟨158,37,158,46⟩) .nil) ⟨158,33,158,47⟩) ⟨158,28,158,47⟩) (.var 1 "s" ⟨158,23,158,24⟩) (.nil 0 ⟨158,53,158,57⟩) ⟨158,23,158,57⟩) ⟨158,16,158,57⟩)
  .nil) .nil ⟨157,12,158,57⟩)
  (.cons (.ite (.bop .And (.cons (.cmp1 .Eq (.var 3 "first" ⟨159,15,159,20⟩) (.gint 37 "ESCAPE" ⟨159,24,159,30⟩) ⟨159,15,159,30⟩) (.cons (.bop .Or (.cons (.cmp1 .In (.var 4 "second" ⟨159,36,159,42⟩) (.bytes [98,102] 0 ⟨159,46,159,51⟩) ⟨159,36,159,51⟩) (.cons (.call 62 "is_digit" ⟨159,55,159,63⟩ (.cons (.var 4 "second" ⟨159,64,159,70⟩) .nil) ⟨159,55,159,71⟩) .nil)) ⟨159,36,159,71⟩) .nil)) ⟨159,15,159,72⟩) (.cons (.asgT [(1, "s", ⟨160,16,160,17⟩), (2, "p", ⟨160,19,160,20⟩)] 0 ⟨160,16,160,20⟩ (.meth 168 "match_special" (.var 0 "self" ⟨160,23,160,27⟩) ⟨160,23,160,41⟩ (.cons (.var 1 "s" ⟨160,42,160,43⟩) (.cons (.var 2 "p" ⟨160,45,160,46⟩) (.cons (.var 4 "second" ⟨160,48,160,54⟩) .nil))) ⟨160,23,160,55⟩) ⟨160,16,160,55⟩)
  (.cons (.ite (.cmp1 .Is (.var 1 "s" ⟨161,19,161,20⟩) (.nil 0 ⟨161,24,161,28⟩) ⟨161,19,161,28⟩) (.cons (.ret (.nil 0 ⟨162,27,162,31⟩) ⟨162,20,162,31⟩)
  .nil) .nil ⟨161,16,162,31⟩)
  (.cons (.cont ⟨163,16,163,24⟩)
  .nil))) .nil ⟨159,12,163,24⟩)
  (.cons (.asg 5 "end" ⟨164,12,164,15⟩ (.meth 133 "class_end" (.var 0 "self" ⟨164,18,164,22⟩) ⟨164,18,164,32⟩ (.cons (.var 2 "p" ⟨164,33,164,34⟩) .nil) ⟨164,18,164,35⟩) ⟨164,12,164,35⟩)
  (.cons (.asg 6 "after" ⟨165,12,165,17⟩ (.meth 126 "at" (.var 0 "self" ⟨165,20,165,24⟩) ⟨165,20,165,27⟩ (.cons (.var 5 "end" ⟨165,28,165,31⟩) .nil) ⟨165,20,165,32⟩) ⟨165,12,165,32⟩)
  (.cons (.ite (.cmp1 .Eq (.var 6 "after" ⟨166,15,166,20⟩) (.gint 42 "STAR" ⟨166,24,166,28⟩) ⟨166,15,166,28⟩) (.cons (.ret (.meth 189 "expand_most" (.var 0 "self" ⟨167,23,167,27⟩) ⟨167,23,167,39⟩ (.cons (.var 1 "s" ⟨167,40,167,41⟩) (.cons (.var 2 "p" ⟨167,43,167,44⟩) (.cons (.var 5 "end" ⟨167,46,167,49⟩) .nil))) ⟨167,23,167,50⟩) ⟨167,16,167,50⟩)
  .nil) .nil ⟨166,12,167,50⟩)
  (.cons (.ite (.cmp1 .Eq (.var 6 "after" ⟨168,15,168,20⟩) (.gint 43 "PLUS" ⟨168,24,168,28⟩) ⟨168,15,168,28⟩) (.cons (.ret (.ite (.meth 147 "is_single" (.var 0 "self" ⟨169,58,169,62⟩) ⟨169,58,169,72⟩ (.cons (.var 1 "s" ⟨169,73,169,74⟩) (.cons (.var 2 "p" ⟨169,76,169,77⟩) (.cons (.var 5 "end" ⟨169,79,169,82⟩) .nil))) ⟨169,58,169,83⟩) (.meth 189 "expand_most" (.var 0 "self" ⟨169,23,169,27⟩) ⟨169,23,169,39⟩ (.cons (.bin .Add false (.var 1 "s" ⟨169,40,169,41⟩) (.int 1 0 ⟨169,44,169,45⟩) ⟨169,40,169,45⟩) (.cons (.var 2 "p" ⟨169,47,169,48⟩) (.cons (.var 5 "end" ⟨169,50,169,53⟩) .nil))) ⟨169,23,169,54⟩) (.nil 0 ⟨169,89,169,93⟩) ⟨169,23,169,93⟩) ⟨169,16,169,93⟩)
  .nil) .nil ⟨168,12,169,93⟩)
  (.cons (.ite (.cmp1 .Eq (.var 6 "after" ⟨170,15,170,20⟩) (.gint 45 "MINUS" ⟨170,24,170,29⟩) ⟨170,15,170,29⟩) (.cons (.ret (.meth 196 "expand_least" (.var 0 "self" ⟨171,23,171,27⟩) ⟨171,23,171,40⟩ (.cons (.var 1 "s" ⟨171,41,171,42⟩) (.cons (.var 2 "p" ⟨171,44,171,45⟩) (.cons (.var 5 "end" ⟨171,47,171,50⟩) .nil))) ⟨171,23,171,51⟩) ⟨171,16,171,51⟩)
  .nil) .nil ⟨170,12,171,51⟩)
  (.cons (.asg 7 "is_here" ⟨172,12,172,19⟩ (.meth 147 "is_single" (.var 0 "self" ⟨172,22,172,26⟩) ⟨172,22,172,36⟩ (.cons (.var 1 "s" ⟨172,37,172,38⟩) (.cons (.var 2 "p" ⟨172,40,172,41⟩) (.cons (.var 5 "end" ⟨172,43,172,46⟩) .nil))) ⟨172,22,172,47⟩) ⟨172,12,172,47⟩)
  (.cons (.ite (.cmp1 .Eq (.var 6 "after" ⟨173,15,173,20⟩) (.gint 63 "MARK" ⟨173,24,173,28⟩) ⟨173,15,173,28⟩) (.cons (.ite (.var 7 "is_here" ⟨174,19,174,26⟩) (.cons (.asg 8 "found" ⟨175,20,175,25⟩ (.meth 154 "match" (.var 0 "self" ⟨175,28,175,32⟩) ⟨175,28,175,38⟩ (.cons (.bin .Add false (.var 1 "s" ⟨175,39,175,40⟩) (.int 1 0 ⟨175,43,175,44⟩) ⟨175,39,175,44⟩) (.cons (.bin .Add false (.var 5 "end" ⟨175,46,175,49⟩) (.int 1 0 ⟨175,52,175,53⟩) ⟨175,46,175,53⟩) .nil)) ⟨175,28,175,54⟩) ⟨175,20,175,54⟩)
  (.cons (.ite (.cmp1 .IsNot (.var 8 "found" ⟨176,23,176,28⟩) (.nil 0 ⟨176,36,176,40⟩) ⟨176,23,176,40⟩) (.cons (.ret (.var 8 "found" ⟨177,31,177,36⟩) ⟨177,24,177,36⟩)
  .nil) .nil ⟨176,20,177,36⟩)
  .nil)) .nil ⟨174,16,177,36⟩)
  (.cons (.asg 2 "p" ⟨178,16,178,17⟩ (.bin .Add false (.var 5 "end" ⟨178,20,178,23⟩) (.int 1 0 ⟨178,26,178,27⟩) ⟨178,20,178,27⟩) ⟨178,16,178,27⟩)
  (.cons (.cont ⟨179,16,179,24⟩)
  .nil))) .nil ⟨173,12,179,24⟩)
  (.cons (.ite (.not (.var 7 "is_here" ⟨180,19,180,26⟩) ⟨180,15,180,26⟩) (.cons (.ret (.nil 0 ⟨181,23,181,27⟩) ⟨181,16,181,27⟩)
  .nil) .nil ⟨180,12,181,27⟩)
  (.cons (.asgT [(1, "s", ⟨182,12,182,13⟩), (2, "p", ⟨182,15,182,16⟩)] 0 ⟨182,12,182,16⟩ (.tup (.cons (.bin .Add false (.var 1 "s" ⟨182,20,182,21⟩) (.int 1 0 ⟨182,24,182,25⟩) ⟨182,20,182,25⟩) (.cons (.var 5 "end" ⟨182,27,182,30⟩) .nil)) 0 ⟨182,19,182,31⟩) ⟨182,12,182,31⟩)
  .nil))))))))))))))
@[reducible] noncomputable def m_match_here : Ss := (.cons (.whl (.cmp1 .Lt (.var 2 "p" ⟨149,14,149,15⟩) (.bi .len ⟨149,18,149,21⟩ (.cons (.attr 1 (.var 0 "self" ⟨149,22,149,26⟩) ⟨149,22,149,34⟩) .nil) ⟨149,18,149,35⟩) ⟨149,14,149,35⟩) m_match_here_b1 ⟨149,8,182,31⟩)
  (.cons (.ret (.var 1 "s" ⟨183,15,183,16⟩) ⟨183,8,183,16⟩)
  .nil))
noncomputable def m_match_special_s : Scope := { kind := .function, names := [("self", .local), ("s", .local), ("p", .local), ("letter", .local)], isGenerator := false, isCoroutine := false, more := [] }
@[reducible] noncomputable def m_match_special : Ss := (.cons (.ite (.cmp1 .Eq (.var 3 "letter" ⟨186,11,186,17⟩) (.int 98 0 ⟨186,21,186,23⟩) ⟨186,11,186,23⟩) (.cons (.ret (.tup (.cons (.meth 175 "match_balance" (.var 0 "self" ⟨187,20,187,24⟩) ⟨187,20,187,38⟩ (.cons (.var 1 "s" ⟨187,39,187,40⟩) (.cons (.bin .Add false (.var 2 "p" ⟨187,42,187,43⟩) (.int 2 0 ⟨187,46,187,47⟩) ⟨187,42,187,47⟩) .nil)) ⟨187,20,187,48⟩) (.cons (.bin .Add false (.var 2 "p" ⟨187,50,187,51⟩) (.int 4 0 ⟨187,54,187,55⟩) ⟨187,50,187,55⟩) .nil)) 0 ⟨187,19,187,56⟩) ⟨187,12,187,56⟩)
  .nil) .nil ⟨186,8,187,56⟩)
  (.cons (.ite (.cmp1 .Eq (.var 3 "letter" ⟨188,11,188,17⟩) (.int 102 0 ⟨188,21,188,24⟩) ⟨188,11,188,24⟩) (.cons (.ret (.meth 182 "match_frontier" (.var 0 "self" ⟨189,19,189,23⟩) ⟨189,19,189,38⟩ (.cons (.var 1 "s" ⟨189,39,189,40⟩) (.cons (.bin .Add false (.var 2 "p" ⟨189,42,189,43⟩) (.int 2 0 ⟨189,46,189,47⟩) ⟨189,42,189,47⟩) .nil)) ⟨189,19,189,48⟩) ⟨189,12,189,48⟩)
  .nil) .nil ⟨188,8,189,48⟩)
  (.cons (.ret (.tup (.cons (.meth 224 "match_capture" (.var 0 "self" ⟨190,16,190,20⟩) ⟨190,16,190,34⟩ (.cons (.var 1 "s" ⟨190,35,190,36⟩) (.cons (.var 3 "letter" ⟨190,38,190,44⟩) .nil)) ⟨190,16,190,45⟩) (.cons (.bin .Add false (.var 2 "p" ⟨190,47,190,48⟩) (.int 2 0 ⟨190,51,190,52⟩) ⟨190,47,190,52⟩) .nil)) 0 ⟨190,15,190,53⟩) ⟨190,8,190,53⟩)
  .nil)))
noncomputable def m_match_balance_s : Scope := { kind := .function, names := [("self", .local), ("s", .local), ("p", .local), ("begin", .local), ("end", .local), ("open_ones", .local), ("c", .local), ("len", .globalImplicit), ("LuaError", .globalImplicit)], isGenerator := false, isCoroutine := false, more := [] }
@[reducible] noncomputable def m_match_balance : Ss := (.cons (.ite (.cmp1 .GtE (.bin .Add false (.var 2 "p" ⟨193,11,193,12⟩) (.int 1 0 ⟨193,15,193,16⟩) ⟨193,11,193,16⟩) (.bi .len ⟨193,20,193,23⟩ (.cons (.attr 1 (.var 0 "self" ⟨193,24,193,28⟩) ⟨193,24,193,36⟩) .nil) ⟨193,20,193,37⟩) ⟨193,11,193,37⟩) (.cons (.raise [117,110,98,97,108,97,110,99,101,100,32,112,97,116,116,101,114,110] 0 ⟨194,27,194,48⟩ ⟨194,18,194,26⟩ ⟨194,18,194,49⟩ ⟨194,12,194,49⟩)
  .nil) .nil ⟨193,8,194,49⟩)
  (.cons (.asgT [(3, "begin", ⟨195,8,195,13⟩), (4, "end", ⟨195,15,195,18⟩)] 0 ⟨195,8,195,18⟩ (.tup (.cons (.idx (.attr 1 (.var 0 "self" ⟨195,22,195,26⟩) ⟨195,22,195,34⟩) (.var 2 "p" ⟨195,35,195,36⟩) ⟨195,22,195,37⟩) (.cons (.idx (.attr 1 (.var 0 "self" ⟨195,39,195,43⟩) ⟨195,39,195,51⟩) (.bin .Add false (.var 2 "p" ⟨195,52,195,53⟩) (.int 1 0 ⟨195,56,195,57⟩) ⟨195,52,195,57⟩) ⟨195,39,195,58⟩) .nil)) 0 ⟨195,21,195,59⟩) ⟨195,8,195,59⟩)
  (.cons (.ite (.bop .Or (.cons (.cmp1 .GtE (.var 1 "s" ⟨196,11,196,12⟩) (.bi .len ⟨196,16,196,19⟩ (.cons (.attr 0 (.var 0 "self" ⟨196,20,196,24⟩) ⟨196,20,196,29⟩) .nil) ⟨196,16,196,30⟩) ⟨196,11,196,30⟩) (.cons (.cmp1 .NotEq (.idx (.attr 0 (.var 0 "self" ⟨196,34,196,38⟩) ⟨196,34,196,43⟩) (.var 1 "s" ⟨196,44,196,45⟩) ⟨196,34,196,46⟩) (.var 3 "begin" ⟨196,50,196,55⟩) ⟨196,34,196,55⟩) .nil)) ⟨196,11,196,55⟩) (.cons (.ret (.nil 0 ⟨197,19,197,23⟩) ⟨197,12,197,23⟩)
  .nil) .nil ⟨196,8,197,23⟩)
  (.cons (.asg 5 "open_ones" ⟨198,8,198,17⟩ (.int 1 0 ⟨198,20,198,21⟩) ⟨198,8,198,21⟩)
  (.cons (.aug 1 "s" ⟨199,8,199,9⟩ .Add (.int 1 0 ⟨199,13,199,14⟩) ⟨199,8,199,14⟩)
  (.cons (.whl (.cmp1 .Lt (.var 1 "s" ⟨200,14,200,15⟩) (.bi .len ⟨200,18,200,21⟩ (.cons (.attr 0 (.var 0 "self" ⟨200,22,200,26⟩) ⟨200,22,200,31⟩) .nil) ⟨200,18,200,32⟩) ⟨200,14,200,32⟩) (.cons (.asg 6 "c" ⟨201,12,201,13⟩ (.idx (.attr 0 (.var 0 "self" ⟨201,16,201,20⟩) ⟨201,16,201,25⟩) (.var 1 "s" ⟨201,26,201,27⟩) ⟨201,16,201,28⟩) ⟨201,12,201,28⟩)
  (.cons (.ite (.cmp1 .Eq (.var 6 "c" ⟨202,15,202,16⟩) (.var 4 "end" ⟨202,20,202,23⟩) ⟨202,15,202,23⟩) (.cons (.aug 5 "open_ones" ⟨203,16,203,25⟩ .Sub (.int 1 0 ⟨203,29,203,30⟩) ⟨203,16,203,30⟩)
  (.cons (.ite (.cmp1 .Eq (.var 5 "open_ones" ⟨204,19,204,28⟩) (.int 0 0 ⟨204,32,204,33⟩) ⟨204,19,204,33⟩) (.cons (.ret (.bin .Add false (.var 1 "s" ⟨205,27,205,28⟩) (.int 1 0 ⟨205,31,205,32⟩) ⟨205,27,205,32⟩) ⟨205,20,205,32⟩)
  .nil) .nil ⟨204,16,205,32⟩)
  .nil)) (.cons (.ite (.cmp1 .Eq (.var 6 "c" ⟨206,17,206,18⟩) (.var 3 "begin" ⟨206,22,206,27⟩) ⟨206,17,206,27⟩) (.cons (.aug 5 "open_ones" ⟨207,16,207,25⟩ .Add (.int 1 0 ⟨207,29,207,30⟩) ⟨207,16,207,30⟩)
  .nil) .nil ⟨206,12,207,30⟩)
  .nil) ⟨202,12,207,30⟩)
  (.cons (.aug 1 "s" ⟨208,12,208,13⟩ .Add (.int 1 0 ⟨208,17,208,18⟩) ⟨208,12,208,18⟩)
  .nil))) ⟨200,8,208,18⟩)
  (.cons (.ret (.nil 0 ⟨209,15,209,19⟩) ⟨209,8,209,19⟩)
  .nil)))))))
noncomputable def m_match_frontier_s : Scope := { kind := .function, names := [("self", .local), ("s", .local), ("p", .local), ("end", .local), ("ahead", .local), ("here", .local), ("SET_OPEN", .globalImplicit), ("LuaError", .globalImplicit), ("len", .globalImplicit)], isGenerator := false, isCoroutine := false, more := [] }
@[reducible] noncomputable def m_match_frontier : Ss := (.cons (.ite (.cmp1 .NotEq (.meth 126 "at" (.var 0 "self" ⟨212,11,212,15⟩) ⟨212,11,212,18⟩ (.cons (.var 2 "p" ⟨212,19,212,20⟩) .nil) ⟨212,11,212,21⟩) (.gint 91 "SET_OPEN" ⟨212,25,212,33⟩) ⟨212,11,212,33⟩) (.cons (.raise [109,105,115,115,105,110,103,32,39,91,39,32,97,102,116,101,114,32,39,37,102,39,32,105,110,32,112,97,116,116,101,114,110] 0 ⟨213,27,213,63⟩ ⟨213,18,213,26⟩ ⟨213,18,213,64⟩ ⟨213,12,213,64⟩)
  .nil) .nil ⟨212,8,213,64⟩)
  (.cons (.asg 3 "end" ⟨214,8,214,11⟩ (.meth 133 "class_end" (.var 0 "self" ⟨214,14,214,18⟩) ⟨214,14,214,28⟩ (.cons (.var 2 "p" ⟨214,29,214,30⟩) .nil) ⟨214,14,214,31⟩) ⟨214,8,214,31⟩)
  (.cons (.asg 4 "ahead" ⟨215,8,215,13⟩ (.ite (.cmp1 .Eq (.var 1 "s" ⟨215,21,215,22⟩) (.int 0 0 ⟨215,26,215,27⟩) ⟨215,21,215,27⟩) (.int 0 0 ⟨215,16,215,17⟩) (.idx (.attr 0 (.var 0 "self" ⟨215,33,215,37⟩) ⟨215,33,215,42⟩) (.bin .Sub false (.var 1 "s" ⟨215,43,215,44⟩) (.int 1 0 ⟨215,47,215,48⟩) ⟨215,43,215,48⟩) ⟨215,33,215,49⟩) ⟨215,16,215,49⟩) ⟨215,8,215,49⟩)
  (.cons (.asg 5 "here" ⟨216,8,216,12⟩ (.ite (.cmp1 .Lt (.var 1 "s" ⟨216,31,216,32⟩) (.bi .len ⟨216,35,216,38⟩ (.cons (.attr 0 (.var 0 "self" ⟨216,39,216,43⟩) ⟨216,39,216,48⟩) .nil) ⟨216,35,216,49⟩) ⟨216,31,216,49⟩) (.idx (.attr 0 (.var 0 "self" ⟨216,15,216,19⟩) ⟨216,15,216,24⟩) (.var 1 "s" ⟨216,25,216,26⟩) ⟨216,15,216,27⟩) (.int 0 0 ⟨216,55,216,56⟩) ⟨216,15,216,56⟩) ⟨216,8,216,56⟩)
  (.cons (.ite (.bop .Or (.cons (.meth 140 "in_set" (.var 0 "self" ⟨217,11,217,15⟩) ⟨217,11,217,22⟩ (.cons (.var 4 "ahead" ⟨217,23,217,28⟩) (.cons (.var 2 "p" ⟨217,30,217,31⟩) (.cons (.bin .Sub false (.var 3 "end" ⟨217,33,217,36⟩) (.int 1 0 ⟨217,39,217,40⟩) ⟨217,33,217,40⟩) .nil))) ⟨217,11,217,41⟩) (.cons (.not (.meth 140 "in_set" (.var 0 "self" ⟨217,49,217,53⟩) ⟨217,49,217,60⟩ (.cons (.var 5 "here" ⟨217,61,217,65⟩) (.cons (.var 2 "p" ⟨217,67,217,68⟩) (.cons (.bin .Sub false (.var 3 "end" ⟨217,70,217,73⟩) (.int 1 0 ⟨217,76,217,77⟩) ⟨217,70,217,77⟩) .nil))) ⟨217,49,217,78⟩) ⟨217,45,217,78⟩) .nil)) ⟨217,11,217,78⟩) (.cons (.ret (.tup (.cons (.nil 0 ⟨218,20,218,24⟩) (.cons (.var 3 "end" ⟨218,26,218,29⟩) .nil)) 0 ⟨218,19,218,30⟩) ⟨218,12,218,30⟩)
  .nil) .nil ⟨217,8,218,30⟩)
  (.cons (.ret (.tup (.cons (.var 1 "s" ⟨219,16,219,17⟩) (.cons (.var 3 "end" ⟨219,19,219,22⟩) .nil)) 0 ⟨219,15,219,23⟩) ⟨219,8,219,23⟩)
  .nil))))))
noncomputable def m_expand_most_s : Scope := { kind := .function, names := [("self", .local), ("s", .local), ("p", .local), ("end", .local), ("many", .local), ("found", .local)], isGenerator := false, isCoroutine := false, more := [] }
@[reducible] noncomputable def m_expand_most : Ss := (.cons (.asg 4 "many" ⟨222,8,222,12⟩ (.int 0 0 ⟨222,15,222,16⟩) ⟨222,8,222,16⟩)
  (.cons (.whl (.meth 147 "is_single" (.var 0 "self" ⟨223,14,223,18⟩) ⟨223,14,223,28⟩ (.cons (.bin .Add false (.var 1 "s" ⟨223,29,223,30⟩) (.var 4 "many" ⟨223,33,223,37⟩) ⟨223,29,223,37⟩) (.cons (.var 2 "p" ⟨223,39,223,40⟩) (.cons (.var 3 "end" ⟨223,42,223,45⟩) .nil))) ⟨223,14,223,46⟩) (.cons (.aug 4 "many" ⟨224,12,224,16⟩ .Add (.int 1 0 ⟨224,20,224,21⟩) ⟨224,12,224,21⟩)
  .nil) ⟨223,8,224,21⟩)
  (.cons (.whl (.cmp1 .GtE (.var 4 "many" ⟨225,14,225,18⟩) (.int 0 0 ⟨225,22,225,23⟩) ⟨225,14,225,23⟩) (.cons (.asg 5 "found" ⟨226,12,226,17⟩ (.meth 154 "match" (.var 0 "self" ⟨226,20,226,24⟩) ⟨226,20,226,30⟩ (.cons (.bin .Add false (.var 1 "s" ⟨226,31,226,32⟩) (.var 4 "many" ⟨226,35,226,39⟩) ⟨226,31,226,39⟩) (.cons (.bin .Add false (.var 3 "end" ⟨226,41,226,44⟩) (.int 1 0 ⟨226,47,226,48⟩) ⟨226,41,226,48⟩) .nil)) ⟨226,20,226,49⟩) ⟨226,12,226,49⟩)
  (.cons (.ite (.cmp1 .IsNot (.var 5 "found" ⟨227,15,227,20⟩) (.nil 0 ⟨227,28,227,32⟩) ⟨227,15,227,32⟩) (.cons (.ret (.var 5 "found" ⟨228,23,228,28⟩) ⟨228,16,228,28⟩)
  .nil) .nil ⟨227,12,228,28⟩)
  (.cons (.aug 4 "many" ⟨229,12,229,16⟩ .Sub (.int 1 0 ⟨229,20,229,21⟩) ⟨229,12,229,21⟩)
  .nil))) ⟨225,8,229,21⟩)
  (.cons (.ret (.nil 0 ⟨230,15,230,19⟩) ⟨230,8,230,19⟩)
  .nil))))
noncomputable def m_expand_least_s : Scope := { kind := .function, names := [("self", .local), ("s", .local), ("p", .local), ("end", .local), ("found", .local)], isGenerator := false, isCoroutine := false, more := [] }
@[reducible] noncomputable def m_expand_least : Ss := (.cons (.whl (.bool true 0 ⟨233,14,233,18⟩) (.cons (.asg 4 "found" ⟨234,12,234,17⟩ (.meth 154 "match" (.var 0 "self" ⟨234,20,234,24⟩) ⟨234,20,234,30⟩ (.cons (.var 1 "s" ⟨234,31,234,32⟩) (.cons (.bin .Add false (.var 3 "end" ⟨234,34,234,37⟩) (.int 1 0 ⟨234,40,234,41⟩) ⟨234,34,234,41⟩) .nil)) ⟨234,20,234,42⟩) ⟨234,12,234,42⟩)
  (.cons (.ite (.cmp1 .IsNot (.var 4 "found" ⟨235,15,235,20⟩) (.nil 0 ⟨235,28,235,32⟩) ⟨235,15,235,32⟩) (.cons (.ret (.var 4 "found" ⟨236,23,236,28⟩) ⟨236,16,236,28⟩)
  .nil) .nil ⟨235,12,236,28⟩)
  (.cons (.ite (.not (.meth 147 "is_single" (.var 0 "self" ⟨237,19,237,23⟩) ⟨237,19,237,33⟩ (.cons (.var 1 "s" ⟨237,34,237,35⟩) (.cons (.var 2 "p" ⟨237,37,237,38⟩) (.cons (.var 3 "end" ⟨237,40,237,43⟩) .nil))) ⟨237,19,237,44⟩) ⟨237,15,237,44⟩) (.cons (.ret (.nil 0 ⟨238,23,238,27⟩) ⟨238,16,238,27⟩)
  .nil) .nil ⟨237,12,238,27⟩)
  (.cons (.aug 1 "s" ⟨239,12,239,13⟩ .Add (.int 1 0 ⟨239,17,239,18⟩) ⟨239,12,239,18⟩)
  .nil)))) ⟨233,8,239,18⟩)
  .nil)
noncomputable def m_start_capture_s : Scope := { kind := .function, names := [("self", .local), ("s", .local), ("p", .local), ("kind", .local), ("found", .local), ("MOST_CAPTURES", .globalImplicit), ("LuaError", .globalImplicit)], isGenerator := false, isCoroutine := false, more := [] }
@[reducible] noncomputable def m_start_capture : Ss := (.cons (.ite (.cmp1 .GtE (.attr 4 (.var 0 "self" ⟨242,11,242,15⟩) ⟨242,11,242,21⟩) (.gint 32 "MOST_CAPTURES" ⟨242,25,242,38⟩) ⟨242,11,242,38⟩) (.cons (.raise [116,111,111,32,109,97,110,121,32,99,97,112,116,117,114,101,115] 0 ⟨243,27,243,47⟩ ⟨243,18,243,26⟩ ⟨243,18,243,48⟩ ⟨243,12,243,48⟩)
  .nil) .nil ⟨242,8,243,48⟩)
  (.cons (.seta 5 (.var 0 "self" ⟨244,8,244,12⟩) ⟨244,8,244,19⟩ (.bin .Add false (.slc (.attr 5 (.var 0 "self" ⟨244,22,244,26⟩) ⟨244,22,244,33⟩) .none (.some (.attr 4 (.var 0 "self" ⟨244,35,244,39⟩) ⟨244,35,244,45⟩)) ⟨244,34,244,45⟩ ⟨244,22,244,46⟩) (.list false (.cons (.var 1 "s" ⟨244,50,244,51⟩) .nil) ⟨244,49,244,52⟩) ⟨244,22,244,52⟩) ⟨244,8,244,52⟩)
  (.cons (.seta 6 (.var 0 "self" ⟨245,8,245,12⟩) ⟨245,8,245,20⟩ (.bin .Add true (.slc (.attr 6 (.var 0 "self" ⟨245,23,245,27⟩) ⟨245,23,245,35⟩) .none (.some (.attr 4 (.var 0 "self" ⟨245,37,245,41⟩) ⟨245,37,245,47⟩)) ⟨245,36,245,47⟩ ⟨245,23,245,48⟩) (.list false (.cons (.var 3 "kind" ⟨245,52,245,56⟩) .nil) ⟨245,51,245,57⟩) ⟨245,23,245,57⟩) ⟨245,8,245,57⟩)
  (.cons (.auga 4 (.var 0 "self" ⟨246,8,246,12⟩) ⟨246,8,246,18⟩ .Add (.int 1 0 ⟨246,22,246,23⟩) ⟨246,8,246,23⟩)
  (.cons (.asg 4 "found" ⟨247,8,247,13⟩ (.meth 154 "match" (.var 0 "self" ⟨247,16,247,20⟩) ⟨247,16,247,26⟩ (.cons (.var 1 "s" ⟨247,27,247,28⟩) (.cons (.var 2 "p" ⟨247,30,247,31⟩) .nil)) ⟨247,16,247,32⟩) ⟨247,8,247,32⟩)
  (.cons (.ite (.cmp1 .Is (.var 4 "found" ⟨248,11,248,16⟩) (.nil 0 ⟨248,20,248,24⟩) ⟨248,11,248,24⟩) (.cons (.auga 4 (.var 0 "self" ⟨249,12,249,16⟩) ⟨249,12,249,22⟩ .Sub (.int 1 0 ⟨249,26,249,27⟩) ⟨249,12,249,27⟩)
  .nil) .nil ⟨248,8,249,27⟩)
  (.cons (.ret (.var 4 "found" ⟨250,15,250,20⟩) ⟨250,8,250,20⟩)
  .nil)))))))
noncomputable def m_end_capture_s : Scope := { kind := .function, names := [("self", .local), ("s", .local), ("p", .local), ("number", .local), ("found", .local), ("UNFINISHED", .globalImplicit)], isGenerator := false, isCoroutine := false, more := [] }
@[reducible] noncomputable def m_end_capture : Ss := (.cons (.asg 3 "number" ⟨253,8,253,14⟩ (.meth 217 "to_close" (.var 0 "self" ⟨253,17,253,21⟩) ⟨253,17,253,30⟩ .nil ⟨253,17,253,32⟩) ⟨253,8,253,32⟩)
  (.cons (.seti (.attr 6 (.var 0 "self" ⟨254,8,254,12⟩) ⟨254,8,254,20⟩) (.var 3 "number" ⟨254,21,254,27⟩) ⟨254,8,254,28⟩ (.bin .Sub false (.var 1 "s" ⟨254,31,254,32⟩) (.idx (.attr 5 (.var 0 "self" ⟨254,35,254,39⟩) ⟨254,35,254,46⟩) (.var 3 "number" ⟨254,47,254,53⟩) ⟨254,35,254,54⟩) ⟨254,31,254,54⟩) ⟨254,8,254,54⟩)
  (.cons (.asg 4 "found" ⟨255,8,255,13⟩ (.meth 154 "match" (.var 0 "self" ⟨255,16,255,20⟩) ⟨255,16,255,26⟩ (.cons (.var 1 "s" ⟨255,27,255,28⟩) (.cons (.var 2 "p" ⟨255,30,255,31⟩) .nil)) ⟨255,16,255,32⟩) ⟨255,8,255,32⟩)
  (.cons (.ite (.cmp1 .Is (.var 4 "found" ⟨256,11,256,16⟩) (.nil 0 ⟨256,20,256,24⟩) ⟨256,11,256,24⟩) (.cons (.seti (.attr 6 (.var 0 "self" ⟨257,12,257,16⟩) ⟨257,12,257,24⟩) (.var 3 "number" ⟨257,25,257,31⟩) ⟨257,12,257,32⟩ (.gint (-1) "UNFINISHED" ⟨257,35,257,45⟩) ⟨257,12,257,45⟩)
  .nil) .nil ⟨256,8,257,45⟩)
  (.cons (.ret (.var 4 "found" ⟨258,15,258,20⟩) ⟨258,8,258,20⟩)
  .nil)))))
noncomputable def m_to_close_s : Scope := { kind := .function, names := [("self", .local), ("number", .local), ("UNFINISHED", .globalImplicit), ("LuaError", .globalImplicit)], isGenerator := false, isCoroutine := false, more := [] }
@[reducible] noncomputable def m_to_close : Ss := (.cons (.asg 1 "number" ⟨261,8,261,14⟩ (.bin .Sub false (.attr 4 (.var 0 "self" ⟨261,17,261,21⟩) ⟨261,17,261,27⟩) (.int 1 0 ⟨261,30,261,31⟩) ⟨261,17,261,31⟩) ⟨261,8,261,31⟩)
  (.cons (.whl (.cmp1 .GtE (.var 1 "number" ⟨262,14,262,20⟩) (.int 0 0 ⟨262,24,262,25⟩) ⟨262,14,262,25⟩) (.cons (.ite (.cmp1 .Eq (.idx (.attr 6 (.var 0 "self" ⟨263,15,263,19⟩) ⟨263,15,263,27⟩) (.var 1 "number" ⟨263,28,263,34⟩) ⟨263,15,263,35⟩) (.gint (-1) "UNFINISHED" ⟨263,39,263,49⟩) ⟨263,15,263,49⟩) (.cons (.ret (.var 1 "number" ⟨264,23,264,29⟩) ⟨264,16,264,29⟩)
  .nil) .nil ⟨263,12,264,29⟩)
  (.cons (.aug 1 "number" ⟨265,12,265,18⟩ .Sub (.int 1 0 ⟨265,22,265,23⟩) ⟨265,12,265,23⟩)
  .nil)) ⟨262,8,265,23⟩)
  (.cons (.raise [105,110,118,97,108,105,100,32,112,97,116,116,101,114,110,32,99,97,112,116,117,114,101] 0 ⟨266,23,266,49⟩ ⟨266,14,266,22⟩ ⟨266,14,266,50⟩ ⟨266,8,266,50⟩)
  .nil)))
noncomputable def m_match_capture_s : Scope := { kind := .function, names := [("self", .local), ("s", .local), ("digit", .local), ("number", .local), ("size", .local), ("start", .local), ("UNFINISHED", .globalImplicit), ("LuaError", .globalImplicit), ("POSITION", .globalImplicit), ("len", .globalImplicit)], isGenerator := false, isCoroutine := false, more := [] }
@[reducible] noncomputable def m_match_capture : Ss := (.cons (.asg 3 "number" ⟨269,8,269,14⟩ (.bin .Sub false (.var 2 "digit" ⟨269,17,269,22⟩) (.int 49 0 ⟨269,25,269,27⟩) ⟨269,17,269,27⟩) ⟨269,8,269,27⟩)
  (.cons (.ite (.bop .Or (.cons (.cmp1 .Lt (.var 3 "number" ⟨270,11,270,17⟩) (.int 0 0 ⟨270,20,270,21⟩) ⟨270,11,270,21⟩) (.cons (.cmp1 .GtE (.var 3 "number" ⟨270,25,270,31⟩) (.attr 4 (.var 0 "self" ⟨270,35,270,39⟩) ⟨270,35,270,45⟩) ⟨270,25,270,45⟩) (.cons (.cmp1 .Eq (.idx (.attr 6 (.var 0 "self" ⟨270,49,270,53⟩) ⟨270,49,270,61⟩) (.var 3 "number" ⟨270,62,270,68⟩) ⟨270,49,270,69⟩) (.gint (-1) "UNFINISHED" ⟨270,73,270,83⟩) ⟨270,49,270,83⟩) .nil))) ⟨270,11,270,83⟩) (.cons (.raise [105,110,118,97,108,105,100,32,99,97,112,116,117,114,101,32,105,110,100,101,120] 0 ⟨271,27,271,51⟩ ⟨271,18,271,26⟩ ⟨271,18,271,52⟩ ⟨271,12,271,52⟩)
  .nil) .nil ⟨270,8,271,52⟩)
  (.cons (.asg 4 "size" ⟨272,8,272,12⟩ (.idx (.attr 6 (.var 0 "self" ⟨272,15,272,19⟩) ⟨272,15,272,27⟩) (.var 3 "number" ⟨272,28,272,34⟩) ⟨272,15,272,35⟩) ⟨272,8,272,35⟩)
  (.cons (.ite (.bop .Or (.cons (.cmp1 .Eq (.var 4 "size" ⟨273,11,273,15⟩) (.gint (-2) "POSITION" ⟨273,19,273,27⟩) ⟨273,11,273,27⟩) (.cons (.cmp1 .Lt (.bin .Sub false (.bi .len ⟨273,31,273,34⟩ (.cons (.attr 0 (.var 0 "self" ⟨273,35,273,39⟩) ⟨273,35,273,44⟩) .nil) ⟨273,31,273,45⟩) (.var 1 "s" ⟨273,48,273,49⟩) ⟨273,31,273,49⟩) (.var 4 "size" ⟨273,52,273,56⟩) ⟨273,31,273,56⟩) .nil)) ⟨273,11,273,56⟩) (.cons (.ret (.nil 0 ⟨274,19,274,23⟩) ⟨274,12,274,23⟩)
  .nil) .nil ⟨273,8,274,23⟩)
  (.cons (.asg 5 "start" ⟨275,8,275,13⟩ (.idx (.attr 5 (.var 0 "self" ⟨275,16,275,20⟩) ⟨275,16,275,27⟩) (.var 3 "number" ⟨275,28,275,34⟩) ⟨275,16,275,35⟩) ⟨275,8,275,35⟩)
  (.cons (.ret (.ite (.cmp1 .Eq (.slc (.attr 0 (.var 0 "self" ⟨276,27,276,31⟩) ⟨276,27,276,36⟩) (.some (.var 5 "start" ⟨276,37,276,42⟩)) (.some (.bin .Add false (.var 5 "start" ⟨276,43,276,48⟩) (.var 4 "size" ⟨276,51,276,55⟩) ⟨276,43,276,55⟩)) ⟨276,37,276,55⟩ ⟨276,27,276,56⟩) (.slc (.attr 0 (.var 0 "self" ⟨276,60,276,64⟩) ⟨276,60,276,69⟩) (.some (.var 1 "s" ⟨276,70,276,71⟩)) (.some (.bin .Add false (.var 1 "s" ⟨276,72,276,73⟩) (.var 4 "size" ⟨276,76,276,80⟩) ⟨276,72,276,80⟩)) ⟨276,70,276,80⟩ ⟨276,60,276,81⟩) ⟨276,27,276,81⟩) (.bin .Add false (.var 1 "s" ⟨276,15,276,16⟩) (.var 4 "size" ⟨276,19,276,23⟩) ⟨276,15,276,23⟩) (.nil 0 ⟨276,87,276,91⟩) ⟨276,15,276,91⟩) ⟨276,8,276,91⟩)
  .nil))))))
noncomputable def m_capture_s : Scope := { kind := .function, names := [("self", .local), ("number", .local), ("s", .local), ("end", .local), ("size", .local), ("start", .local), ("LuaError", .globalImplicit), ("UNFINISHED", .globalImplicit), ("POSITION", .globalImplicit)], isGenerator := false, isCoroutine := false, more := [] }
@[reducible] noncomputable def m_capture : Ss := (.cons (.ite (.cmp1 .GtE (.var 1 "number" ⟨279,11,279,17⟩) (.attr 4 (.var 0 "self" ⟨279,21,279,25⟩) ⟨279,21,279,31⟩) ⟨279,11,279,31⟩) (.cons (.ite (.cmp1 .Gt (.var 1 "number" ⟨280,15,280,21⟩) (.int 0 0 ⟨280,24,280,25⟩) ⟨280,15,280,25⟩) (.cons (.raise [105,110,118,97,108,105,100,32,99,97,112,116,117,114,101,32,105,110,100,101,120] 0 ⟨281,31,281,55⟩ ⟨281,22,281,30⟩ ⟨281,22,281,56⟩ ⟨281,16,281,56⟩)
  .nil) .nil ⟨280,12,281,56⟩)
  (.cons (.ret (.slc (.attr 0 (.var 0 "self" ⟨282,19,282,23⟩) ⟨282,19,282,28⟩) (.some (.var 2 "s" ⟨282,29,282,30⟩)) (.some (.var 3 "end" ⟨282,31,282,34⟩)) ⟨282,29,282,34⟩ ⟨282,19,282,35⟩) ⟨282,12,282,35⟩)
  .nil)) .nil ⟨279,8,282,35⟩)
  (.cons (.asgT [(4, "size", ⟨283,8,283,12⟩), (5, "start", ⟨283,14,283,19⟩)] 0 ⟨283,8,283,19⟩ (.tup (.cons (.idx (.attr 6 (.var 0 "self" ⟨283,23,283,27⟩) ⟨283,23,283,35⟩) (.var 1 "number" ⟨283,36,283,42⟩) ⟨283,23,283,43⟩) (.cons (.idx (.attr 5 (.var 0 "self" ⟨283,45,283,49⟩) ⟨283,45,283,56⟩) (.var 1 "number" ⟨283,57,283,63⟩) ⟨283,45,283,64⟩) .nil)) 0 ⟨283,22,283,65⟩) ⟨283,8,283,65⟩)
  (.cons (.ite (.cmp1 .Eq (.var 4 "size" ⟨284,11,284,15⟩) (.gint (-1) "UNFINISHED" ⟨284,19,284,29⟩) ⟨284,11,284,29⟩) (.cons (.raise [117,110,102,105,110,105,115,104,101,100,32,99,97,112,116,117,114,101] 0 ⟨285,27,285,48⟩ ⟨285,18,285,26⟩ ⟨285,18,285,49⟩ ⟨285,12,285,49⟩)
  .nil) .nil ⟨284,8,285,49⟩)
  (.cons (.ret (.ite (.cmp1 .Eq (.var 4 "size" ⟨286,28,286,32⟩) (.gint (-2) "POSITION" ⟨286,36,286,44⟩) ⟨286,28,286,44⟩) (.bin .Add false (.var 5 "start" ⟨286,15,286,20⟩) (.int 1 0 ⟨286,23,286,24⟩) ⟨286,15,286,24⟩) (.slc (.attr 0 (.var 0 "self" ⟨286,50,286,54⟩) ⟨286,50,286,59⟩) (.some (.var 5 "start" ⟨286,60,286,65⟩)) (.some (.bin .Add false (.var 5 "start" ⟨286,66,286,71⟩) (.var 4 "size" ⟨286,74,286,78⟩) ⟨286,66,286,78⟩)) ⟨286,60,286,78⟩ ⟨286,50,286,79⟩) ⟨286,15,286,79⟩) ⟨286,8,286,79⟩)
  .nil))))
noncomputable def m_captures_s : Scope := { kind := .function, names := [("self", .cell), ("s", .cell), ("end", .cell), ("is_whole", .local), ("many", .local), ("range", .globalImplicit)], isGenerator := false, isCoroutine := false, more := [("fast", .str "self"), ("fast", .str "s"), ("fast", .str "end"), ("fast", .str "is_whole"), ("fast", .str "many"), ("fast", .str "number")] }
@[reducible] noncomputable def m_captures : Ss := (.cons (.asg 4 "many" ⟨289,8,289,12⟩ (.ite (.bop .And (.cons (.cmp1 .Eq (.attr 4 (.var 0 "self" ⟨289,20,289,24⟩) ⟨289,20,289,30⟩) (.int 0 0 ⟨289,34,289,35⟩) ⟨289,20,289,35⟩) (.cons (.var 3 "is_whole" ⟨289,40,289,48⟩) .nil)) ⟨289,20,289,48⟩) (.int 1 0 ⟨289,15,289,16⟩) (.attr 4 (.var 0 "self" ⟨289,54,289,58⟩) ⟨289,54,289,64⟩) ⟨289,15,289,64⟩) ⟨289,8,289,64⟩)
  (.cons (.ret (.comp (.meth 231 "capture" (.var 4 "self" ⟨290,16,290,20⟩) ⟨290,16,290,28⟩ (.cons (.var 1 "number" ⟨290,29,290,35⟩) (.cons (.var 3 "s" ⟨290,37,290,38⟩) (.cons (.var 2 "end" ⟨290,40,290,43⟩) .nil))) ⟨290,16,290,44⟩) .none [(1, "number", ⟨290,49,290,55⟩)] .none (.bi .range ⟨290,59,290,64⟩ (.cons (.var 4 "many" ⟨290,65,290,69⟩) .nil) ⟨290,59,290,70⟩) { kind := .function, names := [(".0", .local), ("number", .local), ("end", .free), ("s", .free), ("self", .free)], isGenerator := false, isCoroutine := false, more := [] } [.none, .none, .some 2, .some 1, .some 0] ⟨290,15,290,71⟩) ⟨290,8,290,71⟩)
  .nil))
noncomputable def m_search_s : Scope := { kind := .function, names := [("self", .local), ("init", .local), ("p", .local), ("is_anchored", .local), ("s", .local), ("end", .local), ("len", .globalImplicit)], isGenerator := false, isCoroutine := false, more := [] }
@[reducible] noncomputable def m_search : Ss := (.cons (.asg 4 "s" ⟨293,8,293,9⟩ (.var 1 "init" ⟨293,12,293,16⟩) ⟨293,8,293,16⟩)
  (.cons (.whl (.cmp1 .LtE (.var 4 "s" ⟨294,14,294,15⟩) (.bi .len ⟨294,19,294,22⟩ (.cons (.attr 0 (.var 0 "self" ⟨294,23,294,27⟩) ⟨294,23,294,32⟩) .nil) ⟨294,19,294,33⟩) ⟨294,14,294,33⟩) (.cons (.exp (.meth 119 "reset" (.var 0 "self" ⟨295,12,295,16⟩) ⟨295,12,295,22⟩ .nil ⟨295,12,295,24⟩) ⟨295,12,295,24⟩)
  (.cons (.asg 5 "end" ⟨296,12,296,15⟩ (.meth 154 "match" (.var 0 "self" ⟨296,18,296,22⟩) ⟨296,18,296,28⟩ (.cons (.var 4 "s" ⟨296,29,296,30⟩) (.cons (.var 2 "p" ⟨296,32,296,33⟩) .nil)) ⟨296,18,296,34⟩) ⟨296,12,296,34⟩)
  (.cons (.ite (.cmp1 .IsNot (.var 5 "end" ⟨297,15,297,18⟩) (.nil 0 ⟨297,26,297,30⟩) ⟨297,15,297,30⟩) (.cons (.ret (.tup (.cons (.var 4 "s" ⟨298,24,298,25⟩) (.cons (.var 5 "end" ⟨298,27,298,30⟩) .nil)) 0 ⟨298,23,298,31⟩) ⟨298,16,298,31⟩)
  .nil) .nil ⟨297,12,298,31⟩)
  (.cons (.ite (.var 3 "is_anchored" ⟨299,15,299,26⟩) (.cons (.ret (.nil 0 ⟨300,23,300,27⟩) ⟨300,16,300,27⟩)
  .nil) .nil ⟨299,12,300,27⟩)
  (.cons (.aug 4 "s" ⟨301,12,301,13⟩ .Add (.int 1 0 ⟨301,17,301,18⟩) ⟨301,12,301,18⟩)
  .nil))))) ⟨294,8,301,18⟩)
  (.cons (.ret (.nil 0 ⟨302,15,302,19⟩) ⟨302,8,302,19⟩)
  .nil)))
noncomputable def f_law_draw_s : Scope := { kind := .function, names := [("feed", .local), ("many", .local), ("len", .globalImplicit)], isGenerator := false, isCoroutine := false, more := [] }
@[reducible] noncomputable def f_law_draw : Ss := (.cons (.seti (.var 0 "feed" ⟨306,4,306,8⟩) (.int 1 0 ⟨306,9,306,10⟩) ⟨306,4,306,11⟩ (.bin .Add false (.idx (.var 0 "feed" ⟨306,14,306,18⟩) (.int 1 0 ⟨306,19,306,20⟩) ⟨306,14,306,21⟩) (.int 1 0 ⟨306,24,306,25⟩) ⟨306,14,306,25⟩) ⟨306,4,306,25⟩)
  (.cons (.ite (.cmp1 .LtE (.idx (.var 0 "feed" ⟨307,7,307,11⟩) (.int 1 0 ⟨307,12,307,13⟩) ⟨307,7,307,14⟩) (.bi .len ⟨307,18,307,21⟩ (.cons (.idx (.var 0 "feed" ⟨307,22,307,26⟩) (.int 0 0 ⟨307,27,307,28⟩) ⟨307,22,307,29⟩) .nil) ⟨307,18,307,30⟩) ⟨307,7,307,30⟩) (.cons (.ret (.bin .Mod false (.idx (.idx (.var 0 "feed" ⟨308,15,308,19⟩) (.int 0 0 ⟨308,20,308,21⟩) ⟨308,15,308,22⟩) (.bin .Sub false (.idx (.var 0 "feed" ⟨308,23,308,27⟩) (.int 1 0 ⟨308,28,308,29⟩) ⟨308,23,308,30⟩) (.int 1 0 ⟨308,33,308,34⟩) ⟨308,23,308,34⟩) ⟨308,15,308,35⟩) (.var 1 "many" ⟨308,38,308,42⟩) ⟨308,15,308,42⟩) ⟨308,8,308,42⟩)
  .nil) .nil ⟨307,4,308,42⟩)
  (.cons (.ret (.bin .Mod false (.bin .Add false (.bin .Add false (.bin .Mult false (.int 5 0 ⟨309,12,309,13⟩) (.idx (.var 0 "feed" ⟨309,16,309,20⟩) (.int 1 0 ⟨309,21,309,22⟩) ⟨309,16,309,23⟩) ⟨309,12,309,23⟩) (.bin .FloorDiv false (.idx (.var 0 "feed" ⟨309,26,309,30⟩) (.int 1 0 ⟨309,31,309,32⟩) ⟨309,26,309,33⟩) (.int 7 0 ⟨309,37,309,38⟩) ⟨309,26,309,38⟩) ⟨309,12,309,38⟩) (.idx (.var 0 "feed" ⟨309,41,309,45⟩) (.int 2 0 ⟨309,46,309,47⟩) ⟨309,41,309,48⟩) ⟨309,12,309,48⟩) (.var 1 "many" ⟨309,52,309,56⟩) ⟨309,11,309,56⟩) ⟨309,4,309,56⟩)
  .nil)))
noncomputable def f_law_flags_s : Scope := { kind := .function, names := [("pairs", .cell), ("_law_known", .globalImplicit)], isGenerator := false, isCoroutine := false, more := [("fast", .str "pairs"), ("fast", .str "octet"), ("fast", .str "low"), ("fast", .str "high")] }
@[reducible] noncomputable def f_law_flags : Ss := (.cons (.ret (.comp (.var 1 "octet" ⟨311,12,311,17⟩) (.some (.cmp1 .NotEq (.comp (.int 1 0 ⟨311,46,311,47⟩) (.some (.cmp2 .LtE .LtE (.var 1 "low" ⟨311,74,311,77⟩) (.var 3 "octet" ⟨311,81,311,86⟩) (.var 2 "high" ⟨311,90,311,94⟩) ⟨311,74,311,94⟩)) [(1, "low", ⟨311,52,311,55⟩), (2, "high", ⟨311,57,311,61⟩)] (.some (0, ⟨311,52,311,61⟩)) (.var 2 "pairs" ⟨311,65,311,70⟩) { kind := .function, names := [(".0", .local), ("low", .local), ("high", .local), ("octet", .free)], isGenerator := false, isCoroutine := false, more := [] } [.none, .none, .none, .some 1] ⟨311,45,311,95⟩) (.list false .nil ⟨311,99,311,101⟩) ⟨311,45,311,101⟩)) [(1, "octet", ⟨311,22,311,27⟩)] .none (.known ⟨311,31,311,41⟩) { kind := .function, names := [(".0", .local), ("octet", .cell), ("pairs", .free)], isGenerator := false, isCoroutine := false, more := [] } [.none, .none, .some 0] ⟨311,11,311,102⟩) ⟨311,4,311,102⟩)
  .nil)
noncomputable def f_law_named_s : Scope := { kind := .function, names := [("letter", .local), ("_law_flags", .globalImplicit)], isGenerator := false, isCoroutine := false, more := [] }
@[reducible] noncomputable def f_law_named : Ss := (.cons (.ite (.cmp1 .Eq (.var 0 "letter" ⟨313,7,313,13⟩) (.int 97 0 ⟨313,17,313,19⟩) ⟨313,7,313,19⟩) (.cons (.ret (.call 263 "_law_flags" ⟨314,15,314,25⟩ (.cons (.list false (.cons (.tup (.cons (.int 65 0 ⟨314,28,314,30⟩) (.cons (.int 90 0 ⟨314,32,314,34⟩) .nil)) 0 ⟨314,27,314,35⟩) (.cons (.tup (.cons (.int 97 0 ⟨314,38,314,40⟩) (.cons (.int 122 0 ⟨314,42,314,45⟩) .nil)) 0 ⟨314,37,314,46⟩) .nil)) ⟨314,26,314,47⟩) .nil) ⟨314,15,314,48⟩) ⟨314,8,314,48⟩)
  .nil) .nil ⟨313,4,314,48⟩)
  (.cons (.ite (.cmp1 .Eq (.var 0 "letter" ⟨315,7,315,13⟩) (.int 99 0 ⟨315,17,315,19⟩) ⟨315,7,315,19⟩) (.cons (.ret (.call 263 "_law_flags" ⟨316,15,316,25⟩ (.cons (.list false (.cons (.tup (.cons (.int 0 0 ⟨316,28,316,29⟩) (.cons (.int 31 0 ⟨316,31,316,33⟩) .nil)) 0 ⟨316,27,316,34⟩) (.cons (.tup (.cons (.int 127 0 ⟨316,37,316,40⟩) (.cons (.int 127 0 ⟨316,42,316,45⟩) .nil)) 0 ⟨316,36,316,46⟩) .nil)) ⟨316,26,316,47⟩) .nil) ⟨316,15,316,48⟩) ⟨316,8,316,48⟩)
  .nil) .nil ⟨315,4,316,48⟩)
  (.cons (.ite (.cmp1 .Eq (.var 0 "letter" ⟨317,7,317,13⟩) (.int 100 0 ⟨317,17,317,20⟩) ⟨317,7,317,20⟩) (.cons (.ret (.call 263 "_law_flags" ⟨318,15,318,25⟩ (.cons (.list false (.cons (.tup (.cons (.int 48 0 ⟨318,28,318,30⟩) (.cons (.int 57 0 ⟨318,32,318,34⟩) .nil)) 0 ⟨318,27,318,35⟩) .nil) ⟨318,26,318,36⟩) .nil) ⟨318,15,318,37⟩) ⟨318,8,318,37⟩)
  .nil) .nil ⟨317,4,318,37⟩)
  (.cons (.ite (.cmp1 .Eq (.var 0 "letter" ⟨319,7,319,13⟩) (.int 108 0 ⟨319,17,319,20⟩) ⟨319,7,319,20⟩) (.cons (.ret (.call 263 "_law_flags" ⟨320,15,320,25⟩ (.cons (.list false (.cons (.tup (.cons (.int 97 0 ⟨320,28,320,30⟩) (.cons (.int 122 0 ⟨320,32,320,35⟩) .nil)) 0 ⟨320,27,320,36⟩) .nil) ⟨320,26,320,37⟩) .nil) ⟨320,15,320,38⟩) ⟨320,8,320,38⟩)
  .nil) .nil ⟨319,4,320,38⟩)
  (.cons (.ite (.cmp1 .Eq (.var 0 "letter" ⟨321,7,321,13⟩) (.int 112 0 ⟨321,17,321,20⟩) ⟨321,7,321,20⟩) (.cons (.ret (.call 263 "_law_flags" ⟨322,15,322,25⟩ (.cons (.list false (.cons (.tup (.cons (.int 33 0 ⟨322,28,322,30⟩) (.cons (.int 47 0 ⟨322,32,322,34⟩) .nil)) 0 ⟨322,27,322,35⟩) (.cons (.tup (.cons (.int 58 0 ⟨322,38,322,40⟩) (.cons (.int 64 0 ⟨322,42,322,44⟩) .nil)) 0 ⟨322,37,322,45⟩) (.cons (.tup (.cons (.int 91 0 ⟨322,48,322,50⟩) (.cons (.int 96 0 ⟨322,52,322,54⟩) .nil)) 0 ⟨322,47,322,55⟩) (.cons (.tup (.cons (.int 123 0 ⟨322,58,322,61⟩) (.cons (.int 126 0 ⟨322,63,322,66⟩) .nil)) 0 ⟨322,57,322,67⟩) .nil)))) ⟨322,26,322,68⟩) .nil) ⟨322,15,322,69⟩) ⟨322,8,322,69⟩)
  .nil) .nil ⟨321,4,322,69⟩)
  (.cons (.ite (.cmp1 .Eq (.var 0 "letter" ⟨323,7,323,13⟩) (.int 115 0 ⟨323,17,323,20⟩) ⟨323,7,323,20⟩) (.cons (.ret (.call 263 "_law_flags" ⟨324,15,324,25⟩ (.cons (.list false (.cons (.tup (.cons (.int 9 0 ⟨324,28,324,29⟩) (.cons (.int 13 0 ⟨324,31,324,33⟩) .nil)) 0 ⟨324,27,324,34⟩) (.cons (.tup (.cons (.int 32 0 ⟨324,37,324,39⟩) (.cons (.int 32 0 ⟨324,41,324,43⟩) .nil)) 0 ⟨324,36,324,44⟩) .nil)) ⟨324,26,324,45⟩) .nil) ⟨324,15,324,46⟩) ⟨324,8,324,46⟩)
  .nil) .nil ⟨323,4,324,46⟩)
  (.cons (.ite (.cmp1 .Eq (.var 0 "letter" ⟨325,7,325,13⟩) (.int 117 0 ⟨325,17,325,20⟩) ⟨325,7,325,20⟩) (.cons (.ret (.call 263 "_law_flags" ⟨326,15,326,25⟩ (.cons (.list false (.cons (.tup (.cons (.int 65 0 ⟨326,28,326,30⟩) (.cons (.int 90 0 ⟨326,32,326,34⟩) .nil)) 0 ⟨326,27,326,35⟩) .nil) ⟨326,26,326,36⟩) .nil) ⟨326,15,326,37⟩) ⟨326,8,326,37⟩)
  .nil) .nil ⟨325,4,326,37⟩)
  (.cons (.ite (.cmp1 .Eq (.var 0 "letter" ⟨327,7,327,13⟩) (.int 119 0 ⟨327,17,327,20⟩) ⟨327,7,327,20⟩) (.cons (.ret (.call 263 "_law_flags" ⟨328,15,328,25⟩ (.cons (.list false (.cons (.tup (.cons (.int 48 0 ⟨328,28,328,30⟩) (.cons (.int 57 0 ⟨328,32,328,34⟩) .nil)) 0 ⟨328,27,328,35⟩) (.cons (.tup (.cons (.int 65 0 ⟨328,38,328,40⟩) (.cons (.int 90 0 ⟨328,42,328,44⟩) .nil)) 0 ⟨328,37,328,45⟩) (.cons (.tup (.cons (.int 97 0 ⟨328,48,328,50⟩) (.cons (.int 122 0 ⟨328,52,328,55⟩) .nil)) 0 ⟨328,47,328,56⟩) .nil))) ⟨328,26,328,57⟩) .nil) ⟨328,15,328,58⟩) ⟨328,8,328,58⟩)
  .nil) .nil ⟨327,4,328,58⟩)
  (.cons (.ret (.ite (.cmp1 .Eq (.var 0 "letter" ⟨329,58,329,64⟩) (.int 120 0 ⟨329,68,329,71⟩) ⟨329,58,329,71⟩) (.call 263 "_law_flags" ⟨329,11,329,21⟩ (.cons (.list false (.cons (.tup (.cons (.int 48 0 ⟨329,24,329,26⟩) (.cons (.int 57 0 ⟨329,28,329,30⟩) .nil)) 0 ⟨329,23,329,31⟩) (.cons (.tup (.cons (.int 65 0 ⟨329,34,329,36⟩) (.cons (.int 70 0 ⟨329,38,329,40⟩) .nil)) 0 ⟨329,33,329,41⟩) (.cons (.tup (.cons (.int 97 0 ⟨329,44,329,46⟩) (.cons (.int 102 0 ⟨329,48,329,51⟩) .nil)) 0 ⟨329,43,329,52⟩) .nil))) ⟨329,22,329,53⟩) .nil) ⟨329,11,329,54⟩) (.call 263 "_law_flags" ⟨329,77,329,87⟩ (.cons (.list false (.cons (.tup (.cons (.int 0 0 ⟨329,90,329,91⟩) (.cons (.int 0 0 ⟨329,93,329,94⟩) .nil)) 0 ⟨329,89,329,95⟩) .nil) ⟨329,88,329,96⟩) .nil) ⟨329,77,329,97⟩) ⟨329,11,329,97⟩) ⟨329,4,329,97⟩)
  .nil)))))))))
noncomputable def f_law_others_s : Scope := { kind := .function, names := [("flags", .cell), ("_law_known", .globalImplicit)], isGenerator := false, isCoroutine := false, more := [("fast", .str "flags"), ("fast", .str "octet")] }
@[reducible] noncomputable def f_law_others : Ss := (.cons (.ret (.comp (.var 1 "octet" ⟨331,12,331,17⟩) (.some (.cmp1 .NotIn (.var 1 "octet" ⟨331,45,331,50⟩) (.var 2 "flags" ⟨331,58,331,63⟩) ⟨331,45,331,63⟩)) [(1, "octet", ⟨331,22,331,27⟩)] .none (.known ⟨331,31,331,41⟩) { kind := .function, names := [(".0", .local), ("octet", .local), ("flags", .free)], isGenerator := false, isCoroutine := false, more := [] } [.none, .none, .some 0] ⟨331,11,331,64⟩) ⟨331,4,331,64⟩)
  .nil)
noncomputable def f_law_drawn_name_s : Scope := { kind := .function, names := [("feed", .local), ("letter", .local), ("_law_draw", .globalImplicit), ("_law_others", .globalImplicit), ("_law_named", .globalImplicit)], isGenerator := false, isCoroutine := false, more := [] }
@[reducible] noncomputable def f_law_drawn_name : Ss := (.cons (.asg 1 "letter" ⟨333,4,333,10⟩ (.idx (.list false (.cons (.int 97 0 ⟨333,14,333,16⟩) (.cons (.int 99 0 ⟨333,18,333,20⟩) (.cons (.int 100 0 ⟨333,22,333,25⟩) (.cons (.int 108 0 ⟨333,27,333,30⟩) (.cons (.int 112 0 ⟨333,32,333,35⟩) (.cons (.int 115 0 ⟨333,37,333,40⟩) (.cons (.int 117 0 ⟨333,42,333,45⟩) (.cons (.int 119 0 ⟨333,47,333,50⟩) (.cons (.int 120 0 ⟨333,52,333,55⟩) (.cons (.int 122 0 ⟨333,57,333,60⟩) .nil)))))))))) ⟨333,13,333,61⟩) (.call 258 "_law_draw" ⟨333,62,333,71⟩ (.cons (.var 0 "feed" ⟨333,72,333,76⟩) (.cons (.int 10 0 ⟨333,78,333,80⟩) .nil)) ⟨333,62,333,81⟩) ⟨333,13,333,82⟩) ⟨333,4,333,82⟩)
  (.cons (.ite (.cmp1 .Eq (.call 258 "_law_draw" ⟨334,7,334,16⟩ (.cons (.var 0 "feed" ⟨334,17,334,21⟩) (.cons (.int 2 0 ⟨334,23,334,24⟩) .nil)) ⟨334,7,334,25⟩) (.int 1 0 ⟨334,29,334,30⟩) ⟨334,7,334,30⟩) (.cons (.ret (.tup (.cons (.list false (.cons (.int 37 0 ⟨335,17,335,19⟩) (.cons (.bin .Sub false (.var 1 "letter" ⟨335,21,335,27⟩) (.int 32 0 ⟨335,30,335,32⟩) ⟨335,21,335,32⟩) .nil)) ⟨335,16,335,33⟩) (.cons (.call 275 "_law_others" ⟨335,35,335,46⟩ (.cons (.call 270 "_law_named" ⟨335,47,335,57⟩ (.cons (.var 1 "letter" ⟨335,58,335,64⟩) .nil) ⟨335,47,335,65⟩) .nil) ⟨335,35,335,66⟩) .nil)) 0 ⟨335,15,335,67⟩) ⟨335,8,335,67⟩)
  .nil) .nil ⟨334,4,335,67⟩)
  (.cons (.ret (.tup (.cons (.list false (.cons (.int 37 0 ⟨336,13,336,15⟩) (.cons (.var 1 "letter" ⟨336,17,336,23⟩) .nil)) ⟨336,12,336,24⟩) (.cons (.call 270 "_law_named" ⟨336,26,336,36⟩ (.cons (.var 1 "letter" ⟨336,37,336,43⟩) .nil) ⟨336,26,336,44⟩) .nil)) 0 ⟨336,11,336,45⟩) ⟨336,4,336,45⟩)
  .nil)))
noncomputable def f_law_drawn_set_s : Scope := { kind := .function, names := [("feed", .local), ("is_turned", .local), ("signs", .local), ("flags", .local), ("turn", .local), ("form", .local), ("octet", .local), ("some", .local), ("low", .local), ("high", .local), ("more", .local), ("_law_draw", .globalImplicit), ("range", .globalImplicit), ("_law_flags", .globalImplicit), ("_law_drawn_name", .globalImplicit), ("_law_others", .globalImplicit)], isGenerator := false, isCoroutine := false, more := [] }
@[reducible] noncomputable def f_law_drawn_set : Ss := (.cons (.asgT [(1, "is_turned", ⟨338,4,338,13⟩), (2, "signs", ⟨338,15,338,20⟩), (3, "flags", ⟨338,22,338,27⟩)] 0 ⟨338,4,338,27⟩ (.tup (.cons (.cmp1 .Eq (.call 258 "_law_draw" ⟨338,31,338,40⟩ (.cons (.var 0 "feed" ⟨338,41,338,45⟩) (.cons (.int 2 0 ⟨338,47,338,48⟩) .nil)) ⟨338,31,338,49⟩) (.int 1 0 ⟨338,53,338,54⟩) ⟨338,31,338,54⟩) (.cons (.list false .nil ⟨338,56,338,58⟩) (.cons (.list false .nil ⟨338,60,338,62⟩) .nil))) 0 ⟨338,30,338,63⟩) ⟨338,4,338,63⟩)
  (.cons (.loop 4 "turn" ⟨339,8,339,12⟩ (.bi .range ⟨339,16,339,21⟩ (.cons (.bin .Add false (.int 1 0 ⟨339,22,339,23⟩) (.call 258 "_law_draw" ⟨339,26,339,35⟩ (.cons (.var 0 "feed" ⟨339,36,339,40⟩) (.cons (.int 2 0 ⟨339,42,339,43⟩) .nil)) ⟨339,26,339,44⟩) ⟨339,22,339,44⟩) .nil) ⟨339,16,339,45⟩) (.cons (.asg 5 "form" ⟨340,8,340,12⟩ (.call 258 "_law_draw" ⟨340,15,340,24⟩ (.cons (.var 0 "feed" ⟨340,25,340,29⟩) (.cons (.int 4 0 ⟨340,31,340,32⟩) .nil)) ⟨340,15,340,33⟩) ⟨340,8,340,33⟩)
  (.cons (.ite (.cmp1 .Eq (.var 5 "form" ⟨341,11,341,15⟩) (.int 0 0 ⟨341,19,341,20⟩) ⟨341,11,341,20⟩) (.cons (.asg 6 "octet" ⟨342,12,342,17⟩ (.idx (.list false (.cons (.int 97 0 ⟨342,21,342,23⟩) (.cons (.int 98 0 ⟨342,25,342,27⟩) (.cons (.int 49 0 ⟨342,29,342,31⟩) .nil))) ⟨342,20,342,32⟩) (.call 258 "_law_draw" ⟨342,33,342,42⟩ (.cons (.var 0 "feed" ⟨342,43,342,47⟩) (.cons (.int 3 0 ⟨342,49,342,50⟩) .nil)) ⟨342,33,342,51⟩) ⟨342,20,342,52⟩) ⟨342,12,342,52⟩)
  (.cons (.asgT [(2, "signs", ⟨343,12,343,17⟩), (7, "some", ⟨343,19,343,23⟩)] 0 ⟨343,12,343,23⟩ (.tup (.cons (.bin .Add false (.var 2 "signs" ⟨343,27,343,32⟩) (.list false (.cons (.var 6 "octet" ⟨343,36,343,41⟩) .nil) ⟨343,35,343,42⟩) ⟨343,27,343,42⟩) (.cons (.call 263 "_law_flags" ⟨343,44,343,54⟩ (.cons (.list false (.cons (.tup (.cons (.var 6 "octet" ⟨343,57,343,62⟩) (.cons (.var 6 "octet" ⟨343,64,343,69⟩) .nil)) 0 ⟨343,56,343,70⟩) .nil) ⟨343,55,343,71⟩) .nil) ⟨343,44,343,72⟩) .nil)) 0 ⟨343,26,343,73⟩) ⟨343,12,343,73⟩)
  .nil)) (.cons (.ite (.cmp1 .Eq (.var 5 "form" ⟨344,13,344,17⟩) (.int 1 0 ⟨344,21,344,22⟩) ⟨344,13,344,22⟩) (.cons (.asgT [(8, "low", ⟨345,12,345,15⟩), (9, "high", ⟨345,17,345,21⟩)] 0 ⟨345,12,345,21⟩ (.idx (.list false (.cons (.tup (.cons (.int 97 0 ⟨345,26,345,28⟩) (.cons (.int 98 0 ⟨345,30,345,32⟩) .nil)) 0 ⟨345,25,345,33⟩) (.cons (.tup (.cons (.int 48 0 ⟨345,36,345,38⟩) (.cons (.int 57 0 ⟨345,40,345,42⟩) .nil)) 0 ⟨345,35,345,43⟩) (.cons (.tup (.cons (.int 65 0 ⟨345,46,345,48⟩) (.cons (.int 90 0 ⟨345,50,345,52⟩) .nil)) 0 ⟨345,45,345,53⟩) .nil))) ⟨345,24,345,54⟩) (.call 258 "_law_draw" ⟨345,55,345,64⟩ (.cons (.var 0 "feed" ⟨345,65,345,69⟩) (.cons (.int 3 0 ⟨345,71,345,72⟩) .nil)) ⟨345,55,345,73⟩) ⟨345,24,345,74⟩) ⟨345,12,345,74⟩)
  (.cons (.asgT [(2, "signs", ⟨346,12,346,17⟩), (7, "some", ⟨346,19,346,23⟩)] 0 ⟨346,12,346,23⟩ (.tup (.cons (.bin .Add false (.var 2 "signs" ⟨346,27,346,32⟩) (.list false (.cons (.var 8 "low" ⟨346,36,346,39⟩) (.cons (.int 45 0 ⟨346,41,346,43⟩) (.cons (.var 9 "high" ⟨346,45,346,49⟩) .nil))) ⟨346,35,346,50⟩) ⟨346,27,346,50⟩) (.cons (.call 263 "_law_flags" ⟨346,52,346,62⟩ (.cons (.list false (.cons (.tup (.cons (.var 8 "low" ⟨346,65,346,68⟩) (.cons (.var 9 "high" ⟨346,70,346,74⟩) .nil)) 0 ⟨346,64,346,75⟩) .nil) ⟨346,63,346,76⟩) .nil) ⟨346,52,346,77⟩) .nil)) 0 ⟨346,26,346,78⟩) ⟨346,12,346,78⟩)
  .nil)) (.cons (.ite (.cmp1 .Eq (.var 5 "form" ⟨347,13,347,17⟩) (.int 2 0 ⟨347,21,347,22⟩) ⟨347,13,347,22⟩) (.cons (.asgT [(10, "more", ⟨348,12,348,16⟩), (7, "some", ⟨348,18,348,22⟩)] 0 ⟨348,12,348,22⟩ (.call 282 "_law_drawn_name" ⟨348,25,348,40⟩ (.cons (.var 0 "feed" ⟨348,41,348,45⟩) .nil) ⟨348,25,348,46⟩) ⟨348,12,348,46⟩)
  (.cons (.asg 2 "signs" ⟨349,12,349,17⟩ (.bin .Add false (.var 2 "signs" ⟨349,20,349,25⟩) (.var 10 "more" ⟨349,28,349,32⟩) ⟨349,20,349,32⟩) ⟨349,12,349,32⟩)
  .nil)) (.cons (.ite (.cmp1 .Eq (.var 2 "signs" ⟨350,13,350,18⟩) (.list false .nil ⟨350,22,350,24⟩) ⟨350,13,350,24⟩) (.cons (.asgT [(2, "signs", ⟨351,12,351,17⟩), (7, "some", ⟨351,19,351,23⟩)] 0 ⟨351,12,351,23⟩ (.tup (.cons (.list false (.cons (.int 93 0 ⟨351,28,351,30⟩) .nil) ⟨351,27,351,31⟩) (.cons (.call 263 "_law_flags" ⟨351,33,351,43⟩ (.cons (.list false (.cons (.tup (.cons (.int 93 0 ⟨351,46,351,48⟩) (.cons (.int 93 0 ⟨351,50,351,52⟩) .nil)) 0 ⟨351,45,351,53⟩) .nil) ⟨351,44,351,54⟩) .nil) ⟨351,33,351,55⟩) .nil)) 0 ⟨351,26,351,56⟩) ⟨351,12,351,56⟩)
  .nil) (.cons (.asgT [(2, "signs", ⟨353,12,353,17⟩), (7, "some", ⟨353,19,353,23⟩)] 0 ⟨353,12,353,23⟩ (.tup (.cons (.bin .Add false (.var 2 "signs" ⟨353,27,353,32⟩) (.list false (.cons (.int 37 0 ⟨353,36,353,38⟩) (.cons (.int 45 0 ⟨353,40,353,42⟩) .nil)) ⟨353,35,353,43⟩) ⟨353,27,353,43⟩) (.cons (.call 263 "_law_flags" ⟨353,45,353,55⟩ (.cons (.list false (.cons (.tup (.cons (.int 45 0 ⟨353,58,353,60⟩) (.cons (.int 45 0 ⟨353,62,353,64⟩) .nil)) 0 ⟨353,57,353,65⟩) .nil) ⟨353,56,353,66⟩) .nil) ⟨353,45,353,67⟩) .nil)) 0 ⟨353,26,353,68⟩) ⟨353,12,353,68⟩)
  .nil) ⟨350,8,353,68⟩)
  .nil) ⟨347,8,353,68⟩)
  .nil) ⟨344,8,353,68⟩)
  .nil) ⟨341,8,353,68⟩)
  (.cons (.asg 3 "flags" ⟨354,8,354,13⟩ (.bin .Add false (.var 3 "flags" ⟨354,16,354,21⟩) (.var 7 "some" ⟨354,24,354,28⟩) ⟨354,16,354,28⟩) ⟨354,8,354,28⟩)
  .nil))) ⟨339,4,354,28⟩)
  (.cons (.ite (.var 1 "is_turned" ⟨355,7,355,16⟩) (.cons (.ret (.tup (.cons (.bin .Add false (.bin .Add false (.list false (.cons (.int 91 0 ⟨356,17,356,19⟩) (.cons (.int 94 0 ⟨356,21,356,23⟩) .nil)) ⟨356,16,356,24⟩) (.var 2 "signs" ⟨356,27,356,32⟩) ⟨356,16,356,32⟩) (.list false (.cons (.int 93 0 ⟨356,36,356,38⟩) .nil) ⟨356,35,356,39⟩) ⟨356,16,356,39⟩) (.cons (.call 275 "_law_others" ⟨356,41,356,52⟩ (.cons (.var 3 "flags" ⟨356,53,356,58⟩) .nil) ⟨356,41,356,59⟩) .nil)) 0 ⟨356,15,356,60⟩) ⟨356,8,356,60⟩)
  .nil) .nil ⟨355,4,356,60⟩)
  (.cons (.ret (.tup (.cons (.bin .Add false (.bin .Add false (.list false (.cons (.int 91 0 ⟨357,13,357,15⟩) .nil) ⟨357,12,357,16⟩) (.var 2 "signs" ⟨357,19,357,24⟩) ⟨357,12,357,24⟩) (.list false (.cons (.int 93 0 ⟨357,28,357,30⟩) .nil) ⟨357,27,357,31⟩) ⟨357,12,357,31⟩) (.cons (.var 3 "flags" ⟨357,33,357,38⟩) .nil)) 0 ⟨357,11,357,39⟩) ⟨357,4,357,39⟩)
  .nil))))
noncomputable def f_law_single_s : Scope := { kind := .function, names := [("feed", .local), ("form", .local), ("octet", .local), ("_law_draw", .globalImplicit), ("_law_flags", .globalImplicit), ("_law_known", .globalImplicit), ("_law_drawn_name", .globalImplicit), ("_law_drawn_set", .globalImplicit)], isGenerator := false, isCoroutine := false, more := [] }
@[reducible] noncomputable def f_law_single : Ss := (.cons (.asg 1 "form" ⟨359,4,359,8⟩ (.call 258 "_law_draw" ⟨359,11,359,20⟩ (.cons (.var 0 "feed" ⟨359,21,359,25⟩) (.cons (.int 5 0 ⟨359,27,359,28⟩) .nil)) ⟨359,11,359,29⟩) ⟨359,4,359,29⟩)
  (.cons (.ite (.cmp1 .Lt (.var 1 "form" ⟨360,7,360,11⟩) (.int 2 0 ⟨360,14,360,15⟩) ⟨360,7,360,15⟩) (.cons (.asg 2 "octet" ⟨361,8,361,13⟩ (.idx (.list false (.cons (.int 97 0 ⟨361,17,361,19⟩) (.cons (.int 98 0 ⟨361,21,361,23⟩) (.cons (.int 49 0 ⟨361,25,361,27⟩) (.cons (.int 32 0 ⟨361,29,361,31⟩) .nil)))) ⟨361,16,361,32⟩) (.call 258 "_law_draw" ⟨361,33,361,42⟩ (.cons (.var 0 "feed" ⟨361,43,361,47⟩) (.cons (.int 4 0 ⟨361,49,361,50⟩) .nil)) ⟨361,33,361,51⟩) ⟨361,16,361,52⟩) ⟨361,8,361,52⟩)
  (.cons (.ret (.tup (.cons (.list false (.cons (.var 2 "octet" ⟨362,17,362,22⟩) .nil) ⟨362,16,362,23⟩) (.cons (.call 263 "_law_flags" ⟨362,25,362,35⟩ (.cons (.list false (.cons (.tup (.cons (.var 2 "octet" ⟨362,38,362,43⟩) (.cons (.var 2 "octet" ⟨362,45,362,50⟩) .nil)) 0 ⟨362,37,362,51⟩) .nil) ⟨362,36,362,52⟩) .nil) ⟨362,25,362,53⟩) .nil)) 0 ⟨362,15,362,54⟩) ⟨362,8,362,54⟩)
  .nil)) .nil ⟨360,4,362,54⟩)
  (.cons (.ite (.cmp1 .Eq (.var 1 "form" ⟨363,7,363,11⟩) (.int 2 0 ⟨363,15,363,16⟩) ⟨363,7,363,16⟩) (.cons (.asg 2 "octet" ⟨364,8,364,13⟩ (.idx (.list false (.cons (.int 46 0 ⟨364,17,364,19⟩) (.cons (.int 40 0 ⟨364,21,364,23⟩) (.cons (.int 45 0 ⟨364,25,364,27⟩) (.cons (.int 46 0 ⟨364,29,364,31⟩) .nil)))) ⟨364,16,364,32⟩) (.call 258 "_law_draw" ⟨364,33,364,42⟩ (.cons (.var 0 "feed" ⟨364,43,364,47⟩) (.cons (.int 4 0 ⟨364,49,364,50⟩) .nil)) ⟨364,33,364,51⟩) ⟨364,16,364,52⟩) ⟨364,8,364,52⟩)
  (.cons (.ite (.bop .And (.cons (.cmp1 .Eq (.var 2 "octet" ⟨365,11,365,16⟩) (.int 46 0 ⟨365,20,365,22⟩) ⟨365,11,365,22⟩) (.cons (.cmp1 .Eq (.call 258 "_law_draw" ⟨365,27,365,36⟩ (.cons (.var 0 "feed" ⟨365,37,365,41⟩) (.cons (.int 2 0 ⟨365,43,365,44⟩) .nil)) ⟨365,27,365,45⟩) (.int 0 0 ⟨365,49,365,50⟩) ⟨365,27,365,50⟩) .nil)) ⟨365,11,365,50⟩) (.cons (.ret (.tup (.cons (.list false (.cons (.int 46 0 ⟨366,21,366,23⟩) .nil) ⟨366,20,366,24⟩) (.cons (.known ⟨366,26,366,36⟩) .nil)) 0 ⟨366,19,366,37⟩) ⟨366,12,366,37⟩)
  .nil) .nil ⟨365,8,366,37⟩)
  (.cons (.ret (.tup (.cons (.list false (.cons (.int 37 0 ⟨367,17,367,19⟩) (.cons (.var 2 "octet" ⟨367,21,367,26⟩) .nil)) ⟨367,16,367,27⟩) (.cons (.call 263 "_law_flags" ⟨367,29,367,39⟩ (.cons (.list false (.cons (.tup (.cons (.var 2 "octet" ⟨367,42,367,47⟩) (.cons (.var 2 "octet" ⟨367,49,367,54⟩) .nil)) 0 ⟨367,41,367,55⟩) .nil) ⟨367,40,367,56⟩) .nil) ⟨367,29,367,57⟩) .nil)) 0 ⟨367,15,367,58⟩) ⟨367,8,367,58⟩)
  .nil))) .nil ⟨363,4,367,58⟩)
  (.cons (.ret (.ite (.cmp1 .Eq (.var 1 "form" ⟨368,36,368,40⟩) (.int 3 0 ⟨368,44,368,45⟩) ⟨368,36,368,45⟩) (.call 282 "_law_drawn_name" ⟨368,11,368,26⟩ (.cons (.var 0 "feed" ⟨368,27,368,31⟩) .nil) ⟨368,11,368,32⟩) (.call 289 "_law_drawn_set" ⟨368,51,368,65⟩ (.cons (.var 0 "feed" ⟨368,66,368,70⟩) .nil) ⟨368,51,368,71⟩) ⟨368,11,368,71⟩) ⟨368,4,368,71⟩)
  .nil))))
noncomputable def f_law_part_s : Scope := { kind := .function, names := [("feed", .local), ("held", .cell), ("form", .local), ("is_shut", .local), ("some", .local), ("begin", .local), ("end", .local), ("signs", .local), ("flags", .local), ("_law_draw", .globalImplicit), ("range", .globalImplicit), ("len", .globalImplicit), ("_law_drawn_set", .globalImplicit), ("_law_single", .globalImplicit)], isGenerator := false, isCoroutine := false, more := [("fast", .str "feed"), ("fast", .str "held"), ("fast", .str "form"), ("fast", .str "is_shut"), ("fast", .str "number"), ("fast", .str "some"), ("fast", .str "begin"), ("fast", .str "end"), ("fast", .str "signs"), ("fast", .str "flags")] }
@[reducible] noncomputable def f_law_part : Ss := (.cons (.asg 2 "form" ⟨370,4,370,8⟩ (.call 258 "_law_draw" ⟨370,11,370,20⟩ (.cons (.var 0 "feed" ⟨370,21,370,25⟩) (.cons (.int 8 0 ⟨370,27,370,28⟩) .nil)) ⟨370,11,370,29⟩) ⟨370,4,370,29⟩)
  (.cons (.ite (.cmp1 .Eq (.var 2 "form" ⟨371,7,371,11⟩) (.int 4 0 ⟨371,15,371,16⟩) ⟨371,7,371,16⟩) (.cons (.asg 3 "is_shut" ⟨372,8,372,15⟩ (.bop .And (.cons (.cmp1 .In (.bool false 0 ⟨372,18,372,23⟩) (.var 1 "held" ⟨372,27,372,31⟩) ⟨372,18,372,31⟩) (.cons (.bop .Or (.cons (.cmp1 .Eq (.bm .count (.var 1 "held" ⟨372,37,372,41⟩) ⟨372,37,372,47⟩ (.cons (.bool false 0 ⟨372,48,372,53⟩) .nil) ⟨372,37,372,54⟩) (.int 2 0 ⟨372,58,372,59⟩) ⟨372,37,372,59⟩) (.cons (.cmp1 .Gt (.call 258 "_law_draw" ⟨372,63,372,72⟩ (.cons (.var 0 "feed" ⟨372,73,372,77⟩) (.cons (.int 3 0 ⟨372,79,372,80⟩) .nil)) ⟨372,63,372,81⟩) (.int 0 0 ⟨372,84,372,85⟩) ⟨372,63,372,85⟩) .nil)) ⟨372,37,372,85⟩) .nil)) ⟨372,18,372,86⟩) ⟨372,8,372,86⟩)
  (.cons (.ret (.ite (.var 3 "is_shut" ⟨373,29,373,36⟩) (.tup (.cons (.str "close" 0 ⟨373,16,373,23⟩) .nil) 0 ⟨373,15,373,25⟩) (.tup (.cons (.str "open" 0 ⟨373,43,373,49⟩) .nil) 0 ⟨373,42,373,51⟩) ⟨373,15,373,51⟩) ⟨373,8,373,51⟩)
  .nil)) .nil ⟨371,4,373,51⟩)
  (.cons (.ite (.cmp1 .Eq (.var 2 "form" ⟨374,7,374,11⟩) (.int 5 0 ⟨374,15,374,16⟩) ⟨374,7,374,16⟩) (.cons (.ret (.tup (.cons (.str "spot" 0 ⟨375,16,375,22⟩) .nil) 0 ⟨375,15,375,24⟩) ⟨375,8,375,24⟩)
  .nil) .nil ⟨374,4,375,24⟩)
  (.cons (.ite (.bop .And (.cons (.cmp1 .Eq (.var 2 "form" ⟨376,7,376,11⟩) (.int 6 0 ⟨376,15,376,16⟩) ⟨376,7,376,16⟩) (.cons (.cmp1 .In (.bool true 0 ⟨376,21,376,25⟩) (.var 1 "held" ⟨376,29,376,33⟩) ⟨376,21,376,33⟩) .nil)) ⟨376,7,376,33⟩) (.cons (.asgC 4 "some" ⟨377,8,377,12⟩ (.comp (.var 1 "number" ⟨377,16,377,22⟩) (.some (.idx (.var 2 "held" ⟨377,57,377,61⟩) (.var 1 "number" ⟨377,62,377,68⟩) ⟨377,57,377,69⟩)) [(1, "number", ⟨377,27,377,33⟩)] .none (.bi .range ⟨377,37,377,42⟩ (.cons (.bi .len ⟨377,43,377,46⟩ (.cons (.var 1 "held" ⟨377,47,377,51⟩) .nil) ⟨377,43,377,52⟩) .nil) ⟨377,37,377,53⟩) { kind := .function, names := [(".0", .local), ("number", .local), ("held", .free)], isGenerator := false, isCoroutine := false, more := [] } [.none, .none, .some 1] ⟨377,15,377,70⟩) ⟨377,8,377,70⟩)
  (.cons (.ret (.tup (.cons (.str "again" 0 ⟨378,16,378,23⟩) (.cons (.idx (.var 4 "some" ⟨378,25,378,29⟩) (.call 258 "_law_draw" ⟨378,30,378,39⟩ (.cons (.var 0 "feed" ⟨378,40,378,44⟩) (.cons (.bi .len ⟨378,46,378,49⟩ (.cons (.var 4 "some" ⟨378,50,378,54⟩) .nil) ⟨378,46,378,55⟩) .nil)) ⟨378,30,378,56⟩) ⟨378,25,378,57⟩) .nil)) 0 ⟨378,15,378,58⟩) ⟨378,8,378,58⟩)
  .nil)) .nil ⟨376,4,378,58⟩)
  (.cons (.ite (.cmp1 .Eq (.var 2 "form" ⟨379,7,379,11⟩) (.int 7 0 ⟨379,15,379,16⟩) ⟨379,7,379,16⟩) (.cons (.ite (.cmp1 .Eq (.call 258 "_law_draw" ⟨380,11,380,20⟩ (.cons (.var 0 "feed" ⟨380,21,380,25⟩) (.cons (.int 2 0 ⟨380,27,380,28⟩) .nil)) ⟨380,11,380,29⟩) (.int 0 0 ⟨380,33,380,34⟩) ⟨380,11,380,34⟩) (.cons (.asgT [(5, "begin", ⟨381,12,381,17⟩), (6, "end", ⟨381,19,381,22⟩)] 0 ⟨381,12,381,22⟩ (.idx (.list false (.cons (.tup (.cons (.int 40 0 ⟨381,27,381,29⟩) (.cons (.int 41 0 ⟨381,31,381,33⟩) .nil)) 0 ⟨381,26,381,34⟩) (.cons (.tup (.cons (.int 97 0 ⟨381,37,381,39⟩) (.cons (.int 98 0 ⟨381,41,381,43⟩) .nil)) 0 ⟨381,36,381,44⟩) (.cons (.tup (.cons (.int 97 0 ⟨381,47,381,49⟩) (.cons (.int 97 0 ⟨381,51,381,53⟩) .nil)) 0 ⟨381,46,381,54⟩) .nil))) ⟨381,25,381,55⟩) (.call 258 "_law_draw" ⟨381,56,381,65⟩ (.cons (.var 0 "feed" ⟨381,66,381,70⟩) (.cons (.int 3 0 ⟨381,72,381,73⟩) .nil)) ⟨381,56,381,74⟩) ⟨381,25,381,75⟩) ⟨381,12,381,75⟩)
  (.cons (.ret (.tup (.cons (.str "pair" 0 ⟨382,20,382,26⟩) (.cons (.var 5 "begin" ⟨382,28,382,33⟩) (.cons (.var 6 "end" ⟨382,35,382,38⟩) .nil))) 0 ⟨382,19,382,39⟩) ⟨382,12,382,39⟩)
  .nil)) .nil ⟨380,8,382,39⟩)
  (.cons (.asgT [(7, "signs", ⟨383,8,383,13⟩), (8, "flags", ⟨383,15,383,20⟩)] 0 ⟨383,8,383,20⟩ (.call 289 "_law_drawn_set" ⟨383,23,383,37⟩ (.cons (.var 0 "feed" ⟨383,38,383,42⟩) .nil) ⟨383,23,383,43⟩) ⟨383,8,383,43⟩)
  (.cons (.ret (.tup (.cons (.str "edge" 0 ⟨384,16,384,22⟩) (.cons (.var 7 "signs" ⟨384,24,384,29⟩) (.cons (.var 8 "flags" ⟨384,31,384,36⟩) .nil))) 0 ⟨384,15,384,37⟩) ⟨384,8,384,37⟩)
  .nil))) .nil ⟨379,4,384,37⟩)
  (.cons (.asgT [(7, "signs", ⟨385,4,385,9⟩), (8, "flags", ⟨385,11,385,16⟩)] 0 ⟨385,4,385,16⟩ (.call 296 "_law_single" ⟨385,19,385,30⟩ (.cons (.var 0 "feed" ⟨385,31,385,35⟩) .nil) ⟨385,19,385,36⟩) ⟨385,4,385,36⟩)
  (.cons (.ret (.tup (.cons (.str "one" 0 ⟨386,12,386,17⟩) (.cons (.var 7 "signs" ⟨386,19,386,24⟩) (.cons (.var 8 "flags" ⟨386,26,386,31⟩) (.cons (.call 258 "_law_draw" ⟨386,33,386,42⟩ (.cons (.var 0 "feed" ⟨386,43,386,47⟩) (.cons (.int 5 0 ⟨386,49,386,50⟩) .nil)) ⟨386,33,386,51⟩) .nil)))) 0 ⟨386,11,386,52⟩) ⟨386,4,386,52⟩)
  .nil)))))))
noncomputable def f_law_shut_s : Scope := { kind := .function, names := [("held", .local), ("last", .local), ("len", .globalImplicit)], isGenerator := false, isCoroutine := false, more := [] }
@[reducible] noncomputable def f_law_shut : Ss := (.cons (.asg 1 "last" ⟨388,4,388,8⟩ (.bin .Sub false (.bin .Sub false (.bi .len ⟨388,11,388,14⟩ (.cons (.var 0 "held" ⟨388,15,388,19⟩) .nil) ⟨388,11,388,20⟩) (.int 1 0 ⟨388,23,388,24⟩) ⟨388,11,388,24⟩) (.bm .index (.rev (.var 0 "held" ⟨388,27,388,31⟩) ⟨388,35,388,36⟩ ⟨388,34,388,36⟩ ⟨0,0,0,0⟩ ⟨388,32,388,36⟩ ⟨388,27,388,37⟩) ⟨388,27,388,43⟩ (.cons (.bool false 0 ⟨388,44,388,49⟩) .nil) ⟨388,27,388,50⟩) ⟨388,11,388,50⟩) ⟨388,4,388,50⟩)
  (.cons (.ret (.bin .Add false (.bin .Add false (.slc (.var 0 "held" ⟨389,11,389,15⟩) .none (.some (.var 1 "last" ⟨389,17,389,21⟩)) ⟨389,16,389,21⟩ ⟨389,11,389,22⟩) (.list false (.cons (.bool true 0 ⟨389,26,389,30⟩) .nil) ⟨389,25,389,31⟩) ⟨389,11,389,31⟩) (.slc (.var 0 "held" ⟨389,34,389,38⟩) (.some (.bin .Add false (.var 1 "last" ⟨389,39,389,43⟩) (.int 1 0 ⟨389,46,389,47⟩) ⟨389,39,389,47⟩)) .none ⟨389,39,389,48⟩ ⟨389,34,389,49⟩) ⟨389,11,389,49⟩) ⟨389,4,389,49⟩)
  .nil))
noncomputable def f_law_parts_s : Scope := { kind := .function, names := [("feed", .local), ("found", .local), ("held", .local), ("turn", .local), ("part", .local), ("range", .globalImplicit), ("_law_draw", .globalImplicit), ("_law_part", .globalImplicit), ("_law_flags", .globalImplicit), ("_law_shut", .globalImplicit)], isGenerator := false, isCoroutine := false, more := [] }
@[reducible] noncomputable def f_law_parts : Ss := (.cons (.asgT [(1, "found", ⟨391,4,391,9⟩), (2, "held", ⟨391,11,391,15⟩)] 0 ⟨391,4,391,15⟩ (.tup (.cons (.list true .nil ⟨391,19,391,21⟩) (.cons (.list false .nil ⟨391,23,391,25⟩) .nil)) 0 ⟨391,18,391,26⟩) ⟨391,4,391,26⟩)
  (.cons (.loop 3 "turn" ⟨392,8,392,12⟩ (.bi .range ⟨392,16,392,21⟩ (.cons (.call 258 "_law_draw" ⟨392,22,392,31⟩ (.cons (.var 0 "feed" ⟨392,32,392,36⟩) (.cons (.int 5 0 ⟨392,38,392,39⟩) .nil)) ⟨392,22,392,40⟩) .nil) ⟨392,16,392,41⟩) (.cons (.asg 4 "part" ⟨393,8,393,12⟩ (.call 301 "_law_part" ⟨393,15,393,24⟩ (.cons (.var 0 "feed" ⟨393,25,393,29⟩) (.cons (.var 2 "held" ⟨393,31,393,35⟩) .nil)) ⟨393,15,393,36⟩) ⟨393,8,393,36⟩)
  (.cons (.ite (.bop .And (.cons (.cmp1 .Eq (.idx (.var 4 "part" ⟨394,11,394,15⟩) (.int 0 0 ⟨394,16,394,17⟩) ⟨394,11,394,18⟩) (.str "close" 0 ⟨394,22,394,29⟩) ⟨394,11,394,29⟩) (.cons (.cmp1 .Eq (.idx (.idx (.var 1 "found" ⟨394,34,394,39⟩) (.neg 1 0 ⟨394,41,394,42⟩ ⟨394,40,394,42⟩) ⟨394,34,394,43⟩) (.int 0 0 ⟨394,44,394,45⟩) ⟨394,34,394,46⟩) (.str "open" 0 ⟨394,50,394,56⟩) ⟨394,34,394,56⟩) .nil)) ⟨394,11,394,56⟩) (.cons (.exp (.bm .append (.var 1 "found" ⟨395,12,395,17⟩) ⟨395,12,395,24⟩ (.cons (.tup (.cons (.str "one" 0 ⟨395,26,395,31⟩) (.cons (.list false (.cons (.int 97 0 ⟨395,34,395,36⟩) .nil) ⟨395,33,395,37⟩) (.cons (.call 263 "_law_flags" ⟨395,39,395,49⟩ (.cons (.list false (.cons (.tup (.cons (.int 97 0 ⟨395,52,395,54⟩) (.cons (.int 97 0 ⟨395,56,395,58⟩) .nil)) 0 ⟨395,51,395,59⟩) .nil) ⟨395,50,395,60⟩) .nil) ⟨395,39,395,61⟩) (.cons (.int 4 0 ⟨395,63,395,64⟩) .nil)))) 0 ⟨395,25,395,65⟩) .nil) ⟨395,12,395,66⟩) ⟨395,12,395,66⟩)
  .nil) .nil ⟨394,8,395,66⟩)
  (.cons (.exp (.bm .append (.var 1 "found" ⟨396,8,396,13⟩) ⟨396,8,396,20⟩ (.cons (.var 4 "part" ⟨396,21,396,25⟩) .nil) ⟨396,8,396,26⟩) ⟨396,8,396,26⟩)
  (.cons (.ite (.bop .Or (.cons (.cmp1 .Eq (.idx (.var 4 "part" ⟨397,11,397,15⟩) (.int 0 0 ⟨397,16,397,17⟩) ⟨397,11,397,18⟩) (.str "open" 0 ⟨397,22,397,28⟩) ⟨397,11,397,28⟩) (.cons (.cmp1 .Eq (.idx (.var 4 "part" ⟨397,32,397,36⟩) (.int 0 0 ⟨397,37,397,38⟩) ⟨397,32,397,39⟩) (.str "spot" 0 ⟨397,43,397,49⟩) ⟨397,32,397,49⟩) .nil)) ⟨397,11,397,49⟩) (.cons (.asg 2 "held" ⟨398,12,398,16⟩ (.bin .Add false (.var 2 "held" ⟨398,19,398,23⟩) (.list false (.cons (.cmp1 .Eq (.idx (.var 4 "part" ⟨398,27,398,31⟩) (.int 0 0 ⟨398,32,398,33⟩) ⟨398,27,398,34⟩) (.str "spot" 0 ⟨398,38,398,44⟩) ⟨398,27,398,44⟩) .nil) ⟨398,26,398,45⟩) ⟨398,19,398,45⟩) ⟨398,12,398,45⟩)
  .nil) .nil ⟨397,8,398,45⟩)
  (.cons (.ite (.cmp1 .Eq (.idx (.var 4 "part" ⟨399,11,399,15⟩) (.int 0 0 ⟨399,16,399,17⟩) ⟨399,11,399,18⟩) (.str "close" 0 ⟨399,22,399,29⟩) ⟨399,11,399,29⟩) (.cons (.asg 2 "held" ⟨400,12,400,16⟩ (.call 308 "_law_shut" ⟨400,19,400,28⟩ (.cons (.var 2 "held" ⟨400,29,400,33⟩) .nil) ⟨400,19,400,34⟩) ⟨400,12,400,34⟩)
  .nil) .nil ⟨399,8,400,34⟩)
  .nil))))) ⟨392,4,400,34⟩)
  (.cons (.whl (.cmp1 .In (.bool false 0 ⟨401,10,401,15⟩) (.var 2 "held" ⟨401,19,401,23⟩) ⟨401,10,401,23⟩) (.cons (.asg 1 "found" ⟨402,8,402,13⟩ (.bin .Add false (.bin .Add false (.var 1 "found" ⟨402,16,402,21⟩) (.ite (.cmp1 .Eq (.idx (.idx (.var 1 "found" ⟨402,71,402,76⟩) (.neg 1 0 ⟨402,78,402,79⟩ ⟨402,77,402,79⟩) ⟨402,71,402,80⟩) (.int 0 0 ⟨402,81,402,82⟩) ⟨402,71,402,83⟩) (.str "open" 0 ⟨402,87,402,93⟩) ⟨402,71,402,93⟩) (.list false (.cons (.tup (.cons (.str "one" 0 ⟨402,27,402,32⟩) (.cons (.list false (.cons (.int 98 0 ⟨402,35,402,37⟩) .nil) ⟨402,34,402,38⟩) (.cons (.call 263 "_law_flags" ⟨402,40,402,50⟩ (.cons (.list false (.cons (.tup (.cons (.int 98 0 ⟨402,53,402,55⟩) (.cons (.int 98 0 ⟨402,57,402,59⟩) .nil)) 0 ⟨402,52,402,60⟩) .nil) ⟨402,51,402,61⟩) .nil) ⟨402,40,402,62⟩) (.cons (.int 4 0 ⟨402,64,402,65⟩) .nil)))) 0 ⟨402,26,402,66⟩) .nil) ⟨402,25,402,67⟩) (.list false .nil ⟨402,99,402,101⟩) ⟨402,25,402,101⟩) ⟨402,16,402,102⟩) (.list false (.cons (.tup (.cons (.str "close" 0 ⟨402,107,402,114⟩) .nil) 0 ⟨402,106,402,116⟩) .nil) ⟨402,105,402,117⟩) ⟨402,16,402,117⟩) ⟨402,8,402,117⟩)
  (.cons (.asg 2 "held" ⟨403,8,403,12⟩ (.call 308 "_law_shut" ⟨403,15,403,24⟩ (.cons (.var 2 "held" ⟨403,25,403,29⟩) .nil) ⟨403,15,403,30⟩) ⟨403,8,403,30⟩)
  .nil)) ⟨401,4,403,30⟩)
  (.cons (.ret (.bin .Add false (.var 1 "found" ⟨404,11,404,16⟩) (.ite (.cmp1 .Eq (.call 258 "_law_draw" ⟨404,35,404,44⟩ (.cons (.var 0 "feed" ⟨404,45,404,49⟩) (.cons (.int 4 0 ⟨404,51,404,52⟩) .nil)) ⟨404,35,404,53⟩) (.int 0 0 ⟨404,57,404,58⟩) ⟨404,35,404,58⟩) (.list false (.cons (.tup (.cons (.str "stop" 0 ⟨404,22,404,28⟩) .nil) 0 ⟨404,21,404,30⟩) .nil) ⟨404,20,404,31⟩) (.list false .nil ⟨404,64,404,66⟩) ⟨404,20,404,66⟩) ⟨404,11,404,67⟩) ⟨404,4,404,67⟩)
  .nil))))
noncomputable def f_law_signs_s : Scope := { kind := .function, names := [("parts", .local), ("found", .local), ("part", .local)], isGenerator := false, isCoroutine := false, more := [] }
@[reducible] noncomputable def f_law_signs : Ss := (.cons (.asg 1 "found" ⟨406,4,406,9⟩ (.list false .nil ⟨406,12,406,14⟩) ⟨406,4,406,14⟩)
  (.cons (.loop 2 "part" ⟨407,8,407,12⟩ (.var 0 "parts" ⟨407,16,407,21⟩) (.cons (.ite (.cmp1 .Eq (.idx (.var 2 "part" ⟨408,11,408,15⟩) (.int 0 0 ⟨408,16,408,17⟩) ⟨408,11,408,18⟩) (.str "one" 0 ⟨408,22,408,27⟩) ⟨408,11,408,27⟩) (.cons (.asg 1 "found" ⟨409,12,409,17⟩ (.bin .Add false (.bin .Add false (.var 1 "found" ⟨409,20,409,25⟩) (.idx (.var 2 "part" ⟨409,28,409,32⟩) (.int 1 0 ⟨409,33,409,34⟩) ⟨409,28,409,35⟩) ⟨409,20,409,35⟩) (.idx (.list false (.cons (.list false .nil ⟨409,39,409,41⟩) (.cons (.list false (.cons (.int 42 0 ⟨409,44,409,46⟩) .nil) ⟨409,43,409,47⟩) (.cons (.list false (.cons (.int 43 0 ⟨409,50,409,52⟩) .nil) ⟨409,49,409,53⟩) (.cons (.list false (.cons (.int 45 0 ⟨409,56,409,58⟩) .nil) ⟨409,55,409,59⟩) (.cons (.list false (.cons (.int 63 0 ⟨409,62,409,64⟩) .nil) ⟨409,61,409,65⟩) .nil))))) ⟨409,38,409,66⟩) (.idx (.var 2 "part" ⟨409,67,409,71⟩) (.int 3 0 ⟨409,72,409,73⟩) ⟨409,67,409,74⟩) ⟨409,38,409,75⟩) ⟨409,20,409,75⟩) ⟨409,12,409,75⟩)
  .nil) (.cons (.ite (.cmp1 .Eq (.idx (.var 2 "part" ⟨410,13,410,17⟩) (.int 0 0 ⟨410,18,410,19⟩) ⟨410,13,410,20⟩) (.str "open" 0 ⟨410,24,410,30⟩) ⟨410,13,410,30⟩) (.cons (.asg 1 "found" ⟨411,12,411,17⟩ (.bin .Add false (.var 1 "found" ⟨411,20,411,25⟩) (.list false (.cons (.int 40 0 ⟨411,29,411,31⟩) .nil) ⟨411,28,411,32⟩) ⟨411,20,411,32⟩) ⟨411,12,411,32⟩)
  .nil) (.cons (.ite (.cmp1 .Eq (.idx (.var 2 "part" ⟨412,13,412,17⟩) (.int 0 0 ⟨412,18,412,19⟩) ⟨412,13,412,20⟩) (.str "close" 0 ⟨412,24,412,31⟩) ⟨412,13,412,31⟩) (.cons (.asg 1 "found" ⟨413,12,413,17⟩ (.bin .Add false (.var 1 "found" ⟨413,20,413,25⟩) (.list false (.cons (.int 41 0 ⟨413,29,413,31⟩) .nil) ⟨413,28,413,32⟩) ⟨413,20,413,32⟩) ⟨413,12,413,32⟩)
  .nil) (.cons (.ite (.cmp1 .Eq (.idx (.var 2 "part" ⟨414,13,414,17⟩) (.int 0 0 ⟨414,18,414,19⟩) ⟨414,13,414,20⟩) (.str "spot" 0 ⟨414,24,414,30⟩) ⟨414,13,414,30⟩) (.cons (.asg 1 "found" ⟨415,12,415,17⟩ (.bin .Add false (.var 1 "found" ⟨415,20,415,25⟩) (.list false (.cons (.int 40 0 ⟨415,29,415,31⟩) (.cons (.int 41 0 ⟨415,33,415,35⟩) .nil)) ⟨415,28,415,36⟩) ⟨415,20,415,36⟩) ⟨415,12,415,36⟩)
  .nil) (.cons (.ite (.cmp1 .Eq (.idx (.var 2 "part" ⟨416,13,416,17⟩) (.int 0 0 ⟨416,18,416,19⟩) ⟨416,13,416,20⟩) (.str "again" 0 ⟨416,24,416,31⟩) ⟨416,13,416,31⟩) (.cons (.asg 1 "found" ⟨417,12,417,17⟩ (.bin .Add false (.var 1 "found" ⟨417,20,417,25⟩) (.list false (.cons (.int 37 0 ⟨417,29,417,31⟩) (.cons (.bin .Add false (.int 49 0 ⟨417,33,417,35⟩) (.idx (.var 2 "part" ⟨417,38,417,42⟩) (.int 1 0 ⟨417,43,417,44⟩) ⟨417,38,417,45⟩) ⟨417,33,417,45⟩) .nil)) ⟨417,28,417,46⟩) ⟨417,20,417,46⟩) ⟨417,12,417,46⟩)
  .nil) (.cons (.ite (.cmp1 .Eq (.idx (.var 2 "part" ⟨418,13,418,17⟩) (.int 0 0 ⟨418,18,418,19⟩) ⟨418,13,418,20⟩) (.str "pair" 0 ⟨418,24,418,30⟩) ⟨418,13,418,30⟩) (.cons (.asg 1 "found" ⟨419,12,419,17⟩ (.bin .Add false (.var 1 "found" ⟨419,20,419,25⟩) (.list false (.cons (.int 37 0 ⟨419,29,419,31⟩) (.cons (.int 98 0 ⟨419,33,419,35⟩) (.cons (.idx (.var 2 "part" ⟨419,37,419,41⟩) (.int 1 0 ⟨419,42,419,43⟩) ⟨419,37,419,44⟩) (.cons (.idx (.var 2 "part" ⟨419,46,419,50⟩) (.int 2 0 ⟨419,51,419,52⟩) ⟨419,46,419,53⟩) .nil)))) ⟨419,28,419,54⟩) ⟨419,20,419,54⟩) ⟨419,12,419,54⟩)
  .nil) (.cons (.ite (.cmp1 .Eq (.idx (.var 2 "part" ⟨420,13,420,17⟩) (.int 0 0 ⟨420,18,420,19⟩) ⟨420,13,420,20⟩) (.str "edge" 0 ⟨420,24,420,30⟩) ⟨420,13,420,30⟩) (.cons (.asg 1 "found" ⟨421,12,421,17⟩ (.bin .Add false (.bin .Add false (.var 1 "found" ⟨421,20,421,25⟩) (.list false (.cons (.int 37 0 ⟨421,29,421,31⟩) (.cons (.int 102 0 ⟨421,33,421,36⟩) .nil)) ⟨421,28,421,37⟩) ⟨421,20,421,37⟩) (.idx (.var 2 "part" ⟨421,40,421,44⟩) (.int 1 0 ⟨421,45,421,46⟩) ⟨421,40,421,47⟩) ⟨421,20,421,47⟩) ⟨421,12,421,47⟩)
  .nil) (.cons (.asg 1 "found" ⟨423,12,423,17⟩ (.bin .Add false (.var 1 "found" ⟨423,20,423,25⟩) (.list false (.cons (.int 36 0 ⟨423,29,423,31⟩) .nil) ⟨423,28,423,32⟩) ⟨423,20,423,32⟩) ⟨423,12,423,32⟩)
  .nil) ⟨420,8,423,32⟩)
  .nil) ⟨418,8,423,32⟩)
  .nil) ⟨416,8,423,32⟩)
  .nil) ⟨414,8,423,32⟩)
  .nil) ⟨412,8,423,32⟩)
  .nil) ⟨410,8,423,32⟩)
  .nil) ⟨408,8,423,32⟩)
  .nil) ⟨407,4,423,32⟩)
  (.cons (.ret (.var 1 "found" ⟨424,11,424,16⟩) ⟨424,4,424,16⟩)
  .nil)))
noncomputable def f_law_counts_s : Scope := { kind := .function, names := [("part", .local), ("text", .local), ("s", .local), ("many", .local), ("len", .globalImplicit), ("list", .globalImplicit), ("range", .globalImplicit)], isGenerator := false, isCoroutine := false, more := [] }
@[reducible] noncomputable def f_law_counts : Ss := (.cons (.asg 3 "many" ⟨426,4,426,8⟩ (.int 0 0 ⟨426,11,426,12⟩) ⟨426,4,426,12⟩)
  (.cons (.whl (.bop .And (.cons (.cmp1 .Lt (.bin .Add false (.var 2 "s" ⟨427,10,427,11⟩) (.var 3 "many" ⟨427,14,427,18⟩) ⟨427,10,427,18⟩) (.bi .len ⟨427,21,427,24⟩ (.cons (.var 1 "text" ⟨427,25,427,29⟩) .nil) ⟨427,21,427,30⟩) ⟨427,10,427,30⟩) (.cons (.cmp1 .In (.idx (.var 1 "text" ⟨427,35,427,39⟩) (.bin .Add false (.var 2 "s" ⟨427,40,427,41⟩) (.var 3 "many" ⟨427,44,427,48⟩) ⟨427,40,427,48⟩) ⟨427,35,427,49⟩) (.idx (.var 0 "part" ⟨427,53,427,57⟩) (.int 2 0 ⟨427,58,427,59⟩) ⟨427,53,427,60⟩) ⟨427,35,427,60⟩) .nil)) ⟨427,10,427,60⟩) (.cons (.asg 3 "many" ⟨428,8,428,12⟩ (.bin .Add false (.var 3 "many" ⟨428,15,428,19⟩) (.int 1 0 ⟨428,22,428,23⟩) ⟨428,15,428,23⟩) ⟨428,8,428,23⟩)
  .nil) ⟨427,4,428,23⟩)
  (.cons (.ite (.cmp1 .Eq (.idx (.var 0 "part" ⟨429,7,429,11⟩) (.int 3 0 ⟨429,12,429,13⟩) ⟨429,7,429,14⟩) (.int 0 0 ⟨429,18,429,19⟩) ⟨429,7,429,19⟩) (.cons (.ret (.ite (.cmp1 .Gt (.var 3 "many" ⟨430,22,430,26⟩) (.int 0 0 ⟨430,29,430,30⟩) ⟨430,22,430,30⟩) (.list false (.cons (.int 1 0 ⟨430,16,430,17⟩) .nil) ⟨430,15,430,18⟩) (.list false .nil ⟨430,36,430,38⟩) ⟨430,15,430,38⟩) ⟨430,8,430,38⟩)
  .nil) .nil ⟨429,4,430,38⟩)
  (.cons (.ite (.cmp1 .Eq (.idx (.var 0 "part" ⟨431,7,431,11⟩) (.int 3 0 ⟨431,12,431,13⟩) ⟨431,7,431,14⟩) (.int 1 0 ⟨431,18,431,19⟩) ⟨431,7,431,19⟩) (.cons (.ret (.bi .list ⟨432,15,432,19⟩ (.cons (.bi .range ⟨432,20,432,25⟩ (.cons (.var 3 "many" ⟨432,26,432,30⟩) (.cons (.neg 1 0 ⟨432,33,432,34⟩ ⟨432,32,432,34⟩) (.cons (.neg 1 0 ⟨432,37,432,38⟩ ⟨432,36,432,38⟩) .nil))) ⟨432,20,432,39⟩) .nil) ⟨432,15,432,40⟩) ⟨432,8,432,40⟩)
  .nil) .nil ⟨431,4,432,40⟩)
  (.cons (.ite (.cmp1 .Eq (.idx (.var 0 "part" ⟨433,7,433,11⟩) (.int 3 0 ⟨433,12,433,13⟩) ⟨433,7,433,14⟩) (.int 2 0 ⟨433,18,433,19⟩) ⟨433,7,433,19⟩) (.cons (.ret (.bi .list ⟨434,15,434,19⟩ (.cons (.bi .range ⟨434,20,434,25⟩ (.cons (.var 3 "many" ⟨434,26,434,30⟩) (.cons (.int 0 0 ⟨434,32,434,33⟩) (.cons (.neg 1 0 ⟨434,36,434,37⟩ ⟨434,35,434,37⟩) .nil))) ⟨434,20,434,38⟩) .nil) ⟨434,15,434,39⟩) ⟨434,8,434,39⟩)
  .nil) .nil ⟨433,4,434,39⟩)
  (.cons (.ite (.cmp1 .Eq (.idx (.var 0 "part" ⟨435,7,435,11⟩) (.int 3 0 ⟨435,12,435,13⟩) ⟨435,7,435,14⟩) (.int 3 0 ⟨435,18,435,19⟩) ⟨435,7,435,19⟩) (.cons (.ret (.bi .list ⟨436,15,436,19⟩ (.cons (.bi .range ⟨436,20,436,25⟩ (.cons (.bin .Add false (.var 3 "many" ⟨436,26,436,30⟩) (.int 1 0 ⟨436,33,436,34⟩) ⟨436,26,436,34⟩) .nil) ⟨436,20,436,35⟩) .nil) ⟨436,15,436,36⟩) ⟨436,8,436,36⟩)
  .nil) .nil ⟨435,4,436,36⟩)
  (.cons (.ret (.ite (.cmp1 .Gt (.var 3 "many" ⟨437,21,437,25⟩) (.int 0 0 ⟨437,28,437,29⟩) ⟨437,21,437,29⟩) (.list false (.cons (.int 1 0 ⟨437,12,437,13⟩) (.cons (.int 0 0 ⟨437,15,437,16⟩) .nil)) ⟨437,11,437,17⟩) (.list false (.cons (.int 0 0 ⟨437,36,437,37⟩) .nil) ⟨437,35,437,38⟩) ⟨437,11,437,38⟩) ⟨437,4,437,38⟩)
  .nil)))))))
noncomputable def f_law_balanced_s : Scope := { kind := .function, names := [("text", .local), ("s", .local), ("begin", .local), ("end", .local), ("deep", .local), ("place", .local), ("len", .globalImplicit), ("range", .globalImplicit)], isGenerator := false, isCoroutine := false, more := [] }
@[reducible] noncomputable def f_law_balanced : Ss := (.cons (.ite (.bop .Or (.cons (.cmp1 .GtE (.var 1 "s" ⟨439,7,439,8⟩) (.bi .len ⟨439,12,439,15⟩ (.cons (.var 0 "text" ⟨439,16,439,20⟩) .nil) ⟨439,12,439,21⟩) ⟨439,7,439,21⟩) (.cons (.cmp1 .NotEq (.idx (.var 0 "text" ⟨439,25,439,29⟩) (.var 1 "s" ⟨439,30,439,31⟩) ⟨439,25,439,32⟩) (.var 2 "begin" ⟨439,36,439,41⟩) ⟨439,25,439,41⟩) .nil)) ⟨439,7,439,41⟩) (.cons (.ret (.nil 0 ⟨440,15,440,19⟩) ⟨440,8,440,19⟩)
  .nil) .nil ⟨439,4,440,19⟩)
  (.cons (.asg 4 "deep" ⟨441,4,441,8⟩ (.int 1 0 ⟨441,11,441,12⟩) ⟨441,4,441,12⟩)
  (.cons (.loop 5 "place" ⟨442,8,442,13⟩ (.bi .range ⟨442,17,442,22⟩ (.cons (.bin .Add false (.var 1 "s" ⟨442,23,442,24⟩) (.int 1 0 ⟨442,27,442,28⟩) ⟨442,23,442,28⟩) (.cons (.bi .len ⟨442,30,442,33⟩ (.cons (.var 0 "text" ⟨442,34,442,38⟩) .nil) ⟨442,30,442,39⟩) .nil)) ⟨442,17,442,40⟩) (.cons (.ite (.cmp1 .Eq (.idx (.var 0 "text" ⟨443,11,443,15⟩) (.var 5 "place" ⟨443,16,443,21⟩) ⟨443,11,443,22⟩) (.var 3 "end" ⟨443,26,443,29⟩) ⟨443,11,443,29⟩) (.cons (.asg 4 "deep" ⟨444,12,444,16⟩ (.bin .Sub false (.var 4 "deep" ⟨444,19,444,23⟩) (.int 1 0 ⟨444,26,444,27⟩) ⟨444,19,444,27⟩) ⟨444,12,444,27⟩)
  .nil) (.cons (.ite (.cmp1 .Eq (.idx (.var 0 "text" ⟨445,13,445,17⟩) (.var 5 "place" ⟨445,18,445,23⟩) ⟨445,13,445,24⟩) (.var 2 "begin" ⟨445,28,445,33⟩) ⟨445,13,445,33⟩) (.cons (.asg 4 "deep" ⟨446,12,446,16⟩ (.bin .Add false (.var 4 "deep" ⟨446,19,446,23⟩) (.int 1 0 ⟨446,26,446,27⟩) ⟨446,19,446,27⟩) ⟨446,12,446,27⟩)
  .nil) .nil ⟨445,8,446,27⟩)
  .nil) ⟨443,8,446,27⟩)
  (.cons (.ite (.cmp1 .Eq (.var 4 "deep" ⟨447,11,447,15⟩) (.int 0 0 ⟨447,19,447,20⟩) ⟨447,11,447,20⟩) (.cons (.ret (.bin .Add false (.var 5 "place" ⟨448,19,448,24⟩) (.int 1 0 ⟨448,27,448,28⟩) ⟨448,19,448,28⟩) ⟨448,12,448,28⟩)
  .nil) .nil ⟨447,8,448,28⟩)
  .nil)) ⟨442,4,448,28⟩)
  (.cons (.ret (.nil 0 ⟨449,11,449,15⟩) ⟨449,4,449,15⟩)
  .nil))))
noncomputable def f_law_repeated_s : Scope := { kind := .function, names := [("text", .local), ("s", .local), ("one", .local)], isGenerator := false, isCoroutine := false, more := [] }
@[reducible] noncomputable def f_law_repeated : Ss := (.cons (.ite (.bop .Or (.cons (.cmp1 .Eq (.idx (.var 2 "one" ⟨451,7,451,10⟩) (.int 1 0 ⟨451,11,451,12⟩) ⟨451,7,451,13⟩) (.str "spot" 0 ⟨451,17,451,23⟩) ⟨451,7,451,23⟩) (.cons (.cmp1 .NotEq (.slc (.var 0 "text" ⟨451,27,451,31⟩) (.some (.idx (.var 2 "one" ⟨451,32,451,35⟩) (.int 0 0 ⟨451,36,451,37⟩) ⟨451,32,451,38⟩)) (.some (.bin .Add false (.idx (.var 2 "one" ⟨451,39,451,42⟩) (.int 0 0 ⟨451,43,451,44⟩) ⟨451,39,451,45⟩) (.idx (.var 2 "one" ⟨451,48,451,51⟩) (.int 1 0 ⟨451,52,451,53⟩) ⟨451,48,451,54⟩) ⟨451,39,451,54⟩)) ⟨451,32,451,54⟩ ⟨451,27,451,55⟩) (.slc (.var 0 "text" ⟨451,59,451,63⟩) (.some (.var 1 "s" ⟨451,64,451,65⟩)) (.some (.bin .Add false (.var 1 "s" ⟨451,66,451,67⟩) (.idx (.var 2 "one" ⟨451,70,451,73⟩) (.int 1 0 ⟨451,74,451,75⟩) ⟨451,70,451,76⟩) ⟨451,66,451,76⟩)) ⟨451,64,451,76⟩ ⟨451,59,451,77⟩) ⟨451,27,451,77⟩) .nil)) ⟨451,7,451,77⟩) (.cons (.ret (.nil 0 ⟨452,15,452,19⟩) ⟨452,8,452,19⟩)
  .nil) .nil ⟨451,4,452,19⟩)
  (.cons (.ret (.bin .Add false (.var 1 "s" ⟨453,11,453,12⟩) (.idx (.var 2 "one" ⟨453,15,453,18⟩) (.int 1 0 ⟨453,19,453,20⟩) ⟨453,15,453,21⟩) ⟨453,11,453,21⟩) ⟨453,4,453,21⟩)
  .nil))
noncomputable def f_law_on_edge_s : Scope := { kind := .function, names := [("text", .local), ("s", .local), ("flags", .local), ("ahead", .local), ("here", .local), ("len", .globalImplicit)], isGenerator := false, isCoroutine := false, more := [] }
@[reducible] noncomputable def f_law_on_edge : Ss := (.cons (.asg 3 "ahead" ⟨455,4,455,9⟩ (.ite (.cmp1 .Eq (.var 1 "s" ⟨455,17,455,18⟩) (.int 0 0 ⟨455,22,455,23⟩) ⟨455,17,455,23⟩) (.int 0 0 ⟨455,12,455,13⟩) (.idx (.var 0 "text" ⟨455,29,455,33⟩) (.bin .Sub false (.var 1 "s" ⟨455,34,455,35⟩) (.int 1 0 ⟨455,38,455,39⟩) ⟨455,34,455,39⟩) ⟨455,29,455,40⟩) ⟨455,12,455,40⟩) ⟨455,4,455,40⟩)
  (.cons (.asg 4 "here" ⟨456,4,456,8⟩ (.ite (.cmp1 .GtE (.var 1 "s" ⟨456,16,456,17⟩) (.bi .len ⟨456,21,456,24⟩ (.cons (.var 0 "text" ⟨456,25,456,29⟩) .nil) ⟨456,21,456,30⟩) ⟨456,16,456,30⟩) (.int 0 0 ⟨456,11,456,12⟩) (.idx (.var 0 "text" ⟨456,36,456,40⟩) (.var 1 "s" ⟨456,41,456,42⟩) ⟨456,36,456,43⟩) ⟨456,11,456,43⟩) ⟨456,4,456,43⟩)
  (.cons (.ret (.bop .And (.cons (.cmp1 .NotIn (.var 3 "ahead" ⟨457,11,457,16⟩) (.var 2 "flags" ⟨457,24,457,29⟩) ⟨457,11,457,29⟩) (.cons (.cmp1 .In (.var 4 "here" ⟨457,34,457,38⟩) (.var 2 "flags" ⟨457,42,457,47⟩) ⟨457,34,457,47⟩) .nil)) ⟨457,11,457,47⟩) ⟨457,4,457,47⟩)
  .nil)))
noncomputable def f_law_closed_s : Scope := { kind := .function, names := [("held", .cell), ("s", .local), ("last", .local), ("range", .globalImplicit), ("len", .globalImplicit)], isGenerator := false, isCoroutine := false, more := [("fast", .str "held"), ("fast", .str "s"), ("fast", .str "number"), ("fast", .str "last")] }
@[reducible] noncomputable def f_law_closed : Ss := (.cons (.asg 2 "last" ⟨459,4,459,8⟩ (.idx (.comp (.var 1 "number" ⟨459,12,459,18⟩) (.some (.cmp1 .Is (.idx (.idx (.var 2 "held" ⟨459,53,459,57⟩) (.var 1 "number" ⟨459,58,459,64⟩) ⟨459,53,459,65⟩) (.int 1 0 ⟨459,66,459,67⟩) ⟨459,53,459,68⟩) (.nil 0 ⟨459,72,459,76⟩) ⟨459,53,459,76⟩)) [(1, "number", ⟨459,23,459,29⟩)] .none (.bi .range ⟨459,33,459,38⟩ (.cons (.bi .len ⟨459,39,459,42⟩ (.cons (.var 0 "held" ⟨459,43,459,47⟩) .nil) ⟨459,39,459,48⟩) .nil) ⟨459,33,459,49⟩) { kind := .function, names := [(".0", .local), ("number", .local), ("held", .free)], isGenerator := false, isCoroutine := false, more := [] } [.none, .none, .some 0] ⟨459,11,459,77⟩) (.neg 1 0 ⟨459,79,459,80⟩ ⟨459,78,459,80⟩) ⟨459,11,459,81⟩) ⟨459,4,459,81⟩)
  (.cons (.ret (.bin .Add false (.bin .Add false (.slc (.var 0 "held" ⟨460,11,460,15⟩) .none (.some (.var 2 "last" ⟨460,17,460,21⟩)) ⟨460,16,460,21⟩ ⟨460,11,460,22⟩) (.list false (.cons (.tup (.cons (.idx (.idx (.var 0 "held" ⟨460,27,460,31⟩) (.var 2 "last" ⟨460,32,460,36⟩) ⟨460,27,460,37⟩) (.int 0 0 ⟨460,38,460,39⟩) ⟨460,27,460,40⟩) (.cons (.bin .Sub false (.var 1 "s" ⟨460,42,460,43⟩) (.idx (.idx (.var 0 "held" ⟨460,46,460,50⟩) (.var 2 "last" ⟨460,51,460,55⟩) ⟨460,46,460,56⟩) (.int 0 0 ⟨460,57,460,58⟩) ⟨460,46,460,59⟩) ⟨460,42,460,59⟩) .nil)) 0 ⟨460,26,460,60⟩) .nil) ⟨460,25,460,61⟩) ⟨460,11,460,61⟩) (.slc (.var 0 "held" ⟨460,64,460,68⟩) (.some (.bin .Add false (.var 2 "last" ⟨460,69,460,73⟩) (.int 1 0 ⟨460,76,460,77⟩) ⟨460,69,460,77⟩)) .none ⟨460,69,460,78⟩ ⟨460,64,460,79⟩) ⟨460,11,460,79⟩) ⟨460,4,460,79⟩)
  .nil))
noncomputable def f_law_go_s : Scope := { kind := .function, names := [("parts", .local), ("at", .local), ("text", .local), ("s", .local), ("held", .local), ("part", .local), ("many", .local), ("found", .local), ("later", .local), ("len", .globalImplicit), ("_law_counts", .globalImplicit), ("_law_go", .globalImplicit), ("_law_closed", .globalImplicit), ("_law_repeated", .globalImplicit), ("_law_balanced", .globalImplicit), ("_law_on_edge", .globalImplicit)], isGenerator := false, isCoroutine := false, more := [] }
@[reducible] noncomputable def f_law_go : Ss := (.cons (.ite (.cmp1 .Eq (.var 1 "at" ⟨462,7,462,9⟩) (.bi .len ⟨462,13,462,16⟩ (.cons (.var 0 "parts" ⟨462,17,462,22⟩) .nil) ⟨462,13,462,23⟩) ⟨462,7,462,23⟩) (.cons (.ret (.tup (.cons (.var 3 "s" ⟨463,16,463,17⟩) (.cons (.var 4 "held" ⟨463,19,463,23⟩) .nil)) 0 ⟨463,15,463,24⟩) ⟨463,8,463,24⟩)
  .nil) .nil ⟨462,4,463,24⟩)
  (.cons (.asg 5 "part" ⟨464,4,464,8⟩ (.idx (.var 0 "parts" ⟨464,11,464,16⟩) (.var 1 "at" ⟨464,17,464,19⟩) ⟨464,11,464,20⟩) ⟨464,4,464,20⟩)
  (.cons (.ite (.cmp1 .Eq (.idx (.var 5 "part" ⟨465,7,465,11⟩) (.int 0 0 ⟨465,12,465,13⟩) ⟨465,7,465,14⟩) (.str "one" 0 ⟨465,18,465,23⟩) ⟨465,7,465,23⟩) (.cons (.loop 6 "many" ⟨466,12,466,16⟩ (.call 329 "_law_counts" ⟨466,20,466,31⟩ (.cons (.var 5 "part" ⟨466,32,466,36⟩) (.cons (.var 2 "text" ⟨466,38,466,42⟩) (.cons (.var 3 "s" ⟨466,44,466,45⟩) .nil))) ⟨466,20,466,46⟩) (.cons (.asg 7 "found" ⟨467,12,467,17⟩ (.call 362 "_law_go" ⟨467,20,467,27⟩ (.cons (.var 0 "parts" ⟨467,28,467,33⟩) (.cons (.bin .Add false (.var 1 "at" ⟨467,35,467,37⟩) (.int 1 0 ⟨467,40,467,41⟩) ⟨467,35,467,41⟩) (.cons (.var 2 "text" ⟨467,43,467,47⟩) (.cons (.bin .Add false (.var 3 "s" ⟨467,49,467,50⟩) (.var 6 "many" ⟨467,53,467,57⟩) ⟨467,49,467,57⟩) (.cons (.var 4 "held" ⟨467,59,467,63⟩) .nil))))) ⟨467,20,467,64⟩) ⟨467,12,467,64⟩)
  (.cons (.ite (.cmp1 .IsNot (.var 7 "found" ⟨468,15,468,20⟩) (.nil 0 ⟨468,28,468,32⟩) ⟨468,15,468,32⟩) (.cons (.ret (.var 7 "found" ⟨469,23,469,28⟩) ⟨469,16,469,28⟩)
  .nil) .nil ⟨468,12,469,28⟩)
  .nil)) ⟨466,8,469,28⟩)
  (.cons (.ret (.nil 0 ⟨470,15,470,19⟩) ⟨470,8,470,19⟩)
  .nil)) .nil ⟨465,4,470,19⟩)
  (.cons (.asg 8 "later" ⟨471,4,471,9⟩ (.var 3 "s" ⟨471,12,471,13⟩) ⟨471,4,471,13⟩)
  (.cons (.ite (.cmp1 .Eq (.idx (.var 5 "part" ⟨472,7,472,11⟩) (.int 0 0 ⟨472,12,472,13⟩) ⟨472,7,472,14⟩) (.str "open" 0 ⟨472,18,472,24⟩) ⟨472,7,472,24⟩) (.cons (.asg 4 "held" ⟨473,8,473,12⟩ (.bin .Add false (.var 4 "held" ⟨473,15,473,19⟩) (.list false (.cons (.tup (.cons (.var 3 "s" ⟨473,24,473,25⟩) (.cons (.nil 0 ⟨473,27,473,31⟩) .nil)) 0 ⟨473,23,473,32⟩) .nil) ⟨473,22,473,33⟩) ⟨473,15,473,33⟩) ⟨473,8,473,33⟩)
  .nil) (.cons (.ite (.cmp1 .Eq (.idx (.var 5 "part" ⟨474,9,474,13⟩) (.int 0 0 ⟨474,14,474,15⟩) ⟨474,9,474,16⟩) (.str "spot" 0 ⟨474,20,474,26⟩) ⟨474,9,474,26⟩) (.cons (.asg 4 "held" ⟨475,8,475,12⟩ (.bin .Add false (.var 4 "held" ⟨475,15,475,19⟩) (.list false (.cons (.tup (.cons (.var 3 "s" ⟨475,24,475,25⟩) (.cons (.str "spot" 0 ⟨475,27,475,33⟩) .nil)) 0 ⟨475,23,475,34⟩) .nil) ⟨475,22,475,35⟩) ⟨475,15,475,35⟩) ⟨475,8,475,35⟩)
  .nil) (.cons (.ite (.cmp1 .Eq (.idx (.var 5 "part" ⟨476,9,476,13⟩) (.int 0 0 ⟨476,14,476,15⟩) ⟨476,9,476,16⟩) (.str "close" 0 ⟨476,20,476,27⟩) ⟨476,9,476,27⟩) (.cons (.asg 4 "held" ⟨477,8,477,12⟩ (.call 355 "_law_closed" ⟨477,15,477,26⟩ (.cons (.var 4 "held" ⟨477,27,477,31⟩) (.cons (.var 3 "s" ⟨477,33,477,34⟩) .nil)) ⟨477,15,477,35⟩) ⟨477,8,477,35⟩)
  .nil) (.cons (.ite (.cmp1 .Eq (.idx (.var 5 "part" ⟨478,9,478,13⟩) (.int 0 0 ⟨478,14,478,15⟩) ⟨478,9,478,16⟩) (.str "again" 0 ⟨478,20,478,27⟩) ⟨478,9,478,27⟩) (.cons (.asg 8 "later" ⟨479,8,479,13⟩ (.call 343 "_law_repeated" ⟨479,16,479,29⟩ (.cons (.var 2 "text" ⟨479,30,479,34⟩) (.cons (.var 3 "s" ⟨479,36,479,37⟩) (.cons (.idx (.var 4 "held" ⟨479,39,479,43⟩) (.idx (.var 5 "part" ⟨479,44,479,48⟩) (.int 1 0 ⟨479,49,479,50⟩) ⟨479,44,479,51⟩) ⟨479,39,479,52⟩) .nil))) ⟨479,16,479,53⟩) ⟨479,8,479,53⟩)
  .nil) (.cons (.ite (.cmp1 .Eq (.idx (.var 5 "part" ⟨480,9,480,13⟩) (.int 0 0 ⟨480,14,480,15⟩) ⟨480,9,480,16⟩) (.str "pair" 0 ⟨480,20,480,26⟩) ⟨480,9,480,26⟩) (.cons (.asg 8 "later" ⟨481,8,481,13⟩ (.call 336 "_law_balanced" ⟨481,16,481,29⟩ (.cons (.var 2 "text" ⟨481,30,481,34⟩) (.cons (.var 3 "s" ⟨481,36,481,37⟩) (.cons (.idx (.var 5 "part" ⟨481,39,481,43⟩) (.int 1 0 ⟨481,44,481,45⟩) ⟨481,39,481,46⟩) (.cons (.idx (.var 5 "part" ⟨481,48,481,52⟩) (.int 2 0 ⟨481,53,481,54⟩) ⟨481,48,481,55⟩) .nil)))) ⟨481,16,481,56⟩) ⟨481,8,481,56⟩)
  .nil) (.cons (.ite (.cmp1 .Eq (.idx (.var 5 "part" ⟨482,9,482,13⟩) (.int 0 0 ⟨482,14,482,15⟩) ⟨482,9,482,16⟩) (.str "edge" 0 ⟨482,20,482,26⟩) ⟨482,9,482,26⟩) (.cons (.asg 8 "later" ⟨483,8,483,13⟩ (.ite (.call 350 "_law_on_edge" ⟨483,21,483,33⟩ (.cons (.var 2 "text" ⟨483,34,483,38⟩) (.cons (.var 3 "s" ⟨483,40,483,41⟩) (.cons (.idx (.var 5 "part" ⟨483,43,483,47⟩) (.int 2 0 ⟨483,48,483,49⟩) ⟨483,43,483,50⟩) .nil))) ⟨483,21,483,51⟩) (.var 3 "s" ⟨483,16,483,17⟩) (.nil 0 ⟨483,57,483,61⟩) ⟨483,16,483,61⟩) ⟨483,8,483,61⟩)
  .nil) (.cons (.asg 8 "later" ⟨485,8,485,13⟩ (.ite (.cmp1 .Eq (.var 3 "s" ⟨485,21,485,22⟩) (.bi .len ⟨485,26,485,29⟩ (.cons (.var 2 "text" ⟨485,30,485,34⟩) .nil) ⟨485,26,485,35⟩) ⟨485,21,485,35⟩) (.var 3 "s" ⟨485,16,485,17⟩) (.nil 0 ⟨485,41,485,45⟩) ⟨485,16,485,45⟩) ⟨485,8,485,45⟩)
  .nil) ⟨482,4,485,45⟩)
  .nil) ⟨480,4,485,45⟩)
  .nil) ⟨478,4,485,45⟩)
  .nil) ⟨476,4,485,45⟩)
  .nil) ⟨474,4,485,45⟩)
  .nil) ⟨472,4,485,45⟩)
  (.cons (.ret (.ite (.cmp1 .Is (.var 8 "later" ⟨486,19,486,24⟩) (.nil 0 ⟨486,28,486,32⟩) ⟨486,19,486,32⟩) (.nil 0 ⟨486,11,486,15⟩) (.call 362 "_law_go" ⟨486,38,486,45⟩ (.cons (.var 0 "parts" ⟨486,46,486,51⟩) (.cons (.bin .Add false (.var 1 "at" ⟨486,53,486,55⟩) (.int 1 0 ⟨486,58,486,59⟩) ⟨486,53,486,59⟩) (.cons (.var 2 "text" ⟨486,61,486,65⟩) (.cons (.var 8 "later" ⟨486,67,486,72⟩) (.cons (.var 4 "held" ⟨486,74,486,78⟩) .nil))))) ⟨486,38,486,79⟩) ⟨486,11,486,79⟩) ⟨486,4,486,79⟩)
  .nil))))))
noncomputable def f_law_told_s : Scope := { kind := .function, names := [("held", .local), ("text", .cell), ("s", .local), ("end", .local)], isGenerator := false, isCoroutine := false, more := [("fast", .str "held"), ("fast", .str "text"), ("fast", .str "s"), ("fast", .str "end"), ("fast", .str "one")] }
@[reducible] noncomputable def f_law_told : Ss := (.cons (.ite (.cmp1 .Eq (.var 0 "held" ⟨488,7,488,11⟩) (.list false .nil ⟨488,15,488,17⟩) ⟨488,7,488,17⟩) (.cons (.ret (.list false (.cons (.slc (.var 1 "text" ⟨489,16,489,20⟩) (.some (.var 2 "s" ⟨489,21,489,22⟩)) (.some (.var 3 "end" ⟨489,23,489,26⟩)) ⟨489,21,489,26⟩ ⟨489,16,489,27⟩) .nil) ⟨489,15,489,28⟩) ⟨489,8,489,28⟩)
  .nil) .nil ⟨488,4,489,28⟩)
  (.cons (.ret (.comp (.ite (.cmp1 .Eq (.idx (.var 1 "one" ⟨490,26,490,29⟩) (.int 1 0 ⟨490,30,490,31⟩) ⟨490,26,490,32⟩) (.str "spot" 0 ⟨490,36,490,42⟩) ⟨490,26,490,42⟩) (.bin .Add false (.idx (.var 1 "one" ⟨490,12,490,15⟩) (.int 0 0 ⟨490,16,490,17⟩) ⟨490,12,490,18⟩) (.int 1 0 ⟨490,21,490,22⟩) ⟨490,12,490,22⟩) (.slc (.var 2 "text" ⟨490,48,490,52⟩) (.some (.idx (.var 1 "one" ⟨490,53,490,56⟩) (.int 0 0 ⟨490,57,490,58⟩) ⟨490,53,490,59⟩)) (.some (.bin .Add false (.idx (.var 1 "one" ⟨490,60,490,63⟩) (.int 0 0 ⟨490,64,490,65⟩) ⟨490,60,490,66⟩) (.idx (.var 1 "one" ⟨490,69,490,72⟩) (.int 1 0 ⟨490,73,490,74⟩) ⟨490,69,490,75⟩) ⟨490,60,490,75⟩)) ⟨490,53,490,75⟩ ⟨490,48,490,76⟩) ⟨490,12,490,76⟩) .none [(1, "one", ⟨490,81,490,84⟩)] .none (.var 0 "held" ⟨490,88,490,92⟩) { kind := .function, names := [(".0", .local), ("one", .local), ("text", .free)], isGenerator := false, isCoroutine := false, more := [] } [.none, .none, .some 1] ⟨490,11,490,93⟩) ⟨490,4,490,93⟩)
  .nil))
noncomputable def f_law_s : Scope := { kind := .function, names := [("script", .local), ("numbers", .local), ("feed", .cell), ("text", .local), ("begin", .local), ("is_bound", .local), ("parts", .local), ("pattern", .local), ("matcher", .local), ("due", .local), ("s", .local), ("found", .local), ("place", .local), ("told", .local), ("bad", .local), ("sum", .globalImplicit), ("bytes", .globalImplicit), ("range", .globalImplicit), ("_law_draw", .globalImplicit), ("len", .globalImplicit), ("_law_parts", .globalImplicit), ("_law_signs", .globalImplicit), ("Matcher", .globalImplicit), ("_law_go", .globalImplicit), ("_law_told", .globalImplicit), ("int", .globalImplicit), ("repr", .globalImplicit), ("_law_refused", .globalImplicit)], isGenerator := false, isCoroutine := false, more := [("fast", .str "script"), ("fast", .str "number"), ("fast", .str "numbers"), ("fast", .str "feed"), ("fast", .str "turn"), ("fast", .str "text"), ("fast", .str "begin"), ("fast", .str "is_bound"), ("fast", .str "parts"), ("fast", .str "pattern"), ("fast", .str "matcher"), ("fast", .str "due"), ("fast", .str "s"), ("fast", .str "found"), ("fast", .str "place"), ("fast", .str "told"), ("fast", .str "bad")] }
@[reducible] noncomputable def f_law : Ss := (.cons (.asgC 1 "numbers" ⟨498,4,498,11⟩ (.comp (.bi .abs ⟨498,15,498,18⟩ (.cons (.var 1 "number" ⟨498,19,498,25⟩) .nil) ⟨498,15,498,26⟩) .none [(1, "number", ⟨498,31,498,37⟩)] .none (.slc (.var 0 "script" ⟨498,41,498,47⟩) .none (.some (.int 24 0 ⟨498,49,498,51⟩)) ⟨498,48,498,51⟩ ⟨498,41,498,52⟩) { kind := .function, names := [(".0", .local), ("number", .local), ("abs", .globalImplicit)], isGenerator := false, isCoroutine := false, more := [] } [.none, .none, .none] ⟨498,14,498,53⟩) ⟨498,4,498,53⟩)
  (.cons (.asg 2 "feed" ⟨499,4,499,8⟩ (.list true (.cons (.var 1 "numbers" ⟨499,12,499,19⟩) (.cons (.int 0 0 ⟨499,21,499,22⟩) (.cons (.bin .Mod false (.bi .sum ⟨499,24,499,27⟩ (.cons (.var 1 "numbers" ⟨499,28,499,35⟩) .nil) ⟨499,24,499,36⟩) (.int 97 0 ⟨499,39,499,41⟩) ⟨499,24,499,41⟩) .nil))) ⟨499,11,499,42⟩) ⟨499,4,499,42⟩)
  (.cons (.asg 3 "text" ⟨500,4,500,8⟩ (.bi .bytes ⟨500,11,500,16⟩ (.cons (.comp (.idx (.known ⟨500,18,500,28⟩) (.call 258 "_law_draw" ⟨500,29,500,38⟩ (.cons (.var 4 "feed" ⟨500,39,500,43⟩) (.cons (.int 14 0 ⟨500,45,500,47⟩) .nil)) ⟨500,29,500,48⟩) ⟨500,18,500,49⟩) .none [(1, "turn", ⟨500,54,500,58⟩)] .none (.bi .range ⟨500,62,500,67⟩ (.cons (.call 258 "_law_draw" ⟨500,68,500,77⟩ (.cons (.var 2 "feed" ⟨500,78,500,82⟩) (.cons (.int 7 0 ⟨500,84,500,85⟩) .nil)) ⟨500,68,500,86⟩) .nil) ⟨500,62,500,87⟩) { kind := .function, names := [(".0", .local), ("turn", .local), ("_law_known", .globalImplicit), ("_law_draw", .globalImplicit), ("feed", .free)], isGenerator := false, isCoroutine := false, more := [] } [.none, .none, .none, .none, .some 2] ⟨500,17,500,88⟩) .nil) ⟨500,11,500,89⟩) ⟨500,4,500,89⟩)
  (.cons (.asgT [(4, "begin", ⟨501,4,501,9⟩), (5, "is_bound", ⟨501,11,501,19⟩)] 0 ⟨501,4,501,19⟩ (.tup (.cons (.call 258 "_law_draw" ⟨501,23,501,32⟩ (.cons (.var 2 "feed" ⟨501,33,501,37⟩) (.cons (.bin .Add false (.bi .len ⟨501,39,501,42⟩ (.cons (.var 3 "text" ⟨501,43,501,47⟩) .nil) ⟨501,39,501,48⟩) (.int 1 0 ⟨501,51,501,52⟩) ⟨501,39,501,52⟩) .nil)) ⟨501,23,501,53⟩) (.cons (.cmp1 .Eq (.call 258 "_law_draw" ⟨501,55,501,64⟩ (.cons (.var 2 "feed" ⟨501,65,501,69⟩) (.cons (.int 4 0 ⟨501,71,501,72⟩) .nil)) ⟨501,55,501,73⟩) (.int 0 0 ⟨501,77,501,78⟩) ⟨501,55,501,78⟩) .nil)) 0 ⟨501,22,501,79⟩) ⟨501,4,501,79⟩)
  (.cons (.asg 6 "parts" ⟨502,4,502,9⟩ (.call 315 "_law_parts" ⟨502,12,502,22⟩ (.cons (.var 2 "feed" ⟨502,23,502,27⟩) .nil) ⟨502,12,502,28⟩) ⟨502,4,502,28⟩)
  (.cons (.asg 7 "pattern" ⟨503,4,503,11⟩ (.bi .bytes ⟨503,14,503,19⟩ (.cons (.bin .Add false (.ite (.var 5 "is_bound" ⟨503,29,503,37⟩) (.list false (.cons (.int 94 0 ⟨503,22,503,24⟩) .nil) ⟨503,21,503,25⟩) (.list false .nil ⟨503,43,503,45⟩) ⟨503,21,503,45⟩) (.call 322 "_law_signs" ⟨503,49,503,59⟩ (.cons (.var 6 "parts" ⟨503,60,503,65⟩) .nil) ⟨503,49,503,66⟩) ⟨503,20,503,66⟩) .nil) ⟨503,14,503,67⟩) ⟨503,4,503,67⟩)
  (.cons (.asgT [(8, "matcher", ⟨504,4,504,11⟩), (9, "due", ⟨504,13,504,16⟩)] 0 ⟨504,4,504,16⟩ (.tup (.cons (.make "Matcher" ⟨504,20,504,27⟩ (.cons (.var 3 "text" ⟨504,28,504,32⟩) (.cons (.var 7 "pattern" ⟨504,34,504,41⟩) .nil)) ⟨504,20,504,42⟩) (.cons (.nil 0 ⟨504,44,504,48⟩) .nil)) 0 ⟨504,19,504,49⟩) ⟨504,4,504,49⟩)
  (.cons (.loop 10 "s" ⟨505,8,505,9⟩ (.bi .range ⟨505,13,505,18⟩ (.cons (.var 4 "begin" ⟨505,19,505,24⟩) (.cons (.ite (.var 5 "is_bound" ⟨505,39,505,47⟩) (.bin .Add false (.var 4 "begin" ⟨505,26,505,31⟩) (.int 1 0 ⟨505,34,505,35⟩) ⟨505,26,505,35⟩) (.bin .Add false (.bi .len ⟨505,53,505,56⟩ (.cons (.var 3 "text" ⟨505,57,505,61⟩) .nil) ⟨505,53,505,62⟩) (.int 1 0 ⟨505,65,505,66⟩) ⟨505,53,505,66⟩) ⟨505,26,505,66⟩) .nil)) ⟨505,13,505,67⟩) (.cons (.ite (.cmp1 .Is (.var 9 "due" ⟨506,11,506,14⟩) (.nil 0 ⟨506,18,506,22⟩) ⟨506,11,506,22⟩) (.cons (.asg 11 "found" ⟨507,12,507,17⟩ (.call 362 "_law_go" ⟨507,20,507,27⟩ (.cons (.var 6 "parts" ⟨507,28,507,33⟩) (.cons (.int 0 0 ⟨507,35,507,36⟩) (.cons (.var 3 "text" ⟨507,38,507,42⟩) (.cons (.var 10 "s" ⟨507,44,507,45⟩) (.cons (.list false .nil ⟨507,47,507,49⟩) .nil))))) ⟨507,20,507,50⟩) ⟨507,12,507,50⟩)
  (.cons (.asg 9 "due" ⟨508,12,508,15⟩ (.ite (.cmp1 .Is (.var 11 "found" ⟨508,26,508,31⟩) (.nil 0 ⟨508,35,508,39⟩) ⟨508,26,508,39⟩) (.nil 0 ⟨508,18,508,22⟩) (.tup (.cons (.var 10 "s" ⟨508,46,508,47⟩) (.cons (.idx (.var 11 "found" ⟨508,49,508,54⟩) (.int 0 0 ⟨508,55,508,56⟩) ⟨508,49,508,57⟩) (.cons (.call 367 "_law_told" ⟨508,59,508,68⟩ (.cons (.idx (.var 11 "found" ⟨508,69,508,74⟩) (.int 1 0 ⟨508,75,508,76⟩) ⟨508,69,508,77⟩) (.cons (.var 3 "text" ⟨508,79,508,83⟩) (.cons (.var 10 "s" ⟨508,85,508,86⟩) (.cons (.idx (.var 11 "found" ⟨508,88,508,93⟩) (.int 0 0 ⟨508,94,508,95⟩) ⟨508,88,508,96⟩) .nil)))) ⟨508,59,508,97⟩) .nil))) 0 ⟨508,45,508,98⟩) ⟨508,18,508,98⟩) ⟨508,12,508,98⟩)
  .nil)) .nil ⟨506,8,508,98⟩)
  .nil) ⟨505,4,508,98⟩)
  (.cons (.asg 12 "place" ⟨509,4,509,9⟩ (.meth 243 "search" (.var 8 "matcher" ⟨509,12,509,19⟩) ⟨509,12,509,26⟩ (.cons (.var 4 "begin" ⟨509,27,509,32⟩) (.cons (.bi .int ⟨509,34,509,37⟩ (.cons (.var 5 "is_bound" ⟨509,38,509,46⟩) .nil) ⟨509,34,509,47⟩) (.cons (.var 5 "is_bound" ⟨509,49,509,57⟩) .nil))) ⟨509,12,509,58⟩) ⟨509,4,509,58⟩)
  (.cons (.asg 13 "told" ⟨510,4,510,8⟩ (.ite (.cmp1 .Is (.var 12 "place" ⟨510,19,510,24⟩) (.nil 0 ⟨510,28,510,32⟩) ⟨510,19,510,32⟩) (.nil 0 ⟨510,11,510,15⟩) (.tup (.cons (.idx (.var 12 "place" ⟨510,39,510,44⟩) (.int 0 0 ⟨510,45,510,46⟩) ⟨510,39,510,47⟩) (.cons (.idx (.var 12 "place" ⟨510,49,510,54⟩) (.int 1 0 ⟨510,55,510,56⟩) ⟨510,49,510,57⟩) (.cons (.meth 236 "captures" (.var 8 "matcher" ⟨510,59,510,66⟩) ⟨510,59,510,75⟩ (.cons (.idx (.var 12 "place" ⟨510,76,510,81⟩) (.int 0 0 ⟨510,82,510,83⟩) ⟨510,76,510,84⟩) (.cons (.idx (.var 12 "place" ⟨510,86,510,91⟩) (.int 1 0 ⟨510,92,510,93⟩) ⟨510,86,510,94⟩) (.cons (.bool true 0 ⟨510,96,510,100⟩) .nil))) ⟨510,59,510,101⟩) .nil))) 0 ⟨510,38,510,102⟩) ⟨510,11,510,102⟩) ⟨510,4,510,102⟩)
  (.cons (.ite (.cmp1 .NotEq (.bi .repr ⟨511,7,511,11⟩ (.cons (.var 13 "told" ⟨511,12,511,16⟩) .nil) ⟨511,7,511,17⟩) (.bi .repr ⟨511,21,511,25⟩ (.cons (.var 9 "due" ⟨511,26,511,29⟩) .nil) ⟨511,21,511,30⟩) ⟨511,7,511,30⟩) (.cons (.ret (.bool false 0 ⟨512,15,512,20⟩) ⟨512,8,512,20⟩)
  .nil) .nil ⟨511,4,512,20⟩)
  (.cons (.asg 14 "bad" ⟨513,4,513,7⟩ (.list false (.cons (.bytes [37] 0 ⟨513,11,513,15⟩) (.cons (.bytes [91,97] 0 ⟨513,17,513,22⟩) (.cons (.bytes [91,94,93] 0 ⟨513,24,513,30⟩) (.cons (.bytes [41] 0 ⟨513,32,513,36⟩) (.cons (.bytes [37,49] 0 ⟨513,38,513,43⟩) (.cons (.bytes [37,102] 0 ⟨513,45,513,50⟩) (.cons (.bytes [37,98,40] 0 ⟨513,52,513,58⟩) (.cons (.bytes [91,37] 0 ⟨513,60,513,65⟩) (.cons (.bytes [40,37] 0 ⟨513,67,513,72⟩) (.cons (.bytes [37,48] 0 ⟨513,74,513,79⟩) .nil)))))))))) ⟨513,10,513,80⟩) ⟨513,4,513,80⟩)
  (.cons (.ret (.call 374 "_law_refused" ⟨514,11,514,23⟩ (.cons (.var 3 "text" ⟨514,24,514,28⟩) (.cons (.idx (.var 14 "bad" ⟨514,30,514,33⟩) (.call 258 "_law_draw" ⟨514,34,514,43⟩ (.cons (.var 2 "feed" ⟨514,44,514,48⟩) (.cons (.int 10 0 ⟨514,50,514,52⟩) .nil)) ⟨514,34,514,53⟩) ⟨514,30,514,54⟩) .nil)) ⟨514,11,514,55⟩) ⟨514,4,514,55⟩)
  .nil)))))))))))))
noncomputable def f_refused_s : Scope := { kind := .function, names := [("text", .local), ("pattern", .local), ("Matcher", .globalImplicit), ("LuaError", .globalImplicit)], isGenerator := false, isCoroutine := false, more := [] }
noncomputable def ref_o : E := .make "Matcher" ⟨493,8,493,15⟩ (.cons (.var 0 "text" ⟨493,16,493,20⟩) (.cons (.var 1 "pattern" ⟨493,22,493,29⟩) .nil)) ⟨493,8,493,30⟩
noncomputable def ref_as : Es := .cons (.int 0 0 ⟨493,38,493,39⟩) (.cons (.int 0 0 ⟨493,41,493,42⟩) (.cons (.bool false 0 ⟨493,44,493,49⟩) .nil))
noncomputable def ref_e : E := .meth 243 "search" ref_o ⟨493,8,493,37⟩ ref_as ⟨493,8,493,50⟩
noncomputable def ref_body : List Stmt := [.Try [.Expr ref_e.ast ⟨493,8,493,50⟩] [.ExceptHandler (some (.Name "LuaError" ⟨494,11,494,19⟩)) none [.Return (some (.Constant (.bool true) 0 ⟨495,15,495,19⟩)) ⟨495,8,495,19⟩] ⟨494,4,495,19⟩] [] [] ⟨492,4,495,19⟩, .Return (some (.Constant (.bool false) 0 ⟨496,11,496,16⟩)) ⟨496,4,496,16⟩]
noncomputable def law_as : Es := .cons (.var 3 "text" ⟨514,24,514,28⟩) (.cons (.idx (.var 14 "bad" ⟨514,30,514,33⟩) (.call 258 "_law_draw" ⟨514,34,514,43⟩ (.cons (.var 2 "feed" ⟨514,44,514,48⟩) (.cons (.int 10 0 ⟨514,50,514,52⟩) .nil)) ⟨514,34,514,53⟩) ⟨514,30,514,54⟩) .nil)
noncomputable def law_last : S := .ret (.call 374 "_law_refused" ⟨514,11,514,23⟩ law_as ⟨514,11,514,55⟩) ⟨514,4,514,55⟩
@[reducible] noncomputable def takeSs (k : Nat) (ss : Ss) : Ss := Nat.rec (motive := fun _ => Ss → Ss) (fun _ => .nil) (fun _ ih ss => Ss.casesOn ss .nil fun s r => .cons s (ih r)) k ss
@[reducible] noncomputable def lawPre : Ss := takeSs 12 f_law
noncomputable def getO (K : Frag) (f : Nat) : Obj := (K.lookup f).getD default
noncomputable def getF? (K : Frag) (f : Nat) : FuncData := match (getO K f).data with | .func fd => fd | _ => default
theorem fnAt_mk {K : Frag} {a : Nat} {ps : List Str} {sc : Scope} {b : Ss} (h1 : K.lookup a = some ⟨(getO K a).cls, (getO K a).dict, .func (getF? K a), (getO K a).slots⟩) (h2 : (getF? K a).scope = sc) (h3 : (getF? K a).body = .stmts b.ast) (h4 : (getF? K a).closure = []) (h5 : (getF? K a).globals = mainGlobals) (h6 : (getF? K a).builtins = builtinsNs) (h7 : codeIn K (getF? K a).code (getF? K a).qualname = true) (h8 : scOk sc ps = true) : FnAt K a ps sc b (getF? K a) := ⟨⟨_, _, _, h1⟩, h2, h3, h4, h5, h6, h7, h8⟩
theorem fnAtL_mk {K : Frag} {a : Nat} {ps : List Str} {sc : Scope} {b : List Stmt} (h1 : K.lookup a = some ⟨(getO K a).cls, (getO K a).dict, .func (getF? K a), (getO K a).slots⟩) (h2 : (getF? K a).scope = sc) (h3 : (getF? K a).body = .stmts b) (h4 : (getF? K a).closure = []) (h5 : (getF? K a).globals = mainGlobals) (h6 : (getF? K a).builtins = builtinsNs) (h7 : codeIn K (getF? K a).code (getF? K a).qualname = true) (h8 : scOk sc ps = true) : FnAtL K a ps sc b (getF? K a) := ⟨⟨_, _, _, h1⟩, h2, h3, h4, h5, h6, h7, h8⟩
/-- what is asked of a def -/
structure FnK (K : Frag) (a : Nat) (ps : List Str) (sc : Scope) (b : Ss) (B : Prop) : Prop where
  d : FnAt K a ps sc b (getF? K a)
  w : b.wf ⟨K, 246⟩ sc = true
  b : B
noncomputable abbrev B1 (K : Frag) (a : Nat) (ps : List Str) : Prop := ∀ v0 : Value, bindArgs (getF? K a) ⟨[v0], []⟩ = pure (ps.zip [v0])
noncomputable abbrev B2 (K : Frag) (a : Nat) (ps : List Str) : Prop := ∀ v0 v1 : Value, bindArgs (getF? K a) ⟨[v0, v1], []⟩ = pure (ps.zip [v0, v1])
noncomputable abbrev B3 (K : Frag) (a : Nat) (ps : List Str) : Prop := ∀ v0 v1 v2 : Value, bindArgs (getF? K a) ⟨[v0, v1, v2], []⟩ = pure (ps.zip [v0, v1, v2])
noncomputable abbrev B4 (K : Frag) (a : Nat) (ps : List Str) : Prop := ∀ v0 v1 v2 v3 : Value, bindArgs (getF? K a) ⟨[v0, v1, v2, v3], []⟩ = pure (ps.zip [v0, v1, v2, v3])
noncomputable abbrev B5 (K : Frag) (a : Nat) (ps : List Str) : Prop := ∀ v0 v1 v2 v3 v4 : Value, bindArgs (getF? K a) ⟨[v0, v1, v2, v3, v4], []⟩ = pure (ps.zip [v0, v1, v2, v3, v4])
/-- what is asked of the written part of the heap -/
structure KF (K : Frag) : Prop where
  f_is_lower_k : FnK K 41 ["c"] f_is_lower_s f_is_lower (B1 K 41 ["c"])
  f_is_upper_k : FnK K 48 ["c"] f_is_upper_s f_is_upper (B1 K 48 ["c"])
  f_is_alpha_k : FnK K 55 ["c"] f_is_alpha_s f_is_alpha (B1 K 55 ["c"])
  f_is_digit_k : FnK K 62 ["c"] f_is_digit_s f_is_digit (B1 K 62 ["c"])
  f_is_space_k : FnK K 69 ["c"] f_is_space_s f_is_space (B1 K 69 ["c"])
  f_is_control_k : FnK K 76 ["c"] f_is_control_s f_is_control (B1 K 76 ["c"])
  f_is_punctuation_k : FnK K 83 ["c"] f_is_punctuation_s f_is_punctuation (B1 K 83 ["c"])
  f_is_hex_k : FnK K 90 ["c"] f_is_hex_s f_is_hex (B1 K 90 ["c"])
  f_in_class_k : FnK K 97 ["c", "letter"] f_in_class_s f_in_class (B2 K 97 ["c", "letter"])
  m_init_k : FnK K 112 ["self", "text", "pattern", "depth"] m_init_s m_init True
  m_reset_k : FnK K 119 ["self"] m_reset_s m_reset (B1 K 119 ["self"])
  m_at_k : FnK K 126 ["self", "p"] m_at_s m_at (B2 K 126 ["self", "p"])
  m_class_end_k : FnK K 133 ["self", "p"] m_class_end_s m_class_end (B2 K 133 ["self", "p"])
  m_in_set_k : FnK K 140 ["self", "c", "p", "last"] m_in_set_s m_in_set (B4 K 140 ["self", "c", "p", "last"])
  m_is_single_k : FnK K 147 ["self", "s", "p", "end"] m_is_single_s m_is_single (B4 K 147 ["self", "s", "p", "end"])
  m_match_k : FnK K 154 ["self", "s", "p"] m_match_s m_match (B3 K 154 ["self", "s", "p"])
  m_match_here_k : FnK K 161 ["self", "s", "p"] m_match_here_s m_match_here (B3 K 161 ["self", "s", "p"])
  m_match_special_k : FnK K 168 ["self", "s", "p", "letter"] m_match_special_s m_match_special (B4 K 168 ["self", "s", "p", "letter"])
  m_match_balance_k : FnK K 175 ["self", "s", "p"] m_match_balance_s m_match_balance (B3 K 175 ["self", "s", "p"])
  m_match_frontier_k : FnK K 182 ["self", "s", "p"] m_match_frontier_s m_match_frontier (B3 K 182 ["self", "s", "p"])
  m_expand_most_k : FnK K 189 ["self", "s", "p", "end"] m_expand_most_s m_expand_most (B4 K 189 ["self", "s", "p", "end"])
  m_expand_least_k : FnK K 196 ["self", "s", "p", "end"] m_expand_least_s m_expand_least (B4 K 196 ["self", "s", "p", "end"])
  m_start_capture_k : FnK K 203 ["self", "s", "p", "kind"] m_start_capture_s m_start_capture (B4 K 203 ["self", "s", "p", "kind"])
  m_end_capture_k : FnK K 210 ["self", "s", "p"] m_end_capture_s m_end_capture (B3 K 210 ["self", "s", "p"])
  m_to_close_k : FnK K 217 ["self"] m_to_close_s m_to_close (B1 K 217 ["self"])
  m_match_capture_k : FnK K 224 ["self", "s", "digit"] m_match_capture_s m_match_capture (B3 K 224 ["self", "s", "digit"])
  m_capture_k : FnK K 231 ["self", "number", "s", "end"] m_capture_s m_capture (B4 K 231 ["self", "number", "s", "end"])
  m_captures_k : FnK K 236 ["self", "s", "end", "is_whole"] m_captures_s m_captures (B4 K 236 ["self", "s", "end", "is_whole"])
  m_search_k : FnK K 243 ["self", "init", "p", "is_anchored"] m_search_s m_search (B4 K 243 ["self", "init", "p", "is_anchored"])
  f_law_draw_k : FnK K 258 ["feed", "many"] f_law_draw_s f_law_draw (B2 K 258 ["feed", "many"])
  f_law_flags_k : FnK K 263 ["pairs"] f_law_flags_s f_law_flags (B1 K 263 ["pairs"])
  f_law_named_k : FnK K 270 ["letter"] f_law_named_s f_law_named (B1 K 270 ["letter"])
  f_law_others_k : FnK K 275 ["flags"] f_law_others_s f_law_others (B1 K 275 ["flags"])
  f_law_drawn_name_k : FnK K 282 ["feed"] f_law_drawn_name_s f_law_drawn_name (B1 K 282 ["feed"])
  f_law_drawn_set_k : FnK K 289 ["feed"] f_law_drawn_set_s f_law_drawn_set (B1 K 289 ["feed"])
  f_law_single_k : FnK K 296 ["feed"] f_law_single_s f_law_single (B1 K 296 ["feed"])
  f_law_part_k : FnK K 301 ["feed", "held"] f_law_part_s f_law_part (B2 K 301 ["feed", "held"])
  f_law_shut_k : FnK K 308 ["held"] f_law_shut_s f_law_shut (B1 K 308 ["held"])
  f_law_parts_k : FnK K 315 ["feed"] f_law_parts_s f_law_parts (B1 K 315 ["feed"])
  f_law_signs_k : FnK K 322 ["parts"] f_law_signs_s f_law_signs (B1 K 322 ["parts"])
  f_law_counts_k : FnK K 329 ["part", "text", "s"] f_law_counts_s f_law_counts (B3 K 329 ["part", "text", "s"])
  f_law_balanced_k : FnK K 336 ["text", "s", "begin", "end"] f_law_balanced_s f_law_balanced (B4 K 336 ["text", "s", "begin", "end"])
  f_law_repeated_k : FnK K 343 ["text", "s", "one"] f_law_repeated_s f_law_repeated (B3 K 343 ["text", "s", "one"])
  f_law_on_edge_k : FnK K 350 ["text", "s", "flags"] f_law_on_edge_s f_law_on_edge (B3 K 350 ["text", "s", "flags"])
  f_law_closed_k : FnK K 355 ["held", "s"] f_law_closed_s f_law_closed (B2 K 355 ["held", "s"])
  f_law_go_k : FnK K 362 ["parts", "at", "text", "s", "held"] f_law_go_s f_law_go (B5 K 362 ["parts", "at", "text", "s", "held"])
  f_law_told_k : FnK K 367 ["held", "text", "s", "end"] f_law_told_s f_law_told (B4 K 367 ["held", "text", "s", "end"])
  f_law_k : FnK K 379 ["script"] f_law_s f_law (B1 K 379 ["script"])
  m_init_o : ∃ (o : Obj) (fd : FuncData), K.lookup 112 = some o ∧ o.data = .func fd ∧ ∃ (o2 : Obj) (items : Array Value) (n : Nat), K.lookup 105 = some o2 ∧ o2.data = .seq items n ∧ fd.defaults = .ref 105 ∧
      ∃ (tk : Tok) (k : Value → Value → Value → Option (Array Value) → Sem (List (Str × Value))), items = #[.int 60 tk] ∧ ∀ v0 v1 v2, bindArgs fd ⟨[v0, v1, v2], []⟩ = seqItems? fd.defaults >>= k v0 v1 v2 ∧ k v0 v1 v2 (some items) = pure ((["self", "text", "pattern", "depth"] : List Str).zip [v0, v1, v2, .int 60 tk])
  m_init_mk : makesIn K 246 = true
  m_init_fi : findIn K (.ref 246) "__init__" = some (some (.ref 112))
  m_init_ty : typeIn K (.ref 112) = some (.type "function")
  f_refused_at : FnAtL K 374 ["text", "pattern"] f_refused_s ref_body (getF? K 374)
  f_refused_b : ∀ v0 v1 : Value, bindArgs (getF? K 374) ⟨[v0, v1], []⟩ = pure ((["text", "pattern"] : List Str).zip [v0, v1])
  ref_w : ∀ {G : Gx}, G.K = K → G.C = 246 → (ref_o.wf G.kc f_refused_s = true ∧ ref_as.wf G.kc f_refused_s = true) ∧ (findIn G.K (.ref G.C) "search" == some (some (.ref 243))) = true ∧ isFn G.K (.ref 243) = true ∧ keepIn G.K (.ref 243) = true ∧ plainGet G.K G.C "search" = true ∧ isGlobal f_refused_s "LuaError" = true
  law_w : ∀ {G : Gx}, G.K = K → G.C = 246 → lawPre.wf G.kc f_law_s = true ∧ isGlobal f_law_s "_law_refused" = true ∧ (nsIn G.K mainGlobals "_law_refused" = some (some (.ref 374))) ∧ keepIn G.K (.ref 374) = true ∧ law_as.wf G.kc f_law_s = true
  kget : ∀ x ∈ fieldNames, plainGet K 246 x = true
  kdict : hasDictIn K 246 = true
  kfind : ∀ x ∈ fieldNames, findIn K (.ref 246) x = some none
  kset : findIn K (.ref 246) "__setattr__" = some (some (.builtin "object.__setattr__"))
  kover : plainOver K 246 = true
  ktake : ∀ x ∈ fieldNames, takerIn K 246 x = some none
  lua_obj : ∃ nm q bs sn sub ab col dd k0 k1 k2 k3 k5, K.lookup 31 = some (excClassObj nm q 31 30 bs [.type "Exception", .type "BaseException", .type "object"] true sn sub ab col dd k0 k1 k2 k3 k5 "Exception.__new__")
  lua_glob : nsIn K mainGlobals "LuaError" = some (some (.ref 31))
  lua_keep : keepIn K (.ref 31) = true
  lua_nsok : nsOkIn K 30 = true
  lua_init : nsIn K 30 "__init__" = some (some (.ref 28))
  lua_sa : nsIn K 30 "__setattr__" = some none
  lua_value : nsIn K 30 "value" = some none
  lua_trace : nsIn K 30 "trace" = some none
  lua_fn : K.lookup 28 = some ⟨.type "function", (getO K 28).dict, .func (getF? K 28), (getO K 28).slots⟩
  lua_scope : (getF? K 28).scope = luaScope
  lua_body : (getF? K 28).body = .stmts luaBody
  lua_closure : (getF? K 28).closure = []
  lua_globals : (getF? K 28).globals = mainGlobals
  lua_builtins : (getF? K 28).builtins = builtinsNs
  lua_code : codeIn K (getF? K 28).code (getF? K 28).qualname = true
  lua_bind : ∀ a b, bindArgs (getF? K 28) ⟨[a, b], []⟩ = pure ([("self", a), ("value", b)] : List (Str × Value))
  law_fa : nsIn K mainGlobals "law" = some (some (.ref 379))
theorem len_s {n : Nat} {vs : List Value} (h : vs.length = n + 1) : ∃ v r, vs = v :: r ∧ r.length = n := by
  cases vs with
  | nil => cases h
  | cons v r => exact ⟨v, r, rfl, Nat.succ.inj h⟩
theorem len_z {vs : List Value} (h : vs.length = 0) : vs = [] := List.eq_nil_of_length_eq_zero h
theorem b_of1 {fd : FuncData} {ps : List Str} (h : ∀ v0 : Value, bindArgs fd ⟨[v0], []⟩ = pure (ps.zip [v0])) (vs : List Value) (h0 : vs.length = 1) : bindArgs fd ⟨vs, []⟩ = pure (ps.zip vs) := by
  obtain ⟨v0, r0, rfl, h1⟩ := len_s h0
  obtain rfl := len_z h1
  exact h v0
theorem b_of2 {fd : FuncData} {ps : List Str} (h : ∀ v0 v1 : Value, bindArgs fd ⟨[v0, v1], []⟩ = pure (ps.zip [v0, v1])) (vs : List Value) (h0 : vs.length = 2) : bindArgs fd ⟨vs, []⟩ = pure (ps.zip vs) := by
  obtain ⟨v0, r0, rfl, h1⟩ := len_s h0
  obtain ⟨v1, r1, rfl, h2⟩ := len_s h1
  obtain rfl := len_z h2
  exact h v0 v1
theorem b_of3 {fd : FuncData} {ps : List Str} (h : ∀ v0 v1 v2 : Value, bindArgs fd ⟨[v0, v1, v2], []⟩ = pure (ps.zip [v0, v1, v2])) (vs : List Value) (h0 : vs.length = 3) : bindArgs fd ⟨vs, []⟩ = pure (ps.zip vs) := by
  obtain ⟨v0, r0, rfl, h1⟩ := len_s h0
  obtain ⟨v1, r1, rfl, h2⟩ := len_s h1
  obtain ⟨v2, r2, rfl, h3⟩ := len_s h2
  obtain rfl := len_z h3
  exact h v0 v1 v2
theorem b_of4 {fd : FuncData} {ps : List Str} (h : ∀ v0 v1 v2 v3 : Value, bindArgs fd ⟨[v0, v1, v2, v3], []⟩ = pure (ps.zip [v0, v1, v2, v3])) (vs : List Value) (h0 : vs.length = 4) : bindArgs fd ⟨vs, []⟩ = pure (ps.zip vs) := by
  obtain ⟨v0, r0, rfl, h1⟩ := len_s h0
  obtain ⟨v1, r1, rfl, h2⟩ := len_s h1
  obtain ⟨v2, r2, rfl, h3⟩ := len_s h2
  obtain ⟨v3, r3, rfl, h4⟩ := len_s h3
  obtain rfl := len_z h4
  exact h v0 v1 v2 v3
theorem b_of5 {fd : FuncData} {ps : List Str} (h : ∀ v0 v1 v2 v3 v4 : Value, bindArgs fd ⟨[v0, v1, v2, v3, v4], []⟩ = pure (ps.zip [v0, v1, v2, v3, v4])) (vs : List Value) (h0 : vs.length = 5) : bindArgs fd ⟨vs, []⟩ = pure (ps.zip vs) := by
  obtain ⟨v0, r0, rfl, h1⟩ := len_s h0
  obtain ⟨v1, r1, rfl, h2⟩ := len_s h1
  obtain ⟨v2, r2, rfl, h3⟩ := len_s h2
  obtain ⟨v3, r3, rfl, h4⟩ := len_s h3
  obtain ⟨v4, r4, rfl, h5⟩ := len_s h4
  obtain rfl := len_z h5
  exact h v0 v1 v2 v3 v4
structure Ax (G : Gx) (P : Params) : Prop where
  F : KF G.K
  hC : G.C = 246
  hS : ∀ ss, SndSs G rpF ss
theorem wf_of {G : Gx} (hC : G.C = 246) {b : Ss} {sc : Scope} (h : b.wf ⟨G.K, 246⟩ sc = true) : b.wf G.kc sc = true := by
  unfold Gx.kc
  rw [hC]
  exact h
section
variable {G : Gx} {P : Params} {n : Nat} {μ : Mu} {Q : D → Mu → Prop} {X : Prop}
theorem Ax.fs (A : Ax G P) {a : Nat} {ps : List Str} {sc : Scope} {b : Ss} {B : Prop} (F : FnK G.K a ps sc b B) (hb : ∀ vs : List Value, vs.length = ps.length → bindArgs (getF? G.K a) ⟨vs, []⟩ = pure (ps.zip vs)) {ds : List D} (hlen : ds.length = ps.length)
    (h : wpSs (FS G n) (MK G n) rpF b (locOf sc ds) μ (retQ Q) X) : FS G (n + 1) a ds μ Q X := FS_intro A.hS F.d hb (wf_of A.hC F.w) hlen h
theorem f_is_lower_c (A : Ax G P) {d0 : D} (h : wpSs (FS G n) (MK G n) rpF f_is_lower [some d0] μ (retQ Q) X) : FS G (n + 1) 41 [d0] μ Q X :=
  A.fs A.F.f_is_lower_k (b_of1 A.F.f_is_lower_k.b) rfl h
theorem f_is_upper_c (A : Ax G P) {d0 : D} (h : wpSs (FS G n) (MK G n) rpF f_is_upper [some d0] μ (retQ Q) X) : FS G (n + 1) 48 [d0] μ Q X :=
  A.fs A.F.f_is_upper_k (b_of1 A.F.f_is_upper_k.b) rfl h
theorem f_is_alpha_c (A : Ax G P) {d0 : D} (h : wpSs (FS G n) (MK G n) rpF f_is_alpha [some d0, none, none] μ (retQ Q) X) : FS G (n + 1) 55 [d0] μ Q X :=
  A.fs A.F.f_is_alpha_k (b_of1 A.F.f_is_alpha_k.b) rfl h
theorem f_is_digit_c (A : Ax G P) {d0 : D} (h : wpSs (FS G n) (MK G n) rpF f_is_digit [some d0] μ (retQ Q) X) : FS G (n + 1) 62 [d0] μ Q X :=
  A.fs A.F.f_is_digit_k (b_of1 A.F.f_is_digit_k.b) rfl h
theorem f_is_space_c (A : Ax G P) {d0 : D} (h : wpSs (FS G n) (MK G n) rpF f_is_space [some d0] μ (retQ Q) X) : FS G (n + 1) 69 [d0] μ Q X :=
  A.fs A.F.f_is_space_k (b_of1 A.F.f_is_space_k.b) rfl h
theorem f_is_control_c (A : Ax G P) {d0 : D} (h : wpSs (FS G n) (MK G n) rpF f_is_control [some d0] μ (retQ Q) X) : FS G (n + 1) 76 [d0] μ Q X :=
  A.fs A.F.f_is_control_k (b_of1 A.F.f_is_control_k.b) rfl h
theorem f_is_punctuation_c (A : Ax G P) {d0 : D} (h : wpSs (FS G n) (MK G n) rpF f_is_punctuation [some d0, none, none] μ (retQ Q) X) : FS G (n + 1) 83 [d0] μ Q X :=
  A.fs A.F.f_is_punctuation_k (b_of1 A.F.f_is_punctuation_k.b) rfl h
theorem f_is_hex_c (A : Ax G P) {d0 : D} (h : wpSs (FS G n) (MK G n) rpF f_is_hex [some d0, none] μ (retQ Q) X) : FS G (n + 1) 90 [d0] μ Q X :=
  A.fs A.F.f_is_hex_k (b_of1 A.F.f_is_hex_k.b) rfl h
theorem f_in_class_c (A : Ax G P) {d0 d1 : D} (h : wpSs (FS G n) (MK G n) rpF f_in_class [some d0, some d1, none, none, none, none, none, none, none, none, none, none] μ (retQ Q) X) : FS G (n + 1) 97 [d0, d1] μ Q X :=
  A.fs A.F.f_in_class_k (b_of2 A.F.f_in_class_k.b) rfl h
theorem m_reset_c (A : Ax G P) {d0 : D} (h : wpSs (FS G n) (MK G n) rpF m_reset [some d0] μ (retQ Q) X) : FS G (n + 1) 119 [d0] μ Q X :=
  A.fs A.F.m_reset_k (b_of1 A.F.m_reset_k.b) rfl h
theorem m_at_c (A : Ax G P) {d0 d1 : D} (h : wpSs (FS G n) (MK G n) rpF m_at [some d0, some d1, none] μ (retQ Q) X) : FS G (n + 1) 126 [d0, d1] μ Q X :=
  A.fs A.F.m_at_k (b_of2 A.F.m_at_k.b) rfl h
theorem m_class_end_c (A : Ax G P) {d0 d1 : D} (h : wpSs (FS G n) (MK G n) rpF m_class_end [some d0, some d1, none, none, none, none, none, none, none, none, none] μ (retQ Q) X) : FS G (n + 1) 133 [d0, d1] μ Q X :=
  A.fs A.F.m_class_end_k (b_of2 A.F.m_class_end_k.b) rfl h
theorem m_in_set_c (A : Ax G P) {d0 d1 d2 d3 : D} (h : wpSs (FS G n) (MK G n) rpF m_in_set [some d0, some d1, some d2, some d3, none, none, none, none, none, none] μ (retQ Q) X) : FS G (n + 1) 140 [d0, d1, d2, d3] μ Q X :=
  A.fs A.F.m_in_set_k (b_of4 A.F.m_in_set_k.b) rfl h
theorem m_is_single_c (A : Ax G P) {d0 d1 d2 d3 : D} (h : wpSs (FS G n) (MK G n) rpF m_is_single [some d0, some d1, some d2, some d3, none, none, none, none, none, none, none] μ (retQ Q) X) : FS G (n + 1) 147 [d0, d1, d2, d3] μ Q X :=
  A.fs A.F.m_is_single_k (b_of4 A.F.m_is_single_k.b) rfl h
theorem m_match_c (A : Ax G P) {d0 d1 d2 : D} (h : wpSs (FS G n) (MK G n) rpF m_match [some d0, some d1, some d2, none, none] μ (retQ Q) X) : FS G (n + 1) 154 [d0, d1, d2] μ Q X :=
  A.fs A.F.m_match_k (b_of3 A.F.m_match_k.b) rfl h
theorem m_match_here_c (A : Ax G P) {d0 d1 d2 : D} (h : wpSs (FS G n) (MK G n) rpF m_match_here [some d0, some d1, some d2, none, none, none, none, none, none, none, none, none, none, none, none, none, none, none, none, none, none] μ (retQ Q) X) : FS G (n + 1) 161 [d0, d1, d2] μ Q X :=
  A.fs A.F.m_match_here_k (b_of3 A.F.m_match_here_k.b) rfl h
theorem m_match_special_c (A : Ax G P) {d0 d1 d2 d3 : D} (h : wpSs (FS G n) (MK G n) rpF m_match_special [some d0, some d1, some d2, some d3] μ (retQ Q) X) : FS G (n + 1) 168 [d0, d1, d2, d3] μ Q X :=
  A.fs A.F.m_match_special_k (b_of4 A.F.m_match_special_k.b) rfl h
theorem m_match_balance_c (A : Ax G P) {d0 d1 d2 : D} (h : wpSs (FS G n) (MK G n) rpF m_match_balance [some d0, some d1, some d2, none, none, none, none, none, none] μ (retQ Q) X) : FS G (n + 1) 175 [d0, d1, d2] μ Q X :=
  A.fs A.F.m_match_balance_k (b_of3 A.F.m_match_balance_k.b) rfl h
theorem m_match_frontier_c (A : Ax G P) {d0 d1 d2 : D} (h : wpSs (FS G n) (MK G n) rpF m_match_frontier [some d0, some d1, some d2, none, none, none, none, none, none] μ (retQ Q) X) : FS G (n + 1) 182 [d0, d1, d2] μ Q X :=
  A.fs A.F.m_match_frontier_k (b_of3 A.F.m_match_frontier_k.b) rfl h
theorem m_expand_most_c (A : Ax G P) {d0 d1 d2 d3 : D} (h : wpSs (FS G n) (MK G n) rpF m_expand_most [some d0, some d1, some d2, some d3, none, none] μ (retQ Q) X) : FS G (n + 1) 189 [d0, d1, d2, d3] μ Q X :=
  A.fs A.F.m_expand_most_k (b_of4 A.F.m_expand_most_k.b) rfl h
theorem m_expand_least_c (A : Ax G P) {d0 d1 d2 d3 : D} (h : wpSs (FS G n) (MK G n) rpF m_expand_least [some d0, some d1, some d2, some d3, none] μ (retQ Q) X) : FS G (n + 1) 196 [d0, d1, d2, d3] μ Q X :=
  A.fs A.F.m_expand_least_k (b_of4 A.F.m_expand_least_k.b) rfl h
theorem m_start_capture_c (A : Ax G P) {d0 d1 d2 d3 : D} (h : wpSs (FS G n) (MK G n) rpF m_start_capture [some d0, some d1, some d2, some d3, none, none, none] μ (retQ Q) X) : FS G (n + 1) 203 [d0, d1, d2, d3] μ Q X :=
  A.fs A.F.m_start_capture_k (b_of4 A.F.m_start_capture_k.b) rfl h
theorem m_end_capture_c (A : Ax G P) {d0 d1 d2 : D} (h : wpSs (FS G n) (MK G n) rpF m_end_capture [some d0, some d1, some d2, none, none, none] μ (retQ Q) X) : FS G (n + 1) 210 [d0, d1, d2] μ Q X :=
  A.fs A.F.m_end_capture_k (b_of3 A.F.m_end_capture_k.b) rfl h
theorem m_to_close_c (A : Ax G P) {d0 : D} (h : wpSs (FS G n) (MK G n) rpF m_to_close [some d0, none, none, none] μ (retQ Q) X) : FS G (n + 1) 217 [d0] μ Q X :=
  A.fs A.F.m_to_close_k (b_of1 A.F.m_to_close_k.b) rfl h
theorem m_match_capture_c (A : Ax G P) {d0 d1 d2 : D} (h : wpSs (FS G n) (MK G n) rpF m_match_capture [some d0, some d1, some d2, none, none, none, none, none, none, none] μ (retQ Q) X) : FS G (n + 1) 224 [d0, d1, d2] μ Q X :=
  A.fs A.F.m_match_capture_k (b_of3 A.F.m_match_capture_k.b) rfl h
theorem m_capture_c (A : Ax G P) {d0 d1 d2 d3 : D} (h : wpSs (FS G n) (MK G n) rpF m_capture [some d0, some d1, some d2, some d3, none, none, none, none, none] μ (retQ Q) X) : FS G (n + 1) 231 [d0, d1, d2, d3] μ Q X :=
  A.fs A.F.m_capture_k (b_of4 A.F.m_capture_k.b) rfl h
theorem m_captures_c (A : Ax G P) {d0 d1 d2 d3 : D} (h : wpSs (FS G n) (MK G n) rpF m_captures [some d0, some d1, some d2, some d3, none, none] μ (retQ Q) X) : FS G (n + 1) 236 [d0, d1, d2, d3] μ Q X :=
  A.fs A.F.m_captures_k (b_of4 A.F.m_captures_k.b) rfl h
theorem m_search_c (A : Ax G P) {d0 d1 d2 d3 : D} (h : wpSs (FS G n) (MK G n) rpF m_search [some d0, some d1, some d2, some d3, none, none, none] μ (retQ Q) X) : FS G (n + 1) 243 [d0, d1, d2, d3] μ Q X :=
  A.fs A.F.m_search_k (b_of4 A.F.m_search_k.b) rfl h
theorem f_law_draw_c (A : Ax G P) {d0 d1 : D} (h : wpSs (FS G n) (MK G n) rpF f_law_draw [some d0, some d1, none] μ (retQ Q) X) : FS G (n + 1) 258 [d0, d1] μ Q X :=
  A.fs A.F.f_law_draw_k (b_of2 A.F.f_law_draw_k.b) rfl h
theorem f_law_flags_c (A : Ax G P) {d0 : D} (h : wpSs (FS G n) (MK G n) rpF f_law_flags [some d0, none] μ (retQ Q) X) : FS G (n + 1) 263 [d0] μ Q X :=
  A.fs A.F.f_law_flags_k (b_of1 A.F.f_law_flags_k.b) rfl h
theorem f_law_named_c (A : Ax G P) {d0 : D} (h : wpSs (FS G n) (MK G n) rpF f_law_named [some d0, none] μ (retQ Q) X) : FS G (n + 1) 270 [d0] μ Q X :=
  A.fs A.F.f_law_named_k (b_of1 A.F.f_law_named_k.b) rfl h
theorem f_law_others_c (A : Ax G P) {d0 : D} (h : wpSs (FS G n) (MK G n) rpF f_law_others [some d0, none] μ (retQ Q) X) : FS G (n + 1) 275 [d0] μ Q X :=
  A.fs A.F.f_law_others_k (b_of1 A.F.f_law_others_k.b) rfl h
theorem f_law_drawn_name_c (A : Ax G P) {d0 : D} (h : wpSs (FS G n) (MK G n) rpF f_law_drawn_name [some d0, none, none, none, none] μ (retQ Q) X) : FS G (n + 1) 282 [d0] μ Q X :=
  A.fs A.F.f_law_drawn_name_k (b_of1 A.F.f_law_drawn_name_k.b) rfl h
theorem f_law_drawn_set_c (A : Ax G P) {d0 : D} (h : wpSs (FS G n) (MK G n) rpF f_law_drawn_set [some d0, none, none, none, none, none, none, none, none, none, none, none, none, none, none, none] μ (retQ Q) X) : FS G (n + 1) 289 [d0] μ Q X :=
  A.fs A.F.f_law_drawn_set_k (b_of1 A.F.f_law_drawn_set_k.b) rfl h
theorem f_law_single_c (A : Ax G P) {d0 : D} (h : wpSs (FS G n) (MK G n) rpF f_law_single [some d0, none, none, none, none, none, none, none] μ (retQ Q) X) : FS G (n + 1) 296 [d0] μ Q X :=
  A.fs A.F.f_law_single_k (b_of1 A.F.f_law_single_k.b) rfl h
theorem f_law_part_c (A : Ax G P) {d0 d1 : D} (h : wpSs (FS G n) (MK G n) rpF f_law_part [some d0, some d1, none, none, none, none, none, none, none, none, none, none, none, none] μ (retQ Q) X) : FS G (n + 1) 301 [d0, d1] μ Q X :=
  A.fs A.F.f_law_part_k (b_of2 A.F.f_law_part_k.b) rfl h
theorem f_law_shut_c (A : Ax G P) {d0 : D} (h : wpSs (FS G n) (MK G n) rpF f_law_shut [some d0, none, none] μ (retQ Q) X) : FS G (n + 1) 308 [d0] μ Q X :=
  A.fs A.F.f_law_shut_k (b_of1 A.F.f_law_shut_k.b) rfl h
theorem f_law_parts_c (A : Ax G P) {d0 : D} (h : wpSs (FS G n) (MK G n) rpF f_law_parts [some d0, none, none, none, none, none, none, none, none, none] μ (retQ Q) X) : FS G (n + 1) 315 [d0] μ Q X :=
  A.fs A.F.f_law_parts_k (b_of1 A.F.f_law_parts_k.b) rfl h
theorem f_law_signs_c (A : Ax G P) {d0 : D} (h : wpSs (FS G n) (MK G n) rpF f_law_signs [some d0, none, none] μ (retQ Q) X) : FS G (n + 1) 322 [d0] μ Q X :=
  A.fs A.F.f_law_signs_k (b_of1 A.F.f_law_signs_k.b) rfl h
theorem f_law_counts_c (A : Ax G P) {d0 d1 d2 : D} (h : wpSs (FS G n) (MK G n) rpF f_law_counts [some d0, some d1, some d2, none, none, none, none] μ (retQ Q) X) : FS G (n + 1) 329 [d0, d1, d2] μ Q X :=
  A.fs A.F.f_law_counts_k (b_of3 A.F.f_law_counts_k.b) rfl h
theorem f_law_balanced_c (A : Ax G P) {d0 d1 d2 d3 : D} (h : wpSs (FS G n) (MK G n) rpF f_law_balanced [some d0, some d1, some d2, some d3, none, none, none, none] μ (retQ Q) X) : FS G (n + 1) 336 [d0, d1, d2, d3] μ Q X :=
  A.fs A.F.f_law_balanced_k (b_of4 A.F.f_law_balanced_k.b) rfl h
theorem f_law_repeated_c (A : Ax G P) {d0 d1 d2 : D} (h : wpSs (FS G n) (MK G n) rpF f_law_repeated [some d0, some d1, some d2] μ (retQ Q) X) : FS G (n + 1) 343 [d0, d1, d2] μ Q X :=
  A.fs A.F.f_law_repeated_k (b_of3 A.F.f_law_repeated_k.b) rfl h
theorem f_law_on_edge_c (A : Ax G P) {d0 d1 d2 : D} (h : wpSs (FS G n) (MK G n) rpF f_law_on_edge [some d0, some d1, some d2, none, none, none] μ (retQ Q) X) : FS G (n + 1) 350 [d0, d1, d2] μ Q X :=
  A.fs A.F.f_law_on_edge_k (b_of3 A.F.f_law_on_edge_k.b) rfl h
theorem f_law_closed_c (A : Ax G P) {d0 d1 : D} (h : wpSs (FS G n) (MK G n) rpF f_law_closed [some d0, some d1, none, none, none] μ (retQ Q) X) : FS G (n + 1) 355 [d0, d1] μ Q X :=
  A.fs A.F.f_law_closed_k (b_of2 A.F.f_law_closed_k.b) rfl h
theorem f_law_go_c (A : Ax G P) {d0 d1 d2 d3 d4 : D} (h : wpSs (FS G n) (MK G n) rpF f_law_go [some d0, some d1, some d2, some d3, some d4, none, none, none, none, none, none, none, none, none, none, none] μ (retQ Q) X) : FS G (n + 1) 362 [d0, d1, d2, d3, d4] μ Q X :=
  A.fs A.F.f_law_go_k (b_of5 A.F.f_law_go_k.b) rfl h
theorem f_law_told_c (A : Ax G P) {d0 d1 d2 d3 : D} (h : wpSs (FS G n) (MK G n) rpF f_law_told [some d0, some d1, some d2, some d3] μ (retQ Q) X) : FS G (n + 1) 367 [d0, d1, d2, d3] μ Q X :=
  A.fs A.F.f_law_told_k (b_of4 A.F.f_law_told_k.b) rfl h
end
theorem ret_q {Q : D → Mu → Prop} {d : D} {loc : Loc} {μ : Mu} (q : Q d μ) : retQ Q (.ret d) loc μ := ⟨μ, List.Sublist.refl _, q⟩
theorem next_q {Q : D → Mu → Prop} {loc : Loc} {μ : Mu} (q : Q .none μ) : retQ Q .next loc μ := ⟨μ, List.Sublist.refl _, q⟩
section
variable {FS : Nat → List D → Mu → (D → Mu → Prop) → Prop → Prop} {MK : List D → Mu → (D → Mu → Prop) → Prop → Prop} {rp : D → Str} {loc : Loc} {μ : Mu} {Q : D → Mu → Prop} {X : Prop} {p px pa ps : Pos} {k : Nat}
/-! a bool, used -/
theorem pick_b {b : Bool} {A B : Prop} (h1 : b = true → A) (h2 : b = false → B) : pick b A B := by
  cases b with
  | true => exact ⟨h1 rfl⟩
  | false => exact ⟨h2 rfl⟩
theorem pick_dec {P : Prop} [Decidable P] {A B : Prop} (h1 : P → A) (h2 : ¬ P → B) : pick (decide P) A B := pick_b (fun h => h1 (of_decide_eq_true h)) (fun h => h2 (of_decide_eq_false h))
theorem pick_decT {P : Prop} [Decidable P] {A B : Prop} (hp : P) (h1 : A) : pick (decide P) A B := pick_dec (fun _ => h1) (fun h => absurd hp h)
theorem pick_decF {P : Prop} [Decidable P] {A B : Prop} (hp : ¬ P) (h1 : B) : pick (decide P) A B := pick_dec (fun h => absurd h hp) (fun _ => h1)
theorem pick_ndec {P : Prop} [Decidable P] {A B : Prop} (h1 : ¬ P → A) (h2 : P → B) : pick (!decide P) A B :=
  pick_b (fun h => h1 (by simpa using h)) (fun h => h2 (by simpa using h))
theorem pick_ndecT {P : Prop} [Decidable P] {A B : Prop} (hp : ¬ P) (h1 : A) : pick (!decide P) A B := pick_ndec (fun _ => h1) (fun h => absurd h hp)
theorem pick_ndecF {P : Prop} [Decidable P] {A B : Prop} (hp : P) (h1 : B) : pick (!decide P) A B := pick_ndec (fun h => absurd hp h) (fun _ => h1)
end
section
variable {μ : Mu} {Q : D → Mu → Prop} {X : Prop} {rp : D → Str}
theorem getF_k {dx : Addr} {fs : List D} {j : Nat} {v : D} {k : D → Prop} (h1 : μ.lookup dx = some (.inst fs)) (h2 : fs[j]? = some v) (h : k v) : getF μ (.obj dx) j k := by
  show optC (μ.lookup dx) fun c => instC c fun fs => optC fs[j]? k
  rw [h1]
  show optC fs[j]? k
  rw [h2]
  exact h
theorem isInst_k {dx : Addr} {fs : List D} (h : μ.lookup dx = some (.inst fs)) : isInst μ (.obj dx) := by
  show optC (μ.lookup dx) fun c => instC c fun _ => True
  rw [h]
  trivial
theorem cmpQ_k {op : CmpOp} {x y : D} {r : Bool} {Q : Bool → Prop} (h : cmpS op x y = some r) (q : Q r) : cmpQ op x y Q := by unfold cmpQ; rw [h]; exact q
theorem idxQ_k {μ : Mu} {x y v : D} {Q : D → Prop} (h : idxS μ x y = some v) (q : Q v) : idxQ μ x y Q := by unfold idxQ; rw [h]; exact q
theorem tupQ_k {ts : List (Nat × Str × Pos)} {loc loc' : Loc} {ds : List D} {Q : Loc → Prop} (h : bindT ts ds loc = some loc') (q : Q loc') : tupQ ts loc (.tup ds) Q := by unfold tupQ; simp only; rw [h]; exact q
theorem andF {ds : List D} {P : Prop} (hn : decide (ds.length ≤ 64) = true) (h : P) : Fits ds.length ∧ P := ⟨by have := of_decide_eq_true hn; unfold Fits; omega, h⟩
theorem newF {ds : List D} (hn : decide (ds.length ≤ 64) = true) (h : Q (.lst ds) μ) : newL false ds μ Q := ⟨by have := of_decide_eq_true hn; unfold Fits; omega, h⟩
theorem newL_f {ds : List D} (hf : Fits ds.length) (h : Q (.lst ds) μ) : newL false ds μ Q := ⟨hf, h⟩
theorem newL_t {ds : List D} (hf : Fits ds.length) (h : ∀ a, freshMu μ a → Q (.cel a) ((a, .lst ds) :: μ)) : newL true ds μ Q := ⟨hf, h⟩
/-! operations on data -/
theorem b_add {m : Bool} {i j : Int} (h : Q (.int (i + j)) μ) : binS .Add m (.int i) (.int j) μ Q := h
theorem b_sub {m : Bool} {i j : Int} (h : Q (.int (i - j)) μ) : binS .Sub m (.int i) (.int j) μ Q := h
theorem catS_k {m : Bool} {x y : D} {ds es : List D} (h1 : itemsOf μ x = some ds) (h2 : itemsOf μ y = some es) (h : newL m (ds ++ es) μ Q) : catS m x y μ Q := by
  unfold catS
  rw [h1, h2]
  exact h
theorem b_cat {m : Bool} {x y : D} {ds es : List D} (h1 : itemsOf μ x = some ds) (h2 : itemsOf μ y = some es) (h : newL m (ds ++ es) μ Q) : binS .Add m x y μ Q := by
  cases x with
  | int => exact no_some h1
  | _ => exact catS_k h1 h2 h
theorem bi_len {l : List Int} (hf : Fits l.length) (h : Q (.int l.length) μ) : biS rp .len [.bytes l] μ Q := ⟨hf, h⟩
theorem bi_lenL {l : List D} (hf : Fits l.length) (h : Q (.int l.length) μ) : biS rp .len [.lst l] μ Q := ⟨hf, h⟩
theorem idx_bytes {l : List Int} {i : Int} {Q : D → Prop} (h1 : 0 ≤ i) (h2 : i < l.length) (h3 : Fits l.length) (q : Q (.int (l.getD i.toNat 0))) : idxQ μ (.bytes l) (.int i) Q :=
  idxQ_k (if_pos ⟨h1, h2, h3⟩) q
theorem ixN_pos {n : Nat} {i : Int} (h0 : 0 ≤ i) (h : i < n) : ixN n i = some i.toNat := by
  unfold ixN
  rw [if_pos ⟨h0, h⟩]
theorem idx_lst {ds : List D} {i : Int} {v : D} {Q : D → Prop} (h1 : 0 ≤ i) (h2 : i < ds.length) (h3 : Fits ds.length) (hv : ds[i.toNat]? = some v) (q : Q v) : idxQ μ (.lst ds) (.int i) Q := by
  refine idxQ_k ?_ q
  show (if ds.length ≤ 1048576 then (ixN ds.length i).bind (ds[·]?) else none) = some v
  rw [if_pos (show ds.length ≤ 1048576 from h3), ixN_pos h1 h2]
  exact hv
theorem idx_tup {ds : List D} {i : Int} {v : D} {Q : D → Prop} (h1 : 0 ≤ i) (h2 : i < ds.length) (h3 : Fits ds.length) (hv : ds[i.toNat]? = some v) (q : Q v) : idxQ μ (.tup ds) (.int i) Q := by
  refine idxQ_k ?_ q
  show (if ds.length ≤ 1048576 then (ixN ds.length i).bind (ds[·]?) else none) = some v
  rw [if_pos (show ds.length ≤ 1048576 from h3), ixN_pos h1 h2]
  exact hv
theorem idx_cel {ds : List D} {a : Addr} {i : Int} {v : D} {Q : D → Prop} (hμ : μ.lookup a = some (.lst ds)) (h1 : 0 ≤ i) (h2 : i < ds.length) (h3 : Fits ds.length) (hv : ds[i.toNat]? = some v) (q : Q v) : idxQ μ (.cel a) (.int i) Q := by
  refine idxQ_k ?_ q
  show (match itemsOf μ (.cel a) with
    | some ds => if ds.length ≤ 1048576 then (ixN ds.length i).bind (ds[·]?) else none
    | none => none) = some v
  have : itemsOf μ (.cel a) = some ds := by unfold itemsOf; simp only; rw [hμ]
  rw [this]
  simp only
  rw [if_pos (show ds.length ≤ 1048576 from h3), ixN_pos h1 h2]
  exact hv
theorem ints_get {l : List Int} {i : Int} (h1 : 0 ≤ i) (h2 : i < l.length) : (l.map D.int)[i.toNat]? = some (.int (l.getD i.toNat 0)) := by
  have : i.toNat < l.length := by omega
  simp [this]
theorem idx_lstI {l : List Int} {i : Int} {Q : D → Prop} (h1 : 0 ≤ i) (h2 : i < l.length) (h3 : Fits l.length) (q : Q (.int (l.getD i.toNat 0))) : idxQ μ (.lst (l.map .int)) (.int i) Q :=
  idx_lst h1 (by rw [List.length_map]; exact h2) (by rw [List.length_map]; exact h3) (ints_get h1 h2) q
theorem idx_celI {l : List Int} {a : Addr} {i : Int} {Q : D → Prop} (hμ : μ.lookup a = some (.lst (l.map .int))) (h1 : 0 ≤ i) (h2 : i < l.length) (h3 : Fits l.length) (q : Q (.int (l.getD i.toNat 0))) : idxQ μ (.cel a) (.int i) Q :=
  idx_cel hμ h1 (by rw [List.length_map]; exact h2) (by rw [List.length_map]; exact h3) (ints_get h1 h2) q
theorem loN_k {i : Int} (h0 : 0 ≤ i) (h1 : i < 1073741824) : loN (some (.int i)) = some i.toNat := by show (if 0 ≤ i ∧ i < 1073741824 then some i.toNat else none) = _; rw [if_pos ⟨h0, h1⟩]
theorem hiN_k {n : Nat} {i : Int} (h0 : 0 ≤ i) (h1 : i < 1073741824) : hiN n (some (.int i)) = some i.toNat := by show (if 0 ≤ i ∧ i < 1073741824 then some i.toNat else none) = _; rw [if_pos ⟨h0, h1⟩]
theorem slc_bytes {l : List Int} {i j : Int} {Q : D → Prop} (h3 : Fits l.length) (h0 : 0 ≤ i) (h1 : i < 1073741824) (h0' : 0 ≤ j) (h1' : j < 1073741824) (q : Q (.bytes (cut l i.toNat j.toNat))) : slcS μ (.bytes l) (some (.int i)) (some (.int j)) Q := by
  refine ⟨h3, ?_⟩
  rw [loN_k h0 h1, hiN_k h0' h1']
  exact q
theorem slc_bytes_to {l : List Int} {j : Int} {Q : D → Prop} (h3 : Fits l.length) (h0' : 0 ≤ j) (h1' : j < 1073741824) (q : Q (.bytes (cut l 0 j.toNat))) : slcS μ (.bytes l) none (some (.int j)) Q := by
  refine ⟨h3, ?_⟩
  rw [hiN_k h0' h1']
  exact q
theorem slc_items {x : D} {l : List D} {j : Int} {Q : D → Prop} (hx : ∀ l, x ≠ .bytes l) (hl : itemsOf μ x = some l) (h3 : Fits l.length) (h0' : 0 ≤ j) (h1' : j < 1073741824) (q : Q (.lst (cut l 0 j.toNat))) : slcS μ x none (some (.int j)) Q := by
  unfold slcS
  cases x <;> first
    | exact absurd rfl (hx _)
    | (simp only [itemsOf] at hl; done)
    | (cases hl; done)
    | (simp only [hl]; refine ⟨h3, ?_⟩; rw [hiN_k h0' h1']; exact q)
theorem slc_items_from {x : D} {l : List D} {j : Int} {Q : D → Prop} (hx : ∀ l, x ≠ .bytes l) (hl : itemsOf μ x = some l) (h3 : Fits l.length) (h0' : 0 ≤ j) (h1' : j < 1073741824) (q : Q (.lst (cut l j.toNat l.length))) : slcS μ x (some (.int j)) none Q := by
  unfold slcS
  cases x <;> first
    | exact absurd rfl (hx _)
    | (simp only [itemsOf] at hl; done)
    | (cases hl; done)
    | (simp only [hl]; refine ⟨h3, ?_⟩; rw [loN_k h0' h1']; exact q)
end
/-! loops and comprehensions -/
section
variable {FS : TF} {MK : TM} {rp : D → Str} {loc : Loc} {μ : Mu} {X : Prop} {R : Out → Loc → Mu → Prop} {t : WE} {b : WS}
/-- a while: the turns that are left -/
noncomputable def whlQ (FS : TF) (MK : TM) (rp : D → Str) (t : WE) (b : WS) (Q : Out → Loc → Mu → Prop) (X : Prop) (k : Nat) (loc : Loc) (μ : Mu) : Prop :=
  whileN (fun loc μ k => goE t FS MK rp loc μ (fun d μ => asB d fun c => k c μ) X) (fun loc μ k => goS b FS MK rp loc μ k X) Q k loc μ
theorem vs_whl (k : Nat) (h : whlQ FS MK rp t b R X k loc μ) : whlX FS MK rp t b R X loc μ := ⟨k, h⟩
theorem whl_turn {k : Nat} (h : goE t FS MK rp loc μ (fun d μ => asB d fun c => pick c (goS b FS MK rp loc μ (turnR (whlQ FS MK rp t b R X k) R) X) (R .next loc μ)) X) : whlQ FS MK rp t b R X (k + 1) loc μ := h
theorem for_nil {i : Nat} (h : R .next loc μ) : forX FS MK rp i b R X [] loc μ := h
theorem for_cons {i : Nat} {d : D} {ds : List D} (h : goS b FS MK rp (setV loc i (some d)) μ (turnR (forX FS MK rp i b R X ds) R) X) : forX FS MK rp i b R X (d :: ds) loc μ := h
theorem stepX_k {elt : WE} {cond : Option WE} {ts : List (Nat × Str × Pos)} {tk : Option (Nat × Pos)} {l0 l1 : Loc} {d : D} {k : Option D → Mu → Prop} (hb : bindO tk ts d l0 = some l1)
    (h : xc cond FS MK rp l1 μ fun c μ => pick c (goE elt FS MK rp l1 μ (fun v μ => k (some v) μ) False) (k none μ)) : stepX FS MK rp elt cond ts tk l0 d μ k := by
  unfold stepX
  rw [hb]
  exact h
end
/-! a cut: the walk goes on once behind the first k statements, whatever way led there -/
@[reducible] noncomputable def dropSs (k : Nat) (ss : Ss) : Ss := Nat.rec (motive := fun _ => Ss → Ss) (fun ss => ss) (fun _ ih ss => Ss.casesOn ss .nil fun _ r => ih r) k ss
section
variable {FS : TF} {MK : TM} {rp : D → Str} {X : Prop}
theorem goS_cut (k : Nat) : ∀ (ss : Ss) (loc : Loc) (μ : Mu) (Q : Out → Loc → Mu → Prop), goS (ssX ss) FS MK rp loc μ Q X = goS (ssX (takeSs k ss)) FS MK rp loc μ (thenR (ssX (dropSs k ss)) FS MK rp Q X) X := by
  induction k with
  | zero => intro ss loc μ Q; cases ss <;> rfl
  | succ k ih =>
    intro ss loc μ Q
    cases ss with
    | nil => rfl
    | cons s r =>
      have e : thenR (ssX r) FS MK rp Q X = thenR (ssX (takeSs k r)) FS MK rp (thenR (ssX (dropSs k r)) FS MK rp Q X) X := by
        funext o loc μ
        cases o with
        | next => exact ih r loc μ Q
        | _ => rfl
      exact congrArg (fun K => goS (sX s) FS MK rp loc μ K X) e
theorem cut_k {ss : Ss} {loc : Loc} {μ : Mu} {Q : Out → Loc → Mu → Prop} (k : Nat) (R : Loc → Mu → Prop) (h1 : ∀ K : Out → Loc → Mu → Prop, (∀ loc μ, R loc μ → K .next loc μ) → (∀ d loc μ, Q (.ret d) loc μ → K (.ret d) loc μ) → wpSs FS MK rp (takeSs k ss) loc μ K X)
    (h2 : ∀ loc μ, R loc μ → wpSs FS MK rp (dropSs k ss) loc μ Q X) : wpSs FS MK rp ss loc μ Q X := by
  show goS (ssX ss) FS MK rp loc μ Q X
  rw [goS_cut k]
  exact h1 _ (fun loc μ h => h2 loc μ h) fun d loc μ h => h
end
/-! a walk's step: it goes on by the meaning itself to the next sign that asks for a fact, and leaves no trace in the proof -/
section
variable (FS : TF) (MK : TM) (rp : D → Str) (loc : Loc) (μ : Mu) (X : Prop) (Q : D → Mu → Prop) (R : Out → Loc → Mu → Prop) (A : Prop)
noncomputable abbrev r_goE (w : WE) : Prop := (goE w FS MK rp loc μ Q X = A) → A → goE w FS MK rp loc μ Q X
noncomputable abbrev r_goS (w : WS) : Prop := (goS w FS MK rp loc μ R X = A) → A → goS w FS MK rp loc μ R X
noncomputable abbrev r_goL (w : WL) (Q : List D → Mu → Prop) : Prop := (goL w FS MK rp loc μ Q X = A) → A → goL w FS MK rp loc μ Q X
noncomputable abbrev r_xs (w : List WE) (Q : List D → Mu → Prop) : Prop := (xs w FS MK rp loc μ Q X = A) → A → xs w FS MK rp loc μ Q X
noncomputable abbrev r_xb (op : BoolOp) (w : List WE) : Prop := (xb op w FS MK rp loc μ Q X = A) → A → xb op w FS MK rp loc μ Q X
noncomputable abbrev r_xo (w : Option WE) (Q : Option D → Mu → Prop) : Prop := (xo w FS MK rp loc μ Q X = A) → A → xo w FS MK rp loc μ Q X
noncomputable abbrev r_xc (w : Option WE) (Q : Bool → Mu → Prop) : Prop := (xc w FS MK rp loc μ Q = A) → A → xc w FS MK rp loc μ Q
noncomputable abbrev r_then (w : WS) (o : Out) : Prop := (thenR w FS MK rp R X o loc μ = A) → A → thenR w FS MK rp R X o loc μ
noncomputable abbrev r_turn (K : Loc → Mu → Prop) (o : Out) : Prop := (turnR K R o loc μ = A) → A → turnR K R o loc μ
noncomputable abbrev r_asB (d : D) (k : Bool → Prop) : Prop := (asB d k = A) → A → asB d k
noncomputable abbrev r_asI (d : D) (k : Int → Prop) : Prop := (asI d k = A) → A → asI d k
noncomputable abbrev r_cmpX (op : CmpOp) (x y : D) (k : Bool → Prop) : Prop := (cmpX op x y k = A) → A → cmpX op x y k
noncomputable abbrev r_binX (op : Operator) (m : Bool) (x y : D) : Prop := (binX op m x y μ Q = A) → A → binX op m x y μ Q
noncomputable abbrev r_binY (e : E) (op : Operator) (m : Bool) (x y : D) : Prop := (binY e op m x y μ Q = A) → A → binY e op m x y μ Q
noncomputable abbrev r_getV (i : Nat) (k : D → Prop) : Prop := (getV loc i k = A) → A → getV loc i k
noncomputable abbrev r_wpE (w : E) : Prop := (wpE FS MK rp w loc μ Q X = A) → A → wpE FS MK rp w loc μ Q X
noncomputable abbrev r_wpS (w : S) : Prop := (wpS FS MK rp w loc μ R X = A) → A → wpS FS MK rp w loc μ R X
noncomputable abbrev r_wpSs (w : Ss) : Prop := (wpSs FS MK rp w loc μ R X = A) → A → wpSs FS MK rp w loc μ R X
end
theorem pick_rF {c : Bool} {A B : Prop} (h : c = false) (x : B) : pick c A B := by subst h; exact ⟨x⟩
theorem pick_rT {c : Bool} {A B : Prop} (h : c = true) (x : A) : pick c A B := by subst h; exact ⟨x⟩
theorem tn_dec {a b : Int} (hb : 0 < b) (h : a < b) : a.toNat < b.toNat := (Int.toNat_lt_toNat hb).mpr h
theorem tn_succ {i : Int} (h0 : 0 ≤ i) : (i + 1).toNat = i.toNat + 1 := Int.toNat_add h0 (by decide)
theorem k_tt {A B : Prop} (h1 : A) : pick true A B := ⟨h1⟩
theorem k_ff {A B : Prop} (h1 : B) : pick false A B := ⟨h1⟩
local macro_rules | `(tactic| tb_rel) => `(tactic| first | assumption | tb_start | (unfold Fits at *; tb_start))
local macro_rules | `(tactic| kts_caught) => `(tactic| with_reducible first
  | ((fail_if_success (with_unfolding_none first | show _ ≤ _ | show _ < _ | show _ ≠ _)); refine (?f : (?P = ?A) → ?A → ?P) ?pf ?_; (case pf => with_reducible_and_instances (conv => lhs; whnf)); (case f => (fail_if_success (with_unfolding_none exact fun _ h => h)); with_reducible_and_instances exact fun _ h => h))
  | (show pick _ _ _; first | refine k_tt ?_ | refine k_ff ?_ | refine pick_decT (by assumption) ?_ | refine pick_decF (by assumption) ?_ | refine pick_ndecT (by assumption) ?_ | refine pick_ndecF (by assumption) ?_ | refine pick_decT (by tb_start) ?_ | refine pick_decF (by tb_start) ?_ | refine pick_ndecT (by tb_start) ?_ | refine pick_ndecF (by tb_start) ?_ | refine pick_dec (fun hc => ?_) (fun hc => ?_) | refine pick_ndec (fun hc => ?_) (fun hc => ?_) | refine pick_b (fun hc => ?_) (fun hc => ?_))
  | refine Rg.mk ?_ | refine getF_k (by assumption) (by with_unfolding_all rfl) ?_ | refine And.intro (isInst_k (by assumption)) ?_ | refine cmpQ_k (by with_unfolding_all rfl) ?_ | refine And.intro (fun hc => ?_) (fun hc => ?_) | refine tupQ_k (by with_unfolding_all rfl) ?_ | refine bi_len (by assumption) ?_ | refine andF (by with_unfolding_all rfl) ?_ | refine newF (by with_unfolding_all rfl) ?_ | refine idx_bytes (by tb_rel) (by tb_rel) (by tb_rel) ?_ | refine idx_lstI (by tb_rel) (by tb_rel) (by tb_rel) ?_ | refine idx_celI (by assumption) (by tb_rel) (by tb_rel) (by tb_rel) ?_ | refine slc_bytes (by tb_rel) (by tb_rel) (by tb_rel) (by tb_rel) (by tb_rel) ?_)
section
variable {G : Gx} {P : Params} {n : Nat} {μ : Mu} {Q : D → Mu → Prop} {X : Prop}
noncomputable def isLower (c : Int) : Bool := decide (97 ≤ c) && decide (c ≤ 122)
noncomputable def isUpper (c : Int) : Bool := decide (65 ≤ c) && decide (c ≤ 90)
noncomputable def isAlpha (c : Int) : Bool := isLower c || isUpper c
noncomputable def isDigit (c : Int) : Bool := decide (48 ≤ c) && decide (c ≤ 57)
noncomputable def isSpace (c : Int) : Bool := decide (c = 32) || (decide (9 ≤ c) && decide (c ≤ 13))
noncomputable def isControl (c : Int) : Bool := decide (c < 32) || decide (c = 127)
noncomputable def isPunct (c : Int) : Bool := decide (32 < c) && decide (c < 127) && !isAlpha c && !isDigit c
noncomputable def isHex (c : Int) : Bool := isDigit c || (decide (65 ≤ c) && decide (c ≤ 70)) || (decide (97 ≤ c) && decide (c ≤ 102))
theorem is_lower_k (A : Ax G P) {c : Int} (q : Q (.bool (isLower c)) μ) : FS G (n+1) 41 [.int c] μ Q X := by
  refine f_is_lower_c A ?_
  unfold f_is_lower
  repeat' (first | kts_caught)
  all_goals (refine ret_q ?_; simp_all [isLower])
theorem is_upper_k (A : Ax G P) {c : Int} (q : Q (.bool (isUpper c)) μ) : FS G (n+1) 48 [.int c] μ Q X := by
  refine f_is_upper_c A ?_
  unfold f_is_upper
  repeat' (first | kts_caught)
  all_goals (refine ret_q ?_; simp_all [isUpper])
theorem is_digit_k (A : Ax G P) {c : Int} (q : Q (.bool (isDigit c)) μ) : FS G (n+1) 62 [.int c] μ Q X := by
  refine f_is_digit_c A ?_
  unfold f_is_digit
  repeat' (first | kts_caught)
  all_goals (refine ret_q ?_; simp_all [isDigit])
theorem is_space_k (A : Ax G P) {c : Int} (q : Q (.bool (isSpace c)) μ) : FS G (n+1) 69 [.int c] μ Q X := by
  refine f_is_space_c A ?_
  unfold f_is_space
  repeat' (first | kts_caught)
  all_goals (refine ret_q ?_; simp_all [isSpace])
theorem is_control_k (A : Ax G P) {c : Int} (q : Q (.bool (isControl c)) μ) : FS G (n+1) 76 [.int c] μ Q X := by
  refine f_is_control_c A ?_
  unfold f_is_control
  repeat' (first | kts_caught)
  all_goals (refine ret_q ?_; simp_all [isControl])
theorem is_alpha_k (A : Ax G P) {c : Int} (q : Q (.bool (isAlpha c)) μ) : FS G (n+2) 55 [.int c] μ Q X := by
  refine f_is_alpha_c A ?_
  unfold f_is_alpha
  repeat' (first | kts_caught | (with_reducible first | refine is_lower_k A ?_ | refine is_upper_k A ?_))
  all_goals (refine ret_q ?_; simp_all [isAlpha])
theorem is_punct_k (A : Ax G P) {c : Int} (q : Q (.bool (isPunct c)) μ) : FS G (n+3) 83 [.int c] μ Q X := by
  refine f_is_punctuation_c A ?_
  unfold f_is_punctuation
  repeat' (first | kts_caught | (with_reducible first | refine is_alpha_k A ?_ | refine is_digit_k A ?_))
  all_goals (refine ret_q ?_; simp_all [isPunct])
theorem is_hex_k (A : Ax G P) {c : Int} (q : Q (.bool (isHex c)) μ) : FS G (n+2) 90 [.int c] μ Q X := by
  refine f_is_hex_c A ?_
  unfold f_is_hex
  repeat' (first | kts_caught | (with_reducible first | refine is_alpha_k A ?_ | refine is_digit_k A ?_))
  all_goals (refine ret_q ?_; first | (simp_all [isHex]; done) | ((have h97 : ¬ 97 ≤ c := (by omega)); simp_all [isHex]))
/-- the class of a letter, small -/
noncomputable def clsOf (low c : Int) : Option Bool :=
  if low = 97 then some (isAlpha c) else if low = 99 then some (isControl c) else if low = 100 then some (isDigit c) else if low = 108 then some (isLower c)
  else if low = 112 then some (isPunct c) else if low = 115 then some (isSpace c) else if low = 117 then some (isUpper c) else if low = 119 then some (isAlpha c || isDigit c)
  else if low = 120 then some (isHex c) else if low = 122 then some (decide (c = 0)) else none
noncomputable def inClass (c letter : Int) : Bool := match clsOf (if isUpper letter then letter + 32 else letter) c with
  | some f => if isUpper letter then !f else f
  | none => decide (letter = c)
theorem cls_k {low c k : Int} {f : Bool} (h : low = k) (e : clsOf k c = some f) : clsOf low c = some f := h ▸ e
theorem cls_w {low c : Int} {f : Bool} (h : low = 119) (e : isAlpha c = true ∧ f = true ∨ isAlpha c = false ∧ isDigit c = f) : clsOf low c = some f := by
  refine cls_k h (congrArg some ?_)
  rcases e with ⟨e, rfl⟩ | ⟨e, e'⟩
  · rw [e]; rfl
  · rw [e, e']; rfl
theorem cls_none {l c : Int} (h1 : ¬ l = 97) (h2 : ¬ l = 99) (h3 : ¬ l = 100) (h4 : ¬ l = 108) (h5 : ¬ l = 112) (h6 : ¬ l = 115) (h7 : ¬ l = 117) (h8 : ¬ l = 119) (h9 : ¬ l = 120) (h10 : ¬ l = 122) : clsOf l c = none := by
  unfold clsOf
  rw [if_neg h1, if_neg h2, if_neg h3, if_neg h4, if_neg h5, if_neg h6, if_neg h7, if_neg h8, if_neg h9, if_neg h10]
noncomputable abbrev lowOf (letter : Int) : Int := if isUpper letter then letter + 32 else letter
theorem inClass_some {c letter : Int} {f : Bool} (h : clsOf (lowOf letter) c = some f) : inClass c letter = if isUpper letter then !f else f := by
  unfold inClass
  rw [h]
theorem inClass_none {c letter : Int} (h : clsOf (lowOf letter) c = none) : inClass c letter = decide (letter = c) := by
  unfold inClass
  rw [h]
theorem in_class_k (A : Ax G P) {c letter : Int} (q : Q (.bool (inClass c letter)) μ) : FS G (n+4) 97 [.int c, .int letter] μ Q X := by
  refine f_in_class_c A ?_
  unfold f_in_class
  refine cut_k 1 (fun loc ν => ν = μ ∧ loc = [some (.int c), some (.int letter), some (.int (lowOf letter)), none, none, none, none, none, none, none, none, none]) (fun K hK _ => ?_) fun loc ν hR => ?_
  · repeat' (first | kts_caught | (with_reducible refine is_upper_k A ?_))
    · exact hK _ _ ⟨rfl, by rw [lowOf, if_pos ‹_›]; rfl⟩
    · exact hK _ _ ⟨rfl, by rw [lowOf, if_neg (ne_true_of_eq_false ‹_›)]; rfl⟩
  · obtain ⟨rfl, rfl⟩ := hR
    generalize hl : lowOf letter = low
    refine cut_k 1 (fun loc μ => μ = ν ∧ ∃ f, clsOf low c = some f ∧ loc = [some (.int c), some (.int letter), some (.int low), some (.bool f), none, none, none, none, none, none, none, none]) (fun K hK hR => ?_) fun loc μ hR => ?_
    · repeat' (first | kts_caught | (with_reducible first | refine is_lower_k A ?_ | refine is_upper_k A ?_ | refine is_alpha_k A ?_ | refine is_digit_k A ?_ | refine is_space_k A ?_ | refine is_control_k A ?_ | refine is_punct_k A ?_ | refine is_hex_k A ?_))
      all_goals first
        | exact hK _ _ ⟨rfl, _, cls_k (by assumption) (by rfl), rfl⟩
        | exact hK _ _ ⟨rfl, _, cls_w (by assumption) (.inl ⟨by assumption, rfl⟩), rfl⟩
        | exact hK _ _ ⟨rfl, _, cls_w (by assumption) (.inr ⟨by assumption, by assumption⟩), rfl⟩
        | (refine hR _ _ _ (ret_q ?_)
           subst hl
           rw [inClass_none (cls_none (by assumption) (by assumption) (by assumption) (by assumption) (by assumption) (by assumption) (by assumption) (by assumption) (by assumption) (by assumption))] at q
           exact q)
    · obtain ⟨rfl, f, hf, rfl⟩ := hR
      subst hl
      rw [inClass_some hf] at q
      repeat' (first | kts_caught | (with_reducible refine is_upper_k A ?_))
      · rw [if_pos ‹_›] at q; exact ret_q q
      · rw [if_neg (ne_true_of_eq_false ‹_›)] at q; exact ret_q q
end
/-- a while by a measure: every turn ends in a state of a lesser one -/
theorem whl_loop {FS : Nat → List D → Mu → (D → Mu → Prop) → Prop → Prop} {MK : List D → Mu → (D → Mu → Prop) → Prop → Prop} {rp : D → Str} {X : Prop} {R : Out → Loc → Mu → Prop} {t : WE} {b : WS}
    {ι : Type} (k : ι → Nat) (L : ι → Loc) (M : ι → Mu) (P : ι → Prop)
    (h : ∀ i K, P i → k i ≤ K → (∀ j, P j → k j < k i → whlQ FS MK rp t b R X K (L j) (M j)) → whlQ FS MK rp t b R X (K + 1) (L i) (M i)) :
    ∀ i, P i → ∀ K, k i < K → whlQ FS MK rp t b R X K (L i) (M i) := by
  intro i hi K hK
  have key : ∀ n i, P i → k i ≤ n → ∀ K, k i < K → whlQ FS MK rp t b R X K (L i) (M i) := by
    intro n
    induction n with
    | zero =>
      intro i hi hn K hK
      obtain ⟨K', rfl⟩ : ∃ K', K = K' + 1 := ⟨K - 1, by tb_start⟩
      exact h i K' hi (by tb_start) fun j _ hj => by tb_start
    | succ n ih =>
      intro i hi hn K hK
      obtain ⟨K', rfl⟩ : ∃ K', K = K' + 1 := ⟨K - 1, by tb_start⟩
      exact h i K' hi (by tb_start) fun j hj hlt => ih j hj (by tb_start) K' (by tb_start)
  exact key _ i hi (Nat.le_refl _) K hK
theorem vs_whl_loop {FS : Nat → List D → Mu → (D → Mu → Prop) → Prop → Prop} {MK : List D → Mu → (D → Mu → Prop) → Prop → Prop} {rp : D → Str} {X : Prop} {R : Out → Loc → Mu → Prop} {t : WE} {b : WS} {loc : Loc} {μ : Mu}
    {ι : Type} (k : ι → Nat) (L : ι → Loc) (M : ι → Mu) (P : ι → Prop) (i : ι) (hL : L i = loc) (hM : M i = μ) (hi : P i)
    (h : ∀ i, P i → ∀ W : Loc → Mu → Prop, (∀ j, P j → k j < k i → W (L j) (M j)) → goE t FS MK rp (L i) (M i) (kW1 FS MK rp (L i) R X b W) X) : whlX FS MK rp t b R X loc μ := by
  subst hL hM
  exact vs_whl _ (whl_loop k L M P (fun i K hp _ ih => whl_turn (h i hp _ ih)) i hi _ (Nat.lt_succ_self _))
/-- the same, the loop's state told by a relation -/
theorem vs_whl_rel {FS : Nat → List D → Mu → (D → Mu → Prop) → Prop → Prop} {MK : List D → Mu → (D → Mu → Prop) → Prop → Prop} {rp : D → Str} {X : Prop} {R : Out → Loc → Mu → Prop} {t : WE} {b : WS} {loc : Loc} {μ : Mu}
    {ι : Type} (k : ι → Nat) (J : ι → Loc → Mu → Prop) (i : ι) (hi : J i loc μ)
    (h : ∀ i loc μ, J i loc μ → ∀ W : Loc → Mu → Prop, (∀ j loc μ, J j loc μ → k j < k i → W loc μ) → goE t FS MK rp loc μ (kW1 FS MK rp loc R X b W) X) : whlX FS MK rp t b R X loc μ :=
  vs_whl_loop (ι := ι × Loc × Mu) (fun x => k x.1) (fun x => x.2.1) (fun x => x.2.2) (fun x => J x.1 x.2.1 x.2.2) (i, loc, μ) rfl rfl hi fun x hx W ih => h x.1 x.2.1 x.2.2 hx W fun j loc μ hj hk => ih (j, loc, μ) hj hk
/-- a sign of the pattern, nought behind its end -/
noncomputable def atI (l : List Int) (i : Int) : Int := if i < l.length then l.getD i.toNat 0 else 0
theorem atI_app {pre r : List Int} {x : Int} : atI (pre ++ x :: r) pre.length = x := by
  unfold atI
  rw [if_pos (by simp; tb_start)]
  simp
theorem atI_end {l : List Int} : atI l l.length = 0 := by
  unfold atI
  rw [if_neg (by tb_start)]
section
variable {G : Gx} {P : Params} {n : Nat} {μ : Mu} {Q : D → Mu → Prop} {X : Prop} {dx : Addr} {text pat : List Int} {fs : List D}
/-- the fields that stay -/
noncomputable abbrev Fx (text pat : List Int) (fs : List D) : List D := .bytes text :: .bytes pat :: fs
theorem at_k (A : Ax G P) {p : Int} (hμ : μ.lookup dx = some (.inst (Fx text pat fs))) (hl : Fits pat.length) (hp : 0 ≤ p) (q : Q (.int (atI pat p)) μ) : FS G (n+1) 126 [.obj dx, .int p] μ Q X := by
  refine m_at_c A ?_
  unfold m_at
  repeat' kts_caught
  all_goals unfold atI at q
  · rw [if_pos (by assumption)] at q
    exact ret_q q
  · rw [if_neg (by assumption)] at q
    with_reducible exact ret_q q
/-- the signs of a set up to its end: how many -/
noncomputable def setLen : List Int → Bool → Option Nat
  | [], _ => none
  | [c], f => if f = false ∧ c = 93 then some 1 else none
  | c :: x :: r, f => if f = false ∧ c = 93 then some 1 else if c = 37 then (setLen r false).map (· + 2) else (setLen (x :: r) false).map (· + 1)
/-- the pattern from a place on -/
structure At (pat : List Int) (p : Int) (l : List Int) : Prop where
  pos : 0 ≤ p
  le : p ≤ pat.length
  drop : pat.drop p.toNat = l
theorem At.len {p : Int} {l : List Int} (h : At pat p l) : p + l.length = pat.length := by
  have := congrArg List.length h.drop
  rw [List.length_drop] at this
  have := h.pos
  have := h.le
  tb_start
theorem At.nil {p : Int} (h : At pat p []) : atI pat p = 0 ∧ p = pat.length := by
  have := h.len
  simp only [List.length_nil] at this
  exact ⟨by unfold atI; rw [if_neg (by tb_start)], by tb_start⟩
theorem At.cons {p : Int} {x : Int} {r : List Int} (h : At pat p (x :: r)) : atI pat p = x ∧ p < pat.length ∧ At pat (p + 1) r ∧ pat.getD p.toNat 0 = x := by
  have h1 := h.len
  simp only [List.length_cons] at h1
  have h2 := h.pos
  have hg : pat.getD p.toNat 0 = x := by
    have h3 : (pat.drop p.toNat)[0]? = some x := by rw [h.drop]; rfl
    rw [List.getElem?_drop] at h3
    simp only [Nat.add_zero] at h3
    rw [List.getD_eq_getElem?_getD, h3]
    rfl
  refine ⟨?_, by tb_start, ⟨by tb_start, by tb_start, ?_⟩, hg⟩
  · unfold atI; rw [if_pos (by tb_start)]; exact hg
  · rw [tn_succ h2, ← List.tail_drop, h.drop]
    rfl
theorem At.app {p : Int} {a b : List Int} (h : At pat p (a ++ b)) : At pat (p + a.length) b := by
  have h1 := h.len
  simp only [List.length_append] at h1
  have h2 := h.pos
  refine ⟨by tb_start, by tb_start, ?_⟩
  rw [Int.toNat_add_nat h2, ← List.drop_drop, h.drop, List.drop_left]
/-- the end of a single sign -/
theorem class_end_esc (A : Ax G P) {p x : Int} {rest : List Int} (hμ : μ.lookup dx = some (.inst (Fx text pat fs))) (hl : Fits pat.length) (h : At pat p (37 :: x :: rest)) (q : Q (.int (p + 2)) μ) : FS G (n+2) 133 [.obj dx, .int p] μ Q X := by
  have hp := h.pos
  obtain ⟨h1, h2, h3, _⟩ := h.cons
  obtain ⟨h4, h5, _⟩ := h3.cons
  refine m_class_end_c A ?_
  unfold m_class_end
  repeat' (first | kts_caught | (with_reducible refine at_k A (by assumption) (by assumption) ?hp ?_; (case hp => (first | assumption | tb_start))))
  all_goals first
    | (exfalso; tb_start)
    | exact ret_q q
theorem class_end_bad (A : Ax G P) {p : Int} (hμ : μ.lookup dx = some (.inst (Fx text pat fs))) (hl : Fits pat.length) (h : At pat p [37]) (q : X) : FS G (n+2) 133 [.obj dx, .int p] μ Q X := by
  have hp := h.pos
  obtain ⟨h1, h2, h3, _⟩ := h.cons
  obtain ⟨h4, h5⟩ := h3.nil
  refine m_class_end_c A ?_
  unfold m_class_end
  repeat' (first | kts_caught | (with_reducible refine at_k A (by assumption) (by assumption) ?hp ?_; (case hp => (first | assumption | tb_start))))
  all_goals first
    | (exfalso; tb_start)
    | exact q
theorem class_end_lit (A : Ax G P) {p x : Int} {rest : List Int} (hμ : μ.lookup dx = some (.inst (Fx text pat fs))) (hl : Fits pat.length) (h : At pat p (x :: rest)) (hx : x ≠ 37 ∧ x ≠ 91) (q : Q (.int (p + 1)) μ) : FS G (n+2) 133 [.obj dx, .int p] μ Q X := by
  have hp := h.pos
  obtain ⟨h1, h2, h3, _⟩ := h.cons
  refine m_class_end_c A ?_
  unfold m_class_end
  repeat' (first | kts_caught | (with_reducible refine at_k A (by assumption) (by assumption) ?hp ?_; (case hp => (first | assumption | tb_start))))
  all_goals first
    | (exfalso; tb_start)
    | exact ret_q q
/-- the inside of a set, its opening sign and its turning sign taken off -/
noncomputable def setIn (rest : List Int) : List Int := match rest with
  | 94 :: r => r
  | r => r
noncomputable def setOff (rest : List Int) : Int := match rest with
  | 94 :: _ => 1
  | _ => 0
theorem setIn_94 {r : List Int} : setIn (94 :: r) = r ∧ setOff (94 :: r) = 1 := ⟨rfl, rfl⟩
theorem setIn_ne {r : List Int} (h : r.head? ≠ some 94) : setIn r = r ∧ setOff r = 0 := by
  unfold setIn setOff
  split
  · simp at h
  · exact ⟨rfl, rfl⟩
theorem setLen_nil {f : Bool} : setLen [] f = none := by simp only [setLen]
theorem setLen_close {r : List Int} : setLen (93 :: r) false = some 1 := by
  cases r <;> simp [setLen]
theorem setLen_esc {x : Int} {r : List Int} {f : Bool} : setLen (37 :: x :: r) f = (setLen r false).map (· + 2) := by simp [setLen]
theorem setLen_esc1 {f : Bool} : setLen [37] f = none := by simp [setLen]
theorem setLen_one {c : Int} {r : List Int} {f : Bool} (h1 : ¬ (f = false ∧ c = 93)) (h2 : c ≠ 37) : setLen (c :: r) f = (setLen r false).map (· + 1) := by
  cases r with
  | nil => simp [setLen, h1]
  | cons x r => simp [setLen, h1, h2]
theorem class_end_set (A : Ax G P) {p : Int} {rest : List Int} (hμ : μ.lookup dx = some (.inst (Fx text pat fs))) (hl : Fits pat.length) (h : At pat p (91 :: rest))
    (q : ∀ m, setLen (setIn rest) true = some m → Q (.int (p + 1 + setOff rest + m)) μ) (qx : setLen (setIn rest) true = none → X) : FS G (n+2) 133 [.obj dx, .int p] μ Q X := by
  have hp := h.pos
  obtain ⟨h1, h2, h3, _⟩ := h.cons
  have hin : At pat (p + 1 + setOff rest) (setIn rest) ∧ (atI pat (p + 1) = 94 → setOff rest = 1) ∧ (atI pat (p + 1) ≠ 94 → setOff rest = 0) := by
    cases rest with
    | nil => exact ⟨(by simpa [setIn, setOff] using h3), (fun e => by rw [h3.nil.1] at e; cases e), (fun _ => rfl)⟩
    | cons c r =>
      obtain ⟨g1, g2, g3, _⟩ := h3.cons
      by_cases hc : c = 94
      · subst hc
        exact ⟨g3, fun _ => rfl, fun e => absurd g1 e⟩
      · obtain ⟨e1, e2⟩ := setIn_ne (r := c :: r) (by simpa using hc)
        rw [e1, e2]
        exact ⟨by simpa using h3, fun e => absurd (g1.symm.trans e) hc, fun _ => rfl⟩
  obtain ⟨hin, ho1, ho2⟩ := hin
  refine m_class_end_c A ?_
  unfold m_class_end
  repeat' (first | kts_caught | (with_reducible refine at_k A (by assumption) (by assumption) ?hp ?_; (case hp => (first | assumption | tb_start))))
  all_goals first
    | (exfalso; tb_start)
    | skip
  all_goals
    refine vs_whl_loop (ι := List Int × Bool × Int × Option D) (fun i => i.1.length) (fun i => [some (.obj dx), some (.int i.2.2.1), some (.int (atI pat p)), some (.bool i.2.1), i.2.2.2, none, none, none, none, none, none]) (fun _ => μ)
      (fun i => At pat i.2.2.1 i.1 ∧ (∀ m, setLen i.1 i.2.1 = some m → Q (.int (i.2.2.1 + m)) μ) ∧ (setLen i.1 i.2.1 = none → X)) (setIn rest, true, p + 1 + setOff rest, none) ?_ rfl ⟨hin, q, qx⟩ ?_
    · first
        | (rw [ho1 (by assumption)]; rfl)
        | (rw [ho2 (by assumption), Int.add_zero]; rfl)
    rintro ⟨l, f, p', e⟩ ⟨a1, a2, a3⟩ W ih
    simp only at a1 a2 a3 ih ⊢
    have hp' := a1.pos
    have hlen := a1.len
    cases l with
    | nil =>
      obtain ⟨b1, b2⟩ := a1.nil
      repeat' (first | kts_caught | (with_reducible refine at_k A (by assumption) (by assumption) ?hp ?_; (case hp => (first | assumption | tb_start))))
      all_goals first
        | exact a3 setLen_nil
        | (exfalso; tb_start)
    | cons c r =>
      obtain ⟨b1, b2, b3, b4⟩ := a1.cons
      repeat' (first | kts_caught | (with_reducible refine at_k A (by assumption) (by assumption) ?hp ?_; (case hp => (first | assumption | tb_start))))
      all_goals first
        | (exfalso; tb_start)
        | (refine ret_q ?_
           have e93 : c = 93 := by tb_start
           subst e93
           have ef : f = false := by assumption
           subst ef
           exact a2 1 setLen_close)
        | (have e37 : c = 37 := by tb_start
           subst e37
           cases r with
           | nil =>
             have hx : p' + 1 < pat.length := by assumption
             simp only [List.length_cons, List.length_nil] at hlen
             tb_start
           | cons x r =>
             refine ih (r, false, p' + 1 + 1, _) ⟨b3.cons.2.2.1, fun m hm => ?_, fun hn => a3 (by rw [setLen_esc, hn]; rfl)⟩ (by simp only [List.length_cons]; tb_start)
             have t := a2 (m + 2) (by rw [setLen_esc, hm]; rfl)
             have e : p' + ((m + 2 : Nat) : Int) = p' + 1 + 1 + m := by tb_start
             rw [e] at t
             exact t)
        | (have e37 : c = 37 := by tb_start
           subst e37
           cases r with
           | cons x r =>
             have hx : ¬ p' + 1 < pat.length := by assumption
             simp only [List.length_cons] at hlen
             tb_start
           | nil => exact ih ([], false, p' + 1, _) ⟨b3, fun m hm => (by rw [setLen_nil] at hm; cases hm), fun hn => a3 setLen_esc1⟩ (by simp))
        | (have n37 : c ≠ 37 := by tb_start
           have nf : ¬ (f = false ∧ c = 93) := by
             rintro ⟨rfl, rfl⟩
             first | tb_start | simp_all
           refine ih (r, false, p' + 1, _) ⟨b3, fun m hm => ?_, fun hn => a3 (by rw [setLen_one nf n37, hn]; rfl)⟩ (by simp only [List.length_cons]; tb_start)
           have t := a2 (m + 1) (by rw [setLen_one nf n37, hm]; rfl)
           have e : p' + ((m + 1 : Nat) : Int) = p' + 1 + m := by tb_start
           rw [e] at t
           exact t)
        | trace_state
end
noncomputable def inSeg (c : Int) : List Int → Bool
  | [] => false
  | [a] => decide (a = c)
  | a :: x :: r => if a = 37 then inClass c x || inSeg c r else match r with
    | b :: r' => if x = 45 then (decide (a ≤ c) && decide (c ≤ b)) || inSeg c r' else decide (a = c) || inSeg c (x :: b :: r')
    | [] => decide (a = c) || inSeg c [x]
noncomputable def segOk : List Int → Bool
  | [] => true
  | [a] => decide (a ≠ 37)
  | a :: x :: r => if a = 37 then segOk r else match r with
    | b :: r' => if x = 45 then segOk r' else segOk (x :: b :: r')
    | [] => segOk [x]
theorem inSeg_one {c a : Int} : inSeg c [a] = decide (a = c) := by simp only [inSeg]
theorem inSeg_esc {c x : Int} {r : List Int} : inSeg c (37 :: x :: r) = (inClass c x || inSeg c r) := by cases r <;> simp only [inSeg, if_true]
theorem inSeg_lit2 {c a x : Int} (ha : a ≠ 37) : inSeg c [a, x] = (decide (a = c) || inSeg c [x]) := by simp only [inSeg, if_neg ha]
theorem inSeg_lit {c a x b : Int} {r : List Int} (ha : a ≠ 37) (hx : x ≠ 45) : inSeg c (a :: x :: b :: r) = (decide (a = c) || inSeg c (x :: b :: r)) := by
  conv => lhs; unfold inSeg
  simp only [if_neg ha, if_neg hx]
theorem inSeg_rng {c a b : Int} {r : List Int} (ha : a ≠ 37) : inSeg c (a :: 45 :: b :: r) = ((decide (a ≤ c) && decide (c ≤ b)) || inSeg c r) := by
  conv => lhs; unfold inSeg
  simp only [if_neg ha, if_true]
theorem segOk_one {a : Int} : segOk [a] = decide (a ≠ 37) := by simp only [segOk]
theorem segOk_esc {x : Int} {r : List Int} : segOk (37 :: x :: r) = segOk r := by cases r <;> simp only [segOk, if_true]
theorem segOk_lit2 {a x : Int} (ha : a ≠ 37) : segOk [a, x] = segOk [x] := by simp only [segOk, if_neg ha]
theorem segOk_lit {a x b : Int} {r : List Int} (ha : a ≠ 37) (hx : x ≠ 45) : segOk (a :: x :: b :: r) = segOk (x :: b :: r) := by
  conv => lhs; unfold segOk
  simp only [if_neg ha, if_neg hx]
theorem segOk_rng {a b : Int} {r : List Int} (ha : a ≠ 37) : segOk (a :: 45 :: b :: r) = segOk r := by
  conv => lhs; unfold segOk
  simp only [if_neg ha, if_true]
section
variable {G : Gx} {P : Params} {n : Nat} {μ : Mu} {Q : D → Mu → Prop} {X : Prop} {dx : Addr} {text pat : List Int} {fs : List D}
theorem in_set_k (A : Ax G P) {c p last : Int} {rest seg r2 : List Int} (hμ : μ.lookup dx = some (.inst (Fx text pat fs))) (hl : Fits pat.length) (h : At pat p (91 :: rest)) (hs : setIn rest = seg ++ 93 :: r2) (hok : segOk seg = true)
    (hlast : last = p + 1 + setOff rest + seg.length) (q : Q (.bool (if setOff rest = 1 then !inSeg c seg else inSeg c seg)) μ) : FS G (n+5) 140 [.obj dx, .int c, .int p, .int last] μ Q X := by
  have hp := h.pos
  obtain ⟨h1, h2, h3, _⟩ := h.cons
  have hin : At pat (p + 1 + setOff rest) (setIn rest) ∧ ((atI pat (p + 1) = 94 ∧ setOff rest = 1) ∨ (atI pat (p + 1) ≠ 94 ∧ setOff rest = 0)) := by
    cases rest with
    | nil => exact ⟨(by simpa [setIn, setOff] using h3), .inr ⟨(by rw [h3.nil.1]; decide), rfl⟩⟩
    | cons c r =>
      obtain ⟨g1, g2, g3, _⟩ := h3.cons
      by_cases hc : c = 94
      · subst hc
        exact ⟨g3, .inl ⟨g1, rfl⟩⟩
      · obtain ⟨e1, e2⟩ := setIn_ne (r := c :: r) (by simpa using hc)
        rw [e1, e2]
        exact ⟨by simpa using h3, .inr ⟨by rw [g1]; exact hc, rfl⟩⟩
  obtain ⟨hin, ho⟩ := hin
  rw [hs] at hin
  refine m_in_set_c A ?_
  refine cut_k 3 (fun loc ν => ν = μ ∧ loc = [some (.obj dx), some (.int c), some (.int (p + 1 + setOff rest)), some (.int last), some (.bool (!decide (setOff rest = 1))), none, none, none, none, none]) (fun K hK _ => ?_) fun loc ν hR => ?_
  · repeat' (first | kts_caught | (with_reducible refine at_k A (by assumption) (by assumption) ?hp ?_; (case hp => (first | assumption | tb_start))))
    all_goals
      rcases ho with ⟨o1, o2⟩ | ⟨o1, o2⟩ <;> first
      | (exfalso; tb_start)
      | (refine hK _ _ ⟨rfl, ?_⟩
         rw [o2]
         first | rfl | (rw [Int.add_zero]; rfl))
  · obtain ⟨e1, e2⟩ := hR
    rw [e1, e2]
    clear e1 e2
    obtain ⟨w, hw⟩ : ∃ w : Bool, w = !decide (setOff rest = 1) := ⟨_, rfl⟩
    have q' : Q (.bool (if inSeg c seg then w else !w)) μ := by
      rw [hw]
      by_cases h1 : setOff rest = 1 <;> cases hq : inSeg c seg <;> simpa [h1, hq] using q
    rw [← hw]
    repeat' kts_caught
    refine vs_whl_loop (ι := List Int × Int × Option D) (fun i => i.1.length) (fun i => [some (.obj dx), some (.int c), some (.int i.2.1), some (.int last), some (.bool w), i.2.2, none, none, none, none]) (fun _ => μ)
      (fun i => At pat i.2.1 (i.1 ++ 93 :: r2) ∧ i.2.1 + i.1.length = last ∧ segOk i.1 = true ∧ Q (.bool (if inSeg c i.1 then w else !w)) μ) (seg, p + 1 + setOff rest, none) rfl rfl
      ⟨hin, hlast.symm, hok, q'⟩ ?_
    clear q q'
    rintro ⟨l, p', e⟩ ⟨a1, a2, a3, a4⟩ W ih
    simp only at a1 a2 a3 a4 ih ⊢
    have hp' := a1.pos
    have hlen := a1.len
    clear hin hlast hok hs h3 hw
    rcases l with _ | ⟨a, _ | ⟨x, r⟩⟩
    · simp only [List.length_nil] at a2
      have hcl : True := trivial
      have b5 : True := trivial
      repeat' (first | kts_caught | (with_reducible refine at_k A (by assumption) (by assumption) ?hp ?_; (case hp => (first | assumption | tb_start))))
      all_goals first
        | (exfalso; tb_start)
        | exact ret_q (by simpa [inSeg] using a4)
    · obtain ⟨b1, b2, b3, b4⟩ := a1.cons
      obtain ⟨b5, b6, b7, b8⟩ := b3.cons
      simp only [List.length_cons, List.length_nil] at a2
      have ha : a ≠ 37 := by rw [segOk_one] at a3; exact of_decide_eq_true a3
      rw [inSeg_one] at a4
      by_cases hac : a = c
      · repeat' (first | kts_caught | (with_reducible refine at_k A (by assumption) (by assumption) ?hp ?_; (case hp => (first | assumption | tb_start))))
        all_goals first
          | (exfalso; tb_start)
          | exact ret_q (by rw [decide_eq_true hac] at a4; exact a4)
      · repeat' (first | kts_caught | (with_reducible refine at_k A (by assumption) (by assumption) ?hp ?_; (case hp => (first | assumption | tb_start))))
        all_goals first
          | (exfalso; tb_start)
          | exact ih ([], p' + 1, _) ⟨b3, by simp only [List.length_nil]; tb_start, rfl, by rw [decide_eq_false hac] at a4; exact a4⟩ (by simp)
    · obtain ⟨b1, b2, b3, b4⟩ := a1.cons
      obtain ⟨b5, b6, b7, b8⟩ := b3.cons
      simp only [List.length_cons] at a2
      by_cases ha : a = 37
      · subst ha
        have e1 : segOk r = true := by rw [segOk_esc] at a3; exact a3
        rw [inSeg_esc] at a4
        cases hcl : inClass c x with
        | true =>
          repeat' (first | kts_caught | (with_reducible refine at_k A (by assumption) (by assumption) ?hp ?_; (case hp => (first | assumption | tb_start))) | (with_reducible refine in_class_k A ?_; rw [b5, hcl]))
          all_goals first
            | (exfalso; tb_start)
            | exact ret_q (by rw [hcl] at a4; exact a4)
        | false =>
          repeat' (first | kts_caught | (with_reducible refine at_k A (by assumption) (by assumption) ?hp ?_; (case hp => (first | assumption | tb_start))) | (with_reducible refine in_class_k A ?_; rw [b5, hcl]))
          all_goals first
            | (exfalso; tb_start)
            | exact ih (r, p' + 1 + 1, _) ⟨b7, by simp only; tb_start, e1, by rw [hcl] at a4; exact a4⟩ (by simp only [List.length_cons]; tb_start)
      · rcases r with _ | ⟨b, r⟩
        · simp only [List.length_nil] at a2
          have e1 : segOk [x] = true := by rw [segOk_lit2 ha] at a3; exact a3
          rw [inSeg_lit2 ha] at a4
          by_cases hac : a = c
          · repeat' (first | kts_caught | (with_reducible refine at_k A (by assumption) (by assumption) ?hp ?_; (case hp => (first | assumption | tb_start))))
            all_goals first
              | (exfalso; tb_start)
              | exact ret_q (by rw [decide_eq_true hac] at a4; exact a4)
          · repeat' (first | kts_caught | (with_reducible refine at_k A (by assumption) (by assumption) ?hp ?_; (case hp => (first | assumption | tb_start))))
            all_goals first
              | (exfalso; tb_start)
              | exact ih ([x], p' + 1, _) ⟨b3, by simp only [List.length_cons, List.length_nil]; tb_start, e1, by rw [decide_eq_false hac] at a4; exact a4⟩ (by simp)
        · obtain ⟨b9, b10, b11, b12⟩ := b7.cons
          simp only [List.length_cons] at a2
          have eg : pat.getD (p' + 2).toNat 0 = b := by rw [← b12]; congr 2; tb_start
          by_cases hx : x = 45
          · subst hx
            have e1 : segOk r = true := by rw [segOk_rng ha] at a3; exact a3
            rw [inSeg_rng ha] at a4
            by_cases hac : a ≤ c ∧ c ≤ b
            · repeat' (first | kts_caught | (with_reducible refine at_k A (by assumption) (by assumption) ?hp ?_; (case hp => (first | assumption | tb_start))))
              all_goals first
                | (exfalso; tb_start)
                | exact ret_q (by rw [decide_eq_true hac.1, decide_eq_true hac.2] at a4; exact a4)
            · have hd : (decide (a ≤ c) && decide (c ≤ b)) = false := by
                rw [← Bool.decide_and]; exact decide_eq_false hac
              repeat' (first | kts_caught | (with_reducible refine at_k A (by assumption) (by assumption) ?hp ?_; (case hp => (first | assumption | tb_start))))
              all_goals first
                | (exfalso; tb_start)
                | exact ih (r, p' + 2 + 1, _) ⟨by have e2 : p' + 2 + 1 = p' + 1 + 1 + 1 := by tb_start
                                                  simp only [e2]; exact b11, by simp only; tb_start, e1, by rw [hd] at a4; exact a4⟩ (by simp only [List.length_cons]; tb_start)
          · have e1 : segOk (x :: b :: r) = true := by rw [segOk_lit ha hx] at a3; exact a3
            rw [inSeg_lit ha hx] at a4
            by_cases hac : a = c
            · repeat' (first | kts_caught | (with_reducible refine at_k A (by assumption) (by assumption) ?hp ?_; (case hp => (first | assumption | tb_start))))
              all_goals first
                | (exfalso; tb_start)
                | exact ret_q (by rw [decide_eq_true hac] at a4; exact a4)
            · repeat' (first | kts_caught | (with_reducible refine at_k A (by assumption) (by assumption) ?hp ?_; (case hp => (first | assumption | tb_start))))
              all_goals first
                | (exfalso; tb_start)
                | exact ih (x :: b :: r, p' + 1, _) ⟨b3, by simp only [List.length_cons]; tb_start, e1, by rw [decide_eq_false hac] at a4; exact a4⟩ (by simp only [List.length_cons]; tb_start)
end
/-- a single class as it is written -/
inductive Sg where
  | lit (x : Int) | esc (x : Int) | dot | set (off : Bool) (seg : List Int)
noncomputable def Sg.signs : Sg → List Int
  | .lit x => [x]
  | .esc x => [37, x]
  | .dot => [46]
  | .set off seg => 91 :: ((if off then [94] else []) ++ (seg ++ [93]))
noncomputable def Sg.has (c : Int) : Sg → Bool
  | .lit x => decide (x = c)
  | .esc x => inClass c x
  | .dot => true
  | .set off seg => if off then !inSeg c seg else inSeg c seg
structure SetOk (off : Bool) (seg : List Int) : Prop where
  okSeg : segOk seg = true
  len : ∀ r, setLen (seg ++ 93 :: r) true = some (seg.length + 1)
  head : off = false → seg.head? ≠ some 94 ∧ seg ≠ []
noncomputable def Sg.ok : Sg → Prop
  | .lit x => x ≠ 37 ∧ x ≠ 91 ∧ x ≠ 46 ∧ x ≠ 40 ∧ x ≠ 41 ∧ x ≠ 36 ∧ x ≠ 42 ∧ x ≠ 43 ∧ x ≠ 45 ∧ x ≠ 63
  | .esc x => x ≠ 98 ∧ x ≠ 102 ∧ isDigit x = false
  | .dot => True
  | .set off seg => SetOk off seg
theorem SetOk.setIn {off : Bool} {seg r : List Int} (h : SetOk off seg) : setIn ((if off then [94] else []) ++ (seg ++ 93 :: r)) = seg ++ 93 :: r ∧ setOff ((if off then [94] else []) ++ (seg ++ 93 :: r)) = if off then 1 else 0 := by
  cases off with
  | true => exact ⟨rfl, rfl⟩
  | false =>
    obtain ⟨h1, h2⟩ := h.head rfl
    have := setIn_ne (r := seg ++ 93 :: r) (by cases seg with | nil => exact absurd rfl h2 | cons a l => simpa using h1)
    simpa using this
section
variable {G : Gx} {P : Params} {n : Nat} {μ : Mu} {Q : D → Mu → Prop} {X : Prop} {dx : Addr} {text pat : List Int} {fs : List D}
theorem set_end_k (A : Ax G P) {p : Int} {off : Bool} {seg r : List Int} (hμ : μ.lookup dx = some (.inst (Fx text pat fs))) (hl : Fits pat.length) (ok : SetOk off seg) (h : At pat p ((Sg.set off seg).signs ++ r))
    (q : Q (.int (p + ((Sg.set off seg).signs.length : Nat))) μ) : FS G (n+2) 133 [.obj dx, .int p] μ Q X := by
  have h' : At pat p (91 :: ((if off then [94] else []) ++ (seg ++ 93 :: r))) := by simpa [Sg.signs] using h
  obtain ⟨e1, e2⟩ := ok.setIn (r := r)
  refine class_end_set A hμ hl h' (fun m hm => ?_) fun hn => ?_
  · rw [e1, ok.len] at hm
    cases hm
    rw [e2]
    have e : p + 1 + (if off = true then (1 : Int) else 0) + ((seg.length + 1 : Nat) : Int) = p + ((Sg.set off seg).signs.length : Nat) := by
      cases off <;> simp [Sg.signs] <;> tb_start
    rw [e]
    exact q
  · rw [e1, ok.len] at hn
    cases hn
theorem class_end_k (A : Ax G P) {p : Int} {g : Sg} {r : List Int} (hμ : μ.lookup dx = some (.inst (Fx text pat fs))) (hl : Fits pat.length) (ok : g.ok) (h : At pat p (g.signs ++ r)) (q : Q (.int (p + (g.signs.length : Nat))) μ) :
    FS G (n+2) 133 [.obj dx, .int p] μ Q X := by
  cases g with
  | lit x => exact class_end_lit A hμ hl h ⟨ok.1, ok.2.1⟩ q
  | esc x => exact class_end_esc A hμ hl h q
  | dot => exact class_end_lit A hμ hl h (by decide) q
  | set off seg => exact set_end_k A hμ hl ok h q
theorem set_in_k (A : Ax G P) {c p : Int} {off : Bool} {seg r : List Int} (hμ : μ.lookup dx = some (.inst (Fx text pat fs))) (hl : Fits pat.length) (ok : SetOk off seg) (h : At pat p ((Sg.set off seg).signs ++ r))
    (q : Q (.bool ((Sg.set off seg).has c)) μ) {e : Int} (he : e = p + ((Sg.set off seg).signs.length : Nat) - 1) : FS G (n+5) 140 [.obj dx, .int c, .int p, .int e] μ Q X := by
  have h' : At pat p (91 :: ((if off then [94] else []) ++ (seg ++ 93 :: r))) := by simpa [Sg.signs] using h
  obtain ⟨e1, e2⟩ := ok.setIn (r := r)
  refine in_set_k A hμ hl h' e1 ok.okSeg ?_ ?_
  · rw [he, e2]
    cases off <;> simp [Sg.signs] <;> tb_start
  · rw [e2]
    cases off <;> simpa [Sg.has] using q
/-- does the class take the text's sign at s -/
noncomputable def oneAt (text : List Int) (s : Int) (g : Sg) : Bool := if s < text.length then g.has (text.getD s.toNat 0) else false
theorem single_k (A : Ax G P) {s p e : Int} {g : Sg} {r : List Int} (hμ : μ.lookup dx = some (.inst (Fx text pat fs))) (hl : Fits pat.length) (ht : Fits text.length) (ok : g.ok) (h : At pat p (g.signs ++ r)) (hs : 0 ≤ s) (he : e = p + (g.signs.length : Nat))
    (q : Q (.bool (oneAt text s g)) μ) : FS G (n+6) 147 [.obj dx, .int s, .int p, .int e] μ Q X := by
  unfold oneAt at q
  have hp := h.pos
  refine m_is_single_c A ?_
  unfold m_is_single
  cases g with
  | lit x =>
    obtain ⟨h1, h2, h3, h4⟩ := At.cons (x := x) h
    obtain ⟨k1, k2, k3, _⟩ := ok
    repeat' kts_caught
    all_goals first
      | (exfalso; tb_start)
      | (rw [if_neg (by tb_start)] at q; exact ret_q q)
      | (rw [if_pos (by tb_start)] at q; rw [h4]; exact ret_q q)
  | esc x =>
    obtain ⟨h1, h2, h3, h4⟩ := At.cons (x := 37) h
    obtain ⟨h5, h6, h7, h8⟩ := h3.cons
    repeat' (first | kts_caught | (with_reducible refine in_class_k A ?_; rw [h8]))
    all_goals first
      | (exfalso; tb_start)
      | (rw [if_neg (by tb_start)] at q; exact ret_q q)
      | (rw [if_pos (by tb_start)] at q; exact ret_q q)
  | dot =>
    obtain ⟨h1, h2, h3, h4⟩ := At.cons (x := 46) h
    repeat' kts_caught
    all_goals first
      | (exfalso; tb_start)
      | (rw [if_neg (by tb_start)] at q; exact ret_q q)
      | (rw [if_pos (by tb_start)] at q; exact ret_q q)
  | set off seg =>
    have h' : At pat p (91 :: ((if off then [94] else []) ++ (seg ++ 93 :: r))) := by simpa [Sg.signs] using h
    have ok' : SetOk off seg := ok
    obtain ⟨h1, h2, h3, h4⟩ := h'.cons
    repeat' (first | kts_caught | (with_reducible refine set_in_k A (by assumption) (by assumption) ok' h ?_ (by rw [he])))
    all_goals first
      | (exfalso; tb_start)
      | (rw [if_neg (by tb_start)] at q; exact ret_q q)
      | (rw [if_pos (by tb_start)] at q; exact ret_q q)
end
@[reducible] noncomputable def optD : Option Int → D
  | none => .none
  | some i => .int i
/-- the end of a balance, from a place on, so deep -/
noncomputable def bal (b e : Int) : List Int → Int → Int → Option Int
  | [], _, _ => none
  | c :: r, s, d => if c = e then (if d - 1 = 0 then some (s + 1) else bal b e r (s + 1) (d - 1)) else if c = b then bal b e r (s + 1) (d + 1) else bal b e r (s + 1) d
noncomputable def balanced (text : List Int) (s b e : Int) : Option Int := if s < text.length ∧ text.getD s.toNat 0 = b then bal b e (text.drop (s.toNat + 1)) (s + 1) 1 else none
/-- an earlier capture again -/
noncomputable def repF (text : List Int) (s : Int) (h : Int × Int) : Option Int := if h.2 = -2 then none else if cut text h.1.toNat (h.1 + h.2).toNat = cut text s.toNat (s + h.2).toNat then some (s + h.2) else none
theorem cut_len {l : List Int} {a b : Nat} (h : a ≤ b) (hb : b ≤ l.length) : (cut l a b).length = b - a := by
  unfold cut
  rw [List.length_drop, List.length_take, Nat.min_eq_left hb]
theorem cut_len_le {l : List Int} {a b : Nat} : (cut l a b).length ≤ l.length - a := by
  unfold cut
  rw [List.length_drop, List.length_take]
  exact Nat.sub_le_sub_right (Nat.min_le_right _ _) _
/-- a piece that is longer than what is left -/
theorem cut_ne {l : List Int} {s a b : Int} {x : Nat} (hs : 0 ≤ s) (hsl : s ≤ l.length) (ha : 0 ≤ a) (hb : 0 ≤ b) (hab : a + b ≤ l.length) (hlt : l.length - s < b) : cut l a.toNat (a + b).toNat ≠ cut l s.toNat x := by
  obtain ⟨s, rfl⟩ := Int.eq_ofNat_of_zero_le hs
  obtain ⟨a, rfl⟩ := Int.eq_ofNat_of_zero_le ha
  obtain ⟨b, rfl⟩ := Int.eq_ofNat_of_zero_le hb
  intro e
  have e := congrArg List.length e
  rw [show ((a : Int) + (b : Int)).toNat = a + b from rfl, Int.toNat_natCast, Int.toNat_natCast, cut_len (Nat.le_add_right a b) (Int.ofNat_le.mp hab), Nat.add_sub_cancel_left] at e
  have e2 := cut_len_le (l := l) (a := s) (b := x)
  rw [← e] at e2
  omega
section
variable {G : Gx} {P : Params} {n : Nat} {μ : Mu} {Q : D → Mu → Prop} {X : Prop} {dx : Addr} {text pat : List Int} {fs : List D}
theorem balance_k (A : Ax G P) {s p b e : Int} {r : List Int} (hμ : μ.lookup dx = some (.inst (Fx text pat fs))) (hl : Fits pat.length) (ht : Fits text.length) (h : At pat p (b :: e :: r)) (hs : 0 ≤ s)
    (q : Q (optD (balanced text s b e)) μ) : FS G (n+1) 175 [.obj dx, .int s, .int p] μ Q X := by
  have hp := h.pos
  obtain ⟨h1, h2, h3, h4⟩ := h.cons
  obtain ⟨h5, h6, h7, h8⟩ := h3.cons
  refine m_match_balance_c A ?_
  unfold m_match_balance
  unfold balanced at q
  by_cases hb : s < text.length ∧ text.getD s.toNat 0 = b
  · rw [if_pos hb] at q
    obtain ⟨hb1, hb2⟩ := hb
    repeat' kts_caught
    all_goals first
      | (exfalso; omega)
      | skip
    refine vs_whl_loop (ι := List Int × Int × Int × Option D) (fun i => i.1.length) (fun i => [some (.obj dx), some (.int i.2.1), some (.int p), some (.int b), some (.int e), some (.int i.2.2.1), i.2.2.2, none, none]) (fun _ => μ)
      (fun i => At text i.2.1 i.1 ∧ Q (optD (bal b e i.1 i.2.1 i.2.2.1)) μ) (text.drop (s.toNat + 1), s + 1, 1, none) (by rw [← h4, ← h8]; rfl) rfl
      ⟨⟨by simp only; omega, by simp only; omega, by simp only; congr 1; omega⟩, q⟩ ?_
    rintro ⟨l, s', d, e'⟩ ⟨a1, a2⟩ W ih
    simp only at a1 a2 ih ⊢
    have hs' := a1.pos
    have hlen := a1.len
    cases l with
    | nil =>
      obtain ⟨b1, b2⟩ := a1.nil
      repeat' kts_caught
      all_goals first
        | (exfalso; omega)
        | exact ret_q a2
    | cons c r =>
      obtain ⟨b1, b2, b3, b4⟩ := a1.cons
      simp only [bal] at a2
      repeat' kts_caught
      all_goals first
        | (exfalso; omega)
        | (rw [if_pos (by omega), if_pos (by omega)] at a2; exact ret_q a2)
        | (rw [if_pos (by omega), if_neg (by omega)] at a2; exact ih (r, s' + 1, d - 1, _) ⟨b3, a2⟩ (by simp only [List.length_cons]; omega))
        | (rw [if_neg (by omega), if_pos (by omega)] at a2; exact ih (r, s' + 1, d + 1, _) ⟨b3, a2⟩ (by simp only [List.length_cons]; omega))
        | (rw [if_neg (by omega), if_neg (by omega)] at a2; exact ih (r, s' + 1, d, _) ⟨b3, a2⟩ (by simp only [List.length_cons]; omega))
  · rw [if_neg hb] at q
    repeat' kts_caught
    all_goals first
      | (exfalso; omega)
      | exact ret_q q
theorem balance_bad (A : Ax G P) {s p b : Int} (hμ : μ.lookup dx = some (.inst (Fx text pat fs))) (hl : Fits pat.length) (h : At pat p [b]) (q : X) : FS G (n+1) 175 [.obj dx, .int s, .int p] μ Q X := by
  have hp := h.pos
  obtain ⟨h1, h2, h3, h4⟩ := h.cons
  obtain ⟨h5, h6⟩ := h3.nil
  refine m_match_balance_c A ?_
  unfold m_match_balance
  repeat' kts_caught
  all_goals first
    | (exfalso; omega)
    | exact q
/-- on an edge -/
noncomputable def onEdge (text : List Int) (s : Int) (g : Sg) : Bool := !g.has (if s = 0 then 0 else text.getD (s - 1).toNat 0) && g.has (if s < text.length then text.getD s.toNat 0 else 0)
theorem frontier_k (A : Ax G P) {s p : Int} {off : Bool} {seg r : List Int} (hμ : μ.lookup dx = some (.inst (Fx text pat fs))) (hl : Fits pat.length) (ht : Fits text.length) (ok : SetOk off seg) (h : At pat p ((Sg.set off seg).signs ++ r)) (hs : 0 ≤ s) (hst : s ≤ text.length)
    (q : Q (.tup [if onEdge text s (.set off seg) then .int s else .none, .int (p + ((Sg.set off seg).signs.length : Nat))]) μ) : FS G (n+6) 182 [.obj dx, .int s, .int p] μ Q X := by
  have hp := h.pos
  have h' : At pat p (91 :: ((if off then [94] else []) ++ (seg ++ 93 :: r))) := by simpa [Sg.signs] using h
  obtain ⟨h1, h2, h3, h4⟩ := h'.cons
  refine m_match_frontier_c A ?_
  unfold m_match_frontier
  unfold onEdge at q
  generalize hE : Sg.set off seg = g at *
  have okg : g.ok := by rw [← hE]; exact ok
  have inset : ∀ {c : Int} {Q' : D → Mu → Prop} {X' : Prop} (q' : Q' (.bool (g.has c)) μ), FS G (n+5) 140 [.obj dx, .int c, .int p, .int (p + (g.signs.length : Nat) - 1)] μ Q' X' := by
    intro c Q' X' q'
    refine set_in_k A (off := off) (seg := seg) (r := r) hμ hl ok (by rw [hE]; exact h) ?_ (by rw [hE])
    rw [hE]
    exact q'
  repeat' (first | kts_caught | (with_reducible refine at_k A (by assumption) (by assumption) ?hp ?_; (case hp => (first | assumption | omega))) | (with_reducible refine class_end_k A (by assumption) (by assumption) okg h ?_) | (with_reducible refine inset ?_))
  all_goals first
    | (exfalso; omega)
    | ((have e : (!g.has (if s = 0 then 0 else text.getD (s - 1).toNat 0) && g.has (if s < text.length then text.getD s.toNat 0 else 0)) = true := by simp_all); rw [e] at q; exact ret_q q)
    | ((have e : (!g.has (if s = 0 then 0 else text.getD (s - 1).toNat 0) && g.has (if s < text.length then text.getD s.toNat 0 else 0)) = false := by simp_all); rw [e] at q; exact ret_q q)
theorem frontier_bad (A : Ax G P) {s p : Int} (hμ : μ.lookup dx = some (.inst (Fx text pat fs))) (hl : Fits pat.length) (h : At pat p []) (q : X) : FS G (n+2) 182 [.obj dx, .int s, .int p] μ Q X := by
  have hp := h.pos
  obtain ⟨h1, h2⟩ := h.nil
  refine m_match_frontier_c A ?_
  unfold m_match_frontier
  repeat' (first | kts_caught | (with_reducible refine at_k A (by assumption) (by assumption) ?hp ?_; (case hp => (first | assumption | omega))))
  all_goals first
    | (exfalso; omega)
    | exact q
theorem capture_again (A : Ax G P) {s digit : Int} {a : Addr} {st le : List Int} {dep lev : Int} (hμ : μ.lookup dx = some (.inst (Fx text pat [.int 60, .int dep, .int lev, .lst (st.map .int), .cel a]))) (ha : μ.lookup a = some (.lst (le.map .int)))
    (ht : Fits text.length) (h0 : 0 ≤ digit - 49) (h1 : digit - 49 < lev) (h2 : lev ≤ st.length) (h3 : lev ≤ le.length) (hfs : Fits st.length) (hfl : Fits le.length) (hs : 0 ≤ s) (hst : s ≤ text.length)
    (hv : le.getD (digit - 49).toNat 0 = -2 ∨ (0 ≤ le.getD (digit - 49).toNat 0 ∧ 0 ≤ st.getD (digit - 49).toNat 0 ∧ st.getD (digit - 49).toNat 0 + le.getD (digit - 49).toNat 0 ≤ text.length))
    (q : Q (optD (repF text s (st.getD (digit - 49).toNat 0, le.getD (digit - 49).toNat 0))) μ) : FS G (n+1) 224 [.obj dx, .int s, .int digit] μ Q X := by
  refine m_match_capture_c A ?_
  unfold m_match_capture
  unfold repF at q
  simp only at q
  rcases hv with hv | ⟨v1, v2, v3⟩
  · rw [if_pos hv] at q
    repeat' kts_caught
    all_goals first
      | (exfalso; omega)
      | exact ret_q q
  · rw [if_neg (by omega)] at q
    repeat' kts_caught
    all_goals first
      | (exfalso; omega)
      | (rw [if_pos (by assumption)] at q; exact ret_q q)
      | (rw [if_neg (by assumption)] at q; exact ret_q q)
      | (rw [if_neg (cut_ne hs hst v2 v1 v3 (by assumption))] at q; exact ret_q q)
theorem capture_bad (A : Ax G P) {s digit : Int} {fs : List D} {dep lev : Int} (hμ : μ.lookup dx = some (.inst (Fx text pat (.int 60 :: .int dep :: .int lev :: fs)))) (hd : digit - 49 < 0 ∨ lev ≤ digit - 49) (q : X) : FS G (n+1) 224 [.obj dx, .int s, .int digit] μ Q X := by
  refine m_match_capture_c A ?_
  unfold m_match_capture
  rcases hd with hd | hd
  · repeat' kts_caught
    all_goals first
      | exact q
      | (exfalso; omega)
  · repeat' kts_caught
    all_goals first
      | exact q
      | (exfalso; omega)
end
/-- the parts of a pattern -/
inductive Pt where
  | one (g : Sg) (fl : List Int) (q : Int)
  | opn | cls | spot
  | again (k : Int)
  | pair (b e : Int)
  | edge (off : Bool) (seg fl : List Int)
  | stop
noncomputable def quant (q : Int) : List Int := if q = 0 then [] else if q = 1 then [42] else if q = 2 then [43] else if q = 3 then [45] else [63]
noncomputable def Pt.signs : Pt → List Int
  | .one g _ q => g.signs ++ quant q
  | .opn => [40]
  | .cls => [41]
  | .spot => [40, 41]
  | .again k => [37, 49 + k]
  | .pair b e => [37, 98, b, e]
  | .edge off seg _ => 37 :: 102 :: (Sg.set off seg).signs
  | .stop => [36]
noncomputable def sg : List Pt → List Int
  | [] => []
  | p :: r => p.signs ++ sg r
/-- captures: where, and how long; -1: still open; -2: a place -/
noncomputable abbrev Held := List (Int × Int)
noncomputable def openB (x : Int × Int) : Bool := decide (x.2 = -1)
noncomputable def lastBy {α : Type} (p : α → Bool) (l : List α) (d : α) : Option Nat := ((List.range l.length).filter fun k => p (l.getD k d)).getLast?
noncomputable def closeH (h : Held) (s : Int) : Held := match lastBy openB h (0, 0) with
  | some k => h.set k ((h.getD k (0, 0)).1, s - (h.getD k (0, 0)).1)
  | none => h
noncomputable def closeB (h : List Bool) : List Bool := match lastBy (!·) h true with
  | some k => h.set k true
  | none => h
noncomputable def manyL (g : Sg) : List Int → Nat
  | [] => 0
  | c :: r => if g.has c then manyL g r + 1 else 0
noncomputable def many (text : List Int) (g : Sg) (s : Int) : Nat := manyL g (text.drop s.toNat)
noncomputable def down : Nat → List Int
  | 0 => [0]
  | m + 1 => ((m + 1 : Nat) : Int) :: down m
noncomputable def upFrom (a : Int) : Nat → List Int
  | 0 => [a]
  | k + 1 => a :: upFrom (a + 1) k
noncomputable def counts (q : Int) (m : Nat) : List Int :=
  if q = 0 then (if 0 < m then [1] else []) else if q = 1 then down m else if q = 2 then (match m with | 0 => [] | m + 1 => (down m).map (· + 1)) else if q = 3 then upFrom 0 m else if 0 < m then [1, 0] else [0]
noncomputable def firstSome {α : Type} (f : Int → Option α) : List Int → Option α
  | [] => none
  | a :: r => match f a with
    | some x => some x
    | none => firstSome f r
noncomputable def go (text : List Int) : List Pt → Int → Held → Option (Int × Held)
  | [], s, h => some (s, h)
  | .one g _ q :: r, s, h => firstSome (fun m => go text r (s + m) h) (counts q (many text g s))
  | .opn :: r, s, h => go text r s (h ++ [(s, -1)])
  | .cls :: r, s, h => go text r s (closeH h s)
  | .spot :: r, s, h => go text r s (h ++ [(s, -2)])
  | .again k :: r, s, h => match repF text s (h.getD k.toNat (0, 0)) with
    | some s' => go text r s' h
    | none => none
  | .pair b e :: r, s, h => match balanced text s b e with
    | some s' => go text r s' h
    | none => none
  | .edge off seg _ :: r, s, h => if onEdge text s (.set off seg) then go text r s h else none
  | .stop :: r, s, h => if s = text.length then go text r s h else none
noncomputable def isCls : List Pt → Bool
  | .cls :: _ => true
  | _ => false
/-- parts that hang together, upon captures so shut -/
noncomputable def WfP : List Pt → List Bool → Prop
  | [], _ => True
  | .one g _ q :: r, sh => g.ok ∧ 0 ≤ q ∧ q ≤ 4 ∧ WfP r sh
  | .opn :: r, sh => isCls r = false ∧ WfP r (sh ++ [false])
  | .cls :: r, sh => false ∈ sh ∧ WfP r (closeB sh)
  | .spot :: r, sh => WfP r (sh ++ [true])
  | .again k :: r, sh => 0 ≤ k ∧ k ≤ 8 ∧ k < sh.length ∧ sh.getD k.toNat false = true ∧ WfP r sh
  | .pair _ _ :: r, sh => WfP r sh
  | .edge off seg _ :: r, sh => SetOk off seg ∧ WfP r sh
  | .stop :: r, sh => r = [] ∧ WfP r sh
theorem go_0 {t s h} : go t [] s h = some (s, h) := rfl
theorem go_1 {t g f q r s h} : go t (.one g f q :: r) s h = firstSome (fun m => go t r (s + m) h) (counts q (many t g s)) := rfl
theorem go_2 {t r s h} : go t (.opn :: r) s h = go t r s (h ++ [(s, -1)]) := rfl
theorem go_3 {t r s h} : go t (.cls :: r) s h = go t r s (closeH h s) := rfl
theorem go_4 {t r s h} : go t (.spot :: r) s h = go t r s (h ++ [(s, -2)]) := rfl
theorem go_5 {t k r s h} : go t (.again k :: r) s h = match repF t s (h.getD k.toNat (0, 0)) with
    | some s' => go t r s' h
    | none => none := rfl
theorem go_6 {t b e r s h} : go t (.pair b e :: r) s h = match balanced t s b e with
    | some s' => go t r s' h
    | none => none := rfl
theorem go_7 {t o g f r s h} : go t (.edge o g f :: r) s h = if onEdge t s (.set o g) then go t r s h else none := rfl
theorem go_8 {t r s h} : go t (.stop :: r) s h = if s = t.length then go t r s h else none := rfl
theorem wf_0 {sh} : WfP [] sh = True := rfl
theorem wf_1 {g f q r sh} : WfP (.one g f q :: r) sh = (g.ok ∧ 0 ≤ q ∧ q ≤ 4 ∧ WfP r sh) := rfl
theorem wf_2 {r sh} : WfP (.opn :: r) sh = (isCls r = false ∧ WfP r (sh ++ [false])) := rfl
theorem wf_3 {r sh} : WfP (.cls :: r) sh = (false ∈ sh ∧ WfP r (closeB sh)) := rfl
theorem wf_4 {r sh} : WfP (.spot :: r) sh = WfP r (sh ++ [true]) := rfl
theorem wf_5 {k r sh} : WfP (.again k :: r) sh = (0 ≤ k ∧ k ≤ 8 ∧ k < sh.length ∧ sh.getD k.toNat false = true ∧ WfP r sh) := rfl
theorem wf_6 {b e r sh} : WfP (.pair b e :: r) sh = WfP r sh := rfl
theorem wf_7 {o g f r sh} : WfP (.edge o g f :: r) sh = (SetOk o g ∧ WfP r sh) := rfl
theorem wf_8 {r sh} : WfP (.stop :: r) sh = (r = [] ∧ WfP r sh) := rfl
structure HOk (text : List Int) (h : Held) (s : Int) : Prop where
  all : ∀ x ∈ h, 0 ≤ x.1 ∧ x.1 ≤ s ∧ (x.2 = -1 ∨ x.2 = -2 ∨ (0 ≤ x.2 ∧ x.1 + x.2 ≤ text.length))
theorem HOk.mono {text : List Int} {h : Held} {s s' : Int} (x : HOk text h s) (hs : s ≤ s') : HOk text h s' := ⟨fun y hy => by have := x.all y hy; exact ⟨this.1, by tb_start, this.2.2⟩⟩
theorem HOk.snoc {text : List Int} {h : Held} {s c : Int} (x : HOk text h s) (h0 : 0 ≤ s) (hc : c = -1 ∨ c = -2) : HOk text (h ++ [(s, c)]) s := by
  refine ⟨fun y hy => ?_⟩
  rcases List.mem_append.mp hy with hy | hy
  · exact x.all y hy
  · simp only [List.mem_singleton] at hy
    subst hy
    exact ⟨h0, Int.le_refl _, hc.imp id .inl⟩
theorem lastBy_spec {α : Type} {p : α → Bool} {l : List α} {d : α} {k : Nat} (h : lastBy p l d = some k) : k < l.length ∧ p (l.getD k d) = true ∧ ∀ j, k < j → j < l.length → p (l.getD j d) = false := by
  unfold lastBy at h
  have hm := List.mem_of_getLast? h
  simp only [List.mem_filter, List.mem_range] at hm
  refine ⟨hm.1, hm.2, fun j hj hjl => ?_⟩
  cases hp : p (l.getD j d) with
  | false => rfl
  | true =>
    exfalso
    have hmem : j ∈ (List.range l.length).filter fun k => p (l.getD k d) := by simp only [List.mem_filter, List.mem_range]; exact ⟨hjl, hp⟩
    have hpw : ((List.range l.length).filter fun k => p (l.getD k d)).Pairwise (· < ·) := List.Pairwise.filter _ List.pairwise_lt_range
    obtain ⟨ys, hys⟩ := List.getLast?_eq_some_iff.mp h
    rw [hys] at hmem hpw
    rw [List.pairwise_append] at hpw
    rcases List.mem_append.mp hmem with q | q
    · have := hpw.2.2 j q k (by simp)
      tb_start
    · simp only [List.mem_singleton] at q
      tb_start
theorem lastBy_some {α : Type} {p : α → Bool} {l : List α} {d a : α} (h : a ∈ l) (hp : p a = true) : ∃ k, lastBy p l d = some k := by
  unfold lastBy
  obtain ⟨i, hi⟩ := List.mem_iff_getElem?.mp h
  obtain ⟨hil, hie⟩ := List.getElem?_eq_some_iff.mp hi
  have hne : ((List.range l.length).filter fun k => p (l.getD k d)) ≠ [] := by
    intro e
    have : i ∈ (List.range l.length).filter fun k => p (l.getD k d) := by
      simp only [List.mem_filter, List.mem_range]
      refine ⟨hil, ?_⟩
      rw [List.getD_eq_getElem?_getD, hi]
      exact hp
    rw [e] at this
    cases this
  exact ⟨_, List.getLast?_eq_some_getLast hne⟩
theorem lastBy_map {α β : Type} {p : α → Bool} {q : β → Bool} {f : α → β} {l : List α} {d : α} {e : β} (h : ∀ a, q (f a) = p a) : lastBy q (l.map f) e = lastBy p l d := by
  unfold lastBy
  rw [List.length_map]
  congr 1
  apply List.filter_congr
  intro k hk
  rw [List.mem_range] at hk
  simp [hk, h]
/-- shut or not -/
noncomputable def shut (h : Held) : List Bool := h.map fun x => !openB x
theorem shut_len {h : Held} : (shut h).length = h.length := by unfold shut; rw [List.length_map]
theorem shut_snoc {h : Held} {s c : Int} : shut (h ++ [(s, c)]) = shut h ++ [!decide (c = -1)] := by unfold shut openB; simp
theorem shut_close {h : Held} {s : Int} (hs : ∀ x ∈ h, x.1 ≤ s) : shut (closeH h s) = closeB (shut h) := by
  unfold closeH closeB shut
  rw [lastBy_map (p := openB) (d := ((0, 0) : Int × Int)) (fun a => by simp)]
  cases hk : lastBy openB h (0, 0) with
  | none => rfl
  | some k =>
    obtain ⟨h1, h2, h3⟩ := lastBy_spec hk
    simp only
    rw [List.map_set]
    congr 1
    have hm : h.getD k (0, 0) ∈ h := by
      rw [List.getD_eq_getElem?_getD, List.getElem?_eq_getElem h1]
      exact List.getElem_mem h1
    have := hs _ hm
    unfold openB
    simp only
    rw [decide_eq_false (by tb_start)]
    rfl
theorem closeH_len {h : Held} {s : Int} : (closeH h s).length = h.length := by
  unfold closeH
  split <;> simp
theorem HOk.close {text : List Int} {h : Held} {s : Int} (x : HOk text h s) (hs : s ≤ text.length) : HOk text (closeH h s) s := by
  refine ⟨fun y hy => ?_⟩
  unfold closeH at hy
  cases hk : lastBy openB h (0, 0) with
  | none => rw [hk] at hy; exact x.all y hy
  | some k =>
    rw [hk] at hy
    obtain ⟨h1, h2, h3⟩ := lastBy_spec hk
    rcases List.mem_or_eq_of_mem_set hy with hy | rfl
    · exact x.all y hy
    · have hm : h.getD k (0, 0) ∈ h := by
        rw [List.getD_eq_getElem?_getD, List.getElem?_eq_getElem h1]
        exact List.getElem_mem h1
      have := x.all _ hm
      exact ⟨this.1, this.2.1, .inr (.inr ⟨by simp only; tb_start, by simp only; tb_start⟩)⟩
theorem manyL_le {g : Sg} : ∀ {l : List Int}, manyL g l ≤ l.length
  | [] => Nat.le_refl _
  | c :: r => by
    unfold manyL
    split
    · exact Nat.succ_le_succ manyL_le
    · exact Nat.zero_le _
theorem many_le {text : List Int} {g : Sg} {s : Int} (h0 : 0 ≤ s) (h : s ≤ text.length) : s + many text g s ≤ text.length := by
  have := manyL_le (g := g) (l := text.drop s.toNat)
  rw [List.length_drop] at this
  unfold many
  tb_start
theorem many_at {text : List Int} {g : Sg} {s : Int} {l : List Int} (h : At text s l) : many text g s = manyL g l := by unfold many; rw [h.drop]
theorem At.self {text : List Int} {s : Int} (h0 : 0 ≤ s) (h : s ≤ text.length) : At text s (text.drop s.toNat) := ⟨h0, h, rfl⟩
theorem oneAt_at {text : List Int} {g : Sg} {s : Int} {l : List Int} (h : At text s l) : oneAt text s g = (match l with | [] => false | c :: _ => g.has c) := by
  unfold oneAt
  cases l with
  | nil => rw [if_neg (by have := h.nil; tb_start)]
  | cons c r =>
    obtain ⟨_, h1, _, h2⟩ := h.cons
    rw [if_pos h1, h2]
theorem many_one {text : List Int} {g : Sg} {s : Int} (h0 : 0 ≤ s) (h : s ≤ text.length) : (oneAt text s g = true → many text g s = many text g (s + 1) + 1 ∧ s < text.length) ∧ (oneAt text s g = false → many text g s = 0) := by
  have ha := At.self h0 h
  rw [oneAt_at ha, many_at ha]
  generalize text.drop s.toNat = l at ha
  cases l with
  | nil => exact ⟨(fun e => by cases e), (fun _ => rfl)⟩
  | cons c r =>
    obtain ⟨_, h1, h2, _⟩ := ha.cons
    rw [many_at h2]
    simp only [manyL]
    exact ⟨fun e => ⟨by rw [if_pos e], h1⟩, fun e => by rw [if_neg (by rw [e]; decide)]⟩
theorem bal_ge {b e : Int} : ∀ {l : List Int} {s d t : Int}, bal b e l s d = some t → s ≤ t ∧ t ≤ s + l.length
  | [], _, _, _, h => by simp [bal] at h
  | c :: r, s, d, t, h => by
    simp only [bal] at h
    split at h
    · split at h
      · cases h
        simp only [List.length_cons]
        tb_start
      · have := bal_ge h
        simp only [List.length_cons]
        tb_start
    · split at h
      · have := bal_ge h
        simp only [List.length_cons]
        tb_start
      · have := bal_ge h
        simp only [List.length_cons]
        tb_start
theorem balanced_ge {text : List Int} {s b e t : Int} (h0 : 0 ≤ s) (hs : s ≤ text.length) (h : balanced text s b e = some t) : s ≤ t ∧ t ≤ text.length := by
  unfold balanced at h
  split at h
  · have := bal_ge h
    rw [List.length_drop] at this
    tb_start
  · cases h
theorem repF_ge {text : List Int} {s t : Int} {x : Int × Int} (h0 : 0 ≤ s) (hs : s ≤ text.length) (hx : x.2 = -2 ∨ (0 ≤ x.2 ∧ 0 ≤ x.1 ∧ x.1 + x.2 ≤ text.length)) (h : repF text s x = some t) : s ≤ t ∧ t ≤ text.length := by
  unfold repF at h
  by_cases h1 : x.2 = -2
  · rw [if_pos h1] at h; cases h
  · rw [if_neg h1] at h
    obtain ⟨h2, rfl⟩ := if_of h
    rcases hx with hx | ⟨h3, h4, h5⟩
    · exact absurd hx h1
    · refine ⟨by tb_start, ?_⟩
      by_cases hl : text.length - s < x.2
      · exact absurd h2 (cut_ne h0 hs h4 h3 h5 hl)
      · tb_start
theorem counts_mem {q : Int} {m : Nat} {k : Int} (h : k ∈ counts q m) : 0 ≤ k ∧ k ≤ m := by
  have hd : ∀ {m : Nat} {k : Int}, k ∈ down m → 0 ≤ k ∧ k ≤ m := by
    intro m
    induction m with
    | zero => intro k h; simp only [down, List.mem_singleton] at h; subst h; tb_start
    | succ m ih =>
      intro k h
      simp only [down, List.mem_cons] at h
      rcases h with rfl | h
      · tb_start
      · have := ih h
        tb_start
  have hu : ∀ {m : Nat} {a k : Int}, k ∈ upFrom a m → a ≤ k ∧ k ≤ a + m := by
    intro m
    induction m with
    | zero => intro a k h; simp only [upFrom, List.mem_singleton] at h; subst h; tb_start
    | succ m ih =>
      intro a k h
      simp only [upFrom, List.mem_cons] at h
      rcases h with rfl | h
      · tb_start
      · have := ih h
        tb_start
  unfold counts at h
  split at h
  · split at h
    · simp only [List.mem_singleton] at h; subst h; tb_start
    · cases h
  · split at h
    · exact hd h
    · split at h
      · cases m with
        | zero => cases h
        | succ m =>
          simp only [List.mem_map] at h
          obtain ⟨j, hj, rfl⟩ := h
          have := hd hj
          tb_start
      · split at h
        · have := hu h
          tb_start
        · split at h
          · simp only [List.mem_cons, List.not_mem_nil, or_false] at h
            rcases h with rfl | rfl <;> tb_start
          · simp only [List.mem_singleton] at h; subst h; tb_start
theorem firstSome_mem {α : Type} {f : Int → Option α} {x : α} : ∀ {l : List Int}, firstSome f l = some x → ∃ k ∈ l, f k = some x
  | [], h => by cases h
  | a :: r, h => by
    simp only [firstSome] at h
    split at h
    · rename_i y hy
      cases h
      exact ⟨a, List.mem_cons_self, hy⟩
    · obtain ⟨k, hk, e⟩ := firstSome_mem h
      exact ⟨k, List.mem_cons_of_mem _ hk, e⟩
/-- what a match gives is in order -/
theorem go_ok {text : List Int} : ∀ {ps : List Pt} {s : Int} {h : Held} {e : Int} {h' : Held}, WfP ps (shut h) → HOk text h s → 0 ≤ s → s ≤ text.length → go text ps s h = some (e, h') → s ≤ e ∧ e ≤ text.length ∧ HOk text h' e
  | [], s, h, e, h', w, x, h0, hs, hg => by
    simp only [go_0, go_1, go_2, go_3, go_4, go_5, go_6, go_7, go_8, Option.some.injEq, Prod.mk.injEq] at hg
    obtain ⟨rfl, rfl⟩ := hg
    exact ⟨Int.le_refl _, hs, x⟩
  | .one g fl q :: r, s, h, e, h', w, x, h0, hs, hg => by
    simp only [wf_1, wf_2, wf_3, wf_4, wf_5, wf_6, wf_7, wf_8] at w
    simp only [go_0, go_1, go_2, go_3, go_4, go_5, go_6, go_7, go_8] at hg
    obtain ⟨k, hk, hg⟩ := firstSome_mem hg
    have := counts_mem hk
    have hm := many_le (g := g) h0 hs
    have := go_ok w.2.2.2 (x.mono (by tb_start : s ≤ s + k)) (by tb_start) (by tb_start) hg
    exact ⟨by tb_start, this.2⟩
  | .opn :: r, s, h, e, h', w, x, h0, hs, hg => by
    simp only [wf_1, wf_2, wf_3, wf_4, wf_5, wf_6, wf_7, wf_8] at w
    simp only [go_0, go_1, go_2, go_3, go_4, go_5, go_6, go_7, go_8] at hg
    exact go_ok (by rw [shut_snoc]; exact w.2) (x.snoc h0 (.inl rfl)) h0 hs hg
  | .cls :: r, s, h, e, h', w, x, h0, hs, hg => by
    simp only [wf_1, wf_2, wf_3, wf_4, wf_5, wf_6, wf_7, wf_8] at w
    simp only [go_0, go_1, go_2, go_3, go_4, go_5, go_6, go_7, go_8] at hg
    exact go_ok (by rw [shut_close fun y hy => (x.all y hy).2.1]; exact w.2) (x.close hs) h0 hs hg
  | .spot :: r, s, h, e, h', w, x, h0, hs, hg => by
    simp only [wf_1, wf_2, wf_3, wf_4, wf_5, wf_6, wf_7, wf_8] at w
    simp only [go_0, go_1, go_2, go_3, go_4, go_5, go_6, go_7, go_8] at hg
    exact go_ok (by rw [shut_snoc]; exact w) (x.snoc h0 (.inr rfl)) h0 hs hg
  | .again k :: r, s, h, e, h', w, x, h0, hs, hg => by
    simp only [wf_1, wf_2, wf_3, wf_4, wf_5, wf_6, wf_7, wf_8] at w
    simp only [go_0, go_1, go_2, go_3, go_4, go_5, go_6, go_7, go_8] at hg
    split at hg
    · rename_i s' hr
      have hk : k.toNat < h.length := by have := w.2.2.1; rw [shut_len] at this; tb_start
      have hm : h.getD k.toNat (0, 0) ∈ h := by
        rw [List.getD_eq_getElem?_getD, List.getElem?_eq_getElem hk]
        exact List.getElem_mem hk
      have hx := x.all _ hm
      have hsh : openB (h.getD k.toNat (0, 0)) = false := by
        have := w.2.2.2.1
        unfold shut at this
        simpa [hk] using this
      unfold openB at hsh
      have hsh := of_decide_eq_false hsh
      have := repF_ge h0 hs (x := h.getD k.toNat (0, 0)) (by rcases hx.2.2 with q | q | q; exact absurd q hsh; exact .inl q; exact .inr ⟨q.1, hx.1, q.2⟩) hr
      have := go_ok w.2.2.2.2 (x.mono this.1) (by tb_start) this.2 hg
      exact ⟨by tb_start, this.2⟩
    · cases hg
  | .pair b c :: r, s, h, e, h', w, x, h0, hs, hg => by
    simp only [wf_1, wf_2, wf_3, wf_4, wf_5, wf_6, wf_7, wf_8] at w
    simp only [go_0, go_1, go_2, go_3, go_4, go_5, go_6, go_7, go_8] at hg
    split at hg
    · rename_i s' hr
      have := balanced_ge h0 hs hr
      have := go_ok w (x.mono this.1) (by tb_start) this.2 hg
      exact ⟨by tb_start, this.2⟩
    · cases hg
  | .edge off seg fl :: r, s, h, e, h', w, x, h0, hs, hg => by
    simp only [wf_1, wf_2, wf_3, wf_4, wf_5, wf_6, wf_7, wf_8] at w
    simp only [go_0, go_1, go_2, go_3, go_4, go_5, go_6, go_7, go_8] at hg
    split at hg
    · exact go_ok w.2 x h0 hs hg
    · cases hg
  | .stop :: r, s, h, e, h', w, x, h0, hs, hg => by
    simp only [wf_1, wf_2, wf_3, wf_4, wf_5, wf_6, wf_7, wf_8] at w
    simp only [go_0, go_1, go_2, go_3, go_4, go_5, go_6, go_7, go_8] at hg
    split at hg
    · exact go_ok w.2 x h0 hs hg
    · cases hg
theorem put_self {a : Addr} {c c' : Cell} : ∀ {μ : Mu}, μ.lookup a = some c → (putMu μ a c').lookup a = some c'
  | [], h => by cases h
  | p :: r, h => by
    unfold putMu
    split
    · rename_i e
      simp [List.lookup_cons]
    · rename_i e
      obtain ⟨b, x⟩ := p
      have hb : (a == b) = false := beq_false_of_ne fun q => e q.symm
      rw [List.lookup_cons, hb] at h ⊢
      exact put_self h
theorem put_ne {a b : Addr} {c' : Cell} (hb : b ≠ a) : ∀ {μ : Mu}, (putMu μ a c').lookup b = μ.lookup b
  | [] => rfl
  | p :: r => by
    unfold putMu
    obtain ⟨d, x⟩ := p
    split
    · rename_i e
      have e : d = a := e
      subst e
      rw [List.lookup_cons, List.lookup_cons, beq_false_of_ne hb]
    · rw [List.lookup_cons, List.lookup_cons, put_ne hb]
theorem setF_k {μ : Mu} {dx : Addr} {fs : List D} {j : Nat} {v : D} {k : Mu → Prop} (h1 : μ.lookup dx = some (.inst fs)) (hj : j < fs.length) (h7 : j < 7)
    (h : ∀ μ', μ'.lookup dx = some (.inst (fs.set j v)) → (∀ b, b ≠ dx → μ'.lookup b = μ.lookup b) → k μ') : setF μ (.obj dx) j v k := by
  unfold setF asObj optC instC
  simp only [h1]
  refine ⟨Nat.le_of_lt hj, h7, ?_⟩
  rw [if_pos hj]
  exact h _ (put_self h1) fun b hb => put_ne hb
theorem setI_k {μ : Mu} {a : Addr} {ds : List D} {i : Int} {v : D} {k : Mu → Prop} (h1 : μ.lookup a = some (.lst ds)) (h0 : 0 ≤ i) (hi : i < ds.length) (hf : Fits ds.length)
    (h : ∀ μ', μ'.lookup a = some (.lst (ds.set i.toNat v)) → (∀ b, b ≠ a → μ'.lookup b = μ.lookup b) → k μ') : setI μ (.cel a) (.int i) v k := by
  unfold setI asCel asI optC lstC
  simp only [h1]
  exact ⟨h0, hi, hf, h _ (put_self h1) fun b hb => put_ne hb⟩
/-- where a Matcher keeps its lengths -/
noncomputable def lc (dx : Addr) (μ : Mu) : Option Addr := match μ.lookup dx with
  | some (.inst fs) => (match fs[6]? with | some (D.cel a) => some a | _ => none)
  | _ => none
/-- all other cells stand -/
noncomputable def Frame (dx : Addr) (μ μ' : Mu) : Prop := ∀ b c, b ≠ dx → lc dx μ ≠ some b → μ.lookup b = some c → μ'.lookup b = some c ∧ lc dx μ' ≠ some b
theorem Frame.refl (dx : Addr) (μ : Mu) : Frame dx μ μ := fun b c _ h1 h2 => ⟨h2, h1⟩
theorem Frame.trans {dx : Addr} {μ μ' μ'' : Mu} (h1 : Frame dx μ μ') (h2 : Frame dx μ' μ'') : Frame dx μ μ'' := fun b c hb hl h => h2 b c hb (h1 b c hb hl h).2 (h1 b c hb hl h).1
/-- a Matcher's memory -/
structure Mt (dx a : Addr) (text pat : List Int) (h : Held) (dep : Int) (st le : List Int) (μ : Mu) : Prop where
  ob : μ.lookup dx = some (.inst [.bytes text, .bytes pat, .int 60, .int dep, .int h.length, .lst (st.map .int), .cel a])
  ls : μ.lookup a = some (.lst (le.map .int))
  hst : st.take h.length = h.map (·.1)
  hle : le.take h.length = h.map (·.2)
  sl : st.length ≤ 40
  ll : le.length ≤ 40
noncomputable def St (dx : Addr) (text pat : List Int) (h : Held) (dep : Int) (μ : Mu) : Prop := ∃ a st le, Mt dx a text pat h dep st le μ
section
variable {dx a : Addr} {text pat : List Int} {h : Held} {dep : Int} {st le : List Int} {μ μ' : Mu}
theorem Mt.ne (M : Mt dx a text pat h dep st le μ) : a ≠ dx := by
  rintro rfl
  have := M.ob.symm.trans M.ls
  cases this
theorem Mt.lc (M : Mt dx a text pat h dep st le μ) : lc dx μ = some a := by
  unfold Mine.lc
  rw [M.ob]
  rfl
theorem take_get {α β : Type} {l : List β} {h : List α} {f : α → β} {d : α} {e : β} (ht : l.take h.length = h.map f) {j : Nat} (hj : j < h.length) : l.getD j e = f (h.getD j d) := by
  have h1 : (l.take h.length)[j]? = (h.map f)[j]? := by rw [ht]
  rw [List.getElem?_take, if_pos hj, List.getElem?_map, List.getElem?_eq_getElem hj] at h1
  rw [List.getD_eq_getElem?_getD, h1, List.getD_eq_getElem?_getD, List.getElem?_eq_getElem hj]
  rfl
theorem take_len {α β : Type} {l : List β} {h : List α} {f : α → β} (ht : l.take h.length = h.map f) : h.length ≤ l.length := by
  have := congrArg List.length ht
  rw [List.length_take, List.length_map] at this
  tb_start
theorem Mt.slen (M : Mt dx a text pat h dep st le μ) : h.length ≤ st.length := take_len M.hst
theorem Mt.llen (M : Mt dx a text pat h dep st le μ) : h.length ≤ le.length := take_len M.hle
theorem Mt.sget (M : Mt dx a text pat h dep st le μ) {j : Nat} (hj : j < h.length) : st.getD j 0 = (h.getD j (0, 0)).1 := take_get M.hst hj
theorem Mt.lget (M : Mt dx a text pat h dep st le μ) {j : Nat} (hj : j < h.length) : le.getD j 0 = (h.getD j (0, 0)).2 := take_get M.hle hj
end
/-- what a match hands on -/
noncomputable def MPost (dx : Addr) (text pat : List Int) (r : Option (Int × Held)) (h : Held) (dep : Int) (μ : Mu) (Q : D → Mu → Prop) : Prop :=
  ∀ μ', Frame dx μ μ' → (r = none → St dx text pat h dep μ' → Q .none μ') ∧ ∀ e h', r = some (e, h') → St dx text pat h' dep μ' → Q (.int e) μ'
theorem MPost.step {dx : Addr} {text pat : List Int} {r : Option (Int × Held)} {h : Held} {dep : Int} {μ μ' : Mu} {Q : D → Mu → Prop} (x : MPost dx text pat r h dep μ Q) (hf : Frame dx μ μ') : MPost dx text pat r h dep μ' Q :=
  fun μ'' h2 => x μ'' (hf.trans h2)
structure Pre (text pat : List Int) (ps : List Pt) (s p : Int) (h : Held) (dep : Int) : Prop where
  at_ : At pat p (sg ps)
  s0 : 0 ≤ s
  s1 : s ≤ text.length
  hok : HOk text h s
  wf : WfP ps (shut h)
  d0 : 0 ≤ dep
  d1 : dep + ps.length + 1 ≤ 60
  hl : h.length + ps.length ≤ 32
noncomputable def MatchOk (G : Gx) (dx : Addr) (text pat : List Int) (ps : List Pt) : Prop := ∀ (n : Nat) (s p : Int) (h : Held) (dep : Int) (μ : Mu) (Q : D → Mu → Prop) (X : Prop), 3 * ps.length + 12 ≤ n → Pre text pat ps s p h dep → St dx text pat h dep μ →
  MPost dx text pat (go text ps s h) h dep μ Q → FS G n 154 [.obj dx, .int s, .int p] μ Q X
noncomputable def downI (m : Int) : List Int := if m < 0 then [] else down m.toNat
theorem downI_neg {m : Int} (h : m < 0) : downI m = [] := if_pos h
theorem downI_pos {m : Int} (h : 0 ≤ m) : downI m = m :: downI (m - 1) := by
  unfold downI
  rw [if_neg (by tb_start)]
  by_cases h0 : m = 0
  · subst h0; rfl
  · rw [if_neg (by tb_start)]
    obtain ⟨k, rfl⟩ : ∃ k : Nat, m = ((k + 1 : Nat) : Int) := ⟨(m - 1).toNat, by tb_start⟩
    have e : (((k + 1 : Nat) : Int) - 1).toNat = k := by tb_start
    rw [e]
    rfl
theorem firstSome_up {α : Type} {f : Int → Option α} : ∀ {k : Nat} {a : Int}, firstSome f (upFrom (a + 1) k) = firstSome (fun m => f (m + 1)) (upFrom a k)
  | 0, a => rfl
  | k + 1, a => by
    simp only [upFrom, firstSome]
    rw [firstSome_up]
theorem firstSome_map {α : Type} {f : Int → Option α} {g : Int → Int} : ∀ {l : List Int}, firstSome f (l.map g) = firstSome (fun m => f (g m)) l
  | [] => rfl
  | a :: r => by simp only [List.map_cons, firstSome, firstSome_map]
section
variable {G : Gx} {P : Params} {n : Nat} {μ : Mu} {Q : D → Mu → Prop} {X : Prop} {dx : Addr} {text pat : List Int}
theorem to_close_k (A : Ax G P) {a : Addr} {h : Held} {dep : Int} {st le : List Int} {k : Nat} (M : Mt dx a text pat h dep st le μ) (hk : lastBy openB h (0, 0) = some k) (q : Q (.int k) μ) : FS G (n+1) 217 [.obj dx] μ Q X := by
  obtain ⟨k1, k2, k3⟩ := lastBy_spec hk
  have hμ := M.ob
  have ha := M.ls
  have hll := M.llen
  have hl40 := M.ll
  have k2 : le.getD k 0 = -1 := by rw [M.lget k1]; exact of_decide_eq_true k2
  have k3 : ∀ j : Nat, k < j → j < h.length → le.getD j 0 ≠ -1 := fun j h1 h2 => by rw [M.lget h2]; exact of_decide_eq_false (k3 j h1 h2)
  refine m_to_close_c A ?_
  unfold m_to_close
  repeat' kts_caught
  refine vs_whl_loop (ι := Int) (fun i => i.toNat) (fun i => [some (.obj dx), some (.int i), none, none]) (fun _ => μ) (fun i => (k : Int) ≤ i ∧ i < h.length) ((h.length : Int) - 1) rfl rfl ⟨by tb_start, by tb_start⟩ ?_
  rintro i ⟨i1, i2⟩ W ih
  repeat' kts_caught
  all_goals first
    | (exfalso; tb_start)
    | skip
  · rename_i hc2 hc
    by_cases e : i = k
    · subst e
      exact ret_q q
    · have := k3 i.toNat (by tb_start) (by tb_start)
      exact absurd hc this
  · rename_i hc2 hc
    by_cases e : i = k
    · subst e
      rw [show ((k : Int)).toNat = k from by tb_start] at hc
      exact absurd k2 hc
    · exact ih (i - 1) ⟨by tb_start, by tb_start⟩ (tn_dec (by tb_start) (by tb_start))
theorem to_close_bad (A : Ax G P) {fs : List D} (hμ : μ.lookup dx = some (.inst (.bytes text :: .bytes pat :: .int 60 :: .int 1 :: .int 0 :: fs))) (q : X) : FS G (n+1) 217 [.obj dx] μ Q X := by
  refine m_to_close_c A ?_
  unfold m_to_close
  repeat' kts_caught
  refine vs_whl 1 (whl_turn ?_)
  repeat' kts_caught
  all_goals first
    | exact q
    | (exfalso; tb_start)
theorem expand_most_k (A : Ax G P) {r : List Pt} (ih : MatchOk G dx text pat r) (hl : Fits pat.length) (ht : Fits text.length) {g : Sg} {c s p e : Int} {h : Held} {dep : Int} (hn : 3 * r.length + 13 ≤ n) (ok : g.ok) (hat : At pat p (g.signs ++ c :: sg r)) (he : e = p + (g.signs.length : Nat))
    (s0 : 0 ≤ s) (s1 : s ≤ text.length) (hok : HOk text h s) (wf : WfP r (shut h)) (d0 : 0 ≤ dep) (d1 : dep + r.length + 1 ≤ 60) (hhl : h.length + r.length ≤ 32) (S : St dx text pat h dep μ)
    (q : MPost dx text pat (firstSome (fun m => go text r (s + m) h) (down (many text g s))) h dep μ Q) : FS G n 189 [.obj dx, .int s, .int p, .int e] μ Q X := by
  obtain ⟨n, rfl⟩ : ∃ k, n = k + 7 := ⟨n - 7, by tb_start⟩
  obtain ⟨a, st, le, M⟩ := id S
  have hμ := M.ob
  have hat2 : At pat (e + 1) (sg r) := by
    have h1 := hat.app
    rw [← he] at h1
    exact h1.cons.2.2.1
  refine m_expand_most_c A ?_
  unfold m_expand_most
  repeat' kts_caught
  -- how many
  refine vs_whl_loop (ι := Int) (fun i => (many text g s - i : Int).toNat) (fun i => [some (.obj dx), some (.int s), some (.int p), some (.int e), some (.int i), none]) (fun _ => μ) (fun i => 0 ≤ i ∧ s + i ≤ text.length ∧ i + many text g (s + i) = many text g s) 0 rfl rfl ⟨by tb_start, by tb_start, by simp⟩ ?_
  rintro i ⟨i1, i2, i3⟩ W ihl
  obtain ⟨m1, m2⟩ := many_one (g := g) (by tb_start : 0 ≤ s + i) i2
  repeat' (first | kts_caught | (refine single_k A hμ hl ht ok hat ?_ he ?_; (first | assumption | tb_start)))
  · rename_i hc
    obtain ⟨hm1, hm2⟩ := m1 hc
    exact ihl (i + 1) ⟨by tb_start, by tb_start, by rw [← i3, hm1, show s + (i + 1) = s + i + 1 from by tb_start]; tb_start⟩ (tn_dec (by tb_start) (by tb_start))
  · rename_i hc
    have hm := m2 hc
    have e1 : i = many text g s := by tb_start
    repeat' kts_caught
    refine vs_whl_loop (ι := Int × Mu × Option D) (fun x => (x.1 + 1).toNat) (fun x => [some (.obj dx), some (.int s), some (.int p), some (.int e), some (.int x.1), x.2.2]) (fun x => x.2.1)
      (fun x => -1 ≤ x.1 ∧ s + x.1 ≤ text.length ∧ St dx text pat h dep x.2.1 ∧ MPost dx text pat (firstSome (fun m => go text r (s + m) h) (downI x.1)) h dep x.2.1 Q) (i, μ, none) rfl rfl ⟨by simp only; tb_start, i2, S, by simp only; rw [e1]; exact q⟩ ?_
    rintro ⟨m, ν, fd⟩ ⟨j1, j2, S', q'⟩ W ihl
    simp only at j1 j2 S' q' ihl ⊢
    obtain ⟨a', st', le', M'⟩ := id S'
    have hν := M'.ob
    repeat' kts_caught
    · rename_i hm0
      rw [downI_pos hm0] at q'
      simp only [firstSome] at q'
      refine ih _ _ _ h dep _ _ _ (by tb_start) ⟨hat2, by tb_start, by tb_start, hok.mono (by tb_start), wf, d0, d1, hhl⟩ S' ?_
      intro ν' hf
      refine ⟨fun hr S'' => ?_, fun e2 h2 hr S'' => ?_⟩
      · repeat' kts_caught
        rw [hr] at q'
        exact ihl (m - 1, ν', _) ⟨by simp only; tb_start, by simp only; tb_start, S'', q'.step hf⟩ (tn_dec (by first | tb_start | (simp only; tb_start)) (by first | tb_start | (simp only; tb_start)))
      · repeat' kts_caught
        rw [hr] at q'
        exact ret_q ((q' ν' hf).2 e2 h2 rfl S'')
    · rw [downI_neg (by tb_start)] at q'
      exact ret_q ((q' ν (Frame.refl _ _)).1 rfl S')
end
theorem itemsOf_cel {μ : Mu} {a : Addr} {l : List D} (h : μ.lookup a = some (.lst l)) : itemsOf μ (.cel a) = some l := by
  unfold itemsOf; simp only; rw [h]
theorem lookup_mem {μ : Mu} {a : Addr} {c : Cell} (h : μ.lookup a = some c) : ∃ p ∈ μ, p.1 = a := by
  induction μ with
  | nil => cases h
  | cons x r ih =>
    obtain ⟨b, y⟩ := x
    rw [List.lookup_cons] at h
    split at h
    · rename_i e
      exact ⟨_, List.mem_cons_self, (eq_of_beq e).symm⟩
    · obtain ⟨p, hp, e⟩ := ih h
      exact ⟨p, List.mem_cons_of_mem _ hp, e⟩
theorem fresh_none {μ : Mu} {a : Addr} (h : freshMu μ a) : μ.lookup a = none := by
  cases e : μ.lookup a with
  | none => rfl
  | some c =>
    obtain ⟨p, hp, e⟩ := lookup_mem e
    exact absurd e (h p hp)
theorem Frame.mk' {dx a a' : Addr} {μ μ' : Mu} (h1 : lc dx μ = some a) (h2 : lc dx μ' = some a') (h3 : a' = a ∨ μ.lookup a' = none) (h4 : ∀ b, b ≠ dx → b ≠ a → b ≠ a' → μ'.lookup b = μ.lookup b) : Frame dx μ μ' := by
  intro b c hb hl h
  have hba : b ≠ a := fun e => hl (by rw [h1, e])
  have hba' : b ≠ a' := by
    rintro rfl
    rcases h3 with e | e
    · exact hba e
    · rw [e] at h; cases h
  exact ⟨(h4 b hb hba hba').trans h, fun e => hba' (by rw [h2] at e; exact (Option.some.inj e).symm)⟩
theorem cutI {l : List Int} {n : Nat} : cut (l.map D.int) 0 n = (l.take n).map D.int := by
  unfold cut
  simp [List.map_take]
section
variable {G : Gx} {P : Params} {n : Nat} {μ : Mu} {Q : D → Mu → Prop} {X : Prop} {dx : Addr} {text pat : List Int}
theorem expand_least_k (A : Ax G P) {r : List Pt} (ih : MatchOk G dx text pat r) (hl : Fits pat.length) (ht : Fits text.length) {g : Sg} {c s p e : Int} {h : Held} {dep : Int} (hn : 3 * r.length + 13 ≤ n) (ok : g.ok) (hat : At pat p (g.signs ++ c :: sg r)) (he : e = p + (g.signs.length : Nat))
    (s0 : 0 ≤ s) (s1 : s ≤ text.length) (hok : HOk text h s) (wf : WfP r (shut h)) (d0 : 0 ≤ dep) (d1 : dep + r.length + 1 ≤ 60) (hhl : h.length + r.length ≤ 32) (S : St dx text pat h dep μ)
    (q : MPost dx text pat (firstSome (fun m => go text r (s + m) h) (upFrom 0 (many text g s))) h dep μ Q) : FS G n 196 [.obj dx, .int s, .int p, .int e] μ Q X := by
  obtain ⟨n, rfl⟩ : ∃ k, n = k + 7 := ⟨n - 7, by tb_start⟩
  have hat2 : At pat (e + 1) (sg r) := by
    have h1 := hat.app
    rw [← he] at h1
    exact h1.cons.2.2.1
  refine m_expand_least_c A ?_
  unfold m_expand_least
  repeat' kts_caught
  refine vs_whl_loop (ι := Int × Mu × Option D) (fun x => (text.length - (s + x.1) : Int).toNat) (fun x => [some (.obj dx), some (.int (s + x.1)), some (.int p), some (.int e), x.2.2]) (fun x => x.2.1)
    (fun x => 0 ≤ x.1 ∧ s + x.1 ≤ text.length ∧ St dx text pat h dep x.2.1 ∧ MPost dx text pat (firstSome (fun m => go text r (s + m) h) (upFrom x.1 (many text g (s + x.1)))) h dep x.2.1 Q) (0, μ, none) (by simp) rfl ⟨by simp only; tb_start, by simp only; tb_start, S, by simp only [Int.add_zero]; exact q⟩ ?_
  rintro ⟨m, ν, fd⟩ ⟨j1, j2, S', q'⟩ W ihl
  simp only at j1 j2 S' q' ihl ⊢
  obtain ⟨m1, m2⟩ := many_one (g := g) (by tb_start : 0 ≤ s + m) j2
  obtain ⟨a', st', le', M'⟩ := id S'
  have hν := M'.ob
  repeat' kts_caught
  refine ih _ _ _ h dep _ _ _ (by tb_start) ⟨hat2, by tb_start, by tb_start, hok.mono (by tb_start), wf, d0, d1, hhl⟩ S' ?_
  intro ν' hf
  refine ⟨fun hr S'' => ?_, fun e2 h2 hr S'' => ?_⟩
  · obtain ⟨a', st', le', M'⟩ := id S''
    have hν := M'.ob
    repeat' (first | kts_caught | (refine single_k A hν hl ht ok hat ?_ he ?_; (first | assumption | tb_start)))
    · rename_i hc
      rw [m2 (by simpa using hc)] at q'
      simp only [upFrom, firstSome, hr] at q'
      exact ret_q ((q' ν' hf).1 rfl S'')
    · rename_i hc
      obtain ⟨m3, m4⟩ := m1 (by simpa using hc)
      rw [m3] at q'
      simp only [upFrom, firstSome, hr] at q'
      have := ihl (m + 1, ν', some .none) ⟨by simp only; tb_start, by simp only; tb_start, S'', by simp only; rw [← Int.add_assoc]; exact q'.step hf⟩ (tn_dec (by first | tb_start | (simp only; tb_start)) (by first | tb_start | (simp only; tb_start)))
      simp only [← Int.add_assoc] at this
      exact this
  · repeat' kts_caught
    have : firstSome (fun m => go text r (s + m) h) (upFrom m (many text g (s + m))) = some (e2, h2) := by
      cases many text g (s + m) <;> simp only [upFrom, firstSome, hr]
    exact ret_q ((q' ν' hf).2 e2 h2 this S'')
theorem start_capture_g (A : Ax G P) {s p c : Int} {h : Held} {dep : Int} {res : Option (Int × Held)} (hhl : h.length < 32) (S : St dx text pat h dep μ)
    (ihm : ∀ μ4 Q4, St dx text pat (h ++ [(s, c)]) dep μ4 → MPost dx text pat res (h ++ [(s, c)]) dep μ4 Q4 → FS G n 154 [.obj dx, .int s, .int p] μ4 Q4 X)
    (q : MPost dx text pat res h dep μ Q) : FS G (n + 1) 203 [.obj dx, .int s, .int p, .int c] μ Q X := by
  obtain ⟨a, st, le, M⟩ := id S
  have hμ := M.ob
  have hll := M.llen
  have hl40 := M.ll
  have hsl := M.slen
  have hs40 := M.sl
  refine m_start_capture_c A ?_
  unfold m_start_capture
  repeat' (first | ((with_reducible show slcS _ _ none _ _); refine slc_items (by intro l hl; cases hl) (by with_unfolding_all rfl) (by unfold Fits; rw [List.length_map]; tb_start) (by tb_start) (by tb_start) ?_; rw [cutI, Int.toNat_natCast]) | kts_caught)
  repeat' kts_caught
  refine b_cat (by with_unfolding_all rfl) (by with_unfolding_all rfl) (newL_f (by unfold Fits; simp; tb_start) ?_)
  repeat' kts_caught
  refine setF_k (by assumption) (by simp) (by decide) ?_
  intro μ1 hμ1 hf1
  have hμ1 : μ1.lookup dx = some (.inst [.bytes text, .bytes pat, .int 60, .int dep, .int h.length, .lst ((st.take h.length ++ [s]).map .int), .cel a]) := by rw [List.map_append]; exact hμ1
  have hls1 : μ1.lookup a = some (.lst (le.map .int)) := (hf1 a M.ne).trans M.ls
  repeat' (first | ((with_reducible show slcS _ _ none _ _); refine slc_items (by intro l hl; cases hl) (itemsOf_cel hls1) (by unfold Fits; rw [List.length_map]; tb_start) (by tb_start) (by tb_start) ?_; rw [cutI, Int.toNat_natCast]) | kts_caught)
  refine b_cat (by with_unfolding_all rfl) (by with_unfolding_all rfl) (newL_t (by unfold Fits; simp; tb_start) ?_)
  intro a' ha'
  have ha1 := fresh_none ha'
  have hne : a' ≠ dx := by rintro rfl; rw [ha1] at hμ1; cases hμ1
  have hμ2 : ((a', Cell.lst (((le.take h.length).map D.int) ++ [.int c])) :: μ1).lookup dx = some (.inst [.bytes text, .bytes pat, .int 60, .int dep, .int h.length, .lst ((st.take h.length ++ [s]).map .int), .cel a]) := (by rw [List.lookup_cons, beq_false_of_ne (Ne.symm hne)]; exact hμ1)
  repeat' kts_caught
  refine setF_k hμ2 (by simp) (by decide) ?_
  intro μ3 hμ3 hf3
  have hμ3 : μ3.lookup dx = some (.inst [.bytes text, .bytes pat, .int 60, .int dep, .int h.length, .lst ((st.take h.length ++ [s]).map .int), .cel a']) := hμ3
  repeat' kts_caught
  refine setF_k hμ3 (by simp) (by decide) ?_
  intro μ4 hμ4 hf4
  have hμ4 : μ4.lookup dx = some (.inst [.bytes text, .bytes pat, .int 60, .int dep, .int ((h ++ [(s, c)]).length : Nat), .lst ((st.take h.length ++ [s]).map .int), .cel a']) := by
    rw [List.length_append, List.length_singleton, Int.natCast_add]; exact hμ4
  have M4 : Mt dx a' text pat (h ++ [(s, c)]) dep (st.take h.length ++ [s]) (le.take h.length ++ [c]) μ4 := by
    refine ⟨hμ4, ?_, ?_, ?_, ?_, ?_⟩
    · rw [hf4 a' hne, hf3 a' hne, List.lookup_cons, beq_self_eq_true, List.map_append]; rfl
    · rw [List.take_of_length_le (by simp; tb_start), M.hst, List.map_append]; rfl
    · rw [List.take_of_length_le (by simp; tb_start), M.hle, List.map_append]; rfl
    · simp; tb_start
    · simp; tb_start
  have hfr : Frame dx μ μ4 := by
    refine Frame.mk' M.lc M4.lc (.inr ?_) ?_
    · rw [← hf1 a' hne]; exact ha1
    · intro b hb hba hba'
      rw [hf4 b hb, hf3 b hb, List.lookup_cons, beq_false_of_ne hba']
      exact hf1 b hb
  repeat' kts_caught
  refine ihm _ _ ⟨_, _, _, M4⟩ ?_
  intro ν hf
  refine ⟨fun hr S5 => ?_, fun e2 h2 hr S5 => ?_⟩
  · obtain ⟨a5, st5, le5, M5⟩ := id S5
    have hν := M5.ob
    repeat' kts_caught
    refine setF_k hν (by simp) (by decide) ?_
    intro ν6 hν6 hf6
    repeat' kts_caught
    have M6 : Mt dx a5 text pat h dep st5 le5 ν6 := by
      refine ⟨?_, (hf6 a5 M5.ne).trans M5.ls, ?_, ?_, M5.sl, M5.ll⟩
      · have e : ((h ++ [(s, c)]).length : Int) - 1 = h.length := by rw [List.length_append, List.length_singleton]; tb_start
        rw [← e]
        exact hν6
      · have := congrArg (List.take h.length) M5.hst
        rw [List.take_take, Nat.min_eq_left (by simp), List.map_append, List.take_left' (by simp)] at this
        exact this
      · have := congrArg (List.take h.length) M5.hle
        rw [List.take_take, Nat.min_eq_left (by simp), List.map_append, List.take_left' (by simp)] at this
        exact this
    exact ret_q ((q ν6 ((hfr.trans hf).trans (Frame.mk' M5.lc M6.lc (.inl rfl) fun b hb _ _ => hf6 b hb))).1 hr ⟨_, _, _, M6⟩)
  · repeat' kts_caught
    exact ret_q ((q ν (hfr.trans hf)).2 e2 h2 hr S5)
theorem start_capture_k (A : Ax G P) {r : List Pt} (ih : MatchOk G dx text pat r) {s p c : Int} {h : Held} {dep : Int} (hn : 3 * r.length + 13 ≤ n) (hat : At pat p (sg r)) (hc : c = -1 ∨ c = -2)
    (s0 : 0 ≤ s) (s1 : s ≤ text.length) (hok : HOk text h s) (wf : WfP r (shut (h ++ [(s, c)]))) (d0 : 0 ≤ dep) (d1 : dep + r.length + 1 ≤ 60) (hhl : h.length + r.length + 1 ≤ 32) (S : St dx text pat h dep μ)
    (q : MPost dx text pat (go text r s (h ++ [(s, c)])) h dep μ Q) : FS G n 203 [.obj dx, .int s, .int p, .int c] μ Q X := by
  obtain ⟨n, rfl⟩ : ∃ k, n = k + 1 := ⟨n - 1, by tb_start⟩
  exact start_capture_g A (by tb_start) S (fun μ4 Q4 S4 q4 => ih _ _ _ _ dep _ _ _ (by tb_start) ⟨hat, s0, s1, hok.snoc s0 hc, wf, d0, d1, by rw [List.length_append, List.length_singleton]; tb_start⟩ S4 q4) q
theorem end_capture_k (A : Ax G P) {r : List Pt} (ih : MatchOk G dx text pat r) {s p : Int} {h : Held} {dep : Int} (hn : 3 * r.length + 13 ≤ n) (hat : At pat p (sg r))
    (s0 : 0 ≤ s) (s1 : s ≤ text.length) (hok : HOk text h s) (hop : false ∈ shut h) (wf : WfP r (shut (closeH h s))) (d0 : 0 ≤ dep) (d1 : dep + r.length + 1 ≤ 60) (hhl : h.length + r.length ≤ 32) (S : St dx text pat h dep μ)
    (q : MPost dx text pat (go text r s (closeH h s)) h dep μ Q) : FS G n 210 [.obj dx, .int s, .int p] μ Q X := by
  obtain ⟨n, rfl⟩ : ∃ k, n = k + 2 := ⟨n - 2, by tb_start⟩
  obtain ⟨a, st, le, M⟩ := id S
  have hμ := M.ob
  have hls := M.ls
  have hll := M.llen
  have hl40 := M.ll
  have hsl := M.slen
  have hs40 := M.sl
  obtain ⟨k, hk⟩ : ∃ k, lastBy openB h (0, 0) = some k := by
    unfold shut at hop
    obtain ⟨x, hx, e⟩ := List.mem_map.mp hop
    exact lastBy_some hx (by simpa using e)
  obtain ⟨k1, k2, k3⟩ := lastBy_spec hk
  have hcl : closeH h s = h.set k ((h.getD k (0, 0)).1, s - (h.getD k (0, 0)).1) := by unfold closeH; rw [hk]
  refine m_end_capture_c A ?_
  unfold m_end_capture
  repeat' (first | kts_caught | refine to_close_k A M hk ?_)
  rw [show ((k : Int)).toNat = k from by tb_start, M.sget k1]
  repeat' kts_caught
  refine setI_k hls (by tb_start) (by rw [List.length_map]; tb_start) (by unfold Fits; rw [List.length_map]; tb_start) ?_
  intro μ1 hμ1 hf1
  rw [show ((k : Int)).toNat = k from by tb_start, ← List.map_set] at hμ1
  have M1 : Mt dx a text pat (closeH h s) dep st (le.set k (s - (h.getD k (0, 0)).1)) μ1 := by
    refine ⟨?_, hμ1, ?_, ?_, hs40, by rw [List.length_set]; exact hl40⟩
    · rw [closeH_len, hf1 dx (Ne.symm M.ne)]; exact hμ
    · rw [closeH_len, hcl, List.map_set, M.hst]
      refine (List.ext_getElem? fun j => ?_)
      rw [List.getElem?_set]
      split
      · rename_i e
        subst e
        simp [k1]
      · rfl
    · rw [closeH_len, hcl, List.map_set, List.take_set, M.hle]
  have hfr : Frame dx μ μ1 := Frame.mk' M.lc M1.lc (.inl rfl) fun b hb hba _ => hf1 b hba
  have hμ1o := M1.ob
  repeat' kts_caught
  refine ih _ _ _ _ dep _ _ _ (by tb_start) ⟨hat, s0, s1, hok.close s1, wf, d0, d1, by rw [closeH_len]; exact hhl⟩ ⟨_, _, _, M1⟩ ?_
  intro ν hf
  refine ⟨fun hr S5 => ?_, fun e2 h2 hr S5 => ?_⟩
  · obtain ⟨a5, st5, le5, M5⟩ := id S5
    have hν := M5.ob
    have hls5 := M5.ls
    have hl5 := M5.llen
    rw [closeH_len] at hl5
    have h40 := M5.ll
    repeat' kts_caught
    refine setI_k hls5 (by tb_start) (by rw [List.length_map]; tb_start) (by unfold Fits; rw [List.length_map]; tb_start) ?_
    intro ν6 hν6 hf6
    rw [show ((k : Int)).toNat = k from by tb_start, ← List.map_set] at hν6
    repeat' kts_caught
    have hx2 : h.getD k (0, 0) = ((h.getD k (0, 0)).1, -1) := by
      have := of_decide_eq_true k2
      exact Prod.ext rfl this
    have M6 : Mt dx a5 text pat h dep st5 (le5.set k (-1)) ν6 := by
      refine ⟨?_, hν6, ?_, ?_, M5.sl, by rw [List.length_set]; exact M5.ll⟩
      · rw [hf6 dx (Ne.symm M5.ne), hν, closeH_len]
      · have := M5.hst
        rw [closeH_len, hcl, List.map_set] at this
        rw [this]
        refine (List.ext_getElem? fun j => ?_)
        rw [List.getElem?_set]
        split
        · rename_i e
          subst e
          simp [k1]
        · rfl
      · have := M5.hle
        rw [closeH_len, hcl, List.map_set] at this
        rw [List.take_set, this, List.set_set]
        refine (List.ext_getElem? fun j => ?_)
        rw [List.getElem?_set]
        split
        · rename_i e
          subst e
          rw [List.getElem?_map]
          rw [List.getD_eq_getElem?_getD, List.getElem?_eq_getElem k1] at hx2
          rw [List.getElem?_eq_getElem k1]
          simp only [Option.getD_some] at hx2
          simp only [List.length_map, k1, if_true, Option.map_some]
          rw [hx2]
        · rfl
    exact ret_q ((q ν6 ((hfr.trans hf).trans (Frame.mk' M5.lc M6.lc (.inl rfl) fun b hb hba _ => hf6 b hba))).1 hr ⟨_, _, _, M6⟩)
  · repeat' kts_caught
    exact ret_q ((q ν (hfr.trans hf)).2 e2 h2 hr S5)
end
theorem atI_oct {pat : List Int} (h : ∀ x ∈ pat, 0 ≤ x ∧ x < 256) {p : Int} (h0 : 0 ≤ p) : 0 ≤ atI pat p ∧ atI pat p < 256 := by
  unfold atI
  split
  · have : p.toNat < pat.length := by tb_start
    rw [List.getD_eq_getElem?_getD, List.getElem?_eq_getElem this]
    exact h _ (List.getElem_mem this)
  · tb_start
theorem cmp_bf {i : Int} {Q : Bool → Prop} (h0 : 0 ≤ i ∧ i < 256) (q : Q (decide (i = 98 ∨ i = 102))) : cmpQ .In (.int i) (.bytes (([98, 102] : List UInt8).map fun u => (u.toNat : Int))) Q := by
  refine cmpQ_k ?_ q
  show (if 0 ≤ i ∧ i < 256 then some (List.contains [98, 102] i) else none) = _
  rw [if_pos h0]
  congr 1
  rw [Bool.eq_iff_iff]
  simp
theorem Sg.first {g : Sg} (ok : g.ok) : ∃ x t, g.signs = x :: t ∧ x ≠ 40 ∧ x ≠ 41 ∧ x ≠ 36 ∧ x ≠ 42 ∧ x ≠ 43 ∧ x ≠ 45 ∧ x ≠ 63 ∧ (x = 37 → ∃ y, t = [y] ∧ y ≠ 98 ∧ y ≠ 102 ∧ isDigit y = false) := by
  cases g with
  | lit x => obtain ⟨h1, h2, h3, h4, h5, h6, h7, h8, h9, h10⟩ := ok; exact ⟨x, [], rfl, h4, h5, h6, h7, h8, h9, h10, fun e => absurd e h1⟩
  | esc x => obtain ⟨h1, h2, h3⟩ := ok; exact ⟨37, [x], rfl, by decide, by decide, by decide, by decide, by decide, by decide, by decide, fun _ => ⟨x, rfl, h1, h2, h3⟩⟩
  | dot => exact ⟨46, [], rfl, by decide, by decide, by decide, by decide, by decide, by decide, by decide, fun e => absurd e (by decide)⟩
  | set off seg => exact ⟨91, _, rfl, by decide, by decide, by decide, by decide, by decide, by decide, by decide, fun e => absurd e (by decide)⟩
theorem Sg.first_at {g : Sg} (ok : g.ok) {pat r : List Int} {p : Int} (h : At pat p (g.signs ++ r)) : ∃ x, pat.getD p.toNat 0 = x ∧ p < pat.length ∧ x ≠ 40 ∧ x ≠ 41 ∧ x ≠ 36 ∧ x ≠ 42 ∧ x ≠ 43 ∧ x ≠ 45 ∧ x ≠ 63 ∧ (x = 37 → atI pat (p + 1) ≠ 98 ∧ atI pat (p + 1) ≠ 102 ∧ isDigit (atI pat (p + 1)) = false) := by
  obtain ⟨x, t, e, h1, h2, h3, h4, h5, h6, h7, h8⟩ := Sg.first ok
  rw [e] at h
  obtain ⟨_, a2, a3, a4⟩ := h.cons
  refine ⟨x, a4, a2, h1, h2, h3, h4, h5, h6, h7, fun hx => ?_⟩
  obtain ⟨y, e2, b1, b2, b3⟩ := h8 hx
  rw [e2] at a3
  obtain ⟨c1, _⟩ := a3.cons
  rw [c1]
  exact ⟨b1, b2, b3⟩
theorem at_head {pat : List Int} : ∀ {r : List Pt} {sh : List Bool} {p : Int}, WfP r sh → At pat p (sg r) → atI pat p ≠ 42 ∧ atI pat p ≠ 43 ∧ atI pat p ≠ 45 ∧ atI pat p ≠ 63 ∧ (isCls r = false → atI pat p ≠ 41)
  | [], sh, p, w, h => by
    rw [h.nil.1]
    exact ⟨by decide, by decide, by decide, by decide, fun _ => by decide⟩
  | .one g fl q :: r, sh, p, w, h => by
    have h' : At pat p (g.signs ++ (quant q ++ sg r)) := by simpa [sg, Pt.signs] using h
    obtain ⟨x, t, e, h1, h2, h3, h4, h5, h6, h7, _⟩ := Sg.first w.1
    rw [e] at h'
    rw [h'.cons.1]
    exact ⟨h4, h5, h6, h7, fun _ => h2⟩
  | .opn :: r, sh, p, w, h => by rw [(show At pat p (40 :: sg r) from h).cons.1]; exact ⟨by decide, by decide, by decide, by decide, fun _ => by decide⟩
  | .cls :: r, sh, p, w, h => by rw [(show At pat p (41 :: sg r) from h).cons.1]; exact ⟨by decide, by decide, by decide, by decide, fun e => by cases e⟩
  | .spot :: r, sh, p, w, h => by rw [(show At pat p (40 :: 41 :: sg r) from h).cons.1]; exact ⟨by decide, by decide, by decide, by decide, fun _ => by decide⟩
  | .again k :: r, sh, p, w, h => by rw [(show At pat p (37 :: (49 + k) :: sg r) from h).cons.1]; exact ⟨by decide, by decide, by decide, by decide, fun _ => by decide⟩
  | .pair b e :: r, sh, p, w, h => by rw [(show At pat p (37 :: 98 :: b :: e :: sg r) from h).cons.1]; exact ⟨by decide, by decide, by decide, by decide, fun _ => by decide⟩
  | .edge off seg fl :: r, sh, p, w, h => by rw [(show At pat p (37 :: 102 :: ((Sg.set off seg).signs ++ sg r)) from h).cons.1]; exact ⟨by decide, by decide, by decide, by decide, fun _ => by decide⟩
  | .stop :: r, sh, p, w, h => by rw [(show At pat p (36 :: sg r) from h).cons.1]; exact ⟨by decide, by decide, by decide, by decide, fun _ => by decide⟩
section
variable {G : Gx} {P : Params} {n : Nat} {μ : Mu} {Q : D → Mu → Prop} {X : Prop} {dx : Addr} {text pat : List Int} {fs : List D}
theorem special_pair (A : Ax G P) {s p b e : Int} {r : List Int} (hμ : μ.lookup dx = some (.inst (Fx text pat fs))) (hl : Fits pat.length) (ht : Fits text.length) (h : At pat (p + 2) (b :: e :: r)) (hs : 0 ≤ s)
    (q : Q (.tup [optD (balanced text s b e), .int (p + 4)]) μ) : FS G (n+2) 168 [.obj dx, .int s, .int p, .int 98] μ Q X := by
  refine m_match_special_c A ?_
  unfold m_match_special
  repeat' (first | kts_caught | (with_reducible refine balance_k A hμ hl ht h hs ?_))
  all_goals first
    | (exfalso; tb_start)
    | exact ret_q q
theorem special_edge (A : Ax G P) {s p : Int} {off : Bool} {seg r : List Int} (hμ : μ.lookup dx = some (.inst (Fx text pat fs))) (hl : Fits pat.length) (ht : Fits text.length) (ok : SetOk off seg) (h : At pat (p + 2) ((Sg.set off seg).signs ++ r)) (hs : 0 ≤ s) (hst : s ≤ text.length)
    (q : Q (.tup [if onEdge text s (.set off seg) then .int s else .none, .int (p + 2 + ((Sg.set off seg).signs.length : Nat))]) μ) : FS G (n+7) 168 [.obj dx, .int s, .int p, .int 102] μ Q X := by
  refine m_match_special_c A ?_
  unfold m_match_special
  repeat' (first | kts_caught | (with_reducible refine frontier_k A hμ hl ht ok h hs hst ?_))
  all_goals first
    | (exfalso; tb_start)
    | exact ret_q q
theorem special_again (A : Ax G P) {a : Addr} {h : Held} {dep : Int} {st le : List Int} {s p k : Int} (M : Mt dx a text pat h dep st le μ) (ht : Fits text.length) (hok : HOk text h s) (hs : 0 ≤ s) (hst : s ≤ text.length) (k0 : 0 ≤ k) (k8 : k ≤ 8) (kl : k < (shut h).length) (ks : (shut h).getD k.toNat false = true)
    (q : Q (.tup [optD (repF text s (h.getD k.toNat (0, 0))), .int (p + 2)]) μ) : FS G (n+2) 168 [.obj dx, .int s, .int p, .int (49 + k)] μ Q X := by
  have hμ := M.ob
  have h1 := M.slen
  have h2 := M.llen
  have h3 := M.sl
  have h4 := M.ll
  rw [shut_len] at kl
  have hk : k.toNat < h.length := by tb_start
  have hm : h.getD k.toNat (0, 0) ∈ h := by
    rw [List.getD_eq_getElem?_getD, List.getElem?_eq_getElem hk]
    exact List.getElem_mem hk
  have hx := hok.all _ hm
  have hsh : openB (h.getD k.toNat (0, 0)) = false := by
    unfold shut at ks
    simpa [hk] using ks
  unfold openB at hsh
  have hsh := of_decide_eq_false hsh
  have e1 : (49 + k - 49).toNat = k.toNat := by tb_start
  have g1 := M.sget hk
  have g2 := M.lget hk
  refine m_match_special_c A ?_
  unfold m_match_special
  repeat' (first | kts_caught | (with_reducible refine capture_again (st := st) (le := le) (a := a) (dep := dep) (lev := h.length) A hμ M.ls ht (by tb_start) (by tb_start) (by tb_start) (by tb_start) (by unfold Fits; tb_start) (by unfold Fits; tb_start) hs hst ?hv ?_; case hv => (rw [e1, g1, g2]; rcases hx.2.2 with z | z | z <;> first | exact absurd z hsh | exact .inl z | exact .inr ⟨z.1, hx.1, z.2⟩)))
  all_goals first
    | (exfalso; tb_start)
    | (rw [e1, g1, g2]; exact ret_q q)
end
section
variable {G : Gx} {P : Params} {n : Nat} {μ : Mu} {Q : D → Mu → Prop} {X : Prop} {dx : Addr} {text pat : List Int}
theorem MPost.now {dx : Addr} {h : Held} {dep : Int} {r : Option (Int × Held)} (q : MPost dx text pat r h dep μ Q) (S : St dx text pat h dep μ) : (r = none → Q .none μ) ∧ (∀ e, r = some (e, h) → Q (.int e) μ) :=
  ⟨fun hr => (q μ (Frame.refl _ _)).1 hr S, fun e hr => (q μ (Frame.refl _ _)).2 e h hr S⟩
theorem MPost.imp {dx : Addr} {h : Held} {dep : Int} {r : Option (Int × Held)} {Q' : D → Mu → Prop} (hi : ∀ d μ', Q d μ' → Q' d μ') (q : MPost dx text pat r h dep μ Q) : MPost dx text pat r h dep μ Q' :=
  fun μ' hf => ⟨fun hr S => hi _ _ ((q μ' hf).1 hr S), fun e h' hr S => hi _ _ ((q μ' hf).2 e h' hr S)⟩
theorem fs_one {α : Type} {f : Int → Option α} {a : Int} : firstSome f [a] = f a := by
  show (match f a with | some x => some x | none => none) = f a
  cases f a <;> rfl
theorem fs_some {α : Type} {f : Int → Option α} {a : Int} {l : List Int} {x : α} (h : f a = some x) : firstSome f (a :: l) = some x := by
  show (match f a with | some x => some x | none => firstSome f l) = some x
  rw [h]
theorem fs_none {α : Type} {f : Int → Option α} {a : Int} {l : List Int} (h : f a = none) : firstSome f (a :: l) = firstSome f l := by
  show (match f a with | some x => some x | none => firstSome f l) = _
  rw [h]
theorem signs_pos {pt : Pt} : 0 < pt.signs.length := by
  cases pt with
  | one g =>
    refine Nat.lt_of_lt_of_le ?_ (List.length_append ▸ Nat.le_add_right _ _)
    cases g <;> exact Nat.succ_pos _
  | _ => exact Nat.succ_pos _
theorem sg_lt {pt : Pt} {r : List Pt} {p : Int} (h : At pat p (sg (pt :: r))) : p < pat.length := by
  have h1 := h.len
  have h2 : (sg (pt :: r)).length = pt.signs.length + (sg r).length := List.length_append
  have h3 := signs_pos (pt := pt)
  tb_start
/-- the loop of match_here: what is left of the parts, where, and what may come of it -/
inductive HJ (dx : Addr) (text pat : List Int) (ps0 : List Pt) (h : Held) (dep : Int) (Q : D → Mu → Prop) (ps : List Pt) : Loc → Mu → Prop where
  | mk (s p : Int) (ν : Mu) (x3 x4 x5 x6 x7 x8 : Option D) (hps : ps.length ≤ ps0.length) (hat : At pat p (sg ps)) (s0 : 0 ≤ s) (s1 : s ≤ text.length) (hok : HOk text h s) (wf : WfP ps (shut h)) (S : St dx text pat h dep ν) (q : MPost dx text pat (go text ps s h) h dep ν Q) :
    HJ dx text pat ps0 h dep Q ps [some (.obj dx), some (.int s), some (.int p), x3, x4, x5, x6, x7, x8, none, none, none, none, none, none, none, none, none, none, none, none] ν
theorem match_here_k (A : Ax G P) (hl : Fits pat.length) (ht : Fits text.length) (hoct : ∀ x ∈ pat, 0 ≤ x ∧ x < 256) {ps0 : List Pt} (ihs : ∀ r : List Pt, r.length < ps0.length → MatchOk G dx text pat r) {s p : Int} {h : Held} {dep : Int}
    (hn : 3 * ps0.length + 10 ≤ n) (hat : At pat p (sg ps0)) (s0 : 0 ≤ s) (s1 : s ≤ text.length) (hok : HOk text h s) (wf : WfP ps0 (shut h)) (d0 : 0 ≤ dep) (d1 : dep + ps0.length ≤ 60) (hhl : h.length + ps0.length ≤ 32)
    (S : St dx text pat h dep μ) (q : MPost dx text pat (go text ps0 s h) h dep μ Q) : FS G (n + 1) 161 [.obj dx, .int s, .int p] μ Q X := by
  obtain ⟨n, rfl⟩ : ∃ k, n = k + 10 := ⟨n - 10, by tb_start⟩
  refine m_match_here_c A ?_
  unfold m_match_here
  repeat' kts_caught
  refine vs_whl_rel List.length (HJ dx text pat ps0 h dep Q) ps0 ⟨s, p, μ, none, none, none, none, none, none, Nat.le_refl _, hat, s0, s1, hok, wf, S, q⟩ ?_
  clear wf S q s0 s1 hok hat
  rintro ps _ ν ⟨s, p, _, x3, x4, x5, x6, x7, x8, hps, hat, s0, s1, hok, wf, S, q⟩ W ih
  obtain ⟨a, st, le, M⟩ := id S
  have hμ := M.ob
  have hp := hat.pos
  cases ps with
  | nil =>
    have := hat.nil.2
    repeat' kts_caught
    · exact ret_q ((q.now S).2 _ rfl)
  | cons pt r =>
    have hr : r.length < ps0.length := by simp only [List.length_cons] at hps; tb_start
    have ihr := ihs r hr
    have rl : (r.length : Int) + 1 ≤ ps0.length := by tb_start
    repeat ((fail_if_success (with_unfolding_none show pick _ _ _)); kts_caught)
    refine pick_decT (sg_lt hat) ?_
    refine cut_k (ss := m_match_here_b1) 1 (fun loc μ' => ν = μ' ∧ loc = [some (.obj dx), some (.int s), some (.int p), some (.int (pat.getD p.toNat 0)), some (.int (atI pat (p + 1))), x5, x6, x7, x8, none, none, none, none, none, none, none, none, none, none, none, none]) (fun K hK _ => ?_) fun loc μ' hR => ?_
    · have hlt := sg_lt hat
      repeat' (first | kts_caught | (with_reducible refine at_k A (by assumption) (by assumption) ?hp ?_; (case hp => (first | assumption | tb_start))))
      exact hK _ _ ⟨rfl, rfl⟩
    obtain ⟨rfl, rfl⟩ := hR
    cases pt with
    | opn =>
      obtain ⟨a1, a2, a3, a4⟩ := (show At pat p (40 :: sg r) from hat).cons
      have hh : ¬ atI pat (p + 1) = 41 := (at_head wf.2 a3).2.2.2.2 wf.1
      have q : MPost dx text pat (go text r s (h ++ [(s, -1)])) h dep ν Q := q
      repeat' (first | kts_caught | (with_reducible refine at_k A (by assumption) (by assumption) ?hp ?_; (case hp => (first | assumption | tb_start))) | ((with_reducible show FS _ _ 203 _ _ _ _); refine start_capture_k A ihr (by tb_start) a3 (.inl rfl) s0 s1 hok (by rw [shut_snoc]; exact wf.2) d0 (by tb_start) (by simp only [List.length_cons] at hps; tb_start) S (MPost.imp ?_ q); intro d μ' z) | (exfalso; tb_start))
      exact ret_q z
    | cls =>
      obtain ⟨a1, a2, a3, a4⟩ := (show At pat p (41 :: sg r) from hat).cons
      have n40 : ¬ pat.getD p.toNat 0 = 40 := by tb_start
      have q : MPost dx text pat (go text r s (closeH h s)) h dep ν Q := q
      repeat' (first | kts_caught | (with_reducible refine at_k A (by assumption) (by assumption) ?hp ?_; (case hp => (first | assumption | tb_start))) | ((with_reducible show FS _ _ 210 _ _ _ _); refine end_capture_k A ihr (by tb_start) a3 s0 s1 hok wf.1 (by rw [shut_close fun y hy => (hok.all y hy).2.1]; exact wf.2) d0 (by tb_start) (by simp only [List.length_cons] at hps; tb_start) S (MPost.imp ?_ q); intro d μ' z) | (exfalso; tb_start))
      exact ret_q z
    | spot =>
      obtain ⟨a1, a2, a3, a4⟩ := (show At pat p (40 :: 41 :: sg r) from hat).cons
      obtain ⟨b1, b2, b3, b4⟩ := a3.cons
      have b3 : At pat (p + 2) (sg r) := by rw [show p + 2 = p + 1 + 1 from by tb_start]; exact b3
      have q : MPost dx text pat (go text r s (h ++ [(s, -2)])) h dep ν Q := q
      repeat' (first | kts_caught | (with_reducible refine at_k A (by assumption) (by assumption) ?hp ?_; (case hp => (first | assumption | tb_start))) | ((with_reducible show FS _ _ 203 _ _ _ _); refine start_capture_k A ihr (by tb_start) b3 (.inr rfl) s0 s1 hok (by rw [shut_snoc]; exact wf) d0 (by tb_start) (by simp only [List.length_cons] at hps; tb_start) S (MPost.imp ?_ q); intro d μ' z) | (exfalso; tb_start))
      exact ret_q z
    | again k =>
      obtain ⟨a1, a2, a3, a4⟩ := (show At pat p (37 :: (49 + k) :: sg r) from hat).cons
      obtain ⟨b1, b2, b3, b4⟩ := a3.cons
      have n40 : ¬ pat.getD p.toNat 0 = 40 := by tb_start
      have n41 : ¬ pat.getD p.toNat 0 = 41 := by tb_start
      have n36 : ¬ pat.getD p.toNat 0 = 36 := by tb_start
      obtain ⟨k0, k8, kl, ks, w⟩ := wf
      have b3 : At pat (p + 2) (sg r) := by rw [show p + 2 = p + 1 + 1 from by tb_start]; exact b3
      have hd : isDigit (atI pat (p + 1)) = true := by rw [b1]; simp [isDigit]; tb_start
      have hsec : FS G (n + 10) 168 [.obj dx, .int s, .int p, .int (atI pat (p + 1))] = FS G (n + 10) 168 [.obj dx, .int s, .int p, .int (49 + k)] := by rw [b1]
      cases hb : repF text s (h.getD k.toNat (0, 0)) with
      | none =>
        simp only [go_0, go_1, go_2, go_3, go_4, go_5, go_6, go_7, go_8, hb] at q
        repeat' (first | kts_caught | (with_reducible refine at_k A (by assumption) (by assumption) ?hp ?_; (case hp => (first | assumption | tb_start))) | (with_reducible refine cmp_bf (atI_oct hoct (by tb_start)) ?_) | (with_reducible refine is_digit_k A ?_; rw [hd]) | (rw [hsec]; refine special_again A M ht hok s0 s1 k0 k8 kl ks ?_; rw [hb]) | (exfalso; tb_start))
        exact ret_q ((q.now S).1 rfl)
      | some t =>
        simp only [go_0, go_1, go_2, go_3, go_4, go_5, go_6, go_7, go_8, hb] at q
        have hk : k.toNat < h.length := by rw [shut_len] at kl; tb_start
        have hm : h.getD k.toNat (0, 0) ∈ h := by
          rw [List.getD_eq_getElem?_getD, List.getElem?_eq_getElem hk]
          exact List.getElem_mem hk
        have hx := hok.all _ hm
        have hsh : openB (h.getD k.toNat (0, 0)) = false := by
          unfold shut at ks
          simpa [hk] using ks
        unfold openB at hsh
        have hsh := of_decide_eq_false hsh
        have ht2 := repF_ge s0 s1 (x := h.getD k.toNat (0, 0)) (by rcases hx.2.2 with q | q | q; exact absurd q hsh; exact .inl q; exact .inr ⟨q.1, hx.1, q.2⟩) hb
        repeat' (first | kts_caught | (with_reducible refine at_k A (by assumption) (by assumption) ?hp ?_; (case hp => (first | assumption | tb_start))) | (with_reducible refine cmp_bf (atI_oct hoct (by tb_start)) ?_) | (with_reducible refine is_digit_k A ?_; rw [hd]) | (rw [hsec]; refine special_again A M ht hok s0 s1 k0 k8 kl ks ?_; rw [hb]) | (exfalso; tb_start))
        exact ih r _ _ ⟨_, _, _, _, _, _, _, _, _, Nat.le_of_lt hr, b3, by tb_start, by tb_start, hok.mono ht2.1, w, S, q⟩ (Nat.lt_succ_self _)
    | pair b e =>
      obtain ⟨a1, a2, a3, a4⟩ := (show At pat p (37 :: 98 :: b :: e :: sg r) from hat).cons
      obtain ⟨b1, b2, b3, b4⟩ := a3.cons
      have n40 : ¬ pat.getD p.toNat 0 = 40 := by tb_start
      have n41 : ¬ pat.getD p.toNat 0 = 41 := by tb_start
      have n36 : ¬ pat.getD p.toNat 0 = 36 := by tb_start
      have hbf : atI pat (p + 1) = 98 ∨ atI pat (p + 1) = 102 := by tb_start
      have b3 : At pat (p + 2) (b :: e :: sg r) := by rw [show p + 2 = p + 1 + 1 from by tb_start]; exact b3
      have c3 : At pat (p + 4) (sg r) := by rw [show p + 4 = p + 2 + 1 + 1 from by tb_start]; exact b3.cons.2.2.1.cons.2.2.1
      have hsec : FS G (n + 10) 168 [.obj dx, .int s, .int p, .int (atI pat (p + 1))] = FS G (n + 10) 168 [.obj dx, .int s, .int p, .int 98] := by rw [b1]
      cases hb : balanced text s b e with
      | none =>
        simp only [go_0, go_1, go_2, go_3, go_4, go_5, go_6, go_7, go_8, hb] at q
        repeat' (first | kts_caught | (with_reducible refine at_k A (by assumption) (by assumption) ?hp ?_; (case hp => (first | assumption | tb_start))) | (with_reducible refine cmp_bf (atI_oct hoct (by tb_start)) ?_) | (rw [hsec]; refine special_pair A hμ hl ht b3 s0 ?_; rw [hb]) | (exfalso; tb_start))
        exact ret_q ((q.now S).1 rfl)
      | some t =>
        simp only [go_0, go_1, go_2, go_3, go_4, go_5, go_6, go_7, go_8, hb] at q
        have ht2 := balanced_ge s0 s1 hb
        repeat' (first | kts_caught | (with_reducible refine at_k A (by assumption) (by assumption) ?hp ?_; (case hp => (first | assumption | tb_start))) | (with_reducible refine cmp_bf (atI_oct hoct (by tb_start)) ?_) | (rw [hsec]; refine special_pair A hμ hl ht b3 s0 ?_; rw [hb]) | (exfalso; tb_start))
        exact ih r _ _ ⟨_, _, _, _, _, _, _, _, _, Nat.le_of_lt hr, c3, by tb_start, by tb_start, hok.mono ht2.1, wf, S, q⟩ (Nat.lt_succ_self _)
    | edge off seg fl =>
      obtain ⟨a1, a2, a3, a4⟩ := (show At pat p (37 :: 102 :: ((Sg.set off seg).signs ++ sg r)) from hat).cons
      obtain ⟨b1, b2, b3, b4⟩ := a3.cons
      have n40 : ¬ pat.getD p.toNat 0 = 40 := by tb_start
      have n41 : ¬ pat.getD p.toNat 0 = 41 := by tb_start
      have n36 : ¬ pat.getD p.toNat 0 = 36 := by tb_start
      have hbf : atI pat (p + 1) = 98 ∨ atI pat (p + 1) = 102 := by tb_start
      obtain ⟨ok, w⟩ := wf
      have b3 : At pat (p + 2) ((Sg.set off seg).signs ++ sg r) := by rw [show p + 2 = p + 1 + 1 from by tb_start]; exact b3
      have c3 := b3.app
      have hsec : FS G (n + 10) 168 [.obj dx, .int s, .int p, .int (atI pat (p + 1))] = FS G (n + 10) 168 [.obj dx, .int s, .int p, .int 102] := by rw [b1]
      cases hb : onEdge text s (.set off seg) with
      | false =>
        simp only [go_0, go_1, go_2, go_3, go_4, go_5, go_6, go_7, go_8, hb] at q
        repeat' (first | kts_caught | (with_reducible refine at_k A (by assumption) (by assumption) ?hp ?_; (case hp => (first | assumption | tb_start))) | (with_reducible refine cmp_bf (atI_oct hoct (by tb_start)) ?_) | (rw [hsec]; refine special_edge A hμ hl ht ok b3 s0 s1 ?_; rw [hb]; first | rw [if_neg Bool.false_ne_true] | rw [if_pos (rfl : true = true)]) | (exfalso; tb_start))
        exact ret_q ((q.now S).1 rfl)
      | true =>
        simp only [go_0, go_1, go_2, go_3, go_4, go_5, go_6, go_7, go_8, hb] at q
        repeat' (first | kts_caught | (with_reducible refine at_k A (by assumption) (by assumption) ?hp ?_; (case hp => (first | assumption | tb_start))) | (with_reducible refine cmp_bf (atI_oct hoct (by tb_start)) ?_) | (rw [hsec]; refine special_edge A hμ hl ht ok b3 s0 s1 ?_; rw [hb]; first | rw [if_neg Bool.false_ne_true] | rw [if_pos (rfl : true = true)]) | (exfalso; tb_start))
        exact ih r _ _ ⟨_, _, _, _, _, _, _, _, _, Nat.le_of_lt hr, c3, s0, s1, hok, w, S, q⟩ (Nat.lt_succ_self _)
    | stop =>
      obtain ⟨a1, a2, a3, a4⟩ := (show At pat p (36 :: sg r) from hat).cons
      obtain ⟨rfl, w⟩ := wf
      have hend := a3.nil.2
      have n40 : ¬ pat.getD p.toNat 0 = 40 := by tb_start
      have n41 : ¬ pat.getD p.toNat 0 = 41 := by tb_start
      simp only [go_0, go_1, go_2, go_3, go_4, go_5, go_6, go_7, go_8] at q
      repeat' (first | kts_caught | (with_reducible refine at_k A (by assumption) (by assumption) ?hp ?_; (case hp => (first | assumption | tb_start))) | (exfalso; tb_start))
      · rw [if_pos (by assumption)] at q
        exact ret_q ((q.now S).2 _ rfl)
      · rw [if_neg (by assumption)] at q
        exact ret_q ((q.now S).1 rfl)
    | one g fl qq =>
      obtain ⟨ok, q0, q4, w⟩ := wf
      have hat' : At pat p (g.signs ++ (quant qq ++ sg r)) := by simpa [sg, Pt.signs] using hat
      obtain ⟨x, hx, hlt, n40, n41, n36, n42, n43, n45, n63, hne⟩ := Sg.first_at ok hat'
      subst hx
      obtain ⟨m1, m2⟩ := many_one (g := g) s0 s1
      have hend := hat'.app
      have hep := hend.pos
      have hrl : 3 * r.length + 13 ≤ n + 10 := by tb_start
      have hhr : h.length + r.length ≤ 32 := by simp only [List.length_cons] at hps; tb_start
      refine cut_k 6 (fun loc μ' => ν = μ' ∧ loc = [some (.obj dx), some (.int s), some (.int p), some (.int (pat.getD p.toNat 0)), some (.int (atI pat (p + 1))), some (.int (p + g.signs.length)), some (.int (atI pat (p + g.signs.length))), x7, x8, none, none, none, none, none, none, none, none, none, none, none, none]) (fun K hK _ => ?_) fun loc μ' hR => ?_
      · repeat' (first | kts_caught | (with_reducible refine at_k A (by assumption) (by assumption) ?hp ?_; (case hp => (first | assumption | tb_start))) | (with_reducible refine cmp_bf (atI_oct hoct (by tb_start)) ?_) | ((with_reducible show FS _ _ 62 _ _ _ _); refine is_digit_k A ?_; rw [(hne (by tb_start)).2.2]) | (with_reducible refine class_end_k A hμ hl ok hat' ?_) | (exfalso; tb_start))
        all_goals exact hK _ _ ⟨rfl, rfl⟩
      obtain ⟨rfl, rfl⟩ := hR
      rcases (by tb_start : qq = 0 ∨ qq = 1 ∨ qq = 2 ∨ qq = 3 ∨ qq = 4) with rfl | rfl | rfl | rfl | rfl
      · -- plain
        obtain ⟨e42, e43, e45, e63, _⟩ := at_head w hend
        cases hb : oneAt text s g with
        | false =>
          have e : go text (.one g fl 0 :: r) s h = none := by rw [go_1, m2 hb]; rfl
          rw [e] at q
          repeat' (first | kts_caught | (with_reducible refine at_k A (by assumption) (by assumption) ?hp ?_; (case hp => (first | assumption | tb_start))) | (with_reducible refine cmp_bf (atI_oct hoct (by tb_start)) ?_) | ((with_reducible show FS _ _ 62 _ _ _ _); refine is_digit_k A ?_; rw [(hne (by tb_start)).2.2]) | (with_reducible refine class_end_k A hμ hl ok hat' ?_) | (refine single_k A hμ hl ht ok hat' s0 rfl ?_; rw [hb]) | (exfalso; first | tb_start | (have := hne (by tb_start); tb_start)))
          all_goals first
            | exact ret_q ((q.now S).1 rfl)
            | (rename_i hc; exact absurd hc (by decide))
        | true =>
          obtain ⟨k1, k2⟩ := m1 hb
          have e : go text (.one g fl 0 :: r) s h = go text r (s + 1) h := by
            rw [go_1, k1]
            exact fs_one
          rw [e] at q
          repeat' (first | kts_caught | (with_reducible refine at_k A (by assumption) (by assumption) ?hp ?_; (case hp => (first | assumption | tb_start))) | (with_reducible refine cmp_bf (atI_oct hoct (by tb_start)) ?_) | ((with_reducible show FS _ _ 62 _ _ _ _); refine is_digit_k A ?_; rw [(hne (by tb_start)).2.2]) | (with_reducible refine class_end_k A hμ hl ok hat' ?_) | (refine single_k A hμ hl ht ok hat' s0 rfl ?_; rw [hb]) | (exfalso; first | tb_start | (have := hne (by tb_start); tb_start)))
          all_goals first
            | (rename_i hc; exact absurd hc (by decide))
            | exact ih r _ _ ⟨_, _, _, _, _, _, _, _, _, Nat.le_of_lt hr, hend, by tb_start, by tb_start, hok.mono (show s ≤ s + 1 by tb_start), w, S, q⟩ (Nat.lt_succ_self _)
      · -- star
        have ha : atI pat (p + (g.signs.length : Nat)) = 42 := hend.cons.1
        have q : MPost dx text pat (firstSome (fun m => go text r (s + m) h) (down (many text g s))) h dep ν Q := q
        repeat' (first | ((with_reducible show FS _ _ 189 _ _ _ _); refine expand_most_k A ihr hl ht hrl ok hat' rfl s0 s1 hok w d0 (by tb_start) hhr S (MPost.imp ?_ q); intro d μ' z) | kts_caught | (with_reducible refine at_k A (by assumption) (by assumption) ?hp ?_; (case hp => (first | assumption | tb_start))) | (with_reducible refine cmp_bf (atI_oct hoct (by tb_start)) ?_) | ((with_reducible show FS _ _ 62 _ _ _ _); refine is_digit_k A ?_; rw [(hne (by tb_start)).2.2]) | (with_reducible refine class_end_k A hμ hl ok hat' ?_) | (refine single_k A hμ hl ht ok hat' s0 rfl ?_) | (exfalso; first | tb_start | (have := hne (by tb_start); tb_start)))
        all_goals exact ret_q z
      · -- plus
        have ha : atI pat (p + (g.signs.length : Nat)) = 43 := hend.cons.1
        have e42 : ¬ atI pat (p + (g.signs.length : Nat)) = 42 := by tb_start
        cases hb : oneAt text s g with
        | false =>
          have e : go text (.one g fl 2 :: r) s h = none := by rw [go_1, m2 hb]; rfl
          rw [e] at q
          repeat' (first | kts_caught | (with_reducible refine at_k A (by assumption) (by assumption) ?hp ?_; (case hp => (first | assumption | tb_start))) | (with_reducible refine cmp_bf (atI_oct hoct (by tb_start)) ?_) | ((with_reducible show FS _ _ 62 _ _ _ _); refine is_digit_k A ?_; rw [(hne (by tb_start)).2.2]) | (with_reducible refine class_end_k A hμ hl ok hat' ?_) | (refine single_k A hμ hl ht ok hat' s0 rfl ?_; rw [hb]) | (exfalso; first | tb_start | (have := hne (by tb_start); tb_start)))
          all_goals exact ret_q ((q.now S).1 rfl)
        | true =>
          obtain ⟨k1, k2⟩ := m1 hb
          have e : go text (.one g fl 2 :: r) s h = firstSome (fun m => go text r (s + 1 + m) h) (down (many text g (s + 1))) := by
            show firstSome (fun m => go text r (s + m) h) (counts 2 (many text g s)) = _
            rw [k1]
            show firstSome (fun m => go text r (s + m) h) ((down (many text g (s + 1))).map (· + 1)) = _
            rw [firstSome_map]
            congr 1
            funext m
            congr 1
            tb_start
          rw [e] at q
          repeat' (first | ((with_reducible show FS _ _ 189 _ _ _ _); refine expand_most_k A ihr hl ht hrl ok hat' rfl (by tb_start) (by tb_start) (hok.mono (by tb_start)) w d0 (by tb_start) hhr S (MPost.imp ?_ q); intro d μ' z) | kts_caught | (with_reducible refine at_k A (by assumption) (by assumption) ?hp ?_; (case hp => (first | assumption | tb_start))) | (with_reducible refine cmp_bf (atI_oct hoct (by tb_start)) ?_) | ((with_reducible show FS _ _ 62 _ _ _ _); refine is_digit_k A ?_; rw [(hne (by tb_start)).2.2]) | (with_reducible refine class_end_k A hμ hl ok hat' ?_) | (refine single_k A hμ hl ht ok hat' s0 rfl ?_; rw [hb]) | (exfalso; first | tb_start | (have := hne (by tb_start); tb_start)))
          all_goals exact ret_q z
      · -- minus
        have ha : atI pat (p + (g.signs.length : Nat)) = 45 := hend.cons.1
        have e42 : ¬ atI pat (p + (g.signs.length : Nat)) = 42 := by tb_start
        have e43 : ¬ atI pat (p + (g.signs.length : Nat)) = 43 := by tb_start
        have q : MPost dx text pat (firstSome (fun m => go text r (s + m) h) (upFrom 0 (many text g s))) h dep ν Q := q
        repeat' (first | ((with_reducible show FS _ _ 196 _ _ _ _); refine expand_least_k A ihr hl ht hrl ok hat' rfl s0 s1 hok w d0 (by tb_start) hhr S (MPost.imp ?_ q); intro d μ' z) | kts_caught | (with_reducible refine at_k A (by assumption) (by assumption) ?hp ?_; (case hp => (first | assumption | tb_start))) | (with_reducible refine cmp_bf (atI_oct hoct (by tb_start)) ?_) | ((with_reducible show FS _ _ 62 _ _ _ _); refine is_digit_k A ?_; rw [(hne (by tb_start)).2.2]) | (with_reducible refine class_end_k A hμ hl ok hat' ?_) | (refine single_k A hμ hl ht ok hat' s0 rfl ?_) | (exfalso; first | tb_start | (have := hne (by tb_start); tb_start)))
        all_goals exact ret_q z
      · -- mark
        have ha : atI pat (p + (g.signs.length : Nat)) = 63 := hend.cons.1
        have e42 : ¬ atI pat (p + (g.signs.length : Nat)) = 42 := by tb_start
        have e43 : ¬ atI pat (p + (g.signs.length : Nat)) = 43 := by tb_start
        have e45 : ¬ atI pat (p + (g.signs.length : Nat)) = 45 := by tb_start
        have hafter := hend.cons.2.2.1
        cases hb : oneAt text s g with
        | false =>
          have e : go text (.one g fl 4 :: r) s h = go text r s h := by
            rw [go_1, m2 hb]
            exact fs_one.trans (by rw [Int.add_zero])
          rw [e] at q
          repeat' (first | kts_caught | (with_reducible refine at_k A (by assumption) (by assumption) ?hp ?_; (case hp => (first | assumption | tb_start))) | (with_reducible refine cmp_bf (atI_oct hoct (by tb_start)) ?_) | ((with_reducible show FS _ _ 62 _ _ _ _); refine is_digit_k A ?_; rw [(hne (by tb_start)).2.2]) | (with_reducible refine class_end_k A hμ hl ok hat' ?_) | (refine single_k A hμ hl ht ok hat' s0 rfl ?_; rw [hb]) | (exfalso; first | tb_start | (have := hne (by tb_start); tb_start)))
          all_goals exact ih r _ _ ⟨_, _, _, _, _, _, _, _, _, Nat.le_of_lt hr, hafter, by tb_start, by tb_start, hok, w, S, q⟩ (Nat.lt_succ_self _)
        | true =>
          obtain ⟨k1, k2⟩ := m1 hb
          have e : go text (.one g fl 4 :: r) s h = match go text r (s + 1) h with | some x => some x | none => go text r s h := by
            rw [go_1, k1]
            cases hg : go text r (s + 1) h with
            | some x => exact fs_some (f := fun m => go text r (s + m) h) hg
            | none => exact (fs_none (f := fun m => go text r (s + m) h) hg).trans (fs_one.trans (by rw [Int.add_zero]))
          rw [e] at q
          repeat' (first | kts_caught | (with_reducible refine at_k A (by assumption) (by assumption) ?hp ?_; (case hp => (first | assumption | tb_start))) | (with_reducible refine cmp_bf (atI_oct hoct (by tb_start)) ?_) | ((with_reducible show FS _ _ 62 _ _ _ _); refine is_digit_k A ?_; rw [(hne (by tb_start)).2.2]) | (with_reducible refine class_end_k A hμ hl ok hat' ?_) | (refine single_k A hμ hl ht ok hat' s0 rfl ?_; rw [hb]) | (exfalso; first | tb_start | (have := hne (by tb_start); tb_start)))
          all_goals
            refine ihr _ _ _ h dep _ _ _ (by tb_start) ⟨hafter, by tb_start, by tb_start, hok.mono (by tb_start), w, d0, by tb_start, hhr⟩ S ?_
            intro ν' hf
            refine ⟨fun hg S' => ?_, fun e2 h2 hg S' => ?_⟩
            · repeat' kts_caught
              rw [hg] at q
              exact ih r _ _ ⟨_, _, _, _, _, _, _, _, _, Nat.le_of_lt hr, hafter, by tb_start, by tb_start, hok, w, S', q.step hf⟩ (Nat.lt_succ_self _)
            · repeat' kts_caught
              rw [hg] at q
              exact ret_q ((q ν' hf).2 e2 h2 rfl S')
end
section
variable {G : Gx} {P : Params} {n : Nat} {μ : Mu} {Q : D → Mu → Prop} {X : Prop} {dx : Addr} {text pat : List Int}
/-- only the depth changes -/
theorem Mt.depth {a : Addr} {h : Held} {dep dep' : Int} {st le : List Int} {μ μ' : Mu} (M : Mt dx a text pat h dep st le μ) (h1 : μ'.lookup dx = some (.inst [.bytes text, .bytes pat, .int 60, .int dep', .int h.length, .lst (st.map .int), .cel a])) (h2 : ∀ b, b ≠ dx → μ'.lookup b = μ.lookup b) :
    Mt dx a text pat h dep' st le μ' ∧ Frame dx μ μ' := by
  have M' : Mt dx a text pat h dep' st le μ' := ⟨h1, (h2 a M.ne).trans M.ls, M.hst, M.hle, M.sl, M.ll⟩
  exact ⟨M', Frame.mk' M.lc M'.lc (.inl rfl) fun b hb _ _ => h2 b hb⟩
theorem match_all (A : Ax G P) (hl : Fits pat.length) (ht : Fits text.length) (hoct : ∀ x ∈ pat, 0 ≤ x ∧ x < 256) : ∀ (k : Nat) (ps : List Pt), ps.length ≤ k → MatchOk G dx text pat ps := by
  intro k
  induction k using Nat.strongRecOn with
  | ind k ihk =>
  intro ps hps n s p h dep μ Q X hn hp S q
  obtain ⟨hat, s0, s1, hok, wf, d0, d1, hhl⟩ := hp
  obtain ⟨n, rfl⟩ : ∃ k, n = k + 2 := ⟨n - 2, by tb_start⟩
  obtain ⟨a, st, le, M⟩ := id S
  have hμ := M.ob
  have ihs : ∀ r : List Pt, r.length < ps.length → MatchOk G dx text pat r := fun r hr => ihk r.length (by tb_start) r (Nat.le_refl _)
  refine m_match_c A ?_
  unfold m_match
  repeat' kts_caught
  refine setF_k hμ (by simp) (by decide) ?_
  intro μ1 hμ1 hf1
  obtain ⟨M1, F1⟩ := M.depth (dep' := dep + 1) hμ1 hf1
  have hμ1 := M1.ob
  have n60 : ¬ 60 < dep + 1 := by tb_start
  repeat' kts_caught
  refine match_here_k A hl ht hoct ihs (dep := dep + 1) (by tb_start) hat s0 s1 hok wf (by tb_start) (by tb_start) hhl ⟨_, _, _, M1⟩ ?_
  intro μ2 F2
  refine ⟨fun hr S2 => ?_, fun e2 h2 hr S2 => ?_⟩
  all_goals
    obtain ⟨a2, st2, le2, M2⟩ := id S2
    have hμ2 := M2.ob
    repeat' kts_caught
    refine setF_k hμ2 (by simp) (by decide) ?_
    intro μ3 hμ3 hf3
    obtain ⟨M3, F3⟩ := M2.depth (dep' := dep + 1 - 1) hμ3 hf3
    rw [show dep + 1 - 1 = dep from by tb_start] at M3
    repeat' kts_caught
  · exact ret_q ((q μ3 ((F1.trans F2).trans F3)).1 hr ⟨_, _, _, M3⟩)
  · exact ret_q ((q μ3 ((F1.trans F2).trans F3)).2 e2 h2 hr ⟨_, _, _, M3⟩)
/-- a Matcher, whatever it holds -/
noncomputable def Mat (dx : Addr) (text pat : List Int) (μ : Mu) : Prop := ∃ d l s z, μ.lookup dx = some (.inst [.bytes text, .bytes pat, .int 60, d, l, s, z])
theorem St.mat {h : Held} {dep : Int} (S : St dx text pat h dep μ) : Mat dx text pat μ := by
  obtain ⟨a, st, le, M⟩ := S
  exact ⟨_, _, _, _, M.ob⟩
/-- all cells but one, and but those that come to be -/
noncomputable def Frame1 (dx : Addr) (μ μ' : Mu) : Prop := ∀ b c, b ≠ dx → μ.lookup b = some c → μ'.lookup b = some c
theorem reset_k (A : Ax G P) (hm : Mat dx text pat μ) (q : ∀ μ', Frame dx μ μ' → St dx text pat [] 0 μ' → Q .none μ') : FS G (n + 1) 119 [.obj dx] μ Q X := by
  obtain ⟨d, l, s, z, hμ⟩ := hm
  refine m_reset_c A ?_
  unfold m_reset
  repeat' kts_caught
  refine setF_k hμ (by simp) (by decide) ?_
  intro μ1 hμ1 hf1
  have hμ1 : μ1.lookup dx = some (.inst [.bytes text, .bytes pat, .int 60, .int 0, l, s, z]) := hμ1
  repeat' kts_caught
  refine setF_k hμ1 (by simp) (by decide) ?_
  intro μ2 hμ2 hf2
  have hμ2 : μ2.lookup dx = some (.inst [.bytes text, .bytes pat, .int 60, .int 0, .int 0, s, z]) := hμ2
  repeat' kts_caught
  refine setF_k hμ2 (by simp) (by decide) ?_
  intro μ3 hμ3 hf3
  have hμ3 : μ3.lookup dx = some (.inst [.bytes text, .bytes pat, .int 60, .int 0, .int 0, .lst [], z]) := hμ3
  repeat' kts_caught
  refine newL_t (by unfold Fits; decide) fun a ha => ?_
  repeat' kts_caught
  have hne : a ≠ dx := by rintro rfl; have := fresh_none ha; rw [this] at hμ3; cases hμ3
  have hμ4 : List.lookup dx ((a, Cell.lst []) :: μ3) = some (.inst [.bytes text, .bytes pat, .int 60, .int 0, .int 0, .lst [], z]) := (by rw [List.lookup_cons, beq_false_of_ne (Ne.symm hne)]; exact hμ3)
  repeat' kts_caught
  refine setF_k hμ4 (by simp) (by decide) ?_
  intro μ5 hμ5 hf5
  have hμ5 : μ5.lookup dx = some (.inst [.bytes text, .bytes pat, .int 60, .int 0, .int 0, .lst [], .cel a]) := hμ5
  have hb : ∀ b, b ≠ dx → μ3.lookup b = μ.lookup b := fun b hb => ((hf3 b hb).trans (hf2 b hb)).trans (hf1 b hb)
  have M : Mt dx a text pat [] 0 [] [] μ5 := by
    refine ⟨hμ5, ?_, rfl, rfl, by simp, by simp⟩
    rw [hf5 a hne, List.lookup_cons, beq_self_eq_true]
    rfl
  repeat' kts_caught
  refine next_q (q μ5 (fun b c hbd _ hbc => ?_) ⟨_, _, _, M⟩)
  have hba : b ≠ a := by
    rintro rfl
    rw [← hb b hbd, fresh_none ha] at hbc
    cases hbc
  refine ⟨?_, ?_⟩
  · rw [hf5 b hbd, List.lookup_cons, beq_false_of_ne hba]
    exact (hb b hbd).trans hbc
  · rw [M.lc]
    exact fun e => hba (Option.some.inj e).symm
/-- the first place at which the parts match -/
noncomputable def seek (text : List Int) (ps : List Pt) : Int → Nat → Option (Int × Int × Held)
  | _, 0 => none
  | s, k + 1 => match go text ps s [] with
    | some (e, h) => some (s, e, h)
    | none => seek text ps (s + 1) k
noncomputable def turns (text : List Int) (s : Int) (b : Bool) : Nat := if b then 1 else (text.length + 1 - s).toNat
theorem search_k (A : Ax G P) (hl : Fits pat.length) (ht : Fits text.length) (hoct : ∀ x ∈ pat, 0 ≤ x ∧ x < 256) {ps : List Pt} {s p : Int} {b : Bool} (hn : 3 * ps.length + 13 ≤ n) (hat : At pat p (sg ps)) (wf : WfP ps []) (hlen : ps.length ≤ 32) (s0 : 0 ≤ s) (s1 : s ≤ text.length) (hm : Mat dx text pat μ)
    (q : ∀ μ', Frame dx μ μ' → (seek text ps s (turns text s b) = none → Q .none μ') ∧ ∀ s' e h, seek text ps s (turns text s b) = some (s', e, h) → St dx text pat h 0 μ' → Q (.tup [.int s', .int e]) μ') : FS G n 243 [.obj dx, .int s, .int p, .bool b] μ Q X := by
  obtain ⟨n, rfl⟩ : ∃ k, n = k + 13 := ⟨n - 13, by tb_start⟩
  refine m_search_c A ?_
  unfold m_search
  repeat' kts_caught
  refine vs_whl_loop (ι := Int × Mu × Option D) (fun x => (text.length + 1 - x.1).toNat) (fun x => [some (.obj dx), some (.int s), some (.int p), some (.bool b), some (.int x.1), x.2.2, none]) (fun x => x.2.1)
    (fun x => 0 ≤ x.1 ∧ x.1 ≤ text.length + 1 ∧ (b = true → x.1 ≤ text.length) ∧ Mat dx text pat x.2.1 ∧ Frame dx μ x.2.1 ∧ ∀ μ', Frame dx μ μ' → (seek text ps x.1 (turns text x.1 b) = none → Q .none μ') ∧ ∀ s' e h, seek text ps x.1 (turns text x.1 b) = some (s', e, h) → St dx text pat h 0 μ' → Q (.tup [.int s', .int e]) μ')
    (s, μ, none) rfl rfl ⟨s0, by simp only; tb_start, fun _ => s1, hm, Frame.refl _ _, q⟩ ?_
  clear s0 s1 hm q
  rintro ⟨i, ν, fd⟩ ⟨i0, i1, ib, hm, hf, q⟩ W ih
  simp only at i0 i1 ib hm hf q ih ⊢
  obtain ⟨d, l, st, z, hν⟩ := id hm
  repeat' kts_caught
  · refine reset_k A hm fun μ1 F1 S1 => ?_
    have hf := hf.trans F1
    obtain ⟨a1, st1, le1, M1⟩ := id S1
    have hμ1 := M1.ob
    repeat' kts_caught
    refine match_all A hl ht hoct _ ps (Nat.le_refl _) _ _ _ [] 0 _ _ _ (by tb_start) ⟨hat, i0, by tb_start, ⟨fun x hx => by cases hx⟩, wf, Int.le_refl _, by tb_start, by simpa using hlen⟩ S1 ?_
    intro μ2 F2
    have hf := hf.trans F2
    refine ⟨fun hr S2 => ?_, fun e2 h2 hr S2 => ?_⟩
    · cases b with
      | true =>
        have e : seek text ps i (turns text i true) = none := by simp only [turns, seek, hr, if_true]
        repeat' kts_caught
        all_goals exact ret_q ((q μ2 hf).1 e)
      | false =>
        have e : seek text ps i (turns text i false) = seek text ps (i + 1) (turns text (i + 1) false) := by
          have e1 : turns text i false = turns text (i + 1) false + 1 := by simp only [turns]; simp; tb_start
          rw [e1]
          simp only [seek, hr]
        rw [e] at q
        repeat' kts_caught
        all_goals exact ih (i + 1, μ2, _) ⟨by simp only; tb_start, by simp only; tb_start, (fun h => by cases h), S2.mat, hf, q⟩ (by simp only; tb_start)
    · have e : seek text ps i (turns text i b) = some (i, e2, h2) := by
        have e1 : ∃ k, turns text i b = k + 1 := by
          cases b with
          | true => exact ⟨0, rfl⟩
          | false => exact ⟨turns text i false - 1, by simp only [turns]; simp; tb_start⟩
        obtain ⟨k, e1⟩ := e1
        rw [e1]
        simp only [seek, hr]
      repeat' kts_caught
      exact ret_q ((q μ2 hf).2 _ _ _ e S2)
  · have e : seek text ps i (turns text i b) = none := by
      cases b with
      | true => exact absurd (ib rfl) (by tb_start)
      | false =>
        have e1 : turns text i false = 0 := by simp only [turns]; simp; tb_start
        rw [e1]
        rfl
    repeat' kts_caught
    all_goals exact ret_q ((q ν hf).1 e)
end
theorem small_ok {a b c : Int} (ha : -1073741824 ≤ a ∧ a ≤ 1073741824) (hb : -1073741824 ≤ b ∧ b ≤ 1073741824) (hc : c = 1 ∨ c = -1) : Builtin.Range.small a b c = true := by
  unfold Builtin.Range.small
  have h1 : ∀ x : Int, -4611686018427387904 ≤ x ∧ x ≤ 4611686018427387904 → Builtin.Range.rangeFitsLong x = true := by
    intro x hx
    unfold Builtin.Range.rangeFitsLong
    simp
    tb_start
  have h2 : -4611686018427387904 ≤ Builtin.Range.rangeSize a b c ∧ Builtin.Range.rangeSize a b c ≤ 4611686018427387904 := by
    unfold Builtin.Range.rangeSize
    rcases hc with rfl | rfl
    · simp; split <;> tb_start
    · simp; split <;> tb_start
  rw [h1 a (by tb_start), h1 b (by tb_start), h1 c (by tb_start), h1 _ h2, h1 _ (by tb_start), h1 _ (by tb_start)]
  simp
theorem rangeL_up {a b : Int} : rangeL a b 1 = (List.range (b - a).toNat).map fun (k : Nat) => a + ((k : Nat) : Int) := by
  have e : rangeN a b 1 = (b - a).toNat := by
    unfold rangeN
    rw [if_pos (by decide)]
    split
    · rw [Int.ediv_one]; congr 1; tb_start
    · tb_start
  unfold rangeL
  rw [e]
  congr 1
  funext k
  tb_start
theorem fits_le {n m : Nat} (h : n + m ≤ 100000) : Fits n := by unfold Fits; tb_start
/-- each item taken -/
theorem gath_map {α : Type} {step : D → Mu → (Option D → Mu → Prop) → Prop} {g f : α → D} {μ : Mu} {Q : D → Mu → Prop} {l : List α} : ∀ {acc : List D}, (∀ x ∈ l, ∀ k : Option D → Mu → Prop, k (some (f x)) μ → step (g x) μ k) → acc.length + l.length ≤ 100000 → Q (.lst (acc ++ l.map f)) μ → gath step (l.map g) acc μ Q := by
  induction l with
  | nil => intro acc _ hn q; exact ⟨fits_le hn, (List.append_nil acc) ▸ q⟩
  | cons x l ih =>
    intro acc hs hn q
    exact ⟨fits_le hn, hs x List.mem_cons_self _ (ih (fun x hx => hs x (List.mem_cons_of_mem _ hx)) (by rw [List.length_append, Nat.add_assoc, Nat.add_comm [f x].length]; exact hn) (by rw [List.append_assoc]; exact q))⟩
/-- some items taken -/
theorem gath_flt {α : Type} {step : D → Mu → (Option D → Mu → Prop) → Prop} {g f : α → D} {p : α → Bool} {μ : Mu} {Q : D → Mu → Prop} {l : List α} : ∀ {acc : List D}, (∀ x ∈ l, ∀ k : Option D → Mu → Prop, k (if p x then some (f x) else none) μ → step (g x) μ k) → acc.length + l.length ≤ 100000 → Q (.lst (acc ++ (l.filter p).map f)) μ → gath step (l.map g) acc μ Q := by
  induction l with
  | nil => intro acc _ hn q; exact ⟨fits_le hn, (List.append_nil acc) ▸ q⟩
  | cons x l ih =>
    intro acc hs hn q
    refine ⟨fits_le hn, hs x List.mem_cons_self _ ?_⟩
    by_cases h : p x = true
    · rw [List.filter_cons_of_pos h] at q
      rw [if_pos h]
      exact ih (fun x hx => hs x (List.mem_cons_of_mem _ hx)) (by rw [List.length_append, Nat.add_assoc, Nat.add_comm [f x].length]; exact hn) (by rw [List.append_assoc]; exact q)
    · rw [List.filter_cons_of_neg h] at q
      rw [if_neg h]
      exact ih (fun x hx => hs x (List.mem_cons_of_mem _ hx)) (Nat.le_of_succ_le hn) q
theorem rng_src {a b : Int} (ha : -1073741824 ≤ a ∧ a ≤ 1073741824) (hb : -1073741824 ≤ b ∧ b ≤ 1073741824) : srcOf (.rng a b 1) = some ((List.range (b - a).toNat).map fun (k : Nat) => .int (a + (k : Int))) := by
  unfold srcOf
  simp only
  rw [if_pos (small_ok ha hb (.inl rfl)), rangeL_up, List.map_map]
  rfl
theorem rng_src0 {n : Nat} (hn : n ≤ 1000) : srcOf (.rng 0 n 1) = some ((List.range n).map fun (k : Nat) => .int (k : Int)) := by
  rw [rng_src (by tb_start) (by tb_start)]
  simp
/-- what a capture gives -/
noncomputable def capD (text : List Int) (x : Int × Int) : D := if x.2 = -2 then .int (x.1 + 1) else .bytes (cut text x.1.toNat (x.1 + x.2).toNat)
noncomputable def toldL (text : List Int) (s e : Int) (h : Held) : List D := if h = [] then [.bytes (cut text s.toNat e.toNat)] else h.map (capD text)
section
variable {G : Gx} {P : Params} {n : Nat} {μ : Mu} {Q : D → Mu → Prop} {X : Prop} {dx : Addr} {text pat : List Int}
theorem capture_k (A : Ax G P) {a : Addr} {h : Held} {dep : Int} {st le : List Int} {s e i : Int} (M : Mt dx a text pat h dep st le μ) (ht : Fits text.length) (hok : HOk text h e) (he : e ≤ text.length) (i0 : 0 ≤ i) (i1 : i < h.length) (ho : openB (h.getD i.toNat (0, 0)) = false)
    (q : Q (capD text (h.getD i.toNat (0, 0))) μ) : FS G (n + 1) 231 [.obj dx, .int i, .int s, .int e] μ Q X := by
  have hμ := M.ob
  have hls := M.ls
  have h1 := M.slen
  have h2 := M.llen
  have h3 := M.sl
  have h4 := M.ll
  have hk : i.toNat < h.length := by tb_start
  have hm : h.getD i.toNat (0, 0) ∈ h := by
    rw [List.getD_eq_getElem?_getD, List.getElem?_eq_getElem hk]
    exact List.getElem_mem hk
  have hx := hok.all _ hm
  unfold openB at ho
  have ho := of_decide_eq_false ho
  have g1 := M.sget hk
  have g2 := M.lget hk
  rw [← g1, ← g2] at hx
  rw [← g2] at ho
  unfold capD at q
  rw [← g1, ← g2] at q
  have nk : ¬ (h.length : Int) ≤ i := by tb_start
  refine m_capture_c A ?_
  unfold m_capture
  unfold Fits at ht
  by_cases e2 : le.getD i.toNat 0 = -2
  · rw [if_pos e2] at q
    repeat' kts_caught
    exact ret_q q
  · rw [if_neg e2] at q
    have hx3 : 0 ≤ le.getD i.toNat 0 ∧ st.getD i.toNat 0 + le.getD i.toNat 0 ≤ text.length := by tb_start
    repeat' kts_caught
    exact ret_q q
theorem capture_whole (A : Ax G P) {a : Addr} {dep : Int} {st le : List Int} {s e : Int} (M : Mt dx a text pat [] dep st le μ) (ht : Fits text.length) (s0 : 0 ≤ s) (se : s ≤ e) (he : e ≤ text.length)
    (q : Q (.bytes (cut text s.toNat e.toNat)) μ) : FS G (n + 1) 231 [.obj dx, .int 0, .int s, .int e] μ Q X := by
  have hμ : μ.lookup dx = some (.inst [.bytes text, .bytes pat, .int 60, .int dep, .int 0, .lst (st.map .int), .cel a]) := M.ob
  refine m_capture_c A ?_
  unfold m_capture
  have n1 : (0 : Int) ≤ 0 := Int.le_refl _
  have n2 : ¬ (0 : Int) < 0 := by tb_start
  unfold Fits at ht
  repeat' kts_caught
  exact ret_q q
theorem captures_k (A : Ax G P) {h : Held} {dep : Int} {s e : Int} (S : St dx text pat h dep μ) (ht : Fits text.length) (hok : HOk text h e) (s0 : 0 ≤ s) (se : s ≤ e) (he : e ≤ text.length) (hs : ∀ x ∈ shut h, x = true) (hl : h.length ≤ 32)
    (q : Q (.lst (toldL text s e h)) μ) : FS G (n + 2) 236 [.obj dx, .int s, .int e, .bool true] μ Q X := by
  obtain ⟨a, st, le, M⟩ := id S
  have hμ := M.ob
  refine m_captures_c A ?_
  unfold m_captures
  unfold toldL at q
  by_cases hh : h = []
  · subst hh
    have hμ : μ.lookup dx = some (.inst [.bytes text, .bytes pat, .int 60, .int dep, .int 0, .lst (st.map .int), .cel a]) := M.ob
    rw [if_pos rfl] at q
    have n1 : (0 : Int) = 0 := rfl
    repeat' kts_caught
    refine ⟨⟨by decide, by decide⟩, ?_⟩
    refine ⟨_, rng_src0 (n := 1) (by decide), ?_⟩
    refine gath_map (f := fun _ => .bytes (cut text s.toNat e.toNat)) ?_ (by simp) ?_
    · intro j hj k hk
      obtain rfl : j = 0 := by simpa using hj
      refine stepX_k rfl ?_
      repeat' kts_caught
      exact capture_whole A M ht s0 se he hk
    · repeat' kts_caught
      exact ret_q q
  · rw [if_neg hh] at q
    have h0 : h.length ≠ 0 := fun e => hh (List.length_eq_zero_iff.mp e)
    have n1 : ¬ (h.length : Int) = 0 := by tb_start
    repeat' kts_caught
    refine ⟨⟨by tb_start, by tb_start⟩, ?_⟩
    refine ⟨_, rng_src0 (n := h.length) (by tb_start), ?_⟩
    refine gath_map (f := fun j => capD text (h.getD j (0, 0))) ?_ (by simp; tb_start) ?_
    · intro j hj k hk
      have hj := List.mem_range.mp hj
      refine stepX_k rfl ?_
      repeat' kts_caught
      refine capture_k A M ht hok he (by tb_start) (by tb_start) ?_ hk
      rw [Int.toNat_natCast]
      have := hs (!openB (h.getD j (0, 0))) (by
        unfold shut
        refine List.mem_map_of_mem ?_
        rw [List.getD_eq_getElem?_getD, List.getElem?_eq_getElem hj]
        exact List.getElem_mem hj)
      simpa using this
    · have e : (List.range h.length).map (fun j => capD text (h.getD j (0, 0))) = h.map (capD text) := by
        refine List.ext_getElem? fun j => ?_
        rw [List.getElem?_map, List.getElem?_map]
        by_cases hj : j < h.length
        · rw [List.getElem?_range hj, List.getElem?_eq_getElem hj]
          simp [hj]
        · rw [List.getElem?_eq_none (by simp; tb_start), List.getElem?_eq_none (by tb_start)]
          rfl
      rw [← e] at q
      repeat' kts_caught
      refine ret_q ?_
      simpa [List.filterMap_map, Function.comp_def] using q
end
noncomputable def bads : List (List Int) := [[37], [91, 97], [91, 94, 93], [41], [37, 49], [37, 102], [37, 98, 40], [91, 37], [40, 37], [37, 48]]
section
variable {G : Gx} {P : Params} {n : Nat} {μ : Mu} {Q : D → Mu → Prop} {X : Prop} {dx : Addr} {text pat : List Int}
theorem here_esc (A : Ax G P) (hl : Fits pat.length) {s p : Int} {fs : List D} (hμ : μ.lookup dx = some (.inst (.bytes text :: .bytes pat :: fs))) (hat : At pat p [37]) (x : X) : FS G (n + 10) 161 [.obj dx, .int s, .int p] μ Q X := by
  have hp := hat.pos
  refine m_match_here_c A ?_
  unfold m_match_here
  repeat' kts_caught
  refine vs_whl 1 (whl_turn ?_)
  obtain ⟨a1, a2, a3, a4⟩ := hat.cons
  obtain ⟨b1, b2⟩ := a3.nil
  have n40 : ¬ pat.getD p.toNat 0 = 40 := by omega
  have n41 : ¬ pat.getD p.toNat 0 = 41 := by omega
  have n36 : ¬ pat.getD p.toNat 0 = 36 := by omega
  have nbf : ¬ (atI pat (p + 1) = 98 ∨ atI pat (p + 1) = 102) := by omega
  have hd : isDigit (atI pat (p + 1)) = false := by rw [b1]; rfl
  repeat' (first | kts_caught | (with_reducible refine at_k A (by assumption) (by assumption) ?hp ?_; (case hp => (first | assumption | omega))) | (with_reducible refine cmp_bf (by omega) ?_) | ((with_reducible show FS _ _ 62 _ _ _ _); refine is_digit_k A ?_; rw [hd]))
  exact class_end_bad A hμ hl hat x
/-- one that is cut off, within match_here -/
theorem here_bad (A : Ax G P) (hl : Fits pat.length) (ht : Fits text.length) {s p : Int} {st z : D} {l : List Int} (hμ : μ.lookup dx = some (.inst [.bytes text, .bytes pat, .int 60, .int 1, .int 0, st, z])) (hs : 0 ≤ s) (hat : At pat p l)
    (hb : l ∈ [[37], [91, 97], [91, 94, 93], [41], [37, 49], [37, 102], [37, 98, 40], [91, 37], [37, 48]]) (x : X) : FS G (n + 10) 161 [.obj dx, .int s, .int p] μ Q X := by
  have hp := hat.pos
  simp only [List.mem_cons, List.not_mem_nil, or_false] at hb
  rcases hb with rfl | hb
  · exact here_esc A hl hμ hat x
  refine m_match_here_c A ?_
  unfold m_match_here
  repeat' kts_caught
  refine vs_whl 1 (whl_turn ?_)
  rcases hb with rfl | rfl | rfl | rfl | rfl | rfl | rfl | rfl
  · -- [a
    obtain ⟨a1, a2, a3, a4⟩ := hat.cons
    obtain ⟨b1, b2, b3, b4⟩ := a3.cons
    have n40 : ¬ pat.getD p.toNat 0 = 40 := by omega
    have n41 : ¬ pat.getD p.toNat 0 = 41 := by omega
    have n36 : ¬ pat.getD p.toNat 0 = 36 := by omega
    have n37 : ¬ pat.getD p.toNat 0 = 37 := by omega
    repeat' (first | kts_caught | (with_reducible refine at_k A (by assumption) (by assumption) ?hp ?_; (case hp => (first | assumption | omega))))
    exact class_end_set A hμ hl hat (fun m hm => by cases hm) fun _ => x
  · -- [^]
    obtain ⟨a1, a2, a3, a4⟩ := hat.cons
    obtain ⟨b1, b2, b3, b4⟩ := a3.cons
    have n40 : ¬ pat.getD p.toNat 0 = 40 := by omega
    have n41 : ¬ pat.getD p.toNat 0 = 41 := by omega
    have n36 : ¬ pat.getD p.toNat 0 = 36 := by omega
    have n37 : ¬ pat.getD p.toNat 0 = 37 := by omega
    repeat' (first | kts_caught | (with_reducible refine at_k A (by assumption) (by assumption) ?hp ?_; (case hp => (first | assumption | omega))))
    exact class_end_set A hμ hl hat (fun m hm => by cases hm) fun _ => x
  · -- )
    obtain ⟨a1, a2, a3, a4⟩ := hat.cons
    obtain ⟨b1, b2⟩ := a3.nil
    have n40 : ¬ pat.getD p.toNat 0 = 40 := by omega
    repeat' (first | kts_caught | (with_reducible refine at_k A (by assumption) (by assumption) ?hp ?_; (case hp => (first | assumption | omega))))
    refine m_end_capture_c A ?_
    unfold m_end_capture
    repeat' kts_caught
    exact to_close_bad A hμ x
  · -- %1
    obtain ⟨a1, a2, a3, a4⟩ := hat.cons
    obtain ⟨b1, b2, b3, b4⟩ := a3.cons
    have n40 : ¬ pat.getD p.toNat 0 = 40 := by omega
    have n41 : ¬ pat.getD p.toNat 0 = 41 := by omega
    have n36 : ¬ pat.getD p.toNat 0 = 36 := by omega
    have nbf : ¬ (atI pat (p + 1) = 98 ∨ atI pat (p + 1) = 102) := by omega
    have hd : isDigit (atI pat (p + 1)) = true := by rw [b1]; rfl
    have n98 : ¬ atI pat (p + 1) = 98 := by omega
    have n102 : ¬ atI pat (p + 1) = 102 := by omega
    repeat' (first | kts_caught | (with_reducible refine at_k A (by assumption) (by assumption) ?hp ?_; (case hp => (first | assumption | omega))) | (with_reducible refine cmp_bf (by omega) ?_) | ((with_reducible show FS _ _ 62 _ _ _ _); refine is_digit_k A ?_; rw [hd]))
    refine m_match_special_c A ?_
    unfold m_match_special
    repeat' kts_caught
    exact capture_bad A hμ (.inr (by omega)) x
  · -- %f
    obtain ⟨a1, a2, a3, a4⟩ := hat.cons
    obtain ⟨b1, b2, b3, b4⟩ := a3.cons
    have n40 : ¬ pat.getD p.toNat 0 = 40 := by omega
    have n41 : ¬ pat.getD p.toNat 0 = 41 := by omega
    have n36 : ¬ pat.getD p.toNat 0 = 36 := by omega
    have nbf : (atI pat (p + 1) = 98 ∨ atI pat (p + 1) = 102) := by omega
    have n98 : ¬ atI pat (p + 1) = 98 := by omega
    have c3 : At pat (p + 2) [] := by rw [show p + 2 = p + 1 + 1 from by omega]; exact b3
    repeat' (first | kts_caught | (with_reducible refine at_k A (by assumption) (by assumption) ?hp ?_; (case hp => (first | assumption | omega))) | (with_reducible refine cmp_bf (by omega) ?_))
    refine m_match_special_c A ?_
    unfold m_match_special
    repeat' kts_caught
    all_goals first
      | exact frontier_bad A hμ hl c3 x
      | (exfalso; omega)
  · -- %b(
    obtain ⟨a1, a2, a3, a4⟩ := hat.cons
    obtain ⟨b1, b2, b3, b4⟩ := a3.cons
    have n40 : ¬ pat.getD p.toNat 0 = 40 := by omega
    have n41 : ¬ pat.getD p.toNat 0 = 41 := by omega
    have n36 : ¬ pat.getD p.toNat 0 = 36 := by omega
    have nbf : (atI pat (p + 1) = 98 ∨ atI pat (p + 1) = 102) := by omega
    have c3 : At pat (p + 2) [40] := by rw [show p + 2 = p + 1 + 1 from by omega]; exact b3
    repeat' (first | kts_caught | (with_reducible refine at_k A (by assumption) (by assumption) ?hp ?_; (case hp => (first | assumption | omega))) | (with_reducible refine cmp_bf (by omega) ?_))
    refine m_match_special_c A ?_
    unfold m_match_special
    repeat' kts_caught
    all_goals first
      | exact balance_bad A hμ hl c3 x
      | (exfalso; omega)
  · -- [%
    obtain ⟨a1, a2, a3, a4⟩ := hat.cons
    obtain ⟨b1, b2, b3, b4⟩ := a3.cons
    have n40 : ¬ pat.getD p.toNat 0 = 40 := by omega
    have n41 : ¬ pat.getD p.toNat 0 = 41 := by omega
    have n36 : ¬ pat.getD p.toNat 0 = 36 := by omega
    have n37 : ¬ pat.getD p.toNat 0 = 37 := by omega
    repeat' (first | kts_caught | (with_reducible refine at_k A (by assumption) (by assumption) ?hp ?_; (case hp => (first | assumption | omega))))
    exact class_end_set A hμ hl hat (fun m hm => by cases hm) fun _ => x
  · -- %0
    obtain ⟨a1, a2, a3, a4⟩ := hat.cons
    obtain ⟨b1, b2, b3, b4⟩ := a3.cons
    have n40 : ¬ pat.getD p.toNat 0 = 40 := by omega
    have n41 : ¬ pat.getD p.toNat 0 = 41 := by omega
    have n36 : ¬ pat.getD p.toNat 0 = 36 := by omega
    have nbf : ¬ (atI pat (p + 1) = 98 ∨ atI pat (p + 1) = 102) := by omega
    have hd : isDigit (atI pat (p + 1)) = true := by rw [b1]; rfl
    have n98 : ¬ atI pat (p + 1) = 98 := by omega
    have n102 : ¬ atI pat (p + 1) = 102 := by omega
    repeat' (first | kts_caught | (with_reducible refine at_k A (by assumption) (by assumption) ?hp ?_; (case hp => (first | assumption | omega))) | (with_reducible refine cmp_bf (by omega) ?_) | ((with_reducible show FS _ _ 62 _ _ _ _); refine is_digit_k A ?_; rw [hd]))
    refine m_match_special_c A ?_
    unfold m_match_special
    repeat' kts_caught
    exact capture_bad A hμ (.inl (by omega)) x
/-- match, down to match_here -/
theorem match_in (A : Ax G P) {s p dep : Int} {lev st z : D} (hμ : μ.lookup dx = some (.inst [.bytes text, .bytes pat, .int 60, .int dep, lev, st, z])) (hd : dep + 1 ≤ 60)
    (h : ∀ μ1 Q', μ1.lookup dx = some (.inst [.bytes text, .bytes pat, .int 60, .int (dep + 1), lev, st, z]) → (∀ b, b ≠ dx → μ1.lookup b = μ.lookup b) → FS G n 161 [.obj dx, .int s, .int p] μ1 Q' X) : FS G (n + 1) 154 [.obj dx, .int s, .int p] μ Q X := by
  refine m_match_c A ?_
  unfold m_match
  repeat' kts_caught
  refine setF_k hμ (by simp) (by decide) ?_
  intro μ1 hμ1 hf1
  have hμ1 : μ1.lookup dx = some (.inst [.bytes text, .bytes pat, .int 60, .int (dep + 1), lev, st, z]) := hμ1
  have n60 : ¬ 60 < dep + 1 := by omega
  repeat' kts_caught
  exact h _ _ hμ1 hf1
theorem match_bad (A : Ax G P) (hl : Fits pat.length) (ht : Fits text.length) {s : Int} (hs : 0 ≤ s) (S : St dx text pat [] 0 μ) (hb : pat ∈ bads) (x : X) : FS G (n + 20) 154 [.obj dx, .int s, .int 0] μ Q X := by
  obtain ⟨a, st, le, M⟩ := id S
  have hat : At pat 0 pat := ⟨Int.le_refl _, by omega, rfl⟩
  refine match_in A M.ob (by omega) fun μ1 Q' hμ1 hf1 => ?_
  by_cases he : pat = [40, 37]
  · -- (%
    have hat2 : At pat 0 [40, 37] := by rw [← he]; exact hat
    obtain ⟨M1, _⟩ := M.depth (dep' := 0 + 1) hμ1 hf1
    obtain ⟨a1, a2, a3, a4⟩ := hat2.cons
    obtain ⟨b1, b2, b3, b4⟩ := a3.cons
    have n41 : ¬ atI pat (0 + 1) = 41 := by omega
    refine m_match_here_c A ?_
    unfold m_match_here
    repeat' kts_caught
    refine vs_whl 1 (whl_turn ?_)
    repeat' (first | kts_caught | (with_reducible refine at_k A (by assumption) (by assumption) ?hp ?_; (case hp => (first | assumption | omega))))
    refine start_capture_g (h := []) (dep := 0 + 1) (res := some (0, List.replicate 41 (0, 0))) A (by simp) ⟨_, _, _, M1⟩ (fun μ4 Q4 S4 _ => ?_) fun μ' _ => ⟨(fun e => by cases e), fun e h' hr S' => ?_⟩
    · obtain ⟨a4, st4, le4, M4⟩ := S4
      exact match_in A M4.ob (by omega) fun μ5 Q5 hμ5 _ => here_esc A hl hμ5 a3 x
    · obtain ⟨a', st', le', M'⟩ := S'
      simp only [Option.some.injEq, Prod.mk.injEq] at hr
      have h1 := M'.slen
      have h2 := M'.sl
      rw [← hr.2, List.length_replicate] at h1
      exact absurd (Nat.le_trans h1 h2) (by decide)
  · refine here_bad (n := n + 9) (l := pat) A hl ht hμ1 hs hat ?_ x
    unfold bads at hb
    simp only [List.mem_cons, List.not_mem_nil, or_false] at hb ⊢
    simp only [he, false_or] at hb
    exact hb
theorem search_bad (A : Ax G P) (hl : Fits pat.length) (ht : Fits text.length) (hm : Mat dx text pat μ) (hb : pat ∈ bads) (x : X) : FS G (n + 21) 243 [.obj dx, .int 0, .int 0, .bool false] μ Q X := by
  refine m_search_c A ?_
  unfold m_search
  repeat' kts_caught
  refine vs_whl 1 (whl_turn ?_)
  obtain ⟨d, l, st, z, hμ⟩ := id hm
  have h0 : (0 : Int) ≤ text.length := by omega
  repeat' kts_caught
  refine reset_k A hm fun μ1 F1 S1 => ?_
  obtain ⟨a1, st1, le1, M1⟩ := id S1
  have hμ1 := M1.ob
  repeat' kts_caught
  exact match_bad A hl ht (Int.le_refl _) S1 hb x
end
/-- the feed: what is drawn from, and how far -/
noncomputable def Fed (c : Addr) (B : Int) (μ : Mu) : Prop := ∃ (nums : List Int) (k seed : Int), μ.lookup c = some (.lst [.lst (nums.map .int), .int k, .int seed]) ∧ nums.length ≤ 24 ∧ 0 ≤ k ∧ k ≤ B
theorem Fed.mono {c : Addr} {B B' : Int} {μ : Mu} (h : Fed c B μ) (hb : B ≤ B') : Fed c B' μ := by
  obtain ⟨nums, k, seed, h1, h2, h3, h4⟩ := h
  exact ⟨nums, k, seed, h1, h2, h3, by tb_start⟩
/-- all cells but one stay -/
noncomputable def Kp (c : Addr) (μ μ' : Mu) : Prop := ∀ b x, b ≠ c → μ.lookup b = some x → μ'.lookup b = some x
theorem Kp.refl (c : Addr) (μ : Mu) : Kp c μ μ := fun _ _ _ h => h
theorem Kp.trans {c : Addr} {μ μ' μ'' : Mu} (h1 : Kp c μ μ') (h2 : Kp c μ' μ'') : Kp c μ μ'' := fun b x hb h => h2 b x hb (h1 b x hb h)
section
variable {G : Gx} {P : Params} {n : Nat} {μ : Mu} {Q : D → Mu → Prop} {X : Prop} {c : Addr}
theorem draw_k (A : Ax G P) {B many : Int} (F : Fed c B μ) (hB : B ≤ 10000) (hm : 0 < many ∧ many ≤ 1000) (q : ∀ v μ', 0 ≤ v → v < many → Fed c (B + 1) μ' → Kp c μ μ' → Q (.int v) μ') : FS G (n + 1) 258 [.cel c, .int many] μ Q X := by
  obtain ⟨nums, k, seed, hμ, hn, hk, hkB⟩ := F
  obtain ⟨hm0, hm1⟩ := hm
  have fin : ∀ (y : Int) (μ' : Mu), Fed c (B + 1) μ' → Kp c μ μ' → Q (.int (y % many)) μ' := fun y μ' h1 h2 => q _ _ (Int.emod_nonneg _ (by tb_start)) (Int.emod_lt_of_pos _ hm0) h1 h2
  refine f_law_draw_c A ?_
  unfold f_law_draw
  repeat' (first | kts_caught | ((with_reducible show idxQ _ (.cel _) (.int _) _); refine idx_cel (by assumption) (by tb_start) (by simp) (by unfold Fits; simp) (by with_unfolding_all rfl) ?_))
  refine setI_k hμ (by tb_start) (by simp) (by unfold Fits; simp) ?_
  intro μ1 hμ1 hf1
  have hμ1 : μ1.lookup c = some (.lst [.lst (nums.map .int), .int (k + 1), .int seed]) := hμ1
  have F1 : Fed c (B + 1) μ1 := ⟨nums, k + 1, seed, hμ1, hn, by tb_start, by tb_start⟩
  have K1 : Kp c μ μ1 := fun b x hb h => (hf1 b hb).trans h
  repeat' (first | kts_caught | ((with_reducible show idxQ _ (.cel _) (.int _) _); refine idx_cel (by assumption) (by tb_start) (by simp) (by unfold Fits; simp) (by with_unfolding_all rfl) ?_) | (with_reducible refine bi_lenL (by unfold Fits; rw [List.length_map]; tb_start) ?_; rw [List.length_map]) | ((with_reducible show binS .Mod _ _ _ _ _); refine ⟨by tb_start, ⟨by tb_start, by tb_start⟩, ?_⟩) | ((with_reducible show binS .Mult _ _ _ _ _); refine ⟨⟨by tb_start, by tb_start⟩, ⟨by tb_start, by tb_start⟩, ?_⟩) | ((with_reducible show binS .FloorDiv _ _ _ _ _); refine ⟨by tb_start, ⟨by tb_start, by tb_start⟩, ?_⟩))
  all_goals exact ret_q (fin _ _ F1 K1)
/-! flags -/
noncomputable def flagsF (prs : List (Int × Int)) : List Int := knownL.filter fun o => prs.any fun p => decide (p.1 ≤ o) && decide (o ≤ p.2)
noncomputable def prD (p : Int × Int) : D := .tup [.int p.1, .int p.2]
theorem flt_empty {α β : Type} {p : α → Bool} {f : α → β} {l : List α} : ((l.filter p).map f).isEmpty = !(l.any p) := by
  induction l with
  | nil => rfl
  | cons a r ih =>
    rw [List.any_cons]
    by_cases h : p a = true
    · rw [List.filter_cons_of_pos h, h]; rfl
    · rw [List.filter_cons_of_neg h, ih, Bool.eq_false_iff.mpr h, Bool.false_or]
theorem flags_k (A : Ax G P) {prs : List (Int × Int)} (hp : prs.length ≤ 10) (q : Q (.lst ((flagsF prs).map .int)) μ) : FS G (n + 1) 263 [.lst (prs.map prD)] μ Q X := by
  refine f_law_flags_c A ?_
  unfold f_law_flags
  repeat' kts_caught
  refine ⟨_, rfl, ?_⟩
  refine gath_flt (f := D.int) (p := fun o => prs.any fun p => decide (p.1 ≤ o) && decide (o ≤ p.2)) ?_ (by decide) ?_
  · intro o ho k hk
    refine stepX_k rfl ?_
    repeat' kts_caught
    refine ⟨_, rfl, ?_⟩
    refine gath_flt (f := fun _ => .int 1) (p := fun p => decide (p.1 ≤ o) && decide (o ≤ p.2)) ?_ (by simp; tb_start) ?_
    · intro p hp k hk
      refine stepX_k rfl ?_
      by_cases h1 : p.1 ≤ o <;> by_cases h2 : o ≤ p.2 <;> simp only [h1, h2, decide_true, decide_false, Bool.and_true, Bool.and_false, Bool.false_eq_true, if_true, if_false] at hk <;> (repeat' kts_caught) <;> first | exact hk | (exfalso; tb_start)
    · repeat' kts_caught
      all_goals
        rename_i hc
        simp only [List.nil_append, flt_empty, Bool.not_not] at hc
        rw [hc] at hk
        exact hk
  · repeat' kts_caught
    exact ret_q q
noncomputable def othersF (fl : List Int) : List Int := knownL.filter fun o => !fl.contains o
theorem intsOf_map {l : List Int} : intsOf (l.map D.int) = some l := by
  induction l with
  | nil => rfl
  | cons a r ih => exact congrArg (Option.map (a :: ·)) ih
theorem cmp_in {i : Int} {l : List Int} {Q : Bool → Prop} (q : Q (l.contains i)) : cmpQ .In (.int i) (.lst (l.map .int)) Q := by
  refine cmpQ_k ?_ q
  show (intsOf (l.map D.int)).map (·.contains i) = _
  rw [intsOf_map]
  rfl
theorem cmp_notin {i : Int} {l : List Int} {Q : Bool → Prop} (q : Q (!l.contains i)) : cmpQ .NotIn (.int i) (.lst (l.map .int)) Q := by
  refine cmpQ_k ?_ q
  show ((intsOf (l.map D.int)).map (·.contains i)).map (!·) = _
  rw [intsOf_map]
  rfl
theorem others_k (A : Ax G P) {fl : List Int} (q : Q (.lst ((othersF fl).map .int)) μ) : FS G (n + 1) 275 [.lst (fl.map .int)] μ Q X := by
  refine f_law_others_c A ?_
  unfold f_law_others
  repeat' kts_caught
  refine ⟨_, rfl, ?_⟩
  refine gath_flt (f := D.int) (p := fun o => !fl.contains o) ?_ (by decide) ?_
  · intro o ho k hk
    refine stepX_k rfl ?_
    repeat' (first | kts_caught | refine cmp_notin ?_)
    all_goals (rename_i hc; rw [hc] at hk; exact hk)
  · repeat' kts_caught
    exact ret_q q
noncomputable def letters : List Int := [97, 99, 100, 108, 112, 115, 117, 119, 120, 122]
theorem named_k (A : Ax G P) {letter : Int} (h : letter ∈ letters) (q : Q (.lst ((knownL.filter fun o => inClass o letter).map .int)) μ) : FS G (n + 2) 270 [.int letter] μ Q X := by
  refine f_law_named_c A ?_
  unfold f_law_named
  have fin : ∀ {prs : List (Int × Int)} {l : Int}, letter = l → flagsF prs = (knownL.filter fun o => inClass o l) → Q (.lst ((flagsF prs).map .int)) μ := by
    rintro prs _ rfl e
    rw [e]
    exact q
  repeat' (first | kts_caught | (first | refine flags_k (prs := [(65, 90), (97, 122)]) A (by decide) ?_ | refine flags_k (prs := [(0, 31), (127, 127)]) A (by decide) ?_ | refine flags_k (prs := [(48, 57)]) A (by decide) ?_ | refine flags_k (prs := [(97, 122)]) A (by decide) ?_ | refine flags_k (prs := [(33, 47), (58, 64), (91, 96), (123, 126)]) A (by decide) ?_ | refine flags_k (prs := [(9, 13), (32, 32)]) A (by decide) ?_ | refine flags_k (prs := [(65, 90)]) A (by decide) ?_ | refine flags_k (prs := [(48, 57), (65, 90), (97, 122)]) A (by decide) ?_ | refine flags_k (prs := [(48, 57), (65, 70), (97, 102)]) A (by decide) ?_ | refine flags_k (prs := [(0, 0)]) A (by decide) ?_))
  all_goals first
    | exact ret_q (fin (by assumption) (by decide))
    | (simp only [letters, List.mem_cons, List.not_mem_nil, or_false] at h
       exact ret_q (fin (l := 122) (by tb_start) (by decide)))
end
theorem getD_in {l : List Int} {i : Nat} (h : i < l.length) : l.getD i 0 ∈ l := by
  rw [List.getD_eq_getElem?_getD, List.getElem?_eq_getElem h]
  exact List.getElem_mem h
theorem idx_lit {μ : Mu} (l : List Int) {i : Int} {Q : D → Prop} (h1 : 0 ≤ i) (h2 : i < l.length) (h3 : Fits l.length) (q : ∀ x, x ∈ l → Q (.int x)) : idxQ μ (.lst (l.map .int)) (.int i) Q :=
  idx_lstI h1 h2 h3 (q _ (getD_in (by tb_start)))
/-- the flags of a single class: of the known octets, those in it -/
noncomputable def FlOk (fl : List Int) (g : Sg) : Prop := ∀ o ∈ knownL, fl.contains o = g.has o
theorem FlOk.filter (g : Sg) : FlOk (knownL.filter g.has) g := by
  intro o ho
  cases h : g.has o with
  | true => simp [h, ho]
  | false => simp [h]
theorem names_ok : ∀ x ∈ letters, (Sg.esc x).ok ∧ (Sg.esc (x - 32)).ok ∧ othersF (knownL.filter fun o => inClass o x) = knownL.filter fun o => inClass o (x - 32) := by
  unfold Sg.ok
  decide +kernel
section
variable {G : Gx} {P : Params} {n : Nat} {μ : Mu} {Q : D → Mu → Prop} {X : Prop} {c : Addr}
theorem drawn_name_k (A : Ax G P) {B : Int} (F : Fed c B μ) (hB : B ≤ 9000) (q : ∀ x μ', (Sg.esc x).ok → 1 ≤ x ∧ x < 256 → Fed c (B + 2) μ' → Kp c μ μ' → Q (.tup [.lst [.int 37, .int x], .lst ((knownL.filter (Sg.esc x).has).map .int)]) μ') : FS G (n + 3) 282 [.cel c] μ Q X := by
  refine f_law_drawn_name_c A ?_
  unfold f_law_drawn_name
  repeat' kts_caught
  refine draw_k A F (by tb_start) ⟨by tb_start, by tb_start⟩ fun v μ1 v0 v1 F1 K1 => ?_
  repeat' kts_caught
  refine idx_lit letters v0 v1 (by unfold Fits; decide) fun x hx => ?_
  obtain ⟨n1, n2, n3⟩ := names_ok x hx
  have x97 : 97 ≤ x ∧ x ≤ 122 := (by decide : ∀ x ∈ letters, 97 ≤ x ∧ x ≤ 122) x hx
  repeat' (first | kts_caught)
  refine draw_k A F1 (by tb_start) ⟨by tb_start, by tb_start⟩ fun w μ2 w0 w1 F2 K2 => ?_
  have K := K1.trans K2
  rw [show B + 1 + 1 = B + 2 from by tb_start] at F2
  repeat' (first | kts_caught | (refine named_k A hx ?_) | (refine others_k A ?_))
  · rw [n3]
    exact ret_q (q _ _ n2 (by tb_start) F2 K)
  · exact ret_q (q _ _ n1 (by tb_start) F2 K)
end
/-- a for by the items that are left -/
theorem for_loop {FS : Nat → List D → Mu → (D → Mu → Prop) → Prop → Prop} {MK : List D → Mu → (D → Mu → Prop) → Prop → Prop} {rp : D → Str} {X : Prop} {R : Out → Loc → Mu → Prop} {i : Nat} {b : WS}
    {ι : Type} (L : ι → Loc) (M : ι → Mu) (P : List D → ι → Prop)
    (h : ∀ d ds j, P (d :: ds) j → ∀ W : Loc → Mu → Prop, (∀ j', P ds j' → W (L j') (M j')) → goS b FS MK rp (setV (L j) i (some d)) (M j) (turnR W R) X)
    (h0 : ∀ j, P [] j → R .next (L j) (M j)) : ∀ ds j, P ds j → forX FS MK rp i b R X ds (L j) (M j)
  | [], j, hp => for_nil (h0 j hp)
  | d :: ds, j, hp => for_cons (h d ds j hp _ fun j' hp' => for_loop L M P h h0 ds j' hp')
/-- the same, the loop's state told by a relation -/
theorem for_rel {FS : Nat → List D → Mu → (D → Mu → Prop) → Prop → Prop} {MK : List D → Mu → (D → Mu → Prop) → Prop → Prop} {rp : D → Str} {X : Prop} {R : Out → Loc → Mu → Prop} {i : Nat} {b : WS} {ds : List D} {loc : Loc} {μ : Mu}
    (J : List D → Loc → Mu → Prop) (hj : J ds loc μ) (h : ∀ d ds loc μ, J (d :: ds) loc μ → ∀ W : Loc → Mu → Prop, (∀ loc μ, J ds loc μ → W loc μ) → goS b FS MK rp (setV loc i (some d)) μ (turnR W R) X)
    (h0 : ∀ loc μ, J [] loc μ → R .next loc μ) : forX FS MK rp i b R X ds loc μ :=
  for_loop (ι := Loc × Mu) (fun x => x.1) (fun x => x.2) (fun ds x => J ds x.1 x.2) (fun d ds x hx W ih => h d ds x.1 x.2 hx W fun loc μ hj => ih (loc, μ) hj) (fun x hx => h0 x.1 x.2 hx) ds (loc, μ) hj
/-- what a set holds -/
inductive It where
  | lit (a : Int) | rng (a b : Int) | esc (x : Int)
noncomputable def It.signs : It → List Int
  | .lit a => [a]
  | .rng a b => [a, 45, b]
  | .esc x => [37, x]
noncomputable def It.has (c : Int) : It → Bool
  | .lit a => decide (a = c)
  | .rng a b => decide (a ≤ c) && decide (c ≤ b)
  | .esc x => inClass c x
/-- it may stand first -/
noncomputable def It.ok1 : It → Prop
  | .lit a => a ≠ 37 ∧ a ≠ 94 ∧ a ≠ 45 ∧ 1 ≤ a ∧ a < 256
  | .rng a b => a ≠ 37 ∧ a ≠ 94 ∧ a ≠ 45 ∧ a ≠ 93 ∧ b ≠ 93 ∧ b ≠ 37 ∧ 1 ≤ a ∧ a < 256 ∧ 1 ≤ b ∧ b < 256
  | .esc x => 1 ≤ x ∧ x < 256
noncomputable def It.ok (i : It) : Prop := i.ok1 ∧ i.signs.head? ≠ some 93
noncomputable def sigs : List It → List Int
  | [] => []
  | i :: r => i.signs ++ sigs r
theorem sigs_snoc {i : It} : ∀ {l : List It}, sigs (l ++ [i]) = sigs l ++ i.signs
  | [] => by simp [sigs]
  | a :: r => by simp only [List.cons_append, sigs, sigs_snoc, List.append_assoc]
theorem It.head {i : It} (h : i.ok1) {r : List Int} : (i.signs ++ r).head? ≠ some 45 ∧ (i.signs ++ r).head? ≠ some 94 := by
  cases i <;> simp [It.ok1, It.signs] at h ⊢ <;> tb_start
theorem sigs_head : ∀ {l : List It}, (∀ i ∈ l, i.ok1) → (sigs l).head? ≠ some 45
  | [], _ => by simp [sigs]
  | a :: r, h => (It.head (h a List.mem_cons_self)).1
theorem inSeg_it {i : It} (h : i.ok1) {c : Int} {r : List Int} (hr : r.head? ≠ some 45) : inSeg c (i.signs ++ r) = (i.has c || inSeg c r) := by
  cases i with
  | lit a =>
    simp only [It.ok1] at h
    match r with
    | [] => simp [It.signs, It.has, inSeg_one, inSeg]
    | [x] => exact inSeg_lit2 h.1
    | x :: b :: r' => exact inSeg_lit h.1 (by simpa using hr)
  | rng a b => exact inSeg_rng h.1
  | esc x => exact inSeg_esc
theorem segOk_it {i : It} (h : i.ok1) {r : List Int} (hr : r.head? ≠ some 45) (hs : segOk r = true) : segOk (i.signs ++ r) = true := by
  cases i with
  | lit a =>
    simp only [It.ok1] at h
    match r with
    | [] => simp [It.signs, segOk, h.1]
    | [x] => simp [It.signs, segOk, h.1] at hs ⊢; exact hs
    | x :: b :: r' =>
      have hx : x ≠ 45 := by simpa using hr
      show segOk (a :: x :: b :: r') = true
      unfold segOk
      rw [if_neg h.1]
      simp only
      rw [if_neg hx]
      exact hs
  | rng a b =>
    simp only [It.ok1] at h
    show segOk (a :: 45 :: b :: r) = true
    unfold segOk
    rw [if_neg h.1]
    simpa using hs
  | esc x =>
    show segOk (37 :: x :: r) = true
    unfold segOk
    rw [if_pos rfl]
    exact hs
theorem setLen_it {i : It} (h : i.ok1) {t : List Int} {f : Bool} (ht : t ≠ []) (hf : f = false → i.signs.head? ≠ some 93) : setLen (i.signs ++ t) f = (setLen t false).map (· + i.signs.length) := by
  obtain ⟨y, t', rfl⟩ : ∃ y t', t = y :: t' := by cases t with | nil => exact absurd rfl ht | cons y t' => exact ⟨y, t', rfl⟩
  cases i with
  | lit a =>
    simp only [It.ok1] at h
    show setLen (a :: y :: t') f = _
    conv => lhs; unfold setLen
    rw [if_neg (fun e => hf e.1 (by simp [It.signs, e.2])), if_neg h.1]
    rfl
  | rng a b =>
    simp only [It.ok1] at h
    show setLen (a :: 45 :: b :: y :: t') f = _
    conv => lhs; unfold setLen
    rw [if_neg (fun e => hf e.1 (by simp [It.signs, e.2])), if_neg h.1]
    conv => lhs; unfold setLen
    simp only [true_and]
    rw [if_neg (by tb_start), if_neg (by tb_start)]
    conv => lhs; unfold setLen
    simp only [true_and]
    rw [if_neg (by tb_start), if_neg (by tb_start)]
    simp [Option.map_map, Function.comp_def, It.signs]
  | esc x =>
    show setLen (37 :: x :: y :: t') f = _
    conv => lhs; unfold setLen
    rw [if_neg (fun e => by tb_start), if_pos rfl]
    rfl
noncomputable def ItsOk : List It → Prop
  | [] => True
  | i :: r => i.ok1 ∧ ∀ j ∈ r, j.ok
theorem ItsOk.snoc {l : List It} {i : It} (h : ItsOk l) (hi : i.ok ∨ (l = [] ∧ i.ok1)) : ItsOk (l ++ [i]) := by
  cases l with
  | nil => exact ⟨hi.elim (·.1) (·.2), fun j hj => by cases hj⟩
  | cons a r =>
    have hi : i.ok := hi.elim id fun e => by cases e.1
    refine ⟨h.1, fun j hj => ?_⟩
    rcases List.mem_append.mp hj with hj | hj
    · exact h.2 j hj
    · simp only [List.mem_singleton] at hj
      subst hj
      exact hi
theorem ItsOk.all {l : List It} (h : ItsOk l) : ∀ i ∈ l, i.ok1 := by
  cases l with
  | nil => intro i hi; cases hi
  | cons a r =>
    intro i hi
    rcases List.mem_cons.mp hi with rfl | hi
    · exact h.1
    · exact (h.2 i hi).1
theorem its_seg {l : List It} (h : ∀ i ∈ l, i.ok1) : (∀ c, inSeg c (sigs l) = l.any (·.has c)) ∧ segOk (sigs l) = true := by
  induction l with
  | nil => exact ⟨fun c => rfl, rfl⟩
  | cons a r ih =>
    obtain ⟨h1, h2⟩ := ih fun i hi => h i (List.mem_cons_of_mem _ hi)
    have hh := sigs_head fun i hi => h i (List.mem_cons_of_mem _ hi)
    refine ⟨fun c => ?_, segOk_it (h a List.mem_cons_self) hh h2⟩
    rw [sigs, inSeg_it (h a List.mem_cons_self) hh, h1, List.any_cons]
theorem its_len {t : List Int} : ∀ {l : List It} {f : Bool}, (∀ j ∈ l, j.ok1) → (f = false → ∀ j ∈ l.head?, j.ok) → (∀ j ∈ l.tail, j.ok) → (f = true → l ≠ []) → setLen (sigs l ++ 93 :: t) f = some ((sigs l).length + 1)
  | [], f, _, _, _, hf => by
    have : f = false := by cases f with | false => rfl | true => exact absurd rfl (hf rfl)
    subst this
    show setLen (93 :: t) false = some 1
    cases t <;> simp [setLen]
  | i :: r, f, h1, h2, h3, hf => by
    show setLen (i.signs ++ sigs r ++ 93 :: t) f = _
    rw [List.append_assoc, setLen_it (h1 i List.mem_cons_self) (by simp) (fun e => (h2 e i (by simp)).2), its_len (fun j hj => h1 j (List.mem_cons_of_mem _ hj)) (fun _ j hj => h3 j (List.mem_of_mem_head? hj)) (fun j hj => h3 j (List.mem_of_mem_tail hj)) (fun e => by cases e)]
    simp only [Option.map_some, sigs, List.length_append, Option.some.injEq]
    tb_start
theorem ItsOk.setOk {l : List It} (h : ItsOk l) (hl : l ≠ []) (off : Bool) : SetOk off (sigs l) := by
  obtain ⟨i, r, rfl⟩ : ∃ i r, l = i :: r := by cases l with | nil => exact absurd rfl hl | cons i r => exact ⟨i, r, rfl⟩
  refine ⟨(its_seg h.all).2, fun t => its_len h.all (fun e => by cases e) h.2 (fun _ => hl), fun _ => ⟨(It.head h.1).2, ?_⟩⟩
  cases i <;> simp [sigs, It.signs]
theorem sigs_oct {l : List It} (h : ∀ i ∈ l, i.ok1) : ∀ x ∈ sigs l, 1 ≤ x ∧ x < 256 := by
  induction l with
  | nil => intro x hx; cases hx
  | cons i r ih =>
    intro x hx
    rcases List.mem_append.mp hx with hx | hx
    · have := h i List.mem_cons_self
      cases i <;> simp [It.ok1, It.signs] at this hx <;> rcases hx with rfl | rfl | rfl <;> tb_start
    · exact ih (fun j hj => h j (List.mem_cons_of_mem _ hj)) x hx
theorem sigs_length : ∀ {l : List It}, (sigs l).length ≤ 3 * l.length
  | [] => Nat.le_refl _
  | i :: r => by
    have := sigs_length (l := r)
    simp only [sigs, List.length_append, List.length_cons]
    cases i <;> simp [It.signs] <;> tb_start
/-- flags of items -/
noncomputable def FlIts (fl : List Int) (l : List It) : Prop := ∀ o ∈ knownL, fl.contains o = l.any (·.has o)
theorem FlIts.snoc {fl fl2 : List Int} {l : List It} {i : It} (h : FlIts fl l) (h2 : ∀ o ∈ knownL, fl2.contains o = i.has o) : FlIts (fl ++ fl2) (l ++ [i]) := by
  intro o ho
  rw [List.any_append, ← h o ho, List.any_cons, List.any_nil, Bool.or_false, ← h2 o ho]
  simp
theorem fl_rng {a b : Int} : ∀ o ∈ knownL, (flagsF [(a, b)]).contains o = (decide (a ≤ o) && decide (o ≤ b)) := by
  intro o ho
  unfold flagsF
  simp only [List.any_cons, List.any_nil, Bool.or_false]
  cases h : decide (a ≤ o) && decide (o ≤ b) with
  | true => simp at h; simp [h, ho]
  | false => simp at h; simp [h, ho]; tb_start
theorem flagsF_len {p : List (Int × Int)} : (flagsF p).length ≤ 14 := List.length_filter_le _ _
theorem cmp_nil {l : List Int} {Q : Bool → Prop} (q : Q l.isEmpty) : cmpQ .Eq (.lst (l.map .int)) (.lst []) Q := cmpQ_k rfl (by rw [List.isEmpty_map]; exact q)
theorem cat_ints {μ : Mu} {Q : D → Mu → Prop} {a b : List Int} (hl : a.length + b.length ≤ 100000) (q : Q (.lst ((a ++ b).map .int)) μ) : binS .Add false (.lst (a.map .int)) (.lst (b.map .int)) μ Q :=
  b_cat (by with_unfolding_all rfl) (by with_unfolding_all rfl) (newL_f (by unfold Fits; simp; tb_start) (by rw [← List.map_append]; exact q))
structure SS (c : Addr) (B : Int) (μ0 : Mu) (l : List It) (fl : List Int) (μ : Mu) : Prop where
  ok : ItsOk l
  flg : FlIts fl l
  len : fl.length ≤ 14 * l.length
  fed : Fed c (B + 3 * (l.length : Nat)) μ
  kp : Kp c μ0 μ
inductive SJ (c : Addr) (B : Int) (μ0 : Mu) (t : Int) (ds : List D) : Loc → Mu → Prop where
  | mk (l : List It) (fl : List Int) (ν : Mu) (x4 x5 x6 x7 x8 x9 x10 : Option D) (l1 : l.length + ds.length ≤ 2) (l2 : 1 ≤ l.length + ds.length) (S : SS c (B + 2) μ0 l fl ν) :
    SJ c B μ0 t ds [some (.cel c), some (.bool (decide (t = 1))), some (.lst ((sigs l).map .int)), some (.lst (fl.map .int)), x4, x5, x6, x7, x8, x9, x10, none, none, none, none, none] ν
section
variable {G : Gx} {P : Params} {n : Nat} {μ : Mu} {Q : D → Mu → Prop} {X : Prop} {c : Addr}
theorem drawn_set_k (A : Ax G P) {B : Int} (F : Fed c B μ) (hB : B ≤ 8000) (q : ∀ off seg fl μ', SetOk off seg → (∀ x ∈ (Sg.set off seg).signs, 1 ≤ x ∧ x < 256) → (Sg.set off seg).signs.length ≤ 20 → FlOk fl (.set off seg) → fl.length ≤ 50 → Fed c (B + 8) μ' → Kp c μ μ' → Q (.tup [.lst ((Sg.set off seg).signs.map .int), .lst (fl.map .int)]) μ') : FS G (n + 5) 289 [.cel c] μ Q X := by
  refine f_law_drawn_set_c A ?_
  unfold f_law_drawn_set
  repeat' kts_caught
  refine draw_k A F (by tb_start) ⟨by tb_start, by tb_start⟩ fun t μ1 t0 t1 F1 K1 => ?_
  repeat' kts_caught
  refine draw_k A F1 (by tb_start) ⟨by tb_start, by tb_start⟩ fun m μ2 m0 m1 F2 K2 => ?_
  repeat' kts_caught
  refine ⟨⟨by tb_start, by tb_start⟩, ?_⟩
  refine ⟨_, rng_src (by tb_start) (by tb_start), ?_⟩
  refine for_rel (SJ c B μ t) ⟨[], [], μ2, none, none, none, none, none, none, none, by simp; tb_start, by simp; tb_start, trivial, fun o _ => rfl, by simp, by simpa [show B + 1 + 1 = B + 2 from by tb_start] using F2, K1.trans K2⟩ ?_ ?_
  · rintro d ds _ ν ⟨l, fl, _, x4, x5, x6, x7, x8, x9, x10, l1, l2, S⟩ W ih
    simp only [List.length_cons] at l1 l2
    obtain ⟨ok, flg, len, fed, kp⟩ := S
    have hl1 : l.length ≤ 1 := by tb_start
    have hsl := sigs_length (l := l)
    -- one more item
    have next : ∀ (i : It) (fl2 : List Int) (ν' : Mu) (y4 y5 y6 y7 y8 y9 y10 : Option D), (i.ok ∨ (l = [] ∧ i.ok1)) → fl2.length ≤ 14 → (∀ o ∈ knownL, fl2.contains o = i.has o) → Fed c (B + 2 + 3 * (l.length : Nat) + 3) ν' → Kp c ν ν' →
        W [some (.cel c), some (.bool (decide (t = 1))), some (.lst ((sigs l ++ i.signs).map .int)), some (.lst ((fl ++ fl2).map .int)), y4, y5, y6, y7, y8, y9, y10, none, none, none, none, none] ν' := fun i fl2 ν' y4 y5 y6 y7 y8 y9 y10 h1 h2 h3 h4 h5 => by
      rw [← sigs_snoc]
      exact ih _ _ ⟨l ++ [i], fl ++ fl2, ν', y4, y5, y6, y7, y8, y9, y10, by simp; tb_start, by simp; tb_start, ok.snoc h1, flg.snoc h3, by simp; tb_start, h4.mono (by simp; tb_start), kp.trans h5⟩
    repeat' kts_caught
    refine draw_k A fed (by tb_start) ⟨by tb_start, by tb_start⟩ fun v ν1 v0 v1 G1 H1 => ?_
    rcases (by tb_start : v = 0 ∨ v = 1 ∨ v = 2 ∨ v = 3) with rfl | rfl | rfl | rfl
    · -- one octet
      repeat' kts_caught
      all_goals first
        | (exfalso; tb_start)
        | skip
      refine draw_k A G1 (by tb_start) ⟨by tb_start, by tb_start⟩ fun w ν2 w0 w1 G2 H2 => ?_
      repeat' kts_caught
      refine idx_lit [97, 98, 49] w0 w1 (by unfold Fits; decide) fun x hx => ?_
      simp only [List.mem_cons, List.not_mem_nil, or_false] at hx
      repeat' kts_caught
      refine cat_ints (b := [x]) (by simp; tb_start) ?_
      repeat' kts_caught
      refine flags_k (prs := [(x, x)]) A (by simp) ?_
      repeat' kts_caught
      refine cat_ints (by have := flagsF_len (p := [(x, x)]); tb_start) ?_
      repeat' kts_caught
      refine next (.lit x) (flagsF [(x, x)]) ν2 _ _ _ _ _ _ _ (.inl ⟨⟨by tb_start, by tb_start, by tb_start, by tb_start, by tb_start⟩, by simp [It.signs]; tb_start⟩) flagsF_len (fun o ho => ?_) (G2.mono (by tb_start)) (H1.trans H2)
      rw [fl_rng o ho]
      simp only [It.has]
      rw [Bool.eq_iff_iff]
      simp
      tb_start
    · -- a range
      repeat' kts_caught
      all_goals first
        | (exfalso; tb_start)
        | skip
      refine draw_k A G1 (by tb_start) ⟨by tb_start, by tb_start⟩ fun w ν2 w0 w1 G2 H2 => ?_
      obtain ⟨x, y, hxy, hi⟩ : ∃ x y, ((x = 97 ∧ y = 98) ∨ (x = 48 ∧ y = 57) ∨ (x = 65 ∧ y = 90)) ∧ idxS ν2 (.lst [.tup [.int 97, .int 98], .tup [.int 48, .int 57], .tup [.int 65, .int 90]]) (.int w) = some (.tup [.int x, .int y]) := by
        rcases (by tb_start : w = 0 ∨ w = 1 ∨ w = 2) with rfl | rfl | rfl
        · exact ⟨97, 98, by tb_start, rfl⟩
        · exact ⟨48, 57, by tb_start, rfl⟩
        · exact ⟨65, 90, by tb_start, rfl⟩
      repeat' kts_caught
      refine idxQ_k hi ?_
      repeat' kts_caught
      refine cat_ints (b := [x, 45, y]) (by simp; tb_start) ?_
      repeat' kts_caught
      refine flags_k (prs := [(x, y)]) A (by simp) ?_
      repeat' kts_caught
      refine cat_ints (by have := flagsF_len (p := [(x, y)]); tb_start) ?_
      repeat' kts_caught
      exact next (.rng x y) (flagsF [(x, y)]) ν2 _ _ _ _ _ _ _ (.inl ⟨⟨by tb_start, by tb_start, by tb_start, by tb_start, by tb_start, by tb_start, by tb_start, by tb_start, by tb_start, by tb_start⟩, by simp [It.signs]; tb_start⟩) flagsF_len (fun o ho => fl_rng o ho) (G2.mono (by tb_start)) (H1.trans H2)
    · -- a name
      repeat' kts_caught
      all_goals first
        | (exfalso; tb_start)
        | skip
      refine drawn_name_k A G1 (by tb_start) fun x ν2 okx hx G2 H2 => ?_
      repeat' kts_caught
      refine cat_ints (b := [37, x]) (by simp; tb_start) ?_
      repeat' kts_caught
      refine cat_ints (by have := List.length_filter_le (Sg.esc x).has knownL; have e : knownL.length = 14 := rfl; tb_start) ?_
      repeat' kts_caught
      exact next (.esc x) (knownL.filter (Sg.esc x).has) ν2 _ _ _ _ _ _ _ (.inl ⟨hx, by simp [It.signs]⟩) (List.length_filter_le _ _) (fun o ho => FlOk.filter (.esc x) o ho) (G2.mono (by tb_start)) (H1.trans H2)
    · -- a bracket, a dash
      repeat' (first | kts_caught | refine cmp_nil ?_)
      all_goals first
        | (exfalso; tb_start)
        | skip
      · rename_i hc
        have hs : sigs l = [] := by simpa using hc
        have hl : l = [] := by
          cases l with
          | nil => rfl
          | cons i r => cases i <;> simp [sigs, It.signs] at hs
        subst hl
        refine flags_k (prs := [(93, 93)]) A (by decide) ?_
        repeat' kts_caught
        refine cat_ints (by have := flagsF_len (p := [(93, 93)]); tb_start) ?_
        repeat' kts_caught
        refine next (.lit 93) (flagsF [(93, 93)]) ν1 _ _ _ _ _ _ _ (.inr ⟨rfl, by decide, by decide, by decide, by decide, by decide⟩) flagsF_len (fun o ho => ?_) (G1.mono (by tb_start)) H1
        rw [fl_rng o ho]
        simp only [It.has]
        rw [Bool.eq_iff_iff]
        simp
        tb_start
      · refine cat_ints (b := [37, 45]) (by simp; tb_start) ?_
        repeat' kts_caught
        refine flags_k (prs := [(45, 45)]) A (by decide) ?_
        repeat' kts_caught
        refine cat_ints (by have := flagsF_len (p := [(45, 45)]); tb_start) ?_
        repeat' kts_caught
        refine next (.esc 45) (flagsF [(45, 45)]) ν1 _ _ _ _ _ _ _ (.inl ⟨⟨by decide, by decide⟩, by simp [It.signs]⟩) flagsF_len (fun o ho => ?_) (G1.mono (by tb_start)) H1
        rw [fl_rng o ho]
        simp only [It.has]
        revert ho
        revert o
        decide
  · rintro _ ν ⟨l, fl, _, x4, x5, x6, x7, x8, x9, x10, l1, l2, S⟩
    simp only [List.length_nil] at l1 l2
    obtain ⟨ok, flg, len, fed, kp⟩ := S
    have hsl := sigs_length (l := l)
    have hl : l ≠ [] := by rintro rfl; simp at l2
    obtain ⟨hin, _⟩ := its_seg ok.all
    have hoc := sigs_oct ok.all
    have flo : ∀ off, FlOk (if off = true then othersF fl else fl) (.set off (sigs l)) := by
      intro off o ho
      have h1 := flg o ho
      cases off with
      | true =>
        simp only [if_true, Sg.has]
        rw [hin, ← h1]
        unfold othersF
        cases h : fl.contains o with
        | true => simp at h; simp [h]
        | false => simp at h; simp [h, ho]
      | false =>
        simp only [Bool.false_eq_true, if_false, Sg.has]
        rw [hin, ← h1]
    have oct : ∀ off, ∀ x ∈ (Sg.set off (sigs l)).signs, 1 ≤ x ∧ x < 256 := by
      intro off x hx
      cases off <;> simp [Sg.signs] at hx <;> (rcases hx with hx | hx | hx | hx <;> first | tb_start | exact hoc x hx)
    have slen : ∀ off, (Sg.set off (sigs l)).signs.length ≤ 20 := by
      intro off
      cases off <;> simp [Sg.signs] <;> tb_start
    have olen : (othersF fl).length ≤ 14 := List.length_filter_le _ _
    repeat' kts_caught
    · refine cat_ints (a := [91, 94]) (by simp; tb_start) ?_
      repeat' kts_caught
      refine cat_ints (b := [93]) (by simp; tb_start) ?_
      repeat' (first | kts_caught | refine others_k A ?_)
      have e : [91, 94] ++ sigs l ++ [93] = (Sg.set true (sigs l)).signs := by simp [Sg.signs]
      rw [e]
      exact ret_q (q true (sigs l) _ ν (ok.setOk hl true) (oct true) (slen true) (flo true) (by tb_start) (fed.mono (by tb_start)) kp)
    · refine cat_ints (a := [91]) (by simp; tb_start) ?_
      repeat' kts_caught
      refine cat_ints (b := [93]) (by simp; tb_start) ?_
      repeat' kts_caught
      have e : [91] ++ sigs l ++ [93] = (Sg.set false (sigs l)).signs := by simp [Sg.signs]
      rw [e]
      exact ret_q (q false (sigs l) _ ν (ok.setOk hl false) (oct false) (slen false) (flo false) (by tb_start) (fed.mono (by tb_start)) kp)
/-- a single class, drawn -/
theorem single_law (A : Ax G P) {B : Int} (F : Fed c B μ) (hB : B ≤ 7000) (q : ∀ (g : Sg) fl μ', g.ok → (∀ x ∈ g.signs, 1 ≤ x ∧ x < 256) → g.signs.length ≤ 20 → FlOk fl g → fl.length ≤ 50 → Fed c (B + 9) μ' → Kp c μ μ' → Q (.tup [.lst (g.signs.map .int), .lst (fl.map .int)]) μ') : FS G (n + 6) 296 [.cel c] μ Q X := by
  have flx : ∀ x, FlOk (flagsF [(x, x)]) (.lit x) := by
    intro x o ho
    rw [fl_rng o ho]
    simp only [Sg.has]
    rw [Bool.eq_iff_iff]
    simp
    tb_start
  refine f_law_single_c A ?_
  unfold f_law_single
  repeat' kts_caught
  refine draw_k A F (by tb_start) ⟨by tb_start, by tb_start⟩ fun v μ1 v0 v1 F1 K1 => ?_
  repeat' kts_caught
  · -- itself
    refine draw_k A F1 (by tb_start) ⟨by tb_start, by tb_start⟩ fun w μ2 w0 w1 F2 K2 => ?_
    repeat' kts_caught
    refine idx_lit [97, 98, 49, 32] w0 w1 (by unfold Fits; decide) fun x hx => ?_
    simp only [List.mem_cons, List.not_mem_nil, or_false] at hx
    repeat' kts_caught
    refine flags_k (prs := [(x, x)]) A (by simp) ?_
    repeat' kts_caught
    exact ret_q (q (.lit x) _ μ2 ⟨by tb_start, by tb_start, by tb_start, by tb_start, by tb_start, by tb_start, by tb_start, by tb_start, by tb_start, by tb_start⟩ (fun y hy => by simp [Sg.signs] at hy; tb_start) (by simp [Sg.signs]) (flx x) (by have := flagsF_len (p := [(x, x)]); tb_start) (F2.mono (by tb_start)) (K1.trans K2))
  · -- escaped, or any
    refine draw_k A F1 (by tb_start) ⟨by tb_start, by tb_start⟩ fun w μ2 w0 w1 F2 K2 => ?_
    repeat' kts_caught
    refine idx_lit [46, 40, 45, 46] w0 w1 (by unfold Fits; decide) fun x hx => ?_
    simp only [List.mem_cons, List.not_mem_nil, or_false] at hx
    have fle : FlOk (flagsF [(x, x)]) (.esc x) := by
      rcases hx with rfl | rfl | rfl | rfl <;> (unfold FlOk; decide)
    have oke : (Sg.esc x).ok := by
      unfold Sg.ok
      rcases hx with rfl | rfl | rfl | rfl <;> decide
    have fin : ∀ μ3 (loc : Loc), Fed c (B + 9) μ3 → Kp c μ μ3 → retQ Q (.ret (.tup [.lst [.int 37, .int x], .lst ((flagsF [(x, x)]).map .int)])) loc μ3 := fun μ3 loc h1 h2 =>
      ret_q (q (.esc x) _ μ3 oke (fun y hy => by simp [Sg.signs] at hy; tb_start) (by simp [Sg.signs]) fle (by have := flagsF_len (p := [(x, x)]); tb_start) h1 h2)
    repeat' (first | kts_caught | (refine flags_k (prs := [(x, x)]) A (by simp) ?_))
    · refine draw_k A F2 (by tb_start) ⟨by tb_start, by tb_start⟩ fun u μ3 u0 u1 F3 K3 => ?_
      have K := (K1.trans K2).trans K3
      repeat' (first | kts_caught | (refine flags_k (prs := [(x, x)]) A (by simp) ?_))
      · exact ret_q (q .dot knownL μ3 trivial (fun y hy => by simp [Sg.signs] at hy; tb_start) (by simp [Sg.signs]) (fun o ho => by simpa [Sg.has] using ho) (by decide) (F3.mono (by tb_start)) K)
      · exact fin μ3 _ (F3.mono (by tb_start)) K
    · exact fin μ2 _ (F2.mono (by tb_start)) (K1.trans K2)
  · refine drawn_name_k A F1 (by tb_start) fun x μ2 okx hx F2 K2 => ?_
    repeat' kts_caught
    exact ret_q (q (.esc x) _ μ2 okx (fun y hy => by simp [Sg.signs] at hy; tb_start) (by simp [Sg.signs]) (FlOk.filter _) (by have := List.length_filter_le (Sg.esc x).has knownL; have e : knownL.length = 14 := rfl; tb_start) (F2.mono (by tb_start)) (K1.trans K2))
  · refine drawn_set_k A F1 (by tb_start) fun off seg fl μ2 ok oct len flo fll F2 K2 => ?_
    repeat' kts_caught
    exact ret_q (q (.set off seg) fl μ2 ok oct len flo fll (F2.mono (by tb_start)) (K1.trans K2))
end
/-- a part as the law keeps it -/
@[reducible] noncomputable def ptD : Pt → D
  | .one g fl q => .tup [.str (Str.ofString "one"), .lst (g.signs.map .int), .lst (fl.map .int), .int q]
  | .opn => .tup [.str (Str.ofString "open")]
  | .cls => .tup [.str (Str.ofString "close")]
  | .spot => .tup [.str (Str.ofString "spot")]
  | .again k => .tup [.str (Str.ofString "again"), .int k]
  | .pair b e => .tup [.str (Str.ofString "pair"), .int b, .int e]
  | .edge off seg fl => .tup [.str (Str.ofString "edge"), .lst ((Sg.set off seg).signs.map .int), .lst (fl.map .int)]
  | .stop => .tup [.str (Str.ofString "stop")]
/-- octets, lengths, flags -/
noncomputable def StOk : Pt → Prop
  | .one g fl q => g.ok ∧ (∀ x ∈ g.signs, 1 ≤ x ∧ x < 256) ∧ g.signs.length ≤ 20 ∧ FlOk fl g ∧ fl.length ≤ 50 ∧ 0 ≤ q ∧ q ≤ 4
  | .pair b e => 1 ≤ b ∧ b < 256 ∧ 1 ≤ e ∧ e < 256
  | .edge off seg fl => SetOk off seg ∧ (∀ x ∈ (Sg.set off seg).signs, 1 ≤ x ∧ x < 256) ∧ (Sg.set off seg).signs.length ≤ 20 ∧ FlOk fl (.set off seg) ∧ fl.length ≤ 50
  | _ => True
/-- what it asks of the captures ahead -/
noncomputable def DyOk : Pt → List Bool → Prop
  | .cls, sh => false ∈ sh
  | .again k, sh => 0 ≤ k ∧ k < sh.length ∧ sh.getD k.toNat false = true
  | .stop, _ => False
  | _, _ => True
theorem boolsOf_map : ∀ {l : List Bool}, boolsOf (l.map D.bool) = some l
  | [] => rfl
  | a :: r => by rw [List.map_cons, boolsOf, boolsOf_map]; rfl
theorem cmp_inb {b : Bool} {l : List Bool} {Q : Bool → Prop} (q : Q (l.contains b)) : cmpQ .In (.bool b) (.lst (l.map .bool)) Q := by
  refine cmpQ_k ?_ q
  show (boolsOf (l.map D.bool)).map (·.contains b) = _
  rw [boolsOf_map]
  rfl
theorem bmOk_count {μ : Mu} {ds : List D} : bmOk μ .count (.lst ds) := trivial
theorem bmOk_index {μ : Mu} {ds : List D} : bmOk μ .index (.lst ds) := trivial
theorem bm_count {μ : Mu} {Q : D → Mu → Prop} {b : Bool} {l : List Bool} (hl : l.length ≤ 1000) (q : Q (.int (l.count b : Nat)) μ) : bmS .count (.lst (l.map .bool)) [.bool b] μ Q := by
  show optQ (boolsOf (l.map D.bool)) fun bs => Fits bs.length ∧ Q (.int (bs.count b)) μ
  rw [boolsOf_map]
  exact ⟨by unfold Fits; tb_start, q⟩
section
variable {G : Gx} {P : Params} {n : Nat} {μ : Mu} {Q : D → Mu → Prop} {X : Prop} {c : Addr}
theorem part_k (A : Ax G P) {B : Int} {sh : List Bool} (F : Fed c B μ) (hB : B ≤ 6000) (hsh : sh.length ≤ 100) (q : ∀ pt μ', StOk pt → DyOk pt sh → Fed c (B + 12) μ' → Kp c μ μ' → Q (ptD pt) μ') : FS G (n + 7) 301 [.cel c, .lst (sh.map .bool)] μ Q X := by
  refine f_law_part_c A ?_
  unfold f_law_part
  repeat' kts_caught
  refine draw_k A F (by tb_start) ⟨by tb_start, by tb_start⟩ fun v μ1 v0 v1 F1 K1 => ?_
  have F1' := F1.mono (B' := B + 12) (by tb_start)
  repeat' (first | kts_caught | (with_reducible refine cmp_inb ?_) | (with_reducible refine And.intro bmOk_count ?_) | (with_reducible refine bm_count (by tb_start) ?_))
  all_goals first
    | (exfalso; tb_start)
    | skip
  · rename_i hc1 hc
    exact ret_q (q .cls μ1 trivial (by simpa [DyOk] using hc1) F1' K1)
  · rename_i hc1 hc
    refine draw_k A F1 (by tb_start) ⟨by tb_start, by tb_start⟩ fun w μ2 w0 w1 F2 K2 => ?_
    have F2' := F2.mono (B' := B + 12) (by tb_start)
    repeat' kts_caught
    · exact ret_q (q .cls μ2 trivial (by simpa [DyOk] using hc1) F2' (K1.trans K2))
    · exact ret_q (q .opn μ2 trivial trivial F2' (K1.trans K2))
  · exact ret_q (q .opn μ1 trivial trivial F1' K1)
  · exact ret_q (q .spot μ1 trivial trivial F1' K1)
  · rename_i hc
    repeat' kts_caught
    refine bi_lenL (by unfold Fits; rw [List.length_map]; tb_start) ?_
    rw [List.length_map]
    repeat' kts_caught
    refine ⟨⟨by tb_start, by tb_start⟩, ?_⟩
    refine ⟨_, rng_src0 (n := sh.length) (by tb_start), ?_⟩
    refine gath_flt (f := fun (k : Nat) => D.int (k : Int)) (p := fun k => sh.getD k false) ?_ (by simp; tb_start) ?_
    · intro j hj k hk
      have hj := List.mem_range.mp hj
      refine stepX_k rfl ?_
      repeat' kts_caught
      refine idx_lst (by tb_start) (by rw [List.length_map]; tb_start) (by unfold Fits; rw [List.length_map]; tb_start) (v := .bool (sh.getD j false)) (by simp [hj]) ?_
      kts_caught
      refine pick_b (fun h => ?_) (fun h => ?_)
      · rw [if_pos h] at hk
        repeat' kts_caught
        exact hk
      · rw [if_neg (by rw [h]; decide)] at hk
        exact hk
    · rw [List.nil_append]
      have e : ((List.range sh.length).filter fun k => sh.getD k false).map (fun (k : Nat) => D.int (k : Int)) = (((List.range sh.length).map fun (k : Nat) => (k : Int)).filter fun i => sh.getD i.toNat false).map D.int := by
        rw [List.filter_map, List.map_map]
        rfl
      rw [e]
      generalize hL : ((List.range sh.length).map fun (k : Nat) => (k : Int)).filter (fun i => sh.getD i.toNat false) = L
      have hmem : ∀ i ∈ L, 0 ≤ i ∧ i < sh.length ∧ sh.getD i.toNat false = true := by
        intro i hi
        rw [← hL] at hi
        simp only [List.mem_filter, List.mem_map, List.mem_range] at hi
        obtain ⟨⟨k, hk, rfl⟩, h2⟩ := hi
        exact ⟨by tb_start, by tb_start, h2⟩
      have hLl : L.length ≤ sh.length := by
        rw [← hL]
        have := List.length_filter_le (fun i : Int => sh.getD i.toNat false) ((List.range sh.length).map fun (k : Nat) => (k : Int))
        simpa using this
      have hL0 : 0 < L.length := by
        have ht : true ∈ sh := by simpa using hc
        obtain ⟨i, hi, e⟩ := List.mem_iff_getElem.mp ht
        have : (i : Int) ∈ L := by
          rw [← hL]
          simp only [List.mem_filter, List.mem_map, List.mem_range]
          exact ⟨⟨i, hi, rfl⟩, by simp [hi, e]⟩
        exact List.length_pos_of_mem this
      repeat' kts_caught
      refine bi_lenL (by unfold Fits; rw [List.length_map]; tb_start) ?_
      rw [List.length_map]
      repeat' kts_caught
      refine draw_k A F1 (by tb_start) ⟨by tb_start, by tb_start⟩ fun w μ2 w0 w1 F2 K2 => ?_
      iterate 2 kts_caught
      refine idx_lit L w0 w1 (by unfold Fits; tb_start) fun x hx => ?_
      repeat' kts_caught
      exact ret_q (q (.again x) μ2 trivial (hmem x hx) (F2.mono (by tb_start)) (K1.trans K2))
  all_goals first
    | (refine draw_k A F1 (by tb_start) ⟨by tb_start, by tb_start⟩ fun w μ2 w0 w1 F2 K2 => ?_)
    | (refine single_law A F1 (by tb_start) fun g fl μ2 ok oct len flo fll F2 K2 => ?_)
  all_goals repeat' kts_caught
  · refine draw_k A F2 (by tb_start) ⟨by tb_start, by tb_start⟩ fun u μ3 u0 u1 F3 K3 => ?_
    repeat' kts_caught
    exact ret_q (q (.one g fl u) μ3 ⟨ok, oct, len, flo, fll, by tb_start, by tb_start⟩ trivial (F3.mono (by tb_start)) ((K1.trans K2).trans K3))
  · refine draw_k A F2 (by tb_start) ⟨by tb_start, by tb_start⟩ fun u μ3 u0 u1 F3 K3 => ?_
    obtain ⟨x, y, hxy, hi⟩ : ∃ x y, (1 ≤ x ∧ x < 256 ∧ 1 ≤ y ∧ y < 256) ∧ idxS μ3 (.lst [.tup [.int 40, .int 41], .tup [.int 97, .int 98], .tup [.int 97, .int 97]]) (.int u) = some (.tup [.int x, .int y]) := by
      rcases (by tb_start : u = 0 ∨ u = 1 ∨ u = 2) with rfl | rfl | rfl
      · exact ⟨40, 41, by tb_start, rfl⟩
      · exact ⟨97, 98, by tb_start, rfl⟩
      · exact ⟨97, 97, by tb_start, rfl⟩
    repeat' kts_caught
    refine idxQ_k hi ?_
    repeat' kts_caught
    exact ret_q (q (.pair x y) μ3 hxy trivial (F3.mono (by tb_start)) ((K1.trans K2).trans K3))
  · refine drawn_set_k A F2 (by tb_start) fun off seg fl μ3 ok oct len flo fll F3 K3 => ?_
    repeat' kts_caught
    exact ret_q (q (.edge off seg fl) μ3 ⟨ok, oct, len, flo, fll⟩ trivial (F3.mono (by tb_start)) ((K1.trans K2).trans K3))
  · refine draw_k A F2 (by tb_start) ⟨by tb_start, by tb_start⟩ fun u μ3 u0 u1 F3 K3 => ?_
    repeat' kts_caught
    exact ret_q (q (.one g fl u) μ3 ⟨ok, oct, len, flo, fll, by tb_start, by tb_start⟩ trivial (F3.mono (by tb_start)) ((K1.trans K2).trans K3))
end
theorem idx_last {h : List Bool} {k : Nat} (hk : lastBy (!·) h true = some k) : h.reverse.idxOf false + k + 1 = h.length := by
  obtain ⟨k1, k2, k3⟩ := lastBy_spec hk
  have hkf : h[k] = false := by
    have := k2
    rw [List.getD_eq_getElem?_getD, List.getElem?_eq_getElem k1] at this
    simpa using this
  have hn : false ∉ (h.drop (k + 1)).reverse := by
    intro hm
    obtain ⟨j, hj, e⟩ := List.mem_iff_getElem.mp (List.mem_reverse.mp hm)
    rw [List.getElem_drop] at e
    rw [List.length_drop] at hj
    have hj' : k + 1 + j < h.length := Nat.add_lt_of_lt_sub' hj
    have := k3 (k + 1 + j) (Nat.lt_of_lt_of_le (Nat.lt_succ_self k) (Nat.le_add_right _ _)) hj'
    rw [List.getD_eq_getElem?_getD, List.getElem?_eq_getElem hj', Option.getD_some, e] at this
    cases this
  have e : h.reverse = (h.drop (k + 1)).reverse ++ false :: (h.take k).reverse := by
    conv => lhs; rw [← List.take_append_drop k h, List.drop_eq_getElem_cons k1, hkf, List.reverse_append, List.reverse_cons, List.append_assoc]
    rfl
  rw [e, List.idxOf_append, if_neg hn, List.idxOf_cons_self, List.length_reverse, List.length_drop, Nat.zero_add, Nat.add_assoc]
  exact Nat.sub_add_cancel k1
theorem shut_some {h : List Bool} (hf : false ∈ h) : ∃ k, lastBy (!·) h true = some k ∧ k < h.length ∧ closeB h = h.set k true := by
  obtain ⟨k, hk⟩ := lastBy_some (p := (!·)) (d := true) hf rfl
  refine ⟨k, hk, (lastBy_spec hk).1, ?_⟩
  unfold closeB
  rw [hk]
theorem closeB_len {h : List Bool} : (closeB h).length = h.length := by
  unfold closeB
  split <;> simp
theorem set_cut {α : Type} {l : List α} {k : Nat} {x : α} (hk : k < l.length) : cut l 0 k ++ [x] ++ cut l (k + 1) l.length = l.set k x := by
  unfold cut
  rw [List.set_eq_take_append_cons_drop, if_pos hk]
  simp
section
variable {G : Gx} {P : Params} {n : Nat} {μ : Mu} {Q : D → Mu → Prop} {X : Prop} {c : Addr}
theorem bm_index {b : Bool} {l : List Bool} (hl : l.length ≤ 1000) (hb : b ∈ l) (q : Q (.int (l.idxOf b : Nat)) μ) : bmS .index (.lst (l.map .bool)) [.bool b] μ Q := by
  show optQ (boolsOf (l.map D.bool)) fun bs => Fits bs.length ∧ b ∈ bs ∧ Q (.int (bs.idxOf b)) μ
  rw [boolsOf_map]
  exact ⟨by unfold Fits; tb_start, hb, q⟩
theorem law_shut_k (A : Ax G P) {h : List Bool} (hl : h.length ≤ 100) (hf : false ∈ h) (q : Q (.lst ((closeB h).map .bool)) μ) : FS G (n + 1) 308 [.lst (h.map .bool)] μ Q X := by
  obtain ⟨k, hk, k1, e⟩ := shut_some hf
  have hi := idx_last hk
  rw [e, List.map_set, ← set_cut (by rw [List.length_map]; exact k1)] at q
  have e1 : (h.length : Int) - 1 - (h.reverse.idxOf false : Nat) = (k : Nat) := by tb_start
  refine f_law_shut_c A ?_
  unfold f_law_shut
  repeat' (first | kts_caught | (with_reducible refine bi_lenL (by unfold Fits; rw [List.length_map]; tb_start) ?_; rw [List.length_map]))
  refine ⟨by rw [List.length_map]; tb_start, ?_⟩
  rw [← List.map_reverse]
  repeat' (first | kts_caught | (with_reducible refine And.intro bmOk_index ?_))
  refine bm_index (by simpa using (by tb_start : h.length ≤ 1000)) (by simpa using hf) ?_
  repeat' kts_caught
  rw [e1]
  repeat' kts_caught
  refine slc_items (by intro l hl; cases hl) rfl (by unfold Fits; rw [List.length_map]; tb_start) (by tb_start) (by tb_start) ?_
  repeat' kts_caught
  refine b_cat (by with_unfolding_all rfl) (by with_unfolding_all rfl) (newL_f (by unfold Fits; unfold cut; simp; tb_start) ?_)
  repeat' kts_caught
  refine slc_items_from (by intro l hl; cases hl) rfl (by unfold Fits; rw [List.length_map]; tb_start) (by tb_start) (by tb_start) ?_
  repeat' kts_caught
  refine b_cat (by with_unfolding_all rfl) (by with_unfolding_all rfl) (newL_f (by unfold Fits; unfold cut; simp; tb_start) ?_)
  repeat' kts_caught
  exact ret_q q
end
noncomputable def stepSh : Pt → List Bool → List Bool
  | .opn, sh => sh ++ [false]
  | .cls, sh => closeB sh
  | .spot, sh => sh ++ [true]
  | _, sh => sh
noncomputable def endSh : List Pt → List Bool → List Bool
  | [], sh => sh
  | p :: r, sh => endSh r (stepSh p sh)
theorem endSh_snoc {pt : Pt} : ∀ {ps : List Pt} {sh : List Bool}, endSh (ps ++ [pt]) sh = stepSh pt (endSh ps sh)
  | [], _ => rfl
  | p :: r, sh => endSh_snoc (ps := r)
noncomputable def DyW : Pt → List Bool → Prop
  | .one g _ q, _ => g.ok ∧ 0 ≤ q ∧ q ≤ 4
  | .cls, sh => false ∈ sh
  | .again k, sh => 0 ≤ k ∧ k ≤ 8 ∧ k < sh.length ∧ sh.getD k.toNat false = true
  | .edge off seg _, _ => SetOk off seg
  | _, _ => True
theorem last_ne {p pt : Pt} {r : List Pt} (h : pt = .cls → (p :: r).getLast? ≠ some .opn) (hr : r ≠ []) : pt = .cls → r.getLast? ≠ some .opn := by
  intro e
  have := h e
  cases r with
  | nil => exact absurd rfl hr
  | cons a t => simpa [List.getLast?_cons_cons] using this
theorem last_ne' {p pt : Pt} {r : List Pt} (h : pt = .cls → (p :: r).getLast? ≠ some .opn) : pt = .cls → r.getLast? ≠ some .opn := by
  cases r with
  | nil => intro _; simp
  | cons a t => exact last_ne h (by simp)
theorem wf_snoc : ∀ {ps : List Pt} {sh : List Bool} {pt : Pt}, WfP ps sh → (∀ p ∈ ps, p ≠ .stop) → DyW pt (endSh ps sh) → (pt = .cls → ps.getLast? ≠ some .opn) → WfP (ps ++ [pt]) sh
  | [], sh, pt, w, hs, hd, hl => by
    cases pt with
    | again k => exact ⟨hd.1, hd.2.1, hd.2.2.1, hd.2.2.2, trivial⟩
    | _ => simp only [List.nil_append, wf_0, wf_1, wf_2, wf_3, wf_4, wf_5, wf_6, wf_7, wf_8, DyW, endSh, isCls] at hd ⊢ <;> simp_all
  | .one g fl q :: r, sh, pt, w, hs, hd, hl => ⟨w.1, w.2.1, w.2.2.1, wf_snoc w.2.2.2 (fun p hp => hs p (List.mem_cons_of_mem _ hp)) hd (last_ne' hl)⟩
  | .opn :: r, sh, pt, w, hs, hd, hl => by
    refine ⟨?_, wf_snoc w.2 (fun p hp => hs p (List.mem_cons_of_mem _ hp)) hd (last_ne' hl)⟩
    cases r with
    | nil =>
      cases pt with
      | cls => exact absurd rfl (hl rfl)
      | _ => rfl
    | cons a t => cases a <;> first | rfl | exact w.1
  | .cls :: r, sh, pt, w, hs, hd, hl => ⟨w.1, wf_snoc w.2 (fun p hp => hs p (List.mem_cons_of_mem _ hp)) hd (last_ne' hl)⟩
  | .spot :: r, sh, pt, w, hs, hd, hl => wf_snoc (ps := r) w (fun p hp => hs p (List.mem_cons_of_mem _ hp)) hd (last_ne' hl)
  | .again k :: r, sh, pt, w, hs, hd, hl => ⟨w.1, w.2.1, w.2.2.1, w.2.2.2.1, wf_snoc w.2.2.2.2 (fun p hp => hs p (List.mem_cons_of_mem _ hp)) hd (last_ne' hl)⟩
  | .pair b e :: r, sh, pt, w, hs, hd, hl => wf_snoc (ps := r) w (fun p hp => hs p (List.mem_cons_of_mem _ hp)) hd (last_ne' hl)
  | .edge off seg fl :: r, sh, pt, w, hs, hd, hl => ⟨w.1, wf_snoc w.2 (fun p hp => hs p (List.mem_cons_of_mem _ hp)) hd (last_ne' hl)⟩
  | .stop :: r, sh, pt, w, hs, hd, hl => absurd rfl (hs .stop List.mem_cons_self)
/-- what is open at the end -/
theorem go_shut {text : List Int} : ∀ {ps : List Pt} {s : Int} {h : Held} {e : Int} {h' : Held}, WfP ps (shut h) → HOk text h s → 0 ≤ s → s ≤ text.length → go text ps s h = some (e, h') → shut h' = endSh ps (shut h) ∧ h'.length ≤ h.length + ps.length
  | [], s, h, e, h', w, x, h0, hs, hg => by
    simp only [go_0, go_1, go_2, go_3, go_4, go_5, go_6, go_7, go_8, Option.some.injEq, Prod.mk.injEq] at hg
    obtain ⟨rfl, rfl⟩ := hg
    exact ⟨rfl, Nat.le_add_right _ _⟩
  | .one g fl q :: r, s, h, e, h', w, x, h0, hs, hg => by
    simp only [wf_1, wf_2, wf_3, wf_4, wf_5, wf_6, wf_7, wf_8] at w
    simp only [go_0, go_1, go_2, go_3, go_4, go_5, go_6, go_7, go_8] at hg
    obtain ⟨k, hk, hg⟩ := firstSome_mem hg
    have := counts_mem hk
    have hm := many_le (g := g) h0 hs
    have := go_shut w.2.2.2 (x.mono (by tb_start : s ≤ s + k)) (by tb_start) (by tb_start) hg
    exact ⟨this.1, by simp only [List.length_cons]; tb_start⟩
  | .opn :: r, s, h, e, h', w, x, h0, hs, hg => by
    simp only [wf_1, wf_2, wf_3, wf_4, wf_5, wf_6, wf_7, wf_8] at w
    simp only [go_0, go_1, go_2, go_3, go_4, go_5, go_6, go_7, go_8] at hg
    have := go_shut (by rw [shut_snoc]; exact w.2) (x.snoc h0 (.inl rfl)) h0 hs hg
    rw [shut_snoc, List.length_append] at this
    exact ⟨this.1, by have := this.2; simp only [List.length_cons, List.length_nil] at this ⊢; tb_start⟩
  | .cls :: r, s, h, e, h', w, x, h0, hs, hg => by
    simp only [wf_1, wf_2, wf_3, wf_4, wf_5, wf_6, wf_7, wf_8] at w
    simp only [go_0, go_1, go_2, go_3, go_4, go_5, go_6, go_7, go_8] at hg
    have e2 := shut_close (h := h) (s := s) fun y hy => (x.all y hy).2.1
    have := go_shut (by rw [e2]; exact w.2) (x.close hs) h0 hs hg
    rw [e2, closeH_len] at this
    exact ⟨this.1, by simp only [List.length_cons]; tb_start⟩
  | .spot :: r, s, h, e, h', w, x, h0, hs, hg => by
    simp only [wf_1, wf_2, wf_3, wf_4, wf_5, wf_6, wf_7, wf_8] at w
    simp only [go_0, go_1, go_2, go_3, go_4, go_5, go_6, go_7, go_8] at hg
    have := go_shut (by rw [shut_snoc]; exact w) (x.snoc h0 (.inr rfl)) h0 hs hg
    rw [shut_snoc, List.length_append] at this
    exact ⟨this.1, by have := this.2; simp only [List.length_cons, List.length_nil] at this ⊢; tb_start⟩
  | .again k :: r, s, h, e, h', w, x, h0, hs, hg => by
    simp only [wf_1, wf_2, wf_3, wf_4, wf_5, wf_6, wf_7, wf_8] at w
    simp only [go_0, go_1, go_2, go_3, go_4, go_5, go_6, go_7, go_8] at hg
    split at hg
    · rename_i s' hr
      have hk : k.toNat < h.length := by have := w.2.2.1; rw [shut_len] at this; tb_start
      have hm : h.getD k.toNat (0, 0) ∈ h := by
        rw [List.getD_eq_getElem?_getD, List.getElem?_eq_getElem hk]
        exact List.getElem_mem hk
      have hx := x.all _ hm
      have hsh : openB (h.getD k.toNat (0, 0)) = false := by
        have := w.2.2.2.1
        unfold shut at this
        simpa [hk] using this
      unfold openB at hsh
      have hsh := of_decide_eq_false hsh
      have := repF_ge h0 hs (x := h.getD k.toNat (0, 0)) (by rcases hx.2.2 with q | q | q; exact absurd q hsh; exact .inl q; exact .inr ⟨q.1, hx.1, q.2⟩) hr
      have := go_shut w.2.2.2.2 (x.mono this.1) (by tb_start) this.2 hg
      exact ⟨this.1, by simp only [List.length_cons]; tb_start⟩
    · cases hg
  | .pair b c :: r, s, h, e, h', w, x, h0, hs, hg => by
    simp only [wf_1, wf_2, wf_3, wf_4, wf_5, wf_6, wf_7, wf_8] at w
    simp only [go_0, go_1, go_2, go_3, go_4, go_5, go_6, go_7, go_8] at hg
    split at hg
    · rename_i s' hr
      have := balanced_ge h0 hs hr
      have := go_shut w (x.mono this.1) (by tb_start) this.2 hg
      exact ⟨this.1, by simp only [List.length_cons]; tb_start⟩
    · cases hg
  | .edge off seg fl :: r, s, h, e, h', w, x, h0, hs, hg => by
    simp only [wf_1, wf_2, wf_3, wf_4, wf_5, wf_6, wf_7, wf_8] at w
    simp only [go_0, go_1, go_2, go_3, go_4, go_5, go_6, go_7, go_8] at hg
    split at hg
    · have := go_shut w.2 x h0 hs hg
      exact ⟨this.1, by simp only [List.length_cons]; tb_start⟩
    · cases hg
  | .stop :: r, s, h, e, h', w, x, h0, hs, hg => by
    simp only [wf_1, wf_2, wf_3, wf_4, wf_5, wf_6, wf_7, wf_8] at w
    simp only [go_0, go_1, go_2, go_3, go_4, go_5, go_6, go_7, go_8] at hg
    split at hg
    · have := go_shut w.2 x h0 hs hg
      exact ⟨this.1, by simp only [List.length_cons]; tb_start⟩
    · cases hg
theorem closeB_count {h : List Bool} (hf : false ∈ h) : (closeB h).count false + 1 = h.count false := by
  obtain ⟨k, hk, k1, e⟩ := shut_some hf
  have hkf : h[k] = false := by
    have := (lastBy_spec hk).2.1
    rw [List.getD_eq_getElem?_getD, List.getElem?_eq_getElem k1] at this
    simpa using this
  rw [e, List.count_set k1]
  have : 0 < h.count false := List.count_pos_iff.mpr hf
  simp [hkf]
  tb_start
noncomputable def kindS : Pt → Str
  | .one _ _ _ => Str.ofString "one"
  | .opn => Str.ofString "open"
  | .cls => Str.ofString "close"
  | .spot => Str.ofString "spot"
  | .again _ => Str.ofString "again"
  | .pair _ _ => Str.ofString "pair"
  | .edge _ _ _ => Str.ofString "edge"
  | .stop => Str.ofString "stop"
theorem kind_k {μ : Mu} {p : Pt} {Q : D → Prop} (q : Q (.str (kindS p))) : idxQ μ (ptD p) (.int 0) Q := by
  refine idxQ_k (v := .str (kindS p)) ?_ q
  cases p <;> rfl
theorem kind_opn {p : Pt} : kindS p = Str.ofString "open" ↔ p = .opn := by cases p <;> simp [kindS] <;> decide
theorem kind_cls {p : Pt} : kindS p = Str.ofString "close" ↔ p = .cls := by cases p <;> simp [kindS] <;> decide
theorem kind_spot {p : Pt} : kindS p = Str.ofString "spot" ↔ p = .spot := by cases p <;> simp [kindS] <;> decide
/-- the last item -/
theorem idx_neg {μ : Mu} {x : D} {ds : List D} {d : D} {Q : D → Prop} (hx : itemsOf μ x = some (ds ++ [d])) (hf : ds.length ≤ 1000) (q : Q d) : idxQ μ x (.int (-1)) Q := by
  refine idxQ_k (v := d) ?_ q
  have hi : ixN (ds ++ [d]).length (-1) = some ds.length := by
    unfold ixN
    rw [if_neg (by tb_start), if_pos (by simp; tb_start)]
    simp
  have key : (match itemsOf μ x with | some ds => ixL ds (-1) | none => none) = some d := by
    rw [hx]
    show ixL (ds ++ [d]) (-1) = some d
    unfold ixL
    rw [if_pos (by simp; tb_start), hi]
    simp
  cases x with
  | lst => exact key
  | cel => exact key
  | _ => exact no_some hx
structure Gen (c : Addr) (B : Int) (μ0 : Mu) (ps : List Pt) (sh : List Bool) (ν : Mu) : Prop where
  wf : WfP ps []
  en : endSh ps [] = sh
  st : ∀ p ∈ ps, StOk p ∧ p ≠ .stop
  fed : Fed c B ν
  kp : Kp c μ0 ν
theorem Gen.snoc {c : Addr} {B B' : Int} {μ0 ν ν' : Mu} {ps : List Pt} {sh : List Bool} {pt : Pt} (g : Gen c B μ0 ps sh ν) (hs : StOk pt) (hn : pt ≠ .stop) (hd : DyW pt sh) (hl : pt = .cls → ps.getLast? ≠ some .opn) (hf : Fed c B' ν') (hk : Kp c μ0 ν') : Gen c B' μ0 (ps ++ [pt]) (stepSh pt sh) ν' := by
  refine ⟨wf_snoc g.wf (fun p hp => (g.st p hp).2) (by rw [g.en]; exact hd) hl, by rw [endSh_snoc, g.en], ?_, hf, hk⟩
  intro p hp
  rcases List.mem_append.mp hp with hp | hp
  · exact g.st p hp
  · simp only [List.mem_singleton] at hp
    subst hp
    exact ⟨hs, hn⟩
theorem Gen.last {c : Addr} {B : Int} {μ0 ν : Mu} {ps : List Pt} {sh : List Bool} (g : Gen c B μ0 ps sh ν) (hf : false ∈ sh) : ∃ ps' pl, ps = ps' ++ [pl] := by
  cases ps with
  | nil => rw [← g.en] at hf; cases hf
  | cons a r =>
    have := List.dropLast_concat_getLast (l := a :: r) (by simp)
    exact ⟨_, _, this.symm⟩
theorem DyW.of {pt : Pt} {sh : List Bool} (h1 : StOk pt) (h2 : DyOk pt sh) (hl : sh.length ≤ 8) : DyW pt sh ∧ pt ≠ .stop := by
  cases pt <;> simp only [StOk, DyOk, DyW] at h1 h2 ⊢
  · exact ⟨⟨h1.1, h1.2.2.2.2.2⟩, by simp⟩
  · exact ⟨trivial, by simp⟩
  · exact ⟨h2, by simp⟩
  · exact ⟨trivial, by simp⟩
  · exact ⟨⟨h2.1, by tb_start, h2.2⟩, by simp⟩
  · exact ⟨trivial, by simp⟩
  · exact ⟨h1.1, by simp⟩
theorem bmOk_append {μ : Mu} {a : Addr} {es : List D} (h : μ.lookup a = some (.lst es)) : bmOk μ .append (.cel a) := ⟨es, h⟩
theorem bm_append {μ : Mu} {a : Addr} {es : List D} {d : D} {Q : D → Mu → Prop} (h : μ.lookup a = some (.lst es)) (hl : es.length ≤ 1000) (q : ∀ μ', μ'.lookup a = some (.lst (es ++ [d])) → (∀ b, b ≠ a → μ'.lookup b = μ.lookup b) → Q .none μ') : bmS .append (.cel a) [d] μ Q := by
  unfold bmS arg1
  simp only [h]
  exact ⟨by unfold Fits; tb_start, q _ (put_self h) fun b hb => put_ne hb⟩
/-- the part that the law puts in -/
noncomputable def litP (x : Int) : Pt := .one (.lit x) (flagsF [(x, x)]) 4
theorem litP_ok {x : Int} (hx : x = 97 ∨ x = 98) : StOk (litP x) ∧ ∀ sh, DyW (litP x) sh := by
  have h : (Sg.lit x).ok := by rcases hx with rfl | rfl <;> (unfold Sg.ok; decide)
  refine ⟨⟨h, fun y hy => by simp [Sg.signs] at hy; tb_start, by simp [Sg.signs], fun o ho => ?_, by have := flagsF_len (p := [(x, x)]); tb_start, by decide, by decide⟩, fun sh => ⟨h, by decide, by decide⟩⟩
  rw [fl_rng o ho]
  simp only [Sg.has]
  rw [Bool.eq_iff_iff]
  simp
  tb_start
inductive GJ (c fc : Addr) (B : Int) (μ0 : Mu) (ds : List D) : Loc → Mu → Prop where
  | mk (ps : List Pt) (sh : List Bool) (ν : Mu) (x3 x4 : Option D) (l0 : ds.length ≤ 4) (l1 : ps.length + 2 * ds.length ≤ 8) (l2 : sh.length + ds.length ≤ 4) (hcl : ν.lookup fc = some (.lst (ps.map ptD))) (g : Gen c (B + 1 + 12 * (4 - (ds.length : Nat))) μ0 ps sh ν) :
    GJ c fc B μ0 ds [some (.cel c), some (.cel fc), some (.lst (sh.map .bool)), x3, x4, none, none, none, none, none] ν
section
variable {G : Gx} {P : Params} {n : Nat} {μ : Mu} {Q : D → Mu → Prop} {X : Prop} {c : Addr}
theorem parts_k (A : Ax G P) {B : Int} (F : Fed c B μ) (hB : B ≤ 5000) (q : ∀ ps μ', WfP ps [] → (∀ b ∈ endSh ps [], b = true) → (∀ p ∈ ps, StOk p) → ps.length ≤ 20 → Fed c (B + 60) μ' → Kp c μ μ' → Q (.lst (ps.map ptD)) μ') : FS G (n + 8) 315 [.cel c] μ Q X := by
  refine f_law_parts_c A ?_
  unfold f_law_parts
  repeat' kts_caught
  refine newL_t (by unfold Fits; decide) fun fc hfc => ?_
  have hc : c ≠ fc := by
    obtain ⟨nums, k, seed, h1, _⟩ := F
    rintro rfl
    rw [fresh_none hfc] at h1
    cases h1
  have hcell : List.lookup fc ((fc, Cell.lst []) :: μ) = some (.lst (([] : List Pt).map ptD)) := by rw [List.lookup_cons, beq_self_eq_true]; rfl
  have K0 : Kp c μ ((fc, Cell.lst []) :: μ) := by
    intro b x hb hx
    have : b ≠ fc := by rintro rfl; rw [fresh_none hfc] at hx; cases hx
    rw [List.lookup_cons, beq_false_of_ne this]
    exact hx
  have F0 : Fed c B ((fc, Cell.lst []) :: μ) := by
    obtain ⟨nums, k, seed, h1, h2⟩ := F
    exact ⟨nums, k, seed, by rw [List.lookup_cons, beq_false_of_ne hc]; exact h1, h2⟩
  generalize hν0 : (fc, Cell.lst []) :: μ = ν0 at *
  repeat' kts_caught
  refine draw_k A F0 (by tb_start) ⟨by tb_start, by tb_start⟩ fun m ν1 m0 m1 F1 K1 => ?_
  have hcell1 := K1 fc _ (Ne.symm hc) hcell
  repeat' kts_caught
  refine ⟨⟨by tb_start, by tb_start⟩, ?_⟩
  refine ⟨_, rng_src (a := 0) (b := m) (by tb_start) (by tb_start), ?_⟩
  refine for_rel (GJ c fc B μ) ⟨[], [], ν1, none, none, by simp; tb_start, by simp; tb_start, by simp; tb_start, hcell1, trivial, rfl, (fun p hp => by cases hp), F1.mono (by simp; tb_start), K0.trans K1⟩ ?_ ?_
  · rintro d ds _ ν ⟨ps, sh, _, x3, x4, l0, l1, l2, hcl, g⟩ W ih
    simp only [List.length_cons] at l0 l1 l2 g
    have hfed := g.fed
    repeat' kts_caught
    refine part_k A hfed (by tb_start) (by tb_start) fun pt ν2 st dy F2 K2 => ?_
    obtain ⟨dw, ns⟩ := DyW.of st dy (by tb_start)
    have hcl2 := K2 fc _ (Ne.symm hc) hcl
    -- the turn's end
    have next : ∀ (ps' : List Pt) (sh' : List Bool) (ν' : Mu) (y3 y4 : Option D), ps'.length ≤ ps.length + 2 → sh'.length ≤ sh.length + 1 → ν'.lookup fc = some (.lst (ps'.map ptD)) → Gen c (B + 1 + 12 * (4 - ((ds.length + 1 : Nat) : Int)) + 12) μ ps' sh' ν' →
        W [some (.cel c), some (.cel fc), some (.lst (sh'.map .bool)), y3, y4, none, none, none, none, none] ν' := fun ps' sh' ν' y3 y4 h1 h2 h3 h4 =>
      ih _ _ ⟨ps', sh', ν', y3, y4, by tb_start, by tb_start, by tb_start, h3, h4.wf, h4.en, h4.st, h4.fed.mono (by tb_start), h4.kp⟩
    have fnone := fresh_none hfc
    -- an append
    have fk : ∀ {ν3 ν4 : Mu} {B' : Int}, (∀ b, b ≠ fc → ν4.lookup b = ν3.lookup b) → Fed c B' ν3 → Kp c μ ν3 → Fed c B' ν4 ∧ Kp c μ ν4 := by
      intro ν3 ν4 B' h1 h2 h3
      obtain ⟨nums, k, seed, h4, h5⟩ := h2
      refine ⟨⟨nums, k, seed, (h1 c hc).trans h4, h5⟩, fun b x hb hx => ?_⟩
      have : b ≠ fc := by rintro rfl; rw [fnone] at hx; cases hx
      exact (h1 b this).trans (h3 b x hb hx)
    have K := g.kp.trans K2
    by_cases hk : pt = .cls
    · subst hk
      obtain ⟨ps', pl, hps⟩ := g.last dw
      have hcl2' := hcl2
      rw [hps, List.map_append, List.map_singleton] at hcl2'
      have hlen : ps'.length ≤ 1000 := by rw [hps] at l1; simp at l1; tb_start
      have kc : kindS .cls = Str.ofString "close" := rfl
      have ko : ¬ kindS .cls = Str.ofString "open" := by decide
      have ks : ¬ kindS .cls = Str.ofString "spot" := by decide
      have hsl : (closeB sh).length = sh.length := closeB_len
      by_cases ho : pl = .opn
      · have kp := kind_opn.mpr ho
        repeat' (first | kts_caught | (with_reducible refine kind_k ?_))
        refine idx_neg (itemsOf_cel hcl2') (by rw [List.length_map]; exact hlen) ?_
        repeat' (first | kts_caught | (with_reducible refine kind_k ?_) | ((with_reducible show bmOk _ .append _ ∧ _); refine And.intro (bmOk_append (by assumption)) ?_))
        refine flags_k (prs := [(97, 97)]) A (by simp) ?_
        repeat' kts_caught
        refine bm_append hcl2 (by rw [List.length_map]; tb_start) fun ν3 h3 hf3 => ?_
        obtain ⟨F3, K3⟩ := fk hf3 F2 K
        have h3 : ν3.lookup fc = some (.lst ((ps ++ [litP 97]).map ptD)) := by rw [List.map_append]; exact h3
        have g3 := g.snoc (litP_ok (.inl rfl)).1 (by simp [litP]) ((litP_ok (.inl rfl)).2 _) (fun e => by cases e) F3 K3
        repeat' (first | kts_caught | (with_reducible refine kind_k ?_) | ((with_reducible show bmOk _ .append _ ∧ _); refine And.intro (bmOk_append (by assumption)) ?_))
        refine bm_append h3 (by rw [List.length_map, List.length_append]; simp; tb_start) fun ν4 h4 hf4 => ?_
        obtain ⟨F4, K4⟩ := fk hf4 F3 K3
        have h4 : ν4.lookup fc = some (.lst ((ps ++ [litP 97] ++ [Pt.cls]).map ptD)) := by rw [List.map_append]; exact h4
        have g4 := g3.snoc (pt := .cls) trivial (by simp) dw (fun _ => by simp [litP]) F4 K4
        repeat' (first | kts_caught | (with_reducible refine kind_k ?_))
        refine law_shut_k A (by tb_start) dw ?_
        repeat' kts_caught
        exact next _ _ ν4 _ _ (by simp) (by show (closeB sh).length ≤ _; tb_start) h4 g4
      · have kp : ¬ kindS pl = Str.ofString "open" := fun e => ho (kind_opn.mp e)
        repeat' (first | kts_caught | (with_reducible refine kind_k ?_))
        refine idx_neg (itemsOf_cel hcl2') (by rw [List.length_map]; exact hlen) ?_
        repeat' (first | kts_caught | (with_reducible refine kind_k ?_) | ((with_reducible show bmOk _ .append _ ∧ _); refine And.intro (bmOk_append (by assumption)) ?_))
        refine bm_append hcl2 (by rw [List.length_map]; tb_start) fun ν4 h4 hf4 => ?_
        obtain ⟨F4, K4⟩ := fk hf4 F2 K
        have h4 : ν4.lookup fc = some (.lst ((ps ++ [Pt.cls]).map ptD)) := by rw [List.map_append]; exact h4
        have g4 := g.snoc (pt := .cls) trivial (by simp) dw (fun _ => by rw [hps]; simpa using ho) F4 K4
        repeat' (first | kts_caught | (with_reducible refine kind_k ?_))
        refine law_shut_k A (by tb_start) dw ?_
        repeat' kts_caught
        exact next _ _ ν4 _ _ (by simp) (by show (closeB sh).length ≤ _; tb_start) h4 g4
    · have kc : ¬ kindS pt = Str.ofString "close" := fun e => hk (kind_cls.mp e)
      repeat' (first | kts_caught | (with_reducible refine kind_k ?_) | ((with_reducible show bmOk _ .append _ ∧ _); refine And.intro (bmOk_append (by assumption)) ?_))
      refine bm_append hcl2 (by rw [List.length_map]; tb_start) fun ν4 h4 hf4 => ?_
      obtain ⟨F4, K4⟩ := fk hf4 F2 K
      have h4 : ν4.lookup fc = some (.lst ((ps ++ [pt]).map ptD)) := by rw [List.map_append]; exact h4
      have g4 := g.snoc st ns dw (fun e => absurd e hk) F4 K4
      by_cases ho : pt = .opn
      · subst ho
        have ko : kindS .opn = Str.ofString "open" := rfl
        have ks : ¬ kindS .opn = Str.ofString "spot" := by decide
        repeat' (first | kts_caught | (with_reducible refine kind_k ?_))
        refine b_cat (by with_unfolding_all rfl) (by with_unfolding_all rfl) (newL_f (by unfold Fits; simp; tb_start) ?_)
        rw [decide_eq_false ks, show sh.map D.bool ++ [D.bool false] = (sh ++ [false]).map D.bool from by simp]
        repeat' (first | kts_caught | (with_reducible refine kind_k ?_))
        refine next (ps ++ [Pt.opn]) (sh ++ [false]) ν4 _ _ (by simp) (by simp) h4 g4
      · have ko : ¬ kindS pt = Str.ofString "open" := fun e => ho (kind_opn.mp e)
        by_cases hs : pt = .spot
        · subst hs
          have ks : kindS .spot = Str.ofString "spot" := rfl
          repeat' (first | kts_caught | (with_reducible refine kind_k ?_))
          refine b_cat (by with_unfolding_all rfl) (by with_unfolding_all rfl) (newL_f (by unfold Fits; simp; tb_start) ?_)
          rw [decide_eq_true ks, show sh.map D.bool ++ [D.bool true] = (sh ++ [true]).map D.bool from by simp]
          repeat' (first | kts_caught | (with_reducible refine kind_k ?_))
          refine next (ps ++ [Pt.spot]) (sh ++ [true]) ν4 _ _ (by simp) (by simp) h4 g4
        · have ks : ¬ kindS pt = Str.ofString "spot" := fun e => hs (kind_spot.mp e)
          have e : stepSh pt sh = sh := by cases pt <;> first | rfl | exact absurd rfl hk | exact absurd rfl ho | exact absurd rfl hs
          rw [e] at g4
          repeat' (first | kts_caught | (with_reducible refine kind_k ?_))
          exact next (ps ++ [pt]) sh ν4 _ _ (by simp) (by simp) h4 g4
  · rintro _ ν ⟨ps, sh, _, x3, x4, l0, l1, l2, hcl, g⟩
    simp only [List.length_nil] at l0 l1 l2 g
    have hcnt : sh.count false ≤ sh.length := List.count_le_length
    repeat' kts_caught
    refine vs_whl_loop (ι := List Pt × List Bool × D) (fun x => x.2.1.count false) (fun x => [some (.cel c), some x.2.2, some (.lst (x.2.1.map .bool)), x3, x4, none, none, none, none, none]) (fun _ => ν)
      (fun x => x.1.length + 2 * x.2.1.count false ≤ 16 ∧ x.2.1.length ≤ 4 ∧ Gen c (B + 1 + 12 * (4 - ((0 : Nat) : Int))) μ x.1 x.2.1 ν ∧ ((x.2.2 = .cel fc ∧ ν.lookup fc = some (.lst (x.1.map ptD))) ∨ x.2.2 = .lst (x.1.map ptD))) (ps, sh, .cel fc) rfl rfl
      ⟨by simp only; tb_start, by simp only; tb_start, g, .inl ⟨rfl, hcl⟩⟩ ?_
    clear l1 l2 hcl g hcnt
    rintro ⟨ps, sh, x⟩ ⟨l1, l2, g, hx⟩ W ih
    simp only at l1 l2 g hx ih ⊢
    have hit : ∀ ν', Kp c ν ν' → itemsOf ν' x = some (ps.map ptD) := by
      intro ν' hk
      rcases hx with ⟨rfl, h⟩ | rfl
      · exact itemsOf_cel (hk fc _ (Ne.symm hc) h)
      · rfl
    have hin := hit ν (Kp.refl c ν)
    have hpl : ps.length ≤ 16 := by tb_start
    repeat' (first | kts_caught | (with_reducible refine cmp_inb ?_))
    · rename_i hf
      have hf : false ∈ sh := by simpa using hf
      obtain ⟨ps', pl, hps⟩ := g.last hf
      have hcc := closeB_count hf
      have hsl : (closeB sh).length = sh.length := closeB_len
      have hin' := hin
      rw [hps, List.map_append, List.map_singleton] at hin'
      have hlen : ps'.length ≤ 1000 := by rw [hps] at hpl; simp at hpl; tb_start
      refine idx_neg hin' (by rw [List.length_map]; exact hlen) ?_
      by_cases ho : pl = .opn
      · have kp := kind_opn.mpr ho
        repeat' (first | kts_caught | (with_reducible refine kind_k ?_))
        refine flags_k (prs := [(98, 98)]) A (by simp) ?_
        repeat' kts_caught
        refine b_cat hin (by with_unfolding_all rfl) (newL_f (by unfold Fits; simp; tb_start) ?_)
        repeat' kts_caught
        refine b_cat (by with_unfolding_all rfl) (by with_unfolding_all rfl) (newL_f (by unfold Fits; simp; tb_start) ?_)
        have e : ps.map ptD ++ [.tup [.str (Str.ofString "one"), .lst [.int 98], .lst ((flagsF [(98, 98)]).map .int), .int 4]] ++ [.tup [.str (Str.ofString "close")]] = (ps ++ [litP 98] ++ [Pt.cls]).map ptD := by
          rw [List.map_append, List.map_append]
          rfl
        rw [e]
        repeat' kts_caught
        refine law_shut_k A (by tb_start) hf ?_
        repeat' kts_caught
        have g3 := g.snoc (litP_ok (.inr rfl)).1 (by simp [litP]) ((litP_ok (.inr rfl)).2 _) (fun e => by cases e) g.fed g.kp
        have g4 := g3.snoc (pt := .cls) trivial (by simp) hf (fun _ => by simp [litP]) g.fed g.kp
        exact ih (ps ++ [litP 98] ++ [Pt.cls], closeB sh, _) ⟨by simp; tb_start, by simp only; tb_start, g4, .inr rfl⟩ (by simp only; tb_start)
      · have kp : ¬ kindS pl = Str.ofString "open" := fun e => ho (kind_opn.mp e)
        repeat' (first | kts_caught | (with_reducible refine kind_k ?_))
        refine b_cat hin (by with_unfolding_all rfl) (newL_f (by unfold Fits; simp; tb_start) ?_)
        repeat' kts_caught
        refine b_cat (by with_unfolding_all rfl) (by with_unfolding_all rfl) (newL_f (by unfold Fits; simp; tb_start) ?_)
        have e : ps.map ptD ++ [] ++ [.tup [.str (Str.ofString "close")]] = (ps ++ [Pt.cls]).map ptD := by
          rw [List.map_append, List.append_nil]
          rfl
        rw [e]
        repeat' kts_caught
        refine law_shut_k A (by tb_start) hf ?_
        repeat' kts_caught
        have g4 := g.snoc (pt := .cls) trivial (by simp) hf (fun _ => by rw [hps]; simpa using ho) g.fed g.kp
        exact ih (ps ++ [Pt.cls], closeB sh, _) ⟨by simp; tb_start, by simp only; tb_start, g4, .inr rfl⟩ (by simp only; tb_start)
    · rename_i hf
      have hf : ¬ false ∈ sh := by simpa using hf
      have hall : ∀ b ∈ sh, b = true := fun b hb => by cases b with | true => rfl | false => exact absurd hb hf
      repeat' kts_caught
      refine draw_k A g.fed (by tb_start) ⟨by tb_start, by tb_start⟩ fun u ν1 u0 u1 F1 K1 => ?_
      have hin1 := hit ν1 K1
      repeat' kts_caught
      · repeat' kts_caught
        refine b_cat hin1 rfl (newL_f (by unfold Fits; simp; tb_start) ?_)
        have e : ps.map ptD ++ [.tup [.str (Str.ofString "stop")]] = (ps ++ [Pt.stop]).map ptD := by
          rw [List.map_append]
          rfl
        rw [e]
        repeat' kts_caught
        refine ret_q (q (ps ++ [.stop]) ν1 (wf_snoc (pt := .stop) g.wf (fun p hp => (g.st p hp).2) trivial (fun e => by cases e)) ?_ ?_ (by simp; tb_start) (F1.mono (by tb_start)) (g.kp.trans K1))
        · rw [endSh_snoc, g.en]
          exact hall
        · intro p hp
          rcases List.mem_append.mp hp with hp | hp
          · exact (g.st p hp).1
          · simp only [List.mem_singleton] at hp
            subst hp
            trivial
      · repeat' kts_caught
        refine b_cat hin1 rfl (newL_f (by unfold Fits; simp; tb_start) ?_)
        rw [List.append_nil]
        repeat' kts_caught
        exact ret_q (q ps ν1 g.wf (by rw [g.en]; exact hall) (fun p hp => (g.st p hp).1) (by tb_start) (F1.mono (by tb_start)) (g.kp.trans K1))
end
noncomputable abbrev nOne := Str.ofString "one"
/-- the kinds, told apart -/
theorem idx_quant {μ : Mu} {q : Int} {Q : D → Prop} (h0 : 0 ≤ q) (h4 : q ≤ 4) (k : Q (.lst ((quant q).map .int))) : idxQ μ (.lst [.lst [], .lst [.int 42], .lst [.int 43], .lst [.int 45], .lst [.int 63]]) (.int q) Q := by
  refine idxQ_k (v := .lst ((quant q).map .int)) ?_ k
  rcases (by tb_start : q = 0 ∨ q = 1 ∨ q = 2 ∨ q = 3 ∨ q = 4) with rfl | rfl | rfl | rfl | rfl <;> rfl
section
variable {G : Gx} {P : Params} {n : Nat} {μ : Mu} {Q : D → Mu → Prop} {X : Prop}
theorem signs_k (A : Ax G P) {ps : List Pt} (hs : ∀ p ∈ ps, StOk p) (hl : ps.length ≤ 20) (q : Q (.lst ((sg ps).map .int)) μ) : FS G (n + 1) 322 [.lst (ps.map ptD)] μ Q X := by
  refine f_law_signs_c A ?_
  unfold f_law_signs
  repeat' kts_caught
  refine ⟨_, rfl, ?_⟩
  refine for_loop (ι := List Int × Option D) (fun x => [some (.lst (ps.map ptD)), some (.lst (x.1.map .int)), x.2]) (fun _ => μ)
    (fun ds x => ∃ r : List Pt, ds = r.map ptD ∧ (∀ p ∈ r, StOk p) ∧ x.1 ++ sg r = sg ps ∧ x.1.length + 30 * r.length ≤ 1000) ?_ ?_ _ ([], none) ⟨ps, rfl, hs, rfl, by simp; tb_start⟩
  · rintro d ds ⟨acc, x⟩ ⟨r, hr, hst, hac, hln⟩ W ih
    obtain ⟨p, r, rfl, rfl, rfl⟩ : ∃ p r', r = p :: r' ∧ d = ptD p ∧ ds = r'.map ptD := by
      cases r with
      | nil => cases hr
      | cons p r' => simp only [List.map_cons, List.cons.injEq] at hr; exact ⟨p, r', rfl, hr.1, hr.2⟩
    have st := hst p List.mem_cons_self
    simp only [List.length_cons] at hac hln ih ⊢
    have next : ∀ (l : List Int) (y : Option D), l = p.signs → l.length ≤ 25 → W _ μ := fun l y h1 h2 =>
      ih (acc ++ l, y) ⟨r, rfl, fun p hp => hst p (List.mem_cons_of_mem _ hp), by rw [h1, List.append_assoc]; exact hac, by simp only [List.length_append]; tb_start⟩
    cases p with
    | one g fl qq =>
      obtain ⟨s1, s2, s3, s4, s5, s6, s7⟩ := st
      have hq : (quant qq).length ≤ 1 := by unfold quant; repeat' (first | split | simp)
      repeat' (first | ((with_unfolding_none show pick _ _ _); first | refine pick_rF (by with_unfolding_all rfl) ?_ | refine pick_rT (by with_unfolding_all rfl) ?_) | kts_caught | (with_reducible refine kind_k ?_) | ((with_reducible show idxQ _ (ptD _) (.int _) _); refine idxQ_k (by with_unfolding_all rfl) ?_))
      refine cat_ints (by tb_start) ?_
      repeat' (first | ((with_unfolding_none show pick _ _ _); first | refine pick_rF (by with_unfolding_all rfl) ?_ | refine pick_rT (by with_unfolding_all rfl) ?_) | kts_caught | (with_reducible refine kind_k ?_) | ((with_reducible show idxQ _ (ptD _) (.int _) _); refine idxQ_k (by with_unfolding_all rfl) ?_))
      refine idx_quant s6 s7 ?_
      repeat' kts_caught
      refine cat_ints (by simp only [List.length_append]; tb_start) ?_
      rw [List.append_assoc]
      repeat' kts_caught
      exact next _ _ rfl (by simp only [List.length_append]; tb_start)
    | opn =>
      repeat' (first | ((with_unfolding_none show pick _ _ _); first | refine pick_rF (by with_unfolding_all rfl) ?_ | refine pick_rT (by with_unfolding_all rfl) ?_) | kts_caught | (with_reducible refine kind_k ?_) | ((with_reducible show idxQ _ (ptD _) (.int _) _); refine idxQ_k (by with_unfolding_all rfl) ?_))
      refine cat_ints (b := [40]) (by simp; tb_start) ?_
      repeat' kts_caught
      exact next [40] _ rfl (by simp)
    | cls =>
      repeat' (first | ((with_unfolding_none show pick _ _ _); first | refine pick_rF (by with_unfolding_all rfl) ?_ | refine pick_rT (by with_unfolding_all rfl) ?_) | kts_caught | (with_reducible refine kind_k ?_) | ((with_reducible show idxQ _ (ptD _) (.int _) _); refine idxQ_k (by with_unfolding_all rfl) ?_))
      refine cat_ints (b := [41]) (by simp; tb_start) ?_
      repeat' kts_caught
      exact next [41] _ rfl (by simp)
    | spot =>
      repeat' (first | ((with_unfolding_none show pick _ _ _); first | refine pick_rF (by with_unfolding_all rfl) ?_ | refine pick_rT (by with_unfolding_all rfl) ?_) | kts_caught | (with_reducible refine kind_k ?_) | ((with_reducible show idxQ _ (ptD _) (.int _) _); refine idxQ_k (by with_unfolding_all rfl) ?_))
      refine cat_ints (b := [40, 41]) (by simp; tb_start) ?_
      repeat' kts_caught
      exact next [40, 41] _ rfl (by simp)
    | again k =>
      repeat' (first | ((with_unfolding_none show pick _ _ _); first | refine pick_rF (by with_unfolding_all rfl) ?_ | refine pick_rT (by with_unfolding_all rfl) ?_) | kts_caught | (with_reducible refine kind_k ?_) | ((with_reducible show idxQ _ (ptD _) (.int _) _); refine idxQ_k (by with_unfolding_all rfl) ?_))
      refine cat_ints (b := [37, 49 + k]) (by simp; tb_start) ?_
      repeat' kts_caught
      exact next [37, 49 + k] _ rfl (by simp)
    | pair b e =>
      repeat' (first | ((with_unfolding_none show pick _ _ _); first | refine pick_rF (by with_unfolding_all rfl) ?_ | refine pick_rT (by with_unfolding_all rfl) ?_) | kts_caught | (with_reducible refine kind_k ?_) | ((with_reducible show idxQ _ (ptD _) (.int _) _); refine idxQ_k (by with_unfolding_all rfl) ?_))
      refine cat_ints (b := [37, 98, b, e]) (by simp; tb_start) ?_
      repeat' kts_caught
      exact next [37, 98, b, e] _ rfl (by simp)
    | edge off seg fl =>
      obtain ⟨s1, s2, s3, s4, s5⟩ := st
      repeat' (first | ((with_unfolding_none show pick _ _ _); first | refine pick_rF (by with_unfolding_all rfl) ?_ | refine pick_rT (by with_unfolding_all rfl) ?_) | kts_caught | (with_reducible refine kind_k ?_) | ((with_reducible show idxQ _ (ptD _) (.int _) _); refine idxQ_k (by with_unfolding_all rfl) ?_))
      refine cat_ints (b := [37, 102]) (by simp; tb_start) ?_
      repeat' (first | ((with_unfolding_none show pick _ _ _); first | refine pick_rF (by with_unfolding_all rfl) ?_ | refine pick_rT (by with_unfolding_all rfl) ?_) | kts_caught | (with_reducible refine kind_k ?_) | ((with_reducible show idxQ _ (ptD _) (.int _) _); refine idxQ_k (by with_unfolding_all rfl) ?_))
      refine cat_ints (by simp only [List.length_append, List.length_cons, List.length_nil]; tb_start) ?_
      rw [List.append_assoc]
      repeat' kts_caught
      exact next _ _ rfl (by simp only [List.length_append, List.length_cons, List.length_nil]; tb_start)
    | stop =>
      repeat' (first | ((with_unfolding_none show pick _ _ _); first | refine pick_rF (by with_unfolding_all rfl) ?_ | refine pick_rT (by with_unfolding_all rfl) ?_) | kts_caught | (with_reducible refine kind_k ?_) | ((with_reducible show idxQ _ (ptD _) (.int _) _); refine idxQ_k (by with_unfolding_all rfl) ?_))
      refine cat_ints (b := [36]) (by simp; tb_start) ?_
      repeat' kts_caught
      exact next [36] _ rfl (by simp)
  · rintro ⟨acc, x⟩ ⟨r, hr, hst, hac, hln⟩
    cases r with
    | cons p r => cases hr
    | nil =>
      simp only [sg, List.append_nil] at hac
      simp only [hac]
      repeat' kts_caught
      exact ret_q q
end
theorem rangeL_dn {a b : Int} : rangeL a b (-1) = (List.range (a - b).toNat).map fun (k : Nat) => a - (k : Int) := by
  have e : rangeN a b (-1) = (a - b).toNat := by
    unfold rangeN
    rw [if_neg (by decide)]
    split
    · rw [show -(-1 : Int) = 1 from rfl, Int.ediv_one]; congr 1; tb_start
    · tb_start
  unfold rangeL
  rw [e]
  congr 1
  funext k
  tb_start
theorem down_range : ∀ {m : Nat}, down m = (List.range (m + 1)).map fun (k : Nat) => (m : Int) - (k : Int)
  | 0 => rfl
  | m + 1 => by
    rw [down, down_range, List.range_succ_eq_map (n := m + 1), List.map_cons, List.map_map]
    congr 1
    refine List.map_congr_left fun k hk => ?_
    simp only [Function.comp_apply]
    tb_start
theorem upFrom_range : ∀ {m : Nat} {a : Int}, upFrom a m = (List.range (m + 1)).map fun (k : Nat) => a + (k : Int)
  | 0, a => by simp [upFrom]
  | m + 1, a => by
    rw [upFrom, upFrom_range, List.range_succ_eq_map (n := m + 1), List.map_cons, List.map_map]
    congr 1
    · simp
    · refine List.map_congr_left fun k hk => ?_
      simp only [Function.comp_apply]
      tb_start
theorem cnt0 {m : Nat} : counts 0 m = if 0 < m then [1] else [] := rfl
theorem cnt4 {m : Nat} : counts 4 m = if 0 < m then [1, 0] else [0] := rfl
theorem counts1 {m : Nat} : rangeL (m : Nat) (-1) (-1) = counts 1 m := by
  rw [rangeL_dn, show ((m : Int) - -1).toNat = m + 1 from by tb_start]
  exact down_range.symm
theorem counts2 {m : Nat} : rangeL (m : Nat) 0 (-1) = counts 2 m := by
  rw [rangeL_dn, show ((m : Int) - 0).toNat = m from by tb_start]
  show _ = (match m with | 0 => [] | m + 1 => (down m).map (· + 1))
  cases m with
  | zero => rfl
  | succ m =>
    simp only
    rw [down_range, List.map_map]
    refine List.map_congr_left fun k hk => ?_
    simp only [Function.comp_apply]
    tb_start
theorem counts3 {m : Nat} : rangeL 0 ((m : Nat) + 1) 1 = counts 3 m := by
  rw [rangeL_up, show ((m : Int) + 1 - 0).toNat = m + 1 from by tb_start]
  exact upFrom_range.symm
theorem counts_len {q : Int} {m : Nat} : (counts q m).length ≤ m + 2 := by
  have h1 : ∀ m, (down m).length = m + 1 := fun m => by rw [down_range]; simp
  have h2 : ∀ m a, (upFrom a m).length = m + 1 := fun m a => by rw [upFrom_range]; simp
  unfold counts
  repeat' split
  all_goals simp [h1, h2]
section
variable {G : Gx} {P : Params} {n : Nat} {μ : Mu} {Q : D → Mu → Prop} {X : Prop} {text : List Int}
theorem law_counts_k (A : Ax G P) {g : Sg} {fl : List Int} {qq s : Int} (ht : text.length ≤ 1000) (hk : ∀ x ∈ text, x ∈ knownL) (hf : FlOk fl g) (q0 : 0 ≤ qq) (q4 : qq ≤ 4) (s0 : 0 ≤ s) (s1 : s ≤ text.length)
    (q : Q (.lst ((counts qq (many text g s)).map .int)) μ) : FS G (n + 1) 329 [ptD (.one g fl qq), .bytes text, .int s] μ Q X := by
  have hfit : Fits text.length := by unfold Fits; tb_start
  refine f_law_counts_c A ?_
  unfold f_law_counts
  repeat' kts_caught
  refine vs_whl_loop (ι := Int) (fun i => (many text g s - i : Int).toNat) (fun i => [some (ptD (.one g fl qq)), some (.bytes text), some (.int s), some (.int i), none, none, none]) (fun _ => μ) (fun i => 0 ≤ i ∧ s + i ≤ text.length ∧ i + many text g (s + i) = many text g s) 0 rfl rfl ⟨by tb_start, by tb_start, by simp⟩ ?_
  rintro i ⟨i1, i2, i3⟩ W ihl
  obtain ⟨m1, m2⟩ := many_one (g := g) (by tb_start : 0 ≤ s + i) i2
  have hone : s + i < text.length → oneAt text (s + i) g = fl.contains (text.getD (s + i).toNat 0) := by
    intro h
    unfold oneAt
    rw [if_pos h, hf _ (hk _ (getD_in (by tb_start)))]
  have hno : ¬ s + i < text.length → oneAt text (s + i) g = false := fun h => by unfold oneAt; rw [if_neg h]
  have hmany : (s + i < text.length → fl.contains (text.getD (s + i).toNat 0) = false) → many text g s = i.toNat := by
    intro h
    have : oneAt text (s + i) g = false := by
      by_cases h1 : s + i < text.length
      · rw [hone h1]; exact h h1
      · exact hno h1
    have := m2 this
    tb_start
  have hlen := many_le (g := g) s0 s1
  repeat' (first | kts_caught | ((with_reducible show idxQ _ (ptD _) (.int _) _); refine idxQ_k (by with_unfolding_all rfl) ?_) | (with_reducible refine cmp_in ?_))
  · rename_i hc1 hc2
    obtain ⟨k1, k2⟩ := m1 (by rw [hone hc1]; exact hc2)
    exact ihl (i + 1) ⟨by tb_start, by tb_start, by rw [← i3, k1, show s + (i + 1) = s + i + 1 from by tb_start]; tb_start⟩ (tn_dec (by tb_start) (by tb_start))
  all_goals
    have him := hmany (fun h => by first | assumption | exact absurd h (by assumption))
    rw [him] at q
    obtain ⟨m, rfl⟩ : ∃ m : Nat, i = m := ⟨i.toNat, by tb_start⟩
    rw [Int.toNat_natCast] at q
  all_goals
    have c1 := @counts_len 1 m
    have c2 := @counts_len 2 m
    have c3 := @counts_len 3 m
  all_goals first
    | (rw [show counts qq m = [1] from by rw [‹qq = 0›, cnt0, if_pos (by tb_start)]] at q; exact ret_q q)
    | (rw [show counts qq m = [] from by rw [‹qq = 0›, cnt0, if_neg (by tb_start)]] at q; exact ret_q q)
    | (refine ⟨⟨by tb_start, by tb_start⟩, ⟨by tb_start, by tb_start⟩, rfl, ?_⟩
       repeat' kts_caught
       refine ⟨small_ok (by tb_start) (by tb_start) (.inr rfl), by rw [counts1]; unfold Fits; tb_start, ?_⟩
       rw [counts1]
       repeat' kts_caught
       rw [‹qq = 1›] at q
       exact ret_q q)
    | (refine ⟨⟨by tb_start, by tb_start⟩, ⟨by tb_start, by tb_start⟩, rfl, ?_⟩
       repeat' kts_caught
       refine ⟨small_ok (by tb_start) (by tb_start) (.inr rfl), by rw [counts2]; unfold Fits; tb_start, ?_⟩
       rw [counts2]
       repeat' kts_caught
       rw [‹qq = 2›] at q
       exact ret_q q)
    | (refine ⟨⟨by tb_start, by tb_start⟩, ?_⟩
       repeat' kts_caught
       refine ⟨small_ok (by tb_start) (by tb_start) (.inl rfl), by rw [counts3]; unfold Fits; tb_start, ?_⟩
       rw [counts3]
       repeat' kts_caught
       rw [‹qq = 3›] at q
       exact ret_q q)
    | (rw [show counts qq m = [1, 0] from by rw [show qq = 4 from by tb_start, cnt4, if_pos (by tb_start)]] at q; exact ret_q q)
    | (rw [show counts qq m = [0] from by rw [show qq = 4 from by tb_start, cnt4, if_neg (by tb_start)]] at q; exact ret_q q)
end
/-- a capture as the law keeps it -/
noncomputable def hD (x : Int × Int) : D := .tup [.int x.1, if x.2 = -1 then .none else if x.2 = -2 then .str (Str.ofString "spot") else .int x.2]
section
variable {G : Gx} {P : Params} {n : Nat} {μ : Mu} {Q : D → Mu → Prop} {X : Prop} {text : List Int}
theorem law_balanced_k (A : Ax G P) {s b e : Int} (ht : text.length ≤ 1000) (s0 : 0 ≤ s) (q : Q (optD (balanced text s b e)) μ) : FS G (n + 1) 336 [.bytes text, .int s, .int b, .int e] μ Q X := by
  have hfit : Fits text.length := by unfold Fits; tb_start
  refine f_law_balanced_c A ?_
  unfold f_law_balanced
  unfold balanced at q
  by_cases hb : s < text.length ∧ text.getD s.toNat 0 = b
  · rw [if_pos hb] at q
    obtain ⟨hb1, hb2⟩ := hb
    have nb1 : ¬ (text.length : Int) ≤ s := by tb_start
    repeat' kts_caught
    refine ⟨⟨by tb_start, by tb_start⟩, ⟨by tb_start, by tb_start⟩, ?_⟩
    refine ⟨_, rng_src (by tb_start) (by tb_start), ?_⟩
    refine for_loop (ι := List Int × Int × Int × Option D) (fun x => [some (.bytes text), some (.int s), some (.int b), some (.int e), some (.int x.2.2.1), x.2.2.2, none, none]) (fun _ => μ)
      (fun ds x => At text x.2.1 x.1 ∧ 1 ≤ x.2.2.1 ∧ ds = ((List.range (text.length - x.2.1.toNat)).map fun (k : Nat) => D.int (x.2.1 + (k : Int))) ∧ Q (optD (bal b e x.1 x.2.1 x.2.2.1)) μ) ?_ ?_ _ (text.drop (s.toNat + 1), s + 1, 1, none)
      ⟨⟨by simp only; tb_start, by simp only; tb_start, by simp only; congr 1; tb_start⟩, by simp only; tb_start, by simp only; congr 2; tb_start, q⟩
    · rintro d ds ⟨l, p, dp, x⟩ ⟨hat, hd, hds, q⟩ W ih
      simp only at hat hd hds q ih ⊢
      have hp := hat.pos
      have hlen := hat.len
      cases l with
      | nil =>
        have := hat.nil.2
        rw [show text.length - p.toNat = 0 from by tb_start] at hds
        cases hds
      | cons y r =>
        obtain ⟨a1, a2, a3, a4⟩ := hat.cons
        obtain ⟨k, hk⟩ : ∃ k, text.length - p.toNat = k + 1 := ⟨text.length - p.toNat - 1, by tb_start⟩
        rw [hk, List.range_succ_eq_map, List.map_cons, List.map_map] at hds
        obtain ⟨rfl, rfl⟩ := List.cons.inj hds
        have hz : p + ((0 : Nat) : Int) = p := by tb_start
        rw [hz]
        have hds : (List.range k).map ((fun (k : Nat) => D.int (p + (k : Int))) ∘ Nat.succ) = (List.range (text.length - (p + 1).toNat)).map fun (k : Nat) => D.int (p + 1 + (k : Int)) := by
          rw [show text.length - (p + 1).toNat = k from by tb_start]
          refine List.map_congr_left fun j hj => ?_
          simp only [Function.comp_apply, intD]
          tb_start
        have next : ∀ (dp' : Int) (x' : Option D), 1 ≤ dp' → Q (optD (bal b e r (p + 1) dp')) μ → W _ μ := fun dp' x' h1 h2 =>
          ih (r, p + 1, dp', x') ⟨a3, h1, hds, h2⟩
        simp only [bal] at q
        repeat' kts_caught
        all_goals first
          | (exfalso; tb_start)
          | (rw [if_pos (by tb_start), if_pos (by tb_start)] at q; exact ret_q q)
          | (rw [if_pos (by tb_start), if_neg (by tb_start)] at q; exact next (dp - 1) _ (by tb_start) q)
          | (rw [if_neg (by tb_start), if_pos (by tb_start)] at q; exact next (dp + 1) _ (by tb_start) q)
          | (rw [if_neg (by tb_start), if_neg (by tb_start)] at q; exact next dp _ (by tb_start) q)
    · rintro ⟨l, p, dp, x⟩ ⟨hat, hd, hds, q⟩
      simp only at hat hd hds q ⊢
      have hp := hat.pos
      have hlen := hat.len
      have hp2 : text.length - p.toNat = 0 := by
        have := congrArg List.length hds
        simpa using this.symm
      have hl : l = [] := List.length_eq_zero_iff.mp (by tb_start)
      subst hl
      repeat' kts_caught
      exact ret_q q
  · rw [if_neg hb] at q
    repeat' kts_caught
    all_goals first
      | exact ret_q q
      | (exfalso; tb_start)
theorem law_repeated_k (A : Ax G P) {s : Int} {x : Int × Int} (ht : text.length ≤ 1000) (s0 : 0 ≤ s) (s1 : s ≤ text.length) (hx : x.2 = -2 ∨ (0 ≤ x.2 ∧ 0 ≤ x.1 ∧ x.1 + x.2 ≤ text.length)) (q : Q (optD (repF text s x)) μ) : FS G (n + 1) 343 [.bytes text, .int s, hD x] μ Q X := by
  have hfit : Fits text.length := by unfold Fits; tb_start
  obtain ⟨a, b⟩ := x
  simp only at hx
  refine f_law_repeated_c A ?_
  unfold f_law_repeated
  unfold repF at q
  simp only at q
  rcases hx with rfl | ⟨h1, h2, h3⟩
  · rw [if_pos rfl] at q
    rw [show hD (a, -2) = .tup [.int a, .str (Str.ofString "spot")] from rfl]
    repeat' (first | kts_caught | ((with_reducible show idxQ _ (.tup _) (.int _) _); refine idxQ_k (by with_unfolding_all rfl) ?_))
    all_goals first
      | exact ret_q q
      | (rename_i hc; exact absurd rfl hc)
  · rw [if_neg (by tb_start)] at q
    rw [show hD (a, b) = .tup [.int a, .int b] from by unfold hD; simp only; rw [if_neg (by tb_start), if_neg (by tb_start)]]
    repeat' (first | kts_caught | ((with_reducible show idxQ _ (.tup _) (.int _) _); refine idxQ_k (by with_unfolding_all rfl) ?_))
    all_goals first
      | (rw [if_pos (by assumption)] at q; exact ret_q q)
      | (rw [if_neg (by assumption)] at q; exact ret_q q)
theorem law_on_edge_k (A : Ax G P) {s : Int} {fl : List Int} {g : Sg} (ht : text.length ≤ 1000) (hk : ∀ x ∈ text, x ∈ knownL) (hf : FlOk fl g) (s0 : 0 ≤ s) (s1 : s ≤ text.length) (q : Q (.bool (onEdge text s g)) μ) : FS G (n + 1) 350 [.bytes text, .int s, .lst (fl.map .int)] μ Q X := by
  have hfit : Fits text.length := by unfold Fits; tb_start
  have h0 : fl.contains 0 = g.has 0 := hf 0 (by decide)
  have hh : ∀ i : Int, 0 ≤ i → i < text.length → fl.contains (text.getD i.toNat 0) = g.has (text.getD i.toNat 0) := fun i h1 h2 => hf _ (hk _ (getD_in (by tb_start)))
  refine f_law_on_edge_c A ?_
  unfold f_law_on_edge
  unfold onEdge at q
  have fin : ∀ (a h : Int), fl.contains a = g.has a → fl.contains h = g.has h → (!g.has (if s = 0 then 0 else text.getD (s - 1).toNat 0) && g.has (if s < text.length then text.getD s.toNat 0 else 0)) = (!g.has a && g.has h) →
      ((!fl.contains a) = true → fl.contains h = true → Q (.bool true) μ) ∧ ((!fl.contains a) = true → fl.contains h = false → Q (.bool false) μ) ∧ ((!fl.contains a) = false → Q (.bool false) μ) := by
    intro a h e1 e2 e3
    rw [e3, ← e1, ← e2] at q
    exact ⟨fun h1 h2 => by rw [h1, h2] at q; exact q, fun h1 h2 => by rw [h1, h2] at q; exact q, fun h1 => by rw [h1] at q; exact q⟩
  by_cases e1 : s = 0 <;> by_cases e2 : s < text.length
  · have e3 : ¬ (text.length : Int) ≤ s := by tb_start
    obtain ⟨f1, f2, f3⟩ := fin 0 (text.getD s.toNat 0) h0 (hh s s0 e2) (by rw [if_pos e1, if_pos e2])
    repeat' (first | kts_caught | (with_reducible refine cmp_notin ?_) | (with_reducible refine cmp_in ?_))
    all_goals first
      | exact ret_q (f1 (by assumption) (by assumption))
      | exact ret_q (f2 (by assumption) (by assumption))
      | exact ret_q (f3 (by assumption))
  · have e3 : (text.length : Int) ≤ s := by tb_start
    obtain ⟨f1, f2, f3⟩ := fin 0 0 h0 h0 (by rw [if_pos e1, if_neg e2])
    repeat' (first | kts_caught | (with_reducible refine cmp_notin ?_) | (with_reducible refine cmp_in ?_))
    all_goals first
      | exact ret_q (f1 (by assumption) (by assumption))
      | exact ret_q (f2 (by assumption) (by assumption))
      | exact ret_q (f3 (by assumption))
  · have e3 : ¬ (text.length : Int) ≤ s := by tb_start
    obtain ⟨f1, f2, f3⟩ := fin (text.getD (s - 1).toNat 0) (text.getD s.toNat 0) (hh (s - 1) (by tb_start) (by tb_start)) (hh s s0 e2) (by rw [if_neg e1, if_pos e2])
    repeat' (first | kts_caught | (with_reducible refine cmp_notin ?_) | (with_reducible refine cmp_in ?_))
    all_goals first
      | exact ret_q (f1 (by assumption) (by assumption))
      | exact ret_q (f2 (by assumption) (by assumption))
      | exact ret_q (f3 (by assumption))
  · have e3 : (text.length : Int) ≤ s := by tb_start
    obtain ⟨f1, f2, f3⟩ := fin (text.getD (s - 1).toNat 0) 0 (hh (s - 1) (by tb_start) (by tb_start)) h0 (by rw [if_neg e1, if_neg e2])
    repeat' (first | kts_caught | (with_reducible refine cmp_notin ?_) | (with_reducible refine cmp_in ?_))
    all_goals first
      | exact ret_q (f1 (by assumption) (by assumption))
      | exact ret_q (f2 (by assumption) (by assumption))
      | exact ret_q (f3 (by assumption))
theorem law_told_k (A : Ax G P) {h : Held} {s e : Int} (ht : text.length ≤ 1000) (hok : HOk text h e) (he : e ≤ text.length) (s0 : 0 ≤ s) (se : s ≤ e) (hs : ∀ b ∈ shut h, b = true) (hl : h.length ≤ 100) (q : Q (.lst (toldL text s e h)) μ) : FS G (n + 1) 367 [.lst (h.map hD), .bytes text, .int s, .int e] μ Q X := by
  have hfit : Fits text.length := by unfold Fits; tb_start
  refine f_law_told_c A ?_
  unfold f_law_told
  unfold toldL at q
  repeat' kts_caught
  all_goals rename_i hc
  · have hh : h = [] := by cases h with | nil => rfl | cons a r => cases hc
    subst hh
    rw [if_pos rfl] at q
    repeat' kts_caught
    exact ret_q q
  · have hh : h ≠ [] := by rintro rfl; cases hc
    rw [if_neg hh] at q
    repeat' kts_caught
    refine ⟨_, rfl, ?_⟩
    refine gath_map (f := capD text) ?_ (by simp; tb_start) ?_
    · rintro ⟨a, b⟩ hx k hk
      have hx1 := hok.all _ hx
      have hx2 := hs _ (List.mem_map_of_mem (f := fun x => !openB x) hx)
      unfold openB at hx2
      simp only at hx1 hx2
      have hb1 : b ≠ -1 := by simpa using hx2
      refine stepX_k rfl ?_
      by_cases hb2 : b = -2
      · subst hb2
        rw [show hD (a, -2) = .tup [.int a, .str (Str.ofString "spot")] from rfl]
        rw [show capD text (a, -2) = .int (a + 1) from rfl] at hk
        repeat' (first | kts_caught | ((with_reducible show idxQ _ (.tup _) (.int _) _); refine idxQ_k (by with_unfolding_all rfl) ?_))
        all_goals first
          | exact hk
          | (rename_i hc; exact absurd rfl hc)
      · rw [show hD (a, b) = .tup [.int a, .int b] from by unfold hD; simp only; rw [if_neg hb1, if_neg hb2]]
        rw [show capD text (a, b) = .bytes (cut text a.toNat (a + b).toNat) from if_neg hb2] at hk
        repeat' (first | kts_caught | ((with_reducible show idxQ _ (.tup _) (.int _) _); refine idxQ_k (by with_unfolding_all rfl) ?_))
        exact hk
    · repeat' kts_caught
      exact ret_q q
end
theorem hD_is {x : Int × Int} {Q : Bool → Prop} (q : Q (openB x)) : cmpQ .Is (if x.2 = -1 then D.none else if x.2 = -2 then .str (Str.ofString "spot") else .int x.2) .none Q := by
  refine cmpQ_k (r := openB x) ?_ q
  unfold openB
  by_cases h1 : x.2 = -1
  · rw [if_pos h1, decide_eq_true h1]; rfl
  · rw [if_neg h1, decide_eq_false h1]
    by_cases h2 : x.2 = -2
    · rw [if_pos h2]; rfl
    · rw [if_neg h2]; rfl
theorem hD_0 {μ : Mu} {x : Int × Int} {Q : D → Prop} (q : Q (.int x.1)) : idxQ μ (hD x) (.int 0) Q := idxQ_k rfl q
theorem hD_1 {μ : Mu} {x : Int × Int} {Q : D → Prop} (q : Q (if x.2 = -1 then D.none else if x.2 = -2 then .str (Str.ofString "spot") else .int x.2)) : idxQ μ (hD x) (.int 1) Q := idxQ_k rfl q
theorem idx_held {μ : Mu} {h : Held} {i : Int} {Q : D → Prop} (h0 : 0 ≤ i) (h1 : i < h.length) (hl : h.length ≤ 1000) (q : Q (hD (h.getD i.toNat (0, 0)))) : idxQ μ (.lst (h.map hD)) (.int i) Q := by
  have hk : i.toNat < h.length := by tb_start
  exact idx_lst h0 (by rw [List.length_map]; exact h1) (by unfold Fits; rw [List.length_map]; tb_start) (v := hD (h.getD i.toNat (0, 0))) (by simp [hk]) q
section
variable {G : Gx} {P : Params} {n : Nat} {μ : Mu} {Q : D → Mu → Prop} {X : Prop} {text : List Int}
theorem law_closed_k (A : Ax G P) {h : Held} {s : Int} (hok : HOk text h s) (hf : false ∈ shut h) (hl : h.length ≤ 100) (q : Q (.lst ((closeH h s).map hD)) μ) : FS G (n + 1) 355 [.lst (h.map hD), .int s] μ Q X := by
  obtain ⟨k, hk⟩ : ∃ k, lastBy openB h (0, 0) = some k := by
    unfold shut at hf
    obtain ⟨x, hx, e⟩ := List.mem_map.mp hf
    exact lastBy_some hx (by simpa using e)
  obtain ⟨k1, k2, k3⟩ := lastBy_spec hk
  have hcl : closeH h s = h.set k ((h.getD k (0, 0)).1, s - (h.getD k (0, 0)).1) := by unfold closeH; rw [hk]
  have hm : h.getD k (0, 0) ∈ h := by
    rw [List.getD_eq_getElem?_getD, List.getElem?_eq_getElem k1]
    exact List.getElem_mem k1
  have hx := hok.all _ hm
  obtain ⟨ys, hys⟩ := List.getLast?_eq_some_iff.mp hk
  have e2 : hD ((h.getD k (0, 0)).1, s - (h.getD k (0, 0)).1) = .tup [.int (h.getD k (0, 0)).1, .int (s - (h.getD k (0, 0)).1)] := by
    unfold hD
    simp only
    rw [if_neg (by tb_start), if_neg (by tb_start)]
  rw [hcl, List.map_set, e2, ← set_cut (by rw [List.length_map]; exact k1)] at q
  refine f_law_closed_c A ?_
  unfold f_law_closed
  repeat' (first | kts_caught | (with_reducible refine bi_lenL (by unfold Fits; rw [List.length_map]; tb_start) ?_; rw [List.length_map]))
  refine ⟨⟨by tb_start, by tb_start⟩, ?_⟩
  refine ⟨_, rng_src0 (n := h.length) (by tb_start), ?_⟩
  refine gath_flt (f := fun (k : Nat) => D.int (k : Int)) (p := fun k => openB (h.getD k (0, 0))) ?_ (by simp; tb_start) ?_
  · intro j hj k hk
    have hj := List.mem_range.mp hj
    refine stepX_k rfl ?_
    repeat' (first | kts_caught | (with_reducible refine idx_held (by tb_start) (by tb_start) (by tb_start) ?_) | (with_reducible refine hD_1 ?_) | (with_reducible refine hD_is ?_))
    · rename_i hc
      have hc : openB (h.getD j (0, 0)) = true := hc
      rw [if_pos hc] at hk
      exact hk
    · rename_i hc
      have hc : openB (h.getD j (0, 0)) = false := hc
      rw [if_neg (by rw [hc]; decide)] at hk
      exact hk
  · rw [List.nil_append, hys, List.map_append]
    repeat' kts_caught
    refine idx_neg (d := .int (k : Nat)) rfl (by
      have := congrArg List.length hys
      have h2 := List.length_filter_le (fun k => openB (h.getD k (0, 0))) (List.range h.length)
      simp at this h2 ⊢
      tb_start) ?_
    repeat' kts_caught
    refine slc_items (by intro l hl; cases hl) rfl (by unfold Fits; rw [List.length_map]; tb_start) (by tb_start) (by tb_start) ?_
    repeat' (first | kts_caught | (with_reducible refine idx_held (by tb_start) (by tb_start) (by tb_start) ?_) | (with_reducible refine hD_0 ?_))
    refine b_cat (by with_unfolding_all rfl) (by with_unfolding_all rfl) (newL_f (by unfold Fits; unfold cut; simp; tb_start) ?_)
    repeat' kts_caught
    refine slc_items_from (by intro l hl; cases hl) rfl (by unfold Fits; rw [List.length_map]; tb_start) (by tb_start) (by tb_start) ?_
    repeat' kts_caught
    refine b_cat (by with_unfolding_all rfl) (by with_unfolding_all rfl) (newL_f (by unfold Fits; unfold cut; simp; tb_start) ?_)
    repeat' kts_caught
    exact ret_q q
end
noncomputable def goD : Option (Int × Held) → D
  | none => .none
  | some (e, h) => .tup [.int e, .lst (h.map hD)]
theorem idx_part {μ : Mu} {all : List Pt} {i : Int} {p : Pt} {Q : D → Prop} (h0 : 0 ≤ i) (hp : all[i.toNat]? = some p) (hl : all.length ≤ 100) (q : Q (ptD p)) : idxQ μ (.lst (all.map ptD)) (.int i) Q := by
  have h1 : i.toNat < all.length := (List.getElem?_eq_some_iff.mp hp).1
  exact idx_lst h0 (by rw [List.length_map]; tb_start) (by unfold Fits; rw [List.length_map]; tb_start) (v := ptD p) (by rw [List.getElem?_map, hp]; rfl) q
section
variable {G : Gx} {P : Params} {μ : Mu} {X : Prop} {text : List Int}
theorem law_go_k (A : Ax G P) {all : List Pt} (ha : all.length ≤ 40) (ht : text.length ≤ 1000) (hk : ∀ x ∈ text, x ∈ knownL) : ∀ (ps : List Pt) (n : Nat) (at_ s : Int) (h : Held) (Q : D → Mu → Prop), all.drop at_.toNat = ps → 0 ≤ at_ → at_ ≤ all.length → ps.length + 3 ≤ n → (∀ p ∈ ps, StOk p) → WfP ps (shut h) → HOk text h s → 0 ≤ s → s ≤ text.length → h.length + ps.length ≤ 90 →
    Q (goD (go text ps s h)) μ → FS G n 362 [.lst (all.map ptD), .int at_, .bytes text, .int s, .lst (h.map hD)] μ Q X
  | [], n, at_, s, h, Q, hd, a0, a1, hn, st, w, hok, s0, s1, hl, q => by
    obtain ⟨n, rfl⟩ : ∃ k, n = k + 1 := ⟨n - 1, by tb_start⟩
    have he : at_ = all.length := by
      have := congrArg List.length hd
      rw [List.length_drop] at this
      simp at this
      tb_start
    refine f_law_go_c A ?_
    unfold f_law_go
    repeat' (first | kts_caught | (with_reducible refine bi_lenL (by unfold Fits; rw [List.length_map]; tb_start) ?_; rw [List.length_map]))
    exact ret_q q
  | p :: r, n, at_, s, h, Q, hd, a0, a1, hn, st, w, hok, s0, s1, hl, q => by
    obtain ⟨n, rfl⟩ : ∃ k, n = k + 3 := ⟨n - 3, by tb_start⟩
    have hfit : Fits text.length := by unfold Fits; tb_start
    simp only [List.length_cons] at hn hl
    have hlen := congrArg List.length hd
    rw [List.length_drop, List.length_cons] at hlen
    have hne : ¬ at_ = all.length := by tb_start
    have hget : all[at_.toNat]? = some p := by
      have h1 : (all.drop at_.toNat)[0]? = some p := by rw [hd]; rfl
      rw [List.getElem?_drop] at h1
      exact h1
    have hd' : all.drop (at_ + 1).toNat = r := by
      rw [show (at_ + 1).toNat = at_.toNat + 1 from by tb_start, ← List.tail_drop, hd]
      rfl
    have st0 := st p List.mem_cons_self
    have ih := fun (s' : Int) (h' : Held) (Q' : D → Mu → Prop) => law_go_k A ha ht hk r (n + 2) (at_ + 1) s' h' Q' hd' (by tb_start) (by tb_start) (by tb_start) fun p hp => st p (List.mem_cons_of_mem _ hp)
    refine f_law_go_c A ?_
    unfold f_law_go
    cases p with
    | one g fl qq =>
      obtain ⟨t1, t2, t3, t4, t5, t6, t7⟩ := st0
      obtain ⟨w1, w2, w3, w⟩ := w
      have hm := many_le (g := g) s0 s1
      repeat' (first | ((with_unfolding_none show pick _ _ _); first | refine pick_rF (by with_unfolding_all rfl) ?_ | refine pick_rT (by with_unfolding_all rfl) ?_) | kts_caught | (with_reducible refine bi_lenL (by unfold Fits; rw [List.length_map]; tb_start) ?_; rw [List.length_map]) | (with_reducible refine idx_part (by tb_start) hget (by tb_start) ?_) | (with_reducible refine kind_k ?_) | ((with_reducible show idxQ _ (ptD _) (.int _) _); refine idxQ_k (by with_unfolding_all rfl) ?_))
      refine law_counts_k A ht hk t4 t6 t7 s0 s1 ?_
      refine ⟨_, rfl, ?_⟩
      refine for_loop (ι := Option D × Option D) (fun x => [some (.lst (all.map ptD)), some (.int at_), some (.bytes text), some (.int s), some (.lst (h.map hD)), some (ptD (.one g fl qq)), x.1, x.2, none, none, none, none, none, none, none, none]) (fun _ => μ)
        (fun ds _ => ∃ l : List Int, ds = l.map D.int ∧ (∀ m ∈ l, 0 ≤ m ∧ s + m ≤ text.length) ∧ Q (goD (firstSome (fun m => go text r (s + m) h) l)) μ) ?_ ?_ _ (none, none) ⟨_, rfl, fun m hm' => by have := counts_mem hm'; tb_start, q⟩
      · rintro d ds x ⟨l, hl', hb, q⟩ W ih2
        obtain ⟨m, l, rfl, rfl, rfl⟩ : ∃ m l', l = m :: l' ∧ d = D.int m ∧ ds = l'.map D.int := by
          cases l with
          | nil => cases hl'
          | cons m l' => simp only [List.map_cons, List.cons.injEq] at hl'; exact ⟨m, l', rfl, hl'.1, hl'.2⟩
        have hm1 := hb m List.mem_cons_self
        simp only [firstSome] at q
        repeat' kts_caught
        refine ih (s + m) h _ w (hok.mono (by tb_start)) (by tb_start) (by tb_start) (by tb_start) ?_
        cases hg : go text r (s + m) h with
        | none =>
          rw [hg] at q
          simp only [goD]
          repeat' kts_caught
          exact ih2 (_, _) ⟨l, rfl, fun m hm => hb m (List.mem_cons_of_mem _ hm), q⟩
        | some z =>
          obtain ⟨e, h'⟩ := z
          rw [hg] at q
          simp only [goD] at q ⊢
          repeat' kts_caught
          exact ret_q q
      · rintro x ⟨l, hl', hb, q⟩
        cases l with
        | cons m l => cases hl'
        | nil =>
          repeat' kts_caught
          exact ret_q q
    | opn =>
      obtain ⟨w1, w⟩ := w
      repeat' (first | ((with_unfolding_none show pick _ _ _); first | refine pick_rF (by with_unfolding_all rfl) ?_ | refine pick_rT (by with_unfolding_all rfl) ?_) | kts_caught | (with_reducible refine bi_lenL (by unfold Fits; rw [List.length_map]; tb_start) ?_; rw [List.length_map]) | (with_reducible refine idx_part (by tb_start) hget (by tb_start) ?_) | (with_reducible refine kind_k ?_) | ((with_reducible show idxQ _ (ptD _) (.int _) _); refine idxQ_k (by with_unfolding_all rfl) ?_))
      refine b_cat (by with_unfolding_all rfl) (by with_unfolding_all rfl) (newL_f (by unfold Fits; simp; tb_start) ?_)
      rw [show h.map hD ++ [.tup [.int s, D.none]] = (h ++ [(s, -1)]).map hD from by rw [List.map_append]; rfl]
      repeat' (first | ((with_unfolding_none show pick _ _ _); first | refine pick_rF (by with_unfolding_all rfl) ?_ | refine pick_rT (by with_unfolding_all rfl) ?_) | kts_caught | (with_reducible refine bi_lenL (by unfold Fits; rw [List.length_map]; tb_start) ?_; rw [List.length_map]) | (with_reducible refine idx_part (by tb_start) hget (by tb_start) ?_) | (with_reducible refine kind_k ?_) | ((with_reducible show idxQ _ (ptD _) (.int _) _); refine idxQ_k (by with_unfolding_all rfl) ?_))
      refine ih s (h ++ [(s, -1)]) _ (by rw [shut_snoc]; exact w) (hok.snoc s0 (.inl rfl)) s0 s1 (by simp; tb_start) ?_
      repeat' kts_caught
      exact ret_q q
    | cls =>
      obtain ⟨w1, w⟩ := w
      repeat' (first | ((with_unfolding_none show pick _ _ _); first | refine pick_rF (by with_unfolding_all rfl) ?_ | refine pick_rT (by with_unfolding_all rfl) ?_) | kts_caught | (with_reducible refine bi_lenL (by unfold Fits; rw [List.length_map]; tb_start) ?_; rw [List.length_map]) | (with_reducible refine idx_part (by tb_start) hget (by tb_start) ?_) | (with_reducible refine kind_k ?_) | ((with_reducible show idxQ _ (ptD _) (.int _) _); refine idxQ_k (by with_unfolding_all rfl) ?_))
      refine law_closed_k A hok w1 (by tb_start) ?_
      repeat' (first | ((with_unfolding_none show pick _ _ _); first | refine pick_rF (by with_unfolding_all rfl) ?_ | refine pick_rT (by with_unfolding_all rfl) ?_) | kts_caught | (with_reducible refine bi_lenL (by unfold Fits; rw [List.length_map]; tb_start) ?_; rw [List.length_map]) | (with_reducible refine idx_part (by tb_start) hget (by tb_start) ?_) | (with_reducible refine kind_k ?_) | ((with_reducible show idxQ _ (ptD _) (.int _) _); refine idxQ_k (by with_unfolding_all rfl) ?_))
      refine ih s (closeH h s) _ (by rw [shut_close fun y hy => (hok.all y hy).2.1]; exact w) (hok.close s1) s0 s1 (by rw [closeH_len]; tb_start) ?_
      repeat' kts_caught
      exact ret_q q
    | spot =>
      repeat' (first | ((with_unfolding_none show pick _ _ _); first | refine pick_rF (by with_unfolding_all rfl) ?_ | refine pick_rT (by with_unfolding_all rfl) ?_) | kts_caught | (with_reducible refine bi_lenL (by unfold Fits; rw [List.length_map]; tb_start) ?_; rw [List.length_map]) | (with_reducible refine idx_part (by tb_start) hget (by tb_start) ?_) | (with_reducible refine kind_k ?_) | ((with_reducible show idxQ _ (ptD _) (.int _) _); refine idxQ_k (by with_unfolding_all rfl) ?_))
      refine b_cat (by with_unfolding_all rfl) (by with_unfolding_all rfl) (newL_f (by unfold Fits; simp; tb_start) ?_)
      rw [show h.map hD ++ [.tup [.int s, D.str (Str.ofString "spot")]] = (h ++ [(s, -2)]).map hD from by rw [List.map_append]; rfl]
      repeat' (first | ((with_unfolding_none show pick _ _ _); first | refine pick_rF (by with_unfolding_all rfl) ?_ | refine pick_rT (by with_unfolding_all rfl) ?_) | kts_caught | (with_reducible refine bi_lenL (by unfold Fits; rw [List.length_map]; tb_start) ?_; rw [List.length_map]) | (with_reducible refine idx_part (by tb_start) hget (by tb_start) ?_) | (with_reducible refine kind_k ?_) | ((with_reducible show idxQ _ (ptD _) (.int _) _); refine idxQ_k (by with_unfolding_all rfl) ?_))
      refine ih s (h ++ [(s, -2)]) _ (by rw [shut_snoc]; exact w) (hok.snoc s0 (.inr rfl)) s0 s1 (by simp; tb_start) ?_
      repeat' kts_caught
      exact ret_q q
    | again k =>
      obtain ⟨k0, k8, kl, ks, w⟩ := w
      have hkl : k < h.length := by rw [shut_len] at kl; exact kl
      have hkn : k.toNat < h.length := by tb_start
      have hm : h.getD k.toNat (0, 0) ∈ h := by
        rw [List.getD_eq_getElem?_getD, List.getElem?_eq_getElem hkn]
        exact List.getElem_mem hkn
      have hx := hok.all _ hm
      have hsh : openB (h.getD k.toNat (0, 0)) = false := by
        unfold shut at ks
        simpa [hkn] using ks
      unfold openB at hsh
      have hsh := of_decide_eq_false hsh
      have hxx : (h.getD k.toNat (0, 0)).2 = -2 ∨ (0 ≤ (h.getD k.toNat (0, 0)).2 ∧ 0 ≤ (h.getD k.toNat (0, 0)).1 ∧ (h.getD k.toNat (0, 0)).1 + (h.getD k.toNat (0, 0)).2 ≤ text.length) := by
        rcases hx.2.2 with z | z | z
        · exact absurd z hsh
        · exact .inl z
        · exact .inr ⟨z.1, hx.1, z.2⟩
      repeat' (first | ((with_unfolding_none show pick _ _ _); first | refine pick_rF (by with_unfolding_all rfl) ?_ | refine pick_rT (by with_unfolding_all rfl) ?_) | kts_caught | (with_reducible refine bi_lenL (by unfold Fits; rw [List.length_map]; tb_start) ?_; rw [List.length_map]) | (with_reducible refine idx_part (by tb_start) hget (by tb_start) ?_) | (with_reducible refine kind_k ?_) | ((with_reducible show idxQ _ (ptD _) (.int _) _); refine idxQ_k (by with_unfolding_all rfl) ?_) | (with_reducible refine idx_held (by tb_start) (by tb_start) (by tb_start) ?_))
      refine law_repeated_k A ht s0 s1 hxx ?_
      cases hg : repF text s (h.getD k.toNat (0, 0)) with
      | none =>
        simp only [go_0, go_1, go_2, go_3, go_4, go_5, go_6, go_7, go_8, hg] at q
        simp only [optD]
        repeat' kts_caught
        exact ret_q q
      | some t =>
        simp only [go_0, go_1, go_2, go_3, go_4, go_5, go_6, go_7, go_8, hg] at q
        simp only [optD]
        have ht2 := repF_ge s0 s1 hxx hg
        repeat' kts_caught
        refine ih t h _ w (hok.mono ht2.1) (by tb_start) ht2.2 (by tb_start) ?_
        repeat' kts_caught
        exact ret_q q
    | pair b e =>
      repeat' (first | ((with_unfolding_none show pick _ _ _); first | refine pick_rF (by with_unfolding_all rfl) ?_ | refine pick_rT (by with_unfolding_all rfl) ?_) | kts_caught | (with_reducible refine bi_lenL (by unfold Fits; rw [List.length_map]; tb_start) ?_; rw [List.length_map]) | (with_reducible refine idx_part (by tb_start) hget (by tb_start) ?_) | (with_reducible refine kind_k ?_) | ((with_reducible show idxQ _ (ptD _) (.int _) _); refine idxQ_k (by with_unfolding_all rfl) ?_))
      refine law_balanced_k A ht s0 ?_
      cases hg : balanced text s b e with
      | none =>
        simp only [go_0, go_1, go_2, go_3, go_4, go_5, go_6, go_7, go_8, hg] at q
        simp only [optD]
        repeat' kts_caught
        exact ret_q q
      | some t =>
        simp only [go_0, go_1, go_2, go_3, go_4, go_5, go_6, go_7, go_8, hg] at q
        simp only [optD]
        have ht2 := balanced_ge s0 s1 hg
        repeat' kts_caught
        refine ih t h _ w (hok.mono ht2.1) (by tb_start) ht2.2 (by tb_start) ?_
        repeat' kts_caught
        exact ret_q q
    | edge off seg fl =>
      obtain ⟨t1, t2, t3, t4, t5⟩ := st0
      obtain ⟨w1, w⟩ := w
      repeat' (first | ((with_unfolding_none show pick _ _ _); first | refine pick_rF (by with_unfolding_all rfl) ?_ | refine pick_rT (by with_unfolding_all rfl) ?_) | kts_caught | (with_reducible refine bi_lenL (by unfold Fits; rw [List.length_map]; tb_start) ?_; rw [List.length_map]) | (with_reducible refine idx_part (by tb_start) hget (by tb_start) ?_) | (with_reducible refine kind_k ?_) | ((with_reducible show idxQ _ (ptD _) (.int _) _); refine idxQ_k (by with_unfolding_all rfl) ?_))
      refine law_on_edge_k A ht hk t4 s0 s1 ?_
      cases hg : onEdge text s (.set off seg) with
      | false =>
        simp only [go_0, go_1, go_2, go_3, go_4, go_5, go_6, go_7, go_8, hg] at q
        repeat' kts_caught
        exact ret_q q
      | true =>
        simp only [go_0, go_1, go_2, go_3, go_4, go_5, go_6, go_7, go_8, hg] at q
        repeat' kts_caught
        refine ih s h _ w hok s0 s1 (by tb_start) ?_
        repeat' kts_caught
        exact ret_q q
    | stop =>
      obtain ⟨w1, w⟩ := w
      simp only [go_0, go_1, go_2, go_3, go_4, go_5, go_6, go_7, go_8] at q
      repeat' (first | ((with_unfolding_none show pick _ _ _); first | refine pick_rF (by with_unfolding_all rfl) ?_ | refine pick_rT (by with_unfolding_all rfl) ?_) | kts_caught | (with_reducible refine bi_lenL (by unfold Fits; rw [List.length_map]; tb_start) ?_; rw [List.length_map]) | (with_reducible refine idx_part (by tb_start) hget (by tb_start) ?_) | (with_reducible refine kind_k ?_) | ((with_reducible show idxQ _ (ptD _) (.int _) _); refine idxQ_k (by with_unfolding_all rfl) ?_))
      · rw [if_pos (by assumption)] at q
        refine ih s h _ w hok s0 s1 (by tb_start) ?_
        repeat' kts_caught
        exact ret_q q
      · rw [if_neg (by assumption)] at q
        exact ret_q q
end
section
variable {G : Gx} {N fI : Addr} {fd : FuncData}
/-- except LuaError: behind it only the base heap is known -/
theorem caught (U : LuaAt G N fI fd) {c : Cx} {outer : List Env} (ok : c.Ok) (fn : c.Fun) (w : isGlobal c.sc "LuaError" = true) (hfr : c.A.frames = some (c.env :: outer)) {e : Value} {s : Shared} {b₀ : Stmt} {suite : List Stmt} {np pos : Pos} {Q : Flow → Shared → Prop} {E : Value → Shared → Prop}
    (x : Fly G (c.env :: outer) e s) (k : ∀ (s' : Shared) (E' : Value → Shared → Prop), G.base.StaysIn s'.heap → Same G s' → wpAny (model G.prog G.w) (c.A.mark (some e)) (execs (b₀ :: suite) c.env) Q E' s') :
    wpAny (model G.prog G.w) c.A (noteFrame e c.env) (fun _ s₂ => wpAny (model G.prog G.w) c.A (setFlight e none) (fun _ s₃ => wpAny (model G.prog G.w) c.A (handleBy e c.env [.ExceptHandler (some (.Name "LuaError" np)) none (b₀ :: suite) pos]) Q E s₃) E s₂) E s := by
  obtain ⟨nm, qn, bs, sn, sub, ab, col, dd, k0, k1, k2, k3, k5, hXo⟩ := U.obj
  unfold isGlobal at w
  simp only [Bool.and_eq_true, Bool.not_eq_true', beq_iff_eq] at w
  replace w := And.intro (ok.globs _ w.1) w.2
  refine x.noted hfr fn.frame fun s1 x1 => ?_
  refine x1.flight none fun s2 x2 => ?_
  obtain ⟨a, a0, rfl, h1, h2, h3, h4, h5⟩ := id x2
  obtain ⟨oe, vs, T, oT, ts, he, ⟨hcls, h0⟩, hrest⟩ := h4
  have hC : s2.heap.get? G.X = _ := h1 _ _ (G.KX _ _ hXo)
  refine wpAny_handleBy_cons (codeAny_handlers_test (Name_function_global ok.kind w.1 (loadGlobal_global (by rw [ok.glob]; exact G.T.g.keeps h1) (mg_of G.KX G.T.g U.glob) ?_) w.2)) (by intro q; cases q)
  obtain ⟨hp, g, d, tk, os⟩ := s2
  refine wpAny_excMatches_sub_self hC he hcls (by simp) (codeAny_handlers_suite ?_)
  refine x2.flight none fun s3 x3 => ?_
  obtain ⟨a', a0', e', h1', h2', h3', h4', h5'⟩ := x3
  exact k s3 _ h1' h5'
end
section
variable {G : Gx} {P : Params}
theorem ref_meth (A : Ax G P) {c : Cx} {loc : Loc} {μ : Mu} {F : Led} {s : Shared} {Q : D → Mu → Prop} {X : Prop} (ok : c.Ok) (hsc : c.sc = f_refused_s) (q : wpE (FS G c.n) (MK G c.n) rpF ref_e loc μ Q X) (x : c.Rep G loc μ F s) :
    c.wp G (eval ref_e.ast c.env) (c.Post G loc F Q) X s := by
  obtain ⟨⟨w2, w3⟩, w6, w7, w8, w9, _⟩ := A.F.ref_w rfl A.hC
  rw [← hsc] at w2 w3
  unfold ref_e at q
  have ho : SndE G rpF ref_o := (snd_all repr_ok ref_o).1
  have has : SndA G rpF ref_as := by
    have h1 : ∀ e, Snd G rpF e := snd_all repr_ok
    have h0 : SndS G rpF .nil := ⟨a_nil, b_nil, l_nil⟩
    have hc : ∀ e es, SndS G rpF es → SndS G rpF (.cons e es) := fun e es h => ⟨a_cons (h1 e) h, b_cons (h1 e) h, l_cons (h1 e) h⟩
    exact (hc _ _ (hc _ _ (hc _ _ h0))).1
  refine method_any (o := ref_o.ast) (rfl : attributeBase ref_o.ast "search" c.env (eval ref_o.ast c.env) = eval ref_o.ast c.env) rfl (by decide) (Cx.seq (ho c loc μ F s _ X ok w2 q x) fun ov s' d μ' F' h1 h2 h3 h4 pl => ?_)
  obtain ⟨h4, h5⟩ := h4
  obtain ⟨dx, rfl, k1⟩ := asObj_of h4
  obtain ⟨fs, hl, _⟩ := instC_of k1
  have h3' := h3
  obtain ⟨b, rfl, hb⟩ := (show ∃ x, ov = Value.ref x ∧ (x, instObj G.C dx) ∈ F' from h3)
  obtain ⟨es, n, i1, i2⟩ := lookup_inst h2 hl
  obtain ⟨m', Fm⟩ := h2.view
  refine method_inst Fm G.KX (inst_at h2 hb i1) w9 (beq_iff_eq.mp w6) w7 (i2.miss fun hm => ?_) (callWith_fn w8 ?_)
  · revert hm; decide
  · refine wpAny_mono (has ⟨493,8,493,50⟩ c loc μ' F' s' _ X ok w3 h5 h2) ?_ fun _ _ e => e
    rintro vs s'' ⟨ds, μ'', F'', g1, g2, g3, g4⟩
    obtain ⟨m'', Fm⟩ := g2.view
    have g5 : RVs G F'' (.obj dx :: ds) (.ref b :: vs) := ⟨_, _, rfl, h3'.mono G g1, g3⟩
    exact ⟨G.KX.keeps Fm.keep, wpAny_mono (Cx.callee ok g2 g5 fun R hR H => g4.ok c.A c.stk F'' R s'' _ ok.room hR H g5) (fun _ _ y => Post.weaken (fun p hp => g1 p (h1 p hp)) y) fun _ _ e => e⟩
end
theorem m_init_b {K : Frag} (B : KF K) (s : Shared) (v0 v1 v2 : Value) (X : K.In s.heap) : ∃ tk, BindsTo s (getF? K 112) ⟨[v0, v1, v2], []⟩ ((["self", "text", "pattern", "depth"] : List Str).zip [v0, v1, v2, .int 60 tk]) := by
  obtain ⟨o, fd, h1, h2, o2, items, n, h3, h4, h5, tk, k, h6, h7⟩ := B.m_init_o
  have e : getF? K 112 = fd := by
    unfold getF? getO
    rw [h1]
    simp only [Option.getD_some]
    rw [h2]
  rw [e]
  exact ⟨tk, BindsTo.of_defaults h5 (X _ _ h3) h4 (h7 v0 v1 v2).1 (h7 v0 v1 v2).2⟩
theorem setF_n {μ : Mu} {dx : Addr} {fs : List D} {j : Nat} {v : D} {k : Mu → Prop} (h1 : μ.lookup dx = some (.inst fs)) (hj : fs.length = j) (h7 : j < 7)
    (h : ∀ μ', μ'.lookup dx = some (.inst (fs ++ [v])) → (∀ b, b ≠ dx → μ'.lookup b = μ.lookup b) → k μ') : setF μ (.obj dx) j v k := by
  unfold setF asObj optC instC
  simp only [h1]
  refine ⟨by tb_start, h7, ?_⟩
  rw [if_neg (by tb_start)]
  exact h _ (put_self h1) fun b hb => put_ne hb
section
variable {G : Gx} {P : Params} {n : Nat} {μ : Mu} {Q : D → Mu → Prop} {X : Prop}
theorem mk_c (A : Ax G P) {t p : D} (hwp : ∀ dx, freshMu μ dx → wpSs (FS G n) (MK G n) rpF m_init [some (.obj dx), some t, some p, some (.int 60), none] ((dx, .inst []) :: μ) (retQ fun d μ' => d = .none ∧ Q (.obj dx) μ') X) : MK G (n + 2) [t, p] μ Q X := by
  refine MK_intro (f := 112) (ps := ["self", "text", "pattern", "depth"]) (sc := m_init_s) (body := m_init) (fd := getF? G.K 112) A.hS A.F.m_init_k.d (wf_of A.hC A.F.m_init_k.w) rfl ?_ ?_ ?_ ?_ hwp
  · rw [A.hC]; exact A.F.m_init_mk
  · rw [A.hC]; exact A.F.m_init_fi
  · exact A.F.m_init_ty
  · intro s v0 v1 v2 hX
    exact m_init_b A.F s v0 v1 v2 hX
theorem findI_none {l : List Int} {x : Int} (h : x ∉ l) : findI l x = -1 := by
  unfold findI
  have : l.findIdx? (· == x) = none := by
    rw [List.findIdx?_eq_none_iff]
    intro y hy
    simp only [beq_eq_false_iff_ne, ne_eq]
    rintro rfl
    exact h hy
  rw [this]
theorem bm_find {l : List Int} (hl : Fits l.length) (h0 : 0 ∉ l) (q : Q (.int (-1)) μ) : bmS .find (.bytes l) [.bytes (([0] : List UInt8).map fun u => (u.toNat : Int))] μ Q :=
  ⟨hl, by show Q (.int (findI l 0)) μ; rw [findI_none h0]; exact q⟩
theorem mk_k (A : Ax G P) {text pat : List Int} (hl : Fits pat.length) (h0 : 0 ∉ pat) (q : ∀ dx μ', freshMu μ dx → (∀ b, b ≠ dx → μ.lookup b ≠ none → μ'.lookup b = μ.lookup b) → Mat dx text pat μ' → (∀ a, lc dx μ' = some a → μ.lookup a = none) → Q (.obj dx) μ') : MK G (n + 2) [.bytes text, .bytes pat] μ Q X := by
  refine mk_c A fun dx hdx => ?_
  unfold m_init
  have hμ : List.lookup dx ((dx, Cell.inst []) :: μ) = some (.inst []) := by rw [List.lookup_cons, beq_self_eq_true]
  have hν : ∀ b, b ≠ dx → List.lookup b ((dx, Cell.inst []) :: μ) = μ.lookup b := fun b hb => by rw [List.lookup_cons, beq_false_of_ne hb]
  generalize (dx, Cell.inst []) :: μ = ν at hμ hν
  have hneg : (-1 : Int) < 0 := by decide
  repeat' (first | kts_caught | (refine And.intro (show bmOk _ .find (.bytes _) from trivial) ?_) | (refine bm_find hl h0 ?_))
  refine setF_n hμ rfl (by decide) ?_
  intro μ0 hμ0 hf0
  have hμ0 : μ0.lookup dx = some (.inst [.bytes text]) := hμ0
  repeat' kts_caught
  refine setF_n hμ0 rfl (by decide) ?_
  intro μ1 hμ1 hf1
  have hμ1 : μ1.lookup dx = some (.inst [.bytes text, .bytes pat]) := hμ1
  repeat' kts_caught
  refine setF_n hμ1 rfl (by decide) ?_
  intro μ2 hμ2 hf2
  have hμ2 : μ2.lookup dx = some (.inst [.bytes text, .bytes pat, .int 60]) := hμ2
  repeat' kts_caught
  refine setF_n hμ2 rfl (by decide) ?_
  intro μ3 hμ3 hf3
  have hμ3 : μ3.lookup dx = some (.inst [.bytes text, .bytes pat, .int 60, .int 0]) := hμ3
  repeat' kts_caught
  refine setF_n hμ3 rfl (by decide) ?_
  intro μ4 hμ4 hf4
  have hμ4 : μ4.lookup dx = some (.inst [.bytes text, .bytes pat, .int 60, .int 0, .int 0]) := hμ4
  repeat' kts_caught
  refine setF_n hμ4 rfl (by decide) ?_
  intro μ5 hμ5 hf5
  have hμ5 : μ5.lookup dx = some (.inst [.bytes text, .bytes pat, .int 60, .int 0, .int 0, .lst []]) := hμ5
  repeat' kts_caught
  refine newL_t (by unfold Fits; decide) fun a ha => ?_
  repeat' kts_caught
  have hne : a ≠ dx := by rintro rfl; have := fresh_none ha; rw [this] at hμ5; cases hμ5
  have hμ6 : List.lookup dx ((a, Cell.lst []) :: μ5) = some (.inst [.bytes text, .bytes pat, .int 60, .int 0, .int 0, .lst []]) := (by rw [List.lookup_cons, beq_false_of_ne (Ne.symm hne)]; exact hμ5)
  repeat' kts_caught
  refine setF_n hμ6 rfl (by decide) ?_
  intro μ7 hμ7 hf7
  have hμ7 : μ7.lookup dx = some (.inst [.bytes text, .bytes pat, .int 60, .int 0, .int 0, .lst [], .cel a]) := hμ7
  repeat' kts_caught
  have hb : ∀ b, b ≠ dx → μ5.lookup b = μ.lookup b := fun b hb => ((((((hf5 b hb).trans (hf4 b hb)).trans (hf3 b hb)).trans (hf2 b hb)).trans (hf1 b hb)).trans (hf0 b hb)).trans (hν b hb)
  refine next_q ⟨rfl, q dx μ7 hdx (fun b hbd hbn => ?_) ⟨_, _, _, _, hμ7⟩ fun x hx => ?_⟩
  · have : b ≠ a := by
      rintro rfl
      rw [← hb b hbd] at hbn
      exact hbn (fresh_none ha)
    rw [hf7 b hbd, List.lookup_cons, beq_false_of_ne this]
    exact hb b hbd
  · have e : lc dx μ7 = some a := by unfold lc; rw [hμ7]; rfl
    rw [e] at hx
    cases hx
    rw [← hb a hne]
    exact fresh_none ha
end
theorem gath_inv {step : D → Mu → (Option D → Mu → Prop) → Prop} {Q : D → Mu → Prop} (P : List D → List D → Mu → Prop)
    (h : ∀ d ds acc μ k, P (d :: ds) acc μ → (∀ v μ', P ds (acc ++ [v]) μ' → k (some v) μ') → step d μ k) (h0 : ∀ acc μ, P [] acc μ → Q (.lst acc) μ) (hf : ∀ ds acc μ, P ds acc μ → acc.length ≤ 1000) :
    ∀ ds acc μ, P ds acc μ → gath step ds acc μ Q
  | [], acc, μ, hp => ⟨by have := hf _ _ _ hp; unfold Fits; tb_start, h0 _ _ hp⟩
  | d :: ds, acc, μ, hp => ⟨by have := hf _ _ _ hp; unfold Fits; tb_start, h d ds acc μ _ hp fun v μ' hp' => gath_inv P h h0 hf ds _ _ hp'⟩
theorem sg_oct : ∀ {ps : List Pt} {sh : List Bool}, (∀ p ∈ ps, StOk p) → WfP ps sh → (∀ x ∈ sg ps, 1 ≤ x ∧ x < 256) ∧ (sg ps).length ≤ 30 * ps.length
  | [], _, _, _ => ⟨(fun x hx => by cases hx), Nat.le_refl _⟩
  | p :: r, sh, hs, w => by
    have st := hs p List.mem_cons_self
    have wr : ∃ sh', WfP r sh' := by
      cases p <;> simp only [wf_1, wf_2, wf_3, wf_4, wf_5, wf_6, wf_7, wf_8] at w
      · exact ⟨_, w.2.2.2⟩
      · exact ⟨_, w.2⟩
      · exact ⟨_, w.2⟩
      · exact ⟨_, w⟩
      · exact ⟨_, w.2.2.2.2⟩
      · exact ⟨_, w⟩
      · exact ⟨_, w.2⟩
      · exact ⟨_, w.2⟩
    obtain ⟨sh', wr⟩ := wr
    obtain ⟨h1, h2⟩ := sg_oct (fun q hq => hs q (List.mem_cons_of_mem _ hq)) wr
    have key : (∀ x ∈ p.signs, 1 ≤ x ∧ x < 256) ∧ p.signs.length ≤ 30 := by
      cases p with
      | one g fl q =>
        obtain ⟨s1, s2, s3, s4, s5, s6, s7⟩ := st
        have hq : (quant q).length ≤ 1 ∧ ∀ x ∈ quant q, 1 ≤ x ∧ x < 256 := by
          rcases (by tb_start : q = 0 ∨ q = 1 ∨ q = 2 ∨ q = 3 ∨ q = 4) with rfl | rfl | rfl | rfl | rfl <;> decide
        refine ⟨fun x hx => ?_, by simp only [Pt.signs, List.length_append]; tb_start⟩
        rcases List.mem_append.mp hx with hx | hx
        · exact s2 x hx
        · exact hq.2 x hx
      | opn => decide
      | cls => decide
      | spot => decide
      | again k =>
        simp only [wf_1, wf_2, wf_3, wf_4, wf_5, wf_6, wf_7, wf_8] at w
        refine ⟨fun x hx => ?_, by simp [Pt.signs]⟩
        simp only [Pt.signs, List.mem_cons, List.not_mem_nil, or_false] at hx
        rcases hx with rfl | rfl <;> tb_start
      | pair b e =>
        obtain ⟨s1, s2, s3, s4⟩ := st
        refine ⟨fun x hx => ?_, by simp [Pt.signs]⟩
        simp only [Pt.signs, List.mem_cons, List.not_mem_nil, or_false] at hx
        rcases hx with rfl | rfl | rfl | rfl <;> tb_start
      | edge off seg fl =>
        obtain ⟨s1, s2, s3, s4, s5⟩ := st
        refine ⟨fun x hx => ?_, by simp only [Pt.signs, List.length_cons]; tb_start⟩
        rcases List.mem_cons.mp hx with rfl | hx
        · tb_start
        rcases List.mem_cons.mp hx with rfl | hx
        · tb_start
        exact s2 x hx
      | stop => decide
    refine ⟨fun x hx => ?_, by simp only [sg, List.length_append, List.length_cons]; tb_start⟩
    rcases List.mem_append.mp hx with hx | hx
    · exact key.1 x hx
    · exact h1 x hx
noncomputable def dueD (text : List Int) : Option (Int × Int × Held) → D
  | none => .none
  | some (s, e, h) => .tup [.int s, .int e, .lst (toldL text s e h)]
section
variable {G : Gx} {P : Params} {n : Nat} {μ : Mu} {X : Prop}
theorem bi_repr {rp : D → Str} {d : D} {Q : D → Mu → Prop} (h : rpOk d) (q : Q (.str (rp d)) μ) : biS rp .repr [d] μ Q := ⟨h, q⟩
theorem told_leaf {text : List Int} {s e : Int} {h : Held} (ht : text.length ≤ 6) (s0 : 0 ≤ s) (se : s ≤ e) (he : e ≤ text.length) (hok : HOk text h e) (hl : h.length ≤ 20) : rpOk (.tup [.int s, .int e, .lst (toldL text s e h)]) := by
  have hc : ∀ a b, (cut text a b).length ≤ 64 := fun a b => by have := cut_len_le (l := text) (a := a) (b := b); tb_start
  refine ⟨⟨by tb_start, by tb_start⟩, ⟨by tb_start, by tb_start⟩, ?_, ?_⟩
  · unfold toldL
    split
    · simp
    · rw [List.length_map]; tb_start
  · intro d hd
    unfold toldL at hd
    split at hd
    · simp only [List.mem_singleton] at hd
      subst hd
      exact hc _ _
    · obtain ⟨x, hx, rfl⟩ := List.mem_map.mp hd
      have := hok.all x hx
      unfold capD
      split
      · exact ⟨by tb_start, by tb_start⟩
      · exact hc _ _
theorem bi_int_k {Q : D → Mu → Prop} {b : Bool} (q : Q (.int (if b then 1 else 0)) μ) : biS rpF .int [.bool b] μ Q := q
theorem law_pre (A : Ax G P) {ns : List Int} {R : Out → Loc → Mu → Prop} (hn : ns.length ≤ 1000) (hq : ∀ text c loc μ', (∀ x ∈ text, x ∈ knownL) → text.length ≤ 6 → loc[3]? = some (some (.bytes text)) → loc[2]? = some (some (.cel c)) → loc[14]? = some (some (.lst (bads.map .bytes))) → Fed c 1000 μ' → R .next loc μ') :
    wpSs (FS G (n + 100)) (MK G (n + 100)) rpF lawPre [some (.lst (ns.map .int)), none, none, none, none, none, none, none, none, none, none, none, none, none, none, none, none, none, none, none, none, none, none, none, none, none, none, none] [] R X := by
  -- the numbers
  repeat' kts_caught
  refine slc_items (by intro l hl; cases hl) rfl (by unfold Fits; rw [List.length_map]; tb_start) (by tb_start) (by tb_start) ?_
  rw [cutI]
  refine ⟨_, rfl, ?_⟩
  refine gath_map (f := fun i : Int => D.int (i.natAbs : Nat)) ?_ (by simp; tb_start) ?_
  · intro o ho k hk
    refine stepX_k rfl ?_
    repeat' kts_caught
    exact hk
  rw [List.nil_append, show (ns.take (24 : Int).toNat).map (fun i : Int => D.int (i.natAbs : Nat)) = ((ns.take (24 : Int).toNat).map fun i => ((i.natAbs : Nat) : Int)).map D.int from by rw [List.map_map]; rfl]
  have hnl : ((ns.take (24 : Int).toNat).map fun i => ((i.natAbs : Nat) : Int)).length ≤ 24 := by simp; tb_start
  generalize ((ns.take (24 : Int).toNat).map fun i => ((i.natAbs : Nat) : Int)) = nums at hnl
  repeat' kts_caught
  refine (show biS rpF .sum [.lst (nums.map .int)] _ _ from ?_)
  show optQ (intsOf (nums.map D.int)) _
  rw [intsOf_map]
  refine ⟨by rw [List.length_map]; tb_start, ?_⟩
  repeat' kts_caught
  refine ⟨by tb_start, ⟨by tb_start, by tb_start⟩, ?_⟩
  repeat' kts_caught
  refine newL_t (by unfold Fits; simp) fun c hc => ?_
  have F0 : Fed c 0 [(c, Cell.lst [.lst (nums.map .int), .int 0, .int (nums.sum % 97)])] := ⟨nums, 0, nums.sum % 97, by rw [List.lookup_cons, beq_self_eq_true], hnl, Int.le_refl _, Int.le_refl _⟩
  generalize hμ0 : [(c, Cell.lst [.lst (nums.map .int), .int 0, .int (nums.sum % 97)])] = μ0 at F0
  -- the text
  repeat' kts_caught
  refine draw_k A F0 (by tb_start) ⟨by tb_start, by tb_start⟩ fun m μ1 m0 m1 F1 K1 => ?_
  repeat' kts_caught
  refine ⟨⟨by tb_start, by tb_start⟩, ?_⟩
  refine ⟨_, rng_src (a := 0) (b := m) (by tb_start) (by tb_start), ?_⟩
  refine gath_inv (fun ds acc μ' => ∃ l : List Int, acc = l.map D.int ∧ (∀ x ∈ l, x ∈ knownL) ∧ l.length + ds.length ≤ 6 ∧ Fed c (7 - (ds.length : Nat)) μ') ?_ ?_ ?_ _ [] μ1 ⟨[], rfl, (fun x hx => by cases hx), by simp; tb_start, F1.mono (by simp; tb_start)⟩
  · rintro d ds acc μ' k ⟨l, rfl, h1, h2, h3⟩ hk
    simp only [List.length_cons] at h2 h3
    refine stepX_k rfl ?_
    repeat' kts_caught
    refine draw_k A h3 (by tb_start) ⟨by tb_start, by tb_start⟩ fun v μ2 v0 v1 F2 K2 => ?_
    repeat' kts_caught
    refine idx_lit knownL v0 v1 (by unfold Fits; decide) fun x hx => ?_
    refine hk _ _ ⟨l ++ [x], by rw [List.map_append]; rfl, ?_, by simp; tb_start, F2.mono (by tb_start)⟩
    intro y hy
    rcases List.mem_append.mp hy with hy | hy
    · exact h1 y hy
    · simp only [List.mem_singleton] at hy
      subst hy
      exact hx
  rotate_left
  · rintro ds acc μ' ⟨l, rfl, h1, h2, h3⟩
    rw [List.length_map]
    tb_start
  rintro acc μ2 ⟨text, rfl, htk, htl, F2⟩
  have F2 := F2.mono (B' := 7) (by simp)
  simp only [List.length_nil] at htl
  have ht6 : text.length ≤ 6 := by tb_start
  have hfit : Fits text.length := by unfold Fits; tb_start
  have htoct : ∀ x ∈ text, 0 ≤ x ∧ x < 256 := by
    have key : ∀ x ∈ knownL, 0 ≤ x ∧ x < 256 := by decide
    exact fun x hx => key x (htk x hx)
  repeat' kts_caught
  show optQ (intsOf (text.map D.int)) _
  rw [intsOf_map]
  refine ⟨htoct, hfit, ?_⟩
  repeat' kts_caught
  refine draw_k A F2 (by tb_start) ⟨by tb_start, by tb_start⟩ fun begin μ3 b0 b1 F3 K3 => ?_
  repeat' kts_caught
  refine draw_k A F3 (by tb_start) ⟨by tb_start, by tb_start⟩ fun v μ4 v0 v1 F4 K4 => ?_
  repeat' kts_caught
  generalize decide (v = 0) = bd
  -- the parts
  refine parts_k A F4 (by tb_start) fun ps μ5 wf hsh hst hpl F5 K5 => ?_
  obtain ⟨hso, hsl⟩ := sg_oct hst wf
  have pre : ∀ bd : Bool, ∃ pat : List Int, (if bd then [D.int 94] else []) ++ (sg ps).map .int = pat.map .int ∧ At pat (if bd then 1 else 0) (sg ps) ∧ (∀ x ∈ pat, 1 ≤ x ∧ x < 256) ∧ pat.length ≤ 700 := by
    intro bd
    cases bd with
    | true =>
      refine ⟨94 :: sg ps, rfl, ⟨by decide, by simp; tb_start, rfl⟩, fun x hx => ?_, by simp; tb_start⟩
      rcases List.mem_cons.mp hx with rfl | hx
      · tb_start
      · exact hso x hx
    | false => exact ⟨sg ps, rfl, ⟨by decide, by simp, rfl⟩, hso, by tb_start⟩
  obtain ⟨pat, hpat, hat, hpo, hpl7⟩ := pre bd
  have hfp : Fits pat.length := by unfold Fits; tb_start
  have hoct : ∀ x ∈ pat, 0 ≤ x ∧ x < 256 := fun x hx => by have := hpo x hx; tb_start
  have h0p : 0 ∉ pat := fun h => by have := hpo 0 h; tb_start
  have hres : ∀ s e h, seek text ps begin (turns text begin bd) = some (s, e, h) → 0 ≤ s ∧ s ≤ e ∧ e ≤ text.length ∧ HOk text h e ∧ (∀ x ∈ shut h, x = true) ∧ h.length ≤ 20 := by
    have key : ∀ (k : Nat) (s0 s e : Int) (h : Held), 0 ≤ s0 → s0 + k ≤ text.length + 1 → seek text ps s0 k = some (s, e, h) → 0 ≤ s ∧ s ≤ e ∧ e ≤ text.length ∧ HOk text h e ∧ (∀ x ∈ shut h, x = true) ∧ h.length ≤ 20 := by
      intro k
      induction k with
      | zero => intro s0 s e h _ _ hk; cases hk
      | succ k ih =>
        intro s0 s e h h0 h1 hk
        simp only [seek] at hk
        split at hk
        · rename_i e' h' hg
          simp only [Option.some.injEq, Prod.mk.injEq] at hk
          obtain ⟨rfl, rfl, rfl⟩ := hk
          have ok0 : HOk text [] s0 := ⟨fun x hx => by cases hx⟩
          obtain ⟨g1, g2, g3⟩ := go_ok wf ok0 h0 (by tb_start) hg
          obtain ⟨g4, g5⟩ := go_shut wf ok0 h0 (by tb_start) hg
          refine ⟨h0, g1, g2, g3, ?_, by simp at g5; tb_start⟩
          rw [g4]
          exact hsh
        · exact ih (s0 + 1) s e h (by tb_start) (by tb_start) hk
    intro s e h hk
    refine key _ begin s e h b0 ?_ hk
    unfold turns
    split <;> tb_start
  generalize hR : seek text ps begin (turns text begin bd) = Res at hres
  cases bd
  all_goals
    repeat' kts_caught
    refine signs_k A hst hpl ?_
    repeat' kts_caught
    refine b_cat (by with_unfolding_all rfl) (by with_unfolding_all rfl) (newL_f (by unfold Fits; simp; tb_start) ?_)
    simp only [if_true, Bool.false_eq_true, if_false] at hpat hat
    rw [hpat]
    repeat' kts_caught
    show optQ (intsOf (pat.map D.int)) _
    rw [intsOf_map]
    refine ⟨hoct, hfp, ?_⟩
    repeat' kts_caught
    refine mk_k (n := n + 98) A hfp h0p fun dx μ6 hdx hk6 hm6 hl6 => ?_
    have hcd : c ≠ dx := by
      obtain ⟨nm, kk, sd, z1, z2⟩ := F5
      rintro rfl
      rw [fresh_none hdx] at z1
      cases z1
    have F6 : Fed c 70 μ6 := by
      obtain ⟨nm, kk, sd, z1, z2, z3, z4⟩ := F5
      exact ⟨nm, kk, sd, by rw [hk6 c hcd (by rw [z1]; simp)]; exact z1, z2, z3, by tb_start⟩
    have hlc : lc dx μ6 ≠ some c := by
      intro e
      obtain ⟨nm, kk, sd, z1, z2⟩ := F5
      rw [hl6 c e] at z1
      cases z1
    repeat' kts_caught
  · have htu : (text.length + 1 - begin : Int).toNat = turns text begin false := by simp only [turns]; simp
    refine ⟨⟨by tb_start, by tb_start⟩, ⟨by tb_start, by tb_start⟩, ?_⟩
    refine ⟨_, rng_src (by tb_start) (by tb_start), ?_⟩
    rw [htu]
    have htle : begin + turns text begin false ≤ text.length + 1 := by rw [← htu]; tb_start
    refine for_loop (ι := Option (Int × Int × Held) × Option D × Option D)
      (fun x => [some (.lst (ns.map .int)), some (.lst (nums.map .int)), some (.cel c), some (.bytes text), some (.int begin), some (.bool false), some (.lst (ps.map ptD)), some (.bytes pat), some (.obj dx), some (dueD text x.1), x.2.1, x.2.2, none, none, none, none, none, none, none, none, none, none, none, none, none, none, none, none]) (fun _ => μ6)
      (fun ds x => ∃ (s : Int) (k : Nat), ds = ((List.range k).map fun (j : Nat) => D.int (s + (j : Int))) ∧ begin ≤ s ∧ s + k ≤ text.length + 1 ∧ ((x.1 = none ∧ seek text ps s k = Res) ∨ (x.1 ≠ none ∧ x.1 = Res))) ?_ ?_ _ (none, none, none)
      ⟨begin, _, rfl, Int.le_refl _, htle, .inl ⟨rfl, hR⟩⟩
    · rintro d ds ⟨z, x10, x11⟩ ⟨s, k, hds, hbs, hsk, hz⟩ W ih
      simp only at hz ih ⊢
      cases k with
      | zero => cases hds
      | succ k =>
        rw [List.range_succ_eq_map, List.map_cons, List.map_map] at hds
        obtain ⟨rfl, rfl⟩ := List.cons.inj hds
        have hs0 : s + ((0 : Nat) : Int) = s := by tb_start
        rw [hs0]
        have hds2 : (List.range k).map ((fun (j : Nat) => D.int (s + (j : Int))) ∘ Nat.succ) = (List.range k).map fun (j : Nat) => D.int (s + 1 + (j : Int)) := by
          refine List.map_congr_left fun j hj => ?_
          simp only [Function.comp_apply, intD]
          tb_start
        rcases hz with ⟨rfl, hz⟩ | ⟨hz1, hz2⟩
        · repeat' (first | kts_caught | (refine cmpQ_k (r := true) rfl ?_))
          refine law_go_k A (by tb_start) (by tb_start) htk ps (n + 100) 0 s [] _ rfl (by tb_start) (by tb_start) (by tb_start) hst wf ⟨fun x hx => by cases hx⟩ (by tb_start) (by tb_start) (by simp; tb_start) ?_
          simp only [seek] at hz
          cases hg : go text ps s [] with
          | none =>
            rw [hg] at hz
            simp only [goD]
            repeat' kts_caught
            exact ih (none, _, _) ⟨s + 1, k, hds2, by tb_start, by tb_start, .inl ⟨rfl, hz⟩⟩
          | some y =>
            obtain ⟨e, h⟩ := y
            rw [hg] at hz
            simp only [goD]
            have ok0 : HOk text [] s := ⟨fun x hx => by cases hx⟩
            obtain ⟨g1, g2, g3⟩ := go_ok wf ok0 (by tb_start) (by tb_start) hg
            obtain ⟨g4, g5⟩ := go_shut wf ok0 (by tb_start) (by tb_start) hg
            repeat' (first | kts_caught | ((with_reducible show idxQ _ (.tup _) (.int _) _); refine idxQ_k (by with_unfolding_all rfl) ?_))
            refine law_told_k A (by tb_start) g3 g2 (by tb_start) g1 (by rw [g4]; exact hsh) (by simp at g5; tb_start) ?_
            repeat' kts_caught
            exact ih (some (s, e, h), _, _) ⟨s + 1, k, hds2, by tb_start, by tb_start, .inr ⟨by simp, hz⟩⟩
        · obtain ⟨y, rfl⟩ : ∃ y, z = some y := by cases z with | none => exact absurd rfl hz1 | some y => exact ⟨y, rfl⟩
          obtain ⟨y1, y2, y3⟩ := y
          simp only [dueD]
          repeat' kts_caught
          exact ih (some (y1, y2, y3), _, _) ⟨s + 1, k, hds2, by tb_start, by tb_start, .inr ⟨by simp, hz2⟩⟩
    · rintro ⟨z, x10, x11⟩ ⟨s, k, hds, hbs, hsk, hz⟩
      have hk0 : k = 0 := by
        have := congrArg List.length hds
        simpa using this.symm
      subst hk0
      have hz : z = Res := by
        rcases hz with ⟨h1, h2⟩ | ⟨h1, h2⟩
        · simp only [seek] at h2
          exact h1.trans h2
        · exact h2
      subst hz
      have hiI : isInst μ6 (.obj dx) := by
        obtain ⟨d1, l1, s1, z1, h1⟩ := hm6
        exact isInst_k h1
      repeat' (first | kts_caught | (refine And.intro hiI ?_) | (with_reducible refine bi_int_k ?_))
      refine search_k (n := n + 100) (p := 0) (b := false) A hfp hfit hoct (by tb_start) hat wf (by tb_start) b0 (by tb_start) hm6 fun μ7 hf7 => ?_
      rw [hR]
      have F7 : Fed c 70 μ7 := by
        obtain ⟨nm, kk, sd, z1, z2⟩ := F6
        exact ⟨nm, kk, sd, (hf7 c _ hcd hlc z1).1, z2⟩
      refine ⟨fun hr => ?_, fun s' e' h' hr S7 => ?_⟩
      · subst hr
        simp only [dueD]
        repeat' kts_caught
        refine bi_repr trivial ?_
        repeat' kts_caught
        refine bi_repr trivial ?_
        repeat' kts_caught
        all_goals first | exact hq text c _ μ7 htk ht6 rfl rfl rfl (F7.mono (by tb_start)) | (rename_i hc; exact absurd rfl hc)
      · subst hr
        obtain ⟨r1, r2, r3, r4, r5, r6⟩ := hres s' e' h' rfl
        simp only [dueD]
        have hiI7 : isInst μ7 (.obj dx) := by
          obtain ⟨a1, st1, le1, M1⟩ := id S7
          exact isInst_k M1.ob
        repeat' (first | kts_caught | ((with_reducible show idxQ _ (.tup _) (.int _) _); refine idxQ_k (by with_unfolding_all rfl) ?_) | (refine And.intro hiI7 ?_))
        refine captures_k (n := n + 98) A S7 hfit r4 r1 r2 r3 r5 (by tb_start) ?_
        have hrp := told_leaf ht6 r1 r2 r3 r4 r6
        repeat' kts_caught
        refine bi_repr hrp ?_
        repeat' kts_caught
        refine bi_repr hrp ?_
        repeat' kts_caught
        all_goals first | exact hq text c _ μ7 htk ht6 rfl rfl rfl (F7.mono (by tb_start)) | (rename_i hc; exact absurd rfl hc)
  · have htu : (begin + 1 - begin : Int).toNat = turns text begin true := by simp only [turns, if_true]; tb_start
    refine ⟨⟨by tb_start, by tb_start⟩, ⟨by tb_start, by tb_start⟩, ?_⟩
    refine ⟨_, rng_src (by tb_start) (by tb_start), ?_⟩
    rw [htu]
    have htle : begin + turns text begin true ≤ text.length + 1 := by rw [← htu]; tb_start
    refine for_loop (ι := Option (Int × Int × Held) × Option D × Option D)
      (fun x => [some (.lst (ns.map .int)), some (.lst (nums.map .int)), some (.cel c), some (.bytes text), some (.int begin), some (.bool true), some (.lst (ps.map ptD)), some (.bytes pat), some (.obj dx), some (dueD text x.1), x.2.1, x.2.2, none, none, none, none, none, none, none, none, none, none, none, none, none, none, none, none]) (fun _ => μ6)
      (fun ds x => ∃ (s : Int) (k : Nat), ds = ((List.range k).map fun (j : Nat) => D.int (s + (j : Int))) ∧ begin ≤ s ∧ s + k ≤ text.length + 1 ∧ ((x.1 = none ∧ seek text ps s k = Res) ∨ (x.1 ≠ none ∧ x.1 = Res))) ?_ ?_ _ (none, none, none)
      ⟨begin, _, rfl, Int.le_refl _, htle, .inl ⟨rfl, hR⟩⟩
    · rintro d ds ⟨z, x10, x11⟩ ⟨s, k, hds, hbs, hsk, hz⟩ W ih
      simp only at hz ih ⊢
      cases k with
      | zero => cases hds
      | succ k =>
        rw [List.range_succ_eq_map, List.map_cons, List.map_map] at hds
        obtain ⟨rfl, rfl⟩ := List.cons.inj hds
        have hs0 : s + ((0 : Nat) : Int) = s := by tb_start
        rw [hs0]
        have hds2 : (List.range k).map ((fun (j : Nat) => D.int (s + (j : Int))) ∘ Nat.succ) = (List.range k).map fun (j : Nat) => D.int (s + 1 + (j : Int)) := by
          refine List.map_congr_left fun j hj => ?_
          simp only [Function.comp_apply, intD]
          tb_start
        rcases hz with ⟨rfl, hz⟩ | ⟨hz1, hz2⟩
        · repeat' (first | kts_caught | (refine cmpQ_k (r := true) rfl ?_))
          refine law_go_k A (by tb_start) (by tb_start) htk ps (n + 100) 0 s [] _ rfl (by tb_start) (by tb_start) (by tb_start) hst wf ⟨fun x hx => by cases hx⟩ (by tb_start) (by tb_start) (by simp; tb_start) ?_
          simp only [seek] at hz
          cases hg : go text ps s [] with
          | none =>
            rw [hg] at hz
            simp only [goD]
            repeat' kts_caught
            exact ih (none, _, _) ⟨s + 1, k, hds2, by tb_start, by tb_start, .inl ⟨rfl, hz⟩⟩
          | some y =>
            obtain ⟨e, h⟩ := y
            rw [hg] at hz
            simp only [goD]
            have ok0 : HOk text [] s := ⟨fun x hx => by cases hx⟩
            obtain ⟨g1, g2, g3⟩ := go_ok wf ok0 (by tb_start) (by tb_start) hg
            obtain ⟨g4, g5⟩ := go_shut wf ok0 (by tb_start) (by tb_start) hg
            repeat' (first | kts_caught | ((with_reducible show idxQ _ (.tup _) (.int _) _); refine idxQ_k (by with_unfolding_all rfl) ?_))
            refine law_told_k A (by tb_start) g3 g2 (by tb_start) g1 (by rw [g4]; exact hsh) (by simp at g5; tb_start) ?_
            repeat' kts_caught
            exact ih (some (s, e, h), _, _) ⟨s + 1, k, hds2, by tb_start, by tb_start, .inr ⟨by simp, hz⟩⟩
        · obtain ⟨y, rfl⟩ : ∃ y, z = some y := by cases z with | none => exact absurd rfl hz1 | some y => exact ⟨y, rfl⟩
          obtain ⟨y1, y2, y3⟩ := y
          simp only [dueD]
          repeat' kts_caught
          exact ih (some (y1, y2, y3), _, _) ⟨s + 1, k, hds2, by tb_start, by tb_start, .inr ⟨by simp, hz2⟩⟩
    · rintro ⟨z, x10, x11⟩ ⟨s, k, hds, hbs, hsk, hz⟩
      have hk0 : k = 0 := by
        have := congrArg List.length hds
        simpa using this.symm
      subst hk0
      have hz : z = Res := by
        rcases hz with ⟨h1, h2⟩ | ⟨h1, h2⟩
        · simp only [seek] at h2
          exact h1.trans h2
        · exact h2
      subst hz
      have hiI : isInst μ6 (.obj dx) := by
        obtain ⟨d1, l1, s1, z1, h1⟩ := hm6
        exact isInst_k h1
      repeat' (first | kts_caught | (refine And.intro hiI ?_) | (with_reducible refine bi_int_k ?_))
      refine search_k (n := n + 100) (p := 1) (b := true) A hfp hfit hoct (by tb_start) hat wf (by tb_start) b0 (by tb_start) hm6 fun μ7 hf7 => ?_
      rw [hR]
      have F7 : Fed c 70 μ7 := by
        obtain ⟨nm, kk, sd, z1, z2⟩ := F6
        exact ⟨nm, kk, sd, (hf7 c _ hcd hlc z1).1, z2⟩
      refine ⟨fun hr => ?_, fun s' e' h' hr S7 => ?_⟩
      · subst hr
        simp only [dueD]
        repeat' kts_caught
        refine bi_repr trivial ?_
        repeat' kts_caught
        refine bi_repr trivial ?_
        repeat' kts_caught
        all_goals first | exact hq text c _ μ7 htk ht6 rfl rfl rfl (F7.mono (by tb_start)) | (rename_i hc; exact absurd rfl hc)
      · subst hr
        obtain ⟨r1, r2, r3, r4, r5, r6⟩ := hres s' e' h' rfl
        simp only [dueD]
        have hiI7 : isInst μ7 (.obj dx) := by
          obtain ⟨a1, st1, le1, M1⟩ := id S7
          exact isInst_k M1.ob
        repeat' (first | kts_caught | ((with_reducible show idxQ _ (.tup _) (.int _) _); refine idxQ_k (by with_unfolding_all rfl) ?_) | (refine And.intro hiI7 ?_))
        refine captures_k (n := n + 98) A S7 hfit r4 r1 r2 r3 r5 (by tb_start) ?_
        have hrp := told_leaf ht6 r1 r2 r3 r4 r6
        repeat' kts_caught
        refine bi_repr hrp ?_
        repeat' kts_caught
        refine bi_repr hrp ?_
        repeat' kts_caught
        all_goals first | exact hq text c _ μ7 htk ht6 rfl rfl rfl (F7.mono (by tb_start)) | (rename_i hc; exact absurd rfl hc)
end
section
variable {G : Gx} {P : Params} {N fI : Addr} {fd : FuncData}
theorem bads_ok : ∀ b ∈ bads, 0 ∉ b ∧ b.length ≤ 3 := by decide
theorem ref_wp (A : Ax G P) {n : Nat} {text bad : List Int} {μ : Mu} (hn : 30 ≤ n) (ht : text.length ≤ 6) (hb : bad ∈ bads) : wpE (FS G n) (MK G n) rpF ref_e (locOf f_refused_s [.bytes text, .bytes bad]) μ (fun _ _ => False) True := by
  obtain ⟨n, rfl⟩ : ∃ k, n = k + 30 := ⟨n - 30, by omega⟩
  obtain ⟨b1, b2⟩ := bads_ok bad hb
  have hfb : Fits bad.length := by unfold Fits; omega
  unfold ref_e ref_o ref_as
  show wpE (FS G (n + 30)) (MK G (n + 30)) rpF _ [some (.bytes text), some (.bytes bad), none, none] μ (fun _ _ => False) True
  repeat' kts_caught
  refine mk_k (n := n + 28) A hfb b1 fun dx μ' _ _ hm _ => ?_
  obtain ⟨d, l, s, z, hμ⟩ := id hm
  refine ⟨isInst_k hμ, ?_⟩
  repeat' kts_caught
  exact search_bad (n := n + 9) A hfb (by unfold Fits; omega) hm hb trivial
theorem refused_k (U : LuaAt G N fI fd) (A : Ax G P) {A' : Around} {stk : List Env} {F R : Led} {s : Shared} {μ : Mu} {vs : List Value} {text bad : List Int} {n : Nat} (room : Room A' stk (n + 1)) (hn : 30 ≤ n) (hst : StkIn R stk) (x : HRep G μ F R s) (hr : RVs G F [.bytes text, .bytes bad] vs)
    (ht : text.length ≤ 6) (hb : bad ∈ bads) {RR : Result → Shared → Prop} (k : ∀ s', G.base.StaysIn s'.heap → Same G s' → RR (.ok (.ret (.bool true))) s') : codeAny (model G.prog G.w) A' (.call (.ref 374) ⟨vs, []⟩) RR s := by
  obtain ⟨_, _, _, _, _, w⟩ := A.F.ref_w rfl A.hC
  have fa : FnAtL G.K 374 ["text", "pattern"] f_refused_s ref_body (getF? G.K 374) := A.F.f_refused_at
  refine enterL (X := False) fa rfl room hst x hr (BindsTo.of_eq (b_of2 A.F.f_refused_b vs (by rw [hr.length]; rfl))) (fun c s' ok fn hsc hcn hstk hR hfr rep => ?_) fun _ _ h => h.elim
  have hwp := ref_wp A (n := c.n) (μ := μ) (by omega) ht hb
  have hm := ref_meth A ok hsc hwp rep
  refine wpAny_execs_cons (wpAny_Try_except (wpAny_execs_cons (wpAny_Expr_any (wpAny_mono hm (fun v s'' h => ?_) (fun e s'' h => ?_)) ?_ ?_)))
  · obtain ⟨_, _, _, _, _, _, h⟩ := h
    exact h.elim
  · refine caught U ok fn (by rw [hsc]; exact w) hfr ?_ fun s3 E' h1 h2 => ?_
    · rw [← hstk]
      exact h.2
    · refine wpAny_execs_cons (wpAny_Return_some (wpAny_Constant_bool ?_))
      exact k s3 h1 h2
  · unfold interactive; rw [ok.kind]; rfl
  · exact swaps_false rfl
end
section
variable {G : Gx} {rp : D → Str}
theorem st_all (hE : ∀ e, Snd G rp e) (hraise : RaiseOk G) (huse : UseOk G rp) (st : S) : SndSt G rp st :=
  S.rec (motive_1 := SndSt G rp) (motive_2 := SndSs G rp)
    (fun _ _ => s_ret hE) (fun _ _ _ _ _ => s_asg hE) (fun _ _ _ _ _ => fun c loc μ F s Q X ok fn w q x => huse c _ _ _ _ _ loc μ F s Q X ok fn w q x) (fun _ _ _ _ _ => s_asgT hE)
    (fun _ _ _ _ _ => s_seta hE) (fun _ _ _ _ _ => s_seti hE) (fun _ _ _ _ _ _ => s_aug hE) (fun _ _ _ _ _ _ => s_auga hE)
    (fun _ _ _ _ hb ho => s_ite hE hb ho) (fun _ _ _ hb => s_whl hE hb) (fun _ _ _ _ _ _ hb => s_loop hE hb)
    (fun l k pl px pc p => fun c loc μ F s Q X ok fn w q x => by
      simp only [wpS] at q
      have w : isGlobal c.sc "LuaError" = true := w
      exact hraise c loc μ F s _ X l k pl px pc p ok fn w x q)
    (fun _ => s_cont hE) (fun _ _ => s_exp hE)
    (ss_nil hE) (fun _ _ hs hr => ss_cons hE hs hr) st
/-- statements, and what stands behind them -/
theorem execs_pre (hSt : ∀ st : S, SndSt G rp st) {c : Cx} (ok : c.Ok) (fn : c.Fun) {rest : List Stmt} {Q : Out → Loc → Mu → Prop} {RR : Flow → Shared → Prop} {E : Value → Shared → Prop} (hQ : ∀ o loc μ, Q o loc μ → o = .next) : ∀ (ss : Ss) (loc : Loc) (μ : Mu) (F : Led) (s : Shared), ss.wf G.kc c.sc = true →
    wpSs (FS G c.n) (MK G c.n) rp ss loc μ Q False → c.Rep G loc μ F s → (∀ loc' μ' F' s', (∀ p ∈ F, p ∈ F') → c.Rep G loc' μ' F' s' → Q .next loc' μ' → wpAny (model G.prog G.w) c.A (execs rest c.env) RR E s') →
    wpAny (model G.prog G.w) c.A (execs (ss.ast ++ rest) c.env) RR E s
  | .nil, loc, μ, F, s, w, q, x, k => by
    simp only [wpSs] at q
    exact k loc μ F s (fun _ h => h) x q
  | .cons st r, loc, μ, F, s, w, q, x, k => by
    simp only [wpSs] at q
    simp only [wfSs_cons, Bool.and_eq_true] at w
    simp only [Ss.ast, List.cons_append]
    refine wpAny_execs_cons (wpAny_mono (hSt st c loc μ F s _ False ok fn w.1 q x) ?_ fun _ _ e => e.1.elim)
    intro f s' h
    cases f with
    | next =>
      obtain ⟨loc2, μ2, F2, h1, h2, h3⟩ := h
      exact execs_pre hSt ok fn hQ r loc2 μ2 F2 s' w.2 h3 h2 fun loc' μ' F' s' g1 g2 g3 => k loc' μ' F' s' (fun p hp => g1 p (h1 p hp)) g2 g3
    | cont => obtain ⟨loc2, μ2, F2, h1, h2, h3⟩ := h; cases hQ _ _ _ h3
    | brk => exact h.elim
    | ret v => obtain ⟨loc2, μ2, F2, d, h1, h2, h4, h3⟩ := h; cases hQ _ _ _ h3
end
theorem law_ast : f_law.ast = lawPre.ast ++ [law_last.ast] := rfl
section
variable {G : Gx} {P : Params} {N fI : Addr} {fd : FuncData}
theorem law_top (U : LuaAt G N fI fd) (A : Ax G P) (hSt : ∀ st : S, SndSt G rpF st) {A' : Around} {stk : List Env} {R : Led} {s : Shared} {v : Value} {ns : List Int} (room : Room A' stk 200) (hst : StkIn R stk) (x : HRep G [] [] R s) (hr : RV G [] (.lst (ns.map .int)) v) (hn : ns.length ≤ 1000)
    {RR : Result → Shared → Prop} (k : ∀ s', G.base.StaysIn s'.heap → Same G s' → RR (.ok (.ret (.bool true))) s') : codeAny (model G.prog G.w) A' (.call (.ref 379) ⟨[v], []⟩) RR s := by
  obtain ⟨w1, w2, w3, w4, w5⟩ := A.F.law_w rfl A.hC
  have fa : FnAtL G.K 379 ["script"] f_law_s f_law.ast (getF? G.K 379) := by
    have h := A.F.f_law_k.d
    exact ⟨h.ex, h.scope, h.body, h.closure, h.globals, h.builtins, h.code, h.ok⟩
  refine enterL (X := False) (n := 199) (ds := [.lst (ns.map .int)]) fa rfl room hst x ⟨_, _, rfl, hr, rfl⟩ (BindsTo.of_eq (A.F.f_law_k.b v)) (fun c s' ok fn hsc hcn hstk hR hfr rep => ?_) fun _ _ h => h.elim
  rw [law_ast]
  rw [← hsc] at w1 w2 w5
  let Qn : Out → Loc → Mu → Prop := fun o loc μ => o = .next ∧ ∃ text ca, text.length ≤ 6 ∧ loc[3]? = some (some (.bytes text)) ∧ loc[2]? = some (some (.cel ca)) ∧ loc[14]? = some (some (.lst (bads.map .bytes))) ∧ Fed ca 1000 μ
  have hpre : wpSs (FS G c.n) (MK G c.n) rpF lawPre (locOf f_law_s [.lst (ns.map .int)]) [] Qn False := by
    rw [hcn]
    exact law_pre (n := 99) A hn fun text ca loc μ' h1 h2 h3 h4 h5 h6 => ⟨rfl, text, ca, h2, h3, h4, h5, h6⟩
  refine execs_pre hSt ok fn (Q := Qn) (fun o loc μ h => h.1) lawPre _ _ _ _ w1 hpre rep fun loc' μ' F' s2 g1 g2 g3 => ?_
  obtain ⟨_, text, ca, t6, l3, l2, l14, F6⟩ := g3
  have h1 : ∀ e, Snd G rpF e := snd_all repr_ok
  have h0 : SndS G rpF .nil := ⟨a_nil, b_nil, l_nil⟩
  have hc : ∀ e es, SndS G rpF es → SndS G rpF (.cons e es) := fun e es h => ⟨a_cons (h1 e) h, b_cons (h1 e) h, l_cons (h1 e) h⟩
  have has : SndA G rpF law_as := (hc _ _ (hc _ _ h0)).1
  have hwp : wpEs (FS G c.n) (MK G c.n) rpF law_as loc' μ' (fun ds _ => ∃ bad, bad ∈ bads ∧ ds = [.bytes text, .bytes bad]) False := by
    rw [hcn]
    unfold law_as
    show getV loc' 3 _
    refine getV_k l3 ?_
    show getV loc' 14 _
    refine getV_k l14 ?_
    show getV loc' 2 _
    refine getV_k l2 ?_
    refine Rg.mk ?_
    refine draw_k (n := 198) A F6 (by omega) ⟨by omega, by omega⟩ fun v μ2 v0 v1 _ _ => ?_
    have hb : (bads.map D.bytes)[v.toNat]? = some (.bytes (bads.getD v.toNat [])) := by
      rw [List.getElem?_map, List.getElem?_eq_getElem (show v.toNat < bads.length from by show v.toNat < 10; omega)]
      simp [List.getD_eq_getElem?_getD, show v.toNat < bads.length from by show v.toNat < 10; omega]
    refine Rg.mk ?_
    refine idx_lst v0 (by show v < ((10 : Nat) : Int); omega) (by unfold Fits; decide) hb ⟨_, ?_, rfl⟩
    rw [List.getD_eq_getElem?_getD, List.getElem?_eq_getElem (show v.toNat < bads.length from by show v.toNat < 10; omega)]
    exact List.getElem_mem _
  refine wpAny_execs_cons (wpAny_Return_some (Call_Name rfl (glob_name ok g2 w2 w3 (callWith_fn w4 ?_))))
  refine wpAny_mono (has ⟨514,11,514,55⟩ c loc' μ' F' s2 _ False ok w5 hwp g2) ?_ fun _ _ e => e.1.elim
  rintro vs s3 ⟨ds, μ3, F3, f1, f2, f3, bad, f4, rfl⟩
  obtain ⟨m, Fm⟩ := f2.view
  refine ⟨G.KX.keeps Fm.keep, ?_⟩
  obtain ⟨m, oL, es, ep, clo, Fm, ho, hd', hk, hf, hl, H⟩ := f2.toH
  have room2 : Room c.A c.stk (198 + 1) := by have := ok.room; rw [hcn] at this; exact this
  refine wpAny_call (refused_k U A (n := 198) room2 (by decide) ?_ H f3 t6 f4 fun s4 q1 q2 => k s4 q1 q2)
  intro e he
  obtain ⟨h1, L, h2, h3⟩ := ok.own e he
  refine ⟨h1, L, ?_⟩
  rcases h3 with rfl | ⟨o, h3, h4⟩
  · exact ⟨oL, h2, List.mem_cons_self, fun vs q => by rw [hd'] at q; cases q⟩
  · exact ⟨o, h2, List.mem_cons_of_mem _ (List.mem_append_right _ h3), h4⟩
end
noncomputable def mkG (prog : Program) (w : World) (p : Program) (s₁ : Shared) {loose : List Str} {mean : ExcName → Option Value} {mg mb : Str → Option Value} (hg : s₁.gens = #[]) {K : Frag} (B : KF K) (KX : K.In s₁.heap) (T : Top p loose mean mg mb s₁.heap) : Gx where
  prog := prog
  w := w
  K := K
  base := s₁.heap
  p := p
  loose := loose
  mean := mean
  mg := mg
  mb := mb
  s₀ := s₁
  C := 246
  X := 31
  T := T
  KX := KX
  gens0 := hg
  hget := B.kget
  hdict := B.kdict
  hfind := B.kfind
  hset := B.kset
  hover := B.kover
  htake := B.ktake
theorem lua_at {G : Gx} {K : Frag} (B : KF K) (hK : G.K = K) (hX : G.X = 31) : LuaAt G 30 28 (getF? K 28) := by
  cases G; dsimp only at hK hX; subst hK hX
  exact ⟨B.lua_obj, B.lua_glob, B.lua_keep, B.lua_nsok, B.lua_init, B.lua_sa, B.lua_value, B.lua_trace, ⟨_, _, B.lua_fn⟩, B.lua_scope, B.lua_body, B.lua_closure, B.lua_globals, B.lua_builtins, B.lua_code, B.lua_bind⟩
theorem ax_mk {G : Gx} {P : Params} (B : KF G.K) (hC : G.C = 246) (hX : G.X = 31) : Ax G P := ⟨B, hC, fun ss => sss_all (snd_all repr_ok) (raise_ok (lua_at B rfl hX)) (use_ok (snd_all repr_ok)) ss⟩
theorem head_call {prog : Program} {w : World} {p : Program} {s₁ : Shared} {loose : List Str} {mean : ExcName → Option Value} {mg mb : Str → Option Value} (hg : s₁.gens = #[]) {K : Frag} (B : KF K) (KX : K.In s₁.heap) (T : Top p loose mean mg mb s₁.heap)
    {fa : Addr} (hmg : mg "law" = some (.ref fa)) {a : Addr} {vs : List Value} {ns : List Int} (hL : s₁.heap.IsList a vs.toArray) (hI : IntsAre vs ns) (hdn : ∀ o, s₁.heap.get? a = some o → o.dict = none) (hn : ¬ (63 : Int) < (ns.length : Nat)) {Q E : Value → Shared → Prop}
    (k : ∀ s', s₁.heap.StaysIn s'.heap → s'.gens = s₁.gens → s'.os = s₁.os → Q (.bool true) s') : wpAny (model prog w) callerA (call (.ref fa) [.ref a]) Q E s₁ := by
  let G := mkG prog w p s₁ hg B KX T
  have := mg_of KX T.g B.law_fa
  rw [hmg] at this
  cases this
  have A : Ax G w.params := ax_mk B rfl rfl
  refine wpAny_call (law_top (G := G) (ns := ns) (stk := []) (R := []) (lua_at B rfl rfl) A (st_all (snd_all repr_ok) (raise_ok (lua_at B rfl rfl)) (use_ok (snd_all repr_ok))) ?_ ?_ ?_ ?_ (by omega) fun s' h1 h2 => k s' h1 h2.gens h2.os)
  · exact ⟨rfl, rfl, rfl, by decide, by decide⟩
  · intro e he; cases he
  · exact ⟨⟨[], (fun p hp => by cases hp), List.nodup_nil, rfl⟩, fun b o h => h, Nat.le_refl _, ⟨rfl, rfl, rfl⟩⟩
  · obtain ⟨o, ho, hc, n, hd'⟩ := hL
    refine ⟨a, o, vs.toArray, n, rfl, .inl ho, ⟨hc, hdn o ho⟩, hd', ?_⟩
    show RVs G [] (ns.map .int) vs
    clear hd' hn
    induction hI with
    | nil => rfl
    | cons i t _ ih => exact ⟨_, _, rfl, ⟨t, rfl⟩, ih⟩
set_option Elab.async false
theorem well_nodict {P : Params} {h : Heap} {a : Addr} {xs : List WData} (W : Well P h (.ref a) (.list xs)) : ∀ o, h.get? a = some o → o.dict = none := by
  intro o ho
  cases W with
  | list h1 _ => rw [h1] at ho; cases ho; rfl
/-! names that the head would give to the twins of its own lists: taken, so that it goes on without them (their proofs are long) -/
noncomputable def hx.tw5868276339966791202 : Unit := ()
noncomputable def hx.tw6893509615905794137 : Unit := ()
noncomputable def hx.tw17039554997033918745 : Unit := ()
noncomputable def hx.tw5475121884238830786 : Unit := ()
noncomputable def hx.tw12468477851486761982 : Unit := ()
noncomputable def hx.tw9734231803939806538 : Unit := ()
noncomputable def hx.tw13029801759683785737 : Unit := ()
noncomputable def hx.tw4243029026289960068 : Unit := ()
noncomputable def hx.tw6337366422487416338 : Unit := ()
noncomputable def hx.tw15218934651202870132 : Unit := ()
noncomputable def hx.tw9997993543297172673 : Unit := ()
noncomputable def hx.tw9274210203733589373 : Unit := ()
noncomputable def hx.tw17478428059220288493 : Unit := ()
noncomputable def hx.tw6897596897191844616 : Unit := ()
noncomputable def hx.tw7492030116529166354 : Unit := ()
noncomputable def hx.tw8462949007004437653 : Unit := ()
noncomputable def hx.tw1011593914326734453 : Unit := ()
noncomputable def hx.tw10704556739469484813 : Unit := ()
noncomputable def hx.tw18089692255105195637 : Unit := ()
noncomputable def hx.tw5060404574720663952 : Unit := ()
noncomputable def hx.tw17871362266857658384 : Unit := ()
noncomputable def hx.tw13970432741380693950 : Unit := ()
noncomputable def hx.tw12991532671812350252 : Unit := ()
noncomputable def hx.tw9661119599188179355 : Unit := ()
noncomputable def hx.tw6606756905067185206 : Unit := ()
noncomputable def hx.tw7117039502732272165 : Unit := ()
noncomputable def hx.tw13100434611214814302 : Unit := ()
noncomputable def hx.tw11516083673652718094 : Unit := ()
noncomputable def hx.tw767136082746918875 : Unit := ()
noncomputable def hx.tw16447564128994577934 : Unit := ()
noncomputable def hx.tw2786521351924353169 : Unit := ()
noncomputable def hx.tw11576060578404032109 : Unit := ()
noncomputable def hx.tw2927320300579833983 : Unit := ()
noncomputable def hx.tw12247584602314355929 : Unit := ()
noncomputable def hx.tw4643808109359329299 : Unit := ()
noncomputable def hx.tw6905475023927656221 : Unit := ()
noncomputable def hx.tw10147221347258369205 : Unit := ()
noncomputable def hx.tw3011061140052219710 : Unit := ()
noncomputable def hx.tw6951225809539125009 : Unit := ()
noncomputable def hx.tw16131195338128503568 : Unit := ()
noncomputable def hx.tw5012581791309765258 : Unit := ()
noncomputable def hx.tw432897219053493142 : Unit := ()
noncomputable def hx.tw8210334511716523686 : Unit := ()
noncomputable def hx.tw3064612590093021604 : Unit := ()
noncomputable def hx.tw10872142100059809350 : Unit := ()
noncomputable def hx.tw12377959399836290067 : Unit := ()
noncomputable def hx.tw18436102530548493083 : Unit := ()
noncomputable def hx.tw7445733027249461639 : Unit := ()
noncomputable def hx.tw15871474243252748558 : Unit := ()
noncomputable def hx.tw15192764956840726322 : Unit := ()
noncomputable def hx.tw11542809368468670571 : Unit := ()
noncomputable def hx.tw16562810249119712046 : Unit := ()
noncomputable def hx.tw16044307587897543647 : Unit := ()
noncomputable def hx.tw10793050097425451903 : Unit := ()
noncomputable def hx.tw2618490190428073017 : Unit := ()
noncomputable def hx.tw17393156024033759196 : Unit := ()
noncomputable def hx.tw829882407734958542 : Unit := ()
noncomputable def hx.tw9975269523818592724 : Unit := ()
noncomputable def hx.tw2101144305115712416 : Unit := ()
noncomputable def hx.tw558561146864003076 : Unit := ()
noncomputable def hx.tw3221206007101484751 : Unit := ()
noncomputable def hx.tw15890461587552314789 : Unit := ()
noncomputable def hx.tw9071423850677124175 : Unit := ()
noncomputable def hx.tw2533170188022924913 : Unit := ()
noncomputable def hx.tw3864814513713628098 : Unit := ()
noncomputable def hx.tw16179723595558240676 : Unit := ()
noncomputable def hx.tw663216957817655072 : Unit := ()
noncomputable def hx.tw10089113472772384774 : Unit := ()
noncomputable def hx.tw1890682559011639224 : Unit := ()
noncomputable def hx.tw8383832312975943185 : Unit := ()
noncomputable def hx.tw4232555702244796835 : Unit := ()
noncomputable def hx.tw17967490135107311282 : Unit := ()
noncomputable def hx.tw12203261482158421150 : Unit := ()
noncomputable def hx.tw10939141181510983603 : Unit := ()
noncomputable def hx.tw14653772343310069545 : Unit := ()
noncomputable def hx.tw10783175264176337430 : Unit := ()
noncomputable def hx.tw6150637109426312374 : Unit := ()
noncomputable def hx.tw4003515419551643288 : Unit := ()
noncomputable def hx.tw10116244012155279326 : Unit := ()
noncomputable def hx.tw16929762562273154506 : Unit := ()
noncomputable def hx.tw16422446190411312259 : Unit := ()
noncomputable def hx.tw1972047601138287618 : Unit := ()
noncomputable def hx.tw12531592957024129060 : Unit := ()
noncomputable def hx.tw6987332734749810786 : Unit := ()
noncomputable def hx.tw1980247363165879429 : Unit := ()
noncomputable def hx.tw8280520150143245440 : Unit := ()
noncomputable def hx.tw7822962280082496512 : Unit := ()
noncomputable def hx.tw16617463825281310940 : Unit := ()
noncomputable def hx.tw9160301636639237467 : Unit := ()
noncomputable def hx.tw13994185481600150508 : Unit := ()
noncomputable def hx.tw3502533989761060701 : Unit := ()
noncomputable def hx.tw576899675763343441 : Unit := ()
noncomputable def hx.tw3840107357115572158 : Unit := ()
noncomputable def hx.tw9876159777357936899 : Unit := ()
noncomputable def hx.tw811370354263480444 : Unit := ()
noncomputable def hx.tw17809212181156274236 : Unit := ()
noncomputable def hx.tw16514233136784977297 : Unit := ()
noncomputable def hx.tw14626987222883238387 : Unit := ()
noncomputable def hx.tw6700631356736508036 : Unit := ()
noncomputable def hx.tw2087738239193673434 : Unit := ()
noncomputable def hx.tw14138387163557110853 : Unit := ()
noncomputable def hx.tw16053221933270867258 : Unit := ()
noncomputable def hx.tw16600827452279821873 : Unit := ()
noncomputable def hx.tw11153406825157011147 : Unit := ()
noncomputable def hx.tw4774948093478016081 : Unit := ()
noncomputable def hx.tw7196959931366684185 : Unit := ()
noncomputable def hx.tw12958973201736663512 : Unit := ()
noncomputable def hx.tw12998653064864774427 : Unit := ()
noncomputable def hx.tw9838419238923530799 : Unit := ()
noncomputable def hx.tw4621005963601903657 : Unit := ()
noncomputable def hx.tw2345487744653432563 : Unit := ()
noncomputable def hx.tw14648767878841662682 : Unit := ()
noncomputable def hx.tw2598453218603719200 : Unit := ()
noncomputable def hx.tw4311935586957980807 : Unit := ()
noncomputable def hx.tw2146883442004570292 : Unit := ()
noncomputable def hx.tw14150925457611720700 : Unit := ()
noncomputable def hx.tw3035972135482712479 : Unit := ()
noncomputable def hx.tw8866640492970853812 : Unit := ()
noncomputable def hx.tw10483263613327836230 : Unit := ()
noncomputable def hx.tw10413734220558041264 : Unit := ()
noncomputable def hx.tw3089318795281737075 : Unit := ()
noncomputable def hx.tw15571626766152387222 : Unit := ()
noncomputable def hx.tw5987738072841988675 : Unit := ()
noncomputable def hx.tw3750262793593453663 : Unit := ()
noncomputable def hx.tw12087079219971932454 : Unit := ()
noncomputable def hx.tw16625174259953595169 : Unit := ()
noncomputable def hx.tw2896438728730547279 : Unit := ()
noncomputable def hx.tw18021650032858729757 : Unit := ()
noncomputable def hx.tw7494296812056875437 : Unit := ()
noncomputable def hx.tw12122080299700438669 : Unit := ()
noncomputable def hx.tw17493533222571850228 : Unit := ()
noncomputable def hx.tw7924969997821631868 : Unit := ()
noncomputable def hx.tw18025658111944671314 : Unit := ()
noncomputable def hx.tw14311561367197305191 : Unit := ()
noncomputable def hx.tw663058311725963850 : Unit := ()
noncomputable def hx.tw4820356001183778062 : Unit := ()
noncomputable def hx.tw17882310838744935415 : Unit := ()
noncomputable def hx.tw15902653346226055279 : Unit := ()
noncomputable def hx.tw17832744011254776289 : Unit := ()
noncomputable def hx.tw13348707166376220045 : Unit := ()
noncomputable def hx.tw8089808293607095345 : Unit := ()
noncomputable def hx.tw13028522948772262508 : Unit := ()
noncomputable def hx.tw9067985455519472299 : Unit := ()
noncomputable def hx.tw16403607636861804150 : Unit := ()
noncomputable def hx.tw4039083011212233968 : Unit := ()
noncomputable def hx.tw6225824510542169761 : Unit := ()
noncomputable def hx.tw9733707994341241046 : Unit := ()
noncomputable def hx.tw1709533345360563255 : Unit := ()
noncomputable def hx.tw7010757331310601657 : Unit := ()
noncomputable def hx.tw2848357750357388338 : Unit := ()
noncomputable def hx.tw6821187626703829088 : Unit := ()
noncomputable def hx.tw8791178820788453978 : Unit := ()
noncomputable def hx.tw5345257021437362142 : Unit := ()
noncomputable def hx.tw6810229405824084477 : Unit := ()
noncomputable def hx.tw1415654423932628287 : Unit := ()
noncomputable def hx.tw11529457255951468018 : Unit := ()
noncomputable def hx.tw2690994299918733986 : Unit := ()
noncomputable def hx.tw990764820897086996 : Unit := ()
noncomputable def hx.tw16810214309375985759 : Unit := ()
noncomputable def hx.tw1658197193684275316 : Unit := ()
noncomputable def hx.tw568883250039891352 : Unit := ()
noncomputable def hx.tw15882349035831147880 : Unit := ()
noncomputable def hx.tw4081245987573513101 : Unit := ()
noncomputable def hx.tw8078265402885471976 : Unit := ()
noncomputable def hx.tw13273623471580055978 : Unit := ()
noncomputable def hx.tw10807983823035302247 : Unit := ()
noncomputable def hx.tw17001873279354605088 : Unit := ()
noncomputable def hx.tw11501113234145657499 : Unit := ()
noncomputable def hx.tw7992169660659198757 : Unit := ()
noncomputable def hx.tw919350103801827390 : Unit := ()
noncomputable def hx.tw5302141714640544522 : Unit := ()
noncomputable def hx.tw6768751125542400157 : Unit := ()
noncomputable def hx.tw616740878971486716 : Unit := ()
noncomputable def hx.tw12392353606877693820 : Unit := ()
noncomputable def hx.tw12476055800596261357 : Unit := ()
noncomputable def hx.tw8339939058450410749 : Unit := ()
noncomputable def hx.tw9960968122618143832 : Unit := ()
noncomputable def hx.tw634369046800973281 : Unit := ()
noncomputable def hx.tw11874976274172590891 : Unit := ()
noncomputable def hx.tw11605663943579434254 : Unit := ()
noncomputable def hx.tw16503919762052067167 : Unit := ()
noncomputable def hx.tw6938760501003799309 : Unit := ()
noncomputable def hx.tw2951018021206863066 : Unit := ()
noncomputable def hx.tw3722370046394560457 : Unit := ()
noncomputable def hx.tw7411675879612560423 : Unit := ()
noncomputable def hx.tw7448076970475776704 : Unit := ()
noncomputable def hx.tw11180674998892410296 : Unit := ()
noncomputable def hx.tw12677999345953698985 : Unit := ()
noncomputable def hx.tw9229111910879503682 : Unit := ()
noncomputable def hx.tw4925180145992722077 : Unit := ()
noncomputable def hx.tw5644764048023550207 : Unit := ()
noncomputable def hx.tw6948474134290792126 : Unit := ()
noncomputable def hx.tw5229663503899665235 : Unit := ()
noncomputable def hx.tw2933574226750363228 : Unit := ()
noncomputable def hx.tw16220354117797179089 : Unit := ()
noncomputable def hx.tw1927792282007945085 : Unit := ()
noncomputable def hx.tw7876969669924440321 : Unit := ()
noncomputable def hx.tw16831101020866358490 : Unit := ()
noncomputable def hx.tw11108718026129502348 : Unit := ()
noncomputable def hx.tw10143001506211119355 : Unit := ()
noncomputable def hx.tw1375955018112806077 : Unit := ()
noncomputable def hx.tw14349752981382075830 : Unit := ()
noncomputable def hx.tw5663202204576575629 : Unit := ()
noncomputable def hx.tw3952756967378608505 : Unit := ()
noncomputable def hx.tw13173629366862862663 : Unit := ()
noncomputable def hx.tw12943594393411517771 : Unit := ()
noncomputable def hx.tw15964317271155168136 : Unit := ()
noncomputable def hx.tw17158850808337323685 : Unit := ()
noncomputable def hx.tw1628044414854275119 : Unit := ()
noncomputable def hx.tw15414558616249902002 : Unit := ()
noncomputable def hx.tw9425653185733914764 : Unit := ()
noncomputable def hx.tw2722494911219165771 : Unit := ()
noncomputable def hx.tw30516888858077971 : Unit := ()
noncomputable def hx.tw14344502140286423506 : Unit := ()
noncomputable def hx.tw12112647759870957014 : Unit := ()
noncomputable def hx.tw7433385755784711104 : Unit := ()
noncomputable def hx.tw14364110991727458282 : Unit := ()
noncomputable def hx.tw14618633012687346700 : Unit := ()
noncomputable def hx.tw3597224387928761530 : Unit := ()
noncomputable def hx.tw7118774718363930462 : Unit := ()
noncomputable def hx.tw9580440979016352591 : Unit := ()
noncomputable def hx.tw16896803200496902077 : Unit := ()
noncomputable def hx.tw2504348554245470067 : Unit := ()
noncomputable def hx.tw2313343453469587 : Unit := ()
noncomputable def hx.tw5151445886737355997 : Unit := ()
noncomputable def hx.tw18288557733248936724 : Unit := ()
noncomputable def hx.tw7086268270985402415 : Unit := ()
noncomputable def hx.tw7891766511613034010 : Unit := ()
noncomputable def hx.tw15102594672415386349 : Unit := ()
noncomputable def hx.tw1623351667710231897 : Unit := ()
noncomputable def hx.tw899982699746041680 : Unit := ()
noncomputable def hx.tw6590801892334686599 : Unit := ()
noncomputable def hx.tw16937982806788184370 : Unit := ()
noncomputable def hx.tw1352479365382649514 : Unit := ()
noncomputable def hx.tw10610913765530660747 : Unit := ()
noncomputable def hx.tw5254291218172806239 : Unit := ()
noncomputable def hx.tw1680849517792564725 : Unit := ()
noncomputable def hx.tw8069092538493481521 : Unit := ()
noncomputable def hx.tw17365841796568000854 : Unit := ()
noncomputable def hx.tw13251139996166171883 : Unit := ()
noncomputable def hx.tw18163383231904437410 : Unit := ()
noncomputable def hx.tw3772895889506965678 : Unit := ()
noncomputable def hx.tw3151352308241419672 : Unit := ()
noncomputable def hx.tw13360980773314081272 : Unit := ()
noncomputable def hx.tw14364079368883715770 : Unit := ()
noncomputable def hx.tw3770322921552031231 : Unit := ()
noncomputable def hx.tw6661460279421622568 : Unit := ()
noncomputable def hx.tw1283418492878313000 : Unit := ()
noncomputable def hx.tw3316928985884304664 : Unit := ()
noncomputable def hx.tw15719070241404046249 : Unit := ()
noncomputable def hx.tw288411641489606368 : Unit := ()
noncomputable def hx.tw2911593502983421243 : Unit := ()
noncomputable def hx.tw9819894657917094784 : Unit := ()
noncomputable def hx.tw8680568747675894556 : Unit := ()
noncomputable def hx.tw12821517133369311258 : Unit := ()
noncomputable def hx.tw7462397087798485187 : Unit := ()
noncomputable def hx.tw15020162214462287587 : Unit := ()
noncomputable def hx.tw6346493079076818392 : Unit := ()
noncomputable def hx.tw2884559834261289398 : Unit := ()
noncomputable def hx.tw3423346011291521542 : Unit := ()
noncomputable def hx.tw2497926436135343631 : Unit := ()
noncomputable def hx.tw12840931332580689146 : Unit := ()
noncomputable def hx.tw1016313470199982537 : Unit := ()
noncomputable def hx.tw15687806069674188760 : Unit := ()
noncomputable def hx.tw8683918616840425538 : Unit := ()
noncomputable def hx.tw16058991070295768540 : Unit := ()
noncomputable def hx.tw2899951234114317963 : Unit := ()
noncomputable def hx.tw3457709029089074591 : Unit := ()
noncomputable def hx.tw1837536587343590555 : Unit := ()
noncomputable def hx.tw2492048929613541025 : Unit := ()
noncomputable def hx.tw4518221268279412019 : Unit := ()
noncomputable def hx.tw8059141126832881916 : Unit := ()
noncomputable def hx.tw4638685165426952821 : Unit := ()
noncomputable def hx.tw14919038862432082165 : Unit := ()
noncomputable def hx.tw3548908381971391680 : Unit := ()
noncomputable def hx.tw12764173250460046966 : Unit := ()
noncomputable def hx.tw18383182533153586477 : Unit := ()
noncomputable def hx.tw313783033510757027 : Unit := ()
noncomputable def hx.tw4567310155831165015 : Unit := ()
noncomputable def hx.tw9728156084186220081 : Unit := ()
noncomputable def hx.tw15003182733627720372 : Unit := ()
noncomputable def hx.tw2745991006798580251 : Unit := ()
noncomputable def hx.tw7291546937901893924 : Unit := ()
noncomputable def hx.tw1742656451142089649 : Unit := ()
noncomputable def hx.tw5002266203513084153 : Unit := ()
noncomputable def hx.tw3127049559752940807 : Unit := ()
noncomputable def hx.tw17573937718456619690 : Unit := ()
noncomputable def hx.tw3461369719786860586 : Unit := ()
noncomputable def hx.tw4957977497641929111 : Unit := ()
noncomputable def hx.tw13051606616835114215 : Unit := ()
noncomputable def hx.tw292709383975957704 : Unit := ()
noncomputable def hx.tw16328980522917596230 : Unit := ()
noncomputable def hx.tw15097703535185493621 : Unit := ()
noncomputable def hx.tw5044532516427930034 : Unit := ()
noncomputable def hx.tw17589684436434577441 : Unit := ()
noncomputable def hx.tw12545834286116690562 : Unit := ()
noncomputable def hx.tw14728151803300476778 : Unit := ()
noncomputable def hx.tw358558379371031262 : Unit := ()
noncomputable def hx.tw8629640164197408899 : Unit := ()
noncomputable def hx.tw6382291294955211999 : Unit := ()
noncomputable def hx.tw14938798612039523107 : Unit := ()
noncomputable def hx.tw4743368475946334711 : Unit := ()
noncomputable def hx.tw18141915107381044649 : Unit := ()
noncomputable def hx.tw14992983214800064602 : Unit := ()
noncomputable def hx.tw16038111126348386163 : Unit := ()
noncomputable def hx.tw6094537120995972945 : Unit := ()
noncomputable def hx.tw7789537453598603269 : Unit := ()
noncomputable def hx.tw15369465458315143963 : Unit := ()
noncomputable def hx.tw9463795675075205437 : Unit := ()
noncomputable def hx.tw64630411898889128 : Unit := ()
noncomputable def hx.tw13516186739440186774 : Unit := ()
noncomputable def hx.tw13418063953174990607 : Unit := ()
noncomputable def hx.tw13574767429253134702 : Unit := ()
noncomputable def hx.tw15088012910613175391 : Unit := ()
noncomputable def hx.tw16889384090722931010 : Unit := ()
noncomputable def hx.tw3809554658679441229 : Unit := ()
noncomputable def hx.tw6234722803267601620 : Unit := ()
noncomputable def hx.tw764732042479237497 : Unit := ()
noncomputable def hx.tw1100523350065315309 : Unit := ()
noncomputable def hx.tw14958249954385249000 : Unit := ()
noncomputable def hx.tw10471693372546886218 : Unit := ()
noncomputable def hx.tw5859954059831970930 : Unit := ()
noncomputable def hx.tw1510941156237703019 : Unit := ()
noncomputable def hx.tw17453721029707611201 : Unit := ()
noncomputable def hx.tw12886684066980348408 : Unit := ()
noncomputable def hx.tw3126803895974666599 : Unit := ()
noncomputable def hx.tw2924628002121016683 : Unit := ()
noncomputable def hx.tw12934927632614500181 : Unit := ()
noncomputable def hx.tw12870832547070010083 : Unit := ()
noncomputable def hx.tw8374021121780711109 : Unit := ()
noncomputable def hx.tw8013753438709209555 : Unit := ()
noncomputable def hx.tw4790614838382506437 : Unit := ()
noncomputable def hx.tw75286811257347183 : Unit := ()
noncomputable def hx.tw8719310546069769394 : Unit := ()
noncomputable def hx.tw15343754591034969740 : Unit := ()
noncomputable def hx.tw15784146693891255721 : Unit := ()
noncomputable def hx.tw13071191126500404010 : Unit := ()
noncomputable def hx.tw18119002219515010161 : Unit := ()
noncomputable def hx.tw5286479519828484009 : Unit := ()
noncomputable def hx.tw4443683451718327492 : Unit := ()
noncomputable def hx.tw2530950033039335674 : Unit := ()
noncomputable def hx.tw18215676871104998399 : Unit := ()
noncomputable def hx.tw12770057050171300576 : Unit := ()
noncomputable def hx.tw16751661018229691023 : Unit := ()
noncomputable def hx.tw15637220148305887217 : Unit := ()
noncomputable def hx.tw2358503780328766540 : Unit := ()
noncomputable def hx.tw9440667166201527827 : Unit := ()
noncomputable def hx.tw18286160104727862462 : Unit := ()
noncomputable def hx.tw10259550172225532679 : Unit := ()
noncomputable def hx.tw10596243801935397713 : Unit := ()
noncomputable def hx.tw16584103675982884176 : Unit := ()
noncomputable def hx.tw4778239293986166988 : Unit := ()
noncomputable def hx.tw11876859455004161157 : Unit := ()
noncomputable def hx.tw9115037031211061566 : Unit := ()
noncomputable def hx.tw12867322890000570906 : Unit := ()
noncomputable def hx.tw7271874215164270623 : Unit := ()
noncomputable def hx.tw3643914471317708621 : Unit := ()
noncomputable def hx.tw11950744475718057257 : Unit := ()
noncomputable def hx.tw14304415443402900283 : Unit := ()
noncomputable def hx.tw14264482880347793263 : Unit := ()
noncomputable def hx.tw11068126759796092325 : Unit := ()
noncomputable def hx.tw8800404311707590821 : Unit := ()
noncomputable def hx.tw11133863230559657982 : Unit := ()
noncomputable def hx.tw145932963246128051 : Unit := ()
noncomputable def hx.tw10973832126581270915 : Unit := ()
noncomputable def hx.tw8644560031705490810 : Unit := ()
noncomputable def hx.tw1472627028676479429 : Unit := ()
noncomputable def hx.tw17601551063327761115 : Unit := ()
noncomputable def hx.tw5074251886428752240 : Unit := ()
noncomputable def hx.tw2404633205489611897 : Unit := ()
noncomputable def hx.tw3105936464211144054 : Unit := ()
noncomputable def hx.tw11654316357038136316 : Unit := ()
noncomputable def hx.tw9300793153402489460 : Unit := ()
noncomputable def hx.tw2822385975729611342 : Unit := ()
noncomputable def hx.tw11413205744277866631 : Unit := ()
noncomputable def hx.tw7864485984771250624 : Unit := ()
noncomputable def hx.tw14547076071350101635 : Unit := ()
noncomputable def hx.tw17016924944305248243 : Unit := ()
noncomputable def hx.tw13764951562285276426 : Unit := ()
noncomputable def hx.tw10864032600957282309 : Unit := ()
noncomputable def hx.tw3275178236903027326 : Unit := ()
noncomputable def hx.tw10742297795112918153 : Unit := ()
noncomputable def hx.tw4205994103841450751 : Unit := ()
noncomputable def hx.tw2580623763806008135 : Unit := ()
noncomputable def hx.tw5033423968699698886 : Unit := ()
noncomputable def hx.tw4709067958626073384 : Unit := ()
noncomputable def hx.tw1765193833724418456 : Unit := ()
noncomputable def hx.tw11442105100669052236 : Unit := ()
noncomputable def hx.tw14829580396654412330 : Unit := ()
noncomputable def hx.tw15462683395770930534 : Unit := ()
noncomputable def hx.tw8153351105357841641 : Unit := ()
noncomputable def hx.tw45817232647829279 : Unit := ()
noncomputable def hx.tw2702912257362749870 : Unit := ()
noncomputable def hx.tw4035567117447141005 : Unit := ()
noncomputable def hx.tw1463196147053303394 : Unit := ()
noncomputable def hx.tw6810358813687007468 : Unit := ()
noncomputable def hx.tw11153277219916700167 : Unit := ()
noncomputable def hx.tw5492716820719653743 : Unit := ()
noncomputable def hx.tw17812654206654028429 : Unit := ()
noncomputable def hx.tw3228090532262280768 : Unit := ()
noncomputable def hx.tw13904747866207299807 : Unit := ()
noncomputable def hx.tw2051001751573004679 : Unit := ()
noncomputable def hx.tw4835485041952420608 : Unit := ()
noncomputable def hx.tw932451246233767929 : Unit := ()
noncomputable def hx.tw17557955846509285157 : Unit := ()
noncomputable def hx.tw9728688711462037987 : Unit := ()
noncomputable def hx.tw7135545248255827829 : Unit := ()
noncomputable def hx.tw10307356883056191786 : Unit := ()
set_option Elab.async true
theorem hx : PySem.Challenge.rw_nt0642_01.Holds := by
  w_on; o_law; k_head; (case hw => w_witness2)
  w_strict (
    k_fill
    intro w s₀ s₁ mg mb G Y fa o pm cd doc dV kV ho hd hcd hD hmg hg args vals as hpre hlay hrd hwl hlo
    have KX := kIn_of Y
    refine Ground.open G ?_
    intro T B D TE TW
    wrow_args hpre hlay hrd hwl hlo
    have hmg2 : mg "law" = some (.ref fa) := hmg
    clear hd hcd hD hmg
    refine head_call hg ?kf KX T hmg2 (by assumption) (by assumption) ?_ (by assumption) (fun s' h1 h2 h3 => ?_)
    case kf => exact
      { f_is_lower_k := ⟨fnAt_mk (by kernel_rfl) (by kernel_rfl) (by kernel_rfl) (by kernel_rfl) (by kernel_rfl) (by kernel_rfl) (by kernel_rfl) (by decide +kernel), by kernel_rfl, fun v0 => by kernel_rfl⟩,
        f_is_upper_k := ⟨fnAt_mk (by kernel_rfl) (by kernel_rfl) (by kernel_rfl) (by kernel_rfl) (by kernel_rfl) (by kernel_rfl) (by kernel_rfl) (by decide +kernel), by kernel_rfl, fun v0 => by kernel_rfl⟩,
        f_is_alpha_k := ⟨fnAt_mk (by kernel_rfl) (by kernel_rfl) (by kernel_rfl) (by kernel_rfl) (by kernel_rfl) (by kernel_rfl) (by kernel_rfl) (by decide +kernel), by kernel_rfl, fun v0 => by kernel_rfl⟩,
        f_is_digit_k := ⟨fnAt_mk (by kernel_rfl) (by kernel_rfl) (by kernel_rfl) (by kernel_rfl) (by kernel_rfl) (by kernel_rfl) (by kernel_rfl) (by decide +kernel), by kernel_rfl, fun v0 => by kernel_rfl⟩,
        f_is_space_k := ⟨fnAt_mk (by kernel_rfl) (by kernel_rfl) (by kernel_rfl) (by kernel_rfl) (by kernel_rfl) (by kernel_rfl) (by kernel_rfl) (by decide +kernel), by kernel_rfl, fun v0 => by kernel_rfl⟩,
        f_is_control_k := ⟨fnAt_mk (by kernel_rfl) (by kernel_rfl) (by kernel_rfl) (by kernel_rfl) (by kernel_rfl) (by kernel_rfl) (by kernel_rfl) (by decide +kernel), by kernel_rfl, fun v0 => by kernel_rfl⟩,
        f_is_punctuation_k := ⟨fnAt_mk (by kernel_rfl) (by kernel_rfl) (by kernel_rfl) (by kernel_rfl) (by kernel_rfl) (by kernel_rfl) (by kernel_rfl) (by decide +kernel), by kernel_rfl, fun v0 => by kernel_rfl⟩,
        f_is_hex_k := ⟨fnAt_mk (by kernel_rfl) (by kernel_rfl) (by kernel_rfl) (by kernel_rfl) (by kernel_rfl) (by kernel_rfl) (by kernel_rfl) (by decide +kernel), by kernel_rfl, fun v0 => by kernel_rfl⟩,
        f_in_class_k := ⟨fnAt_mk (by kernel_rfl) (by kernel_rfl) (by kernel_rfl) (by kernel_rfl) (by kernel_rfl) (by kernel_rfl) (by kernel_rfl) (by decide +kernel), by kernel_rfl, fun v0 v1 => by kernel_rfl⟩,
        m_init_k := ⟨fnAt_mk (by kernel_rfl) (by kernel_rfl) (by kernel_rfl) (by kernel_rfl) (by kernel_rfl) (by kernel_rfl) (by kernel_rfl) (by decide +kernel), by kernel_rfl, trivial⟩,
        m_reset_k := ⟨fnAt_mk (by kernel_rfl) (by kernel_rfl) (by kernel_rfl) (by kernel_rfl) (by kernel_rfl) (by kernel_rfl) (by kernel_rfl) (by decide +kernel), by kernel_rfl, fun v0 => by kernel_rfl⟩,
        m_at_k := ⟨fnAt_mk (by kernel_rfl) (by kernel_rfl) (by kernel_rfl) (by kernel_rfl) (by kernel_rfl) (by kernel_rfl) (by kernel_rfl) (by decide +kernel), by kernel_rfl, fun v0 v1 => by kernel_rfl⟩,
        m_class_end_k := ⟨fnAt_mk (by kernel_rfl) (by kernel_rfl) (by kernel_rfl) (by kernel_rfl) (by kernel_rfl) (by kernel_rfl) (by kernel_rfl) (by decide +kernel), by kernel_rfl, fun v0 v1 => by kernel_rfl⟩,
        m_in_set_k := ⟨fnAt_mk (by kernel_rfl) (by kernel_rfl) (by kernel_rfl) (by kernel_rfl) (by kernel_rfl) (by kernel_rfl) (by kernel_rfl) (by decide +kernel), by kernel_rfl, fun v0 v1 v2 v3 => by kernel_rfl⟩,
        m_is_single_k := ⟨fnAt_mk (by kernel_rfl) (by kernel_rfl) (by kernel_rfl) (by kernel_rfl) (by kernel_rfl) (by kernel_rfl) (by kernel_rfl) (by decide +kernel), by kernel_rfl, fun v0 v1 v2 v3 => by kernel_rfl⟩,
        m_match_k := ⟨fnAt_mk (by kernel_rfl) (by kernel_rfl) (by kernel_rfl) (by kernel_rfl) (by kernel_rfl) (by kernel_rfl) (by kernel_rfl) (by decide +kernel), by kernel_rfl, fun v0 v1 v2 => by kernel_rfl⟩,
        m_match_here_k := ⟨fnAt_mk (by kernel_rfl) (by kernel_rfl) (by kernel_rfl) (by kernel_rfl) (by kernel_rfl) (by kernel_rfl) (by kernel_rfl) (by decide +kernel), by kernel_rfl, fun v0 v1 v2 => by kernel_rfl⟩,
        m_match_special_k := ⟨fnAt_mk (by kernel_rfl) (by kernel_rfl) (by kernel_rfl) (by kernel_rfl) (by kernel_rfl) (by kernel_rfl) (by kernel_rfl) (by decide +kernel), by kernel_rfl, fun v0 v1 v2 v3 => by kernel_rfl⟩,
        m_match_balance_k := ⟨fnAt_mk (by kernel_rfl) (by kernel_rfl) (by kernel_rfl) (by kernel_rfl) (by kernel_rfl) (by kernel_rfl) (by kernel_rfl) (by decide +kernel), by kernel_rfl, fun v0 v1 v2 => by kernel_rfl⟩,
        m_match_frontier_k := ⟨fnAt_mk (by kernel_rfl) (by kernel_rfl) (by kernel_rfl) (by kernel_rfl) (by kernel_rfl) (by kernel_rfl) (by kernel_rfl) (by decide +kernel), by kernel_rfl, fun v0 v1 v2 => by kernel_rfl⟩,
        m_expand_most_k := ⟨fnAt_mk (by kernel_rfl) (by kernel_rfl) (by kernel_rfl) (by kernel_rfl) (by kernel_rfl) (by kernel_rfl) (by kernel_rfl) (by decide +kernel), by kernel_rfl, fun v0 v1 v2 v3 => by kernel_rfl⟩,
        m_expand_least_k := ⟨fnAt_mk (by kernel_rfl) (by kernel_rfl) (by kernel_rfl) (by kernel_rfl) (by kernel_rfl) (by kernel_rfl) (by kernel_rfl) (by decide +kernel), by kernel_rfl, fun v0 v1 v2 v3 => by kernel_rfl⟩,
        m_start_capture_k := ⟨fnAt_mk (by kernel_rfl) (by kernel_rfl) (by kernel_rfl) (by kernel_rfl) (by kernel_rfl) (by kernel_rfl) (by kernel_rfl) (by decide +kernel), by kernel_rfl, fun v0 v1 v2 v3 => by kernel_rfl⟩,
        m_end_capture_k := ⟨fnAt_mk (by kernel_rfl) (by kernel_rfl) (by kernel_rfl) (by kernel_rfl) (by kernel_rfl) (by kernel_rfl) (by kernel_rfl) (by decide +kernel), by kernel_rfl, fun v0 v1 v2 => by kernel_rfl⟩,
        m_to_close_k := ⟨fnAt_mk (by kernel_rfl) (by kernel_rfl) (by kernel_rfl) (by kernel_rfl) (by kernel_rfl) (by kernel_rfl) (by kernel_rfl) (by decide +kernel), by kernel_rfl, fun v0 => by kernel_rfl⟩,
        m_match_capture_k := ⟨fnAt_mk (by kernel_rfl) (by kernel_rfl) (by kernel_rfl) (by kernel_rfl) (by kernel_rfl) (by kernel_rfl) (by kernel_rfl) (by decide +kernel), by kernel_rfl, fun v0 v1 v2 => by kernel_rfl⟩,
        m_capture_k := ⟨fnAt_mk (by kernel_rfl) (by kernel_rfl) (by kernel_rfl) (by kernel_rfl) (by kernel_rfl) (by kernel_rfl) (by kernel_rfl) (by decide +kernel), by kernel_rfl, fun v0 v1 v2 v3 => by kernel_rfl⟩,
        m_captures_k := ⟨fnAt_mk (by kernel_rfl) (by kernel_rfl) (by kernel_rfl) (by kernel_rfl) (by kernel_rfl) (by kernel_rfl) (by kernel_rfl) (by decide +kernel), by kernel_rfl, fun v0 v1 v2 v3 => by kernel_rfl⟩,
        m_search_k := ⟨fnAt_mk (by kernel_rfl) (by kernel_rfl) (by kernel_rfl) (by kernel_rfl) (by kernel_rfl) (by kernel_rfl) (by kernel_rfl) (by decide +kernel), by kernel_rfl, fun v0 v1 v2 v3 => by kernel_rfl⟩,
        f_law_draw_k := ⟨fnAt_mk (by kernel_rfl) (by kernel_rfl) (by kernel_rfl) (by kernel_rfl) (by kernel_rfl) (by kernel_rfl) (by kernel_rfl) (by decide +kernel), by kernel_rfl, fun v0 v1 => by kernel_rfl⟩,
        f_law_flags_k := ⟨fnAt_mk (by kernel_rfl) (by kernel_rfl) (by kernel_rfl) (by kernel_rfl) (by kernel_rfl) (by kernel_rfl) (by kernel_rfl) (by decide +kernel), by kernel_rfl, fun v0 => by kernel_rfl⟩,
        f_law_named_k := ⟨fnAt_mk (by kernel_rfl) (by kernel_rfl) (by kernel_rfl) (by kernel_rfl) (by kernel_rfl) (by kernel_rfl) (by kernel_rfl) (by decide +kernel), by kernel_rfl, fun v0 => by kernel_rfl⟩,
        f_law_others_k := ⟨fnAt_mk (by kernel_rfl) (by kernel_rfl) (by kernel_rfl) (by kernel_rfl) (by kernel_rfl) (by kernel_rfl) (by kernel_rfl) (by decide +kernel), by kernel_rfl, fun v0 => by kernel_rfl⟩,
        f_law_drawn_name_k := ⟨fnAt_mk (by kernel_rfl) (by kernel_rfl) (by kernel_rfl) (by kernel_rfl) (by kernel_rfl) (by kernel_rfl) (by kernel_rfl) (by decide +kernel), by kernel_rfl, fun v0 => by kernel_rfl⟩,
        f_law_drawn_set_k := ⟨fnAt_mk (by kernel_rfl) (by kernel_rfl) (by kernel_rfl) (by kernel_rfl) (by kernel_rfl) (by kernel_rfl) (by kernel_rfl) (by decide +kernel), by kernel_rfl, fun v0 => by kernel_rfl⟩,
        f_law_single_k := ⟨fnAt_mk (by kernel_rfl) (by kernel_rfl) (by kernel_rfl) (by kernel_rfl) (by kernel_rfl) (by kernel_rfl) (by kernel_rfl) (by decide +kernel), by kernel_rfl, fun v0 => by kernel_rfl⟩,
        f_law_part_k := ⟨fnAt_mk (by kernel_rfl) (by kernel_rfl) (by kernel_rfl) (by kernel_rfl) (by kernel_rfl) (by kernel_rfl) (by kernel_rfl) (by decide +kernel), by kernel_rfl, fun v0 v1 => by kernel_rfl⟩,
        f_law_shut_k := ⟨fnAt_mk (by kernel_rfl) (by kernel_rfl) (by kernel_rfl) (by kernel_rfl) (by kernel_rfl) (by kernel_rfl) (by kernel_rfl) (by decide +kernel), by kernel_rfl, fun v0 => by kernel_rfl⟩,
        f_law_parts_k := ⟨fnAt_mk (by kernel_rfl) (by kernel_rfl) (by kernel_rfl) (by kernel_rfl) (by kernel_rfl) (by kernel_rfl) (by kernel_rfl) (by decide +kernel), by kernel_rfl, fun v0 => by kernel_rfl⟩,
        f_law_signs_k := ⟨fnAt_mk (by kernel_rfl) (by kernel_rfl) (by kernel_rfl) (by kernel_rfl) (by kernel_rfl) (by kernel_rfl) (by kernel_rfl) (by decide +kernel), by kernel_rfl, fun v0 => by kernel_rfl⟩,
        f_law_counts_k := ⟨fnAt_mk (by kernel_rfl) (by kernel_rfl) (by kernel_rfl) (by kernel_rfl) (by kernel_rfl) (by kernel_rfl) (by kernel_rfl) (by decide +kernel), by kernel_rfl, fun v0 v1 v2 => by kernel_rfl⟩,
        f_law_balanced_k := ⟨fnAt_mk (by kernel_rfl) (by kernel_rfl) (by kernel_rfl) (by kernel_rfl) (by kernel_rfl) (by kernel_rfl) (by kernel_rfl) (by decide +kernel), by kernel_rfl, fun v0 v1 v2 v3 => by kernel_rfl⟩,
        f_law_repeated_k := ⟨fnAt_mk (by kernel_rfl) (by kernel_rfl) (by kernel_rfl) (by kernel_rfl) (by kernel_rfl) (by kernel_rfl) (by kernel_rfl) (by decide +kernel), by kernel_rfl, fun v0 v1 v2 => by kernel_rfl⟩,
        f_law_on_edge_k := ⟨fnAt_mk (by kernel_rfl) (by kernel_rfl) (by kernel_rfl) (by kernel_rfl) (by kernel_rfl) (by kernel_rfl) (by kernel_rfl) (by decide +kernel), by kernel_rfl, fun v0 v1 v2 => by kernel_rfl⟩,
        f_law_closed_k := ⟨fnAt_mk (by kernel_rfl) (by kernel_rfl) (by kernel_rfl) (by kernel_rfl) (by kernel_rfl) (by kernel_rfl) (by kernel_rfl) (by decide +kernel), by kernel_rfl, fun v0 v1 => by kernel_rfl⟩,
        f_law_go_k := ⟨fnAt_mk (by kernel_rfl) (by kernel_rfl) (by kernel_rfl) (by kernel_rfl) (by kernel_rfl) (by kernel_rfl) (by kernel_rfl) (by decide +kernel), by kernel_rfl, fun v0 v1 v2 v3 v4 => by kernel_rfl⟩,
        f_law_told_k := ⟨fnAt_mk (by kernel_rfl) (by kernel_rfl) (by kernel_rfl) (by kernel_rfl) (by kernel_rfl) (by kernel_rfl) (by kernel_rfl) (by decide +kernel), by kernel_rfl, fun v0 v1 v2 v3 => by kernel_rfl⟩,
        f_law_k := ⟨fnAt_mk (by kernel_rfl) (by kernel_rfl) (by kernel_rfl) (by kernel_rfl) (by kernel_rfl) (by kernel_rfl) (by kernel_rfl) (by decide +kernel), by kernel_rfl, fun v0 => by kernel_rfl⟩,
        m_init_o := by
            refine ⟨?_, ?_, ?h1, ?h2, ?_, ?_, ?_, ?h3, ?h4, ?h5, ?_, ?_, ?h6, fun v0 v1 v2 => ⟨?h7, ?h8⟩⟩
            case h1 =>
              conv => lhs; whnf
            case h3 =>
              conv => lhs; whnf
            case h2 =>
              conv => lhs; whnf
            case h4 =>
              conv => lhs; whnf
            case h5 => exact rfl
            case h6 => exact rfl
            case h7 => exact rfl
            case h8 => exact rfl,
        m_init_mk := by kernel_rfl,
        m_init_fi := by kernel_rfl,
        m_init_ty := by kernel_rfl,
        f_refused_at := fnAtL_mk (by kernel_rfl) (by kernel_rfl) (by kernel_rfl) (by kernel_rfl) (by kernel_rfl) (by kernel_rfl) (by kernel_rfl) (by decide +kernel),
        f_refused_b := fun v0 v1 => by kernel_rfl,
        ref_w := fun {G} hK hC => by cases G; dsimp only at hK hC; subst hK hC; exact ⟨⟨by kernel_rfl, by kernel_rfl⟩, by kernel_rfl, by kernel_rfl, by kernel_rfl, by kernel_rfl, by kernel_rfl⟩,
        law_w := fun {G} hK hC => by cases G; dsimp only at hK hC; subst hK hC; exact ⟨by kernel_rfl, by kernel_rfl, by kernel_rfl, by kernel_rfl, by kernel_rfl⟩,
        kget := by
          intro x hx
          simp only [fieldNames, List.mem_cons, List.not_mem_nil, or_false] at hx
          rcases hx with rfl | rfl | rfl | rfl | rfl | rfl | rfl <;> kernel_rfl,
        kfind := by
          intro x hx
          simp only [fieldNames, List.mem_cons, List.not_mem_nil, or_false] at hx
          rcases hx with rfl | rfl | rfl | rfl | rfl | rfl | rfl <;> kernel_rfl,
        ktake := by
          intro x hx
          simp only [fieldNames, List.mem_cons, List.not_mem_nil, or_false] at hx
          rcases hx with rfl | rfl | rfl | rfl | rfl | rfl | rfl <;> kernel_rfl,
        kdict := by kernel_rfl,
        kset := by kernel_rfl,
        kover := by kernel_rfl,
        lua_obj := by
            refine ⟨?_, ?_, ?_, ?_, ?_, ?_, ?_, ?_, ?_, ?_, ?_, ?_, ?_, ?h⟩
            case h =>
              conv => lhs; whnf,
        lua_glob := by kernel_rfl,
        lua_keep := by kernel_rfl,
        lua_nsok := by kernel_rfl,
        lua_init := by kernel_rfl,
        lua_sa := by kernel_rfl,
        lua_value := by kernel_rfl,
        lua_trace := by kernel_rfl,
        lua_fn := by kernel_rfl,
        lua_scope := by kernel_rfl,
        lua_body := by kernel_rfl,
        lua_closure := by kernel_rfl,
        lua_globals := by kernel_rfl,
        lua_builtins := by kernel_rfl,
        lua_code := by kernel_rfl,
        lua_bind := fun a b => by kernel_rfl,
        law_fa := by kernel_rfl }
    · exact well_nodict (by assumption)
    · refine ⟨.inl ⟨.bool true, .bool true, [], rfl, fun _ => rfl, ?_, ?_, ?_⟩, .of_keep h1, h3, .of_eq (h2.trans hg)⟩
      · exact .bool true
      · wrow_post
      · exact fun _ => ⟨List.nodup_nil, fun a h => by cases h⟩)
set_option Elab.async false
end Mine
theorem PySem.Challenge.cw_nt0642_01_holds : PySem.Challenge.rw_nt0642_01.Holds :=
  Mine.hx
