import PyProof.Rows.All
import Wide.FinOn
import OpenK.AllK
import Wide.All
import Lean
import PySem.Challenge.RW_xm0838_01
open PySem PySem.W PyProof.Rows PySem.Calls
set_option Elab.async false
set_option linter.all false
set_option maxRecDepth 100000
set_option maxHeartbeats 8000000
set_option genSizeOf false
set_option genInjectivity false
local macro_rules | `(tactic| omega) => `(tactic| first | lia | omega +splitNatSub)
/- The proof in parts: values, objects and the syntax of a small semantics, its weakest preconditions, their soundness for the model (SV .. rows sorted);
the text's 60 functions in that syntax (fnL .. HdOk); what each function does (Base .. k_law), and between these the plain law with no program in sight (Inv .. LI.inv); the join with the head (fin, hd). -/
namespace Mine
inductive SV where
  | none | bool (b : Bool) | int (i : Int) | byt (b : Array UInt8) | ref (a : Addr) | tup (l : List SV) | raw (v : Value)
  | rng (a : Int) (n : Nat) (c : Int)
inductive SO where
  | list (l : List SV)
  | dict (m : List (Int × SV)) (ep : Nat)
  | inst (c : Addr) (d : Addr) (m : Nat → Option SV)
noncomputable abbrev SH := Addr → Option SO
noncomputable def upd (h : SH) (a : Addr) (o : SO) : SH := fun b => if b = a then some o else h b
noncomputable abbrev tupObj (vs : List Value) : Obj := { cls := .type "tuple", data := .seq vs.toArray }
mutual
noncomputable def VR (h : Heap) : SV → Value → Prop
  | .none, v => v = .none
  | .bool b, v => v = .bool b
  | .int i, v => ∃ t, v = .int i t
  | .byt b, v => ∃ t, v = .bytes b t
  | .ref a, v => v = .ref a
  | .raw x, v => v = x
  | .rng a n c, v => ∃ r b t u z, v = .ref r ∧ IsRange h r a b c t u z ∧ Builtin.Range.small a b c = true ∧ Builtin.Range.rangeSize a b c = n
  | .tup l, v => ∃ a vs, v = .ref a ∧ h.get? a = some (tupObj vs) ∧ VRs h l vs
noncomputable def VRs (h : Heap) : List SV → List Value → Prop
  | [], vs => vs = []
  | x :: l, vs => ∃ v r, vs = v :: r ∧ VR h x v ∧ VRs h l r
end
noncomputable def Imm (o : Obj) : Prop := (o.cls = .type "tuple" ∨ o.cls = .type "range") ∧ (∀ es ep, o.data ≠ .dict es ep) ∧ ∀ v, o.data ≠ .cell v
theorem Imm.tup (vs : List Value) : Imm (tupObj vs) := ⟨.inl rfl, fun _ _ z => (by cases z), fun _ z => (by cases z)⟩
noncomputable def TupKeep (h h' : Heap) : Prop := ∀ a o, h.get? a = some o → Imm o → h'.get? a = some o
mutual
theorem VR.mono {h h' : Heap} (k : TupKeep h h') : ∀ {x : SV} {v : Value}, VR h x v → VR h' x v
  | .none, _, e => e
  | .bool _, _, e => e
  | .int _, _, e => e
  | .byt _, _, e => e
  | .ref _, _, e => e
  | .raw _, _, e => e
  | .rng _ _ _, _, e => by
    obtain ⟨r, b, t, u, z, e1, e2, e3⟩ := e
    exact ⟨r, b, t, u, z, e1, k _ _ e2 ⟨.inr rfl, fun _ _ z => (by cases z), fun _ z => (by cases z)⟩, e3⟩
  | .tup l, v, e => by
    obtain ⟨a, vs, e1, e2, e3⟩ := e
    exact ⟨a, vs, e1, k _ _ e2 (Imm.tup _), VRs.mono k e3⟩
theorem VRs.mono {h h' : Heap} (k : TupKeep h h') : ∀ {x : List SV} {v : List Value}, VRs h x v → VRs h' x v
  | [], _, e => e
  | x :: l, vs, e => by
    obtain ⟨v, r, e1, e2, e3⟩ := e
    exact ⟨v, r, e1, VR.mono k e2, VRs.mono k e3⟩
end
theorem VRs.length {h : Heap} : ∀ {l : List SV} {vs : List Value}, VRs h l vs → vs.length = l.length
  | [], _, e => by cases e; rfl
  | _ :: _, _, e => by obtain ⟨v, r, rfl, _, e3⟩ := e; simp [e3.length]
theorem VRs.get {h : Heap} : ∀ {l : List SV} {vs : List Value} {i : Nat} {x : SV}, VRs h l vs → l[i]? = some x → ∃ v, vs[i]? = some v ∧ VR h x v
  | [], _, _, _, _, e => by simp at e
  | y :: l, vs, i, x, e, q => by
    obtain ⟨v, r, rfl, e2, e3⟩ := e
    cases i with
    | zero => simp at q; subst q; exact ⟨v, by simp, e2⟩
    | succ i => simp at q; obtain ⟨v', a, b⟩ := e3.get q; exact ⟨v', by simpa using a, b⟩
theorem VRs.append {h : Heap} : ∀ {l l' : List SV} {vs vs' : List Value}, VRs h l vs → VRs h l' vs' → VRs h (l ++ l') (vs ++ vs')
  | [], _, _, _, e, e' => by cases e; exact e'
  | x :: l, l', _, vs', e, e' => by
    obtain ⟨v, r, rfl, e2, e3⟩ := e
    exact ⟨v, r ++ vs', rfl, e2, e3.append e'⟩
theorem VRs.one {h : Heap} {x : SV} {v : Value} (e : VR h x v) : VRs h [x] [v] := ⟨v, [], rfl, e, rfl⟩
theorem VRs.take {h : Heap} : ∀ {l : List SV} {vs : List Value} (n : Nat), VRs h l vs → VRs h (l.take n) (vs.take n)
  | [], _, n, e => by cases e; simp; rfl
  | x :: l, _, n, e => by
    obtain ⟨v, r, rfl, e2, e3⟩ := e
    cases n with
    | zero => exact (rfl : ([] : List Value) = [])
    | succ n => exact ⟨v, r.take n, rfl, e2, e3.take n⟩
theorem VRs.drop {h : Heap} : ∀ {l : List SV} {vs : List Value} (n : Nat), VRs h l vs → VRs h (l.drop n) (vs.drop n)
  | [], _, n, e => by cases e; simp; rfl
  | x :: l, _, n, e => by
    obtain ⟨v, r, rfl, e2, e3⟩ := e
    cases n with
    | zero => exact ⟨v, r, rfl, e2, e3⟩
    | succ n => exact e3.drop n
structure Gd where
  prog : Program
  w : World
  K : Frag
  H0 : Heap
  gl : List (Str × Value)
  fn : Nat → Str          -- field and method names
  nf : Nat                -- fields are the numbers below
  nn : Nat
  cls : List Addr         -- the classes
  meths : List (Addr × Nat × Value)
  nofld : List (Addr × Nat)  -- names that a class keeps for itself
  lm : List (Nat × Value)
  dm : List (Nat × Value)
noncomputable abbrev listObj (vs : List Value) (n : Nat) : Obj := { cls := .type "list", data := .seq vs.toArray n }
noncomputable def ieEnt (G : Gd) (p : Nat × Tok × Value) : DictEntry := ⟨PyData.keyHash G.w.params (G.fn p.1), .str (G.fn p.1) p.2.1, p.2.2⟩
noncomputable def IE (G : Gd) (h : Heap) (m : Nat → Option SV) (es : List DictEntry) : Prop :=
  ∃ ks : List (Nat × Tok × Value), es = ks.map (ieEnt G) ∧ (ks.map (·.1)).Nodup ∧ (∀ p ∈ ks, p.1 < G.nf) ∧
    ∀ x, match ks.find? (fun p => p.1 == x) with
      | none => m x = none
      | some p => ∃ sv, m x = some sv ∧ VR h sv p.2.2
noncomputable def ObjAt (G : Gd) (h : Heap) (a : Addr) : SO → Prop
  | .list l => ∃ vs n, h.get? a = some (listObj vs n) ∧ VRs h l vs
  | .dict m ep => ∃ vs, h.DictAt (intKind G.prog G.w) a ((m.map (·.1)).zip vs) ep ∧ VRs h (m.map (·.2)) vs
  | .inst c d m => c ∈ G.cls ∧ h.get? a = some (instObj c d) ∧ ∃ es n, h.get? d = some (dictOf es n) ∧ IE G h m es
noncomputable def Foot (σ : SH) (b : Addr) : Prop := (∃ o, σ b = some o) ∨ ∃ a c m, σ a = some (.inst c b m)
structure Rep (G : Gd) (σ : SH) (s : Shared) : Prop where
  base : ∀ b o, G.H0.get? b = some o → s.heap.get? b = some o
  new : ∀ b, Foot σ b → G.H0.get? b = none
  objs : ∀ a o, σ a = some o → ObjAt G s.heap a o
  inj : ∀ a a' c c' d m m', σ a = some (.inst c d m) → σ a' = some (.inst c' d m') → a = a'
  apart : ∀ a c d m, σ a = some (.inst c d m) → σ d = none
structure Step (W : Addr → Prop) (σ : SH) (s : Shared) (σ' : SH) (s' : Shared) : Prop where
  pres : ∀ b o, s.heap.get? b = some o → ¬ Foot σ b → ¬ W b → s'.heap.get? b = some o
  foot : ∀ b, Foot σ' b → Foot σ b ∨ s.heap.get? b = none ∨ W b
  dom : ∀ b, ¬ W b → s.heap.get? b ≠ none → s'.heap.get? b ≠ none
  tup : TupKeep s.heap s'.heap
  rest : s'.gens = s.gens ∧ s'.drawn = s.drawn ∧ s'.os = s.os
theorem Step.refl (W : Addr → Prop) (σ : SH) (s : Shared) : Step W σ s σ s :=
  ⟨fun _ _ e _ _ => e, fun _ f => .inl f, fun _ _ e => e, fun _ _ e _ => e, rfl, rfl, rfl⟩
theorem Step.tok {W : Addr → Prop} {σ σ' : SH} {s s' : Shared} (x : Step W σ s σ' s') (t : Nat) : Step W σ s σ' { s' with toks := t } :=
  ⟨x.pres, x.foot, x.dom, x.tup, x.rest⟩
theorem Step.trans' {W W' : Addr → Prop} {σ σ' σ'' : SH} {s s' s'' : Shared} (x : Step W σ s σ' s') (y : Step W' σ' s' σ'' s'') (k : ∀ b, W' b → W b ∨ s.heap.get? b = none) : Step W σ s σ'' s'' where
  pres := fun b o e f w => y.pres b o (x.pres b o e f w) (fun g => by
    rcases x.foot b g with q | q | q
    · exact f q
    · rw [e] at q; cases q
    · exact w q) (fun g => by
    rcases k b g with q | q
    · exact w q
    · rw [e] at q; cases q)
  foot := fun b f => by
    rcases y.foot b f with q | q | q
    · exact x.foot b q
    · by_cases w : W b
      · exact .inr (.inr w)
      · refine .inr (.inl (Decidable.byContradiction fun n => ?_))
        exact x.dom b w n q
    · rcases k b q with z | z
      · exact .inr (.inr z)
      · exact .inr (.inl z)
  dom := fun b w e => by
    refine y.dom b (fun g => ?_) (x.dom b w e)
    rcases k b g with q | q
    · exact w q
    · exact e q
  tup := fun a o e c => y.tup a o (x.tup a o e c) c
  rest := ⟨y.rest.1.trans x.rest.1, y.rest.2.1.trans x.rest.2.1, y.rest.2.2.trans x.rest.2.2⟩
theorem Step.trans {W : Addr → Prop} {σ σ' σ'' : SH} {s s' s'' : Shared} (x : Step W σ s σ' s') (y : Step W σ' s' σ'' s'') : Step W σ s σ'' s'' := x.trans' y fun _ => .inl
theorem Step.weak {W W' : Addr → Prop} {σ σ' : SH} {s s' : Shared} (x : Step W σ s σ' s') (k : ∀ b, W b → W' b) : Step W' σ s σ' s' :=
  ⟨fun b o e f w => x.pres b o e f (fun q => w (k b q)), fun b f => (x.foot b f).imp id (Or.imp id (k b)), fun b w => x.dom b fun q => w (k b q), x.tup, x.rest⟩
theorem Rep.tok {G : Gd} {σ : SH} {s : Shared} (x : Rep G σ s) (t : Nat) : Rep G σ { s with toks := t } := ⟨x.base, x.new, x.objs, x.inj, x.apart⟩
end Mine
namespace Mine
mutual
inductive E where
  | none (p : Pos)
  | bool (b : Bool) (p : Pos)
  | int (i : Int) (p : Pos)
  | byt (b : List UInt8) (p : Pos)
  | loc (i : Nat) (p : Pos)
  | glob (j : Nat) (p : Pos)
  | attr (e : E) (x : Nat) (p : Pos)
  | sub (e i : E) (p : Pos)
  | slTo (e u : E) (ps p : Pos)
  | slFrom (e l : E) (ps p : Pos)
  | bin (op : Operator) (a b : E) (p : Pos)
  | neg (a : E) (p : Pos)
  | not (a : E) (p : Pos)
  | bop (op : BoolOp) (a : E) (r : EL) (p : Pos)
  | cmp (op : CmpOp) (a b : E) (p : Pos)
  | ite (t a b : E) (p : Pos)
  | list (es : EL) (p : Pos)
  | tup (es : EL) (k : Nat) (p : Pos)
  | dict0 (p : Pos)
  | call (f : E) (args : EL) (p : Pos)
  | meth (o : E) (x : Nat) (args : EL) (ap p : Pos)
  | comp (elt : E) (i : Nat) (pt : Pos) (it : E) (ifs : EL) (sc : Scope) (p : Pos)
inductive EL where
  | nil
  | cons (e : E) (r : EL)
end
inductive T where
  | loc (i : Nat) (p : Pos)
  | attr (e : E) (x : Nat) (p : Pos)
  | sub (e i : E) (p : Pos)
  | tup (is : List (Nat × Pos)) (k : Nat) (p : Pos)
mutual
inductive S where
  | expr (e : E) (p : Pos)
  | assign (t : T) (e : E) (p : Pos)
  | augL (i : Nat) (pi : Pos) (op : Operator) (e : E) (p : Pos)
  | augA (o : E) (x : Nat) (pt : Pos) (op : Operator) (e : E) (p : Pos)
  | augI (o i : E) (ps : Pos) (op : Operator) (e : E) (p : Pos)
  | if_ (t : E) (a b : SL) (p : Pos)
  | while_ (t : E) (a : SL) (p : Pos)
  | for_ (t : T) (e : E) (a : SL) (p : Pos)
  | ret (e : E) (p : Pos)
  | brk (p : Pos)
  | cont (p : Pos)
  | try_ (a : SL) (hs : List ExceptHandler) (p : Pos)
  | raw (s : Stmt)
inductive SL where
  | nil
  | cons (s : S) (r : SL)
end
structure Nm where
  ns : List Str
  fn : Nat → Str
  gl : List (Str × Value)
noncomputable def Nm.n (N : Nm) (i : Nat) : Str := N.ns.getD i default
noncomputable def Nm.g (N : Nm) (j : Nat) : Str := (N.gl.map (·.1)).getD j default
mutual
noncomputable def E.py (N : Nm) : E → Expr
  | .none p => .Constant .none 0 p
  | .bool b p => .Constant (.bool b) 0 p
  | .int i p => .Constant (.int i) 0 p
  | .byt b p => .Constant (.bytes b) 0 p
  | .loc i p => .Name (N.n i) p
  | .glob j p => .Name (N.g j) p
  | .attr e x p => .Attribute (e.py N) (N.fn x) p
  | .sub e i p => .Subscript (e.py N) (i.py N) p
  | .slTo e u ps p => .Subscript (e.py N) (.Slice Option.none (some (u.py N)) Option.none ps) p
  | .slFrom e l ps p => .Subscript (e.py N) (.Slice (some (l.py N)) Option.none Option.none ps) p
  | .bin op a b p => .BinOp (a.py N) op (b.py N) p
  | .neg a p => .UnaryOp .USub (a.py N) p
  | .not a p => .UnaryOp .Not (a.py N) p
  | .bop op a r p => .BoolOp op (a.py N :: r.py N) p
  | .cmp op a b p => .Compare (a.py N) [op] [b.py N] p
  | .ite t a b p => .IfExp (t.py N) (a.py N) (b.py N) p
  | .list es p => .List (es.py N) p
  | .tup es k p => .Tuple (es.py N) k p
  | .dict0 p => .Dict [] [] p
  | .call f args p => .Call (f.py N) (args.py N) [] p
  | .meth o x args ap p => .Call (.Attribute (o.py N) (N.fn x) ap) (args.py N) [] p
  | .comp elt i pt it ifs sc p => .ListComp (elt.py N) [⟨.Name (N.n i) pt, it.py N, ifs.py N, 0⟩] sc p
noncomputable def EL.py (N : Nm) : EL → List Expr
  | .nil => []
  | .cons e r => e.py N :: r.py N
end
noncomputable def T.py (N : Nm) : T → Expr
  | .loc i p => .Name (N.n i) p
  | .attr e x p => .Attribute (e.py N) (N.fn x) p
  | .sub e i p => .Subscript (e.py N) (i.py N) p
  | .tup is k p => .Tuple (is.map fun q => .Name (N.n q.1) q.2) k p
mutual
noncomputable def S.py (N : Nm) : S → Stmt
  | .expr e p => .Expr (e.py N) p
  | .assign t e p => .Assign [t.py N] (e.py N) p
  | .augL i pi op e p => .AugAssign (.Name (N.n i) pi) op (e.py N) p
  | .augA o x pt op e p => .AugAssign (.Attribute (o.py N) (N.fn x) pt) op (e.py N) p
  | .augI o i ps op e p => .AugAssign (.Subscript (o.py N) (i.py N) ps) op (e.py N) p
  | .if_ t a b p => .If (t.py N) (a.py N) (b.py N) p
  | .while_ t a p => .While (t.py N) (a.py N) [] p
  | .for_ t e a p => .For (t.py N) (e.py N) (a.py N) [] p
  | .ret e p => .Return (some (e.py N)) p
  | .brk p => .Break p
  | .cont p => .Continue p
  | .try_ a hs p => .Try (a.py N) hs [] [] p
  | .raw s => s
noncomputable def SL.py (N : Nm) : SL → List Stmt
  | .nil => []
  | .cons s r => s.py N :: r.py N
end
end Mine
namespace Mine
noncomputable abbrev Loc := List (Option SV)
inductive Fl where
  | next | brk | cont | ret (v : SV)
noncomputable def Ok (d : Nat) (A : Around) : Prop := A.handled = none ∧ A.depth + 4 * d < recursionLimit ∧ A.units + 100 * d + 60 < cLine
inductive Post (G : Gd) (σ : SH) (s : Shared) (Q : SV → SH → Prop) (v : Value) (s' : Shared) : Prop where
  | mk (sv : SV) (σ' : SH) (st : Step (fun _ => False) σ s σ' s') (R : Rep G σ' s') (V : VR s'.heap sv v) (q : Q sv σ')
noncomputable def Keep (G : Gd) (f : Value) : Prop := ∀ h : Heap, (∀ b o, G.H0.get? b = some o → h.get? b = some o) → ∃ k, (k = Keeper.frame ∨ k = Keeper.machine ∨ k = Keeper.boundFrame) ∧ Looks (model G.prog G.w) h (keeperOf f) k
noncomputable def CallC (G : Gd) (d : Nat) (f : Value) (vs : List SV) (Q : SV → SH → Prop) (σ : SH) : Prop := Keep G f ∧
  ∀ A s args, Ok d A → Rep G σ s → VRs s.heap vs args →
    codeAny (model G.prog G.w) A (.call f ⟨args, []⟩) (fun r s' => ∃ v, r = .ok (.ret v) ∧ Post G σ s Q v s') s
noncomputable def CallF (G : Gd) (d : Nat) (f : Value) (vs : List SV) (Q : SV → SH → Prop) (σ : SH) : Prop := Keep G f ∧
  ∀ A s args, Ok d A → Rep G σ s → VRs s.heap vs args → wpAny (model G.prog G.w) A (call f args) (Post G σ s Q) (fun _ _ => False) s
theorem CallC.toF {G : Gd} {d : Nat} {f : Value} {vs : List SV} {Q : SV → SH → Prop} {σ : SH} (h : CallC G d f vs Q σ) : CallF G d f vs Q σ :=
  ⟨h.1, fun A s args hA R V => wpAny_call (codeAny_mono (h.2 A s args hA R V) fun r s' h' => by obtain ⟨v, rfl, h'⟩ := h'; exact h')⟩
noncomputable def small (a : Int) : Prop := a.natAbs < 2 ^ 64
noncomputable def gd (c : Bool) (P : Prop) : Prop := match c with
  | true => P
  | false => False
theorem gd_ex {c : Bool} {P : Prop} (h : gd c P) : c = true ∧ P := by cases c; exact h.elim; exact ⟨rfl, h⟩
theorem gd_of {c : Bool} {P : Prop} (e : c = true) (h : P) : gd c P := by subst e; exact h
noncomputable def fdv (a b : Int) : Int := match a, b with
  | .ofNat m, .ofNat n => .ofNat (m / n)
  | a, b => a.fdiv b
noncomputable def fmd (a b : Int) : Int := match a, b with
  | .ofNat m, .ofNat n => .ofNat (m % n)
  | a, b => a.fmod b
theorem fdv_eq (a b : Int) : fdv a b = a.fdiv b := by
  cases a <;> cases b <;> try rfl
  rename_i m n
  exact (Int.fdiv_eq_ediv_of_nonneg (m : Int) (Int.natCast_nonneg n)).symm
theorem fmd_eq (a b : Int) : fmd a b = a.fmod b := by
  cases a <;> cases b <;> try rfl
  rename_i m n
  exact (Int.fmod_eq_emod_of_nonneg (m : Int) (Int.natCast_nonneg n)).symm
noncomputable def binI (op : Operator) (a b : Int) (k : Int → Prop) : Prop := match op with
  | .Add => k (a + b)
  | .Sub => k (a - b)
  | .Mult => small a ∧ k (a * b)
  | .FloorDiv => gd (decide (b ≠ 0) && decide (b.natAbs < 1073741824)) (k (fdv a b))
  | .Mod => gd (decide (b ≠ 0)) (k (fmd a b))
  | .BitAnd => k (Builtin.bitAnd a b)
  | .BitOr => k (Builtin.bitOr a b)
  | .LShift => small a ∧ gd (decide (0 ≤ b) && decide (b ≤ 64)) (k (a * 2 ^ b.toNat))
  | .RShift => gd (decide (0 ≤ b)) (k (a.fdiv (2 ^ b.toNat)))
  | _ => False
noncomputable def newW (o : SO) (Q : SV → SH → Prop) (h : SH) : Prop := ∀ a, h a = none → Q (.ref a) (upd h a o)
noncomputable def binW (op : Operator) (a b : SV) (Q : SV → SH → Prop) (h : SH) : Prop := match a, b with
  | .int x, .int y => binI op x y fun z => Q (.int z) h
  | .byt x, .byt y => op = .Add ∧ x.size + y.size ≤ 1000000 ∧ Q (.byt (x ++ y)) h
  | .ref x, .ref y => op = .Add ∧ ∃ l l', h x = some (.list l) ∧ h y = some (.list l') ∧ l.length + l'.length ≤ 1000000 ∧ newW (.list (l ++ l')) Q h
  | .ref x, .int n => op = .Mult ∧ ∃ v, h x = some (.list [v]) ∧ 0 ≤ n ∧ n ≤ 1000 ∧ newW (.list (List.replicate n.toNat v)) Q h
  | _, _ => False
noncomputable def isNone : SV → Bool
  | .none => true
  | _ => false
noncomputable def isRaw : SV → Bool
  | .raw _ => true
  | _ => false
noncomputable def mlook (m : List (Int × SV)) (k : Int) : Option SV := (m.find? fun p => p.1 = k).map (·.2)
noncomputable def mput (m : List (Int × SV)) (k : Int) (v : SV) : List (Int × SV) :=
  if m.any (fun p => p.1 = k) then m.map (fun p => if p.1 = k then (p.1, v) else p) else m ++ [(k, v)]
noncomputable def flatEq : SV → SV → Option Bool
  | .int a, .int b => some (a == b)
  | .bool a, .bool b => some (a == b)
  | .byt a, .byt b => some (a.toList == b.toList)
  | _, _ => none
noncomputable def ii (x y : SV) (f : Int → Int → Bool) : Option Bool := match x with
  | .int a => (match y with
    | .int b => some (f a b)
    | _ => none)
  | _ => none
noncomputable def dres (op : CmpOp) (x y : SV) : Option Bool := match op with
  | .Eq => some false
  | .NotEq => some true
  | .Lt => ii x y fun a b => decide (a < b)
  | .LtE => ii x y fun a b => decide (a ≤ b)
  | .Gt => ii x y fun a b => decide (b < a)
  | .GtE => ii x y fun a b => decide (b ≤ a)
  | _ => none
noncomputable def eres (op : CmpOp) : Option Bool := match op with
  | .Eq => some true
  | .NotEq => some false
  | .Lt => some false
  | .Gt => some false
  | .LtE => some true
  | .GtE => some true
  | _ => none
noncomputable def tcmp (op : CmpOp) : List SV → List SV → Option Bool
  | [], [] => eres op
  | a :: l, b :: l' => (match flatEq a b with
    | some true => tcmp op l l'
    | some false => dres op a b
    | none => none)
  | _, _ => none
noncomputable def bord (x y : Array UInt8) : Ordering := Builtin.Bytes.order x.toList y.toList
noncomputable def cmpI (op : CmpOp) (x y : Int) (k : Bool → Prop) : Prop := match op with
  | .Eq => k (x == y)
  | .NotEq => k (x != y)
  | .Lt => k (decide (x < y))
  | .LtE => k (decide (x ≤ y))
  | .Gt => k (decide (y < x))
  | .GtE => k (decide (y ≤ x))
  | _ => False
noncomputable def cmpY (op : CmpOp) (x y : Array UInt8) (k : Bool → Prop) : Prop := match op with
  | .Eq => k (x.toList == y.toList)
  | .NotEq => k (x.toList != y.toList)
  | .Lt => k (bord x y == .lt)
  | .LtE => k (bord x y != .gt)
  | .Gt => k (bord x y == .gt)
  | .GtE => k (bord x y != .lt)
  | _ => False
noncomputable def cmpD (op : CmpOp) (a b : SV) (k : Bool → Prop) (h : SH) : Prop := match a, b with
  | .int x, .int y => cmpI op x y k
  | .byt x, .byt y => cmpY op x y k
  | .bool x, .bool y => (match op with
    | .NotEq => k (x != y)
    | _ => False)
  | .tup l, .tup l' => ∃ r, tcmp op l l' = some r ∧ k r
  | .ref x, .ref y => op = .NotEq ∧ ∃ l l' r, h x = some (.list l) ∧ h y = some (.list l') ∧ ((l.length ≠ l'.length ∧ r = true) ∨ tcmp .NotEq l l' = some r) ∧ k r
  | _, _ => False
noncomputable def inW (a b : SV) (k : Bool → Prop) (h : SH) : Prop := match a, b with
  | .int i, .ref d => (∃ m ep, h d = some (.dict m ep) ∧ k (mlook m i).isSome) ∨ ∃ ns : List Int, h d = some (.list (ns.map .int)) ∧ k (ns.contains i)
  | _, _ => False
noncomputable def isW (a b : SV) (k : Bool → Prop) : Prop := match b with
  | .none => gd (!isRaw a) (k (isNone a))
  | _ => False
theorem isW_ex {a b : SV} {k : Bool → Prop} (h : isW a b k) : b = .none ∧ isRaw a = false ∧ k (isNone a) := by
  cases b <;> first | exact h.elim | (have h := gd_ex h; exact ⟨rfl, by simpa using h.1, h.2⟩)
noncomputable def cmpW (op : CmpOp) (a b : SV) (Q : SV → SH → Prop) (h : SH) : Prop := match op with
  | .Is => isW a b fun c => Q (.bool c) h
  | .IsNot => isW a b fun c => Q (.bool (!c)) h
  | .In => inW a b (fun c => Q (.bool c) h) h
  | .NotIn => inW a b (fun c => Q (.bool (!c)) h) h
  | op => cmpD op a b (fun c => Q (.bool c) h) h
noncomputable def truW (v : SV) (k : Bool → Prop) : Prop := match v with
  | .bool b => k b
  | _ => False
noncomputable def optW (x : Option SV) (Q : SV → Prop) : Prop := match x with
  | some v => Q v
  | none => False
theorem optW_ex {x : Option SV} {Q : SV → Prop} (h : optW x Q) : ∃ v, x = some v ∧ Q v := by cases x; exact h.elim; exact ⟨_, rfl, h⟩
noncomputable def subW (o i : SV) (Q : SV → SH → Prop) (h : SH) : Prop := match o, i with
  | .ref a, .int k => (∃ l v, h a = some (.list l) ∧ 0 ≤ k ∧ k < 2 ^ 60 ∧ l[k.toNat]? = some v ∧ Q v h) ∨ (∃ m ep v, h a = some (.dict m ep) ∧ mlook m k = some v ∧ Q v h)
  | .tup l, .int k => gd (decide (0 ≤ k) && Nat.ble l.length 1000) (optW l[k.toNat]? fun v => Q v h)
  | .byt b, .int k => 0 ≤ k ∧ k < 2 ^ 60 ∧ ∃ v, b[k.toNat]? = some v ∧ Q (.int v.toNat) h
  | _, _ => False
noncomputable def slToW (o u : SV) (Q : SV → SH → Prop) (h : SH) : Prop := match o, u with
  | .ref a, .int k => ∃ l, h a = some (.list l) ∧ 0 ≤ k ∧ k < 2 ^ 60 ∧ l.length ≤ 1000000 ∧ newW (.list (l.take k.toNat)) Q h
  | .byt b, .int k => 0 ≤ k ∧ k < 2 ^ 60 ∧ b.size ≤ 1000000 ∧ Q (.byt (b.extract 0 k.toNat)) h
  | _, _ => False
noncomputable def slFromW (o l : SV) (Q : SV → SH → Prop) (h : SH) : Prop := match o, l with
  | .ref a, .int k => ∃ l, h a = some (.list l) ∧ 0 ≤ k ∧ k < 2 ^ 60 ∧ l.length ≤ 1000000 ∧ newW (.list (l.drop k.toNat)) Q h
  | _, _ => False
noncomputable def attrW (G : Gd) (o : SV) (x : Nat) (Q : SV → SH → Prop) (h : SH) : Prop := ∃ a c d m v, o = .ref a ∧ h a = some (.inst c d m) ∧ m x = some v ∧ isRaw v = false ∧ G.nofld.contains (c, x) = false ∧ Q v h
noncomputable def setA (m : Nat → Option SV) (x : Nat) (v : SV) : Nat → Option SV := fun y => if y = x then some v else m y
noncomputable def setAttrW (G : Gd) (o : SV) (x : Nat) (v : SV) (Q : SH → Prop) (h : SH) : Prop := ∃ a c d m, o = .ref a ∧ h a = some (.inst c d m) ∧ x < G.nf ∧ G.nofld.contains (c, x) = false ∧ Q (upd h a (.inst c d (setA m x v)))
noncomputable def setSubW (o i v : SV) (Q : SH → Prop) (h : SH) : Prop := match o, i with
  | .ref a, .int k => (∃ l, h a = some (.list l) ∧ 0 ≤ k ∧ k < l.length ∧ k < 2 ^ 60 ∧ Q (upd h a (.list (l.set k.toNat v)))) ∨ (∃ m ep, h a = some (.dict m ep) ∧ m.length ≤ 1000000 ∧ ∀ ep', Q (upd h a (.dict (mput m k v) ep')))
  | _, _ => False
noncomputable def MRes (G : Gd) (o : SV) (x : Nat) (f : Value) (h : SH) : Prop := ∃ a, o = .ref a ∧
  ((∃ c d m, h a = some (.inst c d m) ∧ (c, x, f) ∈ G.meths ∧ m x = none) ∨ (∃ l, h a = some (.list l) ∧ (x, f) ∈ G.lm) ∨ (∃ m ep, h a = some (.dict m ep) ∧ (x, f) ∈ G.dm))
noncomputable def rgI (a c : Int) (i : Nat) : SV := match a, c with
  | .ofNat a, .ofNat 1 => .int ((i + a : Nat) : Int)
  | a, c => .int (a + i * c)
theorem rgI_eq (a c : Int) (i : Nat) : rgI a c i = .int (a + i * c) := by
  unfold rgI
  split
  · rename_i a
    rw [show (Int.ofNat a + (i : Int) * Int.ofNat 1) = ((i + a : Nat) : Int) by simp only [Int.ofNat_eq_natCast]; omega]
  · rfl
noncomputable def itemsW (v : SV) (k : List SV → (SH → Prop) → Prop) (h : SH) : Prop := match v with
  | .tup l => k l fun _ => True
  | .ref a => (∃ l, h a = some (.list l) ∧ k l fun h' => h' a = some (.list l)) ∨ (∃ m ep, h a = some (.dict m ep) ∧ k (m.map fun p => .int p.1) fun h' => h' a = some (.dict m ep))
  | .rng a n c => k ((List.range n).map (rgI a c)) fun _ => True
  | _ => False
end Mine
namespace Mine
noncomputable def isAnd : BoolOp → Bool
  | .And => true
  | .Or => false
noncomputable def compN (chk : SH → Prop) (acc : Addr) (Tst : SV → (Bool → SH → Prop) → SH → Prop) (B : SV → (SV → SH → Prop) → SH → Prop) (Q : SV → SH → Prop) : List SV → SH → Prop
  | [] => fun h => chk h ∧ Q (.ref acc) h
  | x :: xs => fun h => chk h ∧ Tst x (fun b h2 => if b = true then B x (fun v h3 => ∃ l, h3 acc = some (.list l) ∧ l.length ≤ 1000000 ∧ compN chk acc Tst B Q xs (upd h3 acc (.list (l ++ [v])))) h2
      else compN chk acc Tst B Q xs h2) h
noncomputable def callW (G : Gd) (d : Nat) (f : SV) (vs : List SV) (Q : SV → SH → Prop) (h : SH) : Prop := match f with
  | .raw v => CallF G d v vs Q h
  | _ => False
theorem callW_ex {G : Gd} {d : Nat} {f : SV} {vs : List SV} {Q : SV → SH → Prop} {h : SH} (z : callW G d f vs Q h) : ∃ v, f = .raw v ∧ CallF G d v vs Q h := by
  cases f <;> first | exact ⟨_, rfl, z⟩ | exact z.elim
noncomputable def locW : Loc → Nat → (SV → Prop) → Prop
  | [], _, _ => False
  | x :: _, 0, Q => optW x Q
  | _ :: l, i + 1, Q => locW l i Q
theorem locW_ex : ∀ {loc : Loc} {i : Nat} {Q : SV → Prop}, locW loc i Q → ∃ v, loc[i]? = some (some v) ∧ Q v
  | [], _, _, z => z.elim
  | none :: _, 0, _, z => z.elim
  | some v :: _, 0, _, z => ⟨v, rfl, z⟩
  | _ :: l, i + 1, _, z => locW_ex (loc := l) (i := i) z
theorem locW_of : ∀ {loc : Loc} {i : Nat} {Q : SV → Prop} {v : SV}, loc[i]? = some (some v) → Q v → locW loc i Q
  | [], _, _, _, e, _ => by simp at e
  | none :: _, 0, _, _, e, _ => by simp at e
  | some _ :: _, 0, _, _, e, z => by cases e; exact z
  | _ :: l, i + 1, _, _, e, z => locW_of (loc := l) (i := i) (by simpa using e) z
noncomputable def gsv : Value → SV
  | .int i _ => .int i
  | v => .raw v
noncomputable def atW (Q : SV → Prop) : List (Str × Value) → Nat → Prop
  | p :: _, 0 => Q (gsv p.2)
  | _ :: l, j + 1 => atW Q l j
  | [], _ => False
noncomputable def globW (G : Gd) (j : Nat) (Q : SV → Prop) : Prop := atW Q G.gl j
theorem atW_ex {Q : SV → Prop} : ∀ {l : List (Str × Value)} {j : Nat}, atW Q l j → ∃ p, l[j]? = some p ∧ Q (gsv p.2)
  | [], 0, z => z.elim
  | [], _ + 1, z => z.elim
  | p :: _, 0, z => ⟨p, rfl, z⟩
  | _ :: l, j + 1, z => atW_ex (l := l) (j := j) z
theorem atW_of {Q : SV → Prop} : ∀ {l : List (Str × Value)} {j : Nat} {p}, l[j]? = some p → Q (gsv p.2) → atW Q l j
  | [], _, _, e, _ => by simp at e
  | _ :: _, 0, _, e, z => by cases e; exact z
  | _ :: l, j + 1, _, e, z => atW_of (l := l) (j := j) (by simpa using e) z
theorem globW_ex {G : Gd} {j : Nat} {Q : SV → Prop} (z : globW G j Q) : ∃ p, G.gl[j]? = some p ∧ Q (gsv p.2) := atW_ex z
theorem globW_of {G : Gd} {j : Nat} {Q : SV → Prop} {p} (e : G.gl[j]? = some p) (z : Q (gsv p.2)) : globW G j Q := atW_of e z
theorem gsv_vr (h : Heap) (v : Value) : VR h (gsv v) v := by
  cases v
  case int i t => exact ⟨t, rfl⟩
  all_goals rfl
noncomputable def slToG (G : Gd) (o u : SV) (Q : SV → SH → Prop) (h : SH) : Prop := match o, u with
  | .raw (.ref a), .int k => ∃ (vs : List Value) (n : Nat) (ns : List Int), G.H0.get? a = some (listObj vs n) ∧ (∀ H : Heap, VRs H (ns.map .int) vs) ∧ 0 ≤ k ∧ k < 2 ^ 60 ∧ ns.length ≤ 1000000 ∧ newW (.list ((ns.map .int).take k.toNat)) Q h
  | o, u => slToW o u Q h
noncomputable abbrev QV := SV → SH → Prop
noncomputable abbrev WV := QV → Loc → SH → Prop
noncomputable abbrev WT := (Bool → SH → Prop) → Loc → SH → Prop
noncomputable abbrev WL := (List SV → SH → Prop) → Loc → SH → Prop
section
variable (G : Gd) (d : Nat)
noncomputable def KV (Q : QV) (h : SH) (v : SV) : Prop := Q v h
noncomputable def KTru (k : Bool → SH → Prop) : QV := fun v h => truW v fun c => k c h
noncomputable def KAttr (x : Nat) (Q : QV) : QV := fun o h => attrW G o x Q h
noncomputable def KSub2 (o : SV) (Q : QV) : QV := fun i h => subW o i Q h
noncomputable def KSub (W : WV) (Q : QV) (loc : Loc) : QV := fun o h => W (KSub2 o Q) loc h
noncomputable def KSlT2 (o : SV) (Q : QV) : QV := fun i h => slToG G o i Q h
noncomputable def KSlT (W : WV) (Q : QV) (loc : Loc) : QV := fun o h => W (KSlT2 G o Q) loc h
noncomputable def KSlF2 (o : SV) (Q : QV) : QV := fun i h => slFromW o i Q h
noncomputable def KSlF (W : WV) (Q : QV) (loc : Loc) : QV := fun o h => W (KSlF2 o Q) loc h
noncomputable def KBin2 (op : Operator) (x : SV) (Q : QV) : QV := fun y h => binW op x y Q h
noncomputable def KBin (op : Operator) (W : WV) (Q : QV) (loc : Loc) : QV := fun x h => W (KBin2 op x Q) loc h
noncomputable def negW (x : SV) (Q : QV) (h : SH) : Prop := match x with
  | .int i => Q (.int (-i)) h
  | _ => False
theorem negW_ex {x : SV} {Q : QV} {h : SH} (z : negW x Q h) : ∃ i, x = .int i ∧ Q (.int (-i)) h := by
  cases x <;> first | exact ⟨_, rfl, z⟩ | exact z.elim
noncomputable def KNeg (Q : QV) : QV := fun x h => negW x Q h
noncomputable def KNot (Q : QV) : QV := fun x h => truW x fun b => Q (.bool (!b)) h
noncomputable def KO (W : SV → WV) (Q : QV) (loc : Loc) : QV := fun x h => W x Q loc h
noncomputable def KO2 (op : BoolOp) (W : WV) (Q' Q : QV) (loc : Loc) (v : SV) (h : SH) (b : Bool) : Prop := if b = isAnd op then W Q' loc h else Q v h
noncomputable def KCmp2 (op : CmpOp) (x : SV) (Q : QV) : QV := fun y h => cmpW op x y Q h
noncomputable def KCmp (op : CmpOp) (W : WV) (Q : QV) (loc : Loc) : QV := fun x h => W (KCmp2 op x Q) loc h
noncomputable def KIte (A B : WV) (Q : QV) (loc : Loc) : Bool → SH → Prop := fun c h => if c = true then A Q loc h else B Q loc h
noncomputable def KList (Q : QV) : List SV → SH → Prop := fun u h => gd (Nat.ble u.length 1000) (newW (.list u) Q h)
noncomputable def KTup (Q : QV) : List SV → SH → Prop := fun u h => gd (Nat.ble u.length 1000) (Q (.tup u) h)
noncomputable def KCall2 (f : SV) (Q : QV) : List SV → SH → Prop := fun u h => callW G d f u Q h
noncomputable def KCall (W : WL) (Q : QV) (loc : Loc) : QV := fun f h => W (KCall2 G d f Q) loc h
noncomputable def KMeth2 (f : Value) (x : SV) (Q : QV) : List SV → SH → Prop := fun u h => CallF G d f (x :: u) Q h
noncomputable def KMeth (n : Nat) (W : WL) (Q : QV) (loc : Loc) : QV := fun x h => ∃ f, MRes G x n f h ∧ W (KMeth2 G d f x Q) loc h
noncomputable def KEs2 (x : SV) (Q : List SV → SH → Prop) : List SV → SH → Prop := fun u h => Q (x :: u) h
noncomputable def KEs (W : WL) (Q : List SV → SH → Prop) (loc : Loc) : QV := fun x h => W (KEs2 x Q) loc h
noncomputable def KC (W : Bool → WT) (k : Bool → SH → Prop) (loc : Loc) : Bool → SH → Prop := fun c h => W c k loc h
noncomputable def KNotT (k : Bool → SH → Prop) : Bool → SH → Prop := fun c h => k (!c) h
noncomputable def KCoT (n : Nat) (W : WT) (loc : Loc) : SV → (Bool → SH → Prop) → SH → Prop := fun x k h => W k (loc.set n (some x)) h
noncomputable def KCoB (n : Nat) (W : WV) (loc : Loc) : SV → QV → SH → Prop := fun x Q h => W Q (loc.set n (some x)) h
noncomputable def KCo2 (n : Nat) (T : WT) (W : WV) (Q : QV) (loc : Loc) (h : SH) : List SV → (SH → Prop) → Prop := fun u chk => ∀ acc, h acc = none → compN chk acc (KCoT n T loc) (KCoB n W loc) Q u (upd h acc (.list []))
noncomputable def KCo (n : Nat) (T : WT) (W : WV) (Q : QV) (loc : Loc) : QV := fun v h => itemsW v (KCo2 n T W Q loc h) h
end
mutual
noncomputable def wpE (G : Gd) (d : Nat) : E → QV → Loc → SH → Prop
  | .none _, Q, _, h => Q .none h
  | .bool b _, Q, _, h => Q (.bool b) h
  | .int i _, Q, _, h => Q (.int i) h
  | .byt b _, Q, _, h => Q (.byt b.toArray) h
  | .loc i _, Q, loc, h => locW loc i (KV Q h)
  | .glob j _, Q, _, h => globW G j (KV Q h)
  | .attr e x _, Q, loc, h => wpE G d e (KAttr G x Q) loc h
  | .sub e i _, Q, loc, h => wpE G d e (KSub (wpE G d i) Q loc) loc h
  | .slTo e i _ _, Q, loc, h => wpE G d e (KSlT G (wpE G d i) Q loc) loc h
  | .slFrom e i _ _, Q, loc, h => wpE G d e (KSlF (wpE G d i) Q loc) loc h
  | .bin op a b _, Q, loc, h => wpE G d a (KBin op (wpE G d b) Q loc) loc h
  | .neg a _, Q, loc, h => wpE G d a (KNeg Q) loc h
  | .not a _, Q, loc, h => wpE G d a (KNot Q) loc h
  | .bop op a r _, Q, loc, h => wpE G d a (KO (wpO G d op r) Q loc) loc h
  | .cmp op a b _, Q, loc, h => wpE G d a (KCmp op (wpE G d b) Q loc) loc h
  | .ite t a b _, Q, loc, h => wpT G d t (KIte (wpE G d a) (wpE G d b) Q loc) loc h
  | .list es _, Q, loc, h => wpEs G d es (KList Q) loc h
  | .tup es _ _, Q, loc, h => wpEs G d es (KTup Q) loc h
  | .dict0 _, Q, _, h => newW (.dict [] 0) Q h
  | .call f as _, Q, loc, h => wpE G d f (KCall G d (wpEs G d as) Q loc) loc h
  | .meth o x as _ _, Q, loc, h => wpE G d o (KMeth G d x (wpEs G d as) Q loc) loc h
  | .comp elt i _ it ifs _ _, Q, loc, h => wpE G d it (KCo i (wpC G d .And ifs true) (wpE G d elt) Q loc) loc h
noncomputable def wpEs (G : Gd) (d : Nat) : EL → (List SV → SH → Prop) → Loc → SH → Prop
  | .nil, Q, _, h => Q [] h
  | .cons e r, Q, loc, h => wpE G d e (KEs (wpEs G d r) Q loc) loc h
noncomputable def wpO (G : Gd) (d : Nat) (op : BoolOp) : EL → SV → QV → Loc → SH → Prop
  | .nil, v, Q, _, h => Q v h
  | .cons e r, v, Q, loc, h => truW v (KO2 op (wpE G d e) (KO (wpO G d op r) Q loc) Q loc v h)
noncomputable def wpT (G : Gd) (d : Nat) : E → (Bool → SH → Prop) → Loc → SH → Prop
  | .not a _, k, loc, h => wpT G d a (KNotT k) loc h
  | .bop op a r _, k, loc, h => wpT G d a (KC (wpC G d op r) k loc) loc h
  | .cmp op a b _, k, loc, h => wpE G d a (KCmp op (wpE G d b) (KTru k) loc) loc h
  | .loc i _, k, loc, h => locW loc i (KV (KTru k) h)
  | .attr e x _, k, loc, h => wpE G d e (KAttr G x (KTru k)) loc h
  | .call f as _, k, loc, h => wpE G d f (KCall G d (wpEs G d as) (KTru k) loc) loc h
  | .meth o x as _ _, k, loc, h => wpE G d o (KMeth G d x (wpEs G d as) (KTru k) loc) loc h
  | _, _, _, _ => False
noncomputable def wpC (G : Gd) (d : Nat) (op : BoolOp) : EL → Bool → (Bool → SH → Prop) → Loc → SH → Prop
  | .nil, b, k, _, h => k b h
  | .cons e r, b, k, loc, h => if b = isAnd op then wpT G d e (KC (wpC G d op r) k loc) loc h else k b h
end
noncomputable def setAll (loc : Loc) : List (Nat × Pos) → List SV → Loc
  | [], _ => loc
  | _ :: _, [] => loc
  | q :: is, v :: vs => setAll (loc.set q.1 (some v)) is vs
section
variable (G : Gd) (d : Nat)
noncomputable def KSetA (n : Nat) (x : SV) (R : SH → Prop) : QV := fun o h => setAttrW G o n x R h
noncomputable def KSetS2 (o x : SV) (R : SH → Prop) : QV := fun i h => setSubW o i x R h
noncomputable def KSetS (W : WV) (x : SV) (R : SH → Prop) (loc : Loc) : QV := fun o h => W (KSetS2 o x R) loc h
noncomputable def tupW (v : SV) (k : List SV → Prop) : Prop := match v with
  | .tup l => k l
  | _ => False
theorem tupW_ex {v : SV} {k : List SV → Prop} (z : tupW v k) : ∃ l, v = .tup l ∧ k l := by
  cases v <;> first | exact ⟨_, rfl, z⟩ | exact z.elim
end
noncomputable def wpA (G : Gd) (d : Nat) (t : T) (v : SV) (k : Loc → SH → Prop) (loc : Loc) (h : SH) : Prop := match t with
  | .loc i _ => k (loc.set i (some v)) h
  | .attr e x _ => wpE G d e (KSetA G x v (k loc)) loc h
  | .sub e i _ => wpE G d e (KSetS (wpE G d i) v (k loc) loc) loc h
  | .tup is _ _ => tupW v fun l => gd (Nat.beq l.length is.length) (k (setAll loc is l) h)
noncomputable abbrev KF := Fl → Loc → SH → Prop
noncomputable abbrev WB := KF → Loc → SH → Prop
noncomputable def KLp (R : Loc → SH → Prop) (K : KF) : KF := fun fl loc h => match fl with
  | .next => R loc h
  | .cont => R loc h
  | .brk => K .next loc h
  | .ret v => K (.ret v) loc h
noncomputable def KFb (B : WB) (R : Loc → SH → Prop) (K : KF) : Loc → SH → Prop := fun loc h => B (KLp R K) loc h
noncomputable def forN (chk : SH → Prop) (As : SV → (Loc → SH → Prop) → Loc → SH → Prop) (B : WB) (K : KF) : List SV → Loc → SH → Prop
  | [] => fun loc h => chk h ∧ K .next loc h
  | x :: xs => fun loc h => chk h ∧ As x (KFb B (forN chk As B K xs) K) loc h
noncomputable def KWb (B : WB) (R : Loc → SH → Prop) (K : KF) (loc : Loc) : Bool → SH → Prop := fun b h => if b = true then B (KLp R K) loc h else K .next loc h
noncomputable def whileN (Tst : WT) (B : WB) (K : KF) : Nat → Loc → SH → Prop
  | 0 => fun _ _ => False
  | n + 1 => fun loc h => Tst (KWb B (whileN Tst B K n) K loc) loc h
section
variable (G : Gd) (d : Nat)
noncomputable def KNx (K : KF) : Loc → SH → Prop := fun loc h => K .next loc h
noncomputable def KExp (K : KF) (loc : Loc) : QV := fun _ h => K .next loc h
noncomputable def KAss (t : T) (K : KF) (loc : Loc) : QV := fun x h => wpA G d t x (KNx K) loc h
noncomputable def augW (op : Operator) (x y : SV) (k : SV → Prop) : Prop := match x, y with
  | .int a, .int b => binI op a b fun z => k (.int z)
  | _, _ => False
theorem augW_ex {op : Operator} {x y : SV} {k : SV → Prop} (z : augW op x y k) : ∃ a b, x = .int a ∧ y = .int b ∧ binI op a b fun z => k (.int z) := by
  cases x <;> first | exact z.elim | (cases y <;> first | exact z.elim | exact ⟨_, _, rfl, rfl, z⟩)
noncomputable def KAug2 (op : Operator) (n : Nat) (x : SV) (K : KF) (loc : Loc) : QV := fun y h => augW op x y fun z => K .next (loc.set n (some z)) h
noncomputable def KAug (op : Operator) (n : Nat) (W : WV) (K : KF) (loc : Loc) (h : SH) : SV → Prop := fun x => W (KAug2 op n x K loc) loc h
noncomputable def KAgA3 (op : Operator) (n : Nat) (o x : SV) (K : KF) (loc : Loc) : QV := fun y h => augW op x y fun z => setAttrW G o n z (KNx K loc) h
noncomputable def KAgA2 (op : Operator) (n : Nat) (W : WV) (o : SV) (K : KF) (loc : Loc) : QV := fun x h => W (KAgA3 G op n o x K loc) loc h
noncomputable def KAgA (op : Operator) (n : Nat) (W : WV) (K : KF) (loc : Loc) : QV := fun o h => attrW G o n (KAgA2 G op n W o K loc) h
noncomputable def KAgI4 (op : Operator) (o i x : SV) (K : KF) (loc : Loc) : QV := fun y h => augW op x y fun z => setSubW o i z (KNx K loc) h
noncomputable def KAgI3 (op : Operator) (W : WV) (o i : SV) (K : KF) (loc : Loc) : QV := fun x h => W (KAgI4 op o i x K loc) loc h
noncomputable def KAgI2 (op : Operator) (W : WV) (o : SV) (K : KF) (loc : Loc) : QV := fun i h => (∃ a, o = .ref a) ∧ subW o i (KAgI3 op W o i K loc) h
noncomputable def KAgI (op : Operator) (Wi W : WV) (K : KF) (loc : Loc) : QV := fun o h => Wi (KAgI2 op W o K loc) loc h
noncomputable def KIf (A B : WB) (K : KF) (loc : Loc) : Bool → SH → Prop := fun c h => if c = true then A K loc h else B K loc h
noncomputable def KFor2 (t : T) (B : WB) (K : KF) (loc : Loc) (h : SH) : List SV → (SH → Prop) → Prop := fun u chk => forN chk (wpA G d t) B K u loc h
noncomputable def KFor (t : T) (B : WB) (K : KF) (loc : Loc) : QV := fun x h => itemsW x (KFor2 G d t B K loc h) h
noncomputable def KRet (K : KF) (loc : Loc) : QV := fun x h => K (.ret x) loc h
noncomputable def KB (B : WB) (K : KF) : KF := fun fl loc h => match fl with
  | .next => B K loc h
  | .brk => K .brk loc h
  | .cont => K .cont loc h
  | .ret v => K (.ret v) loc h
end
mutual
noncomputable def wpS (G : Gd) (d : Nat) : S → KF → Loc → SH → Prop
  | .expr e _, K, loc, h => wpE G d e (KExp K loc) loc h
  | .assign t e _, K, loc, h => wpE G d e (KAss G d t K loc) loc h
  | .augL i _ op e _, K, loc, h => locW loc i (KAug op i (wpE G d e) K loc h)
  | .augA o x _ op e _, K, loc, h => wpE G d o (KAgA G op x (wpE G d e) K loc) loc h
  | .augI o i _ op e _, K, loc, h => wpE G d o (KAgI op (wpE G d i) (wpE G d e) K loc) loc h
  | .if_ t a b _, K, loc, h => wpT G d t (KIf (wpB G d a) (wpB G d b) K loc) loc h
  | .while_ t a _, K, loc, h => ∃ n, whileN (wpT G d t) (wpB G d a) K n loc h
  | .for_ t e a _, K, loc, h => wpE G d e (KFor G d t (wpB G d a) K loc) loc h
  | .ret e _, K, loc, h => wpE G d e (KRet K loc) loc h
  | .brk _, K, loc, h => K .brk loc h
  | .cont _, K, loc, h => K .cont loc h
  | .try_ a _ _, K, loc, h => wpB G d a K loc h
  | .raw _, _, _, _ => False
noncomputable def wpB (G : Gd) (d : Nat) : SL → KF → Loc → SH → Prop
  | .nil, K, loc, h => K .next loc h
  | .cons s r, K, loc, h => wpS G d s (KB (wpB G d r) K) loc h
end
structure Cx where
  N : Nm
  sc : Scope
  acc : List Bool
  gk : List Nat
noncomputable def Cx.sees (C : Cx) (i : Nat) : Bool := C.acc.getD i false
noncomputable def Cx.inner (C : Cx) (i : Nat) (sc : Scope) : Cx where
  N := C.N
  sc := { sc with names := sc.names.map fun x => if x.2 == .free && C.sc.names.lookup x.1 == some .cell then (x.1, .cell) else x }
  acc := (List.range C.acc.length).map fun j => j == i || (C.sees j && sc.names.lookup (C.N.n j) == some .free && C.sc.names.lookup (C.N.n j) == some .cell)
  gk := (List.range C.N.gl.length).filter fun j => sc.names.lookup (C.N.g j) == some .globalImplicit
noncomputable def Cx.okAt (C : Cx) (j : Nat) : Bool := (C.sc.names.lookup (C.N.n j) == some .local || C.sc.names.lookup (C.N.n j) == some .cell) && !(C.N.n j == ("__debug__" : Str)) &&
  (List.range C.acc.length).all fun k => !C.sees k || !(decide (C.N.n j = C.N.n k)) || decide (j = k)
noncomputable def Cx.ok (C : Cx) : Bool := C.sc.kind == .function && (List.range C.acc.length).all (fun j => !C.sees j || C.okAt j) && C.sc.names.lookup ("super" : Str) != some .globalImplicit &&
  C.gk.all fun j => C.sc.names.lookup (C.N.g j) == some .globalImplicit && !(C.N.g j == ("__debug__" : Str))
noncomputable def Cx.compOk (C : Cx) (i : Nat) (sc : Scope) : Bool :=
  sc.kind == .function && sc.names.all (fun x => x.2 != .cell && (x.2 != .free || C.sc.names.lookup x.1 == some .cell) && sc.names.lookup x.1 == some x.2) &&
  sc.names.lookup (C.N.n i) == some .local && decide (i < C.acc.length) && (C.inner i sc).ok
noncomputable def E.isGlob : E → Bool
  | .glob _ _ => true
  | _ => false
noncomputable def EL.len : EL → Nat
  | .nil => 0
  | .cons _ r => r.len + 1
mutual
noncomputable def E.wf (C : Cx) : E → Bool
  | .none _ | .bool _ _ | .int _ _ | .byt _ _ | .dict0 _ => true
  | .loc i _ => C.sees i
  | .glob j _ => C.gk.contains j
  | .attr e _ _ => e.wf C
  | .sub e i _ => e.wf C && i.wf C
  | .slTo e i _ _ => e.wf C && i.wf C
  | .slFrom e i _ _ => e.wf C && i.wf C
  | .bin _ a b _ => a.wf C && b.wf C
  | .neg a _ => a.wf C
  | .not a _ => a.wf C
  | .bop _ a r _ => a.wf C && r.wf C
  | .cmp _ a b _ => a.wf C && b.wf C
  | .ite t a b _ => t.wf C && a.wf C && b.wf C
  | .list es _ => es.wf C
  | .tup es _ _ => es.wf C
  | .call f args _ => f.isGlob && f.wf C && args.wf C
  | .meth o _ args ap p => o.wf C && args.wf C && decide (args.len < 29) && ap.endLine == p.line
  | .comp elt i _ it ifs sc _ => it.wf C && C.compOk i sc && elt.wf (C.inner i sc) && ifs.wf (C.inner i sc)
noncomputable def EL.wf (C : Cx) : EL → Bool
  | .nil => true
  | .cons e r => e.wf C && r.wf C
end
noncomputable def E.isComp : E → Bool
  | .comp .. => true
  | _ => false
noncomputable def E.isTup : E → Bool
  | .tup .. => true
  | _ => false
noncomputable def T.isTup : T → Bool
  | .tup .. => true
  | _ => false
noncomputable def augOk : Operator → Bool
  | .Add | .Sub | .Mult => true
  | _ => false
noncomputable def T.wf (C : Cx) : T → Bool
  | .loc i _ => C.sees i
  | .attr e _ _ => e.wf C
  | .sub e i _ => e.wf C && i.wf C
  | .tup is _ _ => is.all fun q => C.sees q.1
mutual
noncomputable def S.wf (C : Cx) : S → Bool
  | .expr e _ => e.wf C && !e.isComp
  | .assign t e _ => t.wf C && e.wf C && (!t.isTup || !e.isTup)
  | .augL i _ op e _ => C.sees i && e.wf C && augOk op
  | .augA o _ _ op e _ => o.wf C && e.wf C && augOk op
  | .augI o i _ op e _ => o.wf C && i.wf C && e.wf C && augOk op
  | .if_ t a b _ => t.wf C && a.wf C && b.wf C
  | .while_ t a _ => t.wf C && a.wf C
  | .for_ t e a _ => t.wf C && e.wf C && a.wf C
  | .ret e _ => e.wf C
  | .try_ a _ _ => a.wf C
  | .brk _ | .cont _ | .raw _ => true
noncomputable def SL.wf (C : Cx) : SL → Bool
  | .nil => true
  | .cons s r => s.wf C && r.wf C
end
end Mine
namespace Mine
noncomputable def Own (env : Env) (b : Addr) : Prop := b = env.locals ∨ ∃ x, env.cells.lookup x = some b
structure EnvS (C : Cx) (env : Env) : Prop where
  names : env.scope.names = C.sc.names
  kind : env.scope.kind = .function
  globals : env.globals = mainGlobals
  builtins : env.builtins = builtinsNs
  kinds : ∀ i, C.sees i = true → env.kindOf (C.N.n i) = some .local ∨ (env.kindOf (C.N.n i) = some .cell ∧ ∃ c, env.cells.lookup (C.N.n i) = some c)
  nosuper : (env.kindOf "super" != some .globalImplicit) = true
  gks : ∀ j ∈ C.gk, env.kindOf (C.N.g j) = some .globalImplicit ∧ (C.N.g j == ("__debug__" : Str)) = false
  inj : ∀ i j, C.sees i = true → C.sees j = true → C.N.n i = C.N.n j → i = j
  dbg : ∀ i, C.sees i = true → (C.N.n i == ("__debug__" : Str)) = false
  cells : ∀ x, C.sc.names.lookup x = some .cell → ∃ c, env.cells.lookup x = some c
  apart : ∀ x y c, env.cells.lookup x = some c → env.cells.lookup y = some c → x = y
  lneq : ∀ x c, env.cells.lookup x = some c → c ≠ env.locals
structure Dyn (G : Gd) (C : Cx) (env : Env) (σ : SH) (loc : Loc) (s : Shared) : Prop where
  ns : ∃ m, s.heap.Ns env.locals m ∧ ∀ i sv, C.sees i = true → env.kindOf (C.N.n i) = some .local → loc[i]? = some (some sv) → ∃ v, m (C.N.n i) = some v ∧ VR s.heap sv v
  cs : ∀ x c, env.cells.lookup x = some c → ∃ ov, s.heap.IsCell c ov ∧ ∀ i sv, C.sees i = true → C.N.n i = x → env.kindOf x = some .cell → loc[i]? = some (some sv) → ∃ v, ov = some v ∧ VR s.heap sv v
  own : ∀ b, Own env b → s.heap.get? b ≠ none ∧ ¬ Foot σ b ∧ G.H0.get? b = none
theorem Dyn.step {G : Gd} {C : Cx} {env : Env} {σ σ' : SH} {loc : Loc} {s s' : Shared} {W : Addr → Prop} (D : Dyn G C env σ loc s) (x : Step W σ s σ' s') (hw : ∀ b, Own env b → ¬ W b) : Dyn G C env σ' loc s' where
  ns := by
    obtain ⟨m, ⟨o, es, ep, ho, r⟩, k⟩ := D.ns
    refine ⟨m, ⟨o, es, ep, x.pres _ _ ho (D.own _ (.inl rfl)).2.1 (hw _ (.inl rfl)), r⟩, fun i sv a b c => ?_⟩
    obtain ⟨v, e, f⟩ := k i sv a b c
    exact ⟨v, e, f.mono x.tup⟩
  cs := fun y c hc => by
    obtain ⟨ov, ⟨o, ho, hd⟩, k⟩ := D.cs y c hc
    refine ⟨ov, ⟨o, x.pres _ _ ho (D.own c (.inr ⟨y, hc⟩)).2.1 (hw _ (.inr ⟨y, hc⟩)), hd⟩, fun i sv a b e f => ?_⟩
    obtain ⟨v, g, r⟩ := k i sv a b e f
    exact ⟨v, g, r.mono x.tup⟩
  own := fun b hb => by
    obtain ⟨h1, h2, h3⟩ := D.own b hb
    refine ⟨x.dom b (hw b hb) h1, fun f => ?_, h3⟩
    rcases x.foot b f with q | q | q
    · exact h2 q
    · exact h1 q
    · exact hw b hb q
theorem Dyn.step0 {G : Gd} {C : Cx} {env : Env} {σ σ' : SH} {loc : Loc} {s s' : Shared} (D : Dyn G C env σ loc s) (x : Step (fun _ => False) σ s σ' s') : Dyn G C env σ' loc s' := D.step x fun _ _ f => f
theorem Post.trans {G : Gd} {σ σ1 : SH} {s s1 s2 : Shared} {Q : SV → SH → Prop} {v : Value} (x : Step (fun _ => False) σ s σ1 s1) (h : Post G σ1 s1 Q v s2) : Post G σ s Q v s2 := by
  obtain ⟨sv, σ', st, R, V, q⟩ := h
  exact ⟨sv, σ', x.trans st, R, V, q⟩
theorem Post.same {G : Gd} {σ : SH} {s : Shared} {Q : SV → SH → Prop} {v : Value} {sv : SV} (R : Rep G σ s) (V : VR s.heap sv v) (q : Q sv σ) : Post G σ s Q v s := ⟨sv, σ, Step.refl .., R, V, q⟩
theorem Post.tok {G : Gd} {σ : SH} {s : Shared} {Q : SV → SH → Prop} {v : Value} {sv : SV} (t : Nat) (R : Rep G σ s) (V : VR s.heap sv v) (q : Q sv σ) : Post G σ s Q v { s with toks := t } := ⟨sv, σ, (Step.refl ..).tok t, R.tok t, V, q⟩
inductive PostB (G : Gd) (σ : SH) (s : Shared) (k : Bool → SH → Prop) (b : Bool) (s' : Shared) : Prop where
  | mk (σ' : SH) (st : Step (fun _ => False) σ s σ' s') (R : Rep G σ' s') (q : k b σ')
theorem PostB.trans {G : Gd} {σ σ1 : SH} {s s1 s2 : Shared} {k : Bool → SH → Prop} {b : Bool} (x : Step (fun _ => False) σ s σ1 s1) (h : PostB G σ1 s1 k b s2) : PostB G σ s k b s2 := by
  obtain ⟨σ', st, R, q⟩ := h
  exact ⟨σ', x.trans st, R, q⟩
inductive PostU (G : Gd) (σ : SH) (s : Shared) (k : SH → Prop) (u : Unit) (s' : Shared) : Prop where
  | mk (σ' : SH) (st : Step (fun _ => False) σ s σ' s') (R : Rep G σ' s') (q : k σ')
theorem Foot.cls {G : Gd} {σ : SH} {s : Shared} (R : Rep G σ s) {b : Addr} (f : Foot σ b) : ∃ o, s.heap.get? b = some o ∧ ¬ (o.cls = .type "tuple" ∨ o.cls = .type "range") := by
  rcases f with ⟨o, e⟩ | ⟨a, c, m, e⟩
  · have z := R.objs b o e
    cases o with
    | list l => obtain ⟨vs, n, e1, _⟩ := z; exact ⟨_, e1, by simp⟩
    | dict m ep =>
      obtain ⟨vs, ⟨o, es, ho, hc, _⟩, _⟩ := z
      exact ⟨o, ho, by rw [hc.1]; simp⟩
    | inst c d m => obtain ⟨_, e1, _⟩ := z; exact ⟨_, e1, by simp⟩
  · obtain ⟨_, _, es, n, e1, _⟩ := R.objs a _ e
    exact ⟨_, e1, by simp⟩
theorem Foot.some {G : Gd} {σ : SH} {s : Shared} (R : Rep G σ s) {b : Addr} (f : Foot σ b) : s.heap.get? b ≠ none := by
  obtain ⟨o, e, _⟩ := f.cls R
  rw [e]; simp
theorem ObjAt.keep {G : Gd} {h h' : Heap} {a : Addr} {o : SO} (x : ObjAt G h a o) (k : TupKeep h h') (ka : ∀ b, b = a ∨ (∃ c m, o = .inst c b m) → ∀ ob, h.get? b = some ob → h'.get? b = some ob) : ObjAt G h' a o := by
  cases o with
  | list l => obtain ⟨vs, n, e1, e2⟩ := x; exact ⟨vs, n, ka a (.inl rfl) _ e1, e2.mono k⟩
  | dict m ep =>
    obtain ⟨vs, ⟨o, es, ho, r⟩, e2⟩ := x
    exact ⟨vs, ⟨o, es, ka a (.inl rfl) _ ho, r⟩, e2.mono k⟩
  | inst c d m =>
    obtain ⟨hc, e1, es, n, e2, ks, q1, q2, q3, q4⟩ := x
    refine ⟨hc, ka a (.inl rfl) _ e1, es, n, ka d (.inr ⟨c, m, rfl⟩) _ e2, ks, q1, q2, q3, fun x => ?_⟩
    have z := q4 x
    split
    · rename_i e; rw [e] at z; exact z
    · rename_i p e; rw [e] at z; obtain ⟨sv, z1, z2⟩ := z; exact ⟨sv, z1, z2.mono k⟩
theorem grow {G : Gd} {σ : SH} {s : Shared} (R : Rep G σ s) {h' : Heap} (t : Nat) (k : ∀ b o, s.heap.get? b = some o → h'.get? b = some o) :
    Step (fun _ => False) σ s σ { s with heap := h', toks := t } ∧ Rep G σ { s with heap := h', toks := t } := by
  have dm : ∀ b, s.heap.get? b ≠ none → h'.get? b ≠ none := by
    intro b e
    cases z : s.heap.get? b with
    | none => exact absurd z e
    | some o => rw [k b o z]; simp
  exact ⟨⟨fun b o e _ _ => k b o e, fun _ f => .inl f, fun b _ => dm b, fun a o e _ => k a o e, rfl, rfl, rfl⟩,
   ⟨fun b o e => k b o (R.base b o e), R.new, fun a o e => (R.objs a o e).keep (fun a o e _ => k a o e) (fun b _ ob e => k b ob e), R.inj, R.apart⟩⟩
theorem lt_size_of {h : Heap} {b : Addr} {o : Obj} (e : h.get? b = some o) : b < h.objs.size := Heap.lt_size e
theorem fresh_none {G : Gd} {σ : SH} {s : Shared} (R : Rep G σ s) : σ s.heap.objs.size = none ∧ ¬ Foot σ s.heap.objs.size ∧ G.H0.get? s.heap.objs.size = none := by
  have nf : ¬ Foot σ s.heap.objs.size := fun f => by
    obtain ⟨o, e, _⟩ := f.cls R
    exact Nat.lt_irrefl _ (lt_size_of e)
  refine ⟨?_, nf, ?_⟩
  · cases z : σ s.heap.objs.size with
    | none => rfl
    | some o => exact absurd (.inl ⟨o, z⟩) nf
  · cases z : G.H0.get? s.heap.objs.size with
    | none => rfl
    | some o => exact absurd (lt_size_of (R.base _ _ z)) (Nat.lt_irrefl _)
theorem upd_same (σ : SH) (a : Addr) (o : SO) : upd σ a o a = some o := if_pos rfl
theorem upd_ne (σ : SH) {a b : Addr} (o : SO) (h : b ≠ a) : upd σ a o b = σ b := if_neg h
theorem no_ne {α : Type} {a : α} {P : Prop} (h : none = some a) : P := nomatch h
theorem ne_none {α : Type} {o : Option α} {a : α} (h : o = some a) : o ≠ none := fun q => no_ne (q.symm.trans h)
theorem upd_is {σ : SH} {a : Addr} {o o' : SO} (h : upd σ a o a = some o') : o = o' := Option.some.inj ((upd_same _ _ _).symm.trans h)
theorem inst_d {c d c' d' : Addr} {m m' : Nat → Option SV} (h : SO.inst c d m = .inst c' d' m') : d' = d := by cases h; rfl
theorem dd_of {G : Gd} {σ : SH} {s : Shared} (R : Rep G σ s) {a c d : Addr}
    (hold : (s.heap.get? a = none ∧ G.H0.get? a = none ∧ s.heap.get? d = none ∧ G.H0.get? d = none ∧ a ≠ d) ∨ (∃ m₀, σ a = some (.inst c d m₀))) :
    σ d = none ∧ d ≠ a ∧ ∀ {a1 c1 d1 m1}, a1 ≠ a → σ a1 = some (.inst c1 d1 m1) → d1 ≠ d ∧ d1 ≠ a := by
  rcases hold with z | ⟨m₀, z⟩
  · have no : ∀ {b}, s.heap.get? b = none → ¬ Foot σ b := fun e f => by
      obtain ⟨ob, ez, _⟩ := Foot.cls R f
      exact no_ne (e.symm.trans ez)
    refine ⟨?_, fun q => z.2.2.2.2 q.symm, fun {a1 c1 d1 m1} _ e => ⟨fun q => no z.2.2.1 (q ▸ .inr ⟨_, _, _, e⟩), fun q => no z.1 (q ▸ .inr ⟨_, _, _, e⟩)⟩⟩
    cases q : σ d with
    | none => rfl
    | some o => exact absurd (.inl ⟨o, q⟩) (no z.2.2.1)
  · have ap := R.apart _ _ _ _ z
    exact ⟨ap, fun q => no_ne (ap.symm.trans ((congrArg σ q).trans z)), fun {a1 c1 d1 m1} na e => ⟨fun q => na (R.inj _ _ _ _ _ _ _ (q ▸ e) z), fun q => no_ne ((R.apart _ _ _ _ e).symm.trans (q ▸ z))⟩⟩
theorem put_obj {G : Gd} {σ : SH} {s : Shared} (R : Rep G σ s) {h' : Heap} (t : Nat) {a : Addr} {o : SO} (ni : ∀ c d m, o ≠ .inst c d m)
    (hold : (s.heap.get? a = none ∧ G.H0.get? a = none) ∨ (∃ o₀, σ a = some o₀ ∧ ∀ c d m, o₀ ≠ .inst c d m))
    (k : ∀ b ob, b ≠ a → s.heap.get? b = some ob → h'.get? b = some ob) (ho : ObjAt G h' a o) :
    Step (fun _ => False) σ s (upd σ a o) { s with heap := h', toks := t } ∧ Rep G (upd σ a o) { s with heap := h', toks := t } := by
  have nimm : ∀ ob, s.heap.get? a = some ob → ¬ (ob.cls = .type "tuple" ∨ ob.cls = .type "range") := fun ob e => hold.elim (fun q => no_ne (q.1.symm.trans e)) fun ⟨o₀, q, _⟩ => by
    obtain ⟨ob', e', c⟩ := Foot.cls R (.inl ⟨o₀, q⟩)
    exact Option.some.inj (e'.symm.trans e) ▸ c
  have tk : TupKeep s.heap h' := fun b ob e c => k b ob (fun q => nimm ob (q ▸ e) c.1) e
  have hn : G.H0.get? a = none := hold.elim (·.2) fun ⟨o₀, q, _⟩ => R.new a (.inl ⟨o₀, q⟩)
  have hh' : h'.get? a ≠ none := by
    cases o with
    | list l => obtain ⟨vs, n, e1, _⟩ := ho; exact ne_none e1
    | dict m ep => obtain ⟨vs, ⟨o, es, ho, _⟩, _⟩ := ho; exact ne_none ho
    | inst c d m => exact absurd rfl (ni c d m)
  have fin : ∀ b, Foot (upd σ a o) b → b = a ∨ Foot σ b := by
    rintro b (⟨ob, e⟩ | ⟨a', c, m, e⟩)
    · exact (Decidable.em (b = a)).imp id fun q => .inl ⟨ob, (upd_ne _ _ q).symm.trans e⟩
    · exact (Decidable.em (a' = a)).elim (fun q => absurd (upd_is (q ▸ e)) (ni _ _ _)) fun q => .inr (.inr ⟨a', c, m, (upd_ne _ _ q).symm.trans e⟩)
  have foota : Foot σ a ∨ s.heap.get? a = none := hold.elim (fun q => .inr q.1) fun ⟨o₀, q, _⟩ => .inl (.inl ⟨o₀, q⟩)
  have ap0 : ∀ {a1 c1 d1 m1}, σ a1 = some (.inst c1 d1 m1) → d1 ≠ a := fun {a1 c1 d1 m1} e q => hold.elim (fun z => by
    obtain ⟨ob, ez, _⟩ := Foot.cls R (.inr ⟨a1, c1, m1, e⟩)
    exact no_ne (z.1.symm.trans (q ▸ ez))) fun ⟨o₀, z, _⟩ => no_ne ((R.apart _ _ _ _ e).symm.trans (q ▸ z))
  refine ⟨⟨fun b ob e f _ => ?_, fun b f => ?_, fun b _ e => ?_, tk, rfl, rfl, rfl⟩, ⟨fun b ob e => ?_, fun b f => ?_, fun b ob e => ?_, fun a1 a2 c c' d m m' e1 e2 => ?_, fun a1 c d m e => ?_⟩⟩
  · exact k b ob (fun q => foota.elim (fun z => f (q ▸ z)) fun z => no_ne (z.symm.trans (q ▸ e))) e
  · exact (fin b f).elim (fun q => foota.elim (fun z => .inl (q ▸ z)) fun z => .inr (.inl (q ▸ z))) .inl
  · by_cases q : b = a
    · exact q ▸ hh'
    · cases z : s.heap.get? b with
      | none => exact absurd z e
      | some ob => exact ne_none (k b ob q z)
  · exact k b ob (fun q => no_ne (hn.symm.trans (q ▸ e))) (R.base b ob e)
  · exact (fin b f).elim (fun q => q ▸ hn) (R.new b)
  · by_cases q : b = a
    · subst q; exact upd_is e ▸ ho
    · have e := (upd_ne _ _ q).symm.trans e
      exact (R.objs b ob e).keep tk fun b' hb' o' e' => k b' o' (fun q' => hb'.elim (fun z => q (z ▸ q')) fun ⟨c, m, z⟩ => ap0 (z ▸ e) q') e'
  · by_cases q1 : a1 = a
    · exact absurd (upd_is (q1 ▸ e1)) (ni _ _ _)
    · by_cases q2 : a2 = a
      · exact absurd (upd_is (q2 ▸ e2)) (ni _ _ _)
      · exact R.inj _ _ _ _ _ _ _ ((upd_ne _ _ q1).symm.trans e1) ((upd_ne _ _ q2).symm.trans e2)
  · by_cases q1 : a1 = a
    · exact absurd (upd_is (q1 ▸ e)) (ni _ _ _)
    · have e := (upd_ne _ _ q1).symm.trans e
      rw [upd_ne _ _ (ap0 e)]; exact R.apart _ _ _ _ e
end Mine
namespace Mine
theorem put_inst {G : Gd} {σ : SH} {s : Shared} (R : Rep G σ s) {h' : Heap} (t : Nat) {a c d : Addr} {m : Nat → Option SV}
    (hold : (s.heap.get? a = none ∧ G.H0.get? a = none ∧ s.heap.get? d = none ∧ G.H0.get? d = none ∧ a ≠ d) ∨ (∃ m₀, σ a = some (.inst c d m₀)))
    (k : ∀ b ob, b ≠ a → b ≠ d → s.heap.get? b = some ob → h'.get? b = some ob) (ho : ObjAt G h' a (.inst c d m)) :
    Step (fun _ => False) σ s (upd σ a (.inst c d m)) { s with heap := h', toks := t } ∧ Rep G (upd σ a (.inst c d m)) { s with heap := h', toks := t } := by
  have dn := dd_of R hold
  have hn : G.H0.get? a = none ∧ G.H0.get? d = none := hold.elim (fun q => ⟨q.2.1, q.2.2.2.1⟩) fun ⟨m₀, q⟩ => ⟨R.new a (.inl ⟨_, q⟩), R.new d (.inr ⟨_, _, _, q⟩)⟩
  have foot' : ∀ b, b = a ∨ b = d → Foot σ b ∨ s.heap.get? b = none := fun b hb => hold.elim (fun q => .inr (hb.elim (fun z => z ▸ q.1) fun z => z ▸ q.2.2.1)) fun ⟨m₀, q⟩ => .inl (hb.elim (fun z => z ▸ .inl ⟨_, q⟩) fun z => z ▸ .inr ⟨_, _, _, q⟩)
  have nimm : ∀ b, b = a ∨ b = d → ∀ ob, s.heap.get? b = some ob → ¬ (ob.cls = .type "tuple" ∨ ob.cls = .type "range") := fun b hb ob e => (foot' b hb).elim (fun f => by
    obtain ⟨ob', e', c⟩ := Foot.cls R f
    exact Option.some.inj (e'.symm.trans e) ▸ c) fun z => no_ne (z.symm.trans e)
  have tk : TupKeep s.heap h' := fun b ob e c => k b ob (fun q => nimm b (.inl q) ob e c.1) (fun q => nimm b (.inr q) ob e c.1) e
  have hha : h'.get? a ≠ none := by obtain ⟨_, e1, _⟩ := ho; exact ne_none e1
  have hhd : h'.get? d ≠ none := by obtain ⟨_, _, es, n, e1, _⟩ := ho; exact ne_none e1
  have fin : ∀ b, Foot (upd σ a (.inst c d m)) b → (b = a ∨ b = d) ∨ Foot σ b := by
    rintro b (⟨ob, e⟩ | ⟨a', c, m, e⟩)
    · exact (Decidable.em (b = a)).imp .inl fun q => .inl ⟨ob, (upd_ne _ _ q).symm.trans e⟩
    · exact (Decidable.em (a' = a)).elim (fun q => .inl (.inr (inst_d (upd_is (q ▸ e))))) fun q => .inr (.inr ⟨a', c, m, (upd_ne _ _ q).symm.trans e⟩)
  clear hold
  refine ⟨⟨fun b ob e f _ => ?_, fun b f => ?_, fun b _ e => ?_, tk, rfl, rfl, rfl⟩, ⟨fun b ob e => ?_, fun b f => ?_, fun b ob e => ?_, fun a1 a2 c1 c2 d1 m1 m2 e1 e2 => ?_, fun a1 c1 d1 m1 e => ?_⟩⟩
  · have go : ∀ q : b = a ∨ b = d, False := fun q => (foot' b q).elim f fun z => no_ne (z.symm.trans e)
    exact k b ob (fun q => go (.inl q)) (fun q => go (.inr q)) e
  · exact (fin b f).elim (fun q => (foot' b q).imp id .inl) .inl
  · by_cases q : b = a
    · exact q ▸ hha
    · by_cases q2 : b = d
      · exact q2 ▸ hhd
      · cases z : s.heap.get? b with
        | none => exact absurd z e
        | some ob => exact ne_none (k b ob q q2 z)
  · exact k b ob (fun q => no_ne (hn.1.symm.trans (q ▸ e))) (fun q => no_ne (hn.2.symm.trans (q ▸ e))) (R.base b ob e)
  · exact (fin b f).elim (fun q => q.elim (fun q => q ▸ hn.1) fun q => q ▸ hn.2) (R.new b)
  · by_cases q : b = a
    · subst q; exact upd_is e ▸ ho
    · have e := (upd_ne _ _ q).symm.trans e
      exact (R.objs b ob e).keep tk fun b' hb' o' e' => k b' o' (fun q' => hb'.elim (fun z => q (z ▸ q')) fun ⟨c1, m1, z⟩ => (dn.2.2 q (z ▸ e)).2 q')
        (fun q' => hb'.elim (fun z => no_ne (dn.1.symm.trans (q' ▸ z ▸ e))) fun ⟨c1, m1, z⟩ => (dn.2.2 q (z ▸ e)).1 q') e'
  · by_cases q1 : a1 = a
    · by_cases q2 : a2 = a
      · exact q1.trans q2.symm
      · exact absurd (inst_d (upd_is (q1 ▸ e1))) (dn.2.2 q2 ((upd_ne _ _ q2).symm.trans e2)).1
    · by_cases q2 : a2 = a
      · exact absurd (inst_d (upd_is (q2 ▸ e2))) (dn.2.2 q1 ((upd_ne _ _ q1).symm.trans e1)).1
      · exact R.inj _ _ _ _ _ _ _ ((upd_ne _ _ q1).symm.trans e1) ((upd_ne _ _ q2).symm.trans e2)
  · by_cases q1 : a1 = a
    · have q := inst_d (upd_is (q1 ▸ e))
      rw [q, upd_ne _ _ dn.2.1]; exact dn.1
    · have e := (upd_ne _ _ q1).symm.trans e
      rw [upd_ne _ _ (dn.2.2 q1 e).2]; exact R.apart _ _ _ _ e
end Mine
namespace Mine
theorem slot_b_lt : Slot "bytes" (cmpInfo .Lt).2.1 "bytes.__lt__" :=
  .of (owner := "bytes") (n := "__lt__") (by rw [typeLookup_type, builtinLookup_eq_fast]; kernel_rfl) (by decide +kernel) (by decide +kernel) (by decide +kernel)
    (by first | exact .inl (by decide +kernel) | exact .inr (by decide +kernel)) (by rw [isSubtype_type]; kernel_rfl)
theorem slot_b_le : Slot "bytes" (cmpInfo .LtE).2.1 "bytes.__le__" :=
  .of (owner := "bytes") (n := "__le__") (by rw [typeLookup_type, builtinLookup_eq_fast]; kernel_rfl) (by decide +kernel) (by decide +kernel) (by decide +kernel)
    (by first | exact .inl (by decide +kernel) | exact .inr (by decide +kernel)) (by rw [isSubtype_type]; kernel_rfl)
theorem slot_b_gt : Slot "bytes" (cmpInfo .Gt).2.1 "bytes.__gt__" :=
  .of (owner := "bytes") (n := "__gt__") (by rw [typeLookup_type, builtinLookup_eq_fast]; kernel_rfl) (by decide +kernel) (by decide +kernel) (by decide +kernel)
    (by first | exact .inl (by decide +kernel) | exact .inr (by decide +kernel)) (by rw [isSubtype_type]; kernel_rfl)
theorem slot_b_ge : Slot "bytes" (cmpInfo .GtE).2.1 "bytes.__ge__" :=
  .of (owner := "bytes") (n := "__ge__") (by rw [typeLookup_type, builtinLookup_eq_fast]; kernel_rfl) (by decide +kernel) (by decide +kernel) (by decide +kernel)
    (by first | exact .inl (by decide +kernel) | exact .inr (by decide +kernel)) (by rw [isSubtype_type]; kernel_rfl)
theorem entry_b_lt : entryFor table "bytes.__lt__" = some Builtin.«bytes.__lt__» := entryFor_of_tree (by kernel_rfl)
theorem entry_b_le : entryFor table "bytes.__le__" = some Builtin.«bytes.__le__» := entryFor_of_tree (by kernel_rfl)
theorem entry_b_gt : entryFor table "bytes.__gt__" = some Builtin.«bytes.__gt__» := entryFor_of_tree (by kernel_rfl)
theorem entry_b_ge : entryFor table "bytes.__ge__" = some Builtin.«bytes.__ge__» := entryFor_of_tree (by kernel_rfl)
theorem args_b_lt (a b : Value) : argsOk "bytes.__lt__" ⟨[a, b], []⟩ := by unfold argsOk; kernel_rfl
theorem args_b_le (a b : Value) : argsOk "bytes.__le__" ⟨[a, b], []⟩ := by unfold argsOk; kernel_rfl
theorem args_b_gt (a b : Value) : argsOk "bytes.__gt__" ⟨[a, b], []⟩ := by unfold argsOk; kernel_rfl
theorem args_b_ge (a b : Value) : argsOk "bytes.__ge__" ⟨[a, b], []⟩ := by unfold argsOk; kernel_rfl
theorem gives_b_lt (b c : Array UInt8) (t u : Tok) : Gives (Builtin.«bytes.__lt__» ⟨[.bytes b t, .bytes c u], []⟩) (.val (.bool (bord b c == .lt))) := by
  refine .of_wp fun M A E s Q hq => ?_
  show wpAny M A (isInstance (.bytes c u) (.type "bytes") >>= fun r => _) _ E s
  refine wpAny_bind (wpAny_isInstance (typeIs_bytes s c u) F.sub_bytes_bytes ?_)
  exact wpAny_pure ⟨_, rfl, hq⟩
theorem gives_b_le (b c : Array UInt8) (t u : Tok) : Gives (Builtin.«bytes.__le__» ⟨[.bytes b t, .bytes c u], []⟩) (.val (.bool (bord b c != .gt))) := by
  refine .of_wp fun M A E s Q hq => ?_
  show wpAny M A (isInstance (.bytes c u) (.type "bytes") >>= fun r => _) _ E s
  refine wpAny_bind (wpAny_isInstance (typeIs_bytes s c u) F.sub_bytes_bytes ?_)
  exact wpAny_pure ⟨_, rfl, hq⟩
theorem gives_b_gt (b c : Array UInt8) (t u : Tok) : Gives (Builtin.«bytes.__gt__» ⟨[.bytes b t, .bytes c u], []⟩) (.val (.bool (bord b c == .gt))) := by
  refine .of_wp fun M A E s Q hq => ?_
  show wpAny M A (isInstance (.bytes c u) (.type "bytes") >>= fun r => _) _ E s
  refine wpAny_bind (wpAny_isInstance (typeIs_bytes s c u) F.sub_bytes_bytes ?_)
  exact wpAny_pure ⟨_, rfl, hq⟩
theorem gives_b_ge (b c : Array UInt8) (t u : Tok) : Gives (Builtin.«bytes.__ge__» ⟨[.bytes b t, .bytes c u], []⟩) (.val (.bool (bord b c != .lt))) := by
  refine .of_wp fun M A E s Q hq => ?_
  show wpAny M A (isInstance (.bytes c u) (.type "bytes") >>= fun r => _) _ E s
  refine wpAny_bind (wpAny_isInstance (typeIs_bytes s c u) F.sub_bytes_bytes ?_)
  exact wpAny_pure ⟨_, rfl, hq⟩
end Mine
namespace Mine
section
variable {G : Gd} {A : Around} {σ : SH} {s : Shared} {Q : SV → SH → Prop}
theorem VR.int_inv {h : Heap} {i : Int} {v : Value} (e : VR h (.int i) v) : ∃ t, v = .int i t := e
theorem small_bits {a : Int} (h : small a) : Builtin.Int.intBits a ≤ 64 := by
  unfold small at h
  exact intBits_le_64 (by omega) (by omega)
theorem new_list (R : Rep G σ s) {l : List SV} {vs : List Value} (V : VRs s.heap l vs) (t : Nat) (q : newW (.list l) Q σ) :
    Post G σ s Q (.ref s.heap.objs.size) { s with heap := s.heap.push (listObj vs 0), toks := t } := by
  obtain ⟨f1, f2, f3⟩ := fresh_none R
  have k : ∀ b ob, b ≠ s.heap.objs.size → s.heap.get? b = some ob → (s.heap.push (listObj vs 0)).get? b = some ob := fun b ob _ e => Heap.get?_push_of_some _ e
  have tk : TupKeep s.heap (s.heap.push (listObj vs 0)) := fun a o e _ => Heap.get?_push_of_some _ e
  have none : s.heap.get? s.heap.objs.size = none := by
    cases z : s.heap.get? s.heap.objs.size with
    | none => rfl
    | some o => exact absurd (lt_size_of z) (Nat.lt_irrefl _)
  obtain ⟨st, R'⟩ := put_obj R t (a := s.heap.objs.size) (o := .list l) (by intro c d m e; cases e) (.inl ⟨none, f3⟩) k ⟨vs, 0, Heap.get?_push_size _ rfl, V.mono tk⟩
  exact ⟨.ref _, _, st, R', rfl, q _ f1⟩
theorem new_tup (R : Rep G σ s) {l : List SV} {vs : List Value} (V : VRs s.heap l vs) (t : Nat) (q : Q (.tup l) σ) :
    Post G σ s Q (.ref s.heap.objs.size) { s with heap := s.heap.push (tupObj vs), toks := t } := by
  obtain ⟨st, R'⟩ := grow R (h' := s.heap.push (tupObj vs)) t fun b o e => Heap.get?_push_of_some _ e
  exact ⟨.tup l, σ, st, R', ⟨_, vs, rfl, Heap.get?_push_size _ rfl, V.mono st.tup⟩, q⟩
theorem new_dict (R : Rep G σ s) (t : Nat) (q : newW (.dict [] 0) Q σ) :
    Post G σ s Q (.ref s.heap.objs.size) { s with heap := s.heap.push { cls := .type "dict", data := .dict #[] }, toks := t } := by
  obtain ⟨f1, f2, f3⟩ := fresh_none R
  have none : s.heap.get? s.heap.objs.size = none := by
    cases z : s.heap.get? s.heap.objs.size with
    | none => rfl
    | some o => exact absurd (lt_size_of z) (Nat.lt_irrefl _)
  obtain ⟨st, R'⟩ := put_obj R t (a := s.heap.objs.size) (o := .dict [] 0) (by intro c d m e; cases e) (.inl ⟨none, f3⟩) (fun b ob _ e => Heap.get?_push_of_some _ e)
    (h' := s.heap.push { cls := .type "dict", data := .dict #[] }) ⟨[], ⟨_, #[], Heap.get?_push_size _ rfl, ⟨rfl, rfl, rfl⟩, rfl, fun _ he => by simp at he, .nil, List.nodup_nil⟩, rfl⟩
  exact ⟨.ref _, _, st, R', rfl, q _ f1⟩
theorem Post.int (R : Rep G σ s) {i : Int} {u : Tok} (t : Nat) (q : Q (.int i) σ) : Post G σ s Q (.int i u) { s with toks := t } := Post.tok t R (show VR s.heap (.int i) _ from ⟨_, rfl⟩) q
theorem Post.byt (R : Rep G σ s) {i : Array UInt8} {u : Tok} (t : Nat) (q : Q (.byt i) σ) : Post G σ s Q (.bytes i u) { s with toks := t } := Post.tok t R (show VR s.heap (.byt i) _ from ⟨_, rfl⟩) q
theorem Post.bool (R : Rep G σ s) {b : Bool} (q : Q (.bool b) σ) : Post G σ s Q (.bool b) s := Post.same R (show VR s.heap (.bool b) _ from rfl) q
theorem Post.boolT (R : Rep G σ s) {b : Bool} (t : Nat) (q : Q (.bool b) σ) : Post G σ s Q (.bool b) { s with toks := t } := Post.tok t R (show VR s.heap (.bool b) _ from rfl) q
theorem op_bin (R : Rep G σ s) {op : Operator} {x y : SV} {a b : Value} (ha : VR s.heap x a) (hb : VR s.heap y b) (h : binW op x y Q σ) :
    wpAny (model G.prog G.w) A (binaryOp op a b) (Post G σ s Q) (fun _ _ => False) s := by
  cases x <;> first | exact h.elim | (cases y <;> first | exact h.elim | skip)
  · -- int int
    rename_i i j
    obtain ⟨t, rfl⟩ := ha
    obtain ⟨u, rfl⟩ := hb
    cases op <;> first | exact h.elim | skip
    · exact wpAny_add_int (Post.int R _ h)
    · exact P.sub_int (Post.int R _ h)
    · exact P.mul_int (Post.int R _ h.2) (IntMulOk.of_left (small_bits h.1))
    · have h := gd_ex h
      rw [fmd_eq] at h
      exact PyProof.Rows.mod_int (of_decide_eq_true h.1) (Post.int R _ h.2)
    · obtain ⟨h1, h⟩ := h
      obtain ⟨c, h⟩ := gd_ex h
      simp only [Bool.and_eq_true, decide_eq_true_eq] at c
      exact lshift_int_small c.1 (by omega) h1 (Post.int R _ h)
    · have h := gd_ex h
      exact rshift_int (of_decide_eq_true h.1) (Post.int R _ h.2)
    · exact or_int (Post.int R _ h)
    · exact and_int (Post.int R _ h)
    · obtain ⟨c, h⟩ := gd_ex h
      rw [fdv_eq] at h
      simp only [Bool.and_eq_true, decide_eq_true_eq] at c
      exact floordiv_int c.1 (Post.int R _ h) (.inl (PyProof.noPylong_small c.2))
  · -- bytes bytes
    obtain ⟨t, rfl⟩ := ha
    obtain ⟨u, rfl⟩ := hb
    obtain ⟨rfl, hz, hq⟩ := h
    exact KBy.add_bytes (by omega) fun t' k => Post.byt R _ hq
  · -- list * int
    cases ha
    obtain ⟨u, rfl⟩ := hb
    rename_i l i
    obtain ⟨rfl, v, hl, h0, h1, hq⟩ := h
    obtain ⟨vs, n, e1, e2⟩ := R.objs l _ hl
    obtain ⟨v', r, rfl, e3, e4⟩ := e2
    cases e4
    refine wpAny_binaryOp_repeat_ref (T := "list") (U := "int") (by decide) ⟨_, e1, rfl⟩ (fun s' => typeIs_int s' i u) noFill_list_mul F.fills_int_mul F.slot_int_rmul repeat_list F.slot_int_index.lookup
      (call_meets F.slot_int_rmul (typeIs_int s i u) F.entry_int_rmul (F.args_int_rmul_2 _ _) (int___rmul___int_list i u l _ _)
        ⟨e1, rfl, ⟨_, e1, rfl⟩, call_meets F.slot_list_mul ⟨_, e1, rfl⟩ F.entry_list_mul (F.args_list_mul_2 _ _)
          (AutoListH.list___mul___list_int_3 l _ _ i u (by simp [Builtin.List.listFitsIndex]; omega) (by simp; omega) (by simp [Builtin.List.listTooLong, sizeLine]; omega))
          ⟨e1, ?_⟩⟩)
    rw [listMul_foldl]
    have e5 : ([] ++ (List.replicate (if [v'].toArray.isEmpty = true then 0 else i.toNat) [v'].toArray.toList).flatten : List Value) = List.replicate i.toNat v' := by
      simp
    have V : VRs s.heap (List.replicate i.toNat v) (List.replicate i.toNat v') := by
      generalize i.toNat = k
      induction k with
      | zero => exact (rfl : ([] : List Value) = [])
      | succ k ih => exact ⟨v', _, rfl, e3, ih⟩
    have z := new_list R V s.toks hq
    rw [← e5] at z
    exact z
  · -- list + list
    cases ha
    cases hb
    rename_i l l'
    obtain ⟨rfl, x, y, h1, h2, hz, hq⟩ := h
    obtain ⟨vs, n, e1, e2⟩ := R.objs l _ h1
    obtain ⟨vs', n', e1', e2'⟩ := R.objs l' _ h2
    refine P.add_list e1 e1' ?_ (by simp only [List.size_toArray, e2.length, e2'.length, sizeLine_eq]; omega)
    rw [List.append_toArray]
    exact new_list R (e2.append e2') _ hq
end
end Mine
namespace Mine
section
variable {G : Gd} {A : Around} {σ : SH} {s : Shared} {Q : SV → SH → Prop} {E : Value → Shared → Prop}
theorem eqBool_bool {a b : Bool} {Q : Bool → Shared → Prop} (h : Q (a == b) s) : wpAny (model G.prog G.w) A (eqBool (.bool a) (.bool b)) Q E s := by
  have z : ∀ {a b : Bool} {Q' : Value → Shared → Prop}, Q' (.bool (a == b)) s → wpAny (model G.prog G.w) A (richCompare .Eq (.bool a) (.bool b)) Q' E s := fun q => PyProof.Rows.eq_bool q
  unfold eqBool
  show wpAny _ _ (if (Value.bool a == Value.bool b) = true then _ else _) Q E s
  by_cases hab : (Value.bool a == Value.bool b) = true
  · rw [if_pos hab]
    have e : a = b := by have := eq_of_beq hab; injection this
    subst e
    exact wpAny_bind (wpAny_rule (wpAny_pure (by simpa using h)))
  · rw [if_neg hab]
    exact wpAny_bind (z (wpAny_truthy_bool h))
theorem eqB_flat {x y : SV} {a b : Value} {r : Bool} {h : Heap} (ha : VR h x a) (hb : VR h y b) (e : flatEq x y = some r) {Q : Bool → Shared → Prop} (q : Q r s) : wpAny (model G.prog G.w) A (eqBool a b) Q E s := by
  cases x <;> first | (cases e; done) | (cases y <;> first | (cases e; done) | skip)
  · cases ha; cases hb
    exact eqBool_bool (by rw [Option.some.inj e]; exact q)
  · obtain ⟨t, rfl⟩ := ha
    obtain ⟨u, rfl⟩ := hb
    exact wpAny_eqBool_int (by rw [Option.some.inj e]; exact q)
  · obtain ⟨t, rfl⟩ := ha
    obtain ⟨u, rfl⟩ := hb
    refine PySem.W.eqBool_bytes ?_
    rename_i b1 b2
    have : decide (b1.toList = b2.toList) = (b1.toList == b2.toList) := by
      by_cases z : b1.toList = b2.toList
      · rw [decide_eq_true z]; exact (beq_iff_eq.mpr z).symm
      · rw [decide_eq_false z]; exact (beq_eq_false_iff_ne.mpr z).symm
    rw [this, Option.some.inj e]; exact q
theorem ii_ex {x y : SV} {f : Int → Int → Bool} {r : Bool} (h : ii x y f = some r) : ∃ a b, x = .int a ∧ y = .int b ∧ f a b = r := by
  cases x with
  | int a => cases y with
    | int b => exact ⟨_, _, rfl, rfl, Option.some.inj h⟩
    | _ => cases h
  | _ => cases h
theorem tcmp_cons (op : CmpOp) (a b : SV) (l l' : List SV) : tcmp op (a :: l) (b :: l') = match flatEq a b with
    | some true => tcmp op l l'
    | some false => dres op a b
    | none => none := rfl
theorem tup_loop {op : CmpOp} {h : Heap} (f : Value × Value → (Option PySem.Fin × PUnit) → Sem (ForInStep (Option PySem.Fin × PUnit)))
    (h1 : ∀ (x y : SV) (a b : Value) (Qf : ForInStep (Option PySem.Fin × PUnit) → Shared → Prop), VR h x a → VR h y b → flatEq x y = some true → Qf (.yield (none, ())) s → wpAny (model G.prog G.w) A (f (a, b) (none, ())) Qf E s)
    (h2 : ∀ (x y : SV) (a b : Value) (r : Bool) (Qf : ForInStep (Option PySem.Fin × PUnit) → Shared → Prop), VR h x a → VR h y b → flatEq x y = some false → dres op x y = some r → Qf (.done (some (.done (.ret (.bool r))), ())) s →
      wpAny (model G.prog G.w) A (f (a, b) (none, ())) Qf E s) :
    ∀ (l l' : List SV) (vs ws : List Value) (r : Bool) (Q : (Option PySem.Fin × PUnit) → Shared → Prop), VRs h l vs → VRs h l' ws → tcmp op l l' = some r →
      (Q (some (.done (.ret (.bool r))), ()) s) → (l.length = l'.length → eres op = some r → Q (none, ()) s) →
      wpAny (model G.prog G.w) A (forIn (vs.zip ws) (none, ()) f) Q E s
  | [], [], vs, ws, r, Q, e1, e2, e, _, q2 => by
    cases e1; cases e2
    rw [List.zip_nil_left, List.forIn_nil]
    exact wpAny_pure (q2 rfl e)
  | x :: l, y :: l', _, _, r, Q, e1, e2, e, q1, q2 => by
    obtain ⟨a, vs, rfl, a1, a2⟩ := e1
    obtain ⟨b, ws, rfl, b1, b2⟩ := e2
    rw [List.zip_cons_cons, List.forIn_cons]
    rw [tcmp_cons] at e
    cases z : flatEq x y with
    | none => rw [z] at e; cases e
    | some c =>
      rw [z] at e
      cases c with
      | true => exact wpAny_bind (h1 x y a b _ a1 b1 z (tup_loop f h1 h2 l l' vs ws r Q a2 b2 e q1 (fun n => q2 (by simpa using n))))
      | false => exact wpAny_bind (h2 x y a b r _ a1 b1 z e (wpAny_pure q1))
  | [], _ :: _, _, _, _, _, _, _, e, _, _ => by cases e
  | _ :: _, [], _, _, _, _, _, _, e, _, _ => by cases e
theorem tup_body {op : CmpOp} {a b : Addr} {l l' : List SV} {vs ws : List Value} {r : Bool} {B : Builtin} (ha : s.heap.get? a = some (tupObj vs)) (hb : s.heap.get? b = some (tupObj ws)) (V : VRs s.heap l vs) (W : VRs s.heap l' ws)
    (e : tcmp op l l' = some r) {Q : PySem.Fin → Shared → Prop} (q : Q (.done (.ret (.bool r))) s)
    (f : Value × Value → (Option PySem.Fin × PUnit) → Sem (ForInStep (Option PySem.Fin × PUnit)))
    (h1 : ∀ (x y : SV) (a b : Value) (Qf : ForInStep (Option PySem.Fin × PUnit) → Shared → Prop), VR s.heap x a → VR s.heap y b → flatEq x y = some true → Qf (.yield (none, ())) s → wpAny (model G.prog G.w) A (f (a, b) (none, ())) Qf E s)
    (h2 : ∀ (x y : SV) (a b : Value) (r : Bool) (Qf : ForInStep (Option PySem.Fin × PUnit) → Shared → Prop), VR s.heap x a → VR s.heap y b → flatEq x y = some false → dres op x y = some r → Qf (.done (some (.done (.ret (.bool r))), ())) s →
      wpAny (model G.prog G.w) A (f (a, b) (none, ())) Qf E s)
    (hs : ∀ n, eres op = some r → Builtin.Tuple.tupleCompareSizes op n n = .bool r)
    (hB : B ⟨[.ref a, .ref b], []⟩ = (isInstance (.ref b) (.type "tuple") >>= fun c => if (!c) = true then ret Value.notImplemented else do
      let xs ← Builtin.Tuple.tupleItemsOf (Value.ref a)
      let ys ← Builtin.Tuple.tupleItemsOf (Value.ref b)
      let st ← forIn (xs.toList.zip ys.toList) (none, ()) f
      match st.1 with
        | some r => pure r
        | none => ret (Builtin.Tuple.tupleCompareSizes op xs.size ys.size))) :
    wpAny (model G.prog G.w) A (B ⟨[.ref a, .ref b], []⟩) Q E s := by
  have tb : s.TypeIs (.ref b) "tuple" := ⟨_, hb, rfl⟩
  rw [hB]
  refine wpAny_bind (wpAny_isInstance tb F.sub_tuple_tuple ?_)
  show wpAny _ _ (Builtin.Tuple.tupleItemsOf (Value.ref a) >>= _) _ _ _
  refine wpAny_bind (wpAny_bind (wpAny_bind (wpAny_load ha (wpAny_pure (wpAny_pure ?_)))))
  refine wpAny_bind (wpAny_bind (wpAny_bind (wpAny_load hb (wpAny_pure (wpAny_pure ?_)))))
  dsimp only
  refine wpAny_bind (tup_loop f h1 h2 l l' vs ws r _ V W e ?_ ?_)
  · exact wpAny_pure q
  · intro n z
    show wpAny _ _ (ret (Builtin.Tuple.tupleCompareSizes op vs.toArray.size ws.toArray.size)) _ _ _
    rw [List.size_toArray, List.size_toArray, V.length, W.length, n, hs _ z]
    exact wpAny_pure q
end
end Mine
namespace Mine
section
variable {G : Gd} {A : Around} {σ : SH} {s : Shared} {Q : SV → SH → Prop} {E : Value → Shared → Prop}
theorem tup_op {op : CmpOp} {id : String} {B : Builtin} {a b : Addr} {vs ws : List Value} {r : Bool} (hu : A.units < cLine)
    (ha : s.heap.get? a = some (tupObj vs)) (hb : s.heap.get? b = some (tupObj ws))
    (slot : Slot "tuple" (cmpInfo op).2.1 id) (entry : entryFor table id = some B) (args : argsOk id ⟨[.ref a, .ref b], []⟩) {Q : Value → Shared → Prop}
    (body : ∀ {A' : Around} {Q' : PySem.Fin → Shared → Prop}, Q' (.done (.ret (.bool r))) s → wpAny (model G.prog G.w) A' (B ⟨[.ref a, .ref b], []⟩) Q' E s)
    (q : Q (.bool r) s) : wpAny (model G.prog G.w) A (richCompare op (.ref a) (.ref b)) Q E s :=
  wpAny_richCompare_same_room (T := "tuple") ⟨_, ha, rfl⟩ ⟨_, hb, rfl⟩ slot
    (wpAny_call_entry slot ⟨_, ha, rfl⟩ entry (body ⟨_, rfl, by simp, q⟩) args) hu
noncomputable abbrev tupTurn (k : Value × Value → Sem PySem.Fin) : Value × Value → (Option PySem.Fin × PUnit) → Sem (ForInStep (Option PySem.Fin × PUnit)) := fun p _ => do
  let c ← eqBool p.1 p.2
  if (!c) = true then do
    let r ← k p
    pure (ForInStep.done (some r, ()))
  else pure (ForInStep.yield (none, ()))
theorem cmpi (op : CmpOp) (x y : SV) (u v : Value) (r : Bool) {Q' : Value → Shared → Prop} {h : Heap} (hx : VR h x u) (hy : VR h y v) (e : dres op x y = some r) (n1 : op ≠ .Eq) (n2 : op ≠ .NotEq) (q : Q' (.bool r) s) : wpAny (model G.prog G.w) A (richCompare op u v) Q' E s := by
  cases op <;> first | exact absurd rfl n1 | exact absurd rfl n2 | (cases e; done) | skip
  all_goals (obtain ⟨a, b, rfl, rfl, rfl⟩ := ii_ex e; obtain ⟨t, rfl⟩ := hx; obtain ⟨t', rfl⟩ := hy)
  · exact (show wpAny _ _ (compareOp .Lt _ _) _ _ _ from PyProof.Rows.lt_int q)
  · exact (show wpAny _ _ (compareOp .LtE _ _) _ _ _ from PyProof.Rows.le_int q)
  · exact (show wpAny _ _ (compareOp .Gt _ _) _ _ _ from PyProof.Rows.gt_int q)
  · exact (show wpAny _ _ (compareOp .GtE _ _) _ _ _ from PyProof.Rows.ge_int q)
theorem tup_run {op : CmpOp} {a b : Addr} {l l' : List SV} {vs ws : List Value} {r : Bool} {B : Builtin} (k : Value × Value → Sem PySem.Fin)
    (hk : ∀ (x y : SV) (a b : Value) (r : Bool) (Qf : PySem.Fin → Shared → Prop), VR s.heap x a → VR s.heap y b → dres op x y = some r → Qf (.done (.ret (.bool r))) s → wpAny (model G.prog G.w) A (k (a, b)) Qf E s)
    (ha : s.heap.get? a = some (tupObj vs)) (hb : s.heap.get? b = some (tupObj ws)) (V : VRs s.heap l vs) (W : VRs s.heap l' ws)
    (e : tcmp op l l' = some r) {Q : PySem.Fin → Shared → Prop} (q : Q (.done (.ret (.bool r))) s)
    (hs : ∀ n, eres op = some r → Builtin.Tuple.tupleCompareSizes op n n = .bool r)
    (hB : B ⟨[.ref a, .ref b], []⟩ = (isInstance (.ref b) (.type "tuple") >>= fun c => if (!c) = true then ret Value.notImplemented else do
      let xs ← Builtin.Tuple.tupleItemsOf (Value.ref a)
      let ys ← Builtin.Tuple.tupleItemsOf (Value.ref b)
      let st ← forIn (xs.toList.zip ys.toList) (none, ()) (tupTurn k)
      match st.1 with
        | some r => pure r
        | none => ret (Builtin.Tuple.tupleCompareSizes op xs.size ys.size))) :
    wpAny (model G.prog G.w) A (B ⟨[.ref a, .ref b], []⟩) Q E s :=
  tup_body ha hb V W e q (tupTurn k)
    (fun x y u v Qf hx hy e q => wpAny_bind (eqB_flat hx hy e (wpAny_pure q)))
    (fun x y u v r Qf hx hy z d q => wpAny_bind (eqB_flat hx hy z (wpAny_bind (hk x y u v r _ hx hy d (wpAny_pure q))))) hs hB
noncomputable abbrev tupBody (op : CmpOp) (k : Value × Value → Sem PySem.Fin) (a b : Value) : Sem PySem.Fin := isInstance b (.type "tuple") >>= fun c => if (!c) = true then ret Value.notImplemented else do
      let xs ← Builtin.Tuple.tupleItemsOf a
      let ys ← Builtin.Tuple.tupleItemsOf b
      let st ← forIn (xs.toList.zip ys.toList) (none, ()) (tupTurn k)
      match st.1 with
        | some r => pure r
        | none => ret (Builtin.Tuple.tupleCompareSizes op xs.size ys.size)
noncomputable abbrev ordTurn (op : CmpOp) : Value × Value → (Option PySem.Fin × PUnit) → Sem (ForInStep (Option PySem.Fin × PUnit)) := fun p _ => do
  let c ← eqBool p.1 p.2
  if (!c) = true then do
    rule "tuple.compare.by-the-first-pair-that-differs"
    let v ← richCompare op p.1 p.2
    let r ← ret v
    pure (ForInStep.done (some r, ()))
  else pure (ForInStep.yield (none, ()))
noncomputable abbrev ordBody (op : CmpOp) (a b : Value) : Sem PySem.Fin := isInstance b (.type "tuple") >>= fun c => if (!c) = true then ret Value.notImplemented else do
      let xs ← Builtin.Tuple.tupleItemsOf a
      let ys ← Builtin.Tuple.tupleItemsOf b
      let st ← forIn (xs.toList.zip ys.toList) (none, ()) (ordTurn op)
      match st.1 with
        | some r => pure r
        | none => ret (Builtin.Tuple.tupleCompareSizes op xs.size ys.size)
theorem te_eq (a b : Value) : Builtin.«tuple.__eq__» ⟨[a, b], []⟩ = tupBody .Eq (fun _ => ret (.bool false)) a b := by kernel_rfl
theorem te_ne (a b : Value) : Builtin.«tuple.__ne__» ⟨[a, b], []⟩ = tupBody .NotEq (fun _ => ret (.bool true)) a b := by kernel_rfl
theorem te_lt (a b : Value) : Builtin.«tuple.__lt__» ⟨[a, b], []⟩ = ordBody .Lt a b := by kernel_rfl
theorem te_gt (a b : Value) : Builtin.«tuple.__gt__» ⟨[a, b], []⟩ = ordBody .Gt a b := by kernel_rfl
theorem te_le (a b : Value) : Builtin.«tuple.__le__» ⟨[a, b], []⟩ = ordBody .LtE a b := by kernel_rfl
theorem te_ge (a b : Value) : Builtin.«tuple.__ge__» ⟨[a, b], []⟩ = ordBody .GtE a b := by kernel_rfl
theorem ord_run {op : CmpOp} (n1 : op ≠ .Eq) (n2 : op ≠ .NotEq) {a b : Addr} {l l' : List SV} {vs ws : List Value} {r : Bool} {B : Builtin}
    (ha : s.heap.get? a = some (tupObj vs)) (hb : s.heap.get? b = some (tupObj ws)) (V : VRs s.heap l vs) (W : VRs s.heap l' ws)
    (e : tcmp op l l' = some r) {Q : PySem.Fin → Shared → Prop} (q : Q (.done (.ret (.bool r))) s)
    (hs : ∀ n, eres op = some r → Builtin.Tuple.tupleCompareSizes op n n = .bool r) (hB : B ⟨[.ref a, .ref b], []⟩ = ordBody op (.ref a) (.ref b)) :
    wpAny (model G.prog G.w) A (B ⟨[.ref a, .ref b], []⟩) Q E s :=
  tup_body ha hb V W e q (ordTurn op)
    (fun x y u v Qf hx hy e q => wpAny_bind (eqB_flat hx hy e (wpAny_pure q)))
    (fun x y u v r Qf hx hy z d q => wpAny_bind (eqB_flat hx hy z (wpAny_bind (wpAny_rule (wpAny_bind (cmpi _ x y u v r hx hy d n1 n2 (wpAny_bind (wpAny_pure (wpAny_pure q))))))))) hs hB
theorem tup_cmp {op : CmpOp} (hop : op = .Eq ∨ op = .NotEq ∨ op = .Lt ∨ op = .Gt ∨ op = .LtE ∨ op = .GtE) {a b : Addr} {l l' : List SV} {vs ws : List Value} {r : Bool} (hu : A.units < cLine)
    (ha : s.heap.get? a = some (tupObj vs)) (hb : s.heap.get? b = some (tupObj ws)) (V : VRs s.heap l vs) (W : VRs s.heap l' ws)
    (e : tcmp op l l' = some r) {Q : Value → Shared → Prop} (q : Q (.bool r) s) : wpAny (model G.prog G.w) A (richCompare op (.ref a) (.ref b)) Q E s := by
  have sz : ∀ n, eres op = some r → Builtin.Tuple.tupleCompareSizes op n n = .bool r := by
    intro n z
    rcases hop with rfl | rfl | rfl | rfl | rfl | rfl <;> cases z <;> simp [Builtin.Tuple.tupleCompareSizes]
  rcases hop with rfl | rfl | rfl | rfl | rfl | rfl
  · exact tup_op hu ha hb F.slot_tuple_eq F.entry_tuple_eq (F.args_tuple_eq_2 _ _) (fun {A' Q'} q' => tup_run _ (fun x y u v r Qf hx hy d q => by cases d; exact wpAny_pure q) ha hb V W e q' sz (te_eq _ _)) q
  · exact tup_op hu ha hb F.slot_tuple_ne F.entry_tuple_ne (F.args_tuple_ne_2 _ _) (fun {A' Q'} q' => tup_run _ (fun x y u v r Qf hx hy d q => by cases d; exact wpAny_pure q) ha hb V W e q' sz (te_ne _ _)) q
  · exact tup_op hu ha hb F.slot_tuple_lt F.entry_tuple_lt (F.args_tuple_lt_2 _ _) (fun {A' Q'} q' => ord_run (by decide) (by decide) ha hb V W e q' sz (te_lt _ _)) q
  · exact tup_op hu ha hb F.slot_tuple_gt F.entry_tuple_gt (F.args_tuple_gt_2 _ _) (fun {A' Q'} q' => ord_run (by decide) (by decide) ha hb V W e q' sz (te_gt _ _)) q
  · exact tup_op hu ha hb F.slot_tuple_le F.entry_tuple_le (F.args_tuple_le_2 _ _) (fun {A' Q'} q' => ord_run (by decide) (by decide) ha hb V W e q' sz (te_le _ _)) q
  · exact tup_op hu ha hb F.slot_tuple_ge F.entry_tuple_ge (F.args_tuple_ge_2 _ _) (fun {A' Q'} q' => ord_run (by decide) (by decide) ha hb V W e q' sz (te_ge _ _)) q
end
end Mine
namespace Mine
section
variable {G : Gd} {A : Around} {σ : SH} {s : Shared} {Q : SV → SH → Prop} {E : Value → Shared → Prop}
theorem entry_leq : entryFor table "list.__eq__.loop" = some Builtin.«list.__eq__.loop» := entryFor_of_tree (by kernel_rfl)
theorem plain_leq : plainId "list.__eq__.loop" = true := by decide +kernel
theorem leq_body (a b : Value) (i : Nat) : Builtin.«list.__eq__.loop» ⟨[a, b, rawInt i, rawInt 3], []⟩ = (do
    let xs ← Builtin.List.listItems a
    let ys ← Builtin.List.listItems b
    match xs[i]?, ys[i]? with
    | some x, some y => do
      let c ← eqBool x y
      if c = true then again (.builtin "list.__eq__.loop" ⟨[a, b, rawInt (i + 1), rawInt 3], []⟩) else do
        let xs ← Builtin.List.listItems a
        let ys ← Builtin.List.listItems b
        match xs[i]?, ys[i]? with
        | some _, some _ => ret (.bool true)
        | _, _ => do rule "list.compare.shrunk"; ret (.bool (xs.size != ys.size))
    | _, _ => do
      let xs ← Builtin.List.listItems a
      let ys ← Builtin.List.listItems b
      ret (.bool (xs.size != ys.size))) := by kernel_rfl
theorem items_of {a : Addr} {vs : List Value} {n : Nat} (ha : s.heap.get? a = some (listObj vs n)) {Q : Array Value → Shared → Prop} (q : Q vs.toArray s) : wpAny (model G.prog G.w) A (Builtin.List.listItems (.ref a)) Q E s :=
  wpAny_bind (wpAny_bind (wpAny_load ha (wpAny_pure (wpAny_pure q))))
section
variable {a b : Addr} {vs ws : List Value} {n n' i : Nat} {R : Result → Shared → Prop} (ha : s.heap.get? a = some (listObj vs n)) (hb : s.heap.get? b = some (listObj ws n'))
include ha hb
theorem leq_stop (e : vs[i]? = none) (hl : vs.length = ws.length) (hR : R (.ok (.ret (.bool false))) s) : codeAny (model G.prog G.w) A (.builtin "list.__eq__.loop" ⟨[.ref a, .ref b, rawInt i, rawInt 3], []⟩) R s := by
  refine codeAny_builtin entry_leq ?_
  rw [leq_body]
  refine wpAny_bind (items_of ha (wpAny_bind (items_of hb ?_)))
  rw [List.getElem?_toArray, e]
  refine wpAny_bind (items_of ha (wpAny_bind (items_of hb (wpAny_pure ?_))))
  show R (.ok (.ret (.bool (vs.length != ws.length)))) s
  rw [hl, bne_self_eq_false]
  exact hR
theorem leq_step {x y : SV} {v v' : Value} {c : Bool} (e1 : vs[i]? = some v) (e2 : ws[i]? = some v') (h1 : VR s.heap x v) (h2 : VR s.heap y v') (z : flatEq x y = some c)
    (t : c = true → codeAny (model G.prog G.w) A (.builtin "list.__eq__.loop" ⟨[.ref a, .ref b, rawInt (i + 1), rawInt 3], []⟩) R s) (f : c = false → R (.ok (.ret (.bool true))) s) :
    codeAny (model G.prog G.w) A (.builtin "list.__eq__.loop" ⟨[.ref a, .ref b, rawInt i, rawInt 3], []⟩) R s := by
  refine codeAny_builtin entry_leq ?_
  rw [leq_body]
  refine wpAny_bind (items_of ha (wpAny_bind (items_of hb ?_)))
  rw [List.getElem?_toArray, List.getElem?_toArray, e1, e2]
  refine wpAny_bind (eqB_flat h1 h2 z ?_)
  cases c with
  | true => exact wpAny_pure ⟨plainId_quiet plain_leq _, t rfl⟩
  | false =>
    refine wpAny_bind (items_of ha (wpAny_bind (items_of hb ?_)))
    rw [List.getElem?_toArray, List.getElem?_toArray, e1, e2]
    exact wpAny_pure (f rfl)
theorem leq_loop {r : Bool} (hl : vs.length = ws.length) (hR : R (.ok (.ret (.bool r))) s) :
    ∀ (l l' : List SV) (i : Nat), VRs s.heap l (vs.drop i) → VRs s.heap l' (ws.drop i) → tcmp .NotEq l l' = some r →
      codeAny (model G.prog G.w) A (.builtin "list.__eq__.loop" ⟨[.ref a, .ref b, rawInt i, rawInt 3], []⟩) R s
  | [], [], i, V, W, e => leq_stop ha hb (List.head?_drop.symm.trans (congrArg List.head? V)) hl (by cases e; exact hR)
  | [], _ :: _, _, _, _, e => nomatch e
  | _ :: _, [], _, _, _, e => nomatch e
  | x :: l, y :: l', i, ⟨v, t, e1, e2, e3⟩, ⟨v', t', f1, f2, f3⟩, e => by
    rw [tcmp_cons] at e
    cases z : flatEq x y with
    | none => rw [z] at e; cases e
    | some c =>
      rw [z] at e
      refine leq_step ha hb (List.head?_drop.symm.trans (congrArg List.head? e1)) (List.head?_drop.symm.trans (congrArg List.head? f1)) e2 f2 z (fun q => ?_) fun q => ?_
      · subst q
        exact leq_loop hl hR l l' (i + 1) (by rw [← List.tail_drop, e1]; exact e3) (by rw [← List.tail_drop, f1]; exact f3) e
      · subst q; cases e; exact hR
end
theorem ln_body (a b : Value) : Builtin.«list.__ne__» ⟨[a, b], []⟩ = (isInstance b (.type "list") >>= fun c => if (!c) = true then ret Value.notImplemented else do
    let xs ← Builtin.List.listItems a
    let ys ← Builtin.List.listItems b
    if (xs.size != ys.size) = true then do rule "list.compare.lengths-differ"; ret (.bool true)
    else again (.builtin "list.__eq__.loop" ⟨[a, b, rawInt 0, rawInt 3], []⟩)) := by kernel_rfl
theorem list_ne {a b : Addr} {l l' : List SV} {vs ws : List Value} {n n' : Nat} {r : Bool} (hu : A.units < cLine) (ha : s.heap.get? a = some (listObj vs n)) (hb : s.heap.get? b = some (listObj ws n')) (V : VRs s.heap l vs) (W : VRs s.heap l' ws)
    (e : (l.length ≠ l'.length ∧ r = true) ∨ tcmp .NotEq l l' = some r) {Q : Value → Shared → Prop} (q : Q (.bool r) s) : wpAny (model G.prog G.w) A (richCompare .NotEq (.ref a) (.ref b)) Q E s := by
  have ta : s.TypeIs (.ref a) "list" := ⟨_, ha, rfl⟩
  have tb : s.TypeIs (.ref b) "list" := ⟨_, hb, rfl⟩
  refine wpAny_richCompare_same_room (T := "list") ta tb F.slot_list_ne (wpAny_call (codeAny_call_builtin F.slot_list_ne.plain F.entry_list_ne (F.slot_list_ne.check _ _ _ _ _ _ _ _ ta (F.args_list_ne_2 _ _) ?_))) hu
  rw [ln_body]
  refine wpAny_bind (wpAny_isInstance tb F.sub_list_list ?_)
  refine wpAny_bind (items_of ha (wpAny_bind (items_of hb ?_)))
  have fin : (Value.bool r ≠ Value.notImplemented ∧ Q (.bool r) s) := ⟨by simp, q⟩
  have el : ∀ l l' r, tcmp .NotEq l l' = some r → l.length ≠ l'.length → r = true := by
    intro l
    induction l with
    | nil => intro l' r e n; cases l' with | nil => exact absurd rfl n | cons _ _ => cases e
    | cons x l ih =>
      intro l' r e n
      cases l' with
      | nil => cases e
      | cons y l' =>
        rw [tcmp_cons] at e
        cases z : flatEq x y with
        | none => rw [z] at e; cases e
        | some c =>
          rw [z] at e
          cases c with
          | true => exact ih l' r e (by simpa using n)
          | false => cases e; rfl
  by_cases hl : l.length = l'.length
  · have hv : vs.length = ws.length := by rw [V.length, W.length, hl]
    rw [if_neg (by simp [hv])]
    rcases e with e | e
    · exact absurd hl e.1
    · refine wpAny_pure ⟨plainId_quiet plain_leq _, ?_⟩
      exact leq_loop (G := G) (A := A) ha hb (R := fun r s' => match r with | .ok (.ret v) => v ≠ .notImplemented ∧ Q v s' | .ok _ => False | .error e => E e s') hv fin l l' 0 V W e
  · have hv : ¬ vs.length = ws.length := by rw [V.length, W.length]; exact hl
    rw [if_pos (by simpa using hv)]
    have : r = true := by
      rcases e with e | e
      · exact e.2
      · exact el _ _ _ e hl
    subst this
    exact wpAny_bind (wpAny_rule (wpAny_pure fin))
theorem not_sys (R : Rep G σ s) (hs : G.H0.get? sysModules ≠ none) {a : Addr} (f : Foot σ a) : (a == sysModules) = false := by
  refine beq_eq_false_iff_ne.mpr fun e => ?_
  subst e
  exact hs (R.new _ f)
theorem map_of {m : List (Int × SV)} {vs : List Value} {ep : Nat} {a : Addr} (D : s.heap.DictAt (intKind G.prog G.w) a ((m.map (·.1)).zip vs) ep) : s.heap.MapOf (intKind G.prog G.w) a (valueAt ((m.map (·.1)).zip vs)) := D.dictOf.mapOf
theorem at_look {h : Heap} : ∀ {m : List (Int × SV)} {vs : List Value} (k : Int), VRs h (m.map (·.2)) vs → (∀ v, mlook m k = some v → ∃ x, valueAt ((m.map (·.1)).zip vs) k = some x ∧ VR h v x) ∧ (mlook m k = none → valueAt ((m.map (·.1)).zip vs) k = none)
  | [], _, k, e => by cases e; exact ⟨fun v e => (nomatch e), fun _ => rfl⟩
  | (j, y) :: m, _, k, e => by
    obtain ⟨v, r, rfl, e1, e2⟩ := e
    have ih := at_look k e2
    simp only [mlook, valueAt, List.map_cons, List.zip_cons_cons, List.find?_cons] at ih ⊢
    by_cases hj : j = k
    · simp only [hj, decide_true, Option.map_some]
      refine ⟨fun w q => ?_, fun q => by cases q⟩
      cases q
      exact ⟨_, rfl, e1⟩
    · simp only [hj, decide_false]
      exact ih
noncomputable def ordOp (op : CmpOp) : Prop := op = .Eq ∨ op = .NotEq ∨ op = .Lt ∨ op = .Gt ∨ op = .LtE ∨ op = .GtE
theorem cmp_int (R : Rep G σ s) {op : CmpOp} {x y : Int} {a b : Value} (ha : VR s.heap (.int x) a) (hb : VR s.heap (.int y) b) (hop : ordOp op) (h : cmpI op x y fun c => Q (.bool c) σ) :
    wpAny (model G.prog G.w) A (compareOp op a b) (Post G σ s Q) (fun _ _ => False) s := by
  obtain ⟨t, rfl⟩ := ha
  obtain ⟨u, rfl⟩ := hb
  rcases hop with rfl | rfl | rfl | rfl | rfl | rfl
  · exact PyProof.Rows.eq_int (Post.bool R h)
  · exact PyProof.Rows.ne_int (Post.bool R h)
  · exact PyProof.Rows.lt_int (Post.bool R h)
  · exact PyProof.Rows.gt_int (Post.bool R h)
  · exact PyProof.Rows.le_int (Post.bool R h)
  · exact PyProof.Rows.ge_int (Post.bool R h)
theorem cmp_byt (R : Rep G σ s) {op : CmpOp} {x y : Array UInt8} {a b : Value} (ha : VR s.heap (.byt x) a) (hb : VR s.heap (.byt y) b) (hop : ordOp op) (h : cmpY op x y fun c => Q (.bool c) σ) :
    wpAny (model G.prog G.w) A (compareOp op a b) (Post G σ s Q) (fun _ _ => False) s := by
  obtain ⟨t, rfl⟩ := ha
  obtain ⟨u, rfl⟩ := hb
  rcases hop with rfl | rfl | rfl | rfl | rfl | rfl
  · exact PySem.W.eq_bytes (Post.bool R h)
  · exact PySem.W.ne_bytes (Post.bool R h)
  · exact compareOp_gives (op := .Lt) (typeIs_bytes s _ _) (typeIs_bytes s _ _) slot_b_lt entry_b_lt (args_b_lt _ _) (gives_b_lt _ _ _ _) (fun e => nomatch e) (Post.bool R h)
  · exact compareOp_gives (op := .Gt) (typeIs_bytes s _ _) (typeIs_bytes s _ _) slot_b_gt entry_b_gt (args_b_gt _ _) (gives_b_gt _ _ _ _) (fun e => nomatch e) (Post.bool R h)
  · exact compareOp_gives (op := .LtE) (typeIs_bytes s _ _) (typeIs_bytes s _ _) slot_b_le entry_b_le (args_b_le _ _) (gives_b_le _ _ _ _) (fun e => nomatch e) (Post.bool R h)
  · exact compareOp_gives (op := .GtE) (typeIs_bytes s _ _) (typeIs_bytes s _ _) slot_b_ge entry_b_ge (args_b_ge _ _) (gives_b_ge _ _ _ _) (fun e => nomatch e) (Post.bool R h)
theorem rich_of {op : CmpOp} (hop : ordOp op) (a b : Value) : compareOp op a b = richCompare op a b := by rcases hop with rfl | rfl | rfl | rfl | rfl | rfl <;> rfl
theorem op_cmpD (R : Rep G σ s) (hu : A.units < cLine) {op : CmpOp} {x y : SV} {a b : Value} (ha : VR s.heap x a) (hb : VR s.heap y b) (hop : ordOp op) (h : cmpD op x y (fun c => Q (.bool c) σ) σ) :
    wpAny (model G.prog G.w) A (compareOp op a b) (Post G σ s Q) (fun _ _ => False) s := by
  cases x <;> first | exact h.elim | (cases y <;> first | exact h.elim | skip)
  case int.int => exact cmp_int R ha hb hop h
  case byt.byt => exact cmp_byt R ha hb hop h
  case tup.tup =>
    obtain ⟨a1, vs, rfl, e1, e2⟩ := ha
    obtain ⟨b1, ws, rfl, f1, f2⟩ := hb
    obtain ⟨r, e, q⟩ := h
    rw [rich_of hop]
    exact tup_cmp hop hu e1 f1 e2 f2 e (Post.bool R q)
  case ref.ref =>
    cases ha
    cases hb
    obtain ⟨rfl, l, l', r, e1, e2, e3, q⟩ := h
    obtain ⟨vs, n, g1, g2⟩ := R.objs _ _ e1
    obtain ⟨ws, n', k1, k2⟩ := R.objs _ _ e2
    rw [rich_of hop]
    exact list_ne hu g1 k1 g2 k2 e3 (Post.bool R q)
  case bool.bool =>
    cases ha
    cases hb
    cases op <;> first | exact h.elim | skip
    exact PyProof.Rows.ne_bool (Post.bool R h)
noncomputable def isI (i : Int) : Value → Bool
  | .int j _ => j == i
  | _ => false
theorem ints_in {h : Heap} {i : Int} : ∀ {ns : List Int} {vs : List Value}, VRs h (ns.map .int) vs → (∀ y ∈ vs, ∃ j u, y = .int j u) ∧ vs.any (isI i) = ns.contains i
  | [], _, e => by cases e; exact ⟨fun _ h => by (cases h), rfl⟩
  | n :: ns, _, e => by
    obtain ⟨v, r, rfl, ⟨t, rfl⟩, e3⟩ := e
    obtain ⟨k1, k2⟩ := ints_in (i := i) e3
    refine ⟨fun y hy => ?_, ?_⟩
    · rcases List.mem_cons.mp hy with rfl | hy
      · exact ⟨n, t, rfl⟩
      · exact k1 y hy
    · rw [List.any_cons, k2, List.contains_cons]
      show ((n == i) || _) = ((i == n) || _)
      rw [Bool.beq_comm]
theorem op_in (R : Rep G σ s) (hs : G.H0.get? sysModules ≠ none) {x y : SV} {a b : Value} (ha : VR s.heap x a) (hb : VR s.heap y b) (neg : Bool) (h : inW x y (fun c => Q (.bool (neg != c)) σ) σ) :
    wpAny (model G.prog G.w) A (compareOp (if neg = true then .NotIn else .In) a b) (Post G σ s Q) (fun _ _ => False) s := by
  cases x <;> first | exact h.elim | (cases y <;> first | exact h.elim | skip)
  obtain ⟨t, rfl⟩ := ha
  cases hb
  rcases h with ⟨m, ep, e1, q⟩ | ⟨ns, e1, q⟩
  · obtain ⟨vs, D, V⟩ := R.objs _ _ e1
    rename_i i d
    have z : (valueAt ((m.map (·.1)).zip vs) i).isSome = (mlook m i).isSome := by
      have z := at_look i V
      cases hm : mlook m i with
      | none => rw [z.2 hm]; rfl
      | some v => obtain ⟨x, e2, _⟩ := z.1 v hm; rw [e2]; rfl
    cases neg with
    | false => exact wpAny_in_of (intKind_is _ _ _ _) (not_sys R hs (.inl ⟨_, e1⟩)) (map_of D) (by rw [z]; exact Post.boolT R _ (by simpa using q))
    | true => exact wpAny_notIn_of (intKind_is _ _ _ _) (not_sys R hs (.inl ⟨_, e1⟩)) (map_of D) (by rw [z]; exact Post.boolT R _ (by simpa using q))
  · obtain ⟨vs, n, g1, g2⟩ := R.objs _ _ e1
    rename_i i d
    obtain ⟨k1, k2⟩ := ints_in (i := i) g2
    have he : ∀ y, y ∈ vs.toArray → SeqAt.EqAt A.in1 s y (.int i t) (isI i y) := fun y hy => by
      obtain ⟨j, u, rfl⟩ := k1 y (by simpa using hy)
      exact SeqAt.EqAt.int_int j u i t
    have l : s.heap.IsList d vs.toArray := ⟨_, g1, rfl, n, rfl⟩
    have ea : vs.toArray.any (isI i) = ns.contains i := by rw [← k2]; simp
    cases neg with
    | false => exact SeqAt.in_listAt (isI i) l he (by rw [ea]; exact Post.bool R (by simpa using q))
    | true => exact SeqAt.notIn_listAt (isI i) l he (by rw [ea]; exact Post.bool R (by simpa using q))
theorem op_cmp (R : Rep G σ s) (hs : G.H0.get? sysModules ≠ none) (hu : A.units < cLine) {op : CmpOp} {x y : SV} {a b : Value} (ha : VR s.heap x a) (hb : VR s.heap y b) (h : cmpW op x y Q σ) :
    wpAny (model G.prog G.w) A (compareOp op a b) (Post G σ s Q) (fun _ _ => False) s := by
  have isn : isRaw x = false → (a == Value.none) = isNone x := by
    intro e
    cases x <;> first | (cases e; done) | (obtain ⟨t, rfl⟩ := ha; rfl) | (obtain ⟨r, b, t, u, z, rfl, _⟩ := ha; rfl) | (obtain ⟨a, vs, rfl, _⟩ := ha; rfl) | (cases ha; rfl)
  cases op
  · exact op_cmpD R hu ha hb (by simp [ordOp]) h
  · exact op_cmpD R hu ha hb (by simp [ordOp]) h
  · exact op_cmpD R hu ha hb (by simp [ordOp]) h
  · exact op_cmpD R hu ha hb (by simp [ordOp]) h
  · exact op_cmpD R hu ha hb (by simp [ordOp]) h
  · exact op_cmpD R hu ha hb (by simp [ordOp]) h
  · obtain ⟨rfl, h2, h3⟩ := isW_ex (show isW x y (fun c => Q (.bool c) σ) from h)
    cases hb
    exact PyProof.Rows.is_none_gen (by rw [isn h2]; exact Post.bool R h3)
  · obtain ⟨rfl, h2, h3⟩ := isW_ex (show isW x y (fun c => Q (.bool (!c)) σ) from h)
    cases hb
    exact PyProof.Rows.isnot_none_gen (by rw [isn h2]; exact Post.bool R h3)
  · exact op_in R hs ha hb false (by simp only [Bool.false_bne]; exact h)
  · exact op_in R hs ha hb true (by simp only [Bool.true_bne]; exact h)
end
end Mine
namespace Mine
section
variable {G : Gd} {A : Around} {σ : SH} {s : Shared} {Q : SV → SH → Prop}
theorem list_is {l : Addr} {vs : List Value} {n : Nat} (h : s.heap.get? l = some (listObj vs n)) : s.heap.IsList l vs.toArray := ⟨_, h, rfl, n, rfl⟩
theorem tup_is {l : Addr} {vs : List Value} (h : s.heap.get? l = some (tupObj vs)) : IsTup s.heap l vs.toArray := ⟨_, h, rfl, 0, rfl⟩
theorem op_sub (R : Rep G σ s) {value slice : Expr} {x y : SV} {a b : Value} (ha : VR s.heap x a) (hb : VR s.heap y b) (h : subW x y Q σ)
    (hs : ∀ o i, subscripted slice false o i = operate [o, i] (getItem o i)) :
    wpAny (model G.prog G.w) A (subscriptTail value slice a b) (Post G σ s Q) (fun _ _ => False) s := by
  cases x <;> first | exact h.elim | (cases y <;> first | exact h.elim | skip)
  case ref.int =>
    rename_i l k
    cases ha
    obtain ⟨t, rfl⟩ := hb
    rcases h with ⟨xs, v, e1, h0, h1, e2, q⟩ | ⟨m, ep, v, e1, e2, q⟩
    · obtain ⟨vs, n, g1, g2⟩ := R.objs _ _ e1
      obtain ⟨v', g3, g4⟩ := g2.get e2
      exact tail_any (list_is g1).typeIs slot_list_getitem.lookup (wpAny_getItem_list (list_is g1) h0 (by omega) (by simpa using g3) (Post.same R g4 q)) (hs _ _)
    · obtain ⟨vs, D, V⟩ := R.objs _ _ e1
      obtain ⟨v', g3, g4⟩ := (at_look k V).1 v e2
      exact tail_any (map_of D).typeIs slot_dict_getitem.lookup (wpAny_getItem_of (intKind_is _ _ _ _) (map_of D) g3 (Post.tok _ R g4 q)) (hs _ _)
  case tup.int =>
    rename_i l k
    obtain ⟨a, vs, rfl, e1, e2⟩ := ha
    obtain ⟨t, rfl⟩ := hb
    obtain ⟨c, h⟩ := gd_ex h
    obtain ⟨v, e3, q⟩ := optW_ex h
    rw [Bool.and_eq_true, decide_eq_true_eq] at c
    obtain ⟨h0, c⟩ := c
    have c := Nat.le_of_ble_eq_true c
    have c2 := e2.length
    obtain ⟨v', g3, g4⟩ := e2.get e3
    have hl : k.toNat < vs.length := (List.getElem?_eq_some_iff.mp g3).1
    have hj : seqIndex? k vs.toArray.size = some k.toNat := by
      have : ¬ k < 0 := by omega
      have h2 : k < vs.toArray.size := by simp; omega
      simp [seqIndex?, this, h0]; omega
    exact tail_any (⟨_, e1, rfl⟩ : s.TypeIs (.ref a) "tuple") F.slot_tuple_getitem.lookup (getItem_tuple (tup_is e1) (by omega) (by omega) hj (by simpa using g3) (Post.same R g4 q)) (hs _ _)
  case byt.int =>
    obtain ⟨t, rfl⟩ := ha
    obtain ⟨u, rfl⟩ := hb
    obtain ⟨h0, h1, v, e3, q⟩ := h
    rename_i b k
    have hl : k.toNat < b.size := (Array.getElem?_eq_some_iff.mp e3).1
    have hj : seqIndex? k b.size = some k.toNat := by
      have : ¬ k < 0 := by omega
      have h2 : k < b.size := by omega
      simp [seqIndex?, this, h0, h2]
    refine tail_any (typeIs_bytes s b t) FB.slot_bytes_getitem.lookup (getItem_gives (typeIs_bytes s _ t) (by decide) FB.slot_bytes_getitem FB.entry_bytes_getitem (FB.args_bytes_getitem_2 _ _) (gives_bytes_getitem _ k t u v ?_ ?_) (Post.int R _ q)) (hs _ _)
    · simp only [Builtin.Bytes.fitsIndex, Bool.and_eq_true, decide_eq_true_eq]; omega
    · rw [hj]; simpa using e3
noncomputable abbrev sliceObj (l u : Value) : Obj := { cls := .type "slice", data := .fields #[l, u, .none] }
theorem op_slice (R : Rep G σ s) {value slice : Expr} {x : SV} {a : Value} {l u : Value} {lo hi : Option Int} (pl : IsPart l lo) (pu : IsPart u hi) (ha : VR s.heap x a)
    (hsl : ∀ o i, subscripted slice false o i = operate [i, o] (getItem o i))
    (h : (∃ p xs vs n, a = .ref p ∧ s.heap.get? p = some (listObj vs n) ∧ VRs s.heap xs vs ∧ xs.length ≤ 1000000 ∧ ∃ ys, (∀ vs : List Value, VRs s.heap xs vs → VRs s.heap ys (slicePick vs.toArray lo hi none).toList) ∧ newW (.list ys) Q σ) ∨
      (∃ b, x = .byt b ∧ b.size ≤ 1000000 ∧ Q (.byt (KBy.picked b lo hi)) σ)) :
    wpAny (model G.prog G.w) A (subscriptTail value slice a (.ref s.heap.objs.size)) (Post G σ s Q) (fun _ _ => False) { s with heap := s.heap.push (sliceObj l u) } := by
  obtain ⟨st, R1⟩ := grow R (h' := s.heap.push (sliceObj l u)) s.toks fun b o e => Heap.get?_push_of_some _ e
  rcases h with ⟨p, xs, vs, n, rfl, g1, g2, hz, ys, hy, q⟩ | ⟨b, rfl, hz, q⟩
  ·
    have g1' : (s.heap.push (sliceObj l u)).get? p = some (listObj vs n) := Heap.get?_push_of_some _ g1
    have hl : (s.heap.push (sliceObj l u)).IsList p vs.toArray := ⟨_, g1', rfl, n, rfl⟩
    refine tail_any (s := { s with heap := s.heap.push (sliceObj l u) }) hl.typeIs slot_list_getitem.lookup (wpAny_getItem_list_slice (s := { s with heap := s.heap.push (sliceObj l u) }) hl (Heap.IsSliceOf.new ..) pl pu .none (by simp) ?_ (by rw [List.size_toArray, g2.length, sizeLine_eq]; omega)) (hsl _ _)
    have z := new_list (s := { s with heap := s.heap.push (sliceObj l u) }) R1 ((hy vs g2).mono st.tup) s.toks q
    refine Post.trans st ?_
    have e : (slicePick vs.toArray lo hi none).toList.toArray = slicePick vs.toArray lo hi none := Array.toArray_toList
    rw [← e]
    exact z
  · obtain ⟨t, rfl⟩ := ha
    refine tail_any (s := { s with heap := s.heap.push (sliceObj l u) }) (typeIs_bytes _ b t) FB.slot_bytes_getitem.lookup (getItem_meets (typeIs_bytes _ _ _) (by decide) FB.slot_bytes_getitem FB.entry_bytes_getitem (FB.args_bytes_getitem_2 _ _) (KBc.meets_slice2 b t _ pl pu)
      ⟨Heap.IsSliceOf.new _ _ _ _, Nat.le_trans (KBc.size_picked_le b lo hi) (by rw [sizeLine_eq]; omega), fun t' k => ?_⟩) (hsl _ _)
    exact Post.trans st (Post.byt (s := { s with heap := s.heap.push (sliceObj l u) }) R1 _ q)
theorem pick_to (vs : List Value) {k : Int} (h0 : 0 ≤ k) : slicePick vs.toArray none (some k) none = (vs.take k.toNat).toArray := by
  have z := slicePick_upto' vs.toArray k.toNat
  rw [Int.toNat_of_nonneg h0] at z
  simpa using z
theorem slToG_raw {v : Value} {y : SV} (h : slToG G (.raw v) y Q σ) : ∃ p k, v = .ref p ∧ y = .int k ∧ slToG G (.raw (.ref p)) (.int k) Q σ := by
  cases v <;> first | exact h.elim | (cases y <;> first | exact h.elim | exact ⟨_, _, rfl, rfl, h⟩)
theorem op_slToR (R : Rep G σ s) {value slice : Expr} {p : Addr} {k : Int} {a b : Value} (ha : VR s.heap (.raw (.ref p)) a) (hb : VR s.heap (.int k) b) (hsl : ∀ o i, subscripted slice false o i = operate [i, o] (getItem o i)) (h : slToG G (.raw (.ref p)) (.int k) Q σ) :
    wpAny (model G.prog G.w) A (subscriptTail value slice a (.ref s.heap.objs.size)) (Post G σ s Q) (fun _ _ => False) { s with heap := s.heap.push (sliceObj .none b) } := by
  obtain ⟨t, rfl⟩ := hb
  obtain ⟨vs, n, ns, g1, g2, h0, h1, hz, q⟩ := h
  refine op_slice R .none (.int k t) ha hsl (.inl ⟨p, ns.map .int, vs, n, ha, R.base _ _ g1, g2 _, by simpa using hz, (ns.map .int).take k.toNat, fun vs V => ?_, q⟩)
  rw [pick_to vs h0]
  exact V.take _
theorem op_slTo (R : Rep G σ s) {value slice : Expr} {x y : SV} {a b : Value} (ha : VR s.heap x a) (hb : VR s.heap y b) (hsl : ∀ o i, subscripted slice false o i = operate [i, o] (getItem o i)) (h : slToG G x y Q σ) :
    wpAny (model G.prog G.w) A (subscriptTail value slice a (.ref s.heap.objs.size)) (Post G σ s Q) (fun _ _ => False) { s with heap := s.heap.push (sliceObj .none b) } := by
  cases x <;> first | exact h.elim | skip
  case raw v =>
    obtain ⟨p, k, rfl, rfl, h⟩ := slToG_raw h
    exact op_slToR R ha hb hsl h
  all_goals (cases y <;> first | exact h.elim | skip)
  case ref.int =>
    obtain ⟨t, rfl⟩ := hb
    obtain ⟨l, e1, h0, h1, hz, q⟩ := h
    rename_i p k
    have ha' := ha
    cases ha'
    obtain ⟨vs, n, g1, g2⟩ := R.objs _ _ e1
    refine op_slice R .none (.int k t) ha hsl (.inl ⟨p, l, vs, n, rfl, g1, g2, hz, l.take k.toNat, fun vs V => ?_, q⟩)
    rw [pick_to vs h0]
    exact V.take _
  case byt.int =>
    obtain ⟨t, rfl⟩ := hb
    obtain ⟨h0, h1, hz, q⟩ := h
    rename_i b k
    refine op_slice R .none (.int k t) ha hsl (.inr ⟨b, rfl, hz, ?_⟩)
    have e : KBy.picked b none (some k) = b.extract 0 k.toNat := by
      rw [KBc.picked_eq]
      have : clipAt b.size k = min k.toNat b.size := by
        have z := clipAt_nat b.size k.toNat
        rwa [show ((k.toNat : Nat) : Int) = k by omega] at z
      simp only [Option.elim, this, List.drop_zero, Nat.sub_zero]
      apply Array.ext'
      simp [Nat.min_comm]
    rw [e]; exact q
theorem op_slFrom (R : Rep G σ s) {value slice : Expr} {x y : SV} {a b : Value} (ha : VR s.heap x a) (hb : VR s.heap y b) (hsl : ∀ o i, subscripted slice false o i = operate [i, o] (getItem o i)) (h : slFromW x y Q σ) :
    wpAny (model G.prog G.w) A (subscriptTail value slice a (.ref s.heap.objs.size)) (Post G σ s Q) (fun _ _ => False) { s with heap := s.heap.push (sliceObj b .none) } := by
  cases x <;> first | exact h.elim | (cases y <;> first | exact h.elim | skip)
  case ref.int =>
    obtain ⟨t, rfl⟩ := hb
    obtain ⟨l, e1, h0, h1, hz, q⟩ := h
    rename_i p k
    have ha' := ha
    cases ha'
    obtain ⟨vs0, n0, g1, g2⟩ := R.objs _ _ e1
    refine op_slice R (.int k t) .none ha hsl (.inl ⟨p, l, vs0, n0, rfl, g1, g2, hz, l.drop k.toNat, fun vs V => ?_, q⟩)
    have e : slicePick vs.toArray (some k) none none = (vs.drop k.toNat).toArray := by
      have z := slicePick_from' vs.toArray k.toNat
      rw [show ((k.toNat : Nat) : Int) = k by omega] at z
      simpa using z
    rw [e]
    exact V.drop _
end
end Mine
namespace Mine
structure GOk (G : Gd) : Prop where
  glob : ∀ (j : Nat) (p : Str × Value), G.gl[j]? = some p → ∀ (env : Env) (A : Around) (E : Value → Shared → Prop) (Q : Value → Shared → Prop) (s : Shared), env.globals = mainGlobals → env.builtins = builtinsNs →
    (∀ b o, G.H0.get? b = some o → s.heap.get? b = some o) → Q p.2 s → wpAny (model G.prog G.w) A (loadGlobal env p.1) Q E s
  lms : ∀ x f, (x, f) ∈ G.lm → ∃ id, f = .builtin id ∧ Slot "list" (G.fn x) id ∧ typeOf (.builtin id) = pure (.type "method_descriptor")
  dms : ∀ x f, (x, f) ∈ G.dm → ∃ id, f = .builtin id ∧ Slot "dict" (G.fn x) id ∧ typeOf (.builtin id) = pure (.type "method_descriptor")
  kin : G.K.In G.H0
  lim : G.H0.NoLimit
  sys : G.H0.get? sysModules ≠ none
  nfn : G.nf ≤ G.nn ∧ G.nn ≤ 900
  inj : ∀ x y, x < G.nn → y < G.nn → G.fn x = G.fn y → x = y
  cls : ∀ c ∈ G.cls, plainGet G.K c "" = true ∧ hasDictIn G.K c = true ∧ findIn G.K (.ref c) "__setattr__" = some (some (.builtin "object.__setattr__")) ∧ plainOver G.K c = true ∧ ∀ x, x < G.nf → G.nofld.contains (c, x) = false → findIn G.K (.ref c) (G.fn x) = some none
  meth : ∀ c x f, (c, x, f) ∈ G.meths → x < G.nn ∧ ∃ a, f = .ref a ∧ findIn G.K (.ref c) (G.fn x) = some (some (.ref a)) ∧ isFn G.K (.ref a) = true
section
variable {G : Gd} {A : Around} {σ : SH} {s : Shared} {Q : SV → SH → Prop}
theorem ie_get (O : GOk G) {h : Heap} {m : Nat → Option SV} {es : List DictEntry} (I : IE G h m es) {x : Nat} (hx : x < G.nn) :
    (∀ sv, m x = some sv → ∃ v, getL (G.fn x) es = some (some v) ∧ VR h sv v) ∧ (m x = none → getL (G.fn x) es = some none) := by
  obtain ⟨ks, rfl, nd, lt, look⟩ := I
  have fnd : ∀ l : List (Nat × Tok × Value), (∀ p ∈ l, p.1 < G.nf) → (l.map (ieEnt G)).find? (fun e => e.key.isStr (G.fn x)) = (l.find? (fun p => p.1 == x)).map (ieEnt G) := by
    intro l hl
    induction l with
    | nil => rfl
    | cons p l ih =>
      rw [List.map_cons, List.find?_cons, List.find?_cons, ih fun q hq => hl q (List.mem_cons_of_mem _ hq)]
      have hp := hl p List.mem_cons_self
      have e : (ieEnt G p).key.isStr (G.fn x) = (p.1 == x) := by
        show (G.fn p.1 == G.fn x) = _
        by_cases q : p.1 = x
        · rw [q]; simp
        · have : G.fn x ≠ G.fn p.1 := fun z => q (O.inj _ _ (by have := O.nfn; omega) hx z.symm)
          rw [beq_eq_false_iff_ne.mpr (Ne.symm this), beq_eq_false_iff_ne.mpr q]
      rw [e]
      cases p.1 == x <;> rfl
  have nref : ∀ l : List (Nat × Tok × Value), (l.map (ieEnt G)).any (·.refKey) = false := by
    intro l
    induction l with
    | nil => rfl
    | cons p l ih => rw [List.map_cons, List.any_cons, ih]; rfl
  have z := look x
  unfold getL
  rw [fnd ks lt]
  cases hf : ks.find? (fun p => p.1 == x) with
  | none =>
    rw [hf] at z
    refine ⟨fun sv e => (by rw [z] at e; cases e), fun _ => ?_⟩
    simp only [Option.map_none, nref, Bool.false_eq_true, if_false]
  | some p =>
    rw [hf] at z
    obtain ⟨sv, z1, z2⟩ := z
    refine ⟨fun sv' e => ?_, fun e => (by rw [z1] at e; cases e)⟩
    rw [z1] at e; cases e
    exact ⟨p.2.2, rfl, z2⟩
theorem inst_at (R : Rep G σ s) {a c d : Addr} {m : Nat → Option SV} (e : σ a = some (.inst c d m)) :
    c ∈ G.cls ∧ ∃ es n, InstAt s.heap a (instObj c d) c (some (dictOf es n)) ∧ s.heap.get? d = some (dictOf es n) ∧ IE G s.heap m es := by
  obtain ⟨h1, h2, es, n, h3, h4⟩ := R.objs _ _ e
  exact ⟨h1, es, n, ⟨h2, rfl, rfl, h3⟩, h3, h4⟩
theorem VR.handed {h : Heap} {x : SV} {v : Value} (e : VR h x v) (n : isRaw x = false) : handedIn v = true := by
  cases x <;> first | (cases n; done) | (cases e; rfl) | (obtain ⟨t, rfl⟩ := e; rfl) | (obtain ⟨r, b, t, u, z, rfl, _⟩ := e; rfl) | (obtain ⟨a, vs, rfl, _⟩ := e; rfl)
theorem fld_lt {h : Heap} {m : Nat → Option SV} {es : List DictEntry} (I : IE G h m es) {x : Nat} {v : SV} (e : m x = some v) : x < G.nf := by
  obtain ⟨ks, rfl, nd, lt, look⟩ := I
  have z := look x
  cases hf : ks.find? (fun p => p.1 == x) with
  | none => rw [hf] at z; rw [z] at e; cases e
  | some p =>
    have h1 := List.mem_of_find?_eq_some hf
    have h2 := List.find?_some hf
    have : p.1 = x := by simpa using h2
    rw [← this]; exact lt p h1
theorem op_attr (O : GOk G) (R : Rep G σ s) {x : SV} {a : Value} {n : Nat} (ha : VR s.heap x a) (h : attrW G x n Q σ) : wpAny (model G.prog G.w) A (getAttr a (G.fn n) true) (Post G σ s Q) (fun _ _ => False) s := by
  obtain ⟨p, c, d, m, v, rfl, e1, e2, e3, e4, q⟩ := h
  cases ha
  obtain ⟨hc, es, k, I, hd, ie⟩ := inst_at R e1
  have lt := fld_lt ie e2
  obtain ⟨v', g1, g2⟩ := (ie_get O ie (x := n) (by have := O.nfn; omega)).1 v e2
  obtain ⟨c1, c2, c3, c4, c5⟩ := O.cls c hc
  have X : G.K.In s.heap := O.kin.keeps R.base
  exact get_value X I (plainGet_of (name := "") c1).1 (findObj_own (attr := none) c2 (c5 n lt e4) rfl (by show lookIn _ (dictOf es k) = _; rw [lookIn_dict, g1])) (g2.handed e3) (Post.tok _ R g2 q)
noncomputable def putK (x : Nat) (t : Tok) (v : Value) : List (Nat × Tok × Value) → List (Nat × Tok × Value)
  | [] => [(x, t, v)]
  | p :: r => if p.1 == x then (p.1, p.2.1, v) :: r else p :: putK x t v r
theorem putK_ent (O : GOk G) {x : Nat} (hx : x < G.nf) (t : Tok) (v : Value) : ∀ l : List (Nat × Tok × Value), (∀ p ∈ l, p.1 < G.nf) →
    putL (G.fn x) (PyData.keyHash G.w.params (G.fn x)) (.str (G.fn x) t) v (l.map (ieEnt G)) = (putK x t v l).map (ieEnt G)
  | [], _ => rfl
  | p :: l, hl => by
    have hp := hl p List.mem_cons_self
    have e : (ieEnt G p).key.isStr (G.fn x) = (p.1 == x) := by
      show (G.fn p.1 == G.fn x) = _
      by_cases q : p.1 = x
      · rw [q]; simp
      · have : G.fn p.1 ≠ G.fn x := fun z => q (O.inj _ _ (by have := O.nfn; omega) (by have := O.nfn; omega) z)
        rw [beq_eq_false_iff_ne.mpr this, beq_eq_false_iff_ne.mpr q]
    rw [List.map_cons]
    unfold putL putK
    rw [e]
    cases hq : p.1 == x with
    | true => rfl
    | false =>
      simp only [Bool.false_eq_true, if_false, List.map_cons]
      rw [putK_ent O hx t v l fun q hq => hl q (List.mem_cons_of_mem _ hq)]
theorem putK_mem {x : Nat} {t : Tok} {v : Value} : ∀ {l : List (Nat × Tok × Value)} {p : Nat × Tok × Value}, p ∈ putK x t v l → p.1 = x ∨ ∃ q ∈ l, q.1 = p.1
  | [], p, h => by simp only [putK, List.mem_singleton] at h; exact .inl (by rw [h])
  | q :: l, p, h => by
    unfold putK at h
    split at h
    · rename_i e
      rcases List.mem_cons.mp h with rfl | h
      · exact .inl (by simpa using e)
      · exact .inr ⟨p, List.mem_cons_of_mem _ h, rfl⟩
    · rcases List.mem_cons.mp h with rfl | h
      · exact .inr ⟨p, List.mem_cons_self, rfl⟩
      · rcases putK_mem h with z | ⟨q', z1, z2⟩
        · exact .inl z
        · exact .inr ⟨q', List.mem_cons_of_mem _ z1, z2⟩
theorem putK_nodup {x : Nat} {t : Tok} {v : Value} : ∀ {l : List (Nat × Tok × Value)}, (l.map (·.1)).Nodup → ((putK x t v l).map (·.1)).Nodup
  | [], _ => by simp [putK]
  | q :: l, h => by
    rw [List.map_cons, List.nodup_cons] at h
    unfold putK
    split
    · rw [List.map_cons, List.nodup_cons]; exact h
    · rename_i e
      rw [List.map_cons, List.nodup_cons]
      refine ⟨fun hm => ?_, putK_nodup h.2⟩
      obtain ⟨p, hp, e1⟩ := List.mem_map.mp hm
      rcases putK_mem hp with z | ⟨q', z1, z2⟩
      · exact e (by rw [← e1, z]; simp)
      · exact h.1 (List.mem_map.mpr ⟨q', z1, by rw [z2, e1]⟩)
theorem putK_find {x : Nat} {t : Tok} {v : Value} (y : Nat) : ∀ l : List (Nat × Tok × Value),
    (y = x → ∃ p, (putK x t v l).find? (fun p => p.1 == y) = some p ∧ p.2.2 = v) ∧ (y ≠ x → (putK x t v l).find? (fun p => p.1 == y) = l.find? (fun p => p.1 == y))
  | [] => by
    refine ⟨fun e => ⟨(x, t, v), by simp [putK, e], rfl⟩, fun e => ?_⟩
    simp [putK, Ne.symm e]
  | q :: l => by
    have ih := putK_find (x := x) (t := t) (v := v) y l
    unfold putK
    split
    · rename_i e
      have e : q.1 = x := by simpa using e
      refine ⟨fun h => ⟨(q.1, q.2.1, v), by simp [e, h], rfl⟩, fun h => ?_⟩
      have : (q.1 == y) = false := beq_eq_false_iff_ne.mpr (by rw [e]; exact Ne.symm h)
      simp [this]
    · rename_i e
      have e : q.1 ≠ x := by simpa using e
      refine ⟨fun h => ?_, fun h => ?_⟩
      · have : (q.1 == y) = false := beq_eq_false_iff_ne.mpr (by rw [h]; exact e)
        obtain ⟨p, z1, z2⟩ := ih.1 h
        exact ⟨p, by rw [List.find?_cons, this]; exact z1, z2⟩
      · rw [List.find?_cons, List.find?_cons, ih.2 h]
theorem len_le_of {n : Nat} : ∀ {l : List Nat}, l.Nodup → (∀ x ∈ l, x < n) → l.length ≤ n := by
  induction n with
  | zero => intro l _ h; cases l with | nil => exact Nat.le_refl _ | cons x l => exact absurd (h x List.mem_cons_self) (Nat.not_lt_zero _)
  | succ n ih =>
    intro l nd h
    have : (l.erase n).length ≤ n := by
      refine ih (nd.erase n) fun x hx => ?_
      have h1 := h x (List.mem_of_mem_erase hx)
      have h2 : x ≠ n := fun e => by subst e; exact (List.Nodup.not_mem_erase nd) hx
      omega
    rw [List.length_erase] at this
    split at this <;> omega
theorem ie_put (O : GOk G) {h h' : Heap} (tk : TupKeep h h') {m : Nat → Option SV} {es : List DictEntry} (I : IE G h m es) {x : Nat} (hx : x < G.nf) (t : Tok) {v : SV} {b : Value} (V : VR h v b) :
    IE G h' (setA m x v) (putL (G.fn x) (PyData.keyHash G.w.params (G.fn x)) (.str (G.fn x) t) b es) ∧ (putL (G.fn x) (PyData.keyHash G.w.params (G.fn x)) (.str (G.fn x) t) b es).length ≤ 1000 := by
  obtain ⟨ks, rfl, nd, lt, look⟩ := I
  have lt' : ∀ p ∈ putK x t b ks, p.1 < G.nf := fun p hp => by
    rcases putK_mem hp with z | ⟨q, z1, z2⟩
    · rw [z]; exact hx
    · rw [← z2]; exact lt q z1
  rw [putK_ent O hx t b ks lt]
  refine ⟨⟨putK x t b ks, rfl, putK_nodup nd, lt', fun y => ?_⟩, ?_⟩
  · have z := putK_find (x := x) (t := t) (v := b) y ks
    by_cases hy : y = x
    · obtain ⟨p, z1, z2⟩ := z.1 hy
      rw [z1]
      exact ⟨v, if_pos hy, by rw [z2]; exact V.mono tk⟩
    · rw [z.2 hy]
      have w := look y
      cases hf : ks.find? (fun p => p.1 == y) with
      | none => rw [hf] at w; exact (if_neg hy).trans w
      | some p => rw [hf] at w; obtain ⟨sv, w1, w2⟩ := w; exact ⟨sv, (if_neg hy).trans w1, w2.mono tk⟩
  · rw [List.length_map]
    have := len_le_of (n := G.nf) (putK_nodup (x := x) (t := t) (v := b) nd) (fun y hy => by obtain ⟨p, hp, rfl⟩ := List.mem_map.mp hy; exact lt' p hp)
    rw [List.length_map] at this
    have := O.nfn
    omega
theorem op_setattr (O : GOk G) (R : Rep G σ s) {x v : SV} {a b : Value} {n : Nat} {k : SH → Prop} (ha : VR s.heap x a) (hv : VR s.heap v b) (h : setAttrW G x n v k σ) :
    wpAny (model G.prog G.w) A (setAttr a (G.fn n) b) (PostU G σ s k) (fun _ _ => False) s := by
  obtain ⟨p, c, d, m, rfl, e1, hn, hno, q⟩ := h
  cases ha
  obtain ⟨hc, es, k0, I, hd, ie⟩ := inst_at R e1
  obtain ⟨c1, c2, c3, c4, c5⟩ := O.cls c hc
  have X : G.K.In s.heap := O.kin.keeps R.base
  have ht : takerIn G.K c (G.fn n) = some none := by unfold takerIn; rw [c5 n hn hno]; rfl
  refine set_plain X I c3 (osa_open (s := { s with toks := s.toks + 1 }) (od := some (dictOf es k0)) X I c4 ht fun bb => ?_)
  obtain ⟨cd, hcd, hd'⟩ := any_some c2
  have hx := I.at_
  refine wpAny_bind (wpAny_pure (wpAny_bind (wpAny_bind (wpAny_loadPart (s := { s with toks := s.toks + 1 }) hx (wpAny_bind (Looks.here (s := { s with toks := s.toks + 1 }) (looks_clsIn X hcd) ?_))))))
  rw [hd']
  refine wpAny_pure (a := some d) (wpAny_bind (wpAny_pure (wpAny_bind ?_)))
  unfold nsSet
  refine wpAny_bind (wpAny_bind (wpAny_askSetting (wpAny_pure (wpAny_bind (wpAny_mkText (wpAny_bind (wpAny_loadPart (s := { s with toks := s.toks + 1 + 1 }) hd ?_)))))))
  dsimp only [dictOf]
  have nref : es.toArray.any (·.refKey) = false := by
    obtain ⟨ks, rfl, nd, lt, look⟩ := ie
    rw [List.any_toArray]
    have : ∀ l : List (Nat × Tok × Value), (l.map (ieEnt G)).any (·.refKey) = false := by
      intro l
      induction l with
      | nil => rfl
      | cons p l ih => rw [List.map_cons, List.any_cons, ih]; rfl
    exact this ks
  have cc : (!es.toArray.any (·.key.isStr (G.fn n)) && es.toArray.any (·.refKey)) = false := by rw [nref, Bool.and_false]
  rw [aRefKeyMayBeTheName_at, cc]
  refine wpAny_updatePart (s := { s with toks := s.toks + 1 + 1 }) hd ?_
  have hpn := putName_dict (G.fn n) (PyData.keyHash G.w.params (G.fn n)) (.str (G.fn n) (s.toks + 1)) b es k0
  have hsb : Heap.SameBut d s.heap (s.heap.update d (Obj.putName (G.fn n) (PyData.keyHash G.w.params (G.fn n)) (.str (G.fn n) (s.toks + 1)) b)) := Heap.SameBut.update ..
  have hnew : (s.heap.update d (Obj.putName (G.fn n) (PyData.keyHash G.w.params (G.fn n)) (.str (G.fn n) (s.toks + 1)) b)).get? d = some (dictOf (putL (G.fn n) (PyData.keyHash G.w.params (G.fn n)) (.str (G.fn n) (s.toks + 1)) b es) (putN (G.fn n) es k0)) := by
    rw [← hpn]
    exact Heap.get?_update_self _ hd (by rw [hpn]; rfl)
  have tk : TupKeep s.heap (s.heap.update d (Obj.putName (G.fn n) (PyData.keyHash G.w.params (G.fn n)) (.str (G.fn n) (s.toks + 1)) b)) := by
    intro z o e cl
    by_cases q : z = d
    · subst q; rw [hd] at e; cases e; exact absurd cl.1 (by simp [dictOf])
    · exact (hsb.2 z q).trans e
  obtain ⟨i1, i2⟩ := ie_put O tk ie hn (s.toks + 1) hv
  have da : d ≠ p := fun q => by
    subst q
    have := R.apart _ _ _ _ e1
    rw [this] at e1; cases e1
  refine wpAny_bind (wpAny_lookBehind hnew (pastItsLine_dict (by rw [List.size_toArray, sizeLine_eq]; omega)) ?_)
  obtain ⟨st, R'⟩ := put_inst R (h' := s.heap.update d (Obj.putName (G.fn n) (PyData.keyHash G.w.params (G.fn n)) (.str (G.fn n) (s.toks + 1)) b)) (s.toks + 1 + 1) (a := p) (c := c) (d := d) (m := setA m n v) (.inr ⟨m, e1⟩)
    (fun z ob _ q e => (hsb.2 z q).trans e) ⟨hc, (hsb.2 p (Ne.symm da)).trans hx, _, _, hnew, i1⟩
  exact wpAny_pure ⟨_, st, R', q⟩
end
end Mine
namespace Mine
section
variable {G : Gd} {A : Around} {σ : SH} {s : Shared} {Q : SV → SH → Prop}
theorem upd_list {l : Addr} {vs : List Value} {n : Nat} (e : s.heap.get? l = some (listObj vs n)) (f : Array Value → Array Value) (ws : List Value) (hf : f vs.toArray = ws.toArray) :
    ∃ n', (s.heap.update l (Obj.mapSeq f)).get? l = some (listObj ws n') := by
  refine ⟨if ws.toArray.size == vs.toArray.size then n else n + 1, ?_⟩
  have z : Obj.mapSeq f (listObj vs n) = listObj ws (if ws.toArray.size == vs.toArray.size then n else n + 1) := by
    show Obj.mk _ _ (.seq (f vs.toArray) _) _ = _
    rw [hf]
  rw [← z]
  exact Heap.get?_update_self _ e rfl
theorem put_list (R : Rep G σ s) {l : Addr} {vs : List Value} {n : Nat} {xs ys : List SV} (e : s.heap.get? l = some (listObj vs n)) (e1 : σ l = some (.list xs)) (f : Array Value → Array Value) (ws : List Value) (hf : f vs.toArray = ws.toArray) (V : VRs s.heap ys ws) (t : Nat) :
    Step (fun _ => False) σ s (upd σ l (.list ys)) { s with heap := s.heap.update l (Obj.mapSeq f), toks := t } ∧ Rep G (upd σ l (.list ys)) { s with heap := s.heap.update l (Obj.mapSeq f), toks := t } := by
  obtain ⟨n', g⟩ := upd_list e f ws hf
  have hsb : Heap.SameBut l s.heap (s.heap.update l (Obj.mapSeq f)) := Heap.SameBut.update ..
  have tk : TupKeep s.heap (s.heap.update l (Obj.mapSeq f)) := by
    intro z o e' cl
    by_cases q : z = l
    · subst q; rw [e] at e'; cases e'; exact absurd cl.1 (by simp)
    · exact (hsb.2 z q).trans e'
  exact put_obj R t (by intro c d m h; cases h) (.inr ⟨_, e1, by intro c d m h; cases h⟩) (fun b ob q e' => (hsb.2 b q).trans e') ⟨ws, n', g, V.mono tk⟩
theorem set_list_exact {l : Addr} {vs : List Value} {n : Nat} {k : Int} {t : Tok} {v : Value} {Q : Unit → Shared → Prop} (ho : s.heap.get? l = some (listObj vs n))
    (h0 : 0 ≤ k) (hfit : k < 2 ^ 63) (hn : k < vs.length)
    (hQ : Q () { s with heap := s.heap.update l (Obj.mapSeq (·.setIfInBounds k.toNat v)) }) :
    wpAny (model G.prog G.w) A (setItem (.ref l) (.int k t) v) Q (fun _ _ => False) s := by
  have hl := list_is ho
  unfold setItem
  try with_reducible refine wpAny_holding ?_
  first | refine wpAny_bind (wpAny_pure ?_) | skip
  refine wpAny_bind (wpAny_sequenceKey hl.typeIs (by decide) ?_)
  refine wpAny_bind (wpAny_callSpecial?_slot (name := Str.ofString "__setitem__") hl.typeIs slot_list_setitem
    (wpAny_call_entry slot_list_setitem hl.typeIs entry_list_setitem ?_ (args_list_setitem _ _ _)))
  show wpAny _ _ (Builtin.List.listSubscript? (.int k t) >>= _) _ _ s
  refine wpAny_bind (wpAny_listSubscript_int (fitsIndex_of h0 hfit) ?_)
  clear hfit
  obtain ⟨j, rfl⟩ := Int.eq_ofNat_of_zero_le h0
  have hj : j < vs.toArray.size := by simp; omega
  have hx' : vs.toArray[j]? = some vs.toArray[j] := Array.getElem?_eq_getElem hj
  show wpAny _ _ ((seqItemAt l j >>= fun r => pure (r.map (j, ·))) >>= _) _ _ s
  refine wpAny_bind (wpAny_bind (wpAny_seqItemAt ho rfl (wpAny_pure ?_)))
  rw [hx']
  show wpAny _ _ (setSeqItemAt l j v >>= _) _ _ s
  refine wpAny_bind (wpAny_setSeqItemAt ho rfl ?_)
  first
    | exact wpAny_bind (wpAny_pure (wpAny_pure ⟨.none, rfl, wpAny_pure hQ⟩))
    | exact wpAny_pure ⟨.none, rfl, wpAny_pure hQ⟩
theorem VRs.set {h : Heap} : ∀ {l : List SV} {vs : List Value} (i : Nat) {x : SV} {v : Value}, VRs h l vs → VR h x v → VRs h (l.set i x) (vs.set i v)
  | [], _, i, _, _, e, _ => by cases e; simp; rfl
  | y :: l, _, i, x, v, e, q => by
    obtain ⟨w, r, rfl, e2, e3⟩ := e
    cases i with
    | zero => exact ⟨v, r, rfl, q, e3⟩
    | succ i => exact ⟨w, r.set i v, rfl, e2, e3.set i q⟩
theorem keys_zip {m : List (Int × SV)} {vs : List Value} (h : vs.length = m.length) : ((m.map (·.1)).zip vs).map (·.1) = m.map (·.1) := by
  rw [List.map_fst_zip]; simp [h]
theorem stored_zip {h : Heap} (k : Int) {v : SV} {b : Value} (hv : VR h v b) : ∀ {m : List (Int × SV)} {vs : List Value}, VRs h (m.map (·.2)) vs →
    ∃ ws, stored ((m.map (·.1)).zip vs) k b = ((mput m k v).map (·.1)).zip ws ∧ VRs h ((mput m k v).map (·.2)) ws := by
  have gen : ∀ {m : List (Int × SV)} {vs : List Value}, VRs h (m.map (·.2)) vs →
      (((m.map (·.1)).zip vs).any (fun kv => decide (kv.1 = k)) = m.any (fun p => decide (p.1 = k))) ∧
      (∃ ws, ((m.map (·.1)).zip vs).map (fun kv => if kv.1 = k then (kv.1, b) else kv) = ((m.map fun p => if p.1 = k then (p.1, v) else p).map (·.1)).zip ws ∧ VRs h ((m.map fun p => if p.1 = k then (p.1, v) else p).map (·.2)) ws) := by
    intro m
    induction m with
    | nil => intro vs e; cases e; exact ⟨rfl, [], rfl, rfl⟩
    | cons p m ih =>
      intro vs e
      obtain ⟨w, r, rfl, e2, e3⟩ := e
      obtain ⟨i1, ws, i2, i3⟩ := ih e3
      refine ⟨by simp only [List.map_cons, List.zip_cons_cons, List.any_cons, i1], ?_⟩
      by_cases hp : p.1 = k
      · refine ⟨b :: ws, ?_, ?_⟩
        · simp only [List.map_cons, List.zip_cons_cons, hp, if_true, i2]
        · simp only [List.map_cons, hp, if_true]
          exact ⟨b, ws, rfl, hv, i3⟩
      · refine ⟨w :: ws, ?_, ?_⟩
        · simp only [List.map_cons, List.zip_cons_cons, hp, if_false, i2]
        · simp only [List.map_cons, hp, if_false]
          exact ⟨w, ws, rfl, e2, i3⟩
  intro m vs e
  obtain ⟨g1, ws, g2, g3⟩ := gen e
  unfold stored mput
  rw [g1]
  split
  · exact ⟨ws, g2, g3⟩
  · refine ⟨vs ++ [b], ?_, ?_⟩
    · rw [List.map_append, List.zip_append (by rw [e.length, List.length_map, List.length_map])]; rfl
    · rw [List.map_append]; exact e.append (VRs.one hv)
theorem op_setsub (O : GOk G) (R : Rep G σ s) {x y v : SV} {a i b : Value} {k : SH → Prop} (ha : VR s.heap x a) (hi : VR s.heap y i) (hv : VR s.heap v b) (h : setSubW x y v k σ) :
    wpAny (model G.prog G.w) A (setItem a i b) (PostU G σ s k) (fun _ _ => False) s := by
  cases x <;> first | exact h.elim | (cases y <;> first | exact h.elim | skip)
  cases ha
  obtain ⟨t, rfl⟩ := hi
  rename_i l j
  rcases h with ⟨xs, e1, h0, h1, h2, q⟩ | ⟨m, ep, e1, hz, q⟩
  · obtain ⟨vs, n, g1, g2⟩ := R.objs _ _ e1
    refine set_list_exact g1 h0 (by omega) (by rw [g2.length]; exact h1) ?_
    obtain ⟨st, R'⟩ := put_list R g1 e1 (·.setIfInBounds j.toNat b) (vs.set j.toNat b) (by simp) (g2.set j.toNat hv) s.toks
    exact ⟨_, st, R', q⟩
  · obtain ⟨vs, D, V⟩ := R.objs _ _ e1
    refine wpAny_setItem_pairs (intKind_is _ _ _ _) D.dictOf (fun h' D' hs' => ?_) (by rw [List.length_zip, V.length, List.length_map, List.length_map, sizeLine_eq]; omega)
    obtain ⟨ep', D''⟩ := D'.dictAt
    have tk : TupKeep s.heap h' := by
      intro z o e' cl
      by_cases hq : z = l
      · subst hq
        obtain ⟨o', es, ho, hc, _⟩ := D
        rw [ho] at e'; cases e'
        exact absurd cl.1 (by rw [hc.1]; simp)
      · exact (hs'.2 z hq).trans e'
    obtain ⟨ws, w1, w2⟩ := stored_zip (h := s.heap) j hv V
    rw [w1] at D''
    obtain ⟨st, R'⟩ := put_obj R (h' := h') (s.toks + 1) (a := l) (o := .dict (mput m j v) ep') (by intro c d m h; cases h) (.inr ⟨_, e1, by intro c d m h; cases h⟩) (fun b ob q e' => (hs'.2 b q).trans e') ⟨ws, D'', w2.mono tk⟩
    exact ⟨_, st, R', q ep'⟩
theorem op_neg (R : Rep G σ s) {x : SV} {a : Value} (ha : VR s.heap x a) (h : ∃ i, x = .int i ∧ Q (.int (-i)) σ) : wpAny (model G.prog G.w) A (unaryOp .USub a) (Post G σ s Q) (fun _ _ => False) s := by
  obtain ⟨i, rfl, q⟩ := h
  obtain ⟨t, rfl⟩ := ha
  exact P.neg_int (Post.int R _ q)
theorem op_true (R : Rep G σ s) {x : SV} {a : Value} {k : Bool → SH → Prop} (ha : VR s.heap x a) (h : truW x fun c => k c σ) : wpAny (model G.prog G.w) A (truthy a) (PostB G σ s k) (fun _ _ => False) s := by
  cases x <;> first | exact h.elim | skip
  cases ha
  exact wpAny_truthy_bool ⟨σ, Step.refl .., R, h⟩
end
end Mine
namespace Mine
section
variable {G : Gd} {C : Cx} {env : Env}
noncomputable abbrev NoE : Value → Shared → Prop := fun _ _ => False
noncomputable def EvE (G : Gd) (C : Cx) (env : Env) (e : E) : Prop := ∀ (d : Nat) (Q : SV → SH → Prop) (loc : Loc) (σ : SH) (s : Shared) (A : Around), Ok d A → Rep G σ s → Dyn G C env σ loc s → wpE G d e Q loc σ →
  wpAny (model G.prog G.w) A (eval (e.py C.N) env) (Post G σ s Q) NoE s
inductive PostL (G : Gd) (σ : SH) (s : Shared) (Q : List SV → SH → Prop) (vs : List Value) (s' : Shared) : Prop where
  | mk (svs : List SV) (σ' : SH) (st : Step (fun _ => False) σ s σ' s') (R : Rep G σ' s') (V : VRs s'.heap svs vs) (q : Q svs σ')
noncomputable def EvL (G : Gd) (C : Cx) (env : Env) (e : EL) : Prop := ∀ (d : Nat) (Q : List SV → SH → Prop) (loc : Loc) (σ : SH) (s : Shared) (A : Around) (pos : Pos), Ok d A → Rep G σ s → Dyn G C env σ loc s → wpEs G d e Q loc σ →
  wpAny (model G.prog G.w) A (spliced (backTo pos (starEach (e.py C.N) env))) (PostL G σ s Q) NoE s
noncomputable def EvO (G : Gd) (C : Cx) (env : Env) (e : EL) : Prop := ∀ (d : Nat) (op : BoolOp) (v : SV) (b : Value) (Q : SV → SH → Prop) (loc : Loc) (σ : SH) (s : Shared) (A : Around) (a : E) (pos : Pos), Ok d A → Rep G σ s → Dyn G C env σ loc s → VR s.heap v b → wpO G d op e v Q loc σ →
  wpAny (model G.prog G.w) A (match e.py C.N with
    | [] => pure b
    | es => do
      standAt pos
      let t ← holding [b] (truthy b)
      match op, t with
      | .And, false | .Or, true => pure b
      | _, _ => boolOp pos op (evalEach es env)) (Post G σ s Q) NoE s
noncomputable def EvT (G : Gd) (C : Cx) (env : Env) (e : E) : Prop := ∀ (d : Nat) (k : Bool → SH → Prop) (loc : Loc) (σ : SH) (s : Shared) (A : Around), Ok d A → Rep G σ s → Dyn G C env σ loc s → wpT G d e k loc σ →
  wpAny (model G.prog G.w) A (isTrue (e.py C.N) env (eval (e.py C.N) env)) (PostB G σ s k) NoE s
noncomputable def EvC (G : Gd) (C : Cx) (env : Env) (e : EL) : Prop := ∀ (d : Nat) (op : BoolOp) (b : Bool) (k : Bool → SH → Prop) (loc : Loc) (σ : SH) (s : Shared) (A : Around), Ok d A → Rep G σ s → Dyn G C env σ loc s → wpC G d op e b k loc σ →
  wpAny (model G.prog G.w) A (match op, b with
    | .And, false => pure false
    | .Or, true => pure true
    | _, _ => allTrue op (e.py C.N) env) (PostB G σ s k) NoE s
variable (O : GOk G) (Sv : EnvS C env) (hN : C.N.fn = G.fn ∧ C.N.gl = G.gl)
theorem Ok.units {d : Nat} {A : Around} (h : Ok d A) : A.units < cLine := by have := h.2.2; omega
theorem mono0 {α : Type} {A : Around} {t : Sem α} {P Q : α → Shared → Prop} {s : Shared} (h : wpAny (model G.prog G.w) A t P NoE s) (k : ∀ a s', P a s' → Q a s') : wpAny (model G.prog G.w) A t Q NoE s := wpAny_mono h k fun _ _ f => f
theorem py_notSlice (N : Nm) (e : E) (o i : Value) : subscripted (e.py N) false o i = operate [o, i] (getItem o i) := by cases e <;> rfl
theorem py_notStar (N : Nm) (e : E) (r : List Expr) : starEach (e.py N :: r) env = (false, eval (e.py N) env) :: starEach r env := by cases e <;> rfl
theorem py_marks (N : Nm) (op : CmpOp) (e : E) : behindInMarks op (e.py N) = false := by cases e <;> rfl
include Sv in
theorem ev_loc (i : Nat) (p : Pos) (wf : (E.loc i p).wf C = true) : EvE G C env (.loc i p) := by
  intro d Q loc σ s A hA R D h
  obtain ⟨v, e, q⟩ := locW_ex h
  have hs : C.sees i = true := wf
  refine wpAny_Name ?_ (Sv.dbg i hs)
  rcases Sv.kinds i hs with hk | ⟨hk, c, hc⟩
  · obtain ⟨m, ns, k⟩ := D.ns
    obtain ⟨w, e1, e2⟩ := k i v hs hk e
    exact wpAny_loadName_local Sv.kind hk ns e1 (Post.same R e2 q)
  · obtain ⟨ov, ic, k⟩ := D.cs _ c hc
    obtain ⟨w, e1, e2⟩ := k i v hs rfl hk e
    subst e1
    exact wpAny_loadName_cell Sv.kind hk hc ic (Post.same R e2 q)
include O Sv hN in
theorem ev_glob (j : Nat) (p : Pos) (wf : (E.glob j p).wf C = true) : EvE G C env (.glob j p) := by
  intro d Q loc σ s A hA R D h
  obtain ⟨q, e, hq⟩ := globW_ex h
  have hj : j ∈ C.gk := List.contains_iff_mem.mp wf
  have hn : C.N.g j = q.1 := by
    unfold Nm.g
    rw [hN.2]
    simp [List.getD, e]
  refine wpAny_Name ?_ (Sv.gks j hj).2
  show wpAny _ _ (loadName env (C.N.g j)) _ _ _
  rw [loadName_read Sv.kind (Sv.gks j hj).1, hn]
  exact O.glob j q e env A _ _ s Sv.globals Sv.builtins R.base (Post.same R (gsv_vr s.heap q.2) hq)
theorem base_py (N : Nm) (o : E) (x : Str) {Q : Value → Shared → Prop} {A : Around} {s : Shared} (ns : (env.kindOf "super" != some .globalImplicit) = true) (h : wpAny (model G.prog G.w) A (eval (o.py N) env) Q NoE s) :
    wpAny (model G.prog G.w) A (attributeBase (o.py N) x env (eval (o.py N) env)) Q NoE s := by
  have gen : ∀ (ex : Expr) (t : Sem Value), wpAny (model G.prog G.w) A t Q NoE s → wpAny (model G.prog G.w) A (attributeBase ex x env t) Q NoE s := by
    intro ex t h
    cases ex with
    | Call f args kws pos =>
      cases f with
      | Name id p1 =>
        cases args with
        | cons _ _ => exact h
        | nil =>
          cases kws with
          | cons _ _ => exact h
          | nil =>
            have c : (id != ("super" : Str) || x == ("__class__" : Str) || env.kindOf "super" != some NameKind.globalImplicit || env.kindOf "__class__" != some NameKind.free) = true := by rw [ns, Bool.or_true]; rfl
            rw [show attributeBase (.Call (.Name id p1) [] [] pos) x env t = t from if_pos c]
            exact h
      | _ => exact h
    | _ => exact h
  exact gen _ _ h
include O Sv hN in
theorem ev_attr (e : E) (x : Nat) (p : Pos) (ie : EvE G C env e) : EvE G C env (.attr e x p) := by
  intro d Q loc σ s A hA R D h
  show wpAny _ _ (eval (.Attribute (e.py C.N) (C.N.fn x) p) env) _ _ _
  rw [arm_eval_Attribute]
  refine wpAny_bind (base_py C.N e _ Sv.nosuper (mono0 (ie d _ loc σ s A hA R D h) fun v s1 h1 => ?_))
  obtain ⟨o, σ1, st, R1, V1, h1⟩ := h1
  refine wpAny_bind (wpAny_standAt (wpAny_bind (wpAny_holding ?_)))
  rw [hN.1]
  exact mono0 (op_attr O R1 V1 h1) fun r s2 h2 => wpAny_bind (wpAny_letTemporaryGo (wpAny_pure (Post.trans st h2)))
theorem ev_sub (e i : E) (p : Pos) (ie : EvE G C env e) (ii : EvE G C env i) : EvE G C env (.sub e i p) := by
  intro d Q loc σ s A hA R D h
  refine Subscript_ (mono0 (ie d _ loc σ s A hA R D h) fun v s1 h1 => ?_)
  obtain ⟨o, σ1, st, R1, V1, h1⟩ := h1
  refine mono0 (ii d _ loc σ1 s1 A hA R1 (D.step0 st) h1) fun w s2 h2 => ?_
  obtain ⟨iv, σ2, st2, R2, V2, h2⟩ := h2
  exact mono0 (op_sub R2 (V1.mono st2.tup) V2 h2 (py_notSlice C.N i)) fun r s3 h3 => Post.trans (st.trans st2) h3
theorem ev_slTo (e u : E) (ps p : Pos) (ie : EvE G C env e) (ii : EvE G C env u) : EvE G C env (.slTo e u ps p) := by
  intro d Q loc σ s A hA R D h
  refine Subscript_ (mono0 (ie d _ loc σ s A hA R D h) fun v s1 h1 => ?_)
  obtain ⟨o, σ1, st, R1, V1, h1⟩ := h1
  refine wpAny_Slice (wpAny_pure (mono0 (ii d _ loc σ1 s1 A hA R1 (D.step0 st) h1) fun w s2 h2 => ?_))
  obtain ⟨iv, σ2, st2, R2, V2, h2⟩ := h2
  exact wpAny_pure (mono0 (op_slTo R2 (V1.mono st2.tup) V2 (fun o i => rfl) h2) fun r s3 h3 => Post.trans (st.trans st2) h3)
theorem ev_slFrom (e u : E) (ps p : Pos) (ie : EvE G C env e) (ii : EvE G C env u) : EvE G C env (.slFrom e u ps p) := by
  intro d Q loc σ s A hA R D h
  refine Subscript_ (mono0 (ie d _ loc σ s A hA R D h) fun v s1 h1 => ?_)
  obtain ⟨o, σ1, st, R1, V1, h1⟩ := h1
  refine wpAny_Slice (mono0 (ii d _ loc σ1 s1 A hA R1 (D.step0 st) h1) fun w s2 h2 => ?_)
  obtain ⟨iv, σ2, st2, R2, V2, h2⟩ := h2
  exact wpAny_pure (wpAny_pure (mono0 (op_slFrom R2 (V1.mono st2.tup) V2 (fun o i => rfl) h2) fun r s3 h3 => Post.trans (st.trans st2) h3))
theorem ev_bin (op : Operator) (a b : E) (p : Pos) (ia : EvE G C env a) (ib : EvE G C env b) : EvE G C env (.bin op a b p) := by
  intro d Q loc σ s A hA R D h
  refine wpAny_BinOp (mono0 (ia d _ loc σ s A hA R D h) fun v s1 h1 => ?_)
  obtain ⟨o, σ1, st, R1, V1, h1⟩ := h1
  refine mono0 (ib d _ loc σ1 s1 A hA R1 (D.step0 st) h1) fun w s2 h2 => ?_
  obtain ⟨iv, σ2, st2, R2, V2, h2⟩ := h2
  exact mono0 (op_bin R2 (V1.mono st2.tup) V2 h2) fun r s3 h3 => Post.trans (st.trans st2) h3
include O in
theorem ev_cmp (op : CmpOp) (a b : E) (p : Pos) (ia : EvE G C env a) (ib : EvE G C env b) : EvE G C env (.cmp op a b p) := by
  intro d Q loc σ s A hA R D h
  refine wpAny_Compare1 (mono0 (ia d _ loc σ s A hA R D h) fun v s1 h1 => ?_) (py_marks C.N op b)
  obtain ⟨o, σ1, st, R1, V1, h1⟩ := h1
  refine mono0 (ib d _ loc σ1 s1 A hA R1 (D.step0 st) h1) fun w s2 h2 => ?_
  obtain ⟨iv, σ2, st2, R2, V2, h2⟩ := h2
  exact mono0 (op_cmp R2 O.sys hA.units (V1.mono st2.tup) V2 h2) fun r s3 h3 => Post.trans (st.trans st2) h3
theorem ev_neg (a : E) (p : Pos) (ia : EvE G C env a) : EvE G C env (.neg a p) := by
  intro d Q loc σ s A hA R D h
  refine UnaryOp_ (mono0 (ia d _ loc σ s A hA R D h) fun v s1 h1 => ?_)
  obtain ⟨o, σ1, st, R1, V1, h1⟩ := h1
  exact mono0 (op_neg R1 V1 (negW_ex h1)) fun r s3 h3 => Post.trans st h3
theorem ev_not (a : E) (p : Pos) (ia : EvE G C env a) : EvE G C env (.not a p) := by
  intro d Q loc σ s A hA R D h
  refine UnaryOp_ (mono0 (ia d _ loc σ s A hA R D h) fun v s1 h1 => not_of ?_)
  obtain ⟨o, σ1, st, R1, V1, h1⟩ := h1
  refine mono0 (op_true (k := fun b h => Q (.bool (!b)) h) R1 V1 h1) fun r s3 h3 => ?_
  obtain ⟨σ2, st2, R2, q⟩ := h3
  exact ⟨.bool (!r), σ2, st.trans st2, R2, (show VR s3.heap (.bool (!r)) _ from rfl), q⟩
theorem ev_list (es : EL) (p : Pos) (ie : EvL G C env es) : EvE G C env (.list es p) := by
  intro d Q loc σ s A hA R D h
  refine List_ (mono0 (ie d _ loc σ s A p hA R D h) fun vs s1 h1 => ?_)
  obtain ⟨l, σ1, st, R1, V1, h1⟩ := h1
  obtain ⟨hz, q⟩ := gd_ex h1
  have hz := Nat.le_of_ble_eq_true hz
  exact wpAny_newObj_type (Post.trans st (new_list R1 V1 _ q)) (by show vs.toArray.size ≤ sizeLine; rw [List.size_toArray, V1.length, sizeLine_eq]; omega)
theorem ev_tup (es : EL) (k : Nat) (p : Pos) (ie : EvL G C env es) : EvE G C env (.tup es k p) := by
  intro d Q loc σ s A hA R D h
  refine Tuple_ (mono0 (ie d _ loc σ s A p hA R D h) fun vs s1 h1 => ?_)
  obtain ⟨l, σ1, st, R1, V1, h1⟩ := h1
  obtain ⟨hz, q⟩ := gd_ex h1
  have hz := Nat.le_of_ble_eq_true hz
  exact wpAny_newObj_type (Post.trans st (new_tup R1 V1 _ q)) (by show vs.toArray.size ≤ sizeLine; rw [List.size_toArray, V1.length, sizeLine_eq]; omega)
theorem ev_ite (t a b : E) (p : Pos) (it : EvT G C env t) (ia : EvE G C env a) (ib : EvE G C env b) : EvE G C env (.ite t a b p) := by
  intro d Q loc σ s A hA R D h
  refine IfExp_ (mono0 (it d _ loc σ s A hA R D h) fun c s1 h1 => ?_)
  obtain ⟨σ1, st, R1, h1⟩ := h1
  cases c with
  | true => exact mono0 (ia d _ loc σ1 s1 A hA R1 (D.step0 st) h1) fun r s3 h3 => Post.trans st h3
  | false => exact mono0 (ib d _ loc σ1 s1 A hA R1 (D.step0 st) h1) fun r s3 h3 => Post.trans st h3
end
end Mine
namespace Mine
section
variable {G : Gd} {C : Cx} {env : Env}
variable (O : GOk G) (Sv : EnvS C env) (hN : C.N.fn = G.fn ∧ C.N.gl = G.gl)
theorem ev_none (p : Pos) : EvE G C env (.none p) := fun d Q loc σ s A hA R D h => Constant_none (Post.same R (show VR s.heap .none _ from rfl) h)
theorem ev_bool (b : Bool) (p : Pos) : EvE G C env (.bool b p) := fun d Q loc σ s A hA R D h => Constant_bool (Post.bool R h)
theorem ev_int (i : Int) (p : Pos) : EvE G C env (.int i p) := fun d Q loc σ s A hA R D h => wpAny_Constant_int (Post.int R _ h)
theorem ev_byt (b : List UInt8) (p : Pos) : EvE G C env (.byt b p) := fun d Q loc σ s A hA R D h => Constant_bytes (Post.byt R _ h)
theorem ev_dict0 (p : Pos) : EvE G C env (.dict0 p) := by
  intro d Q loc σ s A hA R D h
  show wpAny _ _ (eval (.Dict [] [] p) env) _ _ _
  rw [arm_eval_Dict]
  refine wpAny_bind (wpAny_standAt ?_)
  have e : dictDisplay ((evalEachOpt [] env).zip ((evalEach [] env).map fun v => do let x ← v; standAt p; pure x)) = newDict := by kernel_rfl
  rw [e]
  unfold newDict
  exact wpAny_newObj_type (new_dict R _ h)
theorem el_nil : EvL G C env .nil := fun d Q loc σ s A pos hA R D h => spliced_nil ⟨[], σ, Step.refl .., R, rfl, h⟩
theorem el_cons (e : E) (r : EL) (ie : EvE G C env e) (ir : EvL G C env r) : EvL G C env (.cons e r) := by
  intro d Q loc σ s A pos hA R D h
  show wpAny _ _ (spliced (backTo pos (starEach (e.py C.N :: r.py C.N) env))) _ _ _
  rw [py_notStar]
  show wpAny _ _ (spliced ((false, eval (e.py C.N) env) :: backTo pos (starEach (r.py C.N) env))) _ _ _
  refine spliced_cons (mono0 (ie d _ loc σ s A hA R D h) fun v s1 h1 => ?_)
  obtain ⟨o, σ1, st, R1, V1, h1⟩ := h1
  refine mono0 (ir d _ loc σ1 s1 A pos hA R1 (D.step0 st) h1) fun vs s2 h2 => ?_
  obtain ⟨l, σ2, st2, R2, V2, q⟩ := h2
  exact ⟨o :: l, σ2, st.trans st2, R2, ⟨v, vs, rfl, V1.mono st2.tup, V2⟩, q⟩
theorem args_of (es : EL) (ie : EvL G C env es) {d : Nat} {Q : List SV → SH → Prop} {loc : Loc} {σ : SH} {s : Shared} {A : Around} {pos : Pos} {f : Value} (hA : Ok d A) (R : Rep G σ s) (D : Dyn G C env σ loc s) (h : wpEs G d es Q loc σ) :
    wpAny (model G.prog G.w) A (evalArgs f true (backTo pos (starEach (es.py C.N) env)) []) (fun a s' => a.kw = [] ∧ PostL G σ s Q a.pos s') NoE s := by
  cases es with
  | nil => exact evalArgs_nil3 ⟨rfl, [], σ, Step.refl .., R, rfl, h⟩
  | cons e r =>
    have z := ie d Q loc σ s A pos hA R D h
    have e1 : backTo pos (starEach ((EL.cons e r).py C.N) env) = (false, eval (e.py C.N) env) :: backTo pos (starEach (r.py C.N) env) := by
      show backTo pos (starEach (e.py C.N :: r.py C.N) env) = _
      rw [py_notStar]; rfl
    rw [e1] at z ⊢
    exact evalArgs_plain (mono0 z fun vs s' h' => ⟨rfl, h'⟩)
theorem star_plain (pos : Pos) : ∀ es : EL, (backTo pos (starEach (es.py C.N) env)).any (·.1) = false
  | .nil => rfl
  | .cons e r => by
    show (backTo pos (starEach (e.py C.N :: r.py C.N) env)).any (·.1) = false
    rw [py_notStar]
    exact star_plain pos r
theorem star_all (pos : Pos) : ∀ es : EL, (backTo pos (starEach (es.py C.N) env)).all (!·.1) = true
  | .nil => rfl
  | .cons e r => by
    show (backTo pos (starEach (e.py C.N :: r.py C.N) env)).all (!·.1) = true
    rw [py_notStar]
    exact star_all pos r
theorem py_len (N : Nm) : ∀ es : EL, (es.py N).length = es.len
  | .nil => rfl
  | .cons e r => by show (r.py N).length + 1 = _; rw [py_len N r]; rfl
theorem call_of (es : EL) (ie : EvL G C env es) {d : Nat} {P : List SV → SH → Prop} {Q : SV → SH → Prop} {loc : Loc} {σ : SH} {s : Shared} {A : Around} {pos : Pos} {f : Value} {first : List Value} {fs : List SV}
    (hA : Ok d A) (R : Rep G σ s) (D : Dyn G C env σ loc s) (F : VRs s.heap fs first) (hP : ∀ l σ, P l σ → CallF G d f (fs ++ l) Q σ)
    (h : wpEs G d es P loc σ) :
    wpAny (model G.prog G.w) A (callWith pos f first (backTo pos (starEach (es.py C.N) env)) []) (Post G σ s Q) NoE s := by
  refine callWith_of (P := fun h => ∃ k, (k = Keeper.frame ∨ k = Keeper.machine ∨ k = Keeper.boundFrame) ∧ Looks (model G.prog G.w) h (keeperOf f) k) (by rw [star_plain]; rfl) (fun _ h => h) (mono0 (args_of es ie hA R D h) fun a s1 h1 => ?_)
  obtain ⟨hkw, l, σ1, st, R1, V1, hc⟩ := h1
  have hc := hP _ _ hc
  refine ⟨hc.1 _ R1.base, ?_⟩
  rw [hkw]
  exact mono0 (hc.2 A s1 (first ++ a.pos) hA R1 ((F.mono st.tup).append V1)) fun r s2 h2 => Post.trans st h2
include O in
theorem meth_get {ov : SV} {x : Nat} {f : Value} {σ : SH} {s : Shared} {A : Around} {a : Value} {pl : Sem Bool} {Q : Value × List Value → Shared → Prop} (R : Rep G σ s) (V : VR s.heap ov a) (h : MRes G ov x f σ) (q : Q (f, [a]) s) :
    wpAny (model G.prog G.w) A (getMethod a (G.fn x) pl) Q NoE s := by
  obtain ⟨p, rfl, h⟩ := h
  cases V
  rcases h with ⟨c, d, m, e1, hm, hn⟩ | ⟨l, e1, hm⟩ | ⟨m, ep, e1, hm⟩
  · obtain ⟨hc, es, k0, I, hd, ie⟩ := inst_at R e1
    obtain ⟨c1, c2, c3, c4, c5⟩ := O.cls c hc
    obtain ⟨n2, fa, rfl, g1, g2⟩ := O.meth c x f hm
    have X : G.K.In s.heap := O.kin.keeps R.base
    have hl := (ie_get O ie n2).2 hn
    exact method_fn X I (plainGet_of (name := "") c1).1 (plainGet_of (name := "") c1).2 g1 (beq_iff_eq.mp g2) (by show (lookIn (G.fn x) (dictOf es k0)).map _ = _; rw [lookIn_dict, hl]; rfl) q
  · obtain ⟨vs, n, g1, g2⟩ := R.objs _ _ e1
    obtain ⟨id, rfl, sl, ty⟩ := O.lms x f hm
    exact getMethod_builtin (list_is g1).typeIs F.plainAttrs_list sl ty (fun b e => by cases e; exact ⟨_, g1, rfl⟩) q
  · obtain ⟨vs, D, V⟩ := R.objs _ _ e1
    obtain ⟨id, rfl, sl, ty⟩ := O.dms x f hm
    exact getMethod_builtin (map_of D).typeIs F.plainAttrs_dict sl ty (map_of D).noDict q
theorem ev_call (f : E) (args : EL) (p : Pos) (hf : f.isGlob = true) (jf : EvE G C env f) (ja : EvL G C env args) : EvE G C env (.call f args p) := by
  intro d Q loc σ s A hA R D h
  cases f <;> try cases hf
  rename_i j q
  show wpAny _ _ (eval (.Call (.Name (C.N.g j) q) (args.py C.N) [] p) env) _ _ _
  have h' : wpE G d (.glob j q) (fun fv h1 => wpEs G d args (fun vs h2 => callW G d fv vs Q h2) loc h1) loc σ := h
  obtain ⟨pq, e, hq⟩ := globW_ex h'
  refine Call_ (mono0 (jf d (fun fv h1 => fv = gsv pq.2 ∧ h1 = σ) loc σ s A hA R D (globW_of e ⟨rfl, rfl⟩)) fun v s1 h1 => ?_)
  obtain ⟨o, σ1, st, R1, V1, rfl, rfl⟩ := h1
  exact mono0 (call_of args ja (fs := []) (first := []) hA R1 (D.step0 st) rfl (fun l h z => by
    obtain ⟨v', e1, e2⟩ := callW_ex z
    rw [e1] at V1
    have V1 : v = v' := V1
    rw [V1]; exact e2) hq) fun r s2 h2 => Post.trans st h2
include O Sv hN in
theorem ev_meth (o : E) (x : Nat) (args : EL) (ap p : Pos) (hn : args.len < 29) (hl : (ap.endLine == p.line) = true) (jo : EvE G C env o) (ja : EvL G C env args) : EvE G C env (.meth o x args ap p) := by
  intro d Q loc σ s A hA R D h
  show wpAny _ _ (eval (.Call (.Attribute (o.py C.N) (C.N.fn x) ap) (args.py C.N) [] p) env) _ _ _
  rw [arm_eval_Call]
  refine wpAny_bind (base_py C.N o _ Sv.nosuper (mono0 (jo d _ loc σ s A hA R D h) fun v s1 h1 => ?_))
  obtain ⟨ov, σ1, st, R1, V1, f, hm, hc⟩ := h1
  refine wpAny_bind (wpAny_standAt ?_)
  have hform : methodCallForm ((args.py C.N).length + ([] : List Keyword).length) (backTo p (starEach (args.py C.N) env)) (backToKw p (keywordEach [] env)) = true := by
    unfold methodCallForm
    rw [star_all]
    simp only [Bool.true_and, py_len, List.length_nil, Nat.add_zero]
    have : (backToKw p (keywordEach [] env)) = [] := rfl
    rw [this]
    simp; omega
  have hpos : methodCallPos true (o.py C.N) env ap p = pure p := by unfold methodCallPos; simp [hl]
  unfold methodCall
  rw [hform, hN.1]
  refine wpAny_bind (wpAny_holding (meth_get O R1 V1 hm ?_))
  refine wpAny_bind (wpAny_of_eq hpos ?_)
  exact mono0 (call_of args ja (fs := [ov]) (first := [v]) hA R1 (D.step0 st) (VRs.one V1) (fun l h z => z) hc) fun r s2 h2 => Post.trans st h2
theorem eo_nil : EvO G C env .nil := fun d op v b Q loc σ s A a pos hA R D V h => wpAny_pure (Post.same R V h)
theorem eo_cons (e : E) (r : EL) (ie : EvE G C env e) (ir : EvO G C env r) : EvO G C env (.cons e r) := by
  intro d op v b Q loc σ s A a pos hA R D V h
  show wpAny _ _ (do
      standAt pos
      let t ← holding [b] (truthy b)
      match op, t with
      | .And, false | .Or, true => pure b
      | _, _ => boolOp pos op (evalEach (e.py C.N :: r.py C.N) env)) _ _ _
  refine wpAny_bind (wpAny_standAt (wpAny_bind (wpAny_holding (mono0 (op_true (k := fun c h => if c = isAnd op then wpE G d e (fun v' h1 => wpO G d op r v' Q loc h1) loc h else Q v h) R V h) fun c s1 h1 => ?_))))
  obtain ⟨σ1, st, R1, h1⟩ := h1
  have go : wpE G d e (fun v' h1 => wpO G d op r v' Q loc h1) loc σ1 → wpAny (model G.prog G.w) A (boolOp pos op (evalEach (e.py C.N :: r.py C.N) env)) (Post G σ s Q) NoE s1 := by
    intro h1
    have z := ie d _ loc σ1 s1 A hA R1 (D.step0 st) h1
    have key : ∀ (b' : Value) (s2 : Shared), Post G σ1 s1 (fun v' h1 => wpO G d op r v' Q loc h1) b' s2 → wpAny (model G.prog G.w) A (match r.py C.N with
        | [] => pure b'
        | es => do
          standAt pos
          let t ← holding [b'] (truthy b')
          match op, t with
          | .And, false | .Or, true => pure b'
          | _, _ => boolOp pos op (evalEach es env)) (Post G σ s Q) NoE s2 := by
      intro b' s2 h2
      obtain ⟨v', σ2, st2, R2, V2, h2⟩ := h2
      exact mono0 (ir d op v' b' Q loc σ2 s2 A a pos hA R2 (D.step0 (st.trans st2)) V2 h2) fun w s3 h3 => Post.trans (st.trans st2) h3
    cases r with
    | nil => exact mono0 z fun b' s2 h2 => Post.trans st h2
    | cons e' r' => exact wpAny_bind (mono0 z fun b' s2 h2 => key b' s2 h2)
  cases op <;> cases c <;> simp only [isAnd, Bool.false_eq_true, Bool.true_eq_false, if_true, if_false] at h1
  · exact wpAny_pure (Post.trans st (Post.same R1 (V.mono st.tup) h1))
  · exact go h1
  · exact go h1
  · exact wpAny_pure (Post.trans st (Post.same R1 (V.mono st.tup) h1))
theorem ev_bop (op : BoolOp) (a : E) (r : EL) (p : Pos) (ia : EvE G C env a) (ir : EvO G C env r) : EvE G C env (.bop op a r p) := by
  intro d Q loc σ s A hA R D h
  have z := ia d _ loc σ s A hA R D h
  have key : ∀ (b' : Value) (s2 : Shared), Post G σ s (fun v' h1 => wpO G d op r v' Q loc h1) b' s2 → wpAny (model G.prog G.w) A (match r.py C.N with
        | [] => pure b'
        | es => do
          standAt p
          let t ← holding [b'] (truthy b')
          match op, t with
          | .And, false | .Or, true => pure b'
          | _, _ => boolOp p op (evalEach es env)) (Post G σ s Q) NoE s2 := by
    intro b' s2 h2
    obtain ⟨v', σ2, st2, R2, V2, h2⟩ := h2
    exact mono0 (ir d op v' b' Q loc σ2 s2 A a p hA R2 (D.step0 st2) V2 h2) fun w s3 h3 => Post.trans st2 h3
  show wpAny _ _ (boolOp p op (eval (a.py C.N) env :: evalEach (r.py C.N) env)) _ _ _
  cases r with
  | nil => exact z
  | cons e' r' => exact wpAny_bind (mono0 z fun b' s2 h2 => key b' s2 h2)
end
end Mine
namespace Mine
section
variable {G : Gd} {C : Cx} {env : Env}
variable (O : GOk G) (Sv : EnvS C env) (hN : C.N.fn = G.fn ∧ C.N.gl = G.gl)
theorem et_plain {e : E} (ie : EvE G C env e) (he : ∀ whole, isTrue (e.py C.N) env whole = (do let v ← whole; standAt (e.py C.N).pos; holding [v] (truthy v)))
    {d : Nat} {k : Bool → SH → Prop} {loc : Loc} {σ : SH} {s : Shared} {A : Around} (hA : Ok d A) (R : Rep G σ s) (D : Dyn G C env σ loc s) (h : wpE G d e (fun v h => truW v fun c => k c h) loc σ) :
    wpAny (model G.prog G.w) A (isTrue (e.py C.N) env (eval (e.py C.N) env)) (PostB G σ s k) NoE s := by
  refine isTrue_plain (mono0 (ie d _ loc σ s A hA R D h) fun v s1 h1 => ?_) (he _)
  obtain ⟨o, σ1, st, R1, V1, h1⟩ := h1
  exact mono0 (op_true R1 V1 h1) fun c s2 h2 => PostB.trans st h2
theorem et_loc (i : Nat) (p : Pos) (ie : EvE G C env (.loc i p)) : EvT G C env (.loc i p) := fun d k loc σ s A hA R D h => et_plain ie (fun _ => rfl) hA R D h
theorem et_attr (e : E) (x : Nat) (p : Pos) (ie : EvE G C env (.attr e x p)) : EvT G C env (.attr e x p) := fun d k loc σ s A hA R D h => et_plain ie (fun _ => rfl) hA R D h
theorem et_call (f : E) (args : EL) (p : Pos) (ie : EvE G C env (.call f args p)) : EvT G C env (.call f args p) := fun d k loc σ s A hA R D h => et_plain ie (fun _ => rfl) hA R D h
theorem et_meth (o : E) (x : Nat) (args : EL) (ap p : Pos) (ie : EvE G C env (.meth o x args ap p)) : EvT G C env (.meth o x args ap p) := fun d k loc σ s A hA R D h => et_plain ie (fun _ => rfl) hA R D h
theorem et_not (a : E) (p : Pos) (ia : EvT G C env a) : EvT G C env (.not a p) := by
  intro d k loc σ s A hA R D h
  refine PyProof.Rows.isTrue_not (mono0 (ia d (fun b h1 => k (!b) h1) loc σ s A hA R D h) fun c s1 h1 => ?_)
  exact let ⟨a, b, c, d⟩ := h1; ⟨a, b, c, d⟩
include O in
theorem et_cmp (op : CmpOp) (a b : E) (p : Pos) (ia : EvE G C env a) (ib : EvE G C env b) : EvT G C env (.cmp op a b p) := by
  intro d k loc σ s A hA R D h
  refine wpAny_isTrue_Compare1 (mono0 (ia d _ loc σ s A hA R D h) fun v s1 h1 => ?_) (py_marks C.N op b)
  obtain ⟨o, σ1, st, R1, V1, h1⟩ := h1
  refine mono0 (ib d _ loc σ1 s1 A hA R1 (D.step0 st) h1) fun w s2 h2 => ?_
  obtain ⟨iv, σ2, st2, R2, V2, h2⟩ := h2
  refine mono0 (op_cmp R2 O.sys hA.units (V1.mono st2.tup) V2 h2) fun r s3 h3 => ?_
  obtain ⟨c, σ3, st3, R3, V3, h3⟩ := h3
  exact mono0 (op_true R3 V3 h3) fun c s4 h4 => PostB.trans ((st.trans st2).trans st3) h4
theorem ec_nil : EvC G C env .nil := by
  intro d op b k loc σ s A hA R D h
  have z : PostB G σ s k b s := ⟨σ, Step.refl .., R, h⟩
  cases op <;> cases b <;> exact wpAny_pure z
theorem ec_go {e : E} {r : EL} (ie : EvT G C env e) (ir : EvC G C env r) {d : Nat} {op : BoolOp} {k : Bool → SH → Prop} {loc : Loc} {σ : SH} {s : Shared} {A : Around} (hA : Ok d A) (R : Rep G σ s) (D : Dyn G C env σ loc s)
    (h : wpT G d e (fun b' h1 => wpC G d op r b' k loc h1) loc σ) : wpAny (model G.prog G.w) A (allTrue op (e.py C.N :: r.py C.N) env) (PostB G σ s k) NoE s := by
  rw [arm_allTrue_cons]
  refine wpAny_bind (mono0 (ie d _ loc σ s A hA R D h) fun c s1 h1 => ?_)
  obtain ⟨σ1, st, R1, h1⟩ := h1
  exact mono0 (ir d op c k loc σ1 s1 A hA R1 (D.step0 st) h1) fun b s2 h2 => PostB.trans st h2
theorem ec_cons (e : E) (r : EL) (ie : EvT G C env e) (ir : EvC G C env r) : EvC G C env (.cons e r) := by
  intro d op b k loc σ s A hA R D h
  have h : if b = isAnd op then wpT G d e (fun b' h1 => wpC G d op r b' k loc h1) loc σ else k b σ := h
  cases op <;> cases b <;> simp only [isAnd, Bool.false_eq_true, Bool.true_eq_false, if_true, if_false] at h
  · exact wpAny_pure ⟨σ, Step.refl .., R, h⟩
  · exact ec_go ie ir hA R D h
  · exact ec_go ie ir hA R D h
  · exact wpAny_pure ⟨σ, Step.refl .., R, h⟩
theorem et_bop (op : BoolOp) (a : E) (r : EL) (p : Pos) (ia : EvT G C env a) (ir : EvC G C env r) : EvT G C env (.bop op a r p) := by
  intro d k loc σ s A hA R D h
  show wpAny _ _ (allTrue op (a.py C.N :: r.py C.N) env) _ _ _
  exact ec_go ia ir hA R D h
end
end Mine
namespace Mine
section
variable {G : Gd} {A : Around} {σ : SH} {s : Shared}
theorem turn (R : Rep G σ s) {it : Addr} {ob : Obj} (hi : s.heap.get? it = some ob) (hc : ¬ (ob.cls = .type "tuple" ∨ ob.cls = .type "range")) (nf : ¬ Foot σ it) (n0 : G.H0.get? it = none) {h' : Heap} (t : Nat)
    (k : ∀ b o, b ≠ it → s.heap.get? b = some o → h'.get? b = some o) :
    Step (fun b => b = it) σ s σ { s with heap := h', toks := t } ∧ Rep G σ { s with heap := h', toks := t } := by
  have tk : TupKeep s.heap h' := fun a o e c => k a o (fun q => by subst q; rw [hi] at e; cases e; exact hc c.1) e
  refine ⟨⟨fun b o e _ w => k b o w e, fun b f => .inl f, fun b w e => ?_, tk, rfl, rfl, rfl⟩, ⟨fun b o e => k b o (fun q => by subst q; rw [n0] at e; cases e) (R.base b o e), R.new, fun a o e => ?_, R.inj, R.apart⟩⟩
  · cases z : s.heap.get? b with
    | none => exact absurd z e
    | some o => show h'.get? b ≠ none; rw [k b o w z]; simp
  · refine (R.objs a o e).keep tk fun b hb ob e' => k b ob (fun q => ?_) e'
    subst q
    rcases hb with rfl | ⟨c, m, rfl⟩
    · exact nf (.inl ⟨_, e⟩)
    · exact nf (.inr ⟨_, _, _, e⟩)
inductive Src where
  | list (l : Addr) (xs : List SV)
  | dict (d : Addr) (m : List (Int × SV)) (ep : Nat)
  | tup (t : Addr) (xs : List SV)
  | rng (a : Int) (n : Nat) (c : Int)
noncomputable def Src.items : Src → List SV
  | .list _ xs => xs
  | .dict _ m _ => m.map fun p => .int p.1
  | .tup _ xs => xs
  | .rng a n c => (List.range n).map (rgI a c)
noncomputable def Src.chk : Src → SH → Prop
  | .list l xs => fun h => h l = some (.list xs)
  | .dict d m ep => fun h => h d = some (.dict m ep)
  | .tup _ _ => fun _ => True
  | .rng _ _ _ => fun _ => True
noncomputable def Src.At (h : Heap) (it : Addr) (i : Nat) : Src → Prop
  | .list l xs => h.IsListIter it l i
  | .dict d m ep => h.IsKeyIter it d i m.length ep
  | .tup t xs => h.IsTupleIter it t i ∧ ∃ vs, h.get? t = some (tupObj vs) ∧ VRs h xs vs
  | .rng a n c => IsRangeIter h it (a + i * c) ((n : Int) - i) c
theorem Src.At.obj {h : Heap} {it : Addr} {i : Nat} {src : Src} (x : src.At h it i) : ∃ ob, h.get? it = some ob ∧ ¬ (ob.cls = .type "tuple" ∨ ob.cls = .type "range") := by
  cases src with
  | list l xs => obtain ⟨o, ho, hc, _⟩ := x; exact ⟨o, ho, by rw [hc]; simp⟩
  | dict d m ep => obtain ⟨o, ho, hc, _⟩ := x; exact ⟨o, ho, by rw [hc]; simp⟩
  | tup t xs => obtain ⟨⟨o, ho, hc, _⟩, _⟩ := x; exact ⟨o, ho, by rw [hc]; simp⟩
  | rng a n c => exact ⟨_, x, by simp⟩
theorem Src.At.keep {h h' : Heap} {it : Addr} {i : Nat} {src : Src} (x : src.At h it i) (k : ∀ o, h.get? it = some o → h'.get? it = some o) (tk : TupKeep h h') : src.At h' it i := by
  cases src with
  | list l xs => obtain ⟨o, ho, r⟩ := x; exact ⟨o, k _ ho, r⟩
  | dict d m ep => obtain ⟨o, ho, r⟩ := x; exact ⟨o, k _ ho, r⟩
  | tup t xs => obtain ⟨⟨o, ho, r⟩, vs, e1, e2⟩ := x; exact ⟨⟨o, k _ ho, r⟩, vs, tk _ _ e1 (Imm.tup _), e2.mono tk⟩
  | rng a n c => exact k _ x
structure ItOk (G : Gd) (σ : SH) (s : Shared) (src : Src) (it : Addr) (i : Nat) : Prop where
  at_ : src.At s.heap it i
  nf : ¬ Foot σ it
  n0 : G.H0.get? it = none
theorem ItOk.step {src : Src} {it : Addr} {i : Nat} {W : Addr → Prop} {σ' : SH} {s' : Shared} (x : ItOk G σ s src it i) (st : Step W σ s σ' s') (hw : ¬ W it) : ItOk G σ' s' src it i := by
  obtain ⟨ob, ho, _⟩ := x.at_.obj
  refine ⟨x.at_.keep (fun o e => st.pres _ _ e x.nf hw) st.tup, fun f => ?_, x.n0⟩
  rcases st.foot it f with q | q | q
  · exact x.nf q
  · rw [ho] at q; cases q
  · exact hw q
theorem iter_start (O : GOk G) (R : Rep G σ s) {v : SV} {b : Value} (V : VR s.heap v b) {k : List SV → (SH → Prop) → Prop} (h : itemsW v k σ) :
    wpAny (model G.prog G.w) A (pyIter b) (fun w s' => ∃ it src, w = .ref it ∧ s.heap.get? it = none ∧ Step (fun _ => False) σ s σ s' ∧ Rep G σ s' ∧ ItOk G σ s' src it 0 ∧ k src.items src.chk) NoE s := by
  obtain ⟨f1, f2, f3⟩ := fresh_none R
  have hnone : s.heap.get? s.heap.objs.size = none := by
    cases z : s.heap.get? s.heap.objs.size with
    | none => rfl
    | some o => exact absurd (lt_size_of z) (Nat.lt_irrefl _)
  have mk : ∀ (o : Obj) (src : Src), k src.items src.chk → (∀ h', (∀ b o, s.heap.get? b = some o → h'.get? b = some o) → h'.get? s.heap.objs.size = some o → src.At h' s.heap.objs.size 0) → o.isFreed = false →
      ∃ it src, (Value.ref s.heap.objs.size) = .ref it ∧ s.heap.get? it = none ∧ Step (fun _ => False) σ s σ { s with heap := s.heap.push o } ∧ Rep G σ { s with heap := s.heap.push o } ∧ ItOk G σ { s with heap := s.heap.push o } src it 0 ∧ k src.items src.chk := by
    intro o src hk hat hf
    obtain ⟨st, R'⟩ := grow R (h' := s.heap.push o) s.toks fun b o e => Heap.get?_push_of_some _ e
    exact ⟨_, src, rfl, hnone, st, R', ⟨hat _ (fun b o e => Heap.get?_push_of_some _ e) (Heap.get?_push_size _ hf), f2, f3⟩, hk⟩
  cases v <;> first | exact h.elim | skip
  case ref a =>
    cases V
    rcases h with ⟨l, e1, hk⟩ | ⟨m, ep, e1, hk⟩
    · obtain ⟨vs, n, g1, g2⟩ := R.objs _ _ e1
      exact wpAny_pyIter_list (list_is g1) (mk { cls := .type "list_iterator", data := .fields #[.ref a, .int 0 0] } (.list a l) hk (fun h' _ e => ⟨_, e, rfl, rfl⟩) rfl)
    · obtain ⟨vs, D, V⟩ := R.objs _ _ e1
      refine wpAny_pyIter_dict (not_sys R O.sys (.inl ⟨_, e1⟩)) D (mk { cls := .type "dict_keyiterator", data := .fields #[.ref a, .int 0 0, .int (((m.map (·.1)).zip vs).length) 0, .int ep 0] } (.dict a m ep) hk (fun h' _ e => ⟨_, e, rfl, ?_⟩) rfl)
      have : ((m.map (·.1)).zip vs).length = m.length := by rw [List.length_zip, V.length, List.length_map, List.length_map, Nat.min_self]
      rw [this]; rfl
  case tup l =>
    obtain ⟨t, vs, rfl, e1, e2⟩ := V
    refine wpAny_pyIter_tuple (items := vs.toArray) ⟨_, e1, rfl, 0, rfl⟩ (mk { cls := .type "tuple_iterator", data := .fields #[.ref t, .int 0 0] } (.tup t l) h (fun h' kk e => ⟨⟨_, e, rfl, rfl⟩, vs, kk _ _ e1, e2.mono fun a o e _ => kk a o e⟩) rfl)
  case rng a n c =>
    obtain ⟨r, b, t, u, z, rfl, e1, e2, e3⟩ := V
    refine wpAny_pyIter_range e1 e2 (mk { cls := .type "range_iterator", data := .fields #[rawInt a, rawInt (Builtin.Range.rangeSize a b c), rawInt c] } (.rng a n c) h (fun h' kk e => ?_) rfl)
    show h'.get? _ = _
    rw [e, e3]
    simp [rawInt]
theorem zip_get {m : List (Int × SV)} {vs : List Value} {h : Heap} (V : VRs h (m.map (·.2)) vs) {i : Nat} {p : Int × SV} (e : m[i]? = some p) : ∃ v, ((m.map (·.1)).zip vs)[i]? = some (p.1, v) := by
  obtain ⟨v, e1, _⟩ := V.get (i := i) (x := p.2) (by rw [List.getElem?_map, e]; rfl)
  exact ⟨v, by rw [List.getElem?_zip_eq_some]; exact ⟨by rw [List.getElem?_map, e]; rfl, e1⟩⟩
theorem iter_next (R : Rep G σ s) (hh : A.handled = none) {src : Src} {it : Addr} {i : Nat} (I : ItOk G σ s src it i) (hc : src.chk σ) {x : SV} (hx : src.items[i]? = some x) :
    wpAny (model G.prog G.w) A (pyNext (.ref it)) (fun r s' => ∃ v, r = some v ∧ Step (fun b => b = it) σ s σ s' ∧ Rep G σ s' ∧ ItOk G σ s' src it (i + 1) ∧ VR s'.heap x v) NoE s := by
  obtain ⟨ob, ho, hcl⟩ := I.at_.obj
  have mk : ∀ (v : Value) (h' : Heap) (t : Nat), Heap.SameBut it s.heap h' → src.At h' it (i + 1) → VR h' x v → ∃ v', some v = some v' ∧ Step (fun b => b = it) σ s σ { s with heap := h', toks := t } ∧ Rep G σ { s with heap := h', toks := t } ∧ ItOk G σ { s with heap := h', toks := t } src it (i + 1) ∧ VR h' x v' := by
    intro v h' t hs hat hv
    obtain ⟨st, R'⟩ := turn R ho hcl I.nf I.n0 (h' := h') t fun b o n e => (hs.2 b n).trans e
    exact ⟨v, rfl, st, R', ⟨hat, I.nf, I.n0⟩, hv⟩
  have tk : ∀ h', Heap.SameBut it s.heap h' → TupKeep s.heap h' := fun h' hs a o e c => (hs.2 a fun q => by subst q; rw [ho] at e; cases e; exact hcl c.1).trans e
  cases src with
  | list l xs =>
    obtain ⟨vs, n, g1, g2⟩ := R.objs _ _ hc
    obtain ⟨v, e1, e2⟩ := g2.get hx
    exact wpAny_pyNext_list_item I.at_ (list_is g1) (x := v) (by simpa using e1) fun h' a hs => mk v h' s.toks hs a (e2.mono (tk h' hs))
  | dict d m ep =>
    obtain ⟨vs, D, V⟩ := R.objs _ _ hc
    have hx' : m[i]?.map (fun p => SV.int p.1) = some x := by simpa [Src.items, rgI_eq] using hx
    obtain ⟨p, e1, rfl⟩ := Option.map_eq_some_iff.mp hx'
    obtain ⟨v, e2⟩ := zip_get V e1
    have hl : ((m.map (·.1)).zip vs).length = m.length := by rw [List.length_zip, V.length, List.length_map, List.length_map, Nat.min_self]
    refine wpAny_pyNext_dict_item (by rw [hl]; exact I.at_) D e2 fun key h' hk a hs => ?_
    obtain ⟨t, rfl⟩ := Value.isInt_shape hk
    exact mk _ h' s.toks hs (by rw [hl] at a; exact a) ⟨t, rfl⟩
  | tup t xs =>
    obtain ⟨a, vs, e1, e2⟩ := I.at_
    obtain ⟨v, e3, e4⟩ := e2.get hx
    have ne : t ≠ it := fun q => by subst q; rw [ho] at e1; cases e1; exact hcl (.inl rfl)
    exact wpAny_pyNext_tuple_item a (items := vs.toArray) ⟨_, e1, rfl, 0, rfl⟩ (x := v) (by simpa using e3) fun h' b hs => mk v h' s.toks hs ⟨b, vs, (hs.2 t ne).trans e1, e2.mono (tk h' hs)⟩ (e4.mono (tk h' hs))
  | rng a n c =>
    have hx' : (List.range n)[i]?.map (fun (j : Nat) => SV.int (a + j * c)) = some x := by simpa [Src.items, rgI_eq] using hx
    obtain ⟨j, e1, rfl⟩ := Option.map_eq_some_iff.mp hx'
    obtain ⟨h1, h2⟩ := List.getElem?_eq_some_iff.mp e1
    rw [List.getElem_range] at h2
    subst h2
    rw [List.length_range] at h1
    refine wpAny_pyNext_range_item I.at_ (by omega) fun h' b hs => mk _ h' _ hs ?_ ⟨_, rfl⟩
    have e1 : a + ((i + 1 : Nat) : Int) * c = a + (i : Int) * c + c := by push_cast; rw [Int.add_mul, Int.one_mul, Int.add_assoc]
    have e2 : (n : Int) - ((i + 1 : Nat) : Int) = (n : Int) - (i : Int) - 1 := by push_cast; omega
    show IsRangeIter h' it (a + ((i + 1 : Nat) : Int) * c) ((n : Int) - ((i + 1 : Nat) : Int)) c
    rw [e1, e2]; exact b
theorem iter_end (R : Rep G σ s) (hh : A.handled = none) {src : Src} {it : Addr} {i : Nat} (I : ItOk G σ s src it i) (hc : src.chk σ) (hx : src.items[i]? = none) :
    wpAny (model G.prog G.w) A (pyNext (.ref it)) (fun r s' => r = none ∧ Step (fun b => b = it) σ s σ s' ∧ Rep G σ s') NoE s := by
  obtain ⟨ob, ho, hcl⟩ := I.at_.obj
  have mk : ∀ (h' : Heap) (t : Nat), Heap.ExtBut it s.heap h' → (none : Option Value) = none ∧ Step (fun b => b = it) σ s σ { s with heap := h', toks := t } ∧ Rep G σ { s with heap := h', toks := t } := by
    intro h' t hs
    obtain ⟨st, R'⟩ := turn R ho hcl I.nf I.n0 (h' := h') t fun b o n e => hs b o n e
    exact ⟨rfl, st, R'⟩
  cases src with
  | list l xs =>
    obtain ⟨vs, n, g1, g2⟩ := R.objs _ _ hc
    refine wpAny_pyNext_list_end hh I.at_ (list_is g1) ?_ fun h' hs => mk h' s.toks hs
    have : xs.length ≤ i := by simpa [Src.items, rgI_eq] using hx
    simp; rw [g2.length]; exact this
  | dict d m ep =>
    obtain ⟨vs, D, V⟩ := R.objs _ _ hc
    have hl : ((m.map (·.1)).zip vs).length = m.length := by rw [List.length_zip, V.length, List.length_map, List.length_map, Nat.min_self]
    refine wpAny_pyNext_dict_end hh (by rw [hl]; exact I.at_) D ?_ fun h' hs => mk h' s.toks hs
    have : m.length ≤ i := by simpa [Src.items, rgI_eq] using hx
    exact List.getElem?_eq_none (by rw [hl]; exact this)
  | tup t xs =>
    obtain ⟨a, vs, e1, e2⟩ := I.at_
    refine wpAny_pyNext_tuple_end hh a (items := vs.toArray) ⟨_, e1, rfl, 0, rfl⟩ ?_ fun h' hs => mk h' s.toks hs
    have : xs.length ≤ i := by simpa [Src.items, rgI_eq] using hx
    simp; rw [e2.length]; exact this
  | rng a n c =>
    have : n ≤ i := by simpa [Src.items, rgI_eq] using hx
    exact wpAny_pyNext_range_end hh I.at_ (by omega) fun h' hs => mk h' s.toks hs
end
end Mine
namespace Mine
section
variable {G : Gd} {C : Cx} {env : Env} {A : Around} {σ : SH} {s : Shared} {loc : Loc}
theorem EnvS.of (hok : C.ok = true) (names : env.scope.names = C.sc.names) (kind : env.scope.kind = .function) (globals : env.globals = mainGlobals) (builtins : env.builtins = builtinsNs)
    (cells : ∀ x, C.sc.names.lookup x = some .cell → ∃ c, env.cells.lookup x = some c) (apart : ∀ x y c, env.cells.lookup x = some c → env.cells.lookup y = some c → x = y)
    (lneq : ∀ x c, env.cells.lookup x = some c → c ≠ env.locals) : EnvS C env := by
  unfold Cx.ok at hok
  simp only [Bool.and_eq_true, List.all_eq_true, List.mem_range] at hok
  obtain ⟨⟨⟨h1, h2⟩, h3⟩, h4⟩ := hok
  have kd : ∀ x, env.kindOf x = C.sc.names.lookup x := fun x => by unfold Env.kindOf; rw [names]
  have lt : ∀ i, C.sees i = true → i < C.acc.length := fun i h => by
    unfold Cx.sees at h
    refine Decidable.byContradiction fun n => ?_
    rw [List.getD_eq_getElem?_getD, List.getElem?_eq_none (Nat.not_lt.mp n)] at h
    cases h
  have at_ : ∀ i, C.sees i = true → C.okAt i = true := fun i h => by
    have := h2 i (lt i h)
    simpa [h] using this
  have at2 := fun i h => by
    have := at_ i h
    unfold Cx.okAt at this
    simp only [Bool.and_eq_true, Bool.or_eq_true, List.all_eq_true, List.mem_range, beq_iff_eq, Bool.not_eq_true', decide_eq_true_eq] at this
    exact this
  refine ⟨names, kind, globals, builtins, fun i h => ?_, ?_, fun j hj => ?_, fun i j hi hj e => ?_, fun i hi => (at2 i hi).1.2, cells, apart, lneq⟩
  · rw [kd]
    rcases (at2 i h).1.1 with q | q
    · exact .inl q
    · exact .inr ⟨q, cells _ q⟩
  · rw [kd]; exact h3
  · have := h4 j hj
    simp only [beq_iff_eq, Bool.not_eq_true'] at this
    rw [kd]
    exact this
  · have := (at2 i hi).2 j (lt j hj)
    simp only [hj, e, decide_true, Bool.not_true, Bool.false_eq_true, Bool.false_or, false_or] at this
    simpa using this
noncomputable def Loose (G : Gd) (σ : SH) (s : Shared) (b : Addr) : Prop := s.heap.get? b ≠ none ∧ ¬ Foot σ b ∧ G.H0.get? b = none
theorem Loose.step {W : Addr → Prop} {σ' : SH} {s' : Shared} {b : Addr} (h : Loose G σ s b) (x : Step W σ s σ' s') (hw : ¬ W b) : Loose G σ' s' b := by
  obtain ⟨h1, h2, h3⟩ := h
  refine ⟨x.dom b hw h1, fun f => ?_, h3⟩
  rcases x.foot b f with q | q | q
  · exact h2 q
  · exact h1 q
  · exact hw q
theorem wr (R : Rep G σ s) {it : Addr} (lo : Loose G σ s it) (ni : ∀ o, s.heap.get? it = some o → ¬ Imm o) {h' : Heap} (t : Nat)
    (k : ∀ b o, b ≠ it → s.heap.get? b = some o → h'.get? b = some o) :
    Step (fun b => b = it) σ s σ { s with heap := h', toks := t } ∧ Rep G σ { s with heap := h', toks := t } := by
  have tk : TupKeep s.heap h' := fun a o e c => k a o (fun q => by subst q; exact ni _ e c) e
  refine ⟨⟨fun b o e _ w => k b o w e, fun b f => .inl f, fun b w e => ?_, tk, rfl, rfl, rfl⟩, ⟨fun b o e => k b o (fun q => by subst q; rw [lo.2.2] at e; cases e) (R.base b o e), R.new, fun a o e => ?_, R.inj, R.apart⟩⟩
  · cases z : s.heap.get? b with
    | none => exact absurd z e
    | some o => show h'.get? b ≠ none; rw [k b o w z]; simp
  · refine (R.objs a o e).keep tk fun b hb ob e' => k b ob (fun q => ?_) e'
    subst q
    rcases hb with rfl | ⟨c, m, rfl⟩
    · exact lo.2.1 (.inl ⟨_, e⟩)
    · exact lo.2.1 (.inr ⟨_, _, _, e⟩)
theorem ns_imm {h : Heap} {a : Addr} {m : Str → Option Value} (n : h.Ns a m) : ∀ o, h.get? a = some o → ¬ Imm o := by
  intro o e i
  obtain ⟨o', es, ep, e', d, _⟩ := n
  rw [e] at e'; cases e'
  exact i.2.1 _ _ d
theorem cell_imm {h : Heap} {a : Addr} {v : Option Value} (n : h.IsCell a v) : ∀ o, h.get? a = some o → ¬ Imm o := by
  intro o e i
  obtain ⟨o', e', d⟩ := n
  rw [e] at e'; cases e'
  exact i.2.2 _ d
theorem set_at {loc : Loc} {i j : Nat} {v sv : SV} (h : (loc.set i (some v))[j]? = some (some sv)) : (j = i ∧ sv = v) ∨ (j ≠ i ∧ loc[j]? = some (some sv)) := by
  rw [List.getElem?_set] at h
  by_cases q : i = j
  · subst q
    simp only [if_true] at h
    split at h
    · cases h; exact .inl ⟨rfl, rfl⟩
    · cases h
  · rw [if_neg q] at h; exact .inr ⟨fun e => q e.symm, h⟩
theorem store_local (Sv : EnvS C env) (R : Rep G σ s) (D : Dyn G C env σ loc s) {i : Nat} (hi : C.sees i = true) (hk : env.kindOf (C.N.n i) = some .local) {v : SV} {b : Value} (V : VR s.heap v b) :
    wpAny (model G.prog G.w) A (storeName env (C.N.n i) b) (fun _ s' => Step (fun b => b = env.locals) σ s σ s' ∧ Rep G σ s' ∧ Dyn G C env σ (loc.set i (some v)) s') NoE s := by
  obtain ⟨m, ns, k⟩ := D.ns
  refine wpAny_storeName_local hk ns (fun h' ns' sb => ?_) (by rw [Sv.kind]; rfl)
  obtain ⟨st, R'⟩ := wr R (it := env.locals) (D.own _ (.inl rfl)) (ns_imm ns) (h' := h') (s.toks + 1) (fun b o n e => sb.extBut b o n e)
  refine ⟨st, R', ⟨_, ns', fun j sv hj hkj e => ?_⟩, fun y c hc => ?_, fun b hb => ?_⟩
  · rcases set_at e with ⟨rfl, rfl⟩ | ⟨n, e⟩
    · exact ⟨b, by simp, V.mono st.tup⟩
    · obtain ⟨w, e1, e2⟩ := k j sv hj hkj e
      have : C.N.n j ≠ C.N.n i := fun q => n (Sv.inj _ _ hj hi q)
      exact ⟨w, by simp [this, e1], e2.mono st.tup⟩
  · obtain ⟨ov, ic, kc⟩ := D.cs y c hc
    refine ⟨ov, ic.sameBut sb (Sv.lneq _ _ hc), fun j sv hj hn hkj e => ?_⟩
    rcases set_at e with ⟨rfl, rfl⟩ | ⟨n, e⟩
    · rw [hn] at hk; rw [hk] at hkj; cases hkj
    · obtain ⟨w, e1, e2⟩ := kc j sv hj hn hkj e
      exact ⟨w, e1, e2.mono st.tup⟩
  · obtain ⟨z1, z2, z3⟩ := D.own b hb
    refine ⟨?_, z2, z3⟩
    by_cases q : b = env.locals
    · subst q; obtain ⟨_, _, _, e, _⟩ := ns'; show h'.get? _ ≠ none; rw [e]; simp
    · show h'.get? _ ≠ none; rw [sb.2 b q]; exact z1
theorem store_loc (Sv : EnvS C env) (R : Rep G σ s) (D : Dyn G C env σ loc s) {i : Nat} (hi : C.sees i = true) {v : SV} {b : Value} (V : VR s.heap v b) :
    wpAny (model G.prog G.w) A (storeName env (C.N.n i) b) (fun _ s' => Step (Own env) σ s σ s' ∧ Rep G σ s' ∧ Dyn G C env σ (loc.set i (some v)) s') NoE s := by
  rcases Sv.kinds i hi with hk | ⟨hk, c, hc⟩
  · exact mono0 (store_local Sv R D hi hk V) fun _ s' h' => ⟨h'.1.weak fun b e => .inl e, h'.2⟩
  · obtain ⟨ov, ic, kc⟩ := D.cs _ c hc
    obtain ⟨m, ns, k⟩ := D.ns
    have own : Own env c := .inr ⟨_, hc⟩
    refine wpAny_storeName_cell Sv.kind hk hc ic (fun h' ic' sb => ?_)
    obtain ⟨st, R'⟩ := wr R (it := c) (D.own _ own) (cell_imm ic) (h' := h') s.toks (fun b o n e => sb.extBut b o n e)
    refine ⟨st.weak fun b e => by subst e; exact own, R', ⟨m, ns.sameBut sb (fun e => Sv.lneq _ _ hc e.symm), fun j sv hj hkj e => ?_⟩, fun y c' hc' => ?_, fun b hb => ?_⟩
    · rcases set_at e with ⟨rfl, rfl⟩ | ⟨n, e⟩
      · rw [hk] at hkj; cases hkj
      · obtain ⟨w, e1, e2⟩ := k j sv hj hkj e
        exact ⟨w, e1, e2.mono st.tup⟩
    · by_cases q : c' = c
      · subst q
        have hy := Sv.apart _ _ _ hc hc'
        subst hy
        refine ⟨_, ic', fun j sv hj hn hkj e => ?_⟩
        have := Sv.inj _ _ hj hi hn
        subst this
        rcases set_at e with ⟨_, rfl⟩ | ⟨n, _⟩
        · exact ⟨b, rfl, V.mono st.tup⟩
        · exact absurd rfl n
      · obtain ⟨ov2, ic2, kc2⟩ := D.cs _ c' hc'
        refine ⟨ov2, ic2.sameBut sb q, fun j sv hj hn hkj e => ?_⟩
        rcases set_at e with ⟨rfl, rfl⟩ | ⟨n, e⟩
        · subst hn; rw [hc] at hc'; cases hc'; exact absurd rfl q
        · obtain ⟨w, e1, e2⟩ := kc2 j sv hj hn hkj e
          exact ⟨w, e1, e2.mono st.tup⟩
    · obtain ⟨z1, z2, z3⟩ := D.own b hb
      refine ⟨?_, z2, z3⟩
      by_cases q : b = c
      · subst q; obtain ⟨_, e, _⟩ := ic'; show h'.get? _ ≠ none; rw [e]; simp
      · show h'.get? _ ≠ none; rw [sb.2 b q]; exact z1
theorem clo_of : ∀ (names : List (Str × NameKind)) (acc : List (Str × Addr)), (∀ x ∈ names, x.2 = .free → ∃ c, env.cells.lookup x.1 = some c) → (∀ x c, acc.lookup x = some c → env.cells.lookup x = some c) →
    ∃ cl, (forIn names acc (fun (x : Str × NameKind) (cs : List (Str × Addr)) => if (x.2 == .free) = true then (do let a ← cellOf env x.1; pure (ForInStep.yield ((x.1, a) :: cs))) else pure (ForInStep.yield cs)) : Sem _) = pure cl ∧
      (∀ x c, cl.lookup x = some c → env.cells.lookup x = some c) ∧ (∀ x ∈ names, x.2 = .free → (cl.lookup x.1).isSome = true) ∧ (∀ x, (acc.lookup x).isSome = true → (cl.lookup x).isSome = true)
  | [], acc, _, h => ⟨acc, by simp, h, (fun _ h => by cases h), fun _ h => h⟩
  | x :: names, acc, hf, h => by
    by_cases q : x.2 = .free
    · obtain ⟨c, hc⟩ := hf x List.mem_cons_self q
      have hacc : ∀ y c', ((x.1, c) :: acc).lookup y = some c' → env.cells.lookup y = some c' := by
        intro y c' e
        rw [List.lookup_cons] at e
        split at e
        · rename_i e2
          cases e
          rw [beq_iff_eq.mp e2]; exact hc
        · exact h y c' e
      obtain ⟨cl, e1, e2, e3, e4⟩ := clo_of names ((x.1, c) :: acc) (fun y hy => hf y (List.mem_cons_of_mem _ hy)) hacc
      refine ⟨cl, ?_, e2, fun y hy fy => ?_, fun y hy => e4 y ?_⟩
      · rw [List.forIn_cons, q]
        have : cellOf env x.1 = pure c := by unfold cellOf; rw [hc]
        simp only [this, beq_self_eq_true, if_true]
        exact e1
      · rcases List.mem_cons.mp hy with rfl | hy
        · exact e4 _ (by simp)
        · exact e3 y hy fy
      · rw [List.lookup_cons]
        split
        · rfl
        · exact hy
    · obtain ⟨cl, e1, e2, e3, e4⟩ := clo_of names acc (fun y hy => hf y (List.mem_cons_of_mem _ hy)) h
      refine ⟨cl, ?_, e2, fun y hy fy => ?_, e4⟩
      · rw [List.forIn_cons]
        have : (x.2 == NameKind.free) = false := by simpa using q
        simp only [this, Bool.false_eq_true, if_false]
        exact e1
      · rcases List.mem_cons.mp hy with rfl | hy
        · exact absurd fy q
        · exact e3 y hy fy
theorem closure_ok (scope : Scope) (hf : ∀ x ∈ scope.names, x.2 = .free → ∃ c, env.cells.lookup x.1 = some c) :
    ∃ cl, closureFor scope env = pure cl ∧ (∀ x c, cl.lookup x = some c → env.cells.lookup x = some c) ∧ (∀ x ∈ scope.names, x.2 = .free → (cl.lookup x.1).isSome = true) := by
  obtain ⟨cl, e1, e2, e3, _⟩ := clo_of (env := env) scope.names [] hf (fun _ _ h => by cases h)
  refine ⟨cl, ?_, e2, e3⟩
  simp only [closureFor]
  rw [show (forIn scope.names ([] : List (Str × Addr)) _ : Sem _) = pure cl from e1]
  rfl
noncomputable def EvF (G : Gd) (C : Cx) (env : Env) (e : EL) : Prop := ∀ (d : Nat) (b : Bool) (k : Bool → SH → Prop) (loc : Loc) (σ : SH) (s : Shared) (A : Around), Ok d A → Rep G σ s → Dyn G C env σ loc s → wpC G d .And e b k loc σ →
  wpAny (model G.prog G.w) A (forIn (e.py C.N) b fun c r => if r = true then do let ok ← isTrue c env (eval c env); pure (ForInStep.yield ok) else pure (ForInStep.yield r)) (PostB G σ s k) NoE s
theorem ef_nil : EvF G C env .nil := by
  intro d b k loc σ s A hA R D h
  show wpAny _ _ (forIn [] b _) _ _ _
  rw [List.forIn_nil]
  exact wpAny_pure ⟨σ, Step.refl .., R, h⟩
theorem ef_cons (e : E) (r : EL) (ie : EvT G C env e) (ir : EvF G C env r) : EvF G C env (.cons e r) := by
  intro d b k loc σ s A hA R D h
  have h : if b = isAnd .And then wpT G d e (fun b' h1 => wpC G d .And r b' k loc h1) loc σ else k b σ := h
  show wpAny _ _ (forIn (e.py C.N :: r.py C.N) b _) _ _ _
  rw [List.forIn_cons]
  cases b with
  | true =>
    simp only [isAnd, if_true] at h ⊢
    refine wpAny_bind (wpAny_bind (mono0 (ie d _ loc σ s A hA R D h) fun c s1 h1 => wpAny_pure ?_))
    obtain ⟨σ1, st, R1, h1⟩ := h1
    exact mono0 (ir d c k loc σ1 s1 A hA R1 (D.step0 st) h1) fun b s2 h2 => PostB.trans st h2
  | false =>
    simp only [isAnd, Bool.false_eq_true, if_false] at h ⊢
    refine wpAny_bind (wpAny_pure (ir d false k loc σ s A hA R D ?_))
    cases r with
    | nil => exact h
    | cons e' r' => show if false = isAnd .And then _ else _; simp only [isAnd, Bool.false_eq_true, if_false]; exact h
end
end Mine
namespace Mine
section
variable {G : Gd} {C : Cx} {env : Env} {A : Around} {σ : SH} {s : Shared} {loc : Loc}
theorem iter_self {src : Src} {it : Addr} {k : Nat} {Q : Value → Shared → Prop} {E : Value → Shared → Prop} (x : src.At s.heap it k) (q : Q (.ref it) s) : wpAny (model G.prog G.w) A (pyIter (.ref it)) Q E s := by
  cases src with
  | list l xs => exact wpAny_pyIter_listiter x q
  | dict d m ep => exact wpAny_pyIter_keyiter x q
  | tup t xs => exact wpAny_pyIter_tupleiter x.1 q
  | rng a n c => exact wpAny_pyIter_rangeiter x q
theorem lookup_mem {β : Type} : ∀ {l : List (Str × β)} {x : Str} {v : β}, l.lookup x = some v → (x, v) ∈ l
  | [], _, _, h => by cases h
  | (y, w) :: l, x, v, h => by
    rw [List.lookup_cons] at h
    split at h
    · rename_i e; cases h; rw [beq_iff_eq.mp e]; exact List.mem_cons_self
    · exact List.mem_cons_of_mem _ (lookup_mem h)
theorem relab_free {f : Str × NameKind → Str × NameKind} (hf : ∀ y, (f y).1 = y.1) (hg : ∀ x, f (x, .free) = (x, .cell) ∨ f (x, .free) = (x, .free)) {x : Str} (hx : f (x, .free) = (x, .cell)) :
    ∀ {l : List (Str × NameKind)}, l.lookup x = some .free → (l.map f).lookup x = some .cell
  | [], h => by cases h
  | (y, k) :: l, h => by
    rw [List.lookup_cons] at h
    rw [List.map_cons, show f (y, k) = ((f (y, k)).1, (f (y, k)).2) from rfl, List.lookup_cons, hf]
    split at h
    · rename_i e
      have := beq_iff_eq.mp e
      subst this
      cases h
      simp [hx]
    · rename_i e
      rw [e]
      exact relab_free hf hg hx h
noncomputable def relF (C : Cx) (x : Str × NameKind) : Str × NameKind := if x.2 == .free && C.sc.names.lookup x.1 == some .cell then (x.1, .cell) else x
theorem inner_names (C : Cx) (i : Nat) (sc : Scope) : (C.inner i sc).sc.names = sc.names.map (relF C) := rfl
theorem relabel_names (Sv : EnvS C env) (sc : Scope) : (relabel sc env).names = sc.names.map (relF C) := by
  show (sc.names.map fun (x : Str × NameKind) => match x with | (n, k) => if (k == NameKind.free && env.scope.kind == ScopeKind.function && env.kindOf n == some NameKind.cell) = true then (n, NameKind.cell) else (n, k)) = _
  refine List.map_congr_left fun x hx => ?_
  obtain ⟨n, k⟩ := x
  unfold relF Env.kindOf
  rw [Sv.kind, Sv.names]
  simp
structure CompW (C : Cx) (i : Nat) (sc : Scope) : Prop where
  kind : sc.kind = .function
  nocell : ∀ x ∈ sc.names, x.2 ≠ .cell
  free : ∀ x ∈ sc.names, x.2 = .free → C.sc.names.lookup x.1 = some .cell
  one : ∀ x ∈ sc.names, sc.names.lookup x.1 = some x.2
  loc : sc.names.lookup (C.N.n i) = some .local
  lt : i < C.acc.length
  ok : (C.inner i sc).ok = true
theorem CompW.of {i : Nat} {sc : Scope} (h : C.compOk i sc = true) : CompW C i sc := by
  unfold Cx.compOk at h
  simp only [Bool.and_eq_true, List.all_eq_true, beq_iff_eq, decide_eq_true_eq] at h
  obtain ⟨⟨⟨⟨h1, h2⟩, h3⟩, h4⟩, h5⟩ := h
  refine ⟨h1, fun x hx => ?_, fun x hx q => ?_, fun x hx => ?_, h3, h4, h5⟩
  · have := (h2 x hx).1.1; simpa using this
  · have := (h2 x hx).1.2; simpa [q] using this
  · have := (h2 x hx).2; simpa using this
theorem inner_sees {i : Nat} {sc : Scope} {j : Nat} (h : (C.inner i sc).sees j = true) : j = i ∨ (C.sees j = true ∧ sc.names.lookup (C.N.n j) = some .free ∧ C.sc.names.lookup (C.N.n j) = some .cell) := by
  unfold Cx.sees Cx.inner at h
  simp only [List.getD_eq_getElem?_getD, List.getElem?_map] at h
  cases z : (List.range C.acc.length)[j]? with
  | none => rw [z] at h; cases h
  | some q =>
    rw [z] at h
    obtain ⟨h1, h2⟩ := List.getElem?_eq_some_iff.mp z
    rw [List.getElem_range] at h2
    subst h2
    simp only [Option.map_some, Option.getD_some, Bool.or_eq_true, Bool.and_eq_true, beq_iff_eq] at h
    rcases h with h | h
    · exact .inl h
    · exact .inr ⟨h.1.1, h.1.2, h.2⟩
theorem inner_i {i : Nat} {sc : Scope} (W : CompW C i sc) : (C.inner i sc).sees i = true := by
  unfold Cx.sees Cx.inner
  simp only [List.getD_eq_getElem?_getD, List.getElem?_map]
  rw [List.getElem?_eq_getElem (by rw [List.length_range]; exact W.lt)]
  simp
theorem inner_env {i : Nat} {sc : Scope} {cl : List (Str × Addr)} {L : Addr} (Sv : EnvS C env) (W : CompW C i sc)
    (c1 : ∀ x c, cl.lookup x = some c → env.cells.lookup x = some c) (c2 : ∀ x ∈ sc.names, x.2 = .free → (cl.lookup x.1).isSome = true)
    (hL : ∀ x c, env.cells.lookup x = some c → c ≠ L) : EnvS (C.inner i sc) (compEnvC sc cl L env) := by
  refine EnvS.of W.ok ?_ W.kind Sv.globals Sv.builtins (fun x hx => ?_) (fun x y c e1 e2 => Sv.apart x y c (c1 _ _ e1) (c1 _ _ e2)) (fun x c e => hL x c (c1 _ _ e))
  · exact relabel_names Sv sc
  · rw [inner_names] at hx
    obtain ⟨y, hy, e⟩ := List.mem_map.mp (lookup_mem hx)
    unfold relF at e
    have : y.1 = x ∧ y.2 = .free := by
      split at e
      · rename_i q
        simp only [Bool.and_eq_true, beq_iff_eq] at q
        cases e
        exact ⟨rfl, q.1⟩
      · subst e
        exact absurd rfl (W.nocell _ hy)
    have z := c2 y hy this.2
    rw [this.1] at z
    exact Option.isSome_iff_exists.mp z
theorem inner_loc {i : Nat} {sc : Scope} {cl : List (Str × Addr)} {L : Addr} (W : CompW C i sc) : (compEnvC sc cl L env).kindOf (C.N.n i) = some .local := lookup_relabel_local W.loc
theorem inner_cell {sc : Scope} {cl : List (Str × Addr)} {L : Addr} (Sv : EnvS C env) {x : Str} (h1 : sc.names.lookup x = some .free) (h2 : C.sc.names.lookup x = some .cell) : (compEnvC sc cl L env).kindOf x = some .cell := by
  show (relabel sc env).names.lookup x = _
  rw [relabel_names Sv]
  refine relab_free (fun y => ?_) (fun y => ?_) ?_ h1
  · unfold relF; split <;> rfl
  · unfold relF; split <;> simp
  · unfold relF; simp [h2]
theorem inner_dyn {i : Nat} {sc : Scope} {cl : List (Str × Addr)} {L : Addr} {m : Str → Option Value} (Sv : EnvS C env) (W : CompW C i sc)
    (c1 : ∀ x c, cl.lookup x = some c → env.cells.lookup x = some c) (D : Dyn G C env σ loc s) (ns : s.heap.Ns L m) (lo : Loose G σ s L) : Dyn G (C.inner i sc) (compEnvC sc cl L env) σ (loc.set i none) s := by
  have neq : ∀ j sv, (loc.set i none)[j]? = some (some sv) → j ≠ i ∧ loc[j]? = some (some sv) := by
    intro j sv h
    rw [List.getElem?_set] at h
    by_cases q : i = j
    · subst q
      simp only [if_true] at h
      split at h <;> cases h
    · rw [if_neg q] at h; exact ⟨fun e => q e.symm, h⟩
  refine ⟨⟨m, ns, fun j sv hj hk e => ?_⟩, fun x c hc => ?_, fun b hb => ?_⟩
  · obtain ⟨n, e⟩ := neq j sv e
    rcases inner_sees hj with q | ⟨_, q1, q2⟩
    · exact absurd q n
    · have := inner_cell (cl := cl) (L := L) Sv q1 q2
      exact absurd (hk.symm.trans this) (by simp)
  · obtain ⟨ov, ic, k⟩ := D.cs x c (c1 _ _ hc)
    refine ⟨ov, ic, fun j sv hj hn hk e => ?_⟩
    obtain ⟨n, e⟩ := neq j sv e
    rcases inner_sees hj with q | ⟨q0, q1, q2⟩
    · exact absurd q n
    · refine k j sv q0 hn ?_ e
      show env.scope.names.lookup x = _
      rw [Sv.names, ← hn]; exact q2
  · rcases hb with rfl | ⟨x, hc⟩
    · exact lo
    · exact D.own b (.inr ⟨x, c1 _ _ hc⟩)
theorem it_lt {k n : Nat} (h : k < n) : n + 1 - (k + 1) < n + 1 - k := by rw [Nat.succ_sub (Nat.le_of_lt h), Nat.add_sub_add_right]; exact Nat.lt_succ_self _
inductive CI (G : Gd) (d : Nat) (elt : E) (ifs : EL) (i : Nat) (loc : Loc) (Q : SV → SH → Prop) (acc I L : Addr) (src : Src) (σ : SH) (s : Shared) (n : Nat) (s' : Shared) : Prop where
  | mk (k : Nat) (σ' : SH) (hn : n = src.items.length + 1 - k) (hk : k ≤ src.items.length) (st : Step (fun _ => False) σ s σ' s') (R : Rep G σ' s') (IS : ItOk G σ' s' src I k) (m : Str → Option Value) (ns : s'.heap.Ns L m) (lo : Loose G σ' s' L)
    (hc : compN src.chk acc (fun x k h => wpC G d .And ifs true k (loc.set i (some x)) h) (fun x k h => wpE G d elt k (loc.set i (some x)) h) Q (src.items.drop k) σ')
theorem comp_core (O : GOk G) (Sv : EnvS C env) {elt : E} {i : Nat} {pt : Pos} {it : E} {ifs : EL} {sc : Scope} {p : Pos} (hw : C.compOk i sc = true) (jit : EvE G C env it)
    (jelt : ∀ env', EnvS (C.inner i sc) env' → EvE G (C.inner i sc) env' elt) (jifs : ∀ env', EnvS (C.inner i sc) env' → EvF G (C.inner i sc) env' ifs)
    {d : Nat} {Q : SV → SH → Prop} (hA : Ok d A) (R : Rep G σ s) (D : Dyn G C env σ loc s) (h : wpE G d (.comp elt i pt it ifs sc p) Q loc σ)
    (hset : ∀ x, foldedSetIterable (it.py C.N) env x = pure x)
    {pos' : Pos} {use : Option (Value → Sem Unit)} {T : Value → Shared → Prop}
    (hfin : ∀ D' L σ' s', Step (fun _ => False) σ s σ' s' → Rep G σ' s' → (∃ m, s'.heap.Ns L m) → Loose G σ' s' L → s.heap.get? L = none → Q (.ref D') σ' → compPost (model G.prog G.w) A NoE use T (.ref D') L (.ok .next) s') :
    wpAny (model G.prog G.w) A (comprehension ((E.comp elt i pt it ifs sc p).py C.N) sc env pos' (newList []) false (eval (it.py C.N) env) use) T NoE s := by
  have W := CompW.of hw
  obtain ⟨cl, hcl, c1, c2⟩ := closure_ok (env := env) sc fun x hx q => Sv.cells _ (W.free x hx q)
  refine wpAny_comprehension_free rfl hset hcl W.kind (fun x hx q => by rw [← q]; exact W.one x hx) (mono0 (jit d _ loc σ s A hA R D h) fun v s1 h1 => ?_)
  obtain ⟨sv, σ1, st1, R1, V1, hi⟩ := h1
  refine mono0 (iter_start O R1 V1 hi) fun w s2 h2 => ?_
  obtain ⟨I, src, rfl, I0, st2, R2, I2, hN⟩ := h2
  refine wpAny_newObj_type ?_
  obtain ⟨sv', σ3, st3, R3, V3, acc, rfl, a1, rfl⟩ := new_list (Q := fun sv σ' => ∃ acc, sv = .ref acc ∧ σ1 acc = none ∧ σ' = upd σ1 acc (.list [])) R2 (show VRs _ [] [] from rfl) s2.toks (fun a ha => ⟨a, rfl, ha, rfl⟩)
  have hacc : acc = s2.heap.objs.size := by cases V3; rfl
  have hN := hN acc a1
  have I3 := I2.step st3 (fun f => f)
  have d3 : ∀ b, s.heap.get? b ≠ none → (s2.heap.push (listObj [] 0)).get? b ≠ none := fun b e => st3.dom b (fun f => f) (st2.dom b (fun f => f) (st1.dom b (fun f => f) e))
  rw [← hacc]
  show wpAny _ _ _ _ _ { s2 with heap := s2.heap.push (listObj [] 0), toks := s2.toks }
  have st03 := (st1.trans st2).trans st3
  generalize hs3 : ({ s2 with heap := s2.heap.push (listObj [] 0), toks := s2.toks } : Shared) = s3 at st3 R3 I3 st03
  have d3 : ∀ b, s.heap.get? b ≠ none → s3.heap.get? b ≠ none := fun b e => st03.dom b (fun f => f) e
  obtain ⟨f1, f2, f3⟩ := fresh_none R3
  have L0 : s.heap.get? s3.heap.objs.size = none := by
    refine Decidable.byContradiction fun n => d3 _ n ?_
    cases z : s3.heap.get? s3.heap.objs.size with
    | none => rfl
    | some o => exact absurd (lt_size_of z) (Nat.lt_irrefl _)
  have Is : s.heap.get? I = none := by
    refine Decidable.byContradiction fun n => st1.dom _ (fun f => f) n I0
  have IL : I ≠ s3.heap.objs.size := fun q => by
    obtain ⟨ob, e, _⟩ := I3.at_.obj
    have := lt_size_of e
    rw [q] at this
    exact Nat.lt_irrefl _ this
  refine wpAny_newFunctionEnv W.nocell (by intro y hy; simp at hy) (fun h4 ns4 sb4 => ?_) W.kind
  have k4 : ∀ b o, s3.heap.get? b = some o → h4.get? b = some o := fun b o e => sb4.extBut b o (Nat.ne_of_lt (lt_size_of e)) (Heap.get?_push_of_some _ e)
  obtain ⟨st4, R4⟩ := grow R3 (h' := h4) (s3.toks + ([] : List (Str × Value)).length) k4
  have lo4 : Loose G (upd σ1 acc (.list [])) { s3 with heap := h4, toks := s3.toks + ([] : List (Str × Value)).length } s3.heap.objs.size := ⟨by obtain ⟨_, _, _, e, _⟩ := ns4; show h4.get? _ ≠ none; rw [e]; simp, f2, f3⟩
  have I4 := I3.step st4 (fun f => f)
  have st04 := st03.trans st4
  generalize hL : s3.heap.objs.size = L at ns4 lo4 L0 IL
  generalize hs4 : ({ s3 with heap := h4, toks := s3.toks + ([] : List (Str × Value)).length } : Shared) = s4 at st4 R4 lo4 I4 st04
  have ns4' : ∃ m, s4.heap.Ns L m := ⟨_, by rw [← hs4]; exact ns4⟩
  have Sin : EnvS (C.inner i sc) (compEnvC sc cl L env) := inner_env Sv W c1 c2 fun x c e q => by
    subst q
    obtain ⟨ov, ⟨o, e2, _⟩, _⟩ := D.cs x c e
    rw [L0] at e2; cases e2
  have jelt := jelt _ Sin
  have jifs := jifs _ Sin
  show codeAny _ _ (.compStart (.ListComp (elt.py C.N) [⟨.Name (C.N.n i) pt, it.py C.N, ifs.py C.N, 0⟩] sc p) 0 (.ref I) (.ref acc) (compEnvC sc cl L env)) (compPost (model G.prog G.w) A NoE use T (.ref acc) L) s4
  have loop : codeAny (model G.prog G.w) A (.compLoop (.ListComp (elt.py C.N) [⟨.Name (C.N.n i) pt, it.py C.N, ifs.py C.N, 0⟩] sc p) 0 (.ref I) (.ref acc) (compEnvC sc cl L env)) (compPost (model G.prog G.w) A NoE use T (.ref acc) L) s4 := by
    obtain ⟨m4, ns4⟩ := ns4'
    refine codeAny_compLoop_tests (CI G d elt ifs i loc Q acc I L src σ s) ?_ (src.items.length + 1) ⟨0, _, rfl, Nat.zero_le _, st04, R4, I4, m4, ns4, lo4, hN⟩
    clear hN st04 R4 I4 ns4 lo4
    rintro n s' ⟨k, σ', rfl, hk, stS, RS, IS, m, ns, lo, hc⟩
    by_cases hlt : k < src.items.length
    · rw [List.drop_eq_getElem_cons hlt] at hc
      obtain ⟨hchk, hT⟩ := hc
      have hx : src.items[k]? = some src.items[k] := List.getElem?_eq_getElem hlt
      generalize src.items[k] = x at hx hT
      refine wpAny_mono (iter_next RS hA.1 IS hchk hx) (fun r s5 h5 => ?_) fun _ _ f => f.elim
      obtain ⟨v, rfl, st5, R5, I5, V5⟩ := h5
      have st05 := stS.trans' st5 fun b e => by subst e; exact .inr Is
      have lo5 := lo.step st5 (fun e => IL e.symm)
      have ns5 : s5.heap.Ns L m := by
        obtain ⟨o, es, ep, e, r⟩ := ns
        exact ⟨o, es, ep, st5.pres _ _ e lo.2.1 (fun e => IL e.symm), r⟩
      have D5 := inner_dyn (cl := cl) Sv W c1 (D.step0 st05) ns5 lo5
      dsimp only
      refine wpAny_assign_Name (wpAny_mono (store_local Sin R5 D5 (inner_i W) (show (compEnvC sc cl L env).kindOf ((C.inner i sc).N.n i) = some .local from inner_loc (C := C) W) V5) (fun _ s6 h6 => ?_) fun _ _ f => f.elim)
      obtain ⟨st6, R6, D6⟩ := h6
      rw [List.set_set] at D6
      have st06 := st05.trans' st6 fun b e => .inr (by rw [e]; exact L0)
      have I6 := I5.step st6 (fun e => IL e)
      have lo6 : Loose G σ' s6 L := D6.own L (.inl rfl)
      refine wpAny_mono (jifs d true _ _ σ' s6 A hA R6 D6 hT) (fun c s7 h7 => ?_) fun _ _ f => f.elim
      obtain ⟨σ7, st7, R7, h7⟩ := h7
      have st07 := st06.trans st7
      have I7 := I6.step st7 (fun f => f)
      have lo7 := lo6.step st7 (fun f => f)
      have D7 := D6.step0 st7
      cases c with
      | false =>
        simp only [Bool.false_eq_true, if_false] at h7 ⊢
        obtain ⟨m7, n7, _⟩ := D7.ns
        exact ⟨src.items.length + 1 - (k + 1), it_lt hlt, k + 1, σ7, rfl, hlt, st07, R7, I7, m7, n7, lo7, h7⟩
      | true =>
        simp only [if_true] at h7 ⊢
        refine wpAny_mono (jelt d _ _ σ7 s7 A hA R7 D7 h7) (fun y s8 h8 => ?_) fun _ _ f => f.elim
        obtain ⟨sv, σ8, st8, R8, V8, l, e8, hl, hc8⟩ := h8
        have st08 := st07.trans st8
        have I8 := I7.step st8 (fun f => f)
        have lo8 := lo7.step st8 (fun f => f)
        have D8 := D7.step0 st8
        obtain ⟨vs, nn, g1, g2⟩ := R8.objs _ _ e8
        refine wpAny_list_append_plain (items := vs.toArray) ⟨nn, g1⟩ (fun h9 pl sb => ?_) (by simp [g2.length, sizeLine_eq]; omega)
        obtain ⟨n9, pl⟩ := pl
        have tk9 : TupKeep s8.heap h9 := fun a o e c => by
          by_cases q : a = acc
          · subst q; rw [g1] at e; cases e; exact absurd c.1 (by simp)
          · exact (sb.2 a q).trans e
        obtain ⟨st9, R9⟩ := put_obj R8 (h' := h9) s8.toks (a := acc) (o := .list (l ++ [sv])) (by intro c d m e; cases e) (.inr ⟨_, e8, by intro c d m e; cases e⟩) (fun b ob n e => (sb.2 b n).trans e)
          ⟨vs ++ [y], n9, by rw [pl]; simp, (g2.mono tk9).append (VRs.one (V8.mono tk9))⟩
        have D9 := D8.step0 st9
        obtain ⟨m9, n9', _⟩ := D9.ns
        exact ⟨src.items.length + 1 - (k + 1), it_lt hlt, k + 1, _, rfl, hlt, st08.trans st9, R9, I8.step st9 (fun f => f), m9, n9', lo8.step st9 (fun f => f), hc8⟩
    · obtain rfl : k = src.items.length := Nat.le_antisymm hk (Nat.not_lt.mp hlt)
      rw [List.drop_length] at hc
      obtain ⟨hchk, hq⟩ := hc
      refine wpAny_mono (iter_end RS hA.1 IS hchk (by simp)) (fun r s5 h5 => ?_) fun _ _ f => f.elim
      obtain ⟨rfl, st5, R5⟩ := h5
      have st05 := stS.trans' st5 fun b e => by subst e; exact .inr Is
      have lo5 := lo.step st5 (fun e => IL e.symm)
      have ns5 : s5.heap.Ns L m := by
        obtain ⟨o, es, ep, e, r⟩ := ns
        exact ⟨o, es, ep, st5.pres _ _ e lo.2.1 (fun e => IL e.symm), r⟩
      exact hfin acc L σ' s5 st05 R5 ⟨m, ns5⟩ lo5 L0 hq
  exact codeAny_compStart_list loop (iter_self I4.at_ loop)
theorem ev_comp (O : GOk G) (Sv : EnvS C env) {elt : E} {i : Nat} {pt : Pos} {it : E} {ifs : EL} {sc : Scope} {p : Pos} (hw : C.compOk i sc = true) (jit : EvE G C env it)
    (jelt : ∀ env', EnvS (C.inner i sc) env' → EvE G (C.inner i sc) env' elt) (jifs : ∀ env', EnvS (C.inner i sc) env' → EvF G (C.inner i sc) env' ifs)
    (hset : ∀ x, foldedSetIterable (it.py C.N) env x = pure x) : EvE G C env (.comp elt i pt it ifs sc p) := by
  intro d Q loc σ s A hA R D h
  show wpAny _ _ (eval (.ListComp _ _ sc p) env) _ _ _
  rw [eval_ListComp]
  show wpAny _ _ (comprehension ((E.comp elt i pt it ifs sc p).py C.N) sc env _ (newList []) false (eval (it.py C.N) env) none) _ _ _
  refine comp_core O Sv hw jit jelt jifs hA R D h hset (use := none) fun D' L σ' s' st R' ⟨m, ns⟩ lo L0 q => ?_
  refine ⟨m, ns, fun h' sb => ?_⟩
  obtain ⟨st2, R2⟩ := wr R' lo (ns_imm ns) (h' := h') s'.toks (fun b o n e => sb.extBut b o n e)
  exact ⟨.ref D', σ', st.trans' st2 fun b e => .inr (by rw [e]; exact L0), R2, rfl, q⟩
end
end Mine
namespace Mine
section
variable {G : Gd} {C : Cx} {env : Env} {A : Around} {σ : SH} {s : Shared} {loc : Loc}
theorem op_inpl (R : Rep G σ s) {op : Operator} (hop : augOk op = true) {i j : Int} {a b : Value} {Q : SV → SH → Prop} (ha : VR s.heap (.int i) a) (hb : VR s.heap (.int j) b) (h : binI op i j fun z => Q (.int z) σ) :
    wpAny (model G.prog G.w) A (inplaceOp op a b) (Post G σ s Q) NoE s := by
  obtain ⟨t, rfl⟩ := ha
  obtain ⟨u, rfl⟩ := hb
  cases op <;> first | (cases hop; done) | skip
  · exact AutoIntOps.iadd_0 (Post.int R _ h)
  · exact AutoIntOps.isub_0 (Post.int R _ h)
  · exact AutoIntOps.imul_0 (Post.int R _ h.2) (IntMulOk.of_left (small_bits h.1))
theorem op_getItem (R : Rep G σ s) {x y : SV} {a b : Value} {Q : SV → SH → Prop} (ha : VR s.heap x a) (hb : VR s.heap y b) (hx : ∃ l, x = .ref l) (h : subW x y Q σ) :
    wpAny (model G.prog G.w) A (getItem a b) (Post G σ s Q) NoE s := by
  obtain ⟨l, rfl⟩ := hx
  cases y <;> first | exact h.elim | skip
  rename_i k
  cases ha
  obtain ⟨t, rfl⟩ := hb
  rcases h with ⟨xs, v, e1, h0, h1, e2, q⟩ | ⟨m, ep, v, e1, e2, q⟩
  · obtain ⟨vs, n, g1, g2⟩ := R.objs _ _ e1
    obtain ⟨v', g3, g4⟩ := g2.get e2
    exact wpAny_getItem_list (list_is g1) h0 (by omega) (by simpa using g3) (Post.same R g4 q)
  · obtain ⟨vs, D, V⟩ := R.objs _ _ e1
    obtain ⟨v', g3, g4⟩ := (at_look k V).1 v e2
    exact wpAny_getItem_of (intKind_is _ _ _ _) (map_of D) g3 (Post.tok _ R g4 q)
inductive PostA (G : Gd) (C : Cx) (env : Env) (σ : SH) (s : Shared) (k : Loc → SH → Prop) (u : Unit) (s' : Shared) : Prop where
  | mk (σ' : SH) (loc' : Loc) (st : Step (Own env) σ s σ' s') (R : Rep G σ' s') (D : Dyn G C env σ' loc' s') (q : k loc' σ')
theorem PostA.trans {W : Addr → Prop} {σ1 : SH} {s1 s2 : Shared} {k : Loc → SH → Prop} {u : Unit} (x : Step W σ s σ1 s1) (hw : ∀ b, W b → Own env b ∨ s.heap.get? b = none) (h : PostA G C env σ1 s1 k u s2) (own : ∀ b, Own env b → s.heap.get? b ≠ none) : PostA G C env σ s k u s2 := by
  obtain ⟨σ', loc', st, R, D, q⟩ := h
  refine ⟨σ', loc', ?_, R, D, q⟩
  have x' : Step (fun b => Own env b ∨ W b) σ s σ1 s1 := x.weak fun b => .inr
  have z := x'.trans' st fun b e => .inl (.inl e)
  -- what W names beyond the frame is new
  refine ⟨fun b o e f w => ?_, fun b f => ?_, fun b w e => ?_, z.tup, z.rest⟩
  · exact z.pres b o e f fun q => by
      rcases q with q | q
      · exact w q
      · rcases hw b q with q | q
        · exact w q
        · rw [e] at q; cases q
  · rcases z.foot b f with q | q | q
    · exact .inl q
    · exact .inr (.inl q)
    · rcases q with q | q
      · exact .inr (.inr q)
      · exact (hw b q).elim (fun q => .inr (.inr q)) fun q => .inr (.inl q)
  · refine z.dom b (fun q => ?_) e
    rcases q with q | q
    · exact w q
    · rcases hw b q with q | q
      · exact w q
      · exact e q
theorem PostA.trans0 {σ1 : SH} {s1 s2 : Shared} {k : Loc → SH → Prop} {u : Unit} (x : Step (fun _ => False) σ s σ1 s1) (h : PostA G C env σ1 s1 k u s2) : PostA G C env σ s k u s2 := by
  obtain ⟨σ', loc', st, R, D, q⟩ := h
  exact ⟨σ', loc', (x.weak fun _ f => f.elim).trans st, R, D, q⟩
noncomputable def EvA (G : Gd) (C : Cx) (env : Env) (t : T) : Prop := ∀ (d : Nat) (v : SV) (b : Value) (k : Loc → SH → Prop) (loc : Loc) (σ : SH) (s : Shared) (A : Around), Ok d A → Rep G σ s → Dyn G C env σ loc s → VR s.heap v b → wpA G d t v k loc σ →
  wpAny (model G.prog G.w) A (assign (t.py C.N) env b) (PostA G C env σ s k) NoE s
variable (O : GOk G) (Sv : EnvS C env) (hN : C.N.fn = G.fn ∧ C.N.gl = G.gl)
include Sv in
theorem ea_loc (i : Nat) (p : Pos) (hi : C.sees i = true) : EvA G C env (.loc i p) := by
  intro d v b k loc σ s A hA R D V h
  refine wpAny_assign_Name (mono0 (store_loc Sv R D hi V) fun _ s' h' => ?_)
  exact ⟨σ, _, h'.1, h'.2.1, h'.2.2, h⟩
include O hN in
theorem ea_attr (e : E) (x : Nat) (p : Pos) (ie : EvE G C env e) : EvA G C env (.attr e x p) := by
  intro d v b k loc σ s A hA R D V h
  show wpAny _ _ (assign (.Attribute (e.py C.N) (C.N.fn x) p) env b) _ _ _
  rw [assign_Attribute, hN.1]
  refine wpAny_bind (wpAny_holding (mono0 (ie d _ loc σ s A hA R D h) fun w s1 h1 => ?_))
  obtain ⟨o, σ1, st, R1, V1, h1⟩ := h1
  refine wpAny_bind (wpAny_standAt (wpAny_bind (wpAny_holding (mono0 (op_setattr O R1 V1 (V.mono st.tup) h1) fun u s2 h2 => wpAny_release ?_))))
  obtain ⟨σ2, st2, R2, q⟩ := h2
  exact ⟨σ2, loc, (st.trans st2).weak (fun _ f => f.elim), R2, D.step0 (st.trans st2), q⟩
include O in
theorem ea_sub (e i : E) (p : Pos) (ie : EvE G C env e) (ii : EvE G C env i) : EvA G C env (.sub e i p) := by
  intro d v b k loc σ s A hA R D V h
  show wpAny _ _ (assign (.Subscript (e.py C.N) (i.py C.N) p) env b) _ _ _
  rw [assign_Subscript]
  refine wpAny_bind (wpAny_holding (mono0 (ie d _ loc σ s A hA R D h) fun w s1 h1 => ?_))
  obtain ⟨o, σ1, st, R1, V1, h1⟩ := h1
  refine wpAny_bind (wpAny_holding (mono0 (ii d _ loc σ1 s1 A hA R1 (D.step0 st) h1) fun w2 s2 h2 => ?_))
  obtain ⟨iv, σ2, st2, R2, V2, h2⟩ := h2
  refine wpAny_bind (wpAny_standAt (wpAny_bind (wpAny_holding (mono0 (op_setsub O R2 (V1.mono st2.tup) V2 (V.mono (st.trans st2).tup) h2) fun u s3 h3 => wpAny_release ?_))))
  obtain ⟨σ3, st3, R3, q⟩ := h3
  have z := (st.trans st2).trans st3
  exact ⟨σ3, loc, z.weak (fun _ f => f.elim), R3, D.step0 z, q⟩
theorem each_names (N : Nm) : ∀ is : List (Nat × Pos), assignEach (is.map fun q => .Name (N.n q.1) q.2) env = is.map fun q => (false, assign (.Name (N.n q.1) q.2) env)
  | [] => rfl
  | q :: is => by
    show (false, assign _ env) :: assignEach _ env = _
    rw [each_names N is]; rfl
include Sv in
theorem store_all (hh : A.handled = none) : ∀ (is : List (Nat × Pos)) (l : List SV) (vs : List Value) (loc : Loc) (s : Shared), (∀ q ∈ is, C.sees q.1 = true) → l.length = is.length → Rep G σ s → Dyn G C env σ loc s → VRs s.heap l vs →
    wpAny (model G.prog G.w) A (assignInOrder (is.map fun q => assign (.Name (C.N.n q.1) q.2) env) vs) (fun _ s' => Step (Own env) σ s σ s' ∧ Rep G σ s' ∧ Dyn G C env σ (setAll loc is l) s') NoE s
  | [], l, vs, loc, s, _, hl, R, D, V => by
    have : l = [] := List.length_eq_zero_iff.mp hl
    subst this
    exact wpAny_pure ⟨Step.refl .., R, D⟩
  | q :: is, [], vs, loc, s, _, hl, R, D, V => by cases hl
  | q :: is, v :: l, vs, loc, s, hs, hl, R, D, V => by
    obtain ⟨b, r, rfl, V1, V2⟩ := V
    show wpAny _ _ (do holding r (assign (.Name (C.N.n q.1) q.2) env b); assignInOrder (is.map fun q => assign (.Name (C.N.n q.1) q.2) env) r) _ _ _
    refine wpAny_bind (wpAny_holding (wpAny_assign_Name (mono0 (store_loc Sv R D (hs q List.mem_cons_self) V1) fun _ s1 h1 => ?_)))
    obtain ⟨st, R1, D1⟩ := h1
    refine mono0 (store_all hh is l r _ s1 (fun z hz => hs z (List.mem_cons_of_mem _ hz)) (by simpa using hl) R1 D1 (V2.mono st.tup)) fun _ s2 h2 => ?_
    exact ⟨st.trans h2.1, h2.2.1, h2.2.2⟩
include Sv in
theorem ea_tup (is : List (Nat × Pos)) (k0 : Nat) (p : Pos) (hs : (is.all fun q => C.sees q.1) = true) : EvA G C env (.tup is k0 p) := by
  intro d v b k loc σ s A hA R D V h
  obtain ⟨l, rfl, h⟩ := tupW_ex h
  obtain ⟨hl, h⟩ := gd_ex h
  have hl := Nat.eq_of_beq_eq_true hl
  obtain ⟨t, vs, rfl, e1, e2⟩ := V
  have e3 : (assignEach (is.map fun q => .Name (C.N.n q.1) q.2) env).map (·.2) = is.map fun q => assign (.Name (C.N.n q.1) q.2) env := by
    rw [each_names, List.map_map]; exact List.map_congr_left fun _ _ => rfl
  have e4 : (assignEach (is.map fun q => .Name (C.N.n q.1) q.2) env).length = vs.toArray.size := by
    rw [each_names, List.length_map, List.size_toArray, e2.length, hl]
  have e5 : (assignEach (is.map fun q => .Name (C.N.n q.1) q.2) env).findIdx? (·.1) = none := by
    rw [each_names, List.findIdx?_eq_none_iff]
    intro x hx
    obtain ⟨q, _, e⟩ := List.mem_map.mp hx
    rw [← e]
  have go : ∀ h', Heap.ExtBut s.heap.objs.size s.heap h' → wpAny (model G.prog G.w) A (assignInOrder ((assignEach (is.map fun q => .Name (C.N.n q.1) q.2) env).map (·.2)) vs.toArray.toList) (PostA G C env σ s k) NoE { s with heap := h' } := by
    intro h' ext
    rw [e3]
    have k' : ∀ b o, s.heap.get? b = some o → h'.get? b = some o := fun b o e => ext b o (Nat.ne_of_lt (lt_size_of e)) e
    obtain ⟨st, R1⟩ := grow R (h' := h') s.toks k'
    have D1 := D.step0 st
    have V1 := e2.mono st.tup
    have z := store_all (σ := σ) (A := A) (env := env) Sv hA.1 is l vs loc { s with heap := h', toks := s.toks } (fun q hq => by simpa using List.all_eq_true.mp hs q hq) hl R1 D1 V1
    refine mono0 z fun _ s2 h2 => ?_
    exact ⟨σ, _, (st.weak fun _ f => f.elim).trans h2.1, h2.2.1, h2.2.2, h⟩
  exact assign_Tuple_tuple hA.1 (tup_is e1) e4 e5 go
end
end Mine
namespace Mine
section
variable {G : Gd} {C : Cx} {env : Env} {A : Around} {σ : SH} {s : Shared} {loc : Loc}
noncomputable def FlR (h : Heap) : Fl → Flow → Prop
  | .next, f => f = .next
  | .brk, f => f = .brk
  | .cont, f => f = .cont
  | .ret v, f => ∃ w, f = .ret w ∧ VR h v w
inductive PostS (G : Gd) (C : Cx) (env : Env) (σ : SH) (s : Shared) (Q : Fl → Loc → SH → Prop) (f : Flow) (s' : Shared) : Prop where
  | mk (fl : Fl) (σ' : SH) (loc' : Loc) (st : Step (Own env) σ s σ' s') (R : Rep G σ' s') (D : Dyn G C env σ' loc' s') (F : FlR s'.heap fl f) (q : Q fl loc' σ')
theorem PostS.trans {σ1 : SH} {s1 s2 : Shared} {Q : Fl → Loc → SH → Prop} {f : Flow} (x : Step (Own env) σ s σ1 s1) (h : PostS G C env σ1 s1 Q f s2) : PostS G C env σ s Q f s2 := by
  obtain ⟨fl, σ', loc', st, R, D, F, q⟩ := h
  exact ⟨fl, σ', loc', x.trans st, R, D, F, q⟩
theorem PostS.trans0 {σ1 : SH} {s1 s2 : Shared} {Q : Fl → Loc → SH → Prop} {f : Flow} (x : Step (fun _ => False) σ s σ1 s1) (h : PostS G C env σ1 s1 Q f s2) : PostS G C env σ s Q f s2 := h.trans (x.weak fun _ f => f.elim)
theorem PostS.next {Q : Fl → Loc → SH → Prop} (R : Rep G σ s) (D : Dyn G C env σ loc s) (q : Q .next loc σ) : PostS G C env σ s Q .next s := ⟨.next, σ, loc, Step.refl .., R, D, rfl, q⟩
noncomputable def EvS (G : Gd) (C : Cx) (env : Env) (t : S) : Prop := ∀ (d : Nat) (Q : Fl → Loc → SH → Prop) (loc : Loc) (σ : SH) (s : Shared) (A : Around), Ok d A → Rep G σ s → Dyn G C env σ loc s → wpS G d t Q loc σ →
  wpAny (model G.prog G.w) A (exec (t.py C.N) env) (PostS G C env σ s Q) NoE s
noncomputable def EvB (G : Gd) (C : Cx) (env : Env) (t : SL) : Prop := ∀ (d : Nat) (Q : Fl → Loc → SH → Prop) (loc : Loc) (σ : SH) (s : Shared) (A : Around), Ok d A → Rep G σ s → Dyn G C env σ loc s → wpB G d t Q loc σ →
  wpAny (model G.prog G.w) A (execs (t.py C.N) env) (PostS G C env σ s Q) NoE s
variable (O : GOk G) (Sv : EnvS C env) (hN : C.N.fn = G.fn ∧ C.N.gl = G.gl)
theorem eb_nil : EvB G C env .nil := fun d Q loc σ s A hA R D h => wpAny_execs_nil (PostS.next R D h)
theorem eb_cons (a : S) (r : SL) (ia : EvS G C env a) (ir : EvB G C env r) : EvB G C env (.cons a r) := by
  intro d Q loc σ s A hA R D h
  refine wpAny_execs_cons (mono0 (ia d _ loc σ s A hA R D h) fun f s1 h1 => ?_)
  obtain ⟨fl, σ1, loc1, st, R1, D1, F, q⟩ := h1
  cases fl with
  | next => cases F; exact mono0 (ir d Q loc1 σ1 s1 A hA R1 D1 q) fun f s2 h2 => h2.trans st
  | brk => cases F; exact ⟨.brk, σ1, loc1, st, R1, D1, rfl, q⟩
  | cont => cases F; exact ⟨.cont, σ1, loc1, st, R1, D1, rfl, q⟩
  | ret v => obtain ⟨w, rfl, V⟩ := F; exact ⟨.ret v, σ1, loc1, st, R1, D1, ⟨w, rfl, V⟩, q⟩
include Sv in
theorem es_expr (e : E) (p : Pos) (hc : e.isComp = false) (ie : EvE G C env e) : EvS G C env (.expr e p) := by
  intro d Q loc σ s A hA R D h
  refine wpAny_Expr_any (mono0 (ie d _ loc σ s A hA R D h) fun v s1 h1 => ?_) (by unfold interactive; rw [Sv.kind]; rfl) (by cases e <;> first | rfl | (cases hc; done))
  obtain ⟨o, σ1, st, R1, V1, q⟩ := h1
  exact (PostS.next R1 (D.step0 st) q).trans0 st
theorem es_gen (t : T) (e : E) (p : Pos) (it : EvA G C env t) (ie : EvE G C env e) (hs : swapsWithSole [t.py C.N] (e.py C.N) p.line env = pure false) (hw : swappedStores [t.py C.N] (e.py C.N) env = pure none) (he : (assignEach [t.py C.N] env).map (·.2) = [assign (t.py C.N) env]) :
    EvS G C env (.assign t e p) := by
  intro d Q loc σ s A hA R D h
  refine wpAny_Assign_stores (mono0 (ie d _ loc σ s A hA R D h) fun v s1 h1 => ?_) hs hw
  obtain ⟨o, σ1, st, R1, V1, q⟩ := h1
  rw [he]
  refine mono0 (it d o v _ loc σ1 s1 A hA R1 (D.step0 st) V1 q) fun u s2 h2 => ?_
  obtain ⟨σ2, loc2, st2, R2, D2, q2⟩ := h2
  exact (PostS.next R2 D2 q2).trans ((st.weak fun _ f => f.elim).trans st2)
include O Sv in
theorem es_comp (i : Nat) (pt : Pos) (hi : C.sees i = true) (p : Pos) {elt : E} {j : Nat} {pj : Pos} {it : E} {ifs : EL} {sc : Scope} {pc : Pos} (hw : C.compOk j sc = true) (jit : EvE G C env it)
    (jelt : ∀ env', EnvS (C.inner j sc) env' → EvE G (C.inner j sc) env' elt) (jifs : ∀ env', EnvS (C.inner j sc) env' → EvF G (C.inner j sc) env' ifs)
    (hset : ∀ x, foldedSetIterable (it.py C.N) env x = pure x) (hsw : swapsWith ((E.comp elt j pj it ifs sc pc).py C.N) (some (.Name (C.N.n i) pt)) p.line env = pure true) : EvS G C env (.assign (.loc i pt) (.comp elt j pj it ifs sc pc) p) := by
  intro d Q loc σ s A hA R D h
  show wpAny _ _ (exec (.Assign [.Name (C.N.n i) pt] ((E.comp elt j pj it ifs sc pc).py C.N) p) env) _ _ _
  rw [exec_Assign_Name_used _ _ _ _ hsw]
  refine wpAny_bind (wpAny_standAt (wpAny_bind ?_))
  show wpAny _ A (do let _ ← comprehension ((E.comp elt j pj it ifs sc pc).py C.N) sc env _ (newList []) false (eval (it.py C.N) env) (some (assign (.Name (C.N.n i) pt) env))) _ _ s
  refine wpAny_bind (mono0 (comp_core (T := fun _ s' => PostS G C env σ s Q .next s') O Sv hw jit jelt jifs hA R D h hset fun D' L σ' s' st R' ns lo L0 q => ?_) fun _ s' h' => wpAny_pure (wpAny_pure h'))
  obtain ⟨m, ns⟩ := ns
  show wpAny _ A (assign (.Name (C.N.n i) pt) env (.ref D')) _ _ _
  refine wpAny_assign_Name (mono0 (store_loc Sv R' (D.step0 st) hi (v := .ref D') (by exact (rfl : Value.ref D' = _))) fun _ s2 h2 => ?_)
  obtain ⟨st2, R2, D2⟩ := h2
  have nL : ¬ Own env L := fun f => (D.own L f).1 L0
  have lo2 := lo.step st2 nL
  have ns2 : s2.heap.Ns L m := by
    obtain ⟨o, es, ep, e, r⟩ := ns
    exact ⟨o, es, ep, st2.pres _ _ e lo.2.1 nL, r⟩
  refine ⟨m, ns2, fun h' sb => ?_⟩
  obtain ⟨st3, R3⟩ := wr R2 lo2 (ns_imm ns2) (h' := h') s2.toks (fun b o n e => sb.extBut b o n e)
  have st02 := (st.weak (W' := Own env) fun _ f => f.elim).trans st2
  exact ⟨.next, σ', _, st02.trans' st3 fun b e => .inr (by rw [e]; exact L0), R3, D2.step st3 (fun b o e => nL (e ▸ o)), rfl, q⟩
include Sv in
theorem es_augL (i : Nat) (pi : Pos) (op : Operator) (e : E) (p : Pos) (hi : C.sees i = true) (hop : augOk op = true) (ie : EvE G C env e) (il : EvE G C env (.loc i pi)) : EvS G C env (.augL i pi op e p) := by
  intro d Q loc σ s A hA R D h
  obtain ⟨o, ho, h⟩ := locW_ex h
  refine wpAny_AugAssign_Name ?_
  have hl : wpAny (model G.prog G.w) A (loadName env (C.N.n i)) (Post G σ s (fun v h' => v = o ∧ h' = σ)) NoE s := by
    rcases Sv.kinds i hi with hk | ⟨hk, c, hc⟩
    · obtain ⟨m, ns, k⟩ := D.ns
      obtain ⟨w, e1, e2⟩ := k i o hi hk ho
      exact wpAny_loadName_local Sv.kind hk ns e1 (Post.same R e2 ⟨rfl, rfl⟩)
    · obtain ⟨ov, ic, k⟩ := D.cs _ c hc
      obtain ⟨w, e1, e2⟩ := k i o hi rfl hk ho
      subst e1
      exact wpAny_loadName_cell Sv.kind hk hc ic (Post.same R e2 ⟨rfl, rfl⟩)
  refine mono0 hl fun old s1 h1 => ?_
  obtain ⟨o', σ1, st, R1, V1, rfl, rfl⟩ := h1
  refine mono0 (ie d _ loc σ1 s1 A hA R1 (D.step0 st) h) fun v s2 h2 => ?_
  obtain ⟨iv, σ2, st2, R2, V2, h2⟩ := h2
  obtain ⟨x, y, rfl, rfl, q⟩ := augW_ex h2
  refine mono0 (op_inpl (Q := fun w h => ∃ z, w = .int z ∧ Q .next (loc.set i (some (.int z))) h) R2 hop (V1.mono st2.tup) V2 ?_) fun r s3 h3 => ?_
  · revert q; cases op <;> first | (exact fun q => ⟨_, rfl, q⟩) | (exact fun q => ⟨q.1, _, rfl, q.2⟩) | (cases hop)
  · obtain ⟨w, σ3, st3, R3, V3, z, rfl, q⟩ := h3
    have st03 := (st.trans st2).trans st3
    refine mono0 (store_loc Sv R3 (D.step0 st03) hi V3) fun _ s4 h4 => ?_
    exact (PostS.next h4.2.1 h4.2.2 q).trans ((st03.weak fun _ f => f.elim).trans h4.1)
include O hN in
theorem es_augA (o : E) (x : Nat) (pt : Pos) (op : Operator) (e : E) (p : Pos) (hop : augOk op = true) (io : EvE G C env o) (ie : EvE G C env e) : EvS G C env (.augA o x pt op e p) := by
  intro d Q loc σ s A hA R D h
  show wpAny _ _ (exec (.AugAssign (.Attribute (o.py C.N) (C.N.fn x) pt) op (e.py C.N) p) env) _ _ _
  rw [hN.1]
  refine wpAny_AugAssign_AttributeAny (mono0 (io d _ loc σ s A hA R D h) fun ov s1 h1 => ?_)
  obtain ⟨osv, σ1, st1, R1, V1, h1⟩ := h1
  refine mono0 (op_attr O R1 V1 h1) fun old s2 h2 => ?_
  obtain ⟨w, σ2, st2, R2, V2, h2⟩ := h2
  refine mono0 (ie d _ loc σ2 s2 A hA R2 (D.step0 (st1.trans st2)) h2) fun v s3 h3 => ?_
  obtain ⟨iv, σ3, st3, R3, V3, h3⟩ := h3
  obtain ⟨a, b, rfl, rfl, q⟩ := augW_ex h3
  refine mono0 (op_inpl (Q := fun w h => ∃ z, w = .int z ∧ setAttrW G osv x (.int z) (fun h4 => Q .next loc h4) h) R3 hop (V2.mono st3.tup) V3 ?_) fun r s4 h4 => ?_
  · revert q; cases op <;> first | (exact fun q => ⟨_, rfl, q⟩) | (exact fun q => ⟨q.1, _, rfl, q.2⟩) | (cases hop)
  · obtain ⟨w, σ4, st4, R4, V4, z, rfl, q⟩ := h4
    refine mono0 (op_setattr O R4 (V1.mono ((st2.trans st3).trans st4).tup) V4 q) fun _ s5 h5 => ?_
    obtain ⟨σ5, st5, R5, q⟩ := h5
    have z := ((st1.trans st2).trans (st3.trans st4)).trans st5
    exact (PostS.next R5 (D.step0 z) q).trans0 z
include O in
theorem es_augI (o i : E) (ps : Pos) (op : Operator) (e : E) (p : Pos) (hop : augOk op = true) (io : EvE G C env o) (ii : EvE G C env i) (ie : EvE G C env e) : EvS G C env (.augI o i ps op e p) := by
  intro d Q loc σ s A hA R D h
  refine wpAny_AugAssign_SubscriptAny (mono0 (io d _ loc σ s A hA R D h) fun ov s1 h1 => ?_) (fun ov iv new => by cases i <;> rfl)
  obtain ⟨osv, σ1, st1, R1, V1, h1⟩ := h1
  refine mono0 (ii d _ loc σ1 s1 A hA R1 (D.step0 st1) h1) fun iv' s1' h1 => ?_
  obtain ⟨isv, σ1', st1', R1', V1', hr, h1⟩ := h1
  have st11 := st1.trans st1'
  refine mono0 (op_getItem R1' (V1.mono st1'.tup) V1' hr h1) fun old s2 h2 => ?_
  obtain ⟨w, σ2, st2, R2, V2, h2⟩ := h2
  refine mono0 (ie d _ loc σ2 s2 A hA R2 (D.step0 (st11.trans st2)) h2) fun v s3 h3 => ?_
  obtain ⟨iv, σ3, st3, R3, V3, h3⟩ := h3
  obtain ⟨a, b, rfl, rfl, q⟩ := augW_ex h3
  refine mono0 (op_inpl (Q := fun w h => ∃ z, w = .int z ∧ setSubW osv isv (.int z) (fun h5 => Q .next loc h5) h) R3 hop (V2.mono st3.tup) V3 ?_) fun r s4 h4 => ?_
  · revert q; cases op <;> first | (exact fun q => ⟨_, rfl, q⟩) | (exact fun q => ⟨q.1, _, rfl, q.2⟩) | (cases hop)
  · obtain ⟨w, σ4, st4, R4, V4, z, rfl, q⟩ := h4
    have st24 := (st2.trans st3).trans st4
    refine mono0 (op_setsub O R4 (V1.mono (st1'.trans st24).tup) (V1'.mono st24.tup) V4 q) fun _ s5 h5 => ?_
    obtain ⟨σ5, st5, R5, q⟩ := h5
    have z := (st11.trans st24).trans st5
    exact (PostS.next R5 (D.step0 z) q).trans0 z
theorem es_if (t : E) (a b : SL) (p : Pos) (it : EvT G C env t) (ia : EvB G C env a) (ib : EvB G C env b) : EvS G C env (.if_ t a b p) := by
  intro d Q loc σ s A hA R D h
  refine wpAny_If (mono0 (it d _ loc σ s A hA R D h) fun c s1 h1 => ?_)
  obtain ⟨σ1, st, R1, h1⟩ := h1
  cases c with
  | true => exact mono0 (ia d Q loc σ1 s1 A hA R1 (D.step0 st) h1) fun f s2 h2 => h2.trans0 st
  | false => exact mono0 (ib d Q loc σ1 s1 A hA R1 (D.step0 st) h1) fun f s2 h2 => h2.trans0 st
theorem es_ret (e : E) (p : Pos) (ie : EvE G C env e) : EvS G C env (.ret e p) := by
  intro d Q loc σ s A hA R D h
  refine wpAny_Return_some (mono0 (ie d _ loc σ s A hA R D h) fun v s1 h1 => ?_)
  obtain ⟨o, σ1, st, R1, V1, q⟩ := h1
  exact ⟨.ret o, σ1, loc, st.weak (fun _ f => f.elim), R1, D.step0 st, ⟨v, rfl, V1⟩, q⟩
theorem es_brk (p : Pos) : EvS G C env (.brk p) := fun d Q loc σ s A hA R D h => by
  show wpAny _ _ (exec (.Break p) env) _ _ _
  exact wpAny_bind (wpAny_standAt (wpAny_pure ⟨.brk, σ, loc, Step.refl .., R, D, rfl, h⟩))
theorem es_cont (p : Pos) : EvS G C env (.cont p) := fun d Q loc σ s A hA R D h => by
  show wpAny _ _ (exec (.Continue p) env) _ _ _
  exact wpAny_bind (wpAny_standAt (wpAny_pure ⟨.cont, σ, loc, Step.refl .., R, D, rfl, h⟩))
theorem es_try (a : SL) (hs : List ExceptHandler) (p : Pos) (ia : EvB G C env a) : EvS G C env (.try_ a hs p) := by
  intro d Q loc σ s A hA R D h
  show wpAny _ _ (exec (.Try (a.py C.N) hs [] [] p) env) _ _ _
  rw [arm_exec_Try]
  refine wpAny_bind (wpAny_standAt ?_)
  show wpAny _ _ ((Sem.attempt _) >>= _) _ _ _
  refine wpAny_bind (wpAny_attempt (wpAny_mono (ia d Q loc σ s A hA R D h) (fun f s1 h1 => ?_) fun _ _ f => f.elim))
  cases f with
  | next => exact wpAny_execs_nil h1
  | brk => exact wpAny_pure h1
  | cont => exact wpAny_pure h1
  | ret v => exact wpAny_pure h1
inductive WI (G : Gd) (C : Cx) (env : Env) (d : Nat) (t : E) (a : SL) (Q : Fl → Loc → SH → Prop) (σ : SH) (s : Shared) (m : Nat) (s' : Shared) : Prop where
  | mk (σ' : SH) (loc' : Loc) (st : Step (Own env) σ s σ' s') (R : Rep G σ' s') (D : Dyn G C env σ' loc' s') (h : whileN (fun k l h => wpT G d t k l h) (fun k l h => wpB G d a k l h) Q m loc' σ')
inductive FI (G : Gd) (C : Cx) (env : Env) (d : Nat) (t : T) (a : SL) (Q : Fl → Loc → SH → Prop) (src : Src) (I : Addr) (σ : SH) (s : Shared) (n : Nat) (s' : Shared) : Prop where
  | mk (k : Nat) (σ' : SH) (loc' : Loc) (hn : n = src.items.length + 1 - k) (hk : k ≤ src.items.length) (st : Step (Own env) σ s σ' s') (R : Rep G σ' s') (D : Dyn G C env σ' loc' s') (IS : ItOk G σ' s' src I k)
    (hc : forN src.chk (fun x k l h => wpA G d t x k l h) (fun k l h => wpB G d a k l h) Q (src.items.drop k) loc' σ')
theorem es_while (t : E) (a : SL) (p : Pos) (it : EvT G C env t) (ia : EvB G C env a) : EvS G C env (.while_ t a p) := by
  intro d Q loc σ s A hA R D h
  obtain ⟨n, h⟩ := h
  refine wpAny_While ?_
  refine codeAny_whileLoop (WI G C env d t a Q σ s) ?_ n ⟨σ, loc, Step.refl .., R, D, h⟩
  rintro m s1 ⟨σ1, loc1, st1, R1, D1, h1⟩
  cases m with
  | zero => exact h1.elim
  | succ m =>
    refine wpAny_mono (it d _ loc1 σ1 s1 A hA R1 D1 h1) (fun c s2 h2 => ?_) fun _ _ f => f.elim
    obtain ⟨σ2, st2, R2, h2⟩ := h2
    have st02 := st1.trans (st2.weak (W' := Own env) fun _ f => f.elim)
    have D2 := D1.step0 st2
    cases c with
    | false =>
      simp only [Bool.false_eq_true, if_false] at h2 ⊢
      exact wpAny_execs_nil ((PostS.next R2 D2 h2).trans st02)
    | true =>
      simp only [if_true] at h2 ⊢
      refine wpAny_mono (ia d _ loc1 σ2 s2 A hA R2 D2 h2) (fun f s3 h3 => ?_) fun _ _ f => f.elim
      obtain ⟨fl, σ3, loc3, st3, R3, D3, F, q⟩ := h3
      have st03 := st02.trans st3
      cases fl with
      | next => cases F; exact ⟨m, Nat.lt_succ_self _, σ3, loc3, st03, R3, D3, q⟩
      | cont => cases F; exact ⟨m, Nat.lt_succ_self _, σ3, loc3, st03, R3, D3, q⟩
      | brk => cases F; exact (PostS.next R3 D3 q).trans st03
      | ret v => obtain ⟨w, rfl, V⟩ := F; exact ⟨.ret v, σ3, loc3, st03, R3, D3, ⟨w, rfl, V⟩, q⟩
theorem own_go {src : Src} {it : Addr} {k : Nat} {N : Nm} {t : T} {v : Value} {Q : Unit → Shared → Prop} {E : Value → Shared → Prop} (x : src.At s.heap it k) (q : Q () s) : wpAny (model G.prog G.w) A (letOwnedTupleGo (t.py N) (.ref it) v) Q E s := by
  have key : ∀ n : String, (["enumerate", "zip", "dict_itemiterator", "dict_reverseitemiterator", "odict_iterator", "itertools.zip_longest", "itertools.pairwise"].contains n) = false → (∃ o, s.heap.get? it = some o ∧ o.cls = .type n) → wpAny (model G.prog G.w) A (letOwnedTupleGo (t.py N) (.ref it) v) Q E s := by
    intro n hn ⟨o, ho, hc⟩
    cases t <;> first | exact wpAny_pure q | skip
    cases v <;> first | exact wpAny_pure q | skip
    show wpAny _ _ (load it >>= _) _ _ _
    refine wpAny_bind (wpAny_load ho ?_)
    rw [hc]
    cases o.data <;> first | exact wpAny_pure q | skip
    dsimp only
    rw [hn]
    exact wpAny_pure q
  cases src with
  | list l xs => obtain ⟨o, ho, hc, _⟩ := x; exact key _ (by decide) ⟨o, ho, hc⟩
  | dict d m ep => obtain ⟨o, ho, hc, _⟩ := x; exact key _ (by decide) ⟨o, ho, hc⟩
  | tup t xs => obtain ⟨⟨o, ho, hc, _⟩, _⟩ := x; exact key _ (by decide) ⟨o, ho, hc⟩
  | rng a n c => exact key _ (by decide) ⟨_, x, rfl⟩
include O in
theorem es_for (t : T) (e : E) (a : SL) (p : Pos) (it : EvA G C env t) (ie : EvE G C env e) (ia : EvB G C env a) (hset : ∀ x, foldedSetIterable (e.py C.N) env x = pure x) : EvS G C env (.for_ t e a p) := by
  intro d Q loc σ s A hA R D h
  refine wpAny_For (mono0 (ie d _ loc σ s A hA R D h) fun v s1 h1 => ?_) hset
  obtain ⟨sv, σ1, st1, R1, V1, hi⟩ := h1
  refine mono0 (iter_start O R1 V1 hi) fun w s2 h2 => ?_
  obtain ⟨I, src, rfl, I0, st2, R2, I2, hN⟩ := h2
  have Is : s.heap.get? I = none := Decidable.byContradiction fun n => st1.dom _ (fun f => f) n I0
  have nI : ¬ Own env I := fun f => (D.own I f).1 Is
  have st02 := (st1.trans st2).weak (W' := Own env) fun _ f => f.elim
  refine codeAny_forLoop_any (FI G C env d t a Q src I σ s) ?_ (src.items.length + 1)
      ⟨0, _, loc, rfl, Nat.zero_le _, st02, R2, D.step0 (st1.trans st2), I2, hN⟩
  clear st02 R2 I2 hN st1 st2
  rintro n s' ⟨k, σ', loc', rfl, hk, stS, RS, DS, IS, hc⟩
  by_cases hlt : k < src.items.length
  · rw [List.drop_eq_getElem_cons hlt] at hc
    obtain ⟨hchk, hT⟩ := hc
    have hx : src.items[k]? = some src.items[k] := List.getElem?_eq_getElem hlt
    generalize src.items[k] = x at hx hT
    refine wpAny_mono (iter_next RS hA.1 IS hchk hx) (fun r s5 h5 => ?_) fun _ _ f => f.elim
    obtain ⟨v, rfl, st5, R5, I5, V5⟩ := h5
    have st05 := stS.trans' st5 fun b e => by subst e; exact .inr Is
    have D5 := DS.step st5 fun b o e => nI (e ▸ o)
    dsimp only
    refine own_go I5.at_ ?_
    refine wpAny_mono (it d x v _ loc' σ' s5 A hA R5 D5 V5 hT) (fun _ s6 h6 => ?_) fun _ _ f => f.elim
    obtain ⟨σ6, loc6, st6, R6, D6, h6⟩ := h6
    have I6 := I5.step st6 nI
    have st06 := st05.trans st6
    refine wpAny_mono (ia d _ loc6 σ6 s6 A hA R6 D6 h6) (fun f s7 h7 => ?_) fun _ _ f => f.elim
    obtain ⟨fl, σ7, loc7, st7, R7, D7, F, q⟩ := h7
    have st07 := st06.trans st7
    have I7 := I6.step st7 nI
    cases fl with
    | next => cases F; exact ⟨src.items.length + 1 - (k + 1), it_lt hlt, k + 1, σ7, loc7, rfl, hlt, st07, R7, D7, I7, q⟩
    | cont => cases F; exact ⟨src.items.length + 1 - (k + 1), it_lt hlt, k + 1, σ7, loc7, rfl, hlt, st07, R7, D7, I7, q⟩
    | brk => cases F; exact (PostS.next R7 D7 q).trans st07
    | ret v => obtain ⟨w, rfl, V⟩ := F; exact ⟨.ret v, σ7, loc7, st07, R7, D7, ⟨w, rfl, V⟩, q⟩
  · obtain rfl : k = src.items.length := Nat.le_antisymm hk (Nat.not_lt.mp hlt)
    rw [List.drop_length] at hc
    obtain ⟨hchk, hq⟩ := hc
    refine wpAny_mono (iter_end RS hA.1 IS hchk (by simp)) (fun r s5 h5 => ?_) fun _ _ f => f.elim
    obtain ⟨rfl, st5, R5⟩ := h5
    have st05 := stS.trans' st5 fun b e => by subst e; exact .inr Is
    have D5 := DS.step st5 fun b o e => nI (e ▸ o)
    exact wpAny_execs_nil ((PostS.next R5 D5 hq).trans st05)
end
end Mine
namespace Mine
theorem fold_py (N : Nm) (e : E) (env : Env) : ∀ x, foldedSetIterable (e.py N) env x = pure x := by intro x; cases e <;> rfl
theorem wf_and {a b : Bool} (h : (a && b) = true) : a = true ∧ b = true := by simpa using h
mutual
theorem sim_E {G : Gd} (O : GOk G) : ∀ (e : E) (C : Cx) (env : Env), EnvS C env → C.N.fn = G.fn ∧ C.N.gl = G.gl → e.wf C = true → EvE G C env e ∧ EvT G C env e
  | .none p, C, env, Sv, hN, wf => ⟨ev_none p, fun d k loc σ s A _ _ _ h => h.elim⟩
  | .bool b p, C, env, Sv, hN, wf => ⟨ev_bool b p, fun d k loc σ s A _ _ _ h => h.elim⟩
  | .int b p, C, env, Sv, hN, wf => ⟨ev_int b p, fun d k loc σ s A _ _ _ h => h.elim⟩
  | .byt b p, C, env, Sv, hN, wf => ⟨ev_byt b p, fun d k loc σ s A _ _ _ h => h.elim⟩
  | .loc i p, C, env, Sv, hN, wf => ⟨ev_loc Sv i p wf, et_loc i p (ev_loc Sv i p wf)⟩
  | .glob j p, C, env, Sv, hN, wf => ⟨ev_glob O Sv hN j p wf, fun d k loc σ s A _ _ _ h => h.elim⟩
  | .attr e x p, C, env, Sv, hN, wf => by
    have i := ev_attr O Sv hN e x p (sim_E O e C env Sv hN wf).1
    exact ⟨i, et_attr e x p i⟩
  | .sub e i p, C, env, Sv, hN, wf => by
    obtain ⟨w1, w2⟩ := wf_and wf
    exact ⟨ev_sub e i p (sim_E O e C env Sv hN w1).1 (sim_E O i C env Sv hN w2).1, fun d k loc σ s A _ _ _ h => h.elim⟩
  | .slTo e i q p, C, env, Sv, hN, wf => by
    obtain ⟨w1, w2⟩ := wf_and wf
    exact ⟨ev_slTo e i q p (sim_E O e C env Sv hN w1).1 (sim_E O i C env Sv hN w2).1, fun d k loc σ s A _ _ _ h => h.elim⟩
  | .slFrom e i q p, C, env, Sv, hN, wf => by
    obtain ⟨w1, w2⟩ := wf_and wf
    exact ⟨ev_slFrom e i q p (sim_E O e C env Sv hN w1).1 (sim_E O i C env Sv hN w2).1, fun d k loc σ s A _ _ _ h => h.elim⟩
  | .bin op a b p, C, env, Sv, hN, wf => by
    obtain ⟨w1, w2⟩ := wf_and wf
    exact ⟨ev_bin op a b p (sim_E O a C env Sv hN w1).1 (sim_E O b C env Sv hN w2).1, fun d k loc σ s A _ _ _ h => h.elim⟩
  | .neg a p, C, env, Sv, hN, wf => ⟨ev_neg a p (sim_E O a C env Sv hN wf).1, fun d k loc σ s A _ _ _ h => h.elim⟩
  | .not a p, C, env, Sv, hN, wf => by
    have i := sim_E O a C env Sv hN wf
    exact ⟨ev_not a p i.1, et_not a p i.2⟩
  | .bop op a r p, C, env, Sv, hN, wf => by
    obtain ⟨w1, w2⟩ := wf_and wf
    have i := sim_E O a C env Sv hN w1
    have j := sim_EL O r C env Sv hN w2
    exact ⟨ev_bop op a r p i.1 j.2.1, et_bop op a r p i.2 j.2.2.1⟩
  | .cmp op a b p, C, env, Sv, hN, wf => by
    obtain ⟨w1, w2⟩ := wf_and wf
    have i := (sim_E O a C env Sv hN w1).1
    have j := (sim_E O b C env Sv hN w2).1
    exact ⟨ev_cmp O op a b p i j, et_cmp O op a b p i j⟩
  | .ite t a b p, C, env, Sv, hN, wf => by
    obtain ⟨w1, w3⟩ := wf_and wf
    obtain ⟨w1, w2⟩ := wf_and w1
    exact ⟨ev_ite t a b p (sim_E O t C env Sv hN w1).2 (sim_E O a C env Sv hN w2).1 (sim_E O b C env Sv hN w3).1, fun d k loc σ s A _ _ _ h => h.elim⟩
  | .list es p, C, env, Sv, hN, wf => ⟨ev_list es p (sim_EL O es C env Sv hN wf).1, fun d k loc σ s A _ _ _ h => h.elim⟩
  | .tup es k p, C, env, Sv, hN, wf => ⟨ev_tup es k p (sim_EL O es C env Sv hN wf).1, fun d k loc σ s A _ _ _ h => h.elim⟩
  | .dict0 p, C, env, Sv, hN, wf => ⟨ev_dict0 p, fun d k loc σ s A _ _ _ h => h.elim⟩
  | .call f args p, C, env, Sv, hN, wf => by
    obtain ⟨w1, w3⟩ := wf_and wf
    obtain ⟨w1, w2⟩ := wf_and w1
    have i := ev_call f args p w1 (sim_E O f C env Sv hN w2).1 (sim_EL O args C env Sv hN w3).1
    exact ⟨i, et_call f args p i⟩
  | .meth o x args ap p, C, env, Sv, hN, wf => by
    obtain ⟨w1, w4⟩ := wf_and wf
    obtain ⟨w1, w3⟩ := wf_and w1
    obtain ⟨w1, w2⟩ := wf_and w1
    have i := ev_meth O Sv hN o x args ap p (of_decide_eq_true w3) w4 (sim_E O o C env Sv hN w1).1 (sim_EL O args C env Sv hN w2).1
    exact ⟨i, et_meth o x args ap p i⟩
  | .comp elt i pt it ifs sc p, C, env, Sv, hN, wf => by
    obtain ⟨w1, w4⟩ := wf_and wf
    obtain ⟨w1, w3⟩ := wf_and w1
    obtain ⟨w1, w2⟩ := wf_and w1
    exact ⟨ev_comp O Sv w2 (sim_E O it C env Sv hN w1).1 (fun env' S => (sim_E O elt (C.inner i sc) env' S hN w3).1) (fun env' S => (sim_EL O ifs (C.inner i sc) env' S hN w4).2.2.2) (fold_py C.N it env), fun d k loc σ s A _ _ _ h => h.elim⟩
theorem sim_EL {G : Gd} (O : GOk G) : ∀ (e : EL) (C : Cx) (env : Env), EnvS C env → C.N.fn = G.fn ∧ C.N.gl = G.gl → e.wf C = true → EvL G C env e ∧ EvO G C env e ∧ EvC G C env e ∧ EvF G C env e
  | .nil, C, env, Sv, hN, wf => ⟨el_nil, eo_nil, ec_nil, ef_nil⟩
  | .cons e r, C, env, Sv, hN, wf => by
    obtain ⟨w1, w2⟩ := wf_and wf
    have i := sim_E O e C env Sv hN w1
    have j := sim_EL O r C env Sv hN w2
    exact ⟨el_cons e r i.1 j.1, eo_cons e r i.1 j.2.1, ec_cons e r i.2 j.2.2.1, ef_cons e r i.2 j.2.2.2⟩
end
theorem sim_T {G : Gd} (O : GOk G) (t : T) (C : Cx) (env : Env) (Sv : EnvS C env) (hN : C.N.fn = G.fn ∧ C.N.gl = G.gl) (wf : t.wf C = true) : EvA G C env t := by
  cases t with
  | loc i p => exact ea_loc Sv i p wf
  | attr e x p => exact ea_attr O hN e x p (sim_E O e C env Sv hN wf).1
  | sub e i p =>
    obtain ⟨w1, w2⟩ := wf_and wf
    exact ea_sub O e i p (sim_E O e C env Sv hN w1).1 (sim_E O i C env Sv hN w2).1
  | tup is k p => exact ea_tup Sv is k p wf
theorem sim_assign {G : Gd} (O : GOk G) (t : T) (e : E) (p : Pos) (C : Cx) (env : Env) (Sv : EnvS C env) (hN : C.N.fn = G.fn ∧ C.N.gl = G.gl) (w1 : t.wf C = true) (w2 : e.wf C = true) (w3 : (!t.isTup || !e.isTup) = true) : EvS G C env (.assign t e p) := by
  have it := sim_T O t C env Sv hN w1
  have ie := (sim_E O e C env Sv hN w2).1
  cases t with
  | loc i pi =>
    by_cases hc : ∃ elt j pj itr ifs sc pc, e = .comp elt j pj itr ifs sc pc
    · obtain ⟨elt, j, pj, itr, ifs, sc, pc, rfl⟩ := hc
      obtain ⟨v1, v4⟩ := wf_and w2
      obtain ⟨v1, v3⟩ := wf_and v1
      obtain ⟨v1, v2⟩ := wf_and v1
      have hb : ∃ b, swapsWith ((E.comp elt j pj itr ifs sc pc).py C.N) (some (.Name (C.N.n i) pi)) p.line env = pure b := ⟨_, rfl⟩
      obtain ⟨b, hb⟩ := hb
      cases b with
      | true => exact es_comp O Sv i pi w1 p v2 (sim_E O itr C env Sv hN v1).1 (fun env' S => (sim_E O elt (C.inner j sc) env' S hN v3).1) (fun env' S => (sim_EL O ifs (C.inner j sc) env' S hN v4).2.2.2) (fold_py C.N itr env) hb
      | false => exact es_gen _ _ p it ie hb rfl rfl
    · refine es_gen _ _ p it ie ?_ rfl rfl
      cases e <;> first | rfl | exact absurd ⟨_, _, _, _, _, _, _, rfl⟩ hc
  | attr o x pi => exact es_gen _ _ p it ie (by cases e <;> rfl) rfl rfl
  | sub o x pi => exact es_gen _ _ p it ie (by cases e <;> rfl) rfl rfl
  | tup is k pi =>
    have he : e.isTup = false := by simpa [T.isTup] using w3
    exact es_gen _ _ p it ie (by cases e <;> rfl) (by cases e <;> first | rfl | (cases he)) rfl
mutual
theorem sim_S {G : Gd} (O : GOk G) : ∀ (t : S) (C : Cx) (env : Env), EnvS C env → C.N.fn = G.fn ∧ C.N.gl = G.gl → t.wf C = true → EvS G C env t
  | .expr e p, C, env, Sv, hN, wf => by
    obtain ⟨w1, w2⟩ := wf_and wf
    exact es_expr Sv e p (by simpa using w2) (sim_E O e C env Sv hN w1).1
  | .assign t e p, C, env, Sv, hN, wf => by
    obtain ⟨w1, w3⟩ := wf_and wf
    obtain ⟨w1, w2⟩ := wf_and w1
    exact sim_assign O t e p C env Sv hN w1 w2 w3
  | .augL i pi op e p, C, env, Sv, hN, wf => by
    obtain ⟨w1, w3⟩ := wf_and wf
    obtain ⟨w1, w2⟩ := wf_and w1
    exact es_augL Sv i pi op e p w1 w3 (sim_E O e C env Sv hN w2).1 (ev_loc Sv i pi w1)
  | .augA o x pt op e p, C, env, Sv, hN, wf => by
    obtain ⟨w1, w3⟩ := wf_and wf
    obtain ⟨w1, w2⟩ := wf_and w1
    exact es_augA O hN o x pt op e p w3 (sim_E O o C env Sv hN w1).1 (sim_E O e C env Sv hN w2).1
  | .augI o i ps op e p, C, env, Sv, hN, wf => by
    obtain ⟨w1, w4⟩ := wf_and wf
    obtain ⟨w1, w3⟩ := wf_and w1
    obtain ⟨w1, w2⟩ := wf_and w1
    exact es_augI O o i ps op e p w4 (sim_E O o C env Sv hN w1).1 (sim_E O i C env Sv hN w2).1 (sim_E O e C env Sv hN w3).1
  | .if_ t a b p, C, env, Sv, hN, wf => by
    obtain ⟨w1, w3⟩ := wf_and wf
    obtain ⟨w1, w2⟩ := wf_and w1
    exact es_if t a b p (sim_E O t C env Sv hN w1).2 (sim_B O a C env Sv hN w2) (sim_B O b C env Sv hN w3)
  | .while_ t a p, C, env, Sv, hN, wf => by
    obtain ⟨w1, w2⟩ := wf_and wf
    exact es_while t a p (sim_E O t C env Sv hN w1).2 (sim_B O a C env Sv hN w2)
  | .for_ t e a p, C, env, Sv, hN, wf => by
    obtain ⟨w1, w3⟩ := wf_and wf
    obtain ⟨w1, w2⟩ := wf_and w1
    exact es_for O t e a p (sim_T O t C env Sv hN w1) (sim_E O e C env Sv hN w2).1 (sim_B O a C env Sv hN w3) (fold_py C.N e env)
  | .ret e p, C, env, Sv, hN, wf => es_ret e p (sim_E O e C env Sv hN wf).1
  | .brk p, C, env, Sv, hN, wf => es_brk p
  | .cont p, C, env, Sv, hN, wf => es_cont p
  | .try_ a hs p, C, env, Sv, hN, wf => es_try a hs p (sim_B O a C env Sv hN wf)
  | .raw s, C, env, Sv, hN, wf => fun d Q loc σ s A _ _ _ h => h.elim
theorem sim_B {G : Gd} (O : GOk G) : ∀ (t : SL) (C : Cx) (env : Env), EnvS C env → C.N.fn = G.fn ∧ C.N.gl = G.gl → t.wf C = true → EvB G C env t
  | .nil, C, env, Sv, hN, wf => eb_nil
  | .cons a r, C, env, Sv, hN, wf => by
    obtain ⟨w1, w2⟩ := wf_and wf
    exact eb_cons a r (sim_S O a C env Sv hN w1) (sim_B O r C env Sv hN w2)
end
end Mine
namespace Mine
structure Fn where
  a : Addr
  fd : FuncData
  C : Cx
  body : SL
  n : Nat
structure FnOk (G : Gd) (F : Fn) : Prop where
  look : ∃ oc od osl, G.K.lookup F.a = some ⟨oc, od, .func F.fd, osl⟩
  code : codeIn G.K F.fd.code F.fd.qualname = true
  stmts : F.fd.body = .stmts (F.body.py F.C.N)
  scope : F.fd.scope = F.C.sc
  glob : F.fd.globals = mainGlobals ∧ F.fd.builtins = builtinsNs ∧ F.fd.closure = []
  co : F.fd.scope.isCoroutine = false ∧ F.fd.scope.isGenerator = false ∧ F.fd.scope.kind = .function
  ok : F.C.ok = true
  cells : (F.C.sc.names.all fun x => x.2 != .cell || ((cellsFrom 0 F.C.sc.names []).lookup x.1).isSome) = true
  wf : F.body.wf F.C = true
  N : F.C.N.fn = G.fn ∧ F.C.N.gl = G.gl
  sees : ((List.range F.n).all fun i => F.C.sees i) = true
  bind : ∀ vs : List Value, vs.length = F.n → bindArgs F.fd ⟨vs, []⟩ = pure (((List.range F.n).map F.C.N.n).zip vs)
noncomputable def Fn.loc0 (F : Fn) (vs : List SV) : Loc := vs.map some ++ List.replicate (F.C.acc.length - vs.length) none
noncomputable def retK (Q : SV → SH → Prop) : Fl → Loc → SH → Prop := fun fl _ σ => match fl with
  | .ret v => Q v σ
  | .next => Q .none σ
  | _ => False
theorem lookup_isSome {β : Type} : ∀ {l : List (Str × β)} {x : Str}, (l.lookup x).isSome = true ↔ x ∈ l.map (·.1)
  | [], x => by simp
  | (y, w) :: l, x => by
    rw [List.lookup_cons, List.map_cons, List.mem_cons, ← lookup_isSome]
    cases hb : x == y with
    | true => simp [beq_iff_eq.mp hb]
    | false =>
      have := beq_eq_false_iff_ne.mp hb
      simp [this]
theorem cells_any {names : List (Str × NameKind)} (h : (names.all fun x => x.2 != .cell || ((cellsFrom 0 names []).lookup x.1).isSome) = true) (n : Nat) {x : Str} (hx : names.lookup x = some .cell) :
    ∃ c, (cellsFrom n names []).lookup x = some c := by
  have := List.all_eq_true.mp h _ (lookup_mem hx)
  simp only [bne_self_eq_false, Bool.false_or] at this
  rw [lookup_isSome, cellsFrom_names names 0 n [] [] rfl, ← lookup_isSome] at this
  exact Option.isSome_iff_exists.mp this
theorem bindL_keep (kindOf : Str → Option NameKind) : ∀ (l : List (Str × Value)) (m : Str → Option Value) (x : Str), x ∉ l.map (·.1) → bindL kindOf l m x = m x
  | [], m, x, _ => rfl
  | (n, v) :: l, m, x, h => by
    rw [List.map_cons, List.mem_cons, not_or] at h
    unfold bindL
    rw [bindL_keep kindOf l _ x h.2]
    split
    · exact if_neg h.1
    · rfl
theorem bindL_at (kindOf : Str → Option NameKind) : ∀ (l : List (Str × Value)) (m : Str → Option Value) (x : Str) (v : Value), (l.map (·.1)).Nodup → (x, v) ∈ l → kindOf x = some .local → bindL kindOf l m x = some v
  | [], m, x, v, _, h, _ => by cases h
  | (n, w) :: l, m, x, v, nd, h, hk => by
    rw [List.map_cons, List.nodup_cons] at nd
    unfold bindL
    rcases List.mem_cons.mp h with e | h
    · cases e
      rw [bindL_keep kindOf l _ _ nd.1, if_pos hk]
      simp
    · exact bindL_at kindOf l _ x v nd.2 h hk
theorem bindC_keep (kindOf : Str → Option NameKind) : ∀ (l : List (Str × Value)) (m : Str → Option Value) (x : Str), x ∉ l.map (·.1) → bindC kindOf l m x = m x
  | [], m, x, _ => rfl
  | (n, v) :: l, m, x, h => by
    rw [List.map_cons, List.mem_cons, not_or] at h
    unfold bindC
    rw [bindC_keep kindOf l _ x h.2]
    split
    · rfl
    · exact if_neg h.1
theorem bindC_at (kindOf : Str → Option NameKind) : ∀ (l : List (Str × Value)) (m : Str → Option Value) (x : Str) (v : Value), (l.map (·.1)).Nodup → (x, v) ∈ l → kindOf x = some .cell → bindC kindOf l m x = some v
  | [], m, x, v, _, h, _ => by cases h
  | (n, w) :: l, m, x, v, nd, h, hk => by
    rw [List.map_cons, List.nodup_cons] at nd
    unfold bindC
    rcases List.mem_cons.mp h with e | h
    · cases e
      rw [bindC_keep kindOf l _ _ nd.1, if_neg (by rw [hk]; simp)]
      simp
    · exact bindC_at kindOf l _ x v nd.2 h hk
theorem Ok.deeper {d : Nat} {A : Around} (h : Ok (d + 1) A) (env : Env) : Ok d (A.deeper env) := by
  obtain ⟨h1, h2, h3⟩ := h
  refine ⟨h1, ?_, ?_⟩
  · show A.depth + 1 + 4 * d < _
    omega
  · show A.units + 3 + 100 * d + 60 < _
    omega
section
variable {G : Gd} {σ : SH} {s : Shared}
theorem loc0_at {F : Fn} {vs : List SV} {i : Nat} {sv : SV} (h : (F.loc0 vs)[i]? = some (some sv)) : vs[i]? = some sv := by
  unfold Fn.loc0 at h
  rw [List.getElem?_append] at h
  split at h
  · rw [List.getElem?_map] at h
    cases z : vs[i]? with
    | none => rw [z] at h; cases h
    | some q => rw [z] at h; cases h; rfl
  · rw [List.getElem?_replicate] at h
    split at h <;> cases h
theorem call_fn (O : GOk G) {F : Fn} (K : FnOk G F) {d : Nat} {vs : List SV} {Q : SV → SH → Prop} (hn : vs.length = F.n) (h : wpB G d F.body (retK Q) (F.loc0 vs) σ) : CallC G (d + 1) (.ref F.a) vs Q σ := by
  obtain ⟨oc, od, osl, hlook⟩ := K.look
  refine ⟨fun h hb => keeps_K (K := G.K) (by delta keepIn; dsimp only; rw [hlook]) h (O.kin.keeps hb), fun A s args hA R V => ?_⟩
  have X : G.K.In s.heap := O.kin.keeps R.base
  have hlim : s.heap.NoLimit := O.lim.keeps R.base
  have hlen : args.length = F.n := V.length.trans hn
  have names0 : ((List.range F.n).map F.C.N.n).Nodup := by
    have : ∀ i j, F.C.sees i = true → F.C.sees j = true → F.C.N.n i = F.C.N.n j → i = j := by
      intro i j hi hj e
      have hok := K.ok
      unfold Cx.ok at hok
      simp only [Bool.and_eq_true, List.all_eq_true, List.mem_range] at hok
      obtain ⟨⟨⟨h1, h2⟩, h3⟩, h4⟩ := hok
      have lt : ∀ i, F.C.sees i = true → i < F.C.acc.length := fun i h => by
        unfold Cx.sees at h
        refine Decidable.byContradiction fun n => ?_
        rw [List.getD_eq_getElem?_getD, List.getElem?_eq_none (Nat.not_lt.mp n)] at h
        cases h
      have z := h2 i (lt i hi)
      simp only [hi, Bool.not_true, Bool.false_or] at z
      unfold Cx.okAt at z
      simp only [Bool.and_eq_true, List.all_eq_true, List.mem_range] at z
      have z := z.2 j (lt j hj)
      simpa [hj, e] using z
    refine List.Pairwise.map _ (fun i j (hij : i < F.n ∧ j < F.n ∧ i ≠ j) e => hij.2.2 (this i j (List.all_eq_true.mp K.sees i (List.mem_range.mpr hij.1)) (List.all_eq_true.mp K.sees j (List.mem_range.mpr hij.2.1)) e)) ?_
    refine List.Pairwise.imp_of_mem (fun {i j} hi hj hij => ⟨List.mem_range.mp hi, List.mem_range.mp hj, hij⟩) (List.nodup_range (n := F.n))
  have kd : ∀ L x, (callEnvC F.fd L F.a).kindOf x = F.C.sc.names.lookup x := fun L x => by
    show F.fd.scope.names.lookup x = _
    rw [K.scope]
  have binds1 : (((List.range F.n).map F.C.N.n).zip args).map (·.1) = (List.range F.n).map F.C.N.n := by
    rw [List.map_fst_zip]
    rw [List.length_map, List.length_range, hlen]; exact Nat.le_refl _
  refine codeAny_call_cells (by have := hA.2.1; omega) (X _ _ hlook) rfl hlim (codeRec_of X K.code) K.stmts (K.bind args hlen) K.glob.2.2 (fun x hx => ?_) (fun s1 I => ?_) K.co.1 K.co.2.1 K.co.2.2
  · have hx' : x.1 ∈ (List.range F.n).map F.C.N.n := binds1 ▸ List.mem_map_of_mem hx
    obtain ⟨i, hi, e⟩ := List.mem_map.mp hx'
    have hs := List.all_eq_true.mp K.sees i hi
    have hok := K.ok
    unfold Cx.ok at hok
    simp only [Bool.and_eq_true, List.all_eq_true, List.mem_range] at hok
    have lt : i < F.C.acc.length := by
      unfold Cx.sees at hs
      refine Decidable.byContradiction fun n => ?_
      rw [List.getD_eq_getElem?_getD, List.getElem?_eq_none (Nat.not_lt.mp n)] at hs
      cases hs
    have z := hok.1.1.2 i lt
    simp only [hs, Bool.not_true, Bool.false_or] at z
    unfold Cx.okAt at z
    simp only [Bool.and_eq_true, Bool.or_eq_true, beq_iff_eq] at z
    rw [K.scope, ← e]
    rcases z.1.1 with q | q
    · exact .inl q
    · obtain ⟨c, hc⟩ := cells_any K.cells (s.heap.objs.size + 1) q
      exact .inr ⟨q, by rw [hc]; rfl⟩
  · generalize hL : s.heap.objs.size = L at I
    have e0 : (callEnvC F.fd L F.a).cells = cellsFrom (L + 1) F.C.sc.names [] := by show cellsFrom (L + 1) F.fd.scope.names [] = _; rw [K.scope]
    have hLs : L = s.heap.objs.size := hL.symm
    have Sv : EnvS F.C (callEnvC F.fd L F.a) := by
      refine EnvS.of K.ok (by show F.fd.scope.names = _; rw [K.scope]) K.co.2.2 K.glob.1 K.glob.2.1 (fun x hx => ?_) (fun x y c e1 e2 => name_of_addr I.apart (mem_of_lookup e1) (mem_of_lookup e2)) (fun x c e => Nat.ne_of_gt (I.above x c (mem_of_lookup e)))
      rw [e0]; exact cells_any K.cells _ hx
    obtain ⟨h', tk, rfl, hk⟩ := I.done
    obtain ⟨st, R1⟩ := grow R (h' := h') tk hk
    have V1 := V.mono st.tup
    have fr : ∀ b, Own (callEnvC F.fd L F.a) b → s.heap.get? b = none := by
      intro b hb
      have : s.heap.objs.size ≤ b := by
        rcases hb with rfl | ⟨x, hc⟩
        · exact Nat.le_of_eq hL
        · have := I.above x b (mem_of_lookup hc)
          exact Nat.le_of_lt (hLs ▸ this)
      cases z : s.heap.get? b with
      | none => rfl
      | some o => exact absurd (lt_size_of z) (Nat.not_lt.mpr this)
    have D : Dyn G F.C (callEnvC F.fd L F.a) σ (F.loc0 vs) { s with heap := h', toks := tk } := by
      have pair : ∀ i sv, (F.loc0 vs)[i]? = some (some sv) → ∃ v, (F.C.N.n i, v) ∈ (((List.range F.n).map F.C.N.n).zip args) ∧ VR h' sv v := by
        intro i sv e
        have e := loc0_at e
        obtain ⟨v, g1, g2⟩ := V1.get e
        refine ⟨v, ?_, g2⟩
        have hi : i < F.n := by rw [← hlen]; exact (List.getElem?_eq_some_iff.mp g1).1
        refine List.mem_of_getElem? (i := i) ?_
        rw [List.getElem?_zip_eq_some]
        exact ⟨by rw [List.getElem?_map, List.getElem?_range hi]; rfl, g1⟩
      refine ⟨⟨_, I.toInCall.ns, fun i sv hi hki e => ?_⟩, fun x c hc => ⟨_, I.cell x c hc, fun i sv hi hn hki e => ?_⟩, fun b hb => ⟨?_, fun f => ?_, ?_⟩⟩
      · obtain ⟨v, m, g⟩ := pair i sv e
        exact ⟨v, bindL_at _ _ _ _ v (by rw [binds1]; exact names0) m hki, g⟩
      · obtain ⟨v, m, g⟩ := pair i sv e
        subst hn
        exact ⟨v, bindC_at _ _ _ _ v (by rw [binds1]; exact names0) m hki, g⟩
      · rcases hb with rfl | ⟨x, hc⟩
        · obtain ⟨_, _, _, e, _⟩ := I.toInCall.ns; exact fun z => (by cases e.symm.trans z)
        · obtain ⟨_, e, _⟩ := I.cell x b hc; exact fun z => (by rw [e] at z; cases z)
      · obtain ⟨o, e, _⟩ := f.cls R
        rw [fr b hb] at e; cases e
      · cases z : G.H0.get? b with
        | none => rfl
        | some o => have := R.base _ _ z; rw [fr b hb] at this; cases this
    refine wpAny_mono (sim_B O F.body F.C _ Sv K.N K.wf d _ _ σ _ _ (hA.deeper _) R1 D h) (fun f s2 h2 => ?_) fun _ _ f => f.elim
    obtain ⟨fl, σ2, loc2, st2, R2, D2, Fl, q⟩ := h2
    have st02 := st.trans' st2 fun b hb => .inr (fr b hb)
    cases fl with
    | next => cases Fl; exact ⟨_, rfl, .none, σ2, st02, R2, rfl, q⟩
    | brk => exact q.elim
    | cont => exact q.elim
    | ret v => obtain ⟨w, rfl, V⟩ := Fl; exact ⟨_, rfl, v, σ2, st02, R2, V, q⟩
end
end Mine
namespace Mine
theorem tc_weight (C : Addr) (rest : List Value) : (Code.builtin "type.__call__" ⟨.ref C :: rest, []⟩).weight ≤ 3 := by
  have : (Code.builtin "type.__call__" ⟨.ref C :: rest, []⟩).weight = 1 := by rfl
  omega
theorem tc_units (C : Addr) (rest : List Value) : (Code.builtin "type.__call__" ⟨.ref C :: rest, []⟩).cUnits ≤ 3 := by
  have : (Code.builtin "type.__call__" ⟨.ref C :: rest, []⟩).cUnits = 1 := by rfl
  omega
theorem Ok.under {d : Nat} {A : Around} (h : Ok (d + 1) A) {c : Code} (h1 : c.weight ≤ 3) (h2 : c.cUnits ≤ 3) : Ok d (A.under c) := by
  obtain ⟨a, b, e⟩ := h
  refine ⟨a, ?_, ?_⟩
  · show A.depth + c.weight + 4 * d < _; omega
  · show A.units + c.cUnits + 100 * d + 60 < _; omega
section
variable {G : Gd} {σ : SH} {s : Shared}
theorem new_inst (R : Rep G σ s) {C : Addr} (hC : C ∈ G.cls) : σ s.heap.objs.size = none ∧ σ (s.heap.objs.size + 1) = none ∧
    Step (fun _ => False) σ s (upd σ (s.heap.objs.size + 1) (.inst C s.heap.objs.size fun _ => none)) { s with heap := (s.heap.push emptyDict).push (instObj C s.heap.objs.size) } ∧
    Rep G (upd σ (s.heap.objs.size + 1) (.inst C s.heap.objs.size fun _ => none)) { s with heap := (s.heap.push emptyDict).push (instObj C s.heap.objs.size) } := by
  obtain ⟨f1, f2, f3⟩ := fresh_none R
  have out : ∀ b, s.heap.objs.size ≤ b → s.heap.get? b = none := fun b hb => by
    cases z : s.heap.get? b with
    | none => rfl
    | some o => exact absurd (lt_size_of z) (Nat.not_lt.mpr hb)
  have out0 : ∀ b, s.heap.objs.size ≤ b → G.H0.get? b = none := fun b hb => by
    cases z : G.H0.get? b with
    | none => rfl
    | some o => have := R.base _ _ z; rw [out b hb] at this; cases this
  have s1 : σ (s.heap.objs.size + 1) = none := by
    cases z : σ (s.heap.objs.size + 1) with
    | none => rfl
    | some o =>
      obtain ⟨ob, e, _⟩ := Foot.cls R (.inl ⟨o, z⟩)
      rw [out _ (Nat.le_succ _)] at e; cases e
  have k : ∀ b o, s.heap.get? b = some o → ((s.heap.push emptyDict).push (instObj C s.heap.objs.size)).get? b = some o := fun b o e => Heap.get?_push_of_some _ (Heap.get?_push_of_some _ e)
  have hx : ((s.heap.push emptyDict).push (instObj C s.heap.objs.size)).get? (s.heap.objs.size + 1) = some (instObj C s.heap.objs.size) := by heap_get
  have hd : ((s.heap.push emptyDict).push (instObj C s.heap.objs.size)).get? s.heap.objs.size = some emptyDict := by heap_get
  obtain ⟨st, R'⟩ := put_inst R s.toks (h' := (s.heap.push emptyDict).push (instObj C s.heap.objs.size)) (a := s.heap.objs.size + 1) (c := C) (d := s.heap.objs.size) (m := fun _ => none)
    (.inl ⟨out _ (Nat.le_succ _), out0 _ (Nat.le_succ _), out _ (Nat.le_refl _), out0 _ (Nat.le_refl _), Nat.succ_ne_self _⟩) (fun b ob _ _ e => k b ob e)
    ⟨hC, hx, [], 0, hd, [], rfl, List.nodup_nil, (fun _ h => by cases h), fun x => rfl⟩
  exact ⟨f1, s1, st, R'⟩
theorem call_cls (O : GOk G) {C fI : Addr} (hC : C ∈ G.cls) (hm : makesIn G.K C = true) (hi : findIn G.K (.ref C) "__init__" = some (some (.ref fI))) (hf : isFn G.K (.ref fI) = true) (hk : keepIn G.K (.ref C) = true)
    {d : Nat} {vs : List SV} {Q : SV → SH → Prop} (h : ∀ a dd, σ a = none → σ dd = none → dd ≠ a → CallC G d (.ref fI) (.ref a :: vs) (fun v σ' => v = .none ∧ Q (.ref a) σ') (upd σ a (.inst C dd fun _ => none))) :
    CallC G (d + 1) (.ref C) vs Q σ := by
  refine ⟨fun h hb => keeps_K (K := G.K) hk h (O.kin.keeps hb), fun A s args hA R V => ?_⟩
  have X : G.K.In s.heap := O.kin.keeps R.base
  obtain ⟨f1, s1, st, R'⟩ := new_inst R hC
  have hc := (h (s.heap.objs.size + 1) s.heap.objs.size s1 f1 (Nat.ne_of_lt (Nat.lt_succ_self _))).2
  obtain ⟨hh, g, dr, t, os⟩ := s
  refine make_core (makes_of X hm) (looks_findIn X hi) (fun self => bind_fn X self (beq_iff_eq.mp hf)) (.inl rfl) ?_
  refine codeAny_mono (hc (A.under (.builtin "type.__call__" ⟨.ref C :: args, []⟩)) _ (.ref (hh.objs.size + 1) :: args) (hA.under (tc_weight _ _) (tc_units _ _)) R' ⟨_, _, rfl, rfl, V.mono st.tup⟩) fun r s2 h2 => ?_
  obtain ⟨v, rfl, sv, σ2, st2, R2, V2, rfl, q⟩ := h2
  refine ⟨V2, _, rfl, .ref (hh.objs.size + 1), σ2, st.trans st2, R2, rfl, q⟩
theorem call_cls0 (O : GOk G) {C : Addr} (hC : C ∈ G.cls) (hm : makesIn G.K C = true) (hi : findIn G.K (.ref C) "__init__" = some (some (.builtin "object.__init__"))) (hk : keepIn G.K (.ref C) = true)
    {d : Nat} {Q : SV → SH → Prop} (h : ∀ a dd, σ a = none → σ dd = none → dd ≠ a → Q (.ref a) (upd σ a (.inst C dd fun _ => none))) :
    CallC G (d + 1) (.ref C) [] Q σ := by
  refine ⟨fun h hb => keeps_K (K := G.K) hk h (O.kin.keeps hb), fun A s args hA R V => ?_⟩
  cases V
  have X : G.K.In s.heap := O.kin.keeps R.base
  obtain ⟨f1, s1, st, R'⟩ := new_inst R hC
  have q := h (s.heap.objs.size + 1) s.heap.objs.size s1 f1 (Nat.ne_of_lt (Nat.lt_succ_self _))
  obtain ⟨hh, g, dr, t, os⟩ := s
  have Y := makes_of (M := model G.prog G.w) X hm
  have hx : ((hh.push emptyDict).push (instObj C hh.objs.size)).get? (hh.objs.size + 1) = some (instObj C hh.objs.size) := by heap_get
  refine make_core Y (looks_findIn X hi) (fun self => Looks.of_pure (oi_bind self)) (.inr ⟨rfl, rfl⟩) ?_
  have t1 : Looks (model G.prog G.w) ((hh.push emptyDict).push (instObj C hh.objs.size)) (typeOf (.ref (hh.objs.size + 1))) (.ref C) := (Looks.ld hx).andThen .now
  have t2 : Looks (model G.prog G.w) ((hh.push emptyDict).push (instObj C hh.objs.size)) (isInstance (.ref (hh.objs.size + 1)) (.type "object")) true := t1.andThen (Y.top.keeps fun b o e => Heap.get?_push_of_some _ (Heap.get?_push_of_some _ e))
  refine codeAny_call_builtin oi_plain entry_oi (@check_slot (model G.prog G.w) _ _ _ "object.__init__" "object" "__init__" (.ref (hh.objs.size + 1)) [] [] _ oi_kind oi_split t2 (oi_args (.ref (hh.objs.size + 1))) ?_)
  rw [oi_run]
  exact wpAny_pure (And.intro rfl ⟨Value.ref (hh.objs.size + 1), rfl, SV.ref (hh.objs.size + 1), _, st, R', rfl, q⟩)
end
end Mine
namespace Mine
section
variable {G : Gd} {d : Nat} {σ : SH} {Q : SV → SH → Prop}
theorem keep_b (i : String) : Keep G (.builtin i) := fun h _ => ⟨.machine, .inr (.inl rfl), Looks.of_pure rfl⟩
theorem keep_t (i : String) : Keep G (.type i) := fun h _ => ⟨.machine, .inr (.inl rfl), Looks.of_pure rfl⟩
theorem VRs.one_inv {h : Heap} {x : SV} {vs : List Value} (e : VRs h [x] vs) : ∃ v, vs = [v] ∧ VR h x v := by
  obtain ⟨v, r, rfl, e1, e2⟩ := e; cases e2; exact ⟨v, rfl, e1⟩
theorem VRs.two_inv {h : Heap} {x y : SV} {vs : List Value} (e : VRs h [x, y] vs) : ∃ v w, vs = [v, w] ∧ VR h x v ∧ VR h y w := by
  obtain ⟨v, r, rfl, e1, e2⟩ := e
  obtain ⟨w, rfl, e3⟩ := e2.one_inv
  exact ⟨v, w, rfl, e1, e3⟩
theorem VRs.three_inv {h : Heap} {x y z : SV} {vs : List Value} (e : VRs h [x, y, z] vs) : ∃ u v w, vs = [u, v, w] ∧ VR h x u ∧ VR h y v ∧ VR h z w := by
  obtain ⟨v, r, rfl, e1, e2⟩ := e
  obtain ⟨a, b, rfl, e3, e4⟩ := e2.two_inv
  exact ⟨v, a, b, rfl, e1, e3, e4⟩
theorem f_len {a : Addr} {l : List SV} (h : σ a = some (.list l)) (hz : l.length ≤ 1000000) (q : Q (.int l.length) σ) : CallF G d (.builtin "len") [.ref a] Q σ := by
  refine ⟨keep_b _, fun A s args hA R V => ?_⟩
  obtain ⟨v, rfl, V1⟩ := V.one_inv
  have V1 : v = .ref a := V1
  subst V1
  obtain ⟨vs, n, g1, g2⟩ := R.objs _ _ h
  refine call_len_list (list_is g1) (by simp [g2.length]; omega) ?_
  rw [List.size_toArray, g2.length]
  exact Post.int R _ q
theorem f_lenb {b : Array UInt8} (hz : b.size ≤ 1000000) (q : Q (.int b.size) σ) : CallF G d (.builtin "len") [.byt b] Q σ := by
  refine ⟨keep_b _, fun A s args hA R V => ?_⟩
  obtain ⟨v, rfl, t, rfl⟩ := V.one_inv
  exact len_bytes (by omega) (Post.int R _ q)
theorem f_range1 {n : Int} (h1 : -1000000 ≤ n) (h2 : n ≤ 1000000) (q : Q (.rng 0 n.toNat 1) σ) : CallF G d (.type "range") [.int n] Q σ := by
  refine ⟨keep_t _, fun A s args hA R V => ?_⟩
  obtain ⟨v, rfl, t, rfl⟩ := V.one_inv
  refine call_range_1 ?_
  obtain ⟨st, R'⟩ := grow R (h' := s.heap.push { cls := .type "range", data := .fields #[.int 0 s.toks, .int n t, .int 1 (s.toks + 1)] }) (s.toks + 1 + 1) fun b o e => Heap.get?_push_of_some _ e
  exact ⟨.rng 0 n.toNat 1, σ, st, R', ⟨_, n, _, _, _, rfl, IsRange.new _ _ _ _ _ _ _, small_one (by omega) (by omega) (by omega) (by omega), by rw [rangeSize_one]; split <;> omega⟩, q⟩
theorem f_range2 {a b : Int} (h1 : -1000000 ≤ a) (h2 : a ≤ 1000000) (h3 : -1000000 ≤ b) (h4 : b ≤ 1000000) (q : Q (.rng a (b - a).toNat 1) σ) : CallF G d (.type "range") [.int a, .int b] Q σ := by
  refine ⟨keep_t _, fun A s args hA R V => ?_⟩
  obtain ⟨v, w, rfl, ⟨t, rfl⟩, ⟨u, rfl⟩⟩ := V.two_inv
  refine call_range_2 ?_
  obtain ⟨st, R'⟩ := grow R (h' := s.heap.push { cls := .type "range", data := .fields #[.int a t, .int b u, .int 1 s.toks] }) (s.toks + 1) fun b o e => Heap.get?_push_of_some _ e
  exact ⟨.rng a (b - a).toNat 1, σ, st, R', ⟨_, b, _, _, _, rfl, IsRange.new _ _ _ _ _ _ _, small_one (by omega) (by omega) (by omega) (by omega), by rw [rangeSize_one]; split <;> omega⟩, q⟩
theorem fits {x : Int} (h1 : -100000000 ≤ x) (h2 : x ≤ 100000000) : Builtin.Range.rangeFitsLong x = true := by
  unfold Builtin.Range.rangeFitsLong
  rw [Bool.and_eq_true, decide_eq_true_eq, decide_eq_true_eq]
  exact ⟨by omega, by omega⟩
theorem rangeSize_neg (a b : Int) : Builtin.Range.rangeSize a b (-1) = if b < a then a - b else 0 := by
  unfold Builtin.Range.rangeSize
  simp only [show ¬ ((-1 : Int) > 0) by decide, show ((-1 : Int) < 0) by decide, if_true, if_false]
  split <;> simp_all <;> omega
theorem f_range3 {a b : Int} (h1 : -1000000 ≤ a) (h2 : a ≤ 1000000) (h3 : -1000000 ≤ b) (h4 : b ≤ 1000000) (q : Q (.rng a (a - b).toNat (-1)) σ) : CallF G d (.type "range") [.int a, .int b, .int (-1)] Q σ := by
  refine ⟨keep_t _, fun A s args hA R V => ?_⟩
  obtain ⟨v, w, z, rfl, ⟨t, rfl⟩, ⟨u, rfl⟩, ⟨y, rfl⟩⟩ := V.three_inv
  refine call_range_3 (by decide) ?_ (.inl (PyProof.noPylong_small (by decide)))
  obtain ⟨st, R'⟩ := grow R (h' := s.heap.push { cls := .type "range", data := .fields #[.int a t, .int b u, .int (-1) y] }) s.toks fun b o e => Heap.get?_push_of_some _ e
  refine ⟨.rng a (a - b).toNat (-1), σ, st, R', ⟨_, b, _, _, _, rfl, IsRange.new _ _ _ _ _ _ _, ?_, by rw [rangeSize_neg]; split <;> omega⟩, q⟩
  unfold Builtin.Range.small
  rw [rangeSize_neg]
  have sz : -100000000 ≤ (if b < a then a - b else 0) ∧ (if b < a then a - b else 0) ≤ 100000000 := by split <;> omega
  rw [fits (by omega) (by omega), fits (by omega) (by omega), fits (by omega) (by omega), fits sz.1 sz.2, if_neg (show ¬ ((-1 : Int) > 0) by decide), fits (by omega) (by omega)]
  simp
theorem ints_are {h : Heap} : ∀ {ns : List Int} {vs : List Value}, VRs h (ns.map .int) vs → IntsAre vs ns
  | [], _, e => by cases e; exact .nil
  | n :: ns, _, e => by
    obtain ⟨v, r, rfl, ⟨t, rfl⟩, e2⟩ := e
    exact .cons n t (ints_are e2)
theorem f_sum {a : Addr} {ns : List Int} (h : σ a = some (.list (ns.map .int))) (q : Q (.int ns.sum) σ) : CallF G d (.builtin "sum") [.ref a] Q σ := by
  refine ⟨keep_b _, fun A s args hA R V => ?_⟩
  obtain ⟨v, rfl, V1⟩ := V.one_inv
  have V1 : v = .ref a := V1
  subst V1
  obtain ⟨vs, n, g1, g2⟩ := R.objs _ _ h
  have hi := ints_are g2
  obtain ⟨xs, hx⟩ := hi.allInts.items
  have e : numsOf vs.toArray.toList = ns := hi.numsOf
  rw [hx, nums_intItems] at e
  refine sum_intListG hA.1 (by rw [← hx]; exact list_is g1) fun h' tk t' hk => ?_
  obtain ⟨st, R'⟩ := grow R (h' := h') tk hk
  rw [preSum_eq, List.take_of_length_le (by simp), e]
  exact ⟨.int ns.sum, σ, st, R', ⟨_, rfl⟩, q⟩
theorem f_min2 {a b : Int} (q : Q (.int (if b < a then b else a)) σ) : CallF G d (.builtin "min") [.int a, .int b] Q σ := by
  refine ⟨keep_b _, fun A s args hA R V => ?_⟩
  obtain ⟨v, w, rfl, ⟨t, rfl⟩, ⟨u, rfl⟩⟩ := V.two_inv
  refine min_two_ints hA.1 fun h' tk hk => ?_
  obtain ⟨st, R'⟩ := grow R (h' := h') tk hk
  refine ⟨_, σ, st, R', ?_, q⟩
  split
  · exact ⟨_, rfl⟩
  · exact ⟨_, rfl⟩
theorem f_max2 {a b : Int} (q : Q (.int (if b > a then b else a)) σ) : CallF G d (.builtin "max") [.int a, .int b] Q σ := by
  refine ⟨keep_b _, fun A s args hA R V => ?_⟩
  obtain ⟨v, w, rfl, ⟨t, rfl⟩, ⟨u, rfl⟩⟩ := V.two_inv
  refine max_two_ints hA.1 fun h' tk hk => ?_
  obtain ⟨st, R'⟩ := grow R (h' := h') tk hk
  refine ⟨_, σ, st, R', ?_, q⟩
  split
  · exact ⟨_, rfl⟩
  · exact ⟨_, rfl⟩
theorem f_append {a : Addr} {l : List SV} {x : SV} (h : σ a = some (.list l)) (hz : l.length ≤ 1000000) (q : Q .none (upd σ a (.list (l ++ [x])))) : CallF G d (.builtin "list.append") [.ref a, x] Q σ := by
  refine ⟨keep_b _, fun A s args hA R V => ?_⟩
  obtain ⟨v, w, rfl, V1, W⟩ := V.two_inv
  have V1 : v = .ref a := V1
  subst V1
  obtain ⟨vs, nn, g1, g2⟩ := R.objs _ _ h
  refine wpAny_list_append_plain (items := vs.toArray) ⟨nn, g1⟩ (fun h9 pl sb => ?_) (by simp [g2.length, sizeLine_eq]; omega)
  obtain ⟨n9, pl⟩ := pl
  have tk9 : TupKeep s.heap h9 := fun b o e c => by
    by_cases z : b = a
    · subst z; rw [g1] at e; cases e; exact absurd c.1 (by simp)
    · exact (sb.2 b z).trans e
  obtain ⟨st9, R9⟩ := put_obj R (h' := h9) s.toks (a := a) (o := .list (l ++ [x])) (by intro c d m e; cases e) (.inr ⟨_, h, by intro c d m e; cases e⟩) (fun b ob n e => (sb.2 b n).trans e)
    ⟨vs ++ [w], n9, by rw [pl]; simp, (g2.mono tk9).append (VRs.one (W.mono tk9))⟩
  exact ⟨.none, _, st9, R9, rfl, q⟩
theorem f_insert {a : Addr} {l : List SV} {x : SV} {i : Int} (h : σ a = some (.list l)) (hz : l.length ≤ 1000000) (h0 : 0 ≤ i) (h1 : i ≤ l.length) (q : Q .none (upd σ a (.list (l.take i.toNat ++ x :: l.drop i.toNat)))) : CallF G d (.builtin "list.insert") [.ref a, .int i, x] Q σ := by
  refine ⟨keep_b _, fun A s args hA R V => ?_⟩
  obtain ⟨v, u, w, rfl, V1, ⟨t, rfl⟩, W⟩ := V.three_inv
  have V1 : v = .ref a := V1
  subst V1
  obtain ⟨vs, nn, g1, g2⟩ := R.objs _ _ h
  refine call_meets F.slot_list_insert (list_is g1).typeIs F.entry_list_insert (F.args_list_insert_3 _ _ _) (AutoListH.list_insert_list_int_val_1 a vs.toArray nn i t w ?_ (by simp [g2.length, sizeLine_eq]; omega)) ⟨g1, ?_⟩
  · simp [Builtin.List.listFitsIndex]; omega
  · have hf : (fun xs : Array Value => have k := if i < 0 then (i + ((xs.size : Nat) : Int)).toNat else min i.toNat xs.size; (xs.extract 0 k).push w ++ xs.extract k) vs.toArray = (vs.take i.toNat ++ w :: vs.drop i.toNat).toArray := by
      have e : ¬ i < 0 := by omega
      have e2 : min i.toNat vs.length = i.toNat := by rw [g2.length]; omega
      simp only [if_neg e, List.size_toArray, e2]
      apply Array.toList_inj.mp
      simp [List.take_of_length_le]
    obtain ⟨st, R'⟩ := put_list R (ys := l.take i.toNat ++ x :: l.drop i.toNat) g1 h (fun xs : Array Value => have k := if i < 0 then (i + ((xs.size : Nat) : Int)).toNat else min i.toNat xs.size; (xs.extract 0 k).push w ++ xs.extract k) _ hf ((g2.take _).append ⟨w, _, rfl, W, g2.drop _⟩) s.toks
    exact ⟨.none, _, st, R', rfl, q⟩
theorem f_get {a : Addr} {m : List (Int × SV)} {ep : Nat} {k : Int} {x : SV} (O : GOk G) (h : σ a = some (.dict m ep)) (q : Q ((mlook m k).getD x) σ) : CallF G d (.builtin "dict.get") [.ref a, .int k, x] Q σ := by
  refine ⟨keep_b _, fun A s args hA R V => ?_⟩
  obtain ⟨v, u, w, rfl, V1, ⟨t, rfl⟩, W⟩ := V.three_inv
  have V1 : v = .ref a := V1
  subst V1
  obtain ⟨vs, D, V⟩ := R.objs _ _ h
  refine call_meetsIn F.slot_dict_get (map_of D).typeIs F.entry_dict_get (F.args_dict_get_3 _ _ _) (meets_dict_get_default (intKind G.prog G.w) a (intKind_is _ _ k t) (not_sys R O.sys (.inl ⟨_, h⟩)) w) ⟨_, map_of D, ?_⟩
  have z := at_look k V
  cases e : mlook m k with
  | none =>
    rw [z.2 e]
    rw [e] at q
    exact Post.tok _ R W q
  | some sv =>
    obtain ⟨b, e1, e2⟩ := z.1 sv e
    rw [e1]
    rw [e] at q
    exact Post.tok _ R e2 q
end
end Mine
namespace Mine
section
variable {G : Gd} {d : Nat} {σ : SH} {Q : SV → SH → Prop}
theorem bools_are {h : Heap} : ∀ {ns : List Bool} {vs : List Value}, VRs h (ns.map .bool) vs → vs = ns.map .bool
  | [], _, e => by cases e; rfl
  | n :: ns, _, e => by
    obtain ⟨v, r, rfl, e1, e2⟩ := e
    have e1 : v = .bool n := e1
    rw [e1, bools_are e2]; rfl
theorem it_list {A : Around} {E : Value → Shared → Prop} {s : Shared} {l : Addr} {items : Array Value} {Q : Value → Shared → Prop} (hl : s.heap.IsList l items)
    (h : ∀ s₂ : Shared, s₂ = { s with heap := s.heap.push { cls := .type "list_iterator", data := .fields #[.ref l, .int 0 0] } } →
      (s₂.heap.IsListIter s.heap.objs.size l 0 ∧ s₂.heap.IsList l items) → (∀ b ∈ [s.heap.objs.size, l], b < s₂.heap.objs.size) → l ≠ s.heap.objs.size → Q (.ref s.heap.objs.size) s₂) :
    wpAny (model G.prog G.w) A (pyIter (.ref l)) Q E s := by
  have hlt : l < s.heap.objs.size := by obtain ⟨_, e, _⟩ := hl; exact Heap.lt_size e
  refine wpAny_pyIter_list hl (h _ rfl ⟨⟨_, Heap.get?_push_size _ rfl, rfl, rfl⟩, hl.push _⟩ (fun b hb => ?_) (Nat.ne_of_lt hlt))
  show b < (s.heap.push _).objs.size
  rw [Heap.size_push]
  rcases List.mem_cons.mp hb with rfl | hb
  · exact Nat.lt_succ_self _
  · rcases List.mem_cons.mp hb with rfl | hb
    · exact Nat.lt_succ_of_lt hlt
    · cases hb
theorem f_all {a : Addr} {bs : List Bool} (h : σ a = some (.list (bs.map .bool))) (q : Q (.bool (bs.all id)) σ) : CallF G d (.builtin "all") [.ref a] Q σ := by
  refine ⟨keep_b _, fun A s args hA R V => ?_⟩
  obtain ⟨v, rfl, V1⟩ := V.one_inv
  have V1 : v = .ref a := V1
  subst V1
  obtain ⟨vs, n, g1, g2⟩ := R.objs _ _ h
  have e := bools_are g2
  refine call_all_walk (it_list (list_is g1) fun s₂ e1 st hfp hlI => ?_)
  subst e1
  refine ⟨_, _, _, _, _, _, fun i => bs.getD i false, rfl, Walks.list (A := A.in1) hA.1 _ a hlI vs.toArray, st, fun i v s' Q' E' hv hq => ?_, fun h' tk hk => ?_⟩
  · have : vs[i]? = some v := by simpa using hv
    rw [e, List.getElem?_map] at this
    obtain ⟨b, e2, rfl⟩ := Option.map_eq_some_iff.mp this
    have hq : Q' b s' := by simpa [List.getD, e2] using hq
    exact wpAny_truthy_bool hq
  · obtain ⟨st, R'⟩ := grow R (h' := h') tk (old_kept hk)
    have : ((List.range vs.toArray.size).all fun i => bs.getD i false) = bs.all id := by
      rw [List.size_toArray, e, List.length_map]
      rw [Bool.eq_iff_iff, List.all_eq_true, List.all_eq_true]
      constructor
      · intro z x hx
        obtain ⟨i, hi, rfl⟩ := List.getElem_of_mem hx
        have := z i (List.mem_range.mpr hi)
        simpa [List.getD, hi] using this
      · intro z i hi
        have hi := List.mem_range.mp hi
        have := z bs[i] (List.getElem_mem hi)
        simpa [List.getD, hi] using this
    rw [this]
    exact ⟨.bool (bs.all id), σ, st, R', rfl, q⟩
theorem f_bytes {a : Addr} {ns : List Int} (h : σ a = some (.list (ns.map .int))) (hr : ∀ n ∈ ns, 0 ≤ n ∧ n < 256) (hz : ns.length ≤ 1000) (q : Q (.byt (byteArr ns)) σ) : CallF G d (.type "bytes") [.ref a] Q σ := by
  refine ⟨keep_t _, fun A s args hA R V => ?_⟩
  obtain ⟨v, rfl, V1⟩ := V.one_inv
  have V1 : v = .ref a := V1
  subst V1
  obtain ⟨vs, n, g1, g2⟩ := R.objs _ _ h
  refine call_bytes_ints (list_is g1) (ints_are g2) hr (by rw [g2.length, List.length_map, sizeLine_eq]; omega) hA.1 fun h' t k hk => ?_
  obtain ⟨st, R'⟩ := grow R (h' := h') k hk
  exact ⟨.byt (byteArr ns), σ, st, R', ⟨_, rfl⟩, q⟩
theorem bytes_bytes : typeLookup (.type "bytes") "__bytes__" = pure (some (.builtin "bytes.__bytes__")) := by rw [typeLookup_type, builtinLookup_eq_fast]; kernel_rfl
theorem bb_meets (b : Array UInt8) (t : Tok) : Meets (Builtin.«bytes.__new__» ⟨[.type "bytes", .bytes b t], []⟩) (fun _ R s => R (.ok (.ret (.bytes b t))) s) :=
  .of_wp fun prog w A R s h => by
    have hT : s.TypeIs (.bytes b t) "bytes" := typeIs_bytes s b t
    unfold Builtin.«bytes.__new__»
    refine wpAny_bind (wpAny_of_eq (a := true) rfl ?_)
    refine bm_if_false rfl ?_
    refine wpAny_bind (wpAny_of_eq F.bm_sub ?_)
    refine bm_if_false rfl ?_
    refine wpAny_bind (wpAny_of_eq (F.bm_bind _) ?_)
    refine wpAny_bind (wpAny_of_eq (a := ()) rfl ?_)
    refine wpAny_bind (wpAny_of_eq (a := ()) rfl ?_)
    refine bm_if_false rfl ?_
    refine wpAny_bind (wpAny_specialOf hT bytes_bytes ?_)
    dsimp only
    refine wpAny_bind (wpAny_rule ?_)
    refine wpAny_bind (wpAny_typeOf hT ?_)
    refine bm_if_true rfl ?_
    exact wpAny_pure ⟨_, rfl, h⟩
theorem f_bytesb {b : Array UInt8} (q : Q (.byt b) σ) : CallF G d (.type "bytes") [.byt b] Q σ := by
  refine ⟨keep_t _, fun A s args hA R V => ?_⟩
  obtain ⟨v, rfl, t, rfl⟩ := V.one_inv
  exact callType_new F.bm_called (by decide) (F.bm_typeCall _) (F.bm_newCall _) (fun obj => F.args_object_init_2 obj _) F.bm_entry (bb_meets b t) ⟨typeIs_bytes _ _ _, Post.same R (show VR s.heap (.byt b) _ from ⟨_, rfl⟩) q⟩
end
end Mine
namespace Mine
section
variable {G : Gd} {d : Nat} {σ : SH} {Q : SV → SH → Prop} {A : Around}
noncomputable def gtT (x y : List SV) : Bool := (tcmp .Gt x y).getD false
noncomputable def bestT (b v : List SV) : List SV := if gtT v b = true then v else b
theorem seq_imm {h : Heap} {S : Addr} {xs : Array Value} {c : Nat} (e : h.get? S = some { cls := .type "list", dict := none, data := .seq xs c, slots := #[] }) : ∀ o, h.get? S = some o → ¬ Imm o := by
  intro o e' i
  rw [e] at e'; cases e'
  exact absurd i.1 (by simp)
theorem max_next (hu : A.units + 1 < cLine) (hh : A.handled = none) {I S : Addr} {src : Src} {s0 : Shared} (hSI : S ≠ I) (I0 : s0.heap.get? I = none) (S0 : s0.heap.get? S = none) :
    ∀ (rest : List (List SV)) (k : Nat) (best : List SV) (s : Shared) (vb : Value) (c : Nat), src.items.drop k = rest.map .tup → src.chk σ → Rep G σ s → Step (fun _ => False) σ s0 σ s → ItOk G σ s src I k →
      s.heap.get? S = some { cls := .type "list", dict := none, data := .seq #[vb, vb] c, slots := #[] } → Loose G σ s S → VR s.heap (.tup best) vb →
      (∀ x ∈ best :: rest, ∀ y ∈ best :: rest, ∃ r, tcmp .Gt x y = some r) → Q (.tup (rest.foldl bestT best)) σ →
      codeAny (model G.prog G.w) A (.builtin "max.loop" ⟨[.ref I, .none, .ref S], []⟩) (fun r s' => ∃ v, r = .ok (.ret v) ∧ Post G σ s0 Q v s') s := by
  have hname : (toString "max" ++ toString ".loop" : String) = "max.loop" := by decide
  intro rest
  induction rest with
  | nil =>
    intro k best s vb c hd hchk R st IS hS lo V hc q
    refine codeAny_builtin F.entry_max_loop ?_
    rw [Around.under_plainId F.plain_max_loop _]
    show wpAny _ A.in1 (seqItems? (.ref S) >>= _) _ _ s
    refine wpAny_bind (wpAny_seqItems hS rfl ?_)
    show wpAny _ A.in1 (tryCatch (pyNext (.ref I)) _ >>= _) _ _ s
    have hx : src.items[k]? = none := by
      have : (src.items.drop k).length = 0 := by rw [hd]; rfl
      rw [List.length_drop] at this
      exact List.getElem?_eq_none (by omega)
    refine wpAny_bind (wpAny_tryCatch (wpAny_mono (iter_end (A := A.in1) R (show A.in1.handled = none from hh) IS hchk hx) (fun r s1 h1 => ?_) fun _ _ f => f.elim))
    obtain ⟨rfl, st1, R1⟩ := h1
    have hS1 := st1.pres _ _ hS lo.2.1 hSI
    have lo1 := lo.step st1 hSI
    show wpAny _ A.in1 (updateSeq S (fun _ => #[]) >>= _) _ _ _
    refine wpAny_bind ?_
    refine wpAny_updateSeq hS1 rfl (wpAny_bind (wpAny_letGo (wpAny_pure ?_)))
    obtain ⟨st2, R2⟩ := wr R1 lo1 (seq_imm hS1) (h' := s1.heap.update S (Obj.mapSeq fun _ => #[])) s1.toks (fun b o n e => (Heap.get?_update_other _ _ (Ne.symm n)).trans e)
    have z := (st.trans' st1 fun b e => .inr (by rw [e]; exact I0)).trans' st2 fun b e => .inr (by rw [e]; exact S0)
    exact ⟨vb, rfl, .tup best, σ, z, R2, (V.mono st1.tup).mono st2.tup, q⟩
  | cons x rest ih =>
    intro k best s vb c hd hchk R st IS hS lo V hc q
    refine codeAny_builtin F.entry_max_loop ?_
    rw [Around.under_plainId F.plain_max_loop _]
    show wpAny _ A.in1 (seqItems? (.ref S) >>= _) _ _ s
    refine wpAny_bind (wpAny_seqItems hS rfl ?_)
    show wpAny _ A.in1 (tryCatch (pyNext (.ref I)) _ >>= _) _ _ s
    have hx : src.items[k]? = some (.tup x) := by
      have e : (src.items.drop k)[0]? = some (.tup x) := by rw [hd]; rfl
      rw [List.getElem?_drop] at e
      simpa using e
    have hd' : src.items.drop (k + 1) = rest.map .tup := by
      have e : (src.items.drop k).drop 1 = rest.map .tup := by rw [hd]; rfl
      rw [List.drop_drop] at e
      exact e
    refine wpAny_bind (wpAny_tryCatch (wpAny_mono (iter_next (A := A.in1) R (show A.in1.handled = none from hh) IS hchk hx) (fun r s1 h1 => ?_) fun _ _ f => f.elim))
    obtain ⟨v, rfl, st1, R1, I1, V1⟩ := h1
    have hS1 := st1.pres _ _ hS lo.2.1 hSI
    have lo1 := lo.step st1 hSI
    have z1 := st.trans' st1 fun b e => .inr (by rw [e]; exact I0)
    have Vb := V.mono st1.tup
    obtain ⟨r, hr⟩ := hc x (by simp) best (by simp)
    have hgt : gtT x best = r := by unfold gtT; rw [hr]; rfl
    show wpAny _ A.in1 (tryCatch (holding [v, v] (richCompare .Gt v vb >>= _)) _ >>= _) _ _ _
    have V1' := V1
    have Vb' := Vb
    obtain ⟨a1, vs1, rfl, e1, w1⟩ := V1'
    obtain ⟨a2, vs2, rfl, e2, w2⟩ := Vb'
    refine wpAny_bind (wpAny_tryCatch (wpAny_holding (wpAny_bind (tup_cmp (.inr (.inr (.inr (.inl rfl)))) hu e1 e2 w1 w2 hr ?_))))
    refine wpAny_bind (wpAny_holding (wpAny_truthy_bool ?_))
    refine wpAny_bind (wpAny_letGo (wpAny_pure ?_))
    cases r with
    | true =>
      simp only [if_true]
      refine wpAny_bind ?_
      refine wpAny_updateSeq hS1 rfl (wpAny_bind (wpAny_letGo ?_))
      rw [hname]
      obtain ⟨st2, R2⟩ := wr R1 lo1 (seq_imm hS1) (h' := s1.heap.update S (Obj.mapSeq fun _ => #[.ref a1, .ref a1])) s1.toks (fun b o n e => (Heap.get?_update_other _ _ (Ne.symm n)).trans e)
      refine wpAny_pure ⟨plainId_quiet F.plain_max_loop _, ih (k + 1) x _ (.ref a1) _ hd' hchk R2 (z1.trans' st2 fun b e => .inr (by rw [e]; exact S0)) (I1.step st2 (fun e => hSI e.symm)) (Heap.get?_update_self _ hS1 rfl) ?_ (V1.mono st2.tup) (fun y hy z hz => hc y ?_ z ?_) ?_⟩
      · exact ⟨by show (s1.heap.update S _).get? S ≠ none; rw [Heap.get?_update_self _ hS1 rfl]; simp, lo1.2⟩
      · exact List.mem_cons_of_mem _ hy
      · exact List.mem_cons_of_mem _ hz
      · rw [List.foldl_cons] at q
        unfold bestT at q
        rw [hgt, if_pos rfl] at q
        exact q
    | false =>
      simp only [Bool.false_eq_true, if_false]
      refine wpAny_bind (wpAny_letGo ?_)
      rw [hname]
      refine wpAny_pure ⟨plainId_quiet F.plain_max_loop _, ih (k + 1) best s1 _ c hd' hchk R1 z1 I1 hS1 lo1 Vb (fun y hy z hz => hc y ?_ z ?_) ?_⟩
      · rcases List.mem_cons.mp hy with rfl | hy
        · simp
        · simp [hy]
      · rcases List.mem_cons.mp hz with rfl | hz
        · simp
        · simp [hz]
      · rw [List.foldl_cons] at q
        unfold bestT at q
        rw [hgt, if_neg (by simp)] at q
        exact q
theorem f_max {a : Addr} {t : List SV} {ts : List (List SV)} (h : σ a = some (.list ((t :: ts).map .tup))) (hc : ∀ x ∈ t :: ts, ∀ y ∈ t :: ts, ∃ r, tcmp .Gt x y = some r) (q : Q (.tup (ts.foldl bestT t)) σ) :
    CallF G d (.builtin "max") [.ref a] Q σ := by
  refine ⟨keep_b _, fun A s args hA R V => ?_⟩
  obtain ⟨v, rfl, V1⟩ := V.one_inv
  have V1 : v = .ref a := V1
  subst V1
  obtain ⟨vs, n, g1, g2⟩ := R.objs _ _ h
  obtain ⟨f1, f2, f3⟩ := fresh_none R
  have hname : (toString "max" ++ toString ".loop" : String) = "max.loop" := by decide
  have hu : A.units + 1 < cLine := by have := hA.2.2; omega
  refine call_function_tree F.kind_max F.plain_max F.entry_max (F.args_max1 _) ?_
  show wpAny _ A.in1 (Builtin.Builtins.bindParams "max" ["key", "default"] 0 ⟨[], []⟩ >>= _) _ _ s
  refine wpAny_bind (wpAny_of_eq (show Builtin.Builtins.bindParams "max" ["key", "default"] 0 ⟨[], []⟩ = pure [none, none] from rfl) ?_)
  refine wpAny_bind (wpAny_pure ?_)
  refine wpAny_bind (wpAny_pyIter_list (list_is g1) ?_)
  have Inone : s.heap.get? s.heap.objs.size = none := by
    cases z : s.heap.get? s.heap.objs.size with
    | none => rfl
    | some o => exact absurd (lt_size_of z) (Nat.lt_irrefl _)
  obtain ⟨st1, R1⟩ := grow R (h' := s.heap.push { cls := .type "list_iterator", data := .fields #[.ref a, .int 0 0] }) s.toks fun b o e => Heap.get?_push_of_some _ e
  have I1 : ItOk G σ { s with heap := s.heap.push { cls := .type "list_iterator", data := .fields #[.ref a, .int 0 0] } } (.list a ((t :: ts).map .tup)) s.heap.objs.size 0 := ⟨⟨_, Heap.get?_push_size _ rfl, rfl, rfl⟩, f2, f3⟩
  refine wpAny_bind (wpAny_newObj_type ?_)
  generalize hs1 : ({ s with heap := s.heap.push { cls := .type "list_iterator", data := .fields #[.ref a, .int 0 0] } } : Shared) = s1 at st1 R1 I1
  have e1 : s1.heap.objs.size = s.heap.objs.size + 1 := by rw [← hs1]; exact Heap.size_push _ _
  obtain ⟨k1, k2, k3⟩ := fresh_none R1
  obtain ⟨st2, R2⟩ := grow R1 (h' := s1.heap.push { cls := .type "list", data := .seq #[] }) s1.toks fun b o e => Heap.get?_push_of_some _ e
  have I2 := I1.step st2 fun f => f
  have lo2 : Loose G σ { s1 with heap := s1.heap.push { cls := .type "list", data := .seq #[] } } s1.heap.objs.size := ⟨by show (s1.heap.push _).get? _ ≠ none; rw [Heap.get?_push_size _ rfl]; simp, k2, k3⟩
  rw [hname]
  refine wpAny_pure ⟨plainId_quiet F.plain_max_loop _, ?_⟩
  have S0 : s.heap.get? s1.heap.objs.size = none := by
    cases z : s.heap.get? s1.heap.objs.size with
    | none => rfl
    | some o => exact absurd (lt_size_of z) (by rw [e1]; exact Nat.not_lt.mpr (Nat.le_succ _))
  have SI : s1.heap.objs.size ≠ s.heap.objs.size := by omega
  -- the first item
  refine codeAny_builtin F.entry_max_loop ?_
  rw [Around.under_plainId F.plain_max_loop _]
  have hS2 : (s1.heap.push { cls := .type "list", data := .seq #[] }).get? s1.heap.objs.size = some { cls := .type "list", dict := none, data := .seq #[] 0, slots := #[] } := Heap.get?_push_size _ rfl
  show wpAny _ _ (seqItems? (.ref s1.heap.objs.size) >>= _) _ _ { s1 with heap := s1.heap.push { cls := .type "list", data := .seq #[] } }
  refine wpAny_bind (wpAny_seqItems hS2 rfl ?_)
  show wpAny _ _ (tryCatch (pyNext (.ref s.heap.objs.size)) _ >>= _) _ _ _
  refine wpAny_bind (wpAny_tryCatch (wpAny_mono (iter_next (A := A.in1) R2 (show A.in1.handled = none from hA.1) I2 (x := .tup t) h rfl) (fun r s3 h3 => ?_) fun _ _ f => f.elim))
  obtain ⟨v, rfl, st3, R3, I3, V3⟩ := h3
  have hS3 := st3.pres _ _ hS2 lo2.2.1 SI
  have lo3 := lo2.step st3 SI
  show wpAny _ _ (updateSeq s1.heap.objs.size (fun _ => #[v, v]) >>= _) _ _ _
  refine wpAny_bind ?_
  refine wpAny_updateSeq hS3 rfl ?_
  rw [hname]
  obtain ⟨st4, R4⟩ := wr R3 lo3 (seq_imm hS3) (h' := s3.heap.update s1.heap.objs.size (Obj.mapSeq fun _ => #[v, v])) s3.toks (fun b o n e => (Heap.get?_update_other _ _ (Ne.symm n)).trans e)
  have z := ((st1.trans st2).trans' st3 fun b e => .inr (by rw [e]; exact Inone)).trans' st4 fun b e => .inr (by rw [e]; exact S0)
  refine wpAny_pure ⟨plainId_quiet F.plain_max_loop _, codeAny_mono (max_next (A := A) (src := .list a ((t :: ts).map .tup)) hu hA.1 SI Inone S0 ts 1 t _ v _ rfl h R4 z (I3.step st4 (fun e => SI e.symm)) (Heap.get?_update_self _ hS3 rfl) ?_ (V3.mono st4.tup) hc q) fun r s5 h5 => ?_⟩
  · exact ⟨by show (s3.heap.update s1.heap.objs.size _).get? s1.heap.objs.size ≠ none; rw [Heap.get?_update_self _ hS3 rfl]; simp, lo3.2⟩
  · obtain ⟨v, rfl, h5⟩ := h5
    exact h5
end
end Mine
namespace Mine
section
variable {N : Nat} {key : Nat → Int} {s : Shared} {cmp : Nat → Nat → (Bool → Shared → Prop) → Shared → Prop}
noncomputable def kk (key : Nat → Int) (p : Array Nat) (i : Nat) : Int := key (p.getD i 0)
noncomputable def Fit (N : Nat) (p : Array Nat) : Prop := p.toList.Perm (List.range N)
theorem Fit.size {p : Array Nat} (h : Fit N p) : p.size = N := by have := h.length_eq; simpa using this
theorem Fit.lt {p : Array Nat} (h : Fit N p) {i : Nat} (hi : i < N) : p.getD i 0 < N := by
  have hs : i < p.size := by rw [h.size]; exact hi
  have e : p.getD i 0 = p[i] := by simp [Array.getD, hs]
  rw [e]
  have : p[i] ∈ p.toList := by simp
  have := h.mem_iff.mp this
  exact List.mem_range.mp this
theorem Fit.rev {p : Array Nat} (h : Fit N p) (i j : Nat) : Fit N (kas_rev p i j) := by
  have : (kas_rev p i j).toList.Perm p.toList := (mirror_perm p i j _).toList
  exact this.trans h
theorem Fit.bub {p : Array Nat} (h : Fit N p) (i j : Nat) : Fit N (bubble p i j) := (bubble_perm p i j).toList.trans h
theorem kk_congr {p q : Array Nat} {i j : Nat} (h : p[i]? = q[j]?) : kk key p i = kk key q j := by
  unfold kk
  rw [Array.getD_eq_getD_getElem?, Array.getD_eq_getD_getElem?, h]
theorem kk_rev {p : Array Nat} {i j : Nat} (hj : j ≤ p.size) (k : Nat) : kk key (kas_rev p i j) k = if i ≤ k ∧ k < j then kk key p (i + j - 1 - k) else kk key p k := by
  have e := getElem?_mirror_all (i := i) hj k
  by_cases h1 : i ≤ k ∧ k < j
  · rw [if_pos h1] at e ⊢; exact kk_congr e
  · rw [if_neg h1] at e ⊢; exact kk_congr e
theorem kk_bub {p : Array Nat} {src d : Nat} (hs : src < p.size) (hd : d ≤ src) (k : Nat) : kk key (bubble p src d) k = if k = src - d then kk key p src else if src - d < k ∧ k ≤ src then kk key p (k - 1) else kk key p k := by
  have e := getElem?_bubble hs d hd k
  by_cases h1 : k = src - d
  · rw [if_pos h1] at e ⊢; exact kk_congr e
  · rw [if_neg h1] at e ⊢
    by_cases h2 : src - d < k ∧ k ≤ src
    · rw [if_pos h2] at e ⊢; exact kk_congr e
    · rw [if_neg h2] at e ⊢; exact kk_congr e
noncomputable def Asc (key : Nat → Int) (p : Array Nat) (n : Nat) : Prop := ∀ i, 1 ≤ i → i < n → kk key p (i - 1) ≤ kk key p i
noncomputable def Dsc (key : Nat → Int) (p : Array Nat) (n : Nat) : Prop := ∀ i, 1 ≤ i → i < n → kk key p i ≤ kk key p (i - 1)
theorem rev0 {p : Array Nat} (hp : Fit N p) {n : Nat} (hn : n ≤ N) {k : Nat} (hk : k < n) : kk key (kas_rev p 0 n) k = kk key p (n - 1 - k) := by
  rw [kk_rev (hp.size ▸ hn), if_pos ⟨Nat.zero_le _, hk⟩, Nat.zero_add]
variable (hc : ∀ i j C, i < N → j < N → C (decide (key i < key j)) s → cmp i j C s)
include hc
theorem t_asc {p : Array Nat} (hp : Fit N p) {Q : Nat → Shared → Prop} : ∀ (f n : Nat), 1 ≤ n → n + f ≤ N → Asc key p n → (∀ m, n ≤ m → m ≤ n + f → Asc key p m → (m = n + f ∨ kk key p m < kk key p (m - 1)) → Q m s) → (kas_asc p f n).kasWp cmp Q s
  | 0, n, h1, hn, ha, hq => hq n (Nat.le_refl _) (Nat.le_refl _) ha (.inl rfl)
  | f + 1, n, h1, hn, ha, hq => by
    refine hc _ _ _ (hp.lt (by omega)) (hp.lt (by omega)) ?_
    by_cases z : key (p.getD n 0) < key (p.getD (n - 1) 0)
    · rw [decide_eq_true z]
      dsimp only
      rw [if_pos rfl]
      exact hq n (Nat.le_refl _) (by omega) ha (.inr z)
    · rw [decide_eq_false z]
      dsimp only
      rw [if_neg Bool.false_ne_true]
      refine t_asc hp f (n + 1) (by omega) (by omega) (fun i hi hin => ?_) fun m hm hmf ha' hz => hq m (by omega) (by omega) ha' (hz.imp (fun e => by omega) id)
      by_cases e : i = n
      · subst e; exact Int.not_lt.mp z
      · exact ha i hi (by omega)
theorem t_desc {Q : Array Nat × Nat × Nat → Shared → Prop} : ∀ (f n q : Nat) (p : Array Nat), Fit N p → q + 1 ≤ n → n + f ≤ N → Dsc key p n → (∀ i, n - (q + 1) ≤ i → i < n → kk key p i = kk key p (n - 1)) →
    (∀ p' n' q', Fit N p' → n ≤ n' → n' ≤ n + f → q' + 1 ≤ n' → Dsc key p' n' → (∀ i, n' - (q' + 1) ≤ i → i < n' → kk key p' i = kk key p' (n' - 1)) → Q (p', n', q') s) → (kas_desc f p n q).kasWp cmp Q s
  | 0, n, q, p, hp, h1, hn, hd, he, hq => hq p n q hp (Nat.le_refl _) (Nat.le_refl _) h1 hd he
  | f + 1, n, q, p, hp, h1, hn, hd, he, hq => by
    refine hc _ _ _ (hp.lt (by omega)) (hp.lt (by omega)) ?_
    by_cases z : key (p.getD n 0) < key (p.getD (n - 1) 0)
    · rw [decide_eq_true z]
      dsimp only
      rw [if_pos rfl]
      have z' : kk key p n < kk key p (n - 1) := z
      split
      · rename_i hq0
        have same : ∀ k, kk key (kas_rev p (n - (q + 1)) n) k = kk key p k := by
          intro k
          rw [kk_rev (by rw [hp.size]; omega)]
          split
          · rename_i hk
            rw [he _ (by omega) (by omega), he k (by omega) (by omega)]
          · rfl
        refine t_desc f (n + 1) 0 _ (hp.rev _ _) (by omega) (by omega) (fun i hi hin => ?_) (fun i hi hin => ?_) fun p' n' q' a b c => hq p' n' q' a (by omega) (by omega)
        · rw [same, same]
          by_cases e : i = n
          · subst e; omega
          · exact hd i hi (by omega)
        · have : i = n := by omega
          subst this; rfl
      · refine t_desc f (n + 1) 0 _ hp (by omega) (by omega) (fun i hi hin => ?_) (fun i hi hin => ?_) fun p' n' q' a b c => hq p' n' q' a (by omega) (by omega)
        · by_cases e : i = n
          · subst e; omega
          · exact hd i hi (by omega)
        · have : i = n := by omega
          subst this; rfl
    · rw [decide_eq_false z]
      dsimp only
      rw [if_neg Bool.false_ne_true]
      refine hc _ _ _ (hp.lt (by omega)) (hp.lt (by omega)) ?_
      by_cases y : key (p.getD (n - 1) 0) < key (p.getD n 0)
      · rw [decide_eq_true y]
        dsimp only
        rw [if_pos rfl]
        exact hq p n q hp (Nat.le_refl _) (by omega) h1 hd he
      · rw [decide_eq_false y]
        dsimp only
        rw [if_neg Bool.false_ne_true]
        have eq : kk key p n = kk key p (n - 1) := by unfold kk; omega
        refine t_desc f (n + 1) (q + 1) _ hp (by omega) (by omega) (fun i hi hin => ?_) (fun i hi hin => ?_) fun p' n' q' a b c => hq p' n' q' a (by omega) (by omega)
        · by_cases e : i = n
          · subst e; omega
          · exact hd i hi (by omega)
        · by_cases e : i = n
          · subst e; rfl
          · rw [Nat.add_sub_cancel, eq]
            exact he i (by omega) (by omega)
theorem t_tail {p : Array Nat} (hp : Fit N p) {n : Nat} (h1 : 1 ≤ n) (hn : n ≤ N) (hd : Dsc key p n) {Q : Nat × Array Nat → Shared → Prop} (hq : ∀ m p', Fit N p' → 1 ≤ m → m ≤ N → Asc key p' m → Q (m, p') s) : (kas_tail3 n N p).kasWp cmp Q s := by
  unfold kas_tail3
  rw [KasT.kasWp_bind]
  have nN := Nat.add_sub_cancel' hn
  refine t_asc hc (hp.rev 0 n) (N - n) n h1 (Nat.le_of_eq nN) (fun i hi hin => ?_) fun m a b ha _ => hq m _ (hp.rev 0 n) (Nat.le_trans h1 a) (nN ▸ b) ha
  obtain ⟨i, rfl⟩ : ∃ j, i = j + 1 := ⟨i - 1, (Nat.sub_add_cancel hi).symm⟩
  rw [Nat.add_sub_cancel, rev0 hp hn (Nat.lt_of_succ_lt hin), rev0 hp hn hin, Nat.sub_sub n 1 i, Nat.sub_sub n 1 (i + 1), Nat.add_comm 1 i, Nat.add_comm 1 (i + 1)]
  exact hd (n - (i + 1)) (Nat.le_sub_of_add_le (Nat.le_trans (Nat.le_of_eq (Nat.add_comm 1 _)) hin)) (Nat.sub_lt h1 (Nat.succ_pos i))
theorem t_dpart {p : Array Nat} (hp : Fit N p) {n : Nat} (h1 : 1 ≤ n) (hn : n + 1 ≤ N) (hd : Dsc key p (n + 1)) {Q : Nat × Array Nat → Shared → Prop} (hq : ∀ m p', Fit N p' → 1 ≤ m → m ≤ N → Asc key p' m → Q (m, p') s) : (kas_descPart n N p).kasWp cmp Q s := by
  unfold kas_descPart
  rw [KasT.kasWp_bind]
  refine t_desc hc (N - (n + 1)) (n + 1) 0 p hp (by omega) (by omega) hd (fun i hi hin => ?_) fun p' n' q' hp' a b c d e => ?_
  · have : i = n := by omega
    subst this; rfl
  · dsimp only
    split
    · refine t_tail hc (hp'.rev _ _) (by omega) (by omega) (fun i hi hin => ?_) hq
      have same : ∀ k, kk key (kas_rev p' (n' - (q' + 1)) n') k = kk key p' k := by
        intro k
        rw [kk_rev (by rw [hp'.size]; omega)]
        split
        · rename_i hk
          rw [e _ (by omega) (by omega), e k (by omega) (by omega)]
        · rfl
      rw [same, same]; exact d i hi hin
    · exact t_tail hc hp' (by omega) (by omega) d hq
theorem asc_all {p : Array Nat} {n : Nat} (ha : Asc key p n) (h1 : 1 ≤ n) (hz : kk key p (n - 1) ≤ kk key p 0) : ∀ i, i < n → kk key p i = kk key p 0 := by
  have up : ∀ i, i < n → kk key p 0 ≤ kk key p i := by
    intro i
    induction i with
    | zero => intro _; exact Int.le_refl _
    | succ i ih =>
      intro hi
      have := ha (i + 1) (by omega) hi
      rw [Nat.add_sub_cancel] at this
      exact Int.le_trans (ih (by omega)) this
  have dn : ∀ j i, i + j + 1 = n → kk key p i ≤ kk key p (n - 1) := by
    intro j
    induction j with
    | zero => intro i hi; have : i = n - 1 := by omega
              rw [this]; exact Int.le_refl _
    | succ j ih =>
      intro i hi
      have := ha (i + 1) (by omega) (by omega)
      rw [Nat.add_sub_cancel] at this
      exact Int.le_trans this (ih (i + 1) (by omega))
  intro i hi
  have a := up i hi
  have b := dn (n - 1 - i) i (by omega)
  omega
theorem t_count {p : Array Nat} (hp : Fit N p) (h1 : 1 ≤ N) {Q : Nat × Array Nat → Shared → Prop} (hq : ∀ m p', Fit N p' → 1 ≤ m → m ≤ N → Asc key p' m → Q (m, p') s) : (kas_count N p).kasWp cmp Q s := by
  unfold kas_count
  rw [KasT.kasWp_bind]
  have nN := Nat.add_sub_cancel' h1
  refine t_asc hc hp (N - 1) 1 (Nat.le_refl _) (Nat.le_of_eq nN) (fun i a b => absurd b (Nat.not_lt.mpr a)) fun n a b ha hz => ?_
  rw [nN] at b hz
  split
  · exact hq n p hp a b ha
  · rename_i hne
    have hne : n ≠ N := by simpa using hne
    have hz : kk key p n < kk key p (n - 1) := hz.resolve_left hne
    have nL := Nat.lt_of_le_of_ne b hne
    have n1 : n - 1 < n := Nat.sub_lt a Nat.one_pos
    split
    · refine hc _ _ _ (hp.lt h1) (hp.lt (Nat.lt_trans n1 nL)) ?_
      by_cases z : key (p.getD 0 0) < key (p.getD (n - 1) 0)
      · rw [decide_eq_true z]
        exact hq n p hp a b ha
      · rw [decide_eq_false z]
        have all := asc_all hc ha a (Int.not_lt.mp z)
        have same : ∀ k, kk key (kas_rev p 0 n) k = kk key p k := by
          intro k
          rw [kk_rev (hp.size ▸ b)]
          split
          · rename_i hk
            rw [Nat.zero_add]
            rw [all k hk.2, all _ (Nat.lt_of_le_of_lt (Nat.sub_le _ _) n1)]
          · rfl
        refine t_dpart hc (hp.rev 0 n) a nL (fun i hi hin => ?_) hq
        rw [same, same]
        by_cases e : i = n
        · subst e; exact Int.le_of_lt hz
        · have hin := Nat.lt_of_le_of_ne (Nat.le_of_lt_succ hin) e
          rw [all i hin, all (i - 1) (Nat.lt_of_le_of_lt (Nat.sub_le _ _) hin)]; exact Int.le_refl _
    · rename_i hn1
      have hn1 : n = 1 := Nat.le_antisymm (by clear hq hc hz; simpa using hn1) a
      subst hn1
      refine t_dpart hc hp a nL (fun i hi hin => ?_) hq
      obtain rfl : i = 1 := Nat.le_antisymm (Nat.le_of_lt_succ hin) hi
      exact Int.le_of_lt hz
theorem t_place {p : Array Nat} (hp : Fit N p) {k : Nat} (hk : k < N) {Q : Nat → Shared → Prop} : ∀ (f l r : Nat), r ≤ k → l ≤ r → r - l ≤ f → (∀ i, i < l → kk key p i ≤ kk key p k) → (∀ i, r ≤ i → i < k → kk key p k < kk key p i) → Asc key p k →
    (∀ m, m ≤ k → (∀ i, i < m → kk key p i ≤ kk key p k) → (∀ i, m ≤ i → i < k → kk key p k < kk key p i) → Q m s) → (kas_place p k f l r).kasWp cmp Q s
  | 0, l, r, hr, hlr, hf, hl, hg, ha, hq => by
    have : l = r := by omega
    subst this
    exact hq l hr hl hg
  | f + 1, l, r, hr, hlr, hf, hl, hg, ha, hq => by
    unfold kas_place
    by_cases hge : l ≥ r
    · rw [if_pos hge]
      have : l = r := by omega
      subst this
      exact hq l hr hl hg
    · rw [if_neg hge]
      have lr : l < r := Nat.lt_of_not_le hge
      clear hge hlr
      have hM1 : l ≤ (l + r) / 2 := (Nat.le_div_iff_mul_le (by decide)).mpr (Nat.mul_two l ▸ Nat.add_le_add_left (Nat.le_of_lt lr) l)
      have hM2 : (l + r) / 2 < r := Nat.div_lt_of_lt_mul (Nat.two_mul r ▸ Nat.add_lt_add_right lr r)
      generalize (l + r) / 2 = M at hM1 hM2 ⊢
      have Mk : M < k := Nat.lt_of_lt_of_le hM2 hr
      refine hc _ _ _ (hp.lt hk) (hp.lt (Nat.lt_trans Mk hk)) ?_
      have mono : ∀ d i, i + d < k → kk key p i ≤ kk key p (i + d) := by
        clear hl hg hq hc hM1 hM2 Mk lr hf
        intro d
        induction d with
        | zero => intro i _; exact Int.le_refl _
        | succ d ih => exact fun i hi => Int.le_trans (ih i (Nat.lt_of_succ_lt hi)) (ha (i + d + 1) (Nat.le_add_left 1 _) hi)
      by_cases z : key (p.getD k 0) < key (p.getD M 0)
      · rw [decide_eq_true z]
        refine t_place hp hk f l M (Nat.le_of_lt Mk) hM1 (Nat.le_of_lt_succ (Nat.lt_of_lt_of_le (Nat.sub_lt_sub_right hM1 hM2) hf)) hl (fun i hi hik => ?_) ha hq
        have := mono (i - M) M (Nat.lt_of_le_of_lt (Nat.le_of_eq (Nat.add_sub_cancel' hi)) hik)
        rw [Nat.add_sub_cancel' hi] at this
        exact Int.lt_of_lt_of_le z this
      · rw [decide_eq_false z]
        refine t_place hp hk f (M + 1) r hr hM2 (Nat.le_of_lt_succ (Nat.lt_of_lt_of_le (Nat.sub_lt_sub_left (Nat.lt_of_le_of_lt hM1 hM2) (Nat.lt_succ_of_le hM1)) hf)) (fun i hi => ?_) hg ha hq
        have hi := Nat.le_of_lt_succ hi
        have := mono (M - i) i (Nat.lt_of_le_of_lt (Nat.le_of_eq (Nat.add_sub_cancel' hi)) Mk)
        rw [Nat.add_sub_cancel' hi] at this
        exact Int.le_trans this (Int.not_lt.mp z)
theorem t_bin {Q : Array Nat → Shared → Prop} : ∀ (f : Nat) (p : Array Nat) (k : Nat), Fit N p → k + f = N → Asc key p k → (∀ p', Fit N p' → Asc key p' N → Q p' s) → (kas_bin f p k).kasWp cmp Q s
  | 0, p, k, hp, hk, ha, hq => by
    obtain rfl : k = N := hk
    exact hq p hp ha
  | f + 1, p, k, hp, hk, ha, hq => by
    rw [show kas_bin (f + 1) p k = (kas_place p k k 0 k).bind fun l => kas_bin f (bubble p k (k - l)) (k + 1) from rfl, KasT.kasWp_bind]
    have kN : k < N := hk ▸ Nat.lt_add_of_pos_right (Nat.succ_pos f)
    refine t_place hc hp kN k 0 k (Nat.le_refl _) (Nat.zero_le _) (Nat.sub_le _ _) (fun i hi => absurd hi (Nat.not_lt_zero _)) (fun i a b => absurd b (Nat.not_lt.mpr a)) ha fun m hm h1 h2 => ?_
    refine t_bin f _ (k + 1) (hp.bub _ _) (by rw [Nat.add_right_comm]; exact hk) (fun i hi hik => ?_) hq
    have hs : k < p.size := by rw [hp.size]; exact kN
    clear hq hk hc
    obtain ⟨i, rfl⟩ : ∃ j, i = j + 1 := ⟨i - 1, (Nat.sub_add_cancel hi).symm⟩
    have ik : i < k := Nat.lt_of_succ_lt_succ hik
    rw [kk_bub hs (Nat.sub_le _ _), kk_bub hs (Nat.sub_le _ _), Nat.sub_sub_self hm, Nat.add_sub_cancel]
    clear hs hi hik
    by_cases c1 : i + 1 = m
    · subst c1
      rw [if_pos rfl, if_neg (Nat.ne_of_lt (Nat.lt_succ_self i)), if_neg fun q => Nat.lt_asymm q.1 (Nat.lt_succ_self i)]
      exact h1 _ (Nat.lt_succ_self i)
    · rw [if_neg c1]
      by_cases c2 : i + 1 < m
      · have im := Nat.lt_of_succ_lt c2
        rw [if_neg (Nat.ne_of_lt im), if_neg fun q => Nat.lt_asymm q.1 im, if_neg fun q => Nat.lt_asymm q.1 c2]
        exact ha (i + 1) (Nat.succ_pos i) (Nat.lt_of_lt_of_le c2 hm)
      · have mi : m ≤ i := Nat.le_of_lt_succ (Nat.lt_of_le_of_ne (Nat.not_lt.mp c2) (Ne.symm c1))
        rw [if_pos (show m < i + 1 ∧ i + 1 ≤ k from ⟨Nat.lt_succ_of_le mi, ik⟩)]
        by_cases c3 : i = m
        · rw [if_pos c3, c3]
          exact Int.le_of_lt (h2 m (Nat.le_refl _) (c3 ▸ ik))
        · have mi := Nat.lt_of_le_of_ne mi (Ne.symm c3)
          rw [if_neg c3, if_pos (show m < i ∧ i ≤ k from ⟨mi, Nat.le_of_lt ik⟩)]
          exact ha i (Nat.lt_of_le_of_lt (Nat.zero_le _) mi) ik
theorem t_sort (h1 : 1 ≤ N) {Q : Array Nat → Shared → Prop} (hq : ∀ p', Fit N p' → Asc key p' N → Q p' s) : (kas_sort N).kasWp cmp Q s := by
  unfold kas_sort
  rw [KasT.kasWp_bind]
  refine t_count hc (show Fit N (List.toArray (List.range N)) from List.Perm.refl _) h1 fun m p hp hm hmN ha => ?_
  dsimp only
  split
  · have e : max m 1 = m := by omega
    rw [e]
    exact t_bin hc (N - m) p m hp (by omega) ha hq
  · have : m = N := by omega
    subst this
    exact hq p hp ha
end
end Mine
namespace Mine
noncomputable def Outs (key : Nat → Int) (vs out : List Value) : Prop := ∃ p : Array Nat, Fit vs.length p ∧ Asc key p vs.length ∧ out = p.toList.map fun i => vs.getD i Value.none
section
variable {prog : Program} {w : World} {A : Around} {s : Shared} {key : Nat → Int}
noncomputable def Asks (prog : Program) (w : World) (A : Around) (key : Nat → Int) (vs : List Value) (s' : Shared) : Prop :=
  ∃ κ, (∀ Q : SortKind → Shared → Prop, Q κ s' → wpAny (model prog w) A (keyKind' vs.toArray) Q (fun _ _ => False) s') ∧ ∀ i j C, i < vs.length → j < vs.length → C (decide (key i < key j)) s' → kas_ask prog w A κ vs i j C s'
theorem sort_in {a : Addr} {vs : List Value} {n : Nat} {P : PySem.Fin → Shared → Prop} {E : Value → Shared → Prop} (ho : s.heap.get? a = some (seqObj "list" vs.toArray n)) (h64 : vs.length < 64)
    (hk : 2 ≤ vs.length → ∀ h', (∀ b o, b ≠ a → s.heap.get? b = some o → h'.get? b = some o) → Asks prog w A key vs { s with heap := h' })
    (h : ∀ h' out c, (∀ b o, b ≠ a → s.heap.get? b = some o → h'.get? b = some o) → h'.get? a = some (listObj out c) → Outs key vs out → P (.done (.ret .none)) { s with heap := h' }) :
    wpAny (model prog w) A (Builtin.«list.sort» ⟨[.ref a], []⟩) P E s := by
  rw [list_sort_plain]
  have ha : a < s.heap.objs.size := Heap.lt_size ho
  refine wpAny_bind (listItems_at ho rfl ?_)
  refine wpAny_bind (listUpdate_at ho rfl ?_ (by rw [List.size_toArray, sizeLine_eq]; omega) (Nat.zero_le _))
  obtain ⟨e1, ho1⟩ : ∃ e1, (s.heap.update a (Obj.mapSeq fun _ => #[])).get? a = some (seqObj "list" #[] e1) := ⟨_, get?_update_seq ho (fun _ => #[])⟩
  refine wpAny_bind (seqEpoch_at ho1 rfl ?_)
  refine wpAny_bind (wpAny_newTuple ?_ (by show vs.length ≤ _; rw [sizeLine_eq]; omega))
  refine wpAny_bind (wpAny_newList ?_ (Nat.zero_le _))
  refine wpAny_holding ?_
  have ho6 : (((s.heap.update a (Obj.mapSeq fun _ => #[])).push (seqObj "tuple" vs.toArray 0)).push (seqObj "list" #[] 0)).get? a = some (seqObj "list" #[] e1) := by
    rw [Heap.get?_push_ne _ _ _ (by rw [size_push', Heap.size_update]; exact Nat.ne_of_lt (Nat.lt_succ_of_lt ha)), Heap.get?_push_ne _ _ _ (by rw [Heap.size_update]; exact Nat.ne_of_lt ha)]
    exact ho1
  have k6 : ∀ b o, b ≠ a → s.heap.get? b = some o → (((s.heap.update a (Obj.mapSeq fun _ => #[])).push (seqObj "tuple" vs.toArray 0)).push (seqObj "list" #[] 0)).get? b = some o := fun b o nb e =>
    Heap.get?_push_of_some _ (Heap.get?_push_of_some _ ((Heap.get?_update_ne _ _ _ _ nb).trans e))
  show wpAny (model prog w) A _ P E { s with heap := ((s.heap.update a (Obj.mapSeq fun _ => #[])).push (seqObj "tuple" vs.toArray 0)).push (seqObj "list" #[] 0) }
  dsimp only
  generalize hH : ((s.heap.update a (Obj.mapSeq fun _ => #[])).push (seqObj "tuple" vs.toArray 0)).push (seqObj "list" #[] 0) = H at ho6 k6
  have hsz : vs.toArray.size = vs.length := by simp
  have fin : ∀ out : List Value, out.length = vs.length → Outs key vs out → P (.done (.ret .none)) { s with heap := H.update a (Obj.mapSeq fun _ => out.toArray) } := by
    intro out hl ho
    obtain ⟨c2, hc2⟩ : ∃ c2, (H.update a (Obj.mapSeq fun _ => out.toArray)).get? a = some (seqObj "list" out.toArray c2) := ⟨_, get?_update_seq ho6 _⟩
    exact h _ out c2 (fun b o nb e => (Heap.get?_update_ne _ _ _ _ nb).trans (k6 b o nb e)) hc2 ho
  by_cases h2 : vs.toArray.size < 2
  · rw [if_pos h2, if_pos h2]
    refine wpAny_bind (wpAny_pure ?_)
    rw [StateT.run_pure]
    refine wpAny_bind (wpAny_pure ?_)
    dsimp only
    have eo : (arrOf (SortSt.mk' general' (vs.toArray.zip vs.toArray) #[] 7 none)).map (·.2) = vs.toArray := by
      show (vs.toArray.zip vs.toArray).map (·.2) = vs.toArray
      apply Array.toList_inj.mp
      simp [List.map_snd_zip]
    refine wpAny_bind (seqEpoch_at ho6 rfl ?_)
    rw [eo]
    refine wpAny_bind (listUpdate_at ho6 rfl ?_ (Nat.zero_le _) (by show vs.toArray.size ≤ _; rw [sizeLine_eq]; omega))
    simp only [bne_self_eq_false, Bool.false_eq_true, if_false]
    refine wpAny_pure (fin vs rfl ⟨List.toArray (List.range vs.length), List.Perm.refl _, fun i hi hin => by omega, ?_⟩)
    show vs = (List.range vs.length).map fun i => vs.getD i Value.none
    apply List.ext_getElem
    · simp
    · intro i h1 h3
      simp [List.getD, h1]
  · rw [if_neg h2, if_neg h2]
    have h2' : 2 ≤ vs.length := by omega
    obtain ⟨κ, kq, kc⟩ := hk h2' H k6
    refine wpAny_bind (wpAny_mono (kq (fun k s' => k = κ ∧ s' = { s with heap := H }) ⟨rfl, rfl⟩) (fun k s0 hk0 => ?_) fun _ _ x => x.elim)
    obtain ⟨rfl, rfl⟩ := hk0
    have ts : (kas_sort vs.length).kasWp (kas_ask prog w A k vs) (fun p s' => Fit vs.length p ∧ Asc key p vs.length ∧ s' = { s with heap := H }) { s with heap := H } :=
      t_sort kc (by omega) fun p' a b => ⟨a, b, rfl⟩
    refine wpAny_bind (wpAny_mono (kat_run (E := E) (Q := fun st' s' => ∃ p : Array Nat, p.size = vs.length ∧ arrOf st' = p.map (kas_item (vs.toArray.zip vs.toArray)) ∧ failedOf st' = none ∧ Fit vs.length p ∧ Asc key p vs.length ∧ s' = { s with heap := H })
      rfl h2' h64 (fun p' st' s' a1 a2 a3 a4 => ⟨p', a1, a2, a3, a4⟩) ts) ?_ fun _ _ e => e)
    rintro ⟨⟨⟩, st'⟩ s' ⟨p, hp, har, hf, f1, f2, rfl⟩
    dsimp only
    rw [kat_snds rfl har]
    have hl : (p.toList.map fun i => vs.getD i Value.none).length = vs.length := by rw [List.length_map, Array.length_toList, hp]
    refine wpAny_bind (seqEpoch_at ho6 rfl ?_)
    refine wpAny_bind (listUpdate_at ho6 rfl ?_ (Nat.zero_le _) (by rw [List.size_toArray, hl, sizeLine_eq]; omega))
    rw [hf]
    simp only [bne_self_eq_false, Bool.false_eq_true, if_false]
    exact wpAny_pure (fin _ hl ⟨p, f1, f2, rfl⟩)
theorem sorted_in {x : Value} {vs : List Value} {Q : Value → Shared → Prop} {E : Value → Shared → Prop} (h64 : vs.length < 64)
    (hcol : ∀ Q' : List Value → Shared → Prop, (∀ h' tk, (∀ b o, s.heap.get? b = some o → h'.get? b = some o) → Q' vs { s with heap := h', toks := tk }) → wpAny (model prog w) A.in1 (collect x) Q' E s)
    (hk : 2 ≤ vs.length → ∀ h' tk, (∀ b o, s.heap.get? b = some o → h'.get? b = some o) → Asks prog w A.in1.in1 key vs { s with heap := h', toks := tk })
    (h : ∀ L h' tk out c, s.heap.get? L = none → (∀ b o, s.heap.get? b = some o → h'.get? b = some o) → h'.get? L = some (listObj out c) → Outs key vs out → Q (.ref L) { s with heap := h', toks := tk }) :
    wpAny (model prog w) A (call (.builtin "sorted") [x]) Q E s := by
  refine Calls.call_function_entry kind_sorted plain_sorted entry_sorted (args_sorted1 _) ?_
  unfold Builtin.«sorted»
  refine wpAny_bind (m := checkCount "sorted" 1 1 _) (wpAny_pure ?_)
  refine wpAny_bind (hcol _ fun h1 t1 k1 => ?_)
  refine wpAny_bind (wpAny_newList ?_ (by rw [sizeLine_eq]; omega))
  have hoL : (h1.push (seqObj "list" vs.toArray 0)).get? h1.objs.size = some (seqObj "list" vs.toArray 0) := Heap.get?_push_size _ rfl
  have Ln : s.heap.get? h1.objs.size = none := by
    cases z : s.heap.get? h1.objs.size with
    | none => rfl
    | some o => exact absurd (lt_size_of (k1 _ _ z)) (Nat.lt_irrefl _)
  have kL : ∀ b o, s.heap.get? b = some o → b ≠ h1.objs.size ∧ (h1.push (seqObj "list" vs.toArray 0)).get? b = some o := fun b o e =>
    ⟨fun z => (by rw [z, Ln] at e; cases e), Heap.get?_push_of_some _ (k1 b o e)⟩
  refine wpAny_bind (wpAny_holding (wpAny_call_entry slot_list_sort ⟨_, hoL, rfl⟩ entry_list_sort (sort_in (key := key) hoL h64 (fun h2 h' k' => ?_) fun h' out c k' hg ho => ⟨_, rfl, ?_⟩) (args_list_sort _)))
  · exact hk h2 h' t1 fun b o e => k' b o (kL b o e).1 (kL b o e).2
  · exact wpAny_pure ⟨_, rfl, h h1.objs.size h' t1 out c Ln (fun b o e => k' b o (kL b o e).1 (kL b o e).2) hg ho⟩
end
end Mine
namespace Mine
section
variable {G : Gd} {d : Nat} {σ : SH} {Q : SV → SH → Prop} {A : Around} {s : Shared}
theorem silent_dict : splitId "dict.__len__" = some ("dict", "__len__") := by decide +kernel
theorem sub_dict_dict : isSubtype (.type "dict") (.type "dict") = pure true := by rw [isSubtype_type]; kernel_rfl
theorem collect_dict {a : Addr} {kvs : List (Int × Value)} {ep : Nat} {Q' : List Value → Shared → Prop} {E : Value → Shared → Prop} (hh : A.handled = none) (hs : (a == sysModules) = false) (D : s.heap.DictAt (intKind G.prog G.w) a kvs ep) (hz : kvs.length < 64)
    (hQ : ∀ h' tk vs, (∀ b o, s.heap.get? b = some o → h'.get? b = some o) → vs.length = kvs.length → (∀ (j : Nat) v, vs[j]? = some v → ∃ k x, kvs[j]? = some (k, x) ∧ (intKind G.prog G.w).is k v = true) → Q' vs { s with heap := h', toks := tk }) :
    wpAny (model G.prog G.w) A (collect (.ref a)) Q' E s := by
  have hn : kvs.length ≤ sizeLine := by rw [sizeLine_eq]; omega
  unfold collect
  refine wpAny_bind (wpAny_runValue (codeAny_builtin F.entry_proto_collect ?_))
  rw [Around.under_plainId F.plain_proto_collect _]
  show wpAny _ A.in1 (newList [] >>= fun l => again (.builtin "list.__iadd__" ⟨[l, .ref a], []⟩)) _ _ s
  refine wpAny_bind (wpAny_newObj_type ?_)
  refine wpAny_pure ⟨plainId_quiet F.plain_list_iadd _, codeAny_builtin F.entry_list_iadd ?_⟩
  rw [Around.under_plainId F.plain_list_iadd _]
  have ha : a < s.heap.objs.size := by obtain ⟨o, es, ho, _⟩ := D; exact lt_size_of ho
  have hS₁ : (s.heap.push { cls := .type "list", data := .seq ([] : List Value).toArray }).get? s.heap.objs.size = some { cls := .type "list", data := .seq ([] : List Value).toArray } := Heap.get?_push_size _ rfl
  have D1 : (s.heap.push { cls := .type "list", data := .seq ([] : List Value).toArray }).DictAt (intKind G.prog G.w) a kvs ep := D.at' fun o e => Heap.get?_push_of_some _ e
  have hT : ({ s with heap := s.heap.push { cls := .type "list", data := .seq ([] : List Value).toArray } } : Shared).TypeIs (.ref a) "dict" := D1.dictOf.typeIs
  show wpAny _ A.in1 (Builtin.List.listExtendWith (.ref s.heap.objs.size) (.ref a) (.ref s.heap.objs.size)) _ _ _
  unfold Builtin.List.listExtendWith
  refine wpAny_bind (wpAny_typeOf hT ?_)
  have h1 : Builtin.List.listSameRef (.ref s.heap.objs.size) (.ref a) = false := by simp [Builtin.List.listSameRef]; exact Nat.ne_of_gt ha
  have h2 : (Value.type "dict" == Value.type "list") = false := by decide
  have h3 : (Value.type "dict" == Value.type "tuple") = false := by decide
  simp only [h1, h2, h3, Bool.or_false, Bool.false_eq_true, if_false]
  refine wpAny_bind (wpAny_pyIter_dict hs D1 ?_)
  refine wpAny_bind (wpAny_holding ?_)
  have hI : ((s.heap.push { cls := .type "list", data := .seq ([] : List Value).toArray }).push { cls := .type "dict_keyiterator", data := .fields #[.ref a, .int 0 0, .int kvs.length 0, .int ep 0] }).get? (s.heap.objs.size + 1) = some { cls := .type "dict_keyiterator", data := .fields #[.ref a, .int 0 0, .int kvs.length 0, .int ep 0] } := by heap_get
  have hS2 : ((s.heap.push { cls := .type "list", data := .seq ([] : List Value).toArray }).push { cls := .type "dict_keyiterator", data := .fields #[.ref a, .int 0 0, .int kvs.length 0, .int ep 0] }).get? s.heap.objs.size = some { cls := .type "list", data := .seq ([] : List Value).toArray } := Heap.get?_push_of_some _ hS₁
  have D2 : ((s.heap.push { cls := .type "list", data := .seq ([] : List Value).toArray }).push { cls := .type "dict_keyiterator", data := .fields #[.ref a, .int 0 0, .int kvs.length 0, .int ep 0] }).DictAt (intKind G.prog G.w) a kvs ep := D1.at' fun o e => Heap.get?_push_of_some _ e
  have old2 : ∀ b o, s.heap.get? b = some o → ((s.heap.push { cls := .type "list", data := .seq ([] : List Value).toArray }).push { cls := .type "dict_keyiterator", data := .fields #[.ref a, .int 0 0, .int kvs.length 0, .int ep 0] }).get? b = some o := fun b o e => Heap.get?_push_of_some _ (Heap.get?_push_of_some _ e)
  have sz1 : (s.heap.push { cls := .type "list", data := .seq ([] : List Value).toArray }).objs.size = s.heap.objs.size + 1 := Heap.size_push _ _
  rw [sz1]
  generalize hH : (s.heap.push { cls := .type "list", data := .seq ([] : List Value).toArray }).push { cls := .type "dict_keyiterator", data := .fields #[.ref a, .int 0 0, .int kvs.length 0, .int ep 0] } = H at hI hS2 D2 old2
  have hT2 : ({ s with heap := H } : Shared).TypeIs (.ref a) "dict" := D2.dictOf.typeIs
  unfold Builtin.List.listLengthHint
  refine wpAny_bind (wpAny_specialOf (s := { s with heap := H }) hT2 F.slot_dict_len.lookup ?_)
  generalize hid : ("dict.__len__" : String) = id0
  wp_delta
  rw [show splitId id0 = some ("dict", "__len__") from by subst hid; exact silent_dict]
  subst hid
  refine wpAny_bind (wpAny_isInstance (b := true) hT2 sub_dict_dict ?_)
  refine bm_if_false rfl ?_
  refine bm_if_true (by decide +kernel) ?_
  refine wpAny_bind (wpAny_typeOf (s := { s with heap := H }) hT2 ?_)
  refine wpAny_pure ?_
  refine bm_if_true (by decide +kernel) ?_
  refine wpAny_bind (wpAny_rule ?_)
  refine wpAny_bind ?_
  show wpAny _ A.in1 (updateSeq s.heap.objs.size (·.push .none) >>= fun _ => updateSeq s.heap.objs.size (·.pop)) _ _ _
  refine wpAny_bind (wpAny_updateSeq hS2 rfl ?_ (Nat.zero_le _))
  have hS₂ := Heap.get?_update_self (Obj.mapSeq (·.push Value.none)) hS2 rfl
  refine wpAny_updateSeq hS₂ rfl ?_ (by rw [sizeLine_eq]; decide)
  have hS₃ := Heap.get?_update_self (Obj.mapSeq (·.pop)) hS₂ rfl
  have Sa : s.heap.objs.size ≠ a := Nat.ne_of_gt ha
  have SI : s.heap.objs.size ≠ s.heap.objs.size + 1 := Nat.ne_of_lt (Nat.lt_succ_self _)
  have oth : ∀ b o, b ≠ s.heap.objs.size → H.get? b = some o → ((H.update s.heap.objs.size (Obj.mapSeq (·.push Value.none))).update s.heap.objs.size (Obj.mapSeq (·.pop))).get? b = some o :=
    fun b o hb e => (Heap.get?_update_other _ _ (Ne.symm hb)).trans ((Heap.get?_update_other _ _ (Ne.symm hb)).trans e)
  generalize hH3 : (H.update s.heap.objs.size (Obj.mapSeq (·.push Value.none))).update s.heap.objs.size (Obj.mapSeq (·.pop)) = H3 at hS₃ oth
  have W := (Walks.dictKeys (prog := G.prog) (w := G.w) (knd := intKind G.prog G.w) (A := A.in1) hh (s.heap.objs.size + 1) a (Nat.ne_of_lt (Nat.lt_succ_of_lt ha)) kvs ep).toS
  have hSf : s.heap.objs.size ∉ [s.heap.objs.size + 1, a] := by simp; exact Nat.ne_of_gt ha
  refine wpAny_pure ⟨plainId_quiet F.plain_extend_loop _, codeAny_extend_loopS W hn s.heap.objs.size hSf _ kvs.length 0 _ _ _ rfl (Nat.zero_le _) ⟨⟨_, oth _ _ (Ne.symm SI) hI, rfl, rfl⟩, D2.at' fun o e => oth _ _ (Ne.symm Sa) e⟩ hS₃ (ItemsOf.nil _) fun s' acc' c' hm hS' hacc => ?_⟩
  show wpAny _ A (load s.heap.objs.size >>= _) _ _ s'
  refine wpAny_bind (wpAny_load hS' ?_)
  refine wpAny_pure ?_
  have es : s' = { s with heap := s'.heap, toks := s'.toks } := by
    have e1 := hm.gens
    have e2 := hm.drawn
    have e3 := hm.os
    obtain ⟨x1, x2, x3, x4, x5⟩ := s'
    subst e1 e2 e3
    rfl
  have key := hQ s'.heap s'.toks acc'.toList (fun b o e => ?_) (by simpa using hacc.1) (fun j v e => hacc.2 j v (by simpa using e))
  · rw [es]; exact key
  · have hb := lt_size_of e
    refine hm.heap b o ?_ (oth b o (Nat.ne_of_lt hb) (old2 b o e))
    simp
    exact ⟨Nat.ne_of_lt hb, Nat.ne_of_lt (Nat.lt_succ_of_lt hb)⟩
end
end Mine
namespace Mine
theorem VRs.idx {h : Heap} {l : List SV} {vs : List Value} (V : VRs h l vs) : ∀ (is : List Nat), (∀ i ∈ is, i < l.length) → VRs h (is.map fun i => l.getD i .none) (is.map fun i => vs.getD i Value.none)
  | [], _ => rfl
  | i :: is, hi => by
    have hl := hi i List.mem_cons_self
    obtain ⟨v, e1, e2⟩ := V.get (List.getElem?_eq_getElem hl)
    refine ⟨vs.getD i Value.none, _, rfl, ?_, V.idx is fun j hj => hi j (List.mem_cons_of_mem _ hj)⟩
    have : vs.getD i Value.none = v := by simp [List.getD, e1]
    rw [this]
    have : l.getD i SV.none = l[i] := by simp [List.getD, hl]
    show VR h (l.getD i SV.none) v
    rw [this]; exact e2
theorem outs_map {α : Type} {f : α → SV} {k : α → Int} {xs : List α} {h : Heap} {vs out : List Value} {key : Nat → Int} (V : VRs h (xs.map f) vs) (o : Outs key vs out) (hkey : ∀ (i : Nat) x, xs[i]? = some x → key i = k x) :
    ∃ xs' : List α, xs'.Perm xs ∧ (xs'.map k).Pairwise (· ≤ ·) ∧ VRs h (xs'.map f) out := by
  obtain ⟨p, hp, ha, rfl⟩ := o
  have hl : vs.length = xs.length := by rw [V.length, List.length_map]
  rw [hl] at hp ha
  have lt : ∀ i ∈ p.toList, i < xs.length := fun i hi => List.mem_range.mp (hp.mem_iff.mp hi)
  cases xs with
  | nil =>
    have : p.toList = [] := by
      have := hp.length_eq
      simpa using this
    refine ⟨[], List.Perm.refl _, List.Pairwise.nil, ?_⟩
    rw [this]; rfl
  | cons x0 xr =>
    have key' : ∀ i, i < (x0 :: xr).length → key i = k ((x0 :: xr).getD i x0) := fun i hi => hkey i _ (by rw [List.getD_eq_getElem?_getD, List.getElem?_eq_getElem hi]; rfl)
    refine ⟨p.toList.map fun i => (x0 :: xr).getD i x0, ?_, ?_, ?_⟩
    · refine (hp.map fun i => (x0 :: xr).getD i x0).trans ?_
      refine List.Perm.of_eq (List.ext_getElem (by simp) fun i h1 h2 => ?_)
      simp only [List.getElem_map, List.getElem_range]
      rw [List.getD_eq_getElem?_getD, List.getElem?_eq_getElem h2]; rfl
    · rw [List.map_map]
      have e : p.toList.map (k ∘ fun i => (x0 :: xr).getD i x0) = p.toList.map key := List.map_congr_left fun i hi => (key' i (lt i hi)).symm
      rw [e, List.pairwise_iff_getElem]
      have sz : p.toList.length = (x0 :: xr).length := by simpa using hp.length_eq
      have at_ : ∀ i (h1 : i < (p.toList.map key).length), (p.toList.map key)[i] = kk key p i := by
        intro i h1
        rw [List.getElem_map]
        unfold kk
        have : i < p.size := by simpa using h1
        simp [Array.getD, this]
      intro i j h1 h2 hij
      rw [at_, at_]
      have chain : ∀ dd i, i + dd < (x0 :: xr).length → kk key p i ≤ kk key p (i + dd) := by
        intro dd
        induction dd with
        | zero => intro i _; exact Int.le_refl _
        | succ dd ih =>
          intro i hi
          have := ha (i + dd + 1) (by omega) (by omega)
          rw [Nat.add_sub_cancel] at this
          exact Int.le_trans (ih i (by omega)) this
      have z := chain (j - i) i (by rw [List.length_map, sz] at h2; omega)
      have e2 : i + (j - i) = j := by omega
      rw [e2] at z
      exact z
    · have z := V.idx p.toList (fun i hi => by rw [List.length_map]; exact lt i hi)
      have e : (p.toList.map fun i => ((x0 :: xr).map f).getD i SV.none) = (p.toList.map fun i => (x0 :: xr).getD i x0).map f := by
        rw [List.map_map]
        refine List.map_congr_left fun i hi => ?_
        have := lt i hi
        show ((x0 :: xr).map f).getD i SV.none = f ((x0 :: xr).getD i x0)
        rw [List.getD_eq_getElem?_getD, List.getD_eq_getElem?_getD, List.getElem?_map, List.getElem?_eq_getElem this]
        rfl
      rw [e] at z
      exact z
section
variable {G : Gd} {d : Nat} {σ : SH} {Q : SV → SH → Prop}
theorem new_sorted {s : Shared} (R : Rep G σ s) {L : Addr} {h' : Heap} {tk c : Nat} {l : List SV} {out : List Value} (Ln : s.heap.get? L = none) (k : ∀ b o, s.heap.get? b = some o → h'.get? b = some o) (hg : h'.get? L = some (listObj out c))
    (V : VRs h' l out) (q : Q (.ref L) (upd σ L (.list l))) : Post G σ s Q (.ref L) { s with heap := h', toks := tk } := by
  have L0 : G.H0.get? L = none := by
    cases z : G.H0.get? L with
    | none => rfl
    | some o => have := R.base _ _ z; rw [Ln] at this; cases this
  obtain ⟨st, R'⟩ := put_obj R (h' := h') tk (a := L) (o := .list l) (by intro c d m e; cases e) (.inl ⟨Ln, L0⟩) (fun b ob _ e => k b ob e) ⟨out, c, hg, V⟩
  exact ⟨.ref L, _, st, R', rfl, q⟩
theorem free_at {s : Shared} (R : Rep G σ s) {L : Addr} (Ln : s.heap.get? L = none) : σ L = none := by
  cases z : σ L with
  | none => rfl
  | some o => obtain ⟨ob, e, _⟩ := Foot.cls R (.inl ⟨o, z⟩); rw [Ln] at e; cases e
theorem ints_get {vs : List Value} {ns : List Int} (hI : IntsAre vs ns) : ∀ (i : Nat), i < vs.length → ∃ t, vs.getD i Value.none = .int (ns.getD i 0) t := by
  induction hI with
  | nil => intro i h; simp at h
  | cons n t _ ih =>
    intro i h
    cases i with
    | zero => exact ⟨t, rfl⟩
    | succ i => simpa using ih i (by simpa using h)
theorem ints_vr {h : Heap} {vs : List Value} {ns : List Int} (hI : IntsAre vs ns) : VRs h (ns.map .int) vs := by
  induction hI with
  | nil => exact (rfl : ([] : List Value) = [])
  | cons n t _ ih => exact ⟨_, _, rfl, ⟨t, rfl⟩, ih⟩
theorem asks_ints {prog : Program} {w : World} {A : Around} {s : Shared} {vs : List Value} {ns : List Int} (hI : IntsAre vs ns) (h2 : 2 ≤ vs.length) : Asks prog w A (fun i => ns.getD i 0) vs s := by
  refine ⟨oneType', fun Q q => ?_, fun i j C hi hj hC => ?_⟩
  · match vs, h2, hI with
    | v₁ :: v₂ :: rest, _, hI => rw [keyKind_ints hI]; exact wpAny_pure q
  · obtain ⟨t, e1⟩ := ints_get hI i hi
    obtain ⟨u, e2⟩ := ints_get hI j hj
    unfold kas_ask
    rw [e1, e2]
    exact kat_lt_int hC
theorem f_sort {a : Addr} {ns : List Int} (h : σ a = some (.list (ns.map .int))) (h64 : ns.length < 64) (q : ∀ (L : Addr) (ns' : List Int), σ L = none → ns'.Perm ns → ns'.Pairwise (· ≤ ·) → Q (.ref L) (upd σ L (.list (ns'.map .int)))) : CallF G d (.builtin "sorted") [.ref a] Q σ := by
  refine ⟨keep_b _, fun A s args hA R V => ?_⟩
  obtain ⟨v, rfl, V1⟩ := V.one_inv
  have V1 : v = .ref a := V1
  subst V1
  obtain ⟨vs, n, g1, g2⟩ := R.objs _ _ h
  have hl : vs.length = ns.length := by rw [g2.length, List.length_map]
  have hI := ints_are g2
  refine sorted_in (key := fun i => ns.getD i 0) (by omega) (fun Q' hq => collect_list (list_is g1) (hq _ _ fun b o e => ?_) (by rw [sizeLine_eq]; omega)) (fun h2 h' tk k => asks_ints hI h2) fun L h' tk out c Ln k hg ho => ?_
  · have hb := lt_size_of e
    rw [Heap.get?_update_ne _ _ _ _ (Nat.ne_of_lt hb), Heap.get?_push_ne _ _ _ (Nat.ne_of_lt hb)]
    exact e
  · obtain ⟨ns', p1, p2, p3⟩ := outs_map (f := SV.int) (k := id) (g2.mono fun b o e _ => k b o e) ho fun i x e => by simp [List.getD, e]
    rw [List.map_id] at p2
    exact new_sorted R Ln k hg p3 (q L ns' (free_at R Ln) p1 p2)
theorem f_sortd (O : GOk G) {a : Addr} {m : List (Int × SV)} {ep : Nat} (h : σ a = some (.dict m ep)) (h64 : m.length < 64) (q : ∀ (L : Addr) (ns' : List Int), σ L = none → ns'.Perm (m.map (·.1)) → ns'.Pairwise (· ≤ ·) → Q (.ref L) (upd σ L (.list (ns'.map .int)))) : CallF G d (.builtin "sorted") [.ref a] Q σ := by
  refine ⟨keep_b _, fun A s args hA R V => ?_⟩
  obtain ⟨v, rfl, V1⟩ := V.one_inv
  have V1 : v = .ref a := V1
  subst V1
  obtain ⟨ws, D, W⟩ := R.objs _ _ h
  have hl : ((m.map (·.1)).zip ws).length = m.length := by rw [List.length_zip, W.length, List.length_map, List.length_map, Nat.min_self]
  -- the keys as the dict gives them
  have go : ∀ (h' : Heap) (tk : Nat) (vs : List Value), (∀ b o, s.heap.get? b = some o → h'.get? b = some o) → vs.length = ((m.map (·.1)).zip ws).length → (∀ (j : Nat) v, vs[j]? = some v → ∃ k x, ((m.map (·.1)).zip ws)[j]? = some (k, x) ∧ (intKind G.prog G.w).is k v = true) → VRs h' ((m.map (·.1)).map .int) vs := by
    intro h' tk vs k hvl hv
    have : ∀ (ks : List Int) (vs : List Value), vs.length = ks.length → (∀ (j : Nat) v, vs[j]? = some v → ∃ k, ks[j]? = some k ∧ (intKind G.prog G.w).is k v = true) → VRs h' (ks.map .int) vs := by
      intro ks
      induction ks with
      | nil => intro vs e _; exact List.length_eq_zero_iff.mp e
      | cons k ks ih =>
        intro vs e hv
        cases vs with
        | nil => simp at e
        | cons v vs =>
          obtain ⟨k', e1, e2⟩ := hv 0 v rfl
          simp at e1
          subst e1
          obtain ⟨t, rfl⟩ := Value.isInt_shape (show Value.isInt k v = true from e2)
          exact ⟨_, _, rfl, ⟨t, rfl⟩, ih vs (by simpa using e) fun j v e3 => by simpa using hv (j + 1) v (by simpa using e3)⟩
    refine this _ _ (by rw [hvl, hl, List.length_map]) fun j v e => ?_
    obtain ⟨k, x, e1, e2⟩ := hv j v e
    rw [List.getElem?_zip_eq_some] at e1
    exact ⟨k, e1.1, e2⟩
  -- the tokens of the keys hang on the run: choose them as the run gives them
  refine Calls.call_function_entry kind_sorted plain_sorted entry_sorted (args_sorted1 _) ?_
  unfold Builtin.«sorted»
  refine wpAny_bind (m := checkCount "sorted" 1 1 _) (wpAny_pure ?_)
  refine wpAny_bind (collect_dict (A := A.in1) hA.1 (not_sys R O.sys (.inl ⟨_, h⟩)) D (by rw [hl]; exact h64) fun h1 t1 vs k1 hvl hv => ?_)
  have Vk := go h1 t1 vs k1 hvl hv
  have hI := ints_are Vk
  have hvs : vs.length = m.length := by rw [hvl, hl]
  refine wpAny_bind (wpAny_newList ?_ (by rw [sizeLine_eq]; omega))
  have hoL : (h1.push (seqObj "list" vs.toArray 0)).get? h1.objs.size = some (seqObj "list" vs.toArray 0) := Heap.get?_push_size _ rfl
  have Ln : s.heap.get? h1.objs.size = none := by
    cases z : s.heap.get? h1.objs.size with
    | none => rfl
    | some o => exact absurd (lt_size_of (k1 _ _ z)) (Nat.lt_irrefl _)
  have kL : ∀ b o, s.heap.get? b = some o → b ≠ h1.objs.size ∧ (h1.push (seqObj "list" vs.toArray 0)).get? b = some o := fun b o e =>
    ⟨fun z => (by rw [z, Ln] at e; cases e), Heap.get?_push_of_some _ (k1 b o e)⟩
  refine wpAny_bind (wpAny_holding (wpAny_call_entry slot_list_sort ⟨_, hoL, rfl⟩ entry_list_sort (sort_in (key := fun i => (m.map (·.1)).getD i 0) hoL (by omega) (fun h2 h' k' => asks_ints hI h2) fun h' out c k' hg ho => ⟨_, rfl, ?_⟩) (args_list_sort _)))
  have Vk' : VRs h' ((m.map (·.1)).map .int) vs := ints_vr hI
  obtain ⟨ns', p1, p2, p3⟩ := outs_map (f := SV.int) (k := id) Vk' ho fun i x e => by simp [List.getD, e]
  rw [List.map_id] at p2
  exact wpAny_pure ⟨_, rfl, new_sorted R Ln (fun b o e => k' b o (kL b o e).1 (kL b o e).2) hg p3 (q _ ns' (free_at R Ln) p1 p2)⟩
end
end Mine
namespace Mine
noncomputable def lexI (fin : Bool) : List Int → List Int → Bool
  | a :: l, b :: l' => if a = b then lexI fin l l' else decide (a < b)
  | _, _ => fin
noncomputable def rowSV (r : List Int) : SV := .tup (r.map .int)
section
variable {prog : Program} {w : World} {A : Around} {s : Shared}
theorem lexI_pos {fin : Bool} {a b : Int} {l l' : List Int} (e : a = b) : lexI fin (a :: l) (b :: l') = lexI fin l l' := if_pos e
theorem lexI_neg {fin : Bool} {a b : Int} {l l' : List Int} (e : ¬a = b) : lexI fin (a :: l) (b :: l') = decide (a < b) := if_neg e
theorem katlex {h : Heap} {fin : Bool} {Q : Bool → Shared → Prop} : ∀ (l l' : List Int) (vs ws : List Value) (i : Nat), VRs h (l.map .int) vs → VRs h (l'.map .int) ws → Q (lexI fin l l') s → KatLex prog w A true fin Q (vs.zip ws) i s
  | [], l', vs, ws, i, V, W, q => by cases V; cases l' <;> exact q
  | a :: l, [], vs, ws, i, V, W, q => by cases W; rw [List.zip_nil_right]; exact q
  | a :: l, b :: l', vs, ws, i, V, W, q => by
    obtain ⟨v, r, rfl, ⟨t, rfl⟩, V2⟩ := V
    obtain ⟨u, r', rfl, ⟨t', rfl⟩, W2⟩ := W
    rw [List.zip_cons_cons]
    refine kat_cons (wpAny_eqBool_int ?_)
    by_cases e : a = b
    · rw [show (a == b) = true by simpa using e]
      exact kat_yes (katlex l l' r r' (i + 1) V2 W2 (by rw [lexI_pos e] at q; exact q))
    · rw [show (a == b) = false by simpa using e]
      refine kat_no ?_
      rw [lexI_neg e] at q
      rw [Bool.true_and]
      cases hi : (i == 0) with
      | true => exact oneLt_int q
      | false =>
        refine kat_one _ _ ?_
        exact richCompare_gives (op := .Lt) (typeIs_int s _ t) (typeIs_int s _ t') F.slot_int_lt F.entry_int_lt (F.args_int_lt_2 _ _) (gives_int_lt _ _ t t') (fun x => nomatch x) q
theorem tups_of {h : Heap} : ∀ {rows : List (List Int)} {vs : List Value}, VRs h (rows.map rowSV) vs → (∀ r ∈ rows, r ≠ []) → ∃ fs, KatTups h vs fs ∧ (∀ f ∈ fs, ∃ x t, f = .int x t) ∧ fs.length = vs.length
  | [], _, e, _ => by cases e; exact ⟨[], KatTups.nil, (fun _ h => by cases h), rfl⟩
  | r :: rows, _, e, hr => by
    obtain ⟨v, vr, rfl, ⟨a, ws, rfl, e1, e2⟩, e3⟩ := e
    obtain ⟨fs, k1, k2, k3⟩ := tups_of e3 fun x hx => hr x (List.mem_cons_of_mem _ hx)
    cases r with
    | nil => exact absurd rfl (hr [] List.mem_cons_self)
    | cons x xs =>
      obtain ⟨f, wr, rfl, ⟨t, rfl⟩, e4⟩ := e2
      refine ⟨.int x t :: fs, KatTups.cons e1 rfl rfl (by simp) k1, fun g hg => ?_, by simp [k3]⟩
      rcases List.mem_cons.mp hg with rfl | hg
      · exact ⟨x, t, rfl⟩
      · exact k2 g hg
theorem asks_rows {key : Nat → Int} {rows : List (List Int)} {vs : List Value} (V : VRs s.heap (rows.map rowSV) vs) (hr : ∀ r ∈ rows, r ≠ []) (h2 : 2 ≤ vs.length)
    (hk : ∀ i j, i < rows.length → j < rows.length → lexI (decide ((rows.getD i []).length < (rows.getD j []).length)) (rows.getD i []) (rows.getD j []) = decide (key i < key j)) : Asks prog w A key vs s := by
  obtain ⟨fs, k1, k2, k3⟩ := tups_of V hr
  refine ⟨tuples' (Value.type "int" != Value.type "tuple"), fun Q q => ?_, fun i j C hi hj hC => ?_⟩
  · exact kat_kind (T := .type "int") k1 (by omega) (fun f hf => by obtain ⟨x, t, rfl⟩ := k2 f hf; exact Looks.of_pure rfl) rfl q
  · have hl : vs.length = rows.length := by rw [V.length, List.length_map]
    have at_ : ∀ i, i < vs.length → ∃ a ws, vs.getD i Value.none = .ref a ∧ s.heap.get? a = some (tupObj ws) ∧ VRs s.heap ((rows.getD i []).map .int) ws := by
      intro i hi
      have hi' : i < rows.length := hl ▸ hi
      obtain ⟨v, e1, e2⟩ := V.get (i := i) (x := rowSV rows[i]) (by rw [List.getElem?_map, List.getElem?_eq_getElem hi']; rfl)
      obtain ⟨a, ws, rfl, e3, e4⟩ := e2
      refine ⟨a, ws, by simp [List.getD, e1], e3, ?_⟩
      have : rows.getD i [] = rows[i] := by simp [List.getD, hi']
      rw [this]; exact e4
    obtain ⟨a, ws, e1, e2, e3⟩ := at_ i hi
    obtain ⟨b, us, e4, e5, e6⟩ := at_ j hj
    unfold kas_ask
    rw [e1, e4, show (Value.type "int" != Value.type "tuple") = true by decide]
    refine kat_lt e2 rfl e5 rfl ?_
    have z1 : ws.toArray.size = (rows.getD i []).length := by rw [List.size_toArray, e3.length, List.length_map]
    have z2 : us.toArray.size = (rows.getD j []).length := by rw [List.size_toArray, e6.length, List.length_map]
    rw [z1, z2]
    refine katlex _ _ _ _ 0 e3 e6 ?_
    rw [hk i j (hl ▸ hi) (hl ▸ hj)]
    exact hC
end
section
variable {G : Gd} {d : Nat} {σ : SH} {Q : SV → SH → Prop}
theorem f_sortt {a : Addr} {rows : List (List Int)} {k : List Int → Int} (h : σ a = some (.list (rows.map rowSV))) (h64 : rows.length < 64) (hr : ∀ r ∈ rows, r ≠ [])
    (hk : ∀ x ∈ rows, ∀ y ∈ rows, lexI (decide (x.length < y.length)) x y = decide (k x < k y))
    (q : ∀ (L : Addr) (rows' : List (List Int)), σ L = none → rows'.Perm rows → (rows'.map k).Pairwise (· ≤ ·) → Q (.ref L) (upd σ L (.list (rows'.map rowSV)))) : CallF G d (.builtin "sorted") [.ref a] Q σ := by
  refine ⟨keep_b _, fun A s args hA R V => ?_⟩
  obtain ⟨v, rfl, V1⟩ := V.one_inv
  have V1 : v = .ref a := V1
  subst V1
  obtain ⟨vs, n, g1, g2⟩ := R.objs _ _ h
  have hl : vs.length = rows.length := by rw [g2.length, List.length_map]
  refine sorted_in (key := fun i => k (rows.getD i [])) (by omega) (fun Q' hq => collect_list (list_is g1) (hq _ _ fun b o e => ?_) (by rw [sizeLine_eq]; omega)) (fun h2 h' tk kp => ?_) (fun L h' tk out c Ln kp hg ho => ?_)
  · have hb := lt_size_of e
    rw [Heap.get?_update_ne _ _ _ _ (Nat.ne_of_lt hb), Heap.get?_push_ne _ _ _ (Nat.ne_of_lt hb)]
    exact e
  · refine asks_rows (s := { s with heap := h', toks := tk }) (g2.mono fun b o e _ => kp b o e) hr h2 fun i j hi hj => ?_
    have e1 : rows.getD i [] ∈ rows := by rw [List.getD_eq_getElem?_getD, List.getElem?_eq_getElem hi]; exact List.getElem_mem hi
    have e2 : rows.getD j [] ∈ rows := by rw [List.getD_eq_getElem?_getD, List.getElem?_eq_getElem hj]; exact List.getElem_mem hj
    exact hk _ e1 _ e2
  · obtain ⟨rows', p1, p2, p3⟩ := outs_map (f := rowSV) (k := k) (g2.mono fun b o e _ => kp b o e) ho fun i x e => by simp [List.getD, e]
    exact new_sorted R Ln kp hg p3 (q L rows' (free_at R Ln) p1 p2)
end
end Mine
namespace Mine
noncomputable def kids : Stmt → List Stmt
  | .FunctionDef _ _ b _ _ _ _ _ _ _ => b
  | .ClassDef _ _ _ b _ _ _ _ _ _ _ => b
  | .If _ a b _ => a ++ b
  | .While _ a _ _ => a
  | .For _ _ a _ _ => a
  | .Try a _ _ _ _ => a
  | _ => []
noncomputable def stIn : List Stmt → List Nat → Stmt
  | l, [] => l.getD 0 default
  | l, [i] => l.getD i default
  | l, i :: r => stIn (kids (l.getD i default)) r
noncomputable def stAt (p : List Nat) : Stmt := stIn PySem.Challenge.pw_xm0838_01.main.body p
noncomputable def hdAt (p : List Nat) : List ExceptHandler := match stAt p with
  | .Try _ hs _ _ _ => hs
  | _ => []
noncomputable def fdOf (K : Frag) (a : Addr) : FuncData := match K.lookup a with
  | some ⟨_, _, .func fd, _⟩ => fd
  | _ => default
noncomputable def fnL : List Str := [Str.ofString "user_order", Str.ofString "check", Str.ofString "log_block", Str.ofString "sync_writes", Str.ofString "create_missing", Str.ofString "paranoid", Str.ofString "write_buffer", Str.ofString "max_height", Str.ofString "heights", Str.ofString "block_size", Str.ofString "restart_interval", Str.ofString "filter_bits", Str.ofString "filter_base_lg", Str.ofString "max_file_size", Str.ofString "num_levels", Str.ofString "l0_trigger", Str.ofString "l0_stop", Str.ofString "base_bytes", Str.ofString "level_factor", Str.ofString "max_mem_level", Str.ofString "grandparent_factor", Str.ofString "expand_factor", Str.ofString "number", Str.ofString "size", Str.ofString "smallest", Str.ofString "largest", Str.ofString "comparator", Str.ofString "log_number", Str.ofString "next_file", Str.ofString "last_seq", Str.ofString "compact_pointers", Str.ofString "deleted", Str.ofString "added", Str.ofString "reset", Str.ofString "order", Str.ofString "files", Str.ofString "refs", Str.ofString "score", Str.ofString "score_level", Str.ofString "base", Str.ofString "dropped", Str.ofString "level", Str.ofString "version", Str.ofString "options", Str.ofString "users", Str.ofString "inputs", Str.ofString "grandparents", Str.ofString "edit", Str.ofString "manual", Str.ofString "grand_at", Str.ofString "grand_octets", Str.ofString "seen_key", Str.ofString "places", Str.ofString "c", Str.ofString "current", Str.ofString "newer", Str.ofString "stop", Str.ofString "compare", Str.ofString "tiny", Str.ofString "overlapping", Str.ofString "candidates", Str.ofString "get", Str.ofString "level_octets", Str.ofString "numbers", Str.ofString "within", Str.ofString "apply", Str.ofString "before", Str.ofString "place", Str.ofString "finish", Str.ofString "grand_limit", Str.ofString "stop_before", Str.ofString "base_level_for", Str.ofString "add_deletions", Str.ofString "needs_compaction", Str.ofString "user_range", Str.ofString "pick", Str.ofString "set_up_other", Str.ofString "turn", Str.ofString "append", Str.ofString "insert"]
noncomputable def fnF (x : Nat) : Str := fnL.getD x default
noncomputable def nfL : Nat := 57
noncomputable def glL : List (Str × Value) := [(Str.ofString "MAX_32", .int 4294967295 282), (Str.ofString "BadOption", .ref 80), (Str.ofString "bytes", .type "bytes"), (Str.ofString "MAX_64", .int 18446744073709551615 284), (Str.ofString "put_fixed32", .ref 89), (Str.ofString "len", .builtin "len"), (Str.ofString "ShortOctets", .ref 68), (Str.ofString "read_fixed32", .ref 103), (Str.ofString "MAX_SEQ", .int 72057594037927935 328), (Str.ofString "KIND_DELETE", .int 0 322), (Str.ofString "KIND_VALUE", .int 1 324), (Str.ofString "put_fixed64", .ref 96), (Str.ofString "pack_tag", .ref 117), (Str.ofString "user_of", .ref 138), (Str.ofString "tag_of", .ref 145), (Str.ofString "Corrupt", .ref 56), (Str.ofString "TAG_LENGTH", .int 8 330), (Str.ofString "read_fixed64", .ref 110), (Str.ofString "BytesOrder", .ref 218), (Str.ofString "CHECK_CRC", .int 1 286), (Str.ofString "CHECK_SUM", .int 2 288), (Str.ofString "range", .type "range"), (Str.ofString "find_file", .ref 386), (Str.ofString "make_ikey", .ref 124), (Str.ofString "KIND_SEEK", .int 1 326), (Str.ofString "split_ikey", .ref 131), (Str.ofString "sorted", .builtin "sorted"), (Str.ofString "Version", .ref 466), (Str.ofString "InternalOrder", .ref 272), (Str.ofString "VersionEdit", .ref 375), (Str.ofString "max_octets_of", .ref 603), (Str.ofString "key_range", .ref 540), (Str.ofString "Compaction", .ref 592), (Str.ofString "total_size", .ref 533), (Str.ofString "_law_user", .ref 708), (Str.ofString "sum", .builtin "sum"), (Str.ofString "FileMeta", .ref 340), (Str.ofString "_law_octets", .ref 720), (Str.ofString "_law_ikey", .ref 715), (Str.ofString "VersionMaker", .ref 522), (Str.ofString "_law_over", .ref 741), (Str.ofString "_law_draw", .ref 701), (Str.ofString "min", .builtin "min"), (Str.ofString "max", .builtin "max"), (Str.ofString "Options", .ref 305), (Str.ofString "_law_lay", .ref 763), (Str.ofString "_law_meta", .ref 727), (Str.ofString "_law_made", .ref 734), (Str.ofString "Picker", .ref 662), (Str.ofString "_law_tells", .ref 746), (Str.ofString "_law_fullest", .ref 751), (Str.ofString "score_of", .ref 610), (Str.ofString "_law_taken", .ref 768), (Str.ofString "_law_left", .ref 756), (Str.ofString "Sieve", .ref 690), (Str.ofString "all", .builtin "all"), (Str.ofString "_law_live", .ref 773)]
noncomputable def c_put_fixed32 : Cx := ⟨⟨[Str.ofString "n"], fnF, glL⟩, ⟨.function,[((Str.ofString "n"),.local), ((Str.ofString "MAX_32"),.globalImplicit), ((Str.ofString "BadOption"),.globalImplicit), ((Str.ofString "bytes"),.globalImplicit)],false,false,[]⟩, [true], [0, 1, 2]⟩
noncomputable def b_put_fixed32 : SL := (⟨(.cons (.if_ (.bop .Or (.cmp .Lt (.loc 0 _) (.int 0 _) _) (.cons (.cmp .Gt (.loc 0 _) (.glob 0 _) _) .nil) _) (.cons (.raw (stAt [12, 0, 0]))
  .nil) .nil _)
  (.cons (.ret (.call (.glob 2 _) (.cons (.list (.cons (.bin .BitAnd (.loc 0 _) (.int 255 _) _) (.cons (.bin .BitAnd (.bin .RShift (.loc 0 _) (.int 8 _) _) (.int 255 _) _) (.cons (.bin .BitAnd (.bin .RShift (.loc 0 _) (.int 16 _) _) (.int 255 _) _) (.cons (.bin .RShift (.loc 0 _) (.int 24 _) _) .nil)))) _) .nil) _) _)
  .nil)), rfl⟩ : { b : SL // b.py c_put_fixed32.N = kids (stAt [12]) }).1
noncomputable def F_put_fixed32 (K : Frag) : Fn := ⟨89, fdOf K 89, c_put_fixed32, b_put_fixed32, 1⟩
noncomputable def c_put_fixed64 : Cx := ⟨⟨[Str.ofString "n"], fnF, glL⟩, ⟨.function,[((Str.ofString "n"),.local), ((Str.ofString "MAX_64"),.globalImplicit), ((Str.ofString "BadOption"),.globalImplicit), ((Str.ofString "put_fixed32"),.globalImplicit), ((Str.ofString "MAX_32"),.globalImplicit)],false,false,[]⟩, [true], [0, 1, 3, 4]⟩
noncomputable def b_put_fixed64 : SL := (⟨(.cons (.if_ (.bop .Or (.cmp .Lt (.loc 0 _) (.int 0 _) _) (.cons (.cmp .Gt (.loc 0 _) (.glob 3 _) _) .nil) _) (.cons (.raw (stAt [13, 0, 0]))
  .nil) .nil _)
  (.cons (.ret (.bin .Add (.call (.glob 4 _) (.cons (.bin .BitAnd (.loc 0 _) (.glob 0 _) _) .nil) _) (.call (.glob 4 _) (.cons (.bin .RShift (.loc 0 _) (.int 32 _) _) .nil) _) _) _)
  .nil)), rfl⟩ : { b : SL // b.py c_put_fixed64.N = kids (stAt [13]) }).1
noncomputable def F_put_fixed64 (K : Frag) : Fn := ⟨96, fdOf K 96, c_put_fixed64, b_put_fixed64, 1⟩
noncomputable def c_read_fixed32 : Cx := ⟨⟨[Str.ofString "data", Str.ofString "at"], fnF, glL⟩, ⟨.function,[((Str.ofString "data"),.local), ((Str.ofString "at"),.local), ((Str.ofString "len"),.globalImplicit), ((Str.ofString "ShortOctets"),.globalImplicit)],false,false,[]⟩, [true, true], [5, 6]⟩
noncomputable def b_read_fixed32 : SL := (⟨(.cons (.if_ (.bop .Or (.cmp .Lt (.loc 1 _) (.int 0 _) _) (.cons (.cmp .Gt (.bin .Add (.loc 1 _) (.int 4 _) _) (.call (.glob 5 _) (.cons (.loc 0 _) .nil) _) _) .nil) _) (.cons (.raw (stAt [14, 0, 0]))
  .nil) .nil _)
  (.cons (.ret (.bin .BitOr (.bin .BitOr (.bin .BitOr (.sub (.loc 0 _) (.loc 1 _) _) (.bin .LShift (.sub (.loc 0 _) (.bin .Add (.loc 1 _) (.int 1 _) _) _) (.int 8 _) _) _) (.bin .LShift (.sub (.loc 0 _) (.bin .Add (.loc 1 _) (.int 2 _) _) _) (.int 16 _) _) _) (.bin .LShift (.sub (.loc 0 _) (.bin .Add (.loc 1 _) (.int 3 _) _) _) (.int 24 _) _) _) _)
  .nil)), rfl⟩ : { b : SL // b.py c_read_fixed32.N = kids (stAt [14]) }).1
noncomputable def F_read_fixed32 (K : Frag) : Fn := ⟨103, fdOf K 103, c_read_fixed32, b_read_fixed32, 2⟩
noncomputable def c_read_fixed64 : Cx := ⟨⟨[Str.ofString "data", Str.ofString "at"], fnF, glL⟩, ⟨.function,[((Str.ofString "data"),.local), ((Str.ofString "at"),.local), ((Str.ofString "len"),.globalImplicit), ((Str.ofString "ShortOctets"),.globalImplicit), ((Str.ofString "read_fixed32"),.globalImplicit)],false,false,[]⟩, [true, true], [5, 6, 7]⟩
noncomputable def b_read_fixed64 : SL := (⟨(.cons (.if_ (.bop .Or (.cmp .Lt (.loc 1 _) (.int 0 _) _) (.cons (.cmp .Gt (.bin .Add (.loc 1 _) (.int 8 _) _) (.call (.glob 5 _) (.cons (.loc 0 _) .nil) _) _) .nil) _) (.cons (.raw (stAt [15, 0, 0]))
  .nil) .nil _)
  (.cons (.ret (.bin .BitOr (.call (.glob 7 _) (.cons (.loc 0 _) (.cons (.loc 1 _) .nil)) _) (.bin .LShift (.call (.glob 7 _) (.cons (.loc 0 _) (.cons (.bin .Add (.loc 1 _) (.int 4 _) _) .nil)) _) (.int 32 _) _) _) _)
  .nil)), rfl⟩ : { b : SL // b.py c_read_fixed64.N = kids (stAt [15]) }).1
noncomputable def F_read_fixed64 (K : Frag) : Fn := ⟨110, fdOf K 110, c_read_fixed64, b_read_fixed64, 2⟩
noncomputable def c_pack_tag : Cx := ⟨⟨[Str.ofString "seq", Str.ofString "kind"], fnF, glL⟩, ⟨.function,[((Str.ofString "seq"),.local), ((Str.ofString "kind"),.local), ((Str.ofString "MAX_SEQ"),.globalImplicit), ((Str.ofString "BadOption"),.globalImplicit), ((Str.ofString "KIND_DELETE"),.globalImplicit), ((Str.ofString "KIND_VALUE"),.globalImplicit)],false,false,[]⟩, [true, true], [1, 8, 9, 10]⟩
noncomputable def b_pack_tag : SL := (⟨(.cons (.if_ (.bop .Or (.cmp .Lt (.loc 0 _) (.int 0 _) _) (.cons (.cmp .Gt (.loc 0 _) (.glob 8 _) _) .nil) _) (.cons (.raw (stAt [25, 0, 0]))
  .nil) .nil _)
  (.cons (.if_ (.bop .And (.cmp .NotEq (.loc 1 _) (.glob 9 _) _) (.cons (.cmp .NotEq (.loc 1 _) (.glob 10 _) _) .nil) _) (.cons (.raw (stAt [25, 1, 0]))
  .nil) .nil _)
  (.cons (.ret (.bin .BitOr (.bin .LShift (.loc 0 _) (.int 8 _) _) (.loc 1 _) _) _)
  .nil))), rfl⟩ : { b : SL // b.py c_pack_tag.N = kids (stAt [25]) }).1
noncomputable def F_pack_tag (K : Frag) : Fn := ⟨117, fdOf K 117, c_pack_tag, b_pack_tag, 2⟩
noncomputable def c_make_ikey : Cx := ⟨⟨[Str.ofString "user", Str.ofString "seq", Str.ofString "kind"], fnF, glL⟩, ⟨.function,[((Str.ofString "user"),.local), ((Str.ofString "seq"),.local), ((Str.ofString "kind"),.local), ((Str.ofString "bytes"),.globalImplicit), ((Str.ofString "put_fixed64"),.globalImplicit), ((Str.ofString "pack_tag"),.globalImplicit)],false,false,[]⟩, [true, true, true], [2, 11, 12]⟩
noncomputable def b_make_ikey : SL := (⟨(.cons (.ret (.bin .Add (.call (.glob 2 _) (.cons (.loc 0 _) .nil) _) (.call (.glob 11 _) (.cons (.call (.glob 12 _) (.cons (.loc 1 _) (.cons (.loc 2 _) .nil)) _) .nil) _) _) _)
  .nil), rfl⟩ : { b : SL // b.py c_make_ikey.N = kids (stAt [26]) }).1
noncomputable def F_make_ikey (K : Frag) : Fn := ⟨124, fdOf K 124, c_make_ikey, b_make_ikey, 3⟩
noncomputable def c_split_ikey : Cx := ⟨⟨[Str.ofString "ik", Str.ofString "user", Str.ofString "tag", Str.ofString "kind"], fnF, glL⟩, ⟨.function,[((Str.ofString "ik"),.local), ((Str.ofString "user"),.local), ((Str.ofString "tag"),.local), ((Str.ofString "kind"),.local), ((Str.ofString "user_of"),.globalImplicit), ((Str.ofString "tag_of"),.globalImplicit), ((Str.ofString "KIND_VALUE"),.globalImplicit), ((Str.ofString "Corrupt"),.globalImplicit)],false,false,[]⟩, [true, true, true, true], [10, 13, 14, 15]⟩
noncomputable def b_split_ikey : SL := (⟨(.cons (.assign (.loc 1 _) (.call (.glob 13 _) (.cons (.loc 0 _) .nil) _) _)
  (.cons (.assign (.loc 2 _) (.call (.glob 14 _) (.cons (.loc 0 _) .nil) _) _)
  (.cons (.assign (.loc 3 _) (.bin .BitAnd (.loc 2 _) (.int 255 _) _) _)
  (.cons (.if_ (.cmp .Gt (.loc 3 _) (.glob 10 _) _) (.cons (.raw (stAt [27, 3, 0]))
  .nil) .nil _)
  (.cons (.ret (.tup (.cons (.loc 1 _) (.cons (.bin .RShift (.loc 2 _) (.int 8 _) _) (.cons (.loc 3 _) .nil))) 0 _) _)
  .nil))))), rfl⟩ : { b : SL // b.py c_split_ikey.N = kids (stAt [27]) }).1
noncomputable def F_split_ikey (K : Frag) : Fn := ⟨131, fdOf K 131, c_split_ikey, b_split_ikey, 1⟩
noncomputable def c_user_of : Cx := ⟨⟨[Str.ofString "ik"], fnF, glL⟩, ⟨.function,[((Str.ofString "ik"),.local), ((Str.ofString "len"),.globalImplicit), ((Str.ofString "TAG_LENGTH"),.globalImplicit), ((Str.ofString "Corrupt"),.globalImplicit), ((Str.ofString "bytes"),.globalImplicit)],false,false,[]⟩, [true], [2, 5, 15, 16]⟩
noncomputable def b_user_of : SL := (⟨(.cons (.if_ (.cmp .Lt (.call (.glob 5 _) (.cons (.loc 0 _) .nil) _) (.glob 16 _) _) (.cons (.raw (stAt [28, 0, 0]))
  .nil) .nil _)
  (.cons (.ret (.call (.glob 2 _) (.cons (.slTo (.loc 0 _) (.bin .Sub (.call (.glob 5 _) (.cons (.loc 0 _) .nil) _) (.glob 16 _) _) _ _) .nil) _) _)
  .nil)), rfl⟩ : { b : SL // b.py c_user_of.N = kids (stAt [28]) }).1
noncomputable def F_user_of (K : Frag) : Fn := ⟨138, fdOf K 138, c_user_of, b_user_of, 1⟩
noncomputable def c_tag_of : Cx := ⟨⟨[Str.ofString "ik"], fnF, glL⟩, ⟨.function,[((Str.ofString "ik"),.local), ((Str.ofString "len"),.globalImplicit), ((Str.ofString "TAG_LENGTH"),.globalImplicit), ((Str.ofString "Corrupt"),.globalImplicit), ((Str.ofString "read_fixed64"),.globalImplicit)],false,false,[]⟩, [true], [5, 15, 16, 17]⟩
noncomputable def b_tag_of : SL := (⟨(.cons (.if_ (.cmp .Lt (.call (.glob 5 _) (.cons (.loc 0 _) .nil) _) (.glob 16 _) _) (.cons (.raw (stAt [29, 0, 0]))
  .nil) .nil _)
  (.cons (.ret (.call (.glob 17 _) (.cons (.loc 0 _) (.cons (.bin .Sub (.call (.glob 5 _) (.cons (.loc 0 _) .nil) _) (.glob 16 _) _) .nil)) _) _)
  .nil)), rfl⟩ : { b : SL // b.py c_tag_of.N = kids (stAt [29]) }).1
noncomputable def F_tag_of (K : Frag) : Fn := ⟨145, fdOf K 145, c_tag_of, b_tag_of, 1⟩
noncomputable def c_Order_compare : Cx := ⟨⟨[Str.ofString "self", Str.ofString "a", Str.ofString "b"], fnF, glL⟩, ⟨.function,[((Str.ofString "self"),.local), ((Str.ofString "a"),.local), ((Str.ofString "b"),.local)],false,false,[]⟩, [true, true, true], []⟩
noncomputable def b_Order_compare : SL := (⟨(.cons (.if_ (.cmp .Lt (.loc 1 _) (.loc 2 _) _) (.cons (.ret (.neg (.int 1 _) _) _)
  .nil) .nil _)
  (.cons (.if_ (.cmp .Gt (.loc 1 _) (.loc 2 _) _) (.cons (.ret (.int 1 _) _)
  .nil) .nil _)
  (.cons (.ret (.int 0 _) _)
  .nil))), rfl⟩ : { b : SL // b.py c_Order_compare.N = kids (stAt [30, 0]) }).1
noncomputable def F_Order_compare (K : Frag) : Fn := ⟨159, fdOf K 159, c_Order_compare, b_Order_compare, 3⟩
noncomputable def c_InternalOrder___init__ : Cx := ⟨⟨[Str.ofString "self"], fnF, glL⟩, ⟨.function,[((Str.ofString "self"),.local), ((Str.ofString "BytesOrder"),.globalImplicit)],false,false,[]⟩, [true], [18]⟩
noncomputable def b_InternalOrder___init__ : SL := (⟨(.cons (.assign (.attr (.loc 0 _) 0 _) (.call (.glob 18 _) .nil _) _)
  .nil), rfl⟩ : { b : SL // b.py c_InternalOrder___init__.N = kids (stAt [32, 0]) }).1
noncomputable def F_InternalOrder___init__ (K : Frag) : Fn := ⟨234, fdOf K 234, c_InternalOrder___init__, b_InternalOrder___init__, 1⟩
noncomputable def c_InternalOrder_compare : Cx := ⟨⟨[Str.ofString "self", Str.ofString "a", Str.ofString "b", Str.ofString "c", Str.ofString "tag_a", Str.ofString "tag_b"], fnF, glL⟩, ⟨.function,[((Str.ofString "self"),.local), ((Str.ofString "a"),.local), ((Str.ofString "b"),.local), ((Str.ofString "c"),.local), ((Str.ofString "tag_a"),.local), ((Str.ofString "tag_b"),.local), ((Str.ofString "user_of"),.globalImplicit), ((Str.ofString "tag_of"),.globalImplicit)],false,false,[]⟩, [true, true, true, true, true, true], [13, 14]⟩
noncomputable def b_InternalOrder_compare : SL := (⟨(.cons (.assign (.loc 3 _) (.meth (.attr (.loc 0 _) 0 _) 57 (.cons (.call (.glob 13 _) (.cons (.loc 1 _) .nil) _) (.cons (.call (.glob 13 _) (.cons (.loc 2 _) .nil) _) .nil)) _ _) _)
  (.cons (.if_ (.cmp .NotEq (.loc 3 _) (.int 0 _) _) (.cons (.ret (.loc 3 _) _)
  .nil) .nil _)
  (.cons (.assign (.loc 4 _) (.call (.glob 14 _) (.cons (.loc 1 _) .nil) _) _)
  (.cons (.assign (.loc 5 _) (.call (.glob 14 _) (.cons (.loc 2 _) .nil) _) _)
  (.cons (.if_ (.cmp .Gt (.loc 4 _) (.loc 5 _) _) (.cons (.ret (.neg (.int 1 _) _) _)
  .nil) .nil _)
  (.cons (.if_ (.cmp .Lt (.loc 4 _) (.loc 5 _) _) (.cons (.ret (.int 1 _) _)
  .nil) .nil _)
  (.cons (.ret (.int 0 _) _)
  .nil))))))), rfl⟩ : { b : SL // b.py c_InternalOrder_compare.N = kids (stAt [32, 1]) }).1
noncomputable def F_InternalOrder_compare (K : Frag) : Fn := ⟨241, fdOf K 241, c_InternalOrder_compare, b_InternalOrder_compare, 3⟩
noncomputable def c_Options___init__ : Cx := ⟨⟨[Str.ofString "self"], fnF, glL⟩, ⟨.function,[((Str.ofString "self"),.local), ((Str.ofString "CHECK_CRC"),.globalImplicit)],false,false,[]⟩, [true], [19]⟩
noncomputable def b_Options___init__ : SL := (⟨(.cons (.assign (.attr (.loc 0 _) 1 _) (.glob 19 _) _)
  (.cons (.assign (.attr (.loc 0 _) 2 _) (.int 32768 _) _)
  (.cons (.assign (.attr (.loc 0 _) 3 _) (.bool true _) _)
  (.cons (.assign (.attr (.loc 0 _) 4 _) (.bool true _) _)
  (.cons (.assign (.attr (.loc 0 _) 5 _) (.bool false _) _)
  (.cons (.assign (.attr (.loc 0 _) 6 _) (.int 4194304 _) _)
  (.cons (.assign (.attr (.loc 0 _) 7 _) (.int 12 _) _)
  (.cons (.assign (.attr (.loc 0 _) 8 _) (.tup (.cons (.int 1 _) (.cons (.int 2 _) (.cons (.int 1 _) (.cons (.int 3 _) (.cons (.int 1 _) (.cons (.int 2 _) (.cons (.int 1 _) (.cons (.int 4 _) .nil)))))))) 0 _) _)
  (.cons (.assign (.attr (.loc 0 _) 9 _) (.int 4096 _) _)
  (.cons (.assign (.attr (.loc 0 _) 10 _) (.int 16 _) _)
  (.cons (.assign (.attr (.loc 0 _) 11 _) (.int 10 _) _)
  (.cons (.assign (.attr (.loc 0 _) 12 _) (.int 11 _) _)
  (.cons (.assign (.attr (.loc 0 _) 13 _) (.int 2097152 _) _)
  (.cons (.assign (.attr (.loc 0 _) 14 _) (.int 7 _) _)
  (.cons (.assign (.attr (.loc 0 _) 15 _) (.int 4 _) _)
  (.cons (.assign (.attr (.loc 0 _) 16 _) (.int 12 _) _)
  (.cons (.assign (.attr (.loc 0 _) 17 _) (.int 10485760 _) _)
  (.cons (.assign (.attr (.loc 0 _) 18 _) (.int 10 _) _)
  (.cons (.assign (.attr (.loc 0 _) 19 _) (.int 2 _) _)
  (.cons (.assign (.attr (.loc 0 _) 20 _) (.int 10 _) _)
  (.cons (.assign (.attr (.loc 0 _) 21 _) (.int 25 _) _)
  .nil))))))))))))))))))))), rfl⟩ : { b : SL // b.py c_Options___init__.N = kids (stAt [33, 0]) }).1
noncomputable def F_Options___init__ (K : Frag) : Fn := ⟨288, fdOf K 288, c_Options___init__, b_Options___init__, 1⟩
noncomputable def c_Options_tiny : Cx := ⟨⟨[Str.ofString "self"], fnF, glL⟩, ⟨.function,[((Str.ofString "self"),.local), ((Str.ofString "CHECK_SUM"),.globalImplicit)],false,false,[]⟩, [true], [20]⟩
noncomputable def b_Options_tiny : SL := (⟨(.cons (.assign (.attr (.loc 0 _) 1 _) (.glob 20 _) _)
  (.cons (.assign (.attr (.loc 0 _) 2 _) (.int 32 _) _)
  (.cons (.assign (.attr (.loc 0 _) 6 _) (.int 96 _) _)
  (.cons (.assign (.attr (.loc 0 _) 7 _) (.int 4 _) _)
  (.cons (.assign (.attr (.loc 0 _) 9 _) (.int 48 _) _)
  (.cons (.assign (.attr (.loc 0 _) 10 _) (.int 2 _) _)
  (.cons (.assign (.attr (.loc 0 _) 11 _) (.int 4 _) _)
  (.cons (.assign (.attr (.loc 0 _) 12 _) (.int 5 _) _)
  (.cons (.assign (.attr (.loc 0 _) 13 _) (.int 128 _) _)
  (.cons (.assign (.attr (.loc 0 _) 14 _) (.int 4 _) _)
  (.cons (.assign (.attr (.loc 0 _) 15 _) (.int 2 _) _)
  (.cons (.assign (.attr (.loc 0 _) 16 _) (.int 4 _) _)
  (.cons (.assign (.attr (.loc 0 _) 17 _) (.int 256 _) _)
  (.cons (.assign (.attr (.loc 0 _) 18 _) (.int 2 _) _)
  (.cons (.ret (.loc 0 _) _)
  .nil))))))))))))))), rfl⟩ : { b : SL // b.py c_Options_tiny.N = kids (stAt [33, 2]) }).1
noncomputable def F_Options_tiny (K : Frag) : Fn := ⟨302, fdOf K 302, c_Options_tiny, b_Options_tiny, 1⟩
noncomputable def c_FileMeta___init__ : Cx := ⟨⟨[Str.ofString "self", Str.ofString "number", Str.ofString "size", Str.ofString "smallest", Str.ofString "largest"], fnF, glL⟩, ⟨.function,[((Str.ofString "self"),.local), ((Str.ofString "number"),.local), ((Str.ofString "size"),.local), ((Str.ofString "smallest"),.local), ((Str.ofString "largest"),.local)],false,false,[]⟩, [true, true, true, true, true], []⟩
noncomputable def b_FileMeta___init__ : SL := (⟨(.cons (.assign (.attr (.loc 0 _) 22 _) (.loc 1 _) _)
  (.cons (.assign (.attr (.loc 0 _) 23 _) (.loc 2 _) _)
  (.cons (.assign (.attr (.loc 0 _) 24 _) (.loc 3 _) _)
  (.cons (.assign (.attr (.loc 0 _) 25 _) (.loc 4 _) _)
  .nil)))), rfl⟩ : { b : SL // b.py c_FileMeta___init__.N = kids (stAt [36, 0]) }).1
noncomputable def F_FileMeta___init__ (K : Frag) : Fn := ⟨330, fdOf K 330, c_FileMeta___init__, b_FileMeta___init__, 5⟩
noncomputable def c_VersionEdit___init__ : Cx := ⟨⟨[Str.ofString "self"], fnF, glL⟩, ⟨.function,[((Str.ofString "self"),.local)],false,false,[]⟩, [true], []⟩
noncomputable def b_VersionEdit___init__ : SL := (⟨(.cons (.assign (.attr (.loc 0 _) 26 _) (.none _) _)
  (.cons (.assign (.attr (.loc 0 _) 27 _) (.none _) _)
  (.cons (.assign (.attr (.loc 0 _) 28 _) (.none _) _)
  (.cons (.assign (.attr (.loc 0 _) 29 _) (.none _) _)
  (.cons (.assign (.attr (.loc 0 _) 30 _) (.list .nil _) _)
  (.cons (.assign (.attr (.loc 0 _) 31 _) (.list .nil _) _)
  (.cons (.assign (.attr (.loc 0 _) 32 _) (.list .nil _) _)
  (.cons (.assign (.attr (.loc 0 _) 33 _) (.bool false _) _)
  .nil)))))))), rfl⟩ : { b : SL // b.py c_VersionEdit___init__.N = kids (stAt [37, 0]) }).1
noncomputable def F_VersionEdit___init__ (K : Frag) : Fn := ⟨358, fdOf K 358, c_VersionEdit___init__, b_VersionEdit___init__, 1⟩
noncomputable def c_find_file : Cx := ⟨⟨[Str.ofString "files", Str.ofString "ikey", Str.ofString "order", Str.ofString "low", Str.ofString "high", Str.ofString "mid"], fnF, glL⟩, ⟨.function,[((Str.ofString "files"),.local), ((Str.ofString "ikey"),.local), ((Str.ofString "order"),.local), ((Str.ofString "low"),.local), ((Str.ofString "high"),.local), ((Str.ofString "mid"),.local), ((Str.ofString "len"),.globalImplicit)],false,false,[]⟩, [true, true, true, true, true, true], [5]⟩
noncomputable def b_find_file : SL := (⟨(.cons (.assign (.loc 3 _) (.int 0 _) _)
  (.cons (.assign (.loc 4 _) (.call (.glob 5 _) (.cons (.loc 0 _) .nil) _) _)
  (.cons (.while_ (.cmp .Lt (.loc 3 _) (.loc 4 _) _) (.cons (.assign (.loc 5 _) (.bin .FloorDiv (.bin .Add (.loc 3 _) (.loc 4 _) _) (.int 2 _) _) _)
  (.cons (.if_ (.cmp .Lt (.meth (.loc 2 _) 57 (.cons (.attr (.sub (.loc 0 _) (.loc 5 _) _) 25 _) (.cons (.loc 1 _) .nil)) _ _) (.int 0 _) _) (.cons (.assign (.loc 3 _) (.bin .Add (.loc 5 _) (.int 1 _) _) _)
  .nil) (.cons (.assign (.loc 4 _) (.loc 5 _) _)
  .nil) _)
  .nil)) _)
  (.cons (.ret (.loc 3 _) _)
  .nil)))), rfl⟩ : { b : SL // b.py c_find_file.N = kids (stAt [38]) }).1
noncomputable def F_find_file (K : Frag) : Fn := ⟨386, fdOf K 386, c_find_file, b_find_file, 3⟩
noncomputable def c_Version___init__ : Cx := ⟨⟨[Str.ofString "self", Str.ofString "num_levels", Str.ofString "order", Str.ofString "level"], fnF, glL⟩, ⟨.function,[((Str.ofString "self"),.local), ((Str.ofString "num_levels"),.local), ((Str.ofString "order"),.local), ((Str.ofString "level"),.local), ((Str.ofString "range"),.globalImplicit)],false,false,[]⟩, [true, true, true, true], [21]⟩
noncomputable def b_Version___init__ : SL := (⟨(.cons (.assign (.attr (.loc 0 _) 14 _) (.loc 1 _) _)
  (.cons (.assign (.attr (.loc 0 _) 34 _) (.loc 2 _) _)
  (.cons (.assign (.attr (.loc 0 _) 35 _) (.list .nil _) _)
  (.cons (.for_ (.loc 3 _) (.call (.glob 21 _) (.cons (.loc 1 _) .nil) _) (.cons (.expr (.meth (.attr (.loc 0 _) 35 _) 78 (.cons (.list .nil _) .nil) _ _) _)
  .nil) _)
  (.cons (.assign (.attr (.loc 0 _) 36 _) (.int 0 _) _)
  (.cons (.assign (.attr (.loc 0 _) 37 _) (.tup (.cons (.int 0 _) (.cons (.int 1 _) .nil)) 0 _) _)
  (.cons (.assign (.attr (.loc 0 _) 38 _) (.neg (.int 1 _) _) _)
  .nil))))))), rfl⟩ : { b : SL // b.py c_Version___init__.N = kids (stAt [39, 0]) }).1
noncomputable def F_Version___init__ (K : Frag) : Fn := ⟨400, fdOf K 400, c_Version___init__, b_Version___init__, 3⟩
noncomputable def c_Version_overlapping : Cx := ⟨⟨[Str.ofString "self", Str.ofString "level", Str.ofString "low_user", Str.ofString "high_user", Str.ofString "low", Str.ofString "high", Str.ofString "found", Str.ofString "i", Str.ofString "meta", Str.ofString "first", Str.ofString "last"], fnF, glL⟩, ⟨.function,[((Str.ofString "self"),.local), ((Str.ofString "level"),.local), ((Str.ofString "low_user"),.local), ((Str.ofString "high_user"),.local), ((Str.ofString "low"),.local), ((Str.ofString "high"),.local), ((Str.ofString "found"),.local), ((Str.ofString "i"),.local), ((Str.ofString "meta"),.local), ((Str.ofString "first"),.local), ((Str.ofString "last"),.local), ((Str.ofString "len"),.globalImplicit), ((Str.ofString "user_of"),.globalImplicit)],false,false,[]⟩, [true, true, true, true, true, true, true, true, true, true, true], [5, 13]⟩
noncomputable def b_Version_overlapping : SL := (⟨(.cons (.assign (.loc 4 _) (.loc 2 _) _)
  (.cons (.assign (.loc 5 _) (.loc 3 _) _)
  (.cons (.assign (.loc 6 _) (.list .nil _) _)
  (.cons (.assign (.loc 7 _) (.int 0 _) _)
  (.cons (.while_ (.cmp .Lt (.loc 7 _) (.call (.glob 5 _) (.cons (.sub (.attr (.loc 0 _) 35 _) (.loc 1 _) _) .nil) _) _) (.cons (.assign (.loc 8 _) (.sub (.sub (.attr (.loc 0 _) 35 _) (.loc 1 _) _) (.loc 7 _) _) _)
  (.cons (.assign (.loc 9 _) (.call (.glob 13 _) (.cons (.attr (.loc 8 _) 24 _) .nil) _) _)
  (.cons (.assign (.loc 10 _) (.call (.glob 13 _) (.cons (.attr (.loc 8 _) 25 _) .nil) _) _)
  (.cons (.augL 7 _ .Add (.int 1 _) _)
  (.cons (.if_ (.bop .And (.cmp .IsNot (.loc 4 _) (.none _) _) (.cons (.cmp .Lt (.loc 10 _) (.loc 4 _) _) .nil) _) (.cons (.cont _)
  .nil) .nil _)
  (.cons (.if_ (.bop .And (.cmp .IsNot (.loc 5 _) (.none _) _) (.cons (.cmp .Gt (.loc 9 _) (.loc 5 _) _) .nil) _) (.cons (.cont _)
  .nil) .nil _)
  (.cons (.expr (.meth (.loc 6 _) 78 (.cons (.loc 8 _) .nil) _ _) _)
  (.cons (.if_ (.cmp .Eq (.loc 1 _) (.int 0 _) _) (.cons (.if_ (.bop .And (.cmp .IsNot (.loc 4 _) (.none _) _) (.cons (.cmp .Lt (.loc 9 _) (.loc 4 _) _) .nil) _) (.cons (.assign (.loc 4 _) (.loc 9 _) _)
  (.cons (.assign (.loc 6 _) (.list .nil _) _)
  (.cons (.assign (.loc 7 _) (.int 0 _) _)
  .nil))) (.cons (.if_ (.bop .And (.cmp .IsNot (.loc 5 _) (.none _) _) (.cons (.cmp .Gt (.loc 10 _) (.loc 5 _) _) .nil) _) (.cons (.assign (.loc 5 _) (.loc 10 _) _)
  (.cons (.assign (.loc 6 _) (.list .nil _) _)
  (.cons (.assign (.loc 7 _) (.int 0 _) _)
  .nil))) .nil _)
  .nil) _)
  .nil) .nil _)
  .nil)))))))) _)
  (.cons (.ret (.loc 6 _) _)
  .nil)))))), rfl⟩ : { b : SL // b.py c_Version_overlapping.N = kids (stAt [39, 1]) }).1
noncomputable def F_Version_overlapping (K : Frag) : Fn := ⟨407, fdOf K 407, c_Version_overlapping, b_Version_overlapping, 4⟩
noncomputable def c_Version_candidates : Cx := ⟨⟨[Str.ofString "self", Str.ofString "ikey", Str.ofString "user", Str.ofString "found", Str.ofString "level0", Str.ofString "i", Str.ofString "meta", Str.ofString "level", Str.ofString "files"], fnF, glL⟩, ⟨.function,[((Str.ofString "self"),.local), ((Str.ofString "ikey"),.local), ((Str.ofString "user"),.local), ((Str.ofString "found"),.local), ((Str.ofString "level0"),.local), ((Str.ofString "i"),.local), ((Str.ofString "meta"),.local), ((Str.ofString "level"),.local), ((Str.ofString "files"),.local), ((Str.ofString "user_of"),.globalImplicit), ((Str.ofString "range"),.globalImplicit), ((Str.ofString "len"),.globalImplicit), ((Str.ofString "find_file"),.globalImplicit)],false,false,[]⟩, [true, true, true, true, true, true, true, true, true], [5, 13, 21, 22]⟩
noncomputable def b_Version_candidates : SL := (⟨(.cons (.assign (.loc 2 _) (.call (.glob 13 _) (.cons (.loc 1 _) .nil) _) _)
  (.cons (.assign (.loc 3 _) (.list .nil _) _)
  (.cons (.assign (.loc 4 _) (.sub (.attr (.loc 0 _) 35 _) (.int 0 _) _) _)
  (.cons (.for_ (.loc 5 _) (.call (.glob 21 _) (.cons (.bin .Sub (.call (.glob 5 _) (.cons (.loc 4 _) .nil) _) (.int 1 _) _) (.cons (.neg (.int 1 _) _) (.cons (.neg (.int 1 _) _) .nil))) _) (.cons (.assign (.loc 6 _) (.sub (.loc 4 _) (.loc 5 _) _) _)
  (.cons (.if_ (.bop .And (.cmp .LtE (.call (.glob 13 _) (.cons (.attr (.loc 6 _) 24 _) .nil) _) (.loc 2 _) _) (.cons (.cmp .LtE (.loc 2 _) (.call (.glob 13 _) (.cons (.attr (.loc 6 _) 25 _) .nil) _) _) .nil) _) (.cons (.expr (.meth (.loc 3 _) 78 (.cons (.tup (.cons (.int 0 _) (.cons (.loc 6 _) .nil)) 0 _) .nil) _ _) _)
  .nil) .nil _)
  .nil)) _)
  (.cons (.for_ (.loc 7 _) (.call (.glob 21 _) (.cons (.int 1 _) (.cons (.attr (.loc 0 _) 14 _) .nil)) _) (.cons (.assign (.loc 8 _) (.sub (.attr (.loc 0 _) 35 _) (.loc 7 _) _) _)
  (.cons (.assign (.loc 5 _) (.call (.glob 22 _) (.cons (.loc 8 _) (.cons (.loc 1 _) (.cons (.attr (.loc 0 _) 34 _) .nil))) _) _)
  (.cons (.if_ (.bop .And (.cmp .Lt (.loc 5 _) (.call (.glob 5 _) (.cons (.loc 8 _) .nil) _) _) (.cons (.cmp .LtE (.call (.glob 13 _) (.cons (.attr (.sub (.loc 8 _) (.loc 5 _) _) 24 _) .nil) _) (.loc 2 _) _) .nil) _) (.cons (.expr (.meth (.loc 3 _) 78 (.cons (.tup (.cons (.loc 7 _) (.cons (.sub (.loc 8 _) (.loc 5 _) _) .nil)) 0 _) .nil) _ _) _)
  .nil) .nil _)
  .nil))) _)
  (.cons (.ret (.loc 3 _) _)
  .nil)))))), rfl⟩ : { b : SL // b.py c_Version_candidates.N = kids (stAt [39, 2]) }).1
noncomputable def F_Version_candidates (K : Frag) : Fn := ⟨414, fdOf K 414, c_Version_candidates, b_Version_candidates, 2⟩
noncomputable def c_Version_get : Cx := ⟨⟨[Str.ofString "self", Str.ofString "cache", Str.ofString "user", Str.ofString "seq", Str.ofString "ikey", Str.ofString "level", Str.ofString "meta", Str.ofString "entry", Str.ofString "there", Str.ofString "its_seq", Str.ofString "kind"], fnF, glL⟩, ⟨.function,[((Str.ofString "self"),.local), ((Str.ofString "cache"),.local), ((Str.ofString "user"),.local), ((Str.ofString "seq"),.local), ((Str.ofString "ikey"),.local), ((Str.ofString "level"),.local), ((Str.ofString "meta"),.local), ((Str.ofString "entry"),.local), ((Str.ofString "there"),.local), ((Str.ofString "its_seq"),.local), ((Str.ofString "kind"),.local), ((Str.ofString "make_ikey"),.globalImplicit), ((Str.ofString "KIND_SEEK"),.globalImplicit), ((Str.ofString "split_ikey"),.globalImplicit), ((Str.ofString "KIND_DELETE"),.globalImplicit), ((Str.ofString "KIND_VALUE"),.globalImplicit)],false,false,[]⟩, [true, true, true, true, true, true, true, true, true, true, true], [9, 10, 23, 24, 25]⟩
noncomputable def b_Version_get : SL := (⟨(.cons (.assign (.loc 4 _) (.call (.glob 23 _) (.cons (.loc 2 _) (.cons (.loc 3 _) (.cons (.glob 24 _) .nil))) _) _)
  (.cons (.for_ (.tup [(5,_), (6,_)] 0 _) (.meth (.loc 0 _) 60 (.cons (.loc 4 _) .nil) _ _) (.cons (.assign (.loc 7 _) (.meth (.loc 1 _) 61 (.cons (.attr (.loc 6 _) 22 _) (.cons (.loc 4 _) .nil)) _ _) _)
  (.cons (.if_ (.cmp .Is (.loc 7 _) (.none _) _) (.cons (.cont _)
  .nil) .nil _)
  (.cons (.assign (.tup [(8,_), (9,_), (10,_)] 0 _) (.call (.glob 25 _) (.cons (.sub (.loc 7 _) (.int 0 _) _) .nil) _) _)
  (.cons (.if_ (.cmp .Eq (.loc 8 _) (.loc 2 _) _) (.cons (.if_ (.cmp .Eq (.loc 10 _) (.glob 9 _) _) (.cons (.ret (.tup (.cons (.bool true _) (.cons (.glob 9 _) (.cons (.byt [] _) .nil))) 0 _) _)
  .nil) .nil _)
  (.cons (.ret (.tup (.cons (.bool true _) (.cons (.glob 10 _) (.cons (.sub (.loc 7 _) (.int 1 _) _) .nil))) 0 _) _)
  .nil)) .nil _)
  .nil)))) _)
  (.cons (.ret (.tup (.cons (.bool false _) (.cons (.int 0 _) (.cons (.byt [] _) .nil))) 0 _) _)
  .nil))), rfl⟩ : { b : SL // b.py c_Version_get.N = kids (stAt [39, 3]) }).1
noncomputable def F_Version_get (K : Frag) : Fn := ⟨421, fdOf K 421, c_Version_get, b_Version_get, 4⟩
noncomputable def c_Version_level_octets : Cx := ⟨⟨[Str.ofString "self", Str.ofString "level", Str.ofString "octets", Str.ofString "meta"], fnF, glL⟩, ⟨.function,[((Str.ofString "self"),.local), ((Str.ofString "level"),.local), ((Str.ofString "octets"),.local), ((Str.ofString "meta"),.local)],false,false,[]⟩, [true, true, true, true], []⟩
noncomputable def b_Version_level_octets : SL := (⟨(.cons (.assign (.loc 2 _) (.int 0 _) _)
  (.cons (.for_ (.loc 3 _) (.sub (.attr (.loc 0 _) 35 _) (.loc 1 _) _) (.cons (.augL 2 _ .Add (.attr (.loc 3 _) 23 _) _)
  .nil) _)
  (.cons (.ret (.loc 2 _) _)
  .nil))), rfl⟩ : { b : SL // b.py c_Version_level_octets.N = kids (stAt [39, 6]) }).1
noncomputable def F_Version_level_octets (K : Frag) : Fn := ⟨442, fdOf K 442, c_Version_level_octets, b_Version_level_octets, 2⟩
noncomputable def c_Version_numbers : Cx := ⟨⟨[Str.ofString "self", Str.ofString "found", Str.ofString "files", Str.ofString "meta"], fnF, glL⟩, ⟨.function,[((Str.ofString "self"),.local), ((Str.ofString "found"),.local), ((Str.ofString "files"),.local), ((Str.ofString "meta"),.local), ((Str.ofString "sorted"),.globalImplicit)],false,false,[]⟩, [true, true, true, true], [26]⟩
noncomputable def b_Version_numbers : SL := (⟨(.cons (.assign (.loc 1 _) (.list .nil _) _)
  (.cons (.for_ (.loc 2 _) (.attr (.loc 0 _) 35 _) (.cons (.for_ (.loc 3 _) (.loc 2 _) (.cons (.expr (.meth (.loc 1 _) 78 (.cons (.attr (.loc 3 _) 22 _) .nil) _ _) _)
  .nil) _)
  .nil) _)
  (.cons (.ret (.call (.glob 26 _) (.cons (.loc 1 _) .nil) _) _)
  .nil))), rfl⟩ : { b : SL // b.py c_Version_numbers.N = kids (stAt [39, 7]) }).1
noncomputable def F_Version_numbers (K : Frag) : Fn := ⟨449, fdOf K 449, c_Version_numbers, b_Version_numbers, 1⟩
noncomputable def c_Version_check : Cx := ⟨⟨[Str.ofString "self", Str.ofString "numbers", Str.ofString "i", Str.ofString "level", Str.ofString "files", Str.ofString "meta", Str.ofString "before"], fnF, glL⟩, ⟨.function,[((Str.ofString "self"),.local), ((Str.ofString "numbers"),.local), ((Str.ofString "i"),.local), ((Str.ofString "level"),.local), ((Str.ofString "files"),.local), ((Str.ofString "meta"),.local), ((Str.ofString "before"),.local), ((Str.ofString "range"),.globalImplicit), ((Str.ofString "len"),.globalImplicit), ((Str.ofString "Corrupt"),.globalImplicit), ((Str.ofString "user_of"),.globalImplicit)],false,false,[]⟩, [true, true, true, true, true, true, true], [5, 13, 15, 21]⟩
noncomputable def b_Version_check : SL := (⟨(.cons (.assign (.loc 1 _) (.meth (.loc 0 _) 63 .nil _ _) _)
  (.cons (.for_ (.loc 2 _) (.call (.glob 21 _) (.cons (.int 1 _) (.cons (.call (.glob 5 _) (.cons (.loc 1 _) .nil) _) .nil)) _) (.cons (.if_ (.cmp .Eq (.sub (.loc 1 _) (.bin .Sub (.loc 2 _) (.int 1 _) _) _) (.sub (.loc 1 _) (.loc 2 _) _) _) (.cons (.raw (stAt [39, 9, 1, 0, 0]))
  .nil) .nil _)
  .nil) _)
  (.cons (.for_ (.loc 3 _) (.call (.glob 21 _) (.cons (.attr (.loc 0 _) 14 _) .nil) _) (.cons (.assign (.loc 4 _) (.sub (.attr (.loc 0 _) 35 _) (.loc 3 _) _) _)
  (.cons (.for_ (.loc 2 _) (.call (.glob 21 _) (.cons (.call (.glob 5 _) (.cons (.loc 4 _) .nil) _) .nil) _) (.cons (.assign (.loc 5 _) (.sub (.loc 4 _) (.loc 2 _) _) _)
  (.cons (.if_ (.cmp .Gt (.meth (.attr (.loc 0 _) 34 _) 57 (.cons (.attr (.loc 5 _) 24 _) (.cons (.attr (.loc 5 _) 25 _) .nil)) _ _) (.int 0 _) _) (.cons (.raw (stAt [39, 9, 2, 1, 1, 0]))
  .nil) .nil _)
  (.cons (.if_ (.cmp .Eq (.loc 2 _) (.int 0 _) _) (.cons (.cont _)
  .nil) .nil _)
  (.cons (.assign (.loc 6 _) (.sub (.loc 4 _) (.bin .Sub (.loc 2 _) (.int 1 _) _) _) _)
  (.cons (.if_ (.cmp .Eq (.loc 3 _) (.int 0 _) _) (.cons (.if_ (.cmp .GtE (.attr (.loc 6 _) 22 _) (.attr (.loc 5 _) 22 _) _) (.cons (.raw (stAt [39, 9, 2, 1, 4, 0, 0]))
  .nil) .nil _)
  .nil) (.cons (.if_ (.cmp .GtE (.call (.glob 13 _) (.cons (.attr (.loc 6 _) 25 _) .nil) _) (.call (.glob 13 _) (.cons (.attr (.loc 5 _) 24 _) .nil) _) _) (.cons (.raw (stAt [39, 9, 2, 1, 4, 1, 0]))
  .nil) .nil _)
  .nil) _)
  .nil))))) _)
  .nil)) _)
  .nil))), rfl⟩ : { b : SL // b.py c_Version_check.N = kids (stAt [39, 9]) }).1
noncomputable def F_Version_check (K : Frag) : Fn := ⟨463, fdOf K 463, c_Version_check, b_Version_check, 1⟩
noncomputable def c_VersionMaker___init__ : Cx := ⟨⟨[Str.ofString "self", Str.ofString "base", Str.ofString "level"], fnF, glL⟩, ⟨.function,[((Str.ofString "self"),.local), ((Str.ofString "base"),.local), ((Str.ofString "level"),.local), ((Str.ofString "range"),.globalImplicit)],false,false,[]⟩, [true, true, true], [21]⟩
noncomputable def b_VersionMaker___init__ : SL := (⟨(.cons (.assign (.attr (.loc 0 _) 39 _) (.loc 1 _) _)
  (.cons (.assign (.attr (.loc 0 _) 40 _) (.bool false _) _)
  (.cons (.assign (.attr (.loc 0 _) 31 _) (.list .nil _) _)
  (.cons (.assign (.attr (.loc 0 _) 32 _) (.list .nil _) _)
  (.cons (.for_ (.loc 2 _) (.call (.glob 21 _) (.cons (.attr (.loc 1 _) 14 _) .nil) _) (.cons (.expr (.meth (.attr (.loc 0 _) 31 _) 78 (.cons (.dict0 _) .nil) _ _) _)
  (.cons (.expr (.meth (.attr (.loc 0 _) 32 _) 78 (.cons (.dict0 _) .nil) _ _) _)
  .nil)) _)
  .nil))))), rfl⟩ : { b : SL // b.py c_VersionMaker___init__.N = kids (stAt [40, 0]) }).1
noncomputable def F_VersionMaker___init__ (K : Frag) : Fn := ⟨484, fdOf K 484, c_VersionMaker___init__, b_VersionMaker___init__, 2⟩
noncomputable def c_VersionMaker_within : Cx := ⟨⟨[Str.ofString "self", Str.ofString "level"], fnF, glL⟩, ⟨.function,[((Str.ofString "self"),.local), ((Str.ofString "level"),.local), ((Str.ofString "Corrupt"),.globalImplicit)],false,false,[]⟩, [true, true], [15]⟩
noncomputable def b_VersionMaker_within : SL := (⟨(.cons (.if_ (.bop .Or (.cmp .Lt (.loc 1 _) (.int 0 _) _) (.cons (.cmp .GtE (.loc 1 _) (.attr (.attr (.loc 0 _) 39 _) 14 _) _) .nil) _) (.cons (.raw (stAt [40, 1, 0, 0]))
  .nil) .nil _)
  .nil), rfl⟩ : { b : SL // b.py c_VersionMaker_within.N = kids (stAt [40, 1]) }).1
noncomputable def F_VersionMaker_within (K : Frag) : Fn := ⟨491, fdOf K 491, c_VersionMaker_within, b_VersionMaker_within, 2⟩
noncomputable def c_VersionMaker_apply : Cx := ⟨⟨[Str.ofString "self", Str.ofString "edit", Str.ofString "level", Str.ofString "number", Str.ofString "meta"], fnF, glL⟩, ⟨.function,[((Str.ofString "self"),.local), ((Str.ofString "edit"),.local), ((Str.ofString "level"),.local), ((Str.ofString "number"),.local), ((Str.ofString "meta"),.local), ((Str.ofString "range"),.globalImplicit)],false,false,[]⟩, [true, true, true, true, true], [21]⟩
noncomputable def b_VersionMaker_apply : SL := (⟨(.cons (.for_ (.tup [(2,_), (3,_)] 0 _) (.attr (.loc 1 _) 31 _) (.cons (.expr (.meth (.loc 0 _) 64 (.cons (.loc 2 _) .nil) _ _) _)
  .nil) _)
  (.cons (.for_ (.tup [(2,_), (4,_)] 0 _) (.attr (.loc 1 _) 32 _) (.cons (.expr (.meth (.loc 0 _) 64 (.cons (.loc 2 _) .nil) _ _) _)
  .nil) _)
  (.cons (.if_ (.attr (.loc 1 _) 33 _) (.cons (.assign (.attr (.loc 0 _) 40 _) (.bool true _) _)
  (.cons (.for_ (.loc 2 _) (.call (.glob 21 _) (.cons (.attr (.attr (.loc 0 _) 39 _) 14 _) .nil) _) (.cons (.assign (.sub (.attr (.loc 0 _) 31 _) (.loc 2 _) _) (.dict0 _) _)
  (.cons (.assign (.sub (.attr (.loc 0 _) 32 _) (.loc 2 _) _) (.dict0 _) _)
  .nil)) _)
  .nil)) .nil _)
  (.cons (.for_ (.tup [(2,_), (3,_)] 0 _) (.attr (.loc 1 _) 31 _) (.cons (.assign (.sub (.sub (.attr (.loc 0 _) 31 _) (.loc 2 _) _) (.loc 3 _) _) (.bool true _) _)
  (.cons (.if_ (.cmp .In (.loc 3 _) (.sub (.attr (.loc 0 _) 32 _) (.loc 2 _) _) _) (.cons (.raw (stAt [40, 2, 3, 1, 0]))
  .nil) .nil _)
  .nil)) _)
  (.cons (.for_ (.tup [(2,_), (4,_)] 0 _) (.attr (.loc 1 _) 32 _) (.cons (.assign (.sub (.sub (.attr (.loc 0 _) 32 _) (.loc 2 _) _) (.attr (.loc 4 _) 22 _) _) (.loc 4 _) _)
  (.cons (.if_ (.cmp .In (.attr (.loc 4 _) 22 _) (.sub (.attr (.loc 0 _) 31 _) (.loc 2 _) _) _) (.cons (.raw (stAt [40, 2, 4, 1, 0]))
  .nil) .nil _)
  .nil)) _)
  .nil))))), rfl⟩ : { b : SL // b.py c_VersionMaker_apply.N = kids (stAt [40, 2]) }).1
noncomputable def F_VersionMaker_apply (K : Frag) : Fn := ⟨498, fdOf K 498, c_VersionMaker_apply, b_VersionMaker_apply, 2⟩
noncomputable def c_VersionMaker_before : Cx := ⟨⟨[Str.ofString "self", Str.ofString "level", Str.ofString "a", Str.ofString "b", Str.ofString "c"], fnF, glL⟩, ⟨.function,[((Str.ofString "self"),.local), ((Str.ofString "level"),.local), ((Str.ofString "a"),.local), ((Str.ofString "b"),.local), ((Str.ofString "c"),.local)],false,false,[]⟩, [true, true, true, true, true], []⟩
noncomputable def b_VersionMaker_before : SL := (⟨(.cons (.if_ (.cmp .Gt (.loc 1 _) (.int 0 _) _) (.cons (.assign (.loc 4 _) (.meth (.attr (.attr (.loc 0 _) 39 _) 34 _) 57 (.cons (.attr (.loc 2 _) 24 _) (.cons (.attr (.loc 3 _) 24 _) .nil)) _ _) _)
  (.cons (.if_ (.cmp .NotEq (.loc 4 _) (.int 0 _) _) (.cons (.ret (.cmp .Lt (.loc 4 _) (.int 0 _) _) _)
  .nil) .nil _)
  .nil)) .nil _)
  (.cons (.ret (.cmp .Lt (.attr (.loc 2 _) 22 _) (.attr (.loc 3 _) 22 _) _) _)
  .nil)), rfl⟩ : { b : SL // b.py c_VersionMaker_before.N = kids (stAt [40, 3]) }).1
noncomputable def F_VersionMaker_before (K : Frag) : Fn := ⟨505, fdOf K 505, c_VersionMaker_before, b_VersionMaker_before, 4⟩
noncomputable def c_VersionMaker_place : Cx := ⟨⟨[Str.ofString "self", Str.ofString "level", Str.ofString "files", Str.ofString "meta", Str.ofString "low", Str.ofString "high", Str.ofString "mid"], fnF, glL⟩, ⟨.function,[((Str.ofString "self"),.local), ((Str.ofString "level"),.local), ((Str.ofString "files"),.local), ((Str.ofString "meta"),.local), ((Str.ofString "low"),.local), ((Str.ofString "high"),.local), ((Str.ofString "mid"),.local), ((Str.ofString "len"),.globalImplicit)],false,false,[]⟩, [true, true, true, true, true, true, true], [5]⟩
noncomputable def b_VersionMaker_place : SL := (⟨(.cons (.assign (.loc 4 _) (.int 0 _) _)
  (.cons (.assign (.loc 5 _) (.call (.glob 5 _) (.cons (.loc 2 _) .nil) _) _)
  (.cons (.while_ (.cmp .Lt (.loc 4 _) (.loc 5 _) _) (.cons (.assign (.loc 6 _) (.bin .FloorDiv (.bin .Add (.loc 4 _) (.loc 5 _) _) (.int 2 _) _) _)
  (.cons (.if_ (.meth (.loc 0 _) 66 (.cons (.loc 1 _) (.cons (.sub (.loc 2 _) (.loc 6 _) _) (.cons (.loc 3 _) .nil))) _ _) (.cons (.assign (.loc 4 _) (.bin .Add (.loc 6 _) (.int 1 _) _) _)
  .nil) (.cons (.assign (.loc 5 _) (.loc 6 _) _)
  .nil) _)
  .nil)) _)
  (.cons (.expr (.meth (.loc 2 _) 79 (.cons (.loc 4 _) (.cons (.loc 3 _) .nil)) _ _) _)
  .nil)))), rfl⟩ : { b : SL // b.py c_VersionMaker_place.N = kids (stAt [40, 4]) }).1
noncomputable def F_VersionMaker_place (K : Frag) : Fn := ⟨512, fdOf K 512, c_VersionMaker_place, b_VersionMaker_place, 4⟩
noncomputable def c_VersionMaker_finish : Cx := ⟨⟨[Str.ofString "self", Str.ofString "made", Str.ofString "level", Str.ofString "files", Str.ofString "meta", Str.ofString "number"], fnF, glL⟩, ⟨.function,[((Str.ofString "self"),.local), ((Str.ofString "made"),.local), ((Str.ofString "level"),.local), ((Str.ofString "files"),.local), ((Str.ofString "meta"),.local), ((Str.ofString "number"),.local), ((Str.ofString "Version"),.globalImplicit), ((Str.ofString "range"),.globalImplicit), ((Str.ofString "sorted"),.globalImplicit)],false,false,[]⟩, [true, true, true, true, true, true], [21, 26, 27]⟩
noncomputable def b_VersionMaker_finish : SL := (⟨(.cons (.assign (.loc 1 _) (.call (.glob 27 _) (.cons (.attr (.attr (.loc 0 _) 39 _) 14 _) (.cons (.attr (.attr (.loc 0 _) 39 _) 34 _) .nil)) _) _)
  (.cons (.for_ (.loc 2 _) (.call (.glob 21 _) (.cons (.attr (.attr (.loc 0 _) 39 _) 14 _) .nil) _) (.cons (.assign (.loc 3 _) (.sub (.attr (.loc 1 _) 35 _) (.loc 2 _) _) _)
  (.cons (.if_ (.not (.attr (.loc 0 _) 40 _) _) (.cons (.for_ (.loc 4 _) (.sub (.attr (.attr (.loc 0 _) 39 _) 35 _) (.loc 2 _) _) (.cons (.if_ (.cmp .In (.attr (.loc 4 _) 22 _) (.sub (.attr (.loc 0 _) 31 _) (.loc 2 _) _) _) (.cons (.cont _)
  .nil) .nil _)
  (.cons (.if_ (.cmp .In (.attr (.loc 4 _) 22 _) (.sub (.attr (.loc 0 _) 32 _) (.loc 2 _) _) _) (.cons (.cont _)
  .nil) .nil _)
  (.cons (.expr (.meth (.loc 3 _) 78 (.cons (.loc 4 _) .nil) _ _) _)
  .nil))) _)
  .nil) .nil _)
  (.cons (.for_ (.loc 5 _) (.call (.glob 26 _) (.cons (.sub (.attr (.loc 0 _) 32 _) (.loc 2 _) _) .nil) _) (.cons (.expr (.meth (.loc 0 _) 67 (.cons (.loc 2 _) (.cons (.loc 3 _) (.cons (.sub (.sub (.attr (.loc 0 _) 32 _) (.loc 2 _) _) (.loc 5 _) _) .nil))) _ _) _)
  .nil) _)
  .nil))) _)
  (.cons (.expr (.meth (.loc 1 _) 1 .nil _ _) _)
  (.cons (.ret (.loc 1 _) _)
  .nil)))), rfl⟩ : { b : SL // b.py c_VersionMaker_finish.N = kids (stAt [40, 5]) }).1
noncomputable def F_VersionMaker_finish (K : Frag) : Fn := ⟨519, fdOf K 519, c_VersionMaker_finish, b_VersionMaker_finish, 1⟩
noncomputable def c_total_size : Cx := ⟨⟨[Str.ofString "files", Str.ofString "total", Str.ofString "meta"], fnF, glL⟩, ⟨.function,[((Str.ofString "files"),.local), ((Str.ofString "total"),.local), ((Str.ofString "meta"),.local)],false,false,[]⟩, [true, true, true], []⟩
noncomputable def b_total_size : SL := (⟨(.cons (.assign (.loc 1 _) (.int 0 _) _)
  (.cons (.for_ (.loc 2 _) (.loc 0 _) (.cons (.augL 1 _ .Add (.attr (.loc 2 _) 23 _) _)
  .nil) _)
  (.cons (.ret (.loc 1 _) _)
  .nil))), rfl⟩ : { b : SL // b.py c_total_size.N = kids (stAt [42]) }).1
noncomputable def F_total_size (K : Frag) : Fn := ⟨533, fdOf K 533, c_total_size, b_total_size, 1⟩
noncomputable def c_key_range : Cx := ⟨⟨[Str.ofString "files", Str.ofString "order", Str.ofString "smallest", Str.ofString "largest", Str.ofString "meta"], fnF, glL⟩, ⟨.function,[((Str.ofString "files"),.local), ((Str.ofString "order"),.local), ((Str.ofString "smallest"),.local), ((Str.ofString "largest"),.local), ((Str.ofString "meta"),.local)],false,false,[]⟩, [true, true, true, true, true], []⟩
noncomputable def b_key_range : SL := (⟨(.cons (.assign (.loc 2 _) (.attr (.sub (.loc 0 _) (.int 0 _) _) 24 _) _)
  (.cons (.assign (.loc 3 _) (.attr (.sub (.loc 0 _) (.int 0 _) _) 25 _) _)
  (.cons (.for_ (.loc 4 _) (.slFrom (.loc 0 _) (.int 1 _) _ _) (.cons (.if_ (.cmp .Lt (.meth (.loc 1 _) 57 (.cons (.attr (.loc 4 _) 24 _) (.cons (.loc 2 _) .nil)) _ _) (.int 0 _) _) (.cons (.assign (.loc 2 _) (.attr (.loc 4 _) 24 _) _)
  .nil) .nil _)
  (.cons (.if_ (.cmp .Gt (.meth (.loc 1 _) 57 (.cons (.attr (.loc 4 _) 25 _) (.cons (.loc 3 _) .nil)) _ _) (.int 0 _) _) (.cons (.assign (.loc 3 _) (.attr (.loc 4 _) 25 _) _)
  .nil) .nil _)
  .nil)) _)
  (.cons (.ret (.tup (.cons (.loc 2 _) (.cons (.loc 3 _) .nil)) 0 _) _)
  .nil)))), rfl⟩ : { b : SL // b.py c_key_range.N = kids (stAt [43]) }).1
noncomputable def F_key_range (K : Frag) : Fn := ⟨540, fdOf K 540, c_key_range, b_key_range, 2⟩
noncomputable def c_Compaction___init__ : Cx := ⟨⟨[Str.ofString "self", Str.ofString "level", Str.ofString "version", Str.ofString "options"], fnF, glL⟩, ⟨.function,[((Str.ofString "self"),.local), ((Str.ofString "level"),.local), ((Str.ofString "version"),.local), ((Str.ofString "options"),.local), ((Str.ofString "InternalOrder"),.globalImplicit), ((Str.ofString "BytesOrder"),.globalImplicit), ((Str.ofString "VersionEdit"),.globalImplicit)],false,false,[]⟩, [true, true, true, true], [18, 28, 29]⟩
noncomputable def b_Compaction___init__ : SL := (⟨(.cons (.assign (.attr (.loc 0 _) 41 _) (.loc 1 _) _)
  (.cons (.assign (.attr (.loc 0 _) 42 _) (.loc 2 _) _)
  (.cons (.assign (.attr (.loc 0 _) 43 _) (.loc 3 _) _)
  (.cons (.assign (.attr (.loc 0 _) 34 _) (.call (.glob 28 _) .nil _) _)
  (.cons (.assign (.attr (.loc 0 _) 44 _) (.call (.glob 18 _) .nil _) _)
  (.cons (.assign (.attr (.loc 0 _) 45 _) (.list (.cons (.list .nil _) (.cons (.list .nil _) .nil)) _) _)
  (.cons (.assign (.attr (.loc 0 _) 46 _) (.list .nil _) _)
  (.cons (.assign (.attr (.loc 0 _) 47 _) (.call (.glob 29 _) .nil _) _)
  (.cons (.assign (.attr (.loc 0 _) 48 _) (.bool false _) _)
  (.cons (.assign (.attr (.loc 0 _) 49 _) (.int 0 _) _)
  (.cons (.assign (.attr (.loc 0 _) 50 _) (.int 0 _) _)
  (.cons (.assign (.attr (.loc 0 _) 51 _) (.bool false _) _)
  (.cons (.assign (.attr (.loc 0 _) 52 _) (.bin .Mult (.list (.cons (.int 0 _) .nil) _) (.attr (.loc 3 _) 14 _) _) _)
  .nil))))))))))))), rfl⟩ : { b : SL // b.py c_Compaction___init__.N = kids (stAt [44, 0]) }).1
noncomputable def F_Compaction___init__ (K : Frag) : Fn := ⟨554, fdOf K 554, c_Compaction___init__, b_Compaction___init__, 4⟩
noncomputable def c_Compaction_grand_limit : Cx := ⟨⟨[Str.ofString "self"], fnF, glL⟩, ⟨.function,[((Str.ofString "self"),.local)],false,false,[]⟩, [true], []⟩
noncomputable def b_Compaction_grand_limit : SL := (⟨(.cons (.ret (.bin .Mult (.attr (.attr (.loc 0 _) 43 _) 20 _) (.attr (.attr (.loc 0 _) 43 _) 13 _) _) _)
  .nil), rfl⟩ : { b : SL // b.py c_Compaction_grand_limit.N = kids (stAt [44, 1]) }).1
noncomputable def F_Compaction_grand_limit (K : Frag) : Fn := ⟨561, fdOf K 561, c_Compaction_grand_limit, b_Compaction_grand_limit, 1⟩
noncomputable def c_Compaction_stop_before : Cx := ⟨⟨[Str.ofString "self", Str.ofString "ikey", Str.ofString "meta"], fnF, glL⟩, ⟨.function,[((Str.ofString "self"),.local), ((Str.ofString "ikey"),.local), ((Str.ofString "meta"),.local), ((Str.ofString "len"),.globalImplicit)],false,false,[]⟩, [true, true, true], [5]⟩
noncomputable def b_Compaction_stop_before : SL := (⟨(.cons (.while_ (.cmp .Lt (.attr (.loc 0 _) 49 _) (.call (.glob 5 _) (.cons (.attr (.loc 0 _) 46 _) .nil) _) _) (.cons (.assign (.loc 2 _) (.sub (.attr (.loc 0 _) 46 _) (.attr (.loc 0 _) 49 _) _) _)
  (.cons (.if_ (.cmp .LtE (.meth (.attr (.loc 0 _) 34 _) 57 (.cons (.loc 1 _) (.cons (.attr (.loc 2 _) 25 _) .nil)) _ _) (.int 0 _) _) (.cons (.brk _)
  .nil) .nil _)
  (.cons (.if_ (.attr (.loc 0 _) 51 _) (.cons (.augA (.loc 0 _) 50 _ .Add (.attr (.loc 2 _) 23 _) _)
  .nil) .nil _)
  (.cons (.augA (.loc 0 _) 49 _ .Add (.int 1 _) _)
  .nil)))) _)
  (.cons (.assign (.attr (.loc 0 _) 51 _) (.bool true _) _)
  (.cons (.if_ (.cmp .Gt (.attr (.loc 0 _) 50 _) (.meth (.loc 0 _) 69 .nil _ _) _) (.cons (.assign (.attr (.loc 0 _) 50 _) (.int 0 _) _)
  (.cons (.ret (.bool true _) _)
  .nil)) .nil _)
  (.cons (.ret (.bool false _) _)
  .nil)))), rfl⟩ : { b : SL // b.py c_Compaction_stop_before.N = kids (stAt [44, 3]) }).1
noncomputable def F_Compaction_stop_before (K : Frag) : Fn := ⟨575, fdOf K 575, c_Compaction_stop_before, b_Compaction_stop_before, 2⟩
noncomputable def c_Compaction_base_level_for : Cx := ⟨⟨[Str.ofString "self", Str.ofString "user", Str.ofString "level", Str.ofString "files", Str.ofString "meta"], fnF, glL⟩, ⟨.function,[((Str.ofString "self"),.local), ((Str.ofString "user"),.local), ((Str.ofString "level"),.local), ((Str.ofString "files"),.local), ((Str.ofString "meta"),.local), ((Str.ofString "range"),.globalImplicit), ((Str.ofString "len"),.globalImplicit), ((Str.ofString "user_of"),.globalImplicit)],false,false,[]⟩, [true, true, true, true, true], [5, 13, 21]⟩
noncomputable def b_Compaction_base_level_for : SL := (⟨(.cons (.for_ (.loc 2 _) (.call (.glob 21 _) (.cons (.bin .Add (.attr (.loc 0 _) 41 _) (.int 2 _) _) (.cons (.attr (.attr (.loc 0 _) 43 _) 14 _) .nil)) _) (.cons (.assign (.loc 3 _) (.sub (.attr (.attr (.loc 0 _) 42 _) 35 _) (.loc 2 _) _) _)
  (.cons (.while_ (.cmp .Lt (.sub (.attr (.loc 0 _) 52 _) (.loc 2 _) _) (.call (.glob 5 _) (.cons (.loc 3 _) .nil) _) _) (.cons (.assign (.loc 4 _) (.sub (.loc 3 _) (.sub (.attr (.loc 0 _) 52 _) (.loc 2 _) _) _) _)
  (.cons (.if_ (.cmp .LtE (.meth (.attr (.loc 0 _) 44 _) 57 (.cons (.loc 1 _) (.cons (.call (.glob 13 _) (.cons (.attr (.loc 4 _) 25 _) .nil) _) .nil)) _ _) (.int 0 _) _) (.cons (.if_ (.cmp .GtE (.meth (.attr (.loc 0 _) 44 _) 57 (.cons (.loc 1 _) (.cons (.call (.glob 13 _) (.cons (.attr (.loc 4 _) 24 _) .nil) _) .nil)) _ _) (.int 0 _) _) (.cons (.ret (.bool false _) _)
  .nil) .nil _)
  (.cons (.brk _)
  .nil)) .nil _)
  (.cons (.augI (.attr (.loc 0 _) 52 _) (.loc 2 _) _ .Add (.int 1 _) _)
  .nil))) _)
  .nil)) _)
  (.cons (.ret (.bool true _) _)
  .nil)), rfl⟩ : { b : SL // b.py c_Compaction_base_level_for.N = kids (stAt [44, 4]) }).1
noncomputable def F_Compaction_base_level_for (K : Frag) : Fn := ⟨582, fdOf K 582, c_Compaction_base_level_for, b_Compaction_base_level_for, 2⟩
noncomputable def c_Compaction_add_deletions : Cx := ⟨⟨[Str.ofString "self", Str.ofString "side", Str.ofString "meta"], fnF, glL⟩, ⟨.function,[((Str.ofString "self"),.local), ((Str.ofString "side"),.local), ((Str.ofString "meta"),.local), ((Str.ofString "range"),.globalImplicit)],false,false,[]⟩, [true, true, true], [21]⟩
noncomputable def b_Compaction_add_deletions : SL := (⟨(.cons (.for_ (.loc 1 _) (.call (.glob 21 _) (.cons (.int 2 _) .nil) _) (.cons (.for_ (.loc 2 _) (.sub (.attr (.loc 0 _) 45 _) (.loc 1 _) _) (.cons (.expr (.meth (.attr (.attr (.loc 0 _) 47 _) 31 _) 78 (.cons (.tup (.cons (.bin .Add (.attr (.loc 0 _) 41 _) (.loc 1 _) _) (.cons (.attr (.loc 2 _) 22 _) .nil)) 0 _) .nil) _ _) _)
  .nil) _)
  .nil) _)
  .nil), rfl⟩ : { b : SL // b.py c_Compaction_add_deletions.N = kids (stAt [44, 5]) }).1
noncomputable def F_Compaction_add_deletions (K : Frag) : Fn := ⟨589, fdOf K 589, c_Compaction_add_deletions, b_Compaction_add_deletions, 1⟩
noncomputable def c_max_octets_of : Cx := ⟨⟨[Str.ofString "options", Str.ofString "level", Str.ofString "result"], fnF, glL⟩, ⟨.function,[((Str.ofString "options"),.local), ((Str.ofString "level"),.local), ((Str.ofString "result"),.local)],false,false,[]⟩, [true, true, true], []⟩
noncomputable def b_max_octets_of : SL := (⟨(.cons (.assign (.loc 2 _) (.attr (.loc 0 _) 17 _) _)
  (.cons (.while_ (.cmp .Gt (.loc 1 _) (.int 1 _) _) (.cons (.augL 2 _ .Mult (.attr (.loc 0 _) 18 _) _)
  (.cons (.augL 1 _ .Sub (.int 1 _) _)
  .nil)) _)
  (.cons (.ret (.loc 2 _) _)
  .nil))), rfl⟩ : { b : SL // b.py c_max_octets_of.N = kids (stAt [45]) }).1
noncomputable def F_max_octets_of (K : Frag) : Fn := ⟨603, fdOf K 603, c_max_octets_of, b_max_octets_of, 2⟩
noncomputable def c_score_of : Cx := ⟨⟨[Str.ofString "version", Str.ofString "options", Str.ofString "best_top", Str.ofString "best_bottom", Str.ofString "best_level", Str.ofString "level", Str.ofString "top", Str.ofString "bottom"], fnF, glL⟩, ⟨.function,[((Str.ofString "version"),.local), ((Str.ofString "options"),.local), ((Str.ofString "best_top"),.local), ((Str.ofString "best_bottom"),.local), ((Str.ofString "best_level"),.local), ((Str.ofString "level"),.local), ((Str.ofString "top"),.local), ((Str.ofString "bottom"),.local), ((Str.ofString "len"),.globalImplicit), ((Str.ofString "range"),.globalImplicit), ((Str.ofString "max_octets_of"),.globalImplicit)],false,false,[]⟩, [true, true, true, true, true, true, true, true], [5, 21, 30]⟩
noncomputable def b_score_of : SL := (⟨(.cons (.if_ (.cmp .Eq (.call (.glob 5 _) (.cons (.attr (.loc 0 _) 35 _) .nil) _) (.int 0 _) _) (.cons (.ret (.attr (.loc 0 _) 37 _) _)
  .nil) .nil _)
  (.cons (.assign (.loc 2 _) (.call (.glob 5 _) (.cons (.sub (.attr (.loc 0 _) 35 _) (.int 0 _) _) .nil) _) _)
  (.cons (.assign (.loc 3 _) (.attr (.loc 1 _) 15 _) _)
  (.cons (.assign (.loc 4 _) (.int 0 _) _)
  (.cons (.for_ (.loc 5 _) (.call (.glob 21 _) (.cons (.int 1 _) (.cons (.bin .Sub (.attr (.loc 1 _) 14 _) (.int 1 _) _) .nil)) _) (.cons (.assign (.loc 6 _) (.meth (.loc 0 _) 62 (.cons (.loc 5 _) .nil) _ _) _)
  (.cons (.assign (.loc 7 _) (.call (.glob 30 _) (.cons (.loc 1 _) (.cons (.loc 5 _) .nil)) _) _)
  (.cons (.if_ (.cmp .Gt (.bin .Mult (.loc 6 _) (.loc 3 _) _) (.bin .Mult (.loc 2 _) (.loc 7 _) _) _) (.cons (.assign (.loc 2 _) (.loc 6 _) _)
  (.cons (.assign (.loc 3 _) (.loc 7 _) _)
  (.cons (.assign (.loc 4 _) (.loc 5 _) _)
  .nil))) .nil _)
  .nil))) _)
  (.cons (.assign (.attr (.loc 0 _) 37 _) (.tup (.cons (.loc 2 _) (.cons (.loc 3 _) .nil)) 0 _) _)
  (.cons (.assign (.attr (.loc 0 _) 38 _) (.loc 4 _) _)
  (.cons (.ret (.attr (.loc 0 _) 37 _) _)
  .nil)))))))), rfl⟩ : { b : SL // b.py c_score_of.N = kids (stAt [46]) }).1
noncomputable def F_score_of (K : Frag) : Fn := ⟨610, fdOf K 610, c_score_of, b_score_of, 2⟩
noncomputable def c_Picker___init__ : Cx := ⟨⟨[Str.ofString "self", Str.ofString "options", Str.ofString "order"], fnF, glL⟩, ⟨.function,[((Str.ofString "self"),.local), ((Str.ofString "options"),.local), ((Str.ofString "order"),.local)],false,false,[]⟩, [true, true, true], []⟩
noncomputable def b_Picker___init__ : SL := (⟨(.cons (.assign (.attr (.loc 0 _) 43 _) (.loc 1 _) _)
  (.cons (.assign (.attr (.loc 0 _) 34 _) (.loc 2 _) _)
  .nil)), rfl⟩ : { b : SL // b.py c_Picker___init__.N = kids (stAt [47, 0]) }).1
noncomputable def F_Picker___init__ (K : Frag) : Fn := ⟨624, fdOf K 624, c_Picker___init__, b_Picker___init__, 3⟩
noncomputable def c_Picker_needs_compaction : Cx := ⟨⟨[Str.ofString "self", Str.ofString "version"], fnF, glL⟩, ⟨.function,[((Str.ofString "self"),.local), ((Str.ofString "version"),.local)],false,false,[]⟩, [true, true], []⟩
noncomputable def b_Picker_needs_compaction : SL := (⟨(.cons (.ret (.cmp .GtE (.sub (.attr (.loc 1 _) 37 _) (.int 0 _) _) (.sub (.attr (.loc 1 _) 37 _) (.int 1 _) _) _) _)
  .nil), rfl⟩ : { b : SL // b.py c_Picker_needs_compaction.N = kids (stAt [47, 1]) }).1
noncomputable def F_Picker_needs_compaction (K : Frag) : Fn := ⟨631, fdOf K 631, c_Picker_needs_compaction, b_Picker_needs_compaction, 2⟩
noncomputable def c_Picker_user_range : Cx := ⟨⟨[Str.ofString "self", Str.ofString "files", Str.ofString "ends"], fnF, glL⟩, ⟨.function,[((Str.ofString "self"),.local), ((Str.ofString "files"),.local), ((Str.ofString "ends"),.local), ((Str.ofString "key_range"),.globalImplicit), ((Str.ofString "user_of"),.globalImplicit)],false,false,[]⟩, [true, true, true], [13, 31]⟩
noncomputable def b_Picker_user_range : SL := (⟨(.cons (.assign (.loc 2 _) (.call (.glob 31 _) (.cons (.loc 1 _) (.cons (.attr (.loc 0 _) 34 _) .nil)) _) _)
  (.cons (.ret (.tup (.cons (.call (.glob 13 _) (.cons (.sub (.loc 2 _) (.int 0 _) _) .nil) _) (.cons (.call (.glob 13 _) (.cons (.sub (.loc 2 _) (.int 1 _) _) .nil) _) .nil)) 0 _) _)
  .nil)), rfl⟩ : { b : SL // b.py c_Picker_user_range.N = kids (stAt [47, 2]) }).1
noncomputable def F_Picker_user_range (K : Frag) : Fn := ⟨638, fdOf K 638, c_Picker_user_range, b_Picker_user_range, 2⟩
noncomputable def c_Picker_pick : Cx := ⟨⟨[Str.ofString "self", Str.ofString "version", Str.ofString "pointers", Str.ofString "level", Str.ofString "c", Str.ofString "files", Str.ofString "pointer", Str.ofString "first", Str.ofString "meta", Str.ofString "ends"], fnF, glL⟩, ⟨.function,[((Str.ofString "self"),.local), ((Str.ofString "version"),.local), ((Str.ofString "pointers"),.local), ((Str.ofString "level"),.local), ((Str.ofString "c"),.local), ((Str.ofString "files"),.local), ((Str.ofString "pointer"),.local), ((Str.ofString "first"),.local), ((Str.ofString "meta"),.local), ((Str.ofString "ends"),.local), ((Str.ofString "Compaction"),.globalImplicit)],false,false,[]⟩, [true, true, true, true, true, true, true, true, true, true], [32]⟩
noncomputable def b_Picker_pick : SL := (⟨(.cons (.if_ (.not (.meth (.loc 0 _) 73 (.cons (.loc 1 _) .nil) _ _) _) (.cons (.ret (.none _) _)
  .nil) .nil _)
  (.cons (.assign (.loc 3 _) (.attr (.loc 1 _) 38 _) _)
  (.cons (.assign (.loc 4 _) (.call (.glob 32 _) (.cons (.loc 3 _) (.cons (.loc 1 _) (.cons (.attr (.loc 0 _) 43 _) .nil))) _) _)
  (.cons (.assign (.loc 5 _) (.sub (.attr (.loc 1 _) 35 _) (.loc 3 _) _) _)
  (.cons (.assign (.loc 6 _) (.sub (.loc 2 _) (.loc 3 _) _) _)
  (.cons (.assign (.loc 7 _) (.sub (.loc 5 _) (.int 0 _) _) _)
  (.cons (.for_ (.loc 8 _) (.loc 5 _) (.cons (.if_ (.bop .Or (.cmp .Eq (.loc 6 _) (.byt [] _) _) (.cons (.cmp .Gt (.meth (.attr (.loc 0 _) 34 _) 57 (.cons (.attr (.loc 8 _) 25 _) (.cons (.loc 6 _) .nil)) _ _) (.int 0 _) _) .nil) _) (.cons (.assign (.loc 7 _) (.loc 8 _) _)
  (.cons (.brk _)
  .nil)) .nil _)
  .nil) _)
  (.cons (.assign (.sub (.attr (.loc 4 _) 45 _) (.int 0 _) _) (.list (.cons (.loc 7 _) .nil) _) _)
  (.cons (.if_ (.cmp .Eq (.loc 3 _) (.int 0 _) _) (.cons (.assign (.loc 9 _) (.meth (.loc 0 _) 74 (.cons (.sub (.attr (.loc 4 _) 45 _) (.int 0 _) _) .nil) _ _) _)
  (.cons (.assign (.sub (.attr (.loc 4 _) 45 _) (.int 0 _) _) (.meth (.loc 1 _) 59 (.cons (.int 0 _) (.cons (.sub (.loc 9 _) (.int 0 _) _) (.cons (.sub (.loc 9 _) (.int 1 _) _) .nil))) _ _) _)
  .nil)) .nil _)
  (.cons (.expr (.meth (.loc 0 _) 76 (.cons (.loc 4 _) (.cons (.loc 2 _) .nil)) _ _) _)
  (.cons (.ret (.loc 4 _) _)
  .nil))))))))))), rfl⟩ : { b : SL // b.py c_Picker_pick.N = kids (stAt [47, 3]) }).1
noncomputable def F_Picker_pick (K : Frag) : Fn := ⟨645, fdOf K 645, c_Picker_pick, b_Picker_pick, 3⟩
noncomputable def c_Picker_set_up_other : Cx := ⟨⟨[Str.ofString "self", Str.ofString "c", Str.ofString "pointers", Str.ofString "level", Str.ofString "version", Str.ofString "ends", Str.ofString "span", Str.ofString "grown", Str.ofString "room", Str.ofString "cost", Str.ofString "above", Str.ofString "largest"], fnF, glL⟩, ⟨.function,[((Str.ofString "self"),.local), ((Str.ofString "c"),.local), ((Str.ofString "pointers"),.local), ((Str.ofString "level"),.local), ((Str.ofString "version"),.local), ((Str.ofString "ends"),.local), ((Str.ofString "span"),.local), ((Str.ofString "grown"),.local), ((Str.ofString "room"),.local), ((Str.ofString "cost"),.local), ((Str.ofString "above"),.local), ((Str.ofString "largest"),.local), ((Str.ofString "len"),.globalImplicit), ((Str.ofString "total_size"),.globalImplicit), ((Str.ofString "key_range"),.globalImplicit)],false,false,[]⟩, [true, true, true, true, true, true, true, true, true, true, true, true], [5, 31, 33]⟩
noncomputable def b_Picker_set_up_other : SL := (⟨(.cons (.assign (.loc 3 _) (.attr (.loc 1 _) 41 _) _)
  (.cons (.assign (.loc 4 _) (.attr (.loc 1 _) 42 _) _)
  (.cons (.assign (.loc 5 _) (.meth (.loc 0 _) 74 (.cons (.sub (.attr (.loc 1 _) 45 _) (.int 0 _) _) .nil) _ _) _)
  (.cons (.assign (.sub (.attr (.loc 1 _) 45 _) (.int 1 _) _) (.meth (.loc 4 _) 59 (.cons (.bin .Add (.loc 3 _) (.int 1 _) _) (.cons (.sub (.loc 5 _) (.int 0 _) _) (.cons (.sub (.loc 5 _) (.int 1 _) _) .nil))) _ _) _)
  (.cons (.assign (.loc 6 _) (.meth (.loc 0 _) 74 (.cons (.bin .Add (.sub (.attr (.loc 1 _) 45 _) (.int 0 _) _) (.sub (.attr (.loc 1 _) 45 _) (.int 1 _) _) _) .nil) _ _) _)
  (.cons (.if_ (.cmp .Gt (.call (.glob 5 _) (.cons (.sub (.attr (.loc 1 _) 45 _) (.int 1 _) _) .nil) _) (.int 0 _) _) (.cons (.assign (.loc 7 _) (.meth (.loc 4 _) 59 (.cons (.loc 3 _) (.cons (.sub (.loc 6 _) (.int 0 _) _) (.cons (.sub (.loc 6 _) (.int 1 _) _) .nil))) _ _) _)
  (.cons (.assign (.loc 8 _) (.bin .Mult (.attr (.attr (.loc 0 _) 43 _) 21 _) (.attr (.attr (.loc 0 _) 43 _) 13 _) _) _)
  (.cons (.assign (.loc 9 _) (.bin .Add (.call (.glob 33 _) (.cons (.sub (.attr (.loc 1 _) 45 _) (.int 1 _) _) .nil) _) (.call (.glob 33 _) (.cons (.loc 7 _) .nil) _) _) _)
  (.cons (.if_ (.bop .And (.cmp .Gt (.call (.glob 5 _) (.cons (.loc 7 _) .nil) _) (.call (.glob 5 _) (.cons (.sub (.attr (.loc 1 _) 45 _) (.int 0 _) _) .nil) _) _) (.cons (.cmp .Lt (.loc 9 _) (.loc 8 _) _) .nil) _) (.cons (.assign (.loc 5 _) (.meth (.loc 0 _) 74 (.cons (.loc 7 _) .nil) _ _) _)
  (.cons (.assign (.loc 10 _) (.meth (.loc 4 _) 59 (.cons (.bin .Add (.loc 3 _) (.int 1 _) _) (.cons (.sub (.loc 5 _) (.int 0 _) _) (.cons (.sub (.loc 5 _) (.int 1 _) _) .nil))) _ _) _)
  (.cons (.if_ (.cmp .Eq (.call (.glob 5 _) (.cons (.loc 10 _) .nil) _) (.call (.glob 5 _) (.cons (.sub (.attr (.loc 1 _) 45 _) (.int 1 _) _) .nil) _) _) (.cons (.assign (.sub (.attr (.loc 1 _) 45 _) (.int 0 _) _) (.loc 7 _) _)
  (.cons (.assign (.sub (.attr (.loc 1 _) 45 _) (.int 1 _) _) (.loc 10 _) _)
  (.cons (.assign (.loc 6 _) (.meth (.loc 0 _) 74 (.cons (.bin .Add (.sub (.attr (.loc 1 _) 45 _) (.int 0 _) _) (.sub (.attr (.loc 1 _) 45 _) (.int 1 _) _) _) .nil) _ _) _)
  .nil))) .nil _)
  .nil))) .nil _)
  .nil)))) .nil _)
  (.cons (.if_ (.cmp .Lt (.bin .Add (.loc 3 _) (.int 2 _) _) (.attr (.attr (.loc 0 _) 43 _) 14 _) _) (.cons (.assign (.attr (.loc 1 _) 46 _) (.meth (.loc 4 _) 59 (.cons (.bin .Add (.loc 3 _) (.int 2 _) _) (.cons (.sub (.loc 6 _) (.int 0 _) _) (.cons (.sub (.loc 6 _) (.int 1 _) _) .nil))) _ _) _)
  .nil) .nil _)
  (.cons (.assign (.loc 11 _) (.sub (.call (.glob 31 _) (.cons (.sub (.attr (.loc 1 _) 45 _) (.int 0 _) _) (.cons (.attr (.loc 0 _) 34 _) .nil)) _) (.int 1 _) _) _)
  (.cons (.assign (.sub (.loc 2 _) (.loc 3 _) _) (.loc 11 _) _)
  (.cons (.expr (.meth (.attr (.attr (.loc 1 _) 47 _) 30 _) 78 (.cons (.tup (.cons (.loc 3 _) (.cons (.loc 11 _) .nil)) 0 _) .nil) _ _) _)
  .nil)))))))))), rfl⟩ : { b : SL // b.py c_Picker_set_up_other.N = kids (stAt [47, 5]) }).1
noncomputable def F_Picker_set_up_other (K : Frag) : Fn := ⟨659, fdOf K 659, c_Picker_set_up_other, b_Picker_set_up_other, 3⟩
noncomputable def c_Sieve___init__ : Cx := ⟨⟨[Str.ofString "self", Str.ofString "c", Str.ofString "smallest_snapshot"], fnF, glL⟩, ⟨.function,[((Str.ofString "self"),.local), ((Str.ofString "c"),.local), ((Str.ofString "smallest_snapshot"),.local), ((Str.ofString "MAX_SEQ"),.globalImplicit)],false,false,[]⟩, [true, true, true], [8]⟩
noncomputable def b_Sieve___init__ : SL := (⟨(.cons (.assign (.attr (.loc 0 _) 53 _) (.loc 1 _) _)
  (.cons (.assign (.attr (.loc 0 _) 24 _) (.loc 2 _) _)
  (.cons (.assign (.attr (.loc 0 _) 54 _) (.none _) _)
  (.cons (.assign (.attr (.loc 0 _) 55 _) (.bin .Add (.glob 8 _) (.int 1 _) _) _)
  (.cons (.assign (.attr (.loc 0 _) 56 _) (.bool false _) _)
  .nil))))), rfl⟩ : { b : SL // b.py c_Sieve___init__.N = kids (stAt [49, 0]) }).1
noncomputable def F_Sieve___init__ (K : Frag) : Fn := ⟨680, fdOf K 680, c_Sieve___init__, b_Sieve___init__, 3⟩
noncomputable def c_Sieve_turn : Cx := ⟨⟨[Str.ofString "self", Str.ofString "ikey", Str.ofString "octets", Str.ofString "user", Str.ofString "seq", Str.ofString "kind", Str.ofString "cut", Str.ofString "drop"], fnF, glL⟩, ⟨.function,[((Str.ofString "self"),.local), ((Str.ofString "ikey"),.local), ((Str.ofString "octets"),.local), ((Str.ofString "user"),.local), ((Str.ofString "seq"),.local), ((Str.ofString "kind"),.local), ((Str.ofString "cut"),.local), ((Str.ofString "drop"),.local), ((Str.ofString "split_ikey"),.globalImplicit), ((Str.ofString "MAX_SEQ"),.globalImplicit), ((Str.ofString "KIND_DELETE"),.globalImplicit)],false,false,[]⟩, [true, true, true, true, true, true, true, true], [8, 9, 25]⟩
noncomputable def b_Sieve_turn : SL := (⟨(.cons (.assign (.tup [(3,_), (4,_), (5,_)] 0 _) (.call (.glob 25 _) (.cons (.loc 1 _) .nil) _) _)
  (.cons (.if_ (.meth (.attr (.loc 0 _) 53 _) 70 (.cons (.loc 1 _) .nil) _ _) (.cons (.assign (.attr (.loc 0 _) 56 _) (.bool true _) _)
  .nil) .nil _)
  (.cons (.assign (.loc 6 _) (.bool false _) _)
  (.cons (.if_ (.bop .Or (.cmp .Is (.attr (.loc 0 _) 54 _) (.none _) _) (.cons (.cmp .NotEq (.loc 3 _) (.attr (.loc 0 _) 54 _) _) .nil) _) (.cons (.if_ (.cmp .GtE (.loc 2 _) (.int 0 _) _) (.cons (.assign (.loc 6 _) (.bop .Or (.attr (.loc 0 _) 56 _) (.cons (.cmp .GtE (.loc 2 _) (.attr (.attr (.attr (.loc 0 _) 53 _) 43 _) 13 _) _) .nil) _) _)
  .nil) .nil _)
  (.cons (.assign (.attr (.loc 0 _) 54 _) (.loc 3 _) _)
  (.cons (.assign (.attr (.loc 0 _) 55 _) (.bin .Add (.glob 8 _) (.int 1 _) _) _)
  .nil))) .nil _)
  (.cons (.if_ (.bop .Or (.cmp .Lt (.loc 2 _) (.int 0 _) _) (.cons (.loc 6 _) .nil) _) (.cons (.assign (.attr (.loc 0 _) 56 _) (.bool false _) _)
  .nil) .nil _)
  (.cons (.assign (.loc 7 _) (.bool false _) _)
  (.cons (.if_ (.cmp .LtE (.attr (.loc 0 _) 55 _) (.attr (.loc 0 _) 24 _) _) (.cons (.assign (.loc 7 _) (.bool true _) _)
  .nil) (.cons (.if_ (.bop .And (.cmp .Eq (.loc 5 _) (.glob 9 _) _) (.cons (.cmp .LtE (.loc 4 _) (.attr (.loc 0 _) 24 _) _) .nil) _) (.cons (.assign (.loc 7 _) (.meth (.attr (.loc 0 _) 53 _) 71 (.cons (.loc 3 _) .nil) _ _) _)
  .nil) .nil _)
  .nil) _)
  (.cons (.assign (.attr (.loc 0 _) 55 _) (.loc 4 _) _)
  (.cons (.ret (.tup (.cons (.loc 6 _) (.cons (.loc 7 _) .nil)) 0 _) _)
  .nil))))))))), rfl⟩ : { b : SL // b.py c_Sieve_turn.N = kids (stAt [49, 1]) }).1
noncomputable def F_Sieve_turn (K : Frag) : Fn := ⟨687, fdOf K 687, c_Sieve_turn, b_Sieve_turn, 3⟩
noncomputable def c__law_draw : Cx := ⟨⟨[Str.ofString "nums", Str.ofString "i"], fnF, glL⟩, ⟨.function,[((Str.ofString "nums"),.local), ((Str.ofString "i"),.local), ((Str.ofString "len"),.globalImplicit)],false,false,[]⟩, [true, true], [5]⟩
noncomputable def b__law_draw : SL := (⟨(.cons (.ret (.bin .Add (.sub (.loc 0 _) (.bin .Mod (.loc 1 _) (.call (.glob 5 _) (.cons (.loc 0 _) .nil) _) _) _) (.bin .Mult (.int 7919 _) (.loc 1 _) _) _) _)
  .nil), rfl⟩ : { b : SL // b.py c__law_draw.N = kids (stAt [51]) }).1
noncomputable def F__law_draw (K : Frag) : Fn := ⟨701, fdOf K 701, c__law_draw, b__law_draw, 2⟩
noncomputable def c__law_user : Cx := ⟨⟨[Str.ofString "u"], fnF, glL⟩, ⟨.function,[((Str.ofString "u"),.local)],false,false,[]⟩, [true], []⟩
noncomputable def b__law_user : SL := (⟨(.cons (.ret (.sub (.tup (.cons (.byt [] _) (.cons (.byt [97] _) (.cons (.byt [97, 0] _) (.cons (.byt [98] _) (.cons (.byt [98, 97] _) (.cons (.byt [255] _) .nil)))))) 0 _) (.loc 0 _) _) _)
  .nil), rfl⟩ : { b : SL // b.py c__law_user.N = kids (stAt [52]) }).1
noncomputable def F__law_user (K : Frag) : Fn := ⟨708, fdOf K 708, c__law_user, b__law_user, 1⟩
noncomputable def c__law_ikey : Cx := ⟨⟨[Str.ofString "e"], fnF, glL⟩, ⟨.function,[((Str.ofString "e"),.local), ((Str.ofString "_law_user"),.globalImplicit), ((Str.ofString "bytes"),.globalImplicit)],false,false,[]⟩, [true], [2, 34]⟩
noncomputable def b__law_ikey : SL := (⟨(.cons (.ret (.bin .Add (.call (.glob 34 _) (.cons (.sub (.loc 0 _) (.int 0 _) _) .nil) _) (.call (.glob 2 _) (.cons (.list (.cons (.sub (.loc 0 _) (.int 2 _) _) (.cons (.bin .Sub (.int 0 _) (.sub (.loc 0 _) (.int 1 _) _) _) (.cons (.int 0 _) (.cons (.int 0 _) (.cons (.int 0 _) (.cons (.int 0 _) (.cons (.int 0 _) (.cons (.int 0 _) .nil)))))))) _) .nil) _) _) _)
  .nil), rfl⟩ : { b : SL // b.py c__law_ikey.N = kids (stAt [53]) }).1
noncomputable def F__law_ikey (K : Frag) : Fn := ⟨715, fdOf K 715, c__law_ikey, b__law_ikey, 1⟩
noncomputable def c__law_octets : Cx := ⟨⟨[Str.ofString "rows", Str.ofString "e"], fnF, glL⟩, ⟨.function,[((Str.ofString "rows"),.local), ((Str.ofString "sum"),.globalImplicit)],false,false,[((Str.ofString "fast"),.str (Str.ofString "rows")), ((Str.ofString "fast"),.str (Str.ofString "e"))]⟩, [true, false], [35]⟩
noncomputable def b__law_octets : SL := (⟨(.cons (.ret (.call (.glob 35 _) (.cons (.comp (.sub (.loc 1 _) (.int 3 _) _) 1 _ (.loc 0 _) .nil ⟨.function,[((Str.ofString ".0"),.local), ((Str.ofString "e"),.local)],false,false,[]⟩ _) .nil) _) _)
  .nil), rfl⟩ : { b : SL // b.py c__law_octets.N = kids (stAt [54]) }).1
noncomputable def F__law_octets (K : Frag) : Fn := ⟨720, fdOf K 720, c__law_octets, b__law_octets, 1⟩
noncomputable def c__law_meta : Cx := ⟨⟨[Str.ofString "number", Str.ofString "rows", Str.ofString "last"], fnF, glL⟩, ⟨.function,[((Str.ofString "number"),.local), ((Str.ofString "rows"),.local), ((Str.ofString "last"),.local), ((Str.ofString "len"),.globalImplicit), ((Str.ofString "FileMeta"),.globalImplicit), ((Str.ofString "_law_octets"),.globalImplicit), ((Str.ofString "_law_ikey"),.globalImplicit)],false,false,[]⟩, [true, true, true], [5, 36, 37, 38]⟩
noncomputable def b__law_meta : SL := (⟨(.cons (.assign (.loc 2 _) (.sub (.loc 1 _) (.bin .Sub (.call (.glob 5 _) (.cons (.loc 1 _) .nil) _) (.int 1 _) _) _) _)
  (.cons (.ret (.call (.glob 36 _) (.cons (.loc 0 _) (.cons (.call (.glob 37 _) (.cons (.loc 1 _) .nil) _) (.cons (.call (.glob 38 _) (.cons (.sub (.loc 1 _) (.int 0 _) _) .nil) _) (.cons (.call (.glob 38 _) (.cons (.loc 2 _) .nil) _) .nil)))) _) _)
  .nil)), rfl⟩ : { b : SL // b.py c__law_meta.N = kids (stAt [55]) }).1
noncomputable def F__law_meta (K : Frag) : Fn := ⟨727, fdOf K 727, c__law_meta, b__law_meta, 2⟩
noncomputable def c__law_made : Cx := ⟨⟨[Str.ofString "version", Str.ofString "edit", Str.ofString "maker"], fnF, glL⟩, ⟨.function,[((Str.ofString "version"),.local), ((Str.ofString "edit"),.local), ((Str.ofString "maker"),.local), ((Str.ofString "VersionMaker"),.globalImplicit)],false,false,[]⟩, [true, true, true], [39]⟩
noncomputable def b__law_made : SL := (⟨(.cons (.assign (.loc 2 _) (.call (.glob 39 _) (.cons (.loc 0 _) .nil) _) _)
  (.cons (.expr (.meth (.loc 2 _) 65 (.cons (.loc 1 _) .nil) _ _) _)
  (.cons (.ret (.meth (.loc 2 _) 68 .nil _ _) _)
  .nil))), rfl⟩ : { b : SL // b.py c__law_made.N = kids (stAt [56]) }).1
noncomputable def F__law_made (K : Frag) : Fn := ⟨734, fdOf K 734, c__law_made, b__law_made, 2⟩
noncomputable def c__law_over : Cx := ⟨⟨[Str.ofString "tables", Str.ofString "n", Str.ofString "u"], fnF, glL⟩, ⟨.function,[((Str.ofString "tables"),.local), ((Str.ofString "n"),.local), ((Str.ofString "u"),.local), ((Str.ofString "len"),.globalImplicit)],false,false,[]⟩, [true, true, true], [5]⟩
noncomputable def b__law_over : SL := (⟨(.cons (.ret (.bop .And (.cmp .LtE (.sub (.sub (.sub (.loc 0 _) (.loc 1 _) _) (.int 0 _) _) (.int 0 _) _) (.loc 2 _) _) (.cons (.cmp .LtE (.loc 2 _) (.sub (.sub (.sub (.loc 0 _) (.loc 1 _) _) (.bin .Sub (.call (.glob 5 _) (.cons (.sub (.loc 0 _) (.loc 1 _) _) .nil) _) (.int 1 _) _) _) (.int 0 _) _) _) .nil) _) _)
  .nil), rfl⟩ : { b : SL // b.py c__law_over.N = kids (stAt [57]) }).1
noncomputable def F__law_over (K : Frag) : Fn := ⟨741, fdOf K 741, c__law_over, b__law_over, 3⟩
noncomputable def c__law_tells : Cx := ⟨⟨[Str.ofString "version", Str.ofString "tables", Str.ofString "newest", Str.ofString "u", Str.ofString "last", Str.ofString "cache", Str.ofString "stands", Str.ofString "n", Str.ofString "ahead", Str.ofString "want", Str.ofString "e"], fnF, glL⟩, ⟨.function,[((Str.ofString "version"),.local), ((Str.ofString "tables"),.local), ((Str.ofString "newest"),.local), ((Str.ofString "u"),.cell), ((Str.ofString "last"),.cell), ((Str.ofString "cache"),.local), ((Str.ofString "stands"),.local), ((Str.ofString "n"),.local), ((Str.ofString "ahead"),.local), ((Str.ofString "want"),.local), ((Str.ofString "len"),.globalImplicit), ((Str.ofString "_law_ikey"),.globalImplicit), ((Str.ofString "bytes"),.globalImplicit), ((Str.ofString "_law_user"),.globalImplicit)],false,false,[((Str.ofString "fast"),.str (Str.ofString "version")), ((Str.ofString "fast"),.str (Str.ofString "tables")), ((Str.ofString "fast"),.str (Str.ofString "newest")), ((Str.ofString "fast"),.str (Str.ofString "u")), ((Str.ofString "fast"),.str (Str.ofString "last")), ((Str.ofString "fast"),.str (Str.ofString "cache")), ((Str.ofString "fast"),.str (Str.ofString "stands")), ((Str.ofString "fast"),.str (Str.ofString "n")), ((Str.ofString "fast"),.str (Str.ofString "e")), ((Str.ofString "fast"),.str (Str.ofString "ahead")), ((Str.ofString "fast"),.str (Str.ofString "want"))]⟩, [true, true, true, true, true, true, true, true, true, true, false], [2, 5, 34, 38]⟩
noncomputable def b__law_tells : SL := (⟨(.cons (.assign (.loc 5 _) (.dict0 _) _)
  (.cons (.assign (.loc 6 _) (.bool false _) _)
  (.cons (.for_ (.loc 7 _) (.loc 1 _) (.cons (.assign (.loc 8 _) (.comp (.loc 10 _) 10 _ (.sub (.loc 1 _) (.loc 7 _) _) (.cons (.cmp .GtE (.tup (.cons (.sub (.loc 10 _) (.int 0 _) _) (.cons (.sub (.loc 10 _) (.int 1 _) _) .nil)) 0 _) (.tup (.cons (.loc 3 _) (.cons (.bin .Sub (.int 0 _) (.loc 4 _) _) .nil)) 0 _) _) .nil) ⟨.function,[((Str.ofString ".0"),.local), ((Str.ofString "e"),.local), ((Str.ofString "last"),.free), ((Str.ofString "u"),.free)],false,false,[]⟩ _) _)
  (.cons (.assign (.sub (.loc 5 _) (.loc 7 _) _) (.none _) _)
  (.cons (.if_ (.cmp .Gt (.call (.glob 5 _) (.cons (.loc 8 _) .nil) _) (.int 0 _) _) (.cons (.assign (.sub (.loc 5 _) (.loc 7 _) _) (.tup (.cons (.call (.glob 38 _) (.cons (.sub (.loc 8 _) (.int 0 _) _) .nil) _) (.cons (.call (.glob 2 _) (.cons (.list (.cons (.bin .Sub (.int 0 _) (.sub (.sub (.loc 8 _) (.int 0 _) _) (.int 1 _) _) _) (.cons (.int 7 _) .nil)) _) .nil) _) .nil)) 0 _) _)
  (.cons (.assign (.loc 6 _) (.bop .Or (.loc 6 _) (.cons (.cmp .Eq (.sub (.sub (.loc 8 _) (.int 0 _) _) (.int 0 _) _) (.loc 3 _) _) .nil) _) _)
  .nil)) .nil _)
  .nil))) _)
  (.cons (.assign (.loc 9 _) (.tup (.cons (.loc 6 _) (.cons (.int 0 _) (.cons (.byt [] _) .nil))) 0 _) _)
  (.cons (.if_ (.bop .And (.cmp .In (.loc 3 _) (.loc 2 _) _) (.cons (.cmp .Eq (.sub (.sub (.loc 2 _) (.loc 3 _) _) (.int 2 _) _) (.int 1 _) _) .nil) _) (.cons (.assign (.loc 9 _) (.tup (.cons (.bool true _) (.cons (.int 1 _) (.cons (.call (.glob 2 _) (.cons (.list (.cons (.bin .Sub (.int 0 _) (.sub (.sub (.loc 2 _) (.loc 3 _) _) (.int 1 _) _) _) (.cons (.int 7 _) .nil)) _) .nil) _) .nil))) 0 _) _)
  .nil) .nil _)
  (.cons (.ret (.cmp .Eq (.meth (.loc 0 _) 61 (.cons (.loc 5 _) (.cons (.call (.glob 34 _) (.cons (.loc 3 _) .nil) _) (.cons (.loc 4 _) .nil))) _ _) (.loc 9 _) _) _)
  .nil)))))), rfl⟩ : { b : SL // b.py c__law_tells.N = kids (stAt [58]) }).1
noncomputable def F__law_tells (K : Frag) : Fn := ⟨746, fdOf K 746, c__law_tells, b__law_tells, 5⟩
noncomputable def c__law_fullest : Cx := ⟨⟨[Str.ofString "tables", Str.ofString "where", Str.ofString "bounds", Str.ofString "trigger", Str.ofString "tops", Str.ofString "bottoms", Str.ofString "level", Str.ofString "best", Str.ofString "i", Str.ofString "n", Str.ofString "j"], fnF, glL⟩, ⟨.function,[((Str.ofString "tables"),.cell), ((Str.ofString "where"),.cell), ((Str.ofString "bounds"),.local), ((Str.ofString "trigger"),.local), ((Str.ofString "tops"),.cell), ((Str.ofString "bottoms"),.cell), ((Str.ofString "level"),.cell), ((Str.ofString "best"),.local), ((Str.ofString "i"),.cell), ((Str.ofString "len"),.globalImplicit), ((Str.ofString "range"),.globalImplicit), ((Str.ofString "sum"),.globalImplicit)],false,false,[((Str.ofString "fast"),.str (Str.ofString "tables")), ((Str.ofString "fast"),.str (Str.ofString "where")), ((Str.ofString "fast"),.str (Str.ofString "bounds")), ((Str.ofString "fast"),.str (Str.ofString "trigger")), ((Str.ofString "fast"),.str (Str.ofString "n")), ((Str.ofString "fast"),.str (Str.ofString "tops")), ((Str.ofString "fast"),.str (Str.ofString "bottoms")), ((Str.ofString "fast"),.str (Str.ofString "level")), ((Str.ofString "fast"),.str (Str.ofString "best")), ((Str.ofString "fast"),.str (Str.ofString "i")), ((Str.ofString "fast"),.str (Str.ofString "j"))]⟩, [true, true, true, true, true, true, true, true, true, false, false], [5, 21, 35]⟩
noncomputable def b__law_fullest : SL := (⟨(.cons (.assign (.loc 4 _) (.list (.cons (.call (.glob 5 _) (.cons (.comp (.loc 9 _) 9 _ (.loc 1 _) (.cons (.cmp .Eq (.sub (.loc 1 _) (.loc 9 _) _) (.int 0 _) _) .nil) ⟨.function,[((Str.ofString ".0"),.local), ((Str.ofString "n"),.local), ((Str.ofString "where"),.free)],false,false,[]⟩ _) .nil) _) .nil) _) _)
  (.cons (.assign (.loc 5 _) (.list (.cons (.loc 3 _) .nil) _) _)
  (.cons (.for_ (.loc 6 _) (.call (.glob 21 _) (.cons (.int 1 _) (.cons (.bin .Sub (.call (.glob 5 _) (.cons (.loc 2 _) .nil) _) (.int 1 _) _) .nil)) _) (.cons (.expr (.meth (.loc 4 _) 78 (.cons (.call (.glob 35 _) (.cons (.comp (.call (.glob 37 _) (.cons (.sub (.loc 0 _) (.loc 9 _) _) .nil) _) 9 _ (.loc 1 _) (.cons (.cmp .Eq (.sub (.loc 1 _) (.loc 9 _) _) (.loc 6 _) _) .nil) ⟨.function,[((Str.ofString ".0"),.local), ((Str.ofString "n"),.local), ((Str.ofString "_law_octets"),.globalImplicit), ((Str.ofString "level"),.free), ((Str.ofString "tables"),.free), ((Str.ofString "where"),.free)],false,false,[]⟩ _) .nil) _) .nil) _ _) _)
  (.cons (.expr (.meth (.loc 5 _) 78 (.cons (.sub (.loc 2 _) (.loc 6 _) _) .nil) _ _) _)
  .nil)) _)
  (.cons (.assign (.loc 7 _) (.int 0 _) _)
  (.cons (.for_ (.loc 8 _) (.call (.glob 21 _) (.cons (.bin .Sub (.call (.glob 5 _) (.cons (.loc 4 _) .nil) _) (.int 1 _) _) (.cons (.neg (.int 1 _) _) (.cons (.neg (.int 1 _) _) .nil))) _) (.cons (.if_ (.cmp .Eq (.call (.glob 5 _) (.cons (.comp (.loc 10 _) 10 _ (.call (.glob 21 _) (.cons (.call (.glob 5 _) (.cons (.loc 4 _) .nil) _) .nil) _) (.cons (.cmp .Gt (.bin .Mult (.sub (.loc 4 _) (.loc 10 _) _) (.sub (.loc 5 _) (.loc 8 _) _) _) (.bin .Mult (.sub (.loc 4 _) (.loc 8 _) _) (.sub (.loc 5 _) (.loc 10 _) _) _) _) .nil) ⟨.function,[((Str.ofString ".0"),.local), ((Str.ofString "j"),.local), ((Str.ofString "bottoms"),.free), ((Str.ofString "i"),.free), ((Str.ofString "tops"),.free)],false,false,[]⟩ _) .nil) _) (.int 0 _) _) (.cons (.assign (.loc 7 _) (.loc 8 _) _)
  .nil) .nil _)
  .nil) _)
  (.cons (.ret (.tup (.cons (.sub (.loc 4 _) (.loc 7 _) _) (.cons (.sub (.loc 5 _) (.loc 7 _) _) (.cons (.loc 7 _) .nil))) 0 _) _)
  .nil)))))), rfl⟩ : { b : SL // b.py c__law_fullest.N = kids (stAt [59]) }).1
noncomputable def F__law_fullest (K : Frag) : Fn := ⟨751, fdOf K 751, c__law_fullest, b__law_fullest, 4⟩
noncomputable def c__law_left : Cx := ⟨⟨[Str.ofString "rows", Str.ofString "where", Str.ofString "tables", Str.ofString "level", Str.ofString "kept", Str.ofString "goes", Str.ofString "k", Str.ofString "u", Str.ofString "drop", Str.ofString "n"], fnF, glL⟩, ⟨.function,[((Str.ofString "rows"),.local), ((Str.ofString "where"),.cell), ((Str.ofString "tables"),.cell), ((Str.ofString "level"),.cell), ((Str.ofString "kept"),.local), ((Str.ofString "goes"),.local), ((Str.ofString "k"),.local), ((Str.ofString "u"),.cell), ((Str.ofString "drop"),.local), ((Str.ofString "range"),.globalImplicit), ((Str.ofString "len"),.globalImplicit)],false,false,[((Str.ofString "fast"),.str (Str.ofString "rows")), ((Str.ofString "fast"),.str (Str.ofString "where")), ((Str.ofString "fast"),.str (Str.ofString "tables")), ((Str.ofString "fast"),.str (Str.ofString "level")), ((Str.ofString "fast"),.str (Str.ofString "kept")), ((Str.ofString "fast"),.str (Str.ofString "goes")), ((Str.ofString "fast"),.str (Str.ofString "k")), ((Str.ofString "fast"),.str (Str.ofString "u")), ((Str.ofString "fast"),.str (Str.ofString "drop")), ((Str.ofString "fast"),.str (Str.ofString "n"))]⟩, [true, true, true, true, true, true, true, true, true, false], [5, 21]⟩
noncomputable def b__law_left : SL := (⟨(.cons (.assign (.loc 4 _) (.list .nil _) _)
  (.cons (.assign (.loc 5 _) (.list .nil _) _)
  (.cons (.for_ (.loc 6 _) (.call (.glob 21 _) (.cons (.call (.glob 5 _) (.cons (.loc 0 _) .nil) _) .nil) _) (.cons (.assign (.loc 7 _) (.sub (.sub (.loc 0 _) (.loc 6 _) _) (.int 0 _) _) _)
  (.cons (.assign (.loc 8 _) (.bop .And (.cmp .Gt (.loc 6 _) (.int 0 _) _) (.cons (.cmp .Eq (.sub (.sub (.loc 0 _) (.bin .Sub (.loc 6 _) (.int 1 _) _) _) (.int 0 _) _) (.loc 7 _) _) .nil) _) _)
  (.cons (.if_ (.bop .And (.cmp .Eq (.sub (.sub (.loc 0 _) (.loc 6 _) _) (.int 2 _) _) (.int 0 _) _) (.cons (.not (.loc 8 _) _) .nil) _) (.cons (.assign (.loc 8 _) (.cmp .Eq (.call (.glob 5 _) (.cons (.comp (.loc 9 _) 9 _ (.loc 1 _) (.cons (.bop .And (.cmp .Gt (.sub (.loc 1 _) (.loc 9 _) _) (.bin .Add (.loc 3 _) (.int 1 _) _) _) (.cons (.call (.glob 40 _) (.cons (.loc 2 _) (.cons (.loc 9 _) (.cons (.loc 7 _) .nil))) _) .nil) _) .nil) ⟨.function,[((Str.ofString ".0"),.local), ((Str.ofString "n"),.local), ((Str.ofString "_law_over"),.globalImplicit), ((Str.ofString "level"),.free), ((Str.ofString "tables"),.free), ((Str.ofString "u"),.free), ((Str.ofString "where"),.free)],false,false,[]⟩ _) .nil) _) (.int 0 _) _) _)
  .nil) .nil _)
  (.cons (.expr (.meth (.loc 5 _) 78 (.cons (.loc 8 _) .nil) _ _) _)
  (.cons (.if_ (.not (.loc 8 _) _) (.cons (.expr (.meth (.loc 4 _) 78 (.cons (.sub (.loc 0 _) (.loc 6 _) _) .nil) _ _) _)
  .nil) .nil _)
  .nil))))) _)
  (.cons (.ret (.tup (.cons (.loc 4 _) (.cons (.loc 5 _) .nil)) 0 _) _)
  .nil)))), rfl⟩ : { b : SL // b.py c__law_left.N = kids (stAt [60]) }).1
noncomputable def F__law_left (K : Frag) : Fn := ⟨756, fdOf K 756, c__law_left, b__law_left, 4⟩
noncomputable def c__law_lay : Cx := ⟨⟨[Str.ofString "nums", Str.ofString "count", Str.ofString "bounds", Str.ofString "total", Str.ofString "tables", Str.ofString "where", Str.ofString "seq", Str.ofString "i", Str.ofString "y", Str.ofString "low", Str.ofString "high", Str.ofString "level", Str.ofString "n", Str.ofString "size", Str.ofString "k", Str.ofString "rows"], fnF, glL⟩, ⟨.function,[((Str.ofString "nums"),.local), ((Str.ofString "count"),.local), ((Str.ofString "bounds"),.local), ((Str.ofString "total"),.local), ((Str.ofString "tables"),.local), ((Str.ofString "where"),.local), ((Str.ofString "seq"),.local), ((Str.ofString "i"),.local), ((Str.ofString "y"),.local), ((Str.ofString "low"),.local), ((Str.ofString "high"),.local), ((Str.ofString "level"),.local), ((Str.ofString "n"),.local), ((Str.ofString "size"),.local), ((Str.ofString "k"),.local), ((Str.ofString "rows"),.local), ((Str.ofString "range"),.globalImplicit), ((Str.ofString "_law_draw"),.globalImplicit), ((Str.ofString "min"),.globalImplicit), ((Str.ofString "len"),.globalImplicit), ((Str.ofString "max"),.globalImplicit)],false,false,[]⟩, [true, true, true, true, true, true, true, true, true, true, true, true, true, true, true, true], [5, 21, 41, 42, 43]⟩
noncomputable def b__law_lay : SL := (⟨(.cons (.assign (.loc 4 _) (.dict0 _) _)
  (.cons (.assign (.loc 5 _) (.dict0 _) _)
  (.cons (.assign (.loc 6 _) (.int 1 _) _)
  (.cons (.for_ (.loc 7 _) (.call (.glob 21 _) (.cons (.loc 3 _) .nil) _) (.cons (.assign (.loc 8 _) (.call (.glob 41 _) (.cons (.loc 0 _) (.cons (.bin .Add (.int 2 _) (.loc 7 _) _) .nil)) _) _)
  (.cons (.assign (.loc 9 _) (.bin .Mod (.loc 8 _) (.int 6 _) _) _)
  (.cons (.assign (.loc 10 _) (.call (.glob 42 _) (.cons (.int 5 _) (.cons (.bin .Add (.loc 9 _) (.bin .Mod (.bin .FloorDiv (.loc 8 _) (.int 6 _) _) (.int 3 _) _) _) .nil)) _) _)
  (.cons (.assign (.loc 11 _) (.bin .Mod (.bin .FloorDiv (.loc 8 _) (.int 18 _) _) (.loc 1 _) _) _)
  (.cons (.for_ (.loc 12 _) (.loc 5 _) (.cons (.if_ (.bop .And (.cmp .LtE (.sub (.sub (.sub (.loc 4 _) (.loc 12 _) _) (.int 0 _) _) (.int 0 _) _) (.loc 10 _) _) (.cons (.cmp .LtE (.loc 9 _) (.sub (.sub (.sub (.loc 4 _) (.loc 12 _) _) (.bin .Sub (.call (.glob 5 _) (.cons (.sub (.loc 4 _) (.loc 12 _) _) .nil) _) (.int 1 _) _) _) (.int 0 _) _) _) .nil) _) (.cons (.assign (.loc 11 _) (.call (.glob 42 _) (.cons (.loc 11 _) (.cons (.call (.glob 43 _) (.cons (.int 0 _) (.cons (.bin .Sub (.sub (.loc 5 _) (.loc 12 _) _) (.int 1 _) _) .nil)) _) .nil)) _) _)
  .nil) .nil _)
  .nil) _)
  (.cons (.assign (.loc 13 _) (.bin .Add (.int 1 _) (.bin .FloorDiv (.bin .Mult (.sub (.loc 2 _) (.call (.glob 42 _) (.cons (.loc 11 _) (.cons (.bin .Sub (.loc 1 _) (.int 2 _) _) .nil)) _) _) (.bin .Mod (.bin .FloorDiv (.loc 8 _) (.int 216 _) _) (.int 7 _) _) _) (.int 4 _) _) _) _)
  (.cons (.assign (.loc 14 _) (.bin .Mod (.bin .FloorDiv (.loc 8 _) (.int 1512 _) _) (.int 4 _) _) _)
  (.cons (.assign (.loc 15 _) (.list (.cons (.tup (.cons (.loc 9 _) (.cons (.bin .Sub (.int 0 _) (.loc 6 _) _) (.cons (.bin .Sub (.int 1 _) (.bin .Mod (.loc 14 _) (.int 2 _) _) _) (.cons (.loc 13 _) .nil)))) 0 _) .nil) _) _)
  (.cons (.if_ (.cmp .Gt (.loc 10 _) (.loc 9 _) _) (.cons (.assign (.loc 15 _) (.list (.cons (.tup (.cons (.loc 9 _) (.cons (.bin .Sub (.int 0 _) (.loc 6 _) _) (.cons (.bin .Sub (.int 1 _) (.bin .Mod (.loc 14 _) (.int 2 _) _) _) (.cons (.bin .Sub (.loc 13 _) (.bin .FloorDiv (.loc 13 _) (.int 2 _) _) _) .nil)))) 0 _) (.cons (.tup (.cons (.loc 10 _) (.cons (.bin .Sub (.bin .Sub (.int 0 _) (.loc 6 _) _) (.int 1 _) _) (.cons (.bin .Sub (.int 1 _) (.bin .FloorDiv (.loc 14 _) (.int 2 _) _) _) (.cons (.bin .FloorDiv (.loc 13 _) (.int 2 _) _) .nil)))) 0 _) .nil)) _) _)
  .nil) .nil _)
  (.cons (.assign (.loc 6 _) (.bin .Add (.loc 6 _) (.call (.glob 5 _) (.cons (.loc 15 _) .nil) _) _) _)
  (.cons (.assign (.sub (.loc 4 _) (.bin .Add (.int 10 _) (.loc 7 _) _) _) (.loc 15 _) _)
  (.cons (.assign (.sub (.loc 5 _) (.bin .Add (.int 10 _) (.loc 7 _) _) _) (.loc 11 _) _)
  .nil)))))))))))) _)
  (.cons (.ret (.tup (.cons (.loc 4 _) (.cons (.loc 5 _) (.cons (.bin .Sub (.loc 6 _) (.int 1 _) _) .nil))) 0 _) _)
  .nil))))), rfl⟩ : { b : SL // b.py c__law_lay.N = kids (stAt [61]) }).1
noncomputable def F__law_lay (K : Frag) : Fn := ⟨763, fdOf K 763, c__law_lay, b__law_lay, 4⟩
noncomputable def c__law_taken : Cx := ⟨⟨[Str.ofString "c", Str.ofString "tables", Str.ofString "where", Str.ofString "before", Str.ofString "pointers", Str.ofString "upper", Str.ofString "lower", Str.ofString "n", Str.ofString "ends", Str.ofString "meta"], fnF, glL⟩, ⟨.function,[((Str.ofString "c"),.local), ((Str.ofString "tables"),.cell), ((Str.ofString "where"),.local), ((Str.ofString "before"),.local), ((Str.ofString "pointers"),.local), ((Str.ofString "upper"),.local), ((Str.ofString "lower"),.local), ((Str.ofString "n"),.local), ((Str.ofString "ends"),.local), ((Str.ofString "len"),.globalImplicit), ((Str.ofString "_law_ikey"),.globalImplicit), ((Str.ofString "max"),.globalImplicit)],false,false,[((Str.ofString "fast"),.str (Str.ofString "c")), ((Str.ofString "fast"),.str (Str.ofString "tables")), ((Str.ofString "fast"),.str (Str.ofString "where")), ((Str.ofString "fast"),.str (Str.ofString "before")), ((Str.ofString "fast"),.str (Str.ofString "pointers")), ((Str.ofString "fast"),.str (Str.ofString "meta")), ((Str.ofString "fast"),.str (Str.ofString "upper")), ((Str.ofString "fast"),.str (Str.ofString "lower")), ((Str.ofString "fast"),.str (Str.ofString "n")), ((Str.ofString "fast"),.str (Str.ofString "ends"))]⟩, [true, true, true, true, true, true, true, true, true, false], [5, 38, 43]⟩
noncomputable def b__law_taken : SL := (⟨(.cons (.assign (.loc 5 _) (.comp (.attr (.loc 9 _) 22 _) 9 _ (.sub (.attr (.loc 0 _) 45 _) (.int 0 _) _) .nil ⟨.function,[((Str.ofString ".0"),.local), ((Str.ofString "meta"),.local)],false,false,[]⟩ _) _)
  (.cons (.assign (.loc 6 _) (.comp (.attr (.loc 9 _) 22 _) 9 _ (.sub (.attr (.loc 0 _) 45 _) (.int 1 _) _) .nil ⟨.function,[((Str.ofString ".0"),.local), ((Str.ofString "meta"),.local)],false,false,[]⟩ _) _)
  (.cons (.if_ (.cmp .Eq (.call (.glob 5 _) (.cons (.loc 5 _) .nil) _) (.int 0 _) _) (.cons (.ret (.none _) _)
  .nil) .nil _)
  (.cons (.for_ (.loc 7 _) (.loc 5 _) (.cons (.if_ (.bop .Or (.cmp .NotIn (.loc 7 _) (.loc 2 _) _) (.cons (.cmp .NotEq (.sub (.loc 2 _) (.loc 7 _) _) (.attr (.loc 0 _) 41 _) _) .nil) _) (.cons (.ret (.none _) _)
  .nil) .nil _)
  .nil) _)
  (.cons (.for_ (.loc 7 _) (.loc 6 _) (.cons (.if_ (.bop .Or (.cmp .NotIn (.loc 7 _) (.loc 2 _) _) (.cons (.cmp .NotEq (.sub (.loc 2 _) (.loc 7 _) _) (.bin .Add (.attr (.loc 0 _) 41 _) (.int 1 _) _) _) .nil) _) (.cons (.ret (.none _) _)
  .nil) .nil _)
  .nil) _)
  (.cons (.assign (.loc 8 _) (.comp (.sub (.sub (.loc 1 _) (.loc 7 _) _) (.bin .Sub (.call (.glob 5 _) (.cons (.sub (.loc 1 _) (.loc 7 _) _) .nil) _) (.int 1 _) _) _) 7 _ (.loc 5 _) .nil ⟨.function,[((Str.ofString ".0"),.local), ((Str.ofString "n"),.local), ((Str.ofString "len"),.globalImplicit), ((Str.ofString "tables"),.free)],false,false,[]⟩ _) _)
  (.cons (.if_ (.cmp .NotEq (.loc 4 _) (.bin .Add (.bin .Add (.slTo (.loc 3 _) (.attr (.loc 0 _) 41 _) _ _) (.list (.cons (.call (.glob 38 _) (.cons (.call (.glob 43 _) (.cons (.loc 8 _) .nil) _) .nil) _) .nil) _) _) (.slFrom (.loc 3 _) (.bin .Add (.attr (.loc 0 _) 41 _) (.int 1 _) _) _ _) _) _) (.cons (.ret (.none _) _)
  .nil) .nil _)
  (.cons (.ret (.bin .Add (.loc 5 _) (.loc 6 _) _) _)
  .nil)))))))), rfl⟩ : { b : SL // b.py c__law_taken.N = kids (stAt [62]) }).1
noncomputable def F__law_taken (K : Frag) : Fn := ⟨768, fdOf K 768, c__law_taken, b__law_taken, 5⟩
noncomputable def c__law_live : Cx := ⟨⟨[Str.ofString "nums", Str.ofString "a", Str.ofString "b", Str.ofString "options", Str.ofString "count", Str.ofString "trigger", Str.ofString "factor", Str.ofString "bounds", Str.ofString "most", Str.ofString "tables", Str.ofString "where", Str.ofString "last", Str.ofString "newest", Str.ofString "edit", Str.ofString "n", Str.ofString "e", Str.ofString "version", Str.ofString "picker", Str.ofString "pointers", Str.ofString "steps", Str.ofString "asked", Str.ofString "turn", Str.ofString "u", Str.ofString "top", Str.ofString "bottom", Str.ofString "best", Str.ofString "before", Str.ofString "c", Str.ofString "taken", Str.ofString "rows", Str.ofString "others", Str.ofString "spots", Str.ofString "kept", Str.ofString "goes", Str.ofString "sieve", Str.ofString "k", Str.ofString "level", Str.ofString "p"], fnF, glL⟩, ⟨.function,[((Str.ofString "nums"),.local), ((Str.ofString "a"),.local), ((Str.ofString "b"),.local), ((Str.ofString "options"),.cell), ((Str.ofString "count"),.cell), ((Str.ofString "trigger"),.local), ((Str.ofString "factor"),.local), ((Str.ofString "bounds"),.local), ((Str.ofString "most"),.local), ((Str.ofString "tables"),.cell), ((Str.ofString "where"),.cell), ((Str.ofString "last"),.cell), ((Str.ofString "newest"),.cell), ((Str.ofString "edit"),.local), ((Str.ofString "n"),.local), ((Str.ofString "e"),.local), ((Str.ofString "version"),.cell), ((Str.ofString "picker"),.local), ((Str.ofString "pointers"),.local), ((Str.ofString "steps"),.local), ((Str.ofString "asked"),.local), ((Str.ofString "turn"),.local), ((Str.ofString "u"),.local), ((Str.ofString "top"),.local), ((Str.ofString "bottom"),.local), ((Str.ofString "best"),.local), ((Str.ofString "before"),.local), ((Str.ofString "c"),.local), ((Str.ofString "taken"),.local), ((Str.ofString "rows"),.local), ((Str.ofString "others"),.local), ((Str.ofString "spots"),.local), ((Str.ofString "kept"),.local), ((Str.ofString "goes"),.local), ((Str.ofString "sieve"),.local), ((Str.ofString "k"),.local), ((Str.ofString "_law_draw"),.globalImplicit), ((Str.ofString "Options"),.globalImplicit), ((Str.ofString "len"),.globalImplicit), ((Str.ofString "range"),.globalImplicit), ((Str.ofString "_law_lay"),.globalImplicit), ((Str.ofString "VersionEdit"),.globalImplicit), ((Str.ofString "_law_meta"),.globalImplicit), ((Str.ofString "_law_made"),.globalImplicit), ((Str.ofString "Version"),.globalImplicit), ((Str.ofString "InternalOrder"),.globalImplicit), ((Str.ofString "Picker"),.globalImplicit), ((Str.ofString "sum"),.globalImplicit), ((Str.ofString "_law_tells"),.globalImplicit), ((Str.ofString "_law_fullest"),.globalImplicit), ((Str.ofString "score_of"),.globalImplicit), ((Str.ofString "_law_taken"),.globalImplicit), ((Str.ofString "sorted"),.globalImplicit), ((Str.ofString "_law_left"),.globalImplicit), ((Str.ofString "Sieve"),.globalImplicit), ((Str.ofString "_law_ikey"),.globalImplicit), ((Str.ofString "all"),.globalImplicit)],false,false,[((Str.ofString "fast"),.str (Str.ofString "nums")), ((Str.ofString "fast"),.str (Str.ofString "a")), ((Str.ofString "fast"),.str (Str.ofString "b")), ((Str.ofString "fast"),.str (Str.ofString "options")), ((Str.ofString "fast"),.str (Str.ofString "count")), ((Str.ofString "fast"),.str (Str.ofString "trigger")), ((Str.ofString "fast"),.str (Str.ofString "factor")), ((Str.ofString "fast"),.str (Str.ofString "bounds")), ((Str.ofString "fast"),.str (Str.ofString "level")), ((Str.ofString "fast"),.str (Str.ofString "most")), ((Str.ofString "fast"),.str (Str.ofString "tables")), ((Str.ofString "fast"),.str (Str.ofString "where")), ((Str.ofString "fast"),.str (Str.ofString "last")), ((Str.ofString "fast"),.str (Str.ofString "newest")), ((Str.ofString "fast"),.str (Str.ofString "edit")), ((Str.ofString "fast"),.str (Str.ofString "n")), ((Str.ofString "fast"),.str (Str.ofString "e")), ((Str.ofString "fast"),.str (Str.ofString "version")), ((Str.ofString "fast"),.str (Str.ofString "picker")), ((Str.ofString "fast"),.str (Str.ofString "pointers")), ((Str.ofString "fast"),.str (Str.ofString "steps")), ((Str.ofString "fast"),.str (Str.ofString "asked")), ((Str.ofString "fast"),.str (Str.ofString "turn")), ((Str.ofString "fast"),.str (Str.ofString "u")), ((Str.ofString "fast"),.str (Str.ofString "top")), ((Str.ofString "fast"),.str (Str.ofString "bottom")), ((Str.ofString "fast"),.str (Str.ofString "best")), ((Str.ofString "fast"),.str (Str.ofString "p")), ((Str.ofString "fast"),.str (Str.ofString "before")), ((Str.ofString "fast"),.str (Str.ofString "c")), ((Str.ofString "fast"),.str (Str.ofString "taken")), ((Str.ofString "fast"),.str (Str.ofString "rows")), ((Str.ofString "fast"),.str (Str.ofString "others")), ((Str.ofString "fast"),.str (Str.ofString "spots")), ((Str.ofString "fast"),.str (Str.ofString "kept")), ((Str.ofString "fast"),.str (Str.ofString "goes")), ((Str.ofString "fast"),.str (Str.ofString "sieve")), ((Str.ofString "fast"),.str (Str.ofString "k"))]⟩, [true, true, true, true, true, true, true, true, true, true, true, true, true, true, true, true, true, true, true, true, true, true, true, true, true, true, true, true, true, true, true, true, true, true, true, true, false, false], [5, 21, 26, 27, 28, 29, 35, 38, 41, 44, 45, 46, 47, 48, 49, 50, 51, 52, 53, 54, 55]⟩
noncomputable def b__law_live : SL := (⟨(.cons (.assign (.loc 1 _) (.call (.glob 41 _) (.cons (.loc 0 _) (.cons (.int 0 _) .nil)) _) _)
  (.cons (.assign (.loc 2 _) (.call (.glob 41 _) (.cons (.loc 0 _) (.cons (.int 1 _) .nil)) _) _)
  (.cons (.assign (.loc 3 _) (.call (.glob 44 _) .nil _) _)
  (.cons (.assign (.loc 4 _) (.int 7 _) _)
  (.cons (.assign (.loc 5 _) (.int 4 _) _)
  (.cons (.assign (.loc 6 _) (.int 10 _) _)
  (.cons (.assign (.loc 7 _) (.list (.cons (.int 10485760 _) (.cons (.int 10485760 _) .nil)) _) _)
  (.cons (.if_ (.cmp .Eq (.bin .Mod (.loc 1 _) (.int 4 _) _) (.int 3 _) _) (.cons (.assign (.loc 3 _) (.meth (.call (.glob 44 _) .nil _) 58 .nil _ _) _)
  (.cons (.assign (.loc 4 _) (.int 4 _) _)
  (.cons (.assign (.loc 5 _) (.int 2 _) _)
  (.cons (.assign (.loc 6 _) (.int 2 _) _)
  (.cons (.assign (.loc 7 _) (.list (.cons (.int 256 _) (.cons (.int 256 _) .nil)) _) _)
  .nil))))) .nil _)
  (.cons (.while_ (.cmp .Lt (.call (.glob 5 _) (.cons (.loc 7 _) .nil) _) (.int 12 _) _) (.cons (.expr (.meth (.loc 7 _) 78 (.cons (.bin .Mult (.sub (.loc 7 _) (.bin .Sub (.call (.glob 5 _) (.cons (.loc 7 _) .nil) _) (.int 1 _) _) _) (.loc 6 _) _) .nil) _ _) _)
  .nil) _)
  (.cons (.if_ (.cmp .NotEq (.comp (.call (.glob 30 _) (.cons (.loc 3 _) (.cons (.loc 36 _) .nil)) _) 36 _ (.call (.glob 21 _) (.cons (.int 12 _) .nil) _) .nil ⟨.function,[((Str.ofString ".0"),.local), ((Str.ofString "level"),.local), ((Str.ofString "max_octets_of"),.globalImplicit), ((Str.ofString "options"),.free)],false,false,[]⟩ _) (.loc 7 _) _) (.cons (.ret (.bool false _) _)
  .nil) .nil _)
  (.cons (.assign (.loc 7 _) (.slTo (.loc 7 _) (.loc 4 _) _ _) _)
  (.cons (.assign (.loc 8 _) (.ite (.cmp .Gt (.call (.glob 5 _) (.cons (.loc 0 _) .nil) _) (.int 5 _) _) (.int 6 _) (.int 4 _) _) _)
  (.cons (.assign (.tup [(9,_), (10,_), (11,_)] 0 _) (.call (.glob 45 _) (.cons (.loc 0 _) (.cons (.loc 4 _) (.cons (.loc 7 _) (.cons (.loc 8 _) .nil)))) _) _)
  (.cons (.assign (.loc 12 _) (.dict0 _) _)
  (.cons (.assign (.loc 13 _) (.call (.glob 29 _) .nil _) _)
  (.cons (.for_ (.loc 14 _) (.loc 9 _) (.cons (.for_ (.loc 15 _) (.sub (.loc 9 _) (.loc 14 _) _) (.cons (.assign (.sub (.loc 12 _) (.sub (.loc 15 _) (.int 0 _) _) _) (.loc 15 _) _)
  .nil) _)
  (.cons (.expr (.meth (.attr (.loc 13 _) 32 _) 78 (.cons (.tup (.cons (.sub (.loc 10 _) (.loc 14 _) _) (.cons (.call (.glob 46 _) (.cons (.loc 14 _) (.cons (.sub (.loc 9 _) (.loc 14 _) _) .nil)) _) .nil)) 0 _) .nil) _ _) _)
  .nil)) _)
  (.cons (.assign (.loc 16 _) (.call (.glob 47 _) (.cons (.call (.glob 27 _) (.cons (.loc 4 _) (.cons (.call (.glob 28 _) .nil _) .nil)) _) (.cons (.loc 13 _) .nil)) _) _)
  (.cons (.assign (.loc 17 _) (.call (.glob 48 _) (.cons (.loc 3 _) (.cons (.call (.glob 28 _) .nil _) .nil)) _) _)
  (.cons (.assign (.loc 18 _) (.bin .Mult (.list (.cons (.byt [] _) .nil) _) (.loc 4 _) _) _)
  (.cons (.assign (.loc 19 _) (.call (.glob 35 _) (.cons (.comp (.bin .Sub (.bin .Sub (.loc 4 _) (.int 1 _) _) (.sub (.loc 10 _) (.loc 14 _) _) _) 14 _ (.loc 10 _) .nil ⟨.function,[((Str.ofString ".0"),.local), ((Str.ofString "n"),.local), ((Str.ofString "count"),.free), ((Str.ofString "where"),.free)],false,false,[]⟩ _) .nil) _) _)
  (.cons (.assign (.loc 20 _) (.list (.cons (.bin .Mod (.loc 2 _) (.int 6 _) _) .nil) _) _)
  (.cons (.for_ (.loc 21 _) (.call (.glob 21 _) (.cons (.bin .Sub (.bin .Mult (.int 2 _) (.loc 8 _) _) (.int 4 _) _) .nil) _) (.cons (.for_ (.loc 22 _) (.loc 20 _) (.cons (.if_ (.not (.call (.glob 49 _) (.cons (.loc 16 _) (.cons (.loc 9 _) (.cons (.loc 12 _) (.cons (.loc 22 _) (.cons (.loc 11 _) .nil))))) _) _) (.cons (.ret (.bool false _) _)
  .nil) .nil _)
  .nil) _)
  (.cons (.assign (.tup [(23,_), (24,_), (25,_)] 0 _) (.call (.glob 50 _) (.cons (.loc 9 _) (.cons (.loc 10 _) (.cons (.loc 7 _) (.cons (.loc 5 _) .nil)))) _) _)
  (.cons (.if_ (.bop .Or (.cmp .NotEq (.call (.glob 51 _) (.cons (.loc 16 _) (.cons (.loc 3 _) .nil)) _) (.tup (.cons (.loc 23 _) (.cons (.loc 24 _) .nil)) 0 _) _) (.cons (.cmp .NotEq (.attr (.loc 16 _) 38 _) (.loc 25 _) _) .nil) _) (.cons (.ret (.bool false _) _)
  .nil) .nil _)
  (.cons (.assign (.loc 26 _) (.comp (.loc 37 _) 37 _ (.loc 18 _) .nil ⟨.function,[((Str.ofString ".0"),.local), ((Str.ofString "p"),.local)],false,false,[]⟩ _) _)
  (.cons (.assign (.loc 27 _) (.meth (.loc 17 _) 75 (.cons (.loc 16 _) (.cons (.loc 18 _) .nil)) _ _) _)
  (.cons (.if_ (.cmp .NotEq (.cmp .Is (.loc 27 _) (.none _) _) (.cmp .Lt (.loc 23 _) (.loc 24 _) _) _) (.cons (.ret (.bool false _) _)
  .nil) .nil _)
  (.cons (.if_ (.cmp .Is (.loc 27 _) (.none _) _) (.cons (.brk _)
  .nil) .nil _)
  (.cons (.assign (.loc 28 _) (.call (.glob 52 _) (.cons (.loc 27 _) (.cons (.loc 9 _) (.cons (.loc 10 _) (.cons (.loc 26 _) (.cons (.loc 18 _) .nil))))) _) _)
  (.cons (.if_ (.bop .Or (.cmp .NotEq (.attr (.loc 27 _) 41 _) (.loc 25 _) _) (.cons (.cmp .Is (.loc 28 _) (.none _) _) (.cons (.cmp .GtE (.loc 21 _) (.loc 19 _) _) .nil)) _) (.cons (.ret (.bool false _) _)
  .nil) .nil _)
  (.cons (.assign (.loc 29 _) (.list .nil _) _)
  (.cons (.for_ (.loc 14 _) (.loc 28 _) (.cons (.assign (.loc 29 _) (.bin .Add (.loc 29 _) (.sub (.loc 9 _) (.loc 14 _) _) _) _)
  .nil) _)
  (.cons (.assign (.loc 29 _) (.call (.glob 26 _) (.cons (.loc 29 _) .nil) _) _)
  (.cons (.assign (.loc 30 _) (.dict0 _) _)
  (.cons (.assign (.loc 31 _) (.dict0 _) _)
  (.cons (.for_ (.loc 14 _) (.loc 10 _) (.cons (.if_ (.cmp .NotIn (.loc 14 _) (.loc 28 _) _) (.cons (.assign (.sub (.loc 30 _) (.loc 14 _) _) (.sub (.loc 9 _) (.loc 14 _) _) _)
  (.cons (.assign (.sub (.loc 31 _) (.loc 14 _) _) (.sub (.loc 10 _) (.loc 14 _) _) _)
  .nil)) .nil _)
  .nil) _)
  (.cons (.assign (.tup [(32,_), (33,_)] 0 _) (.call (.glob 53 _) (.cons (.loc 29 _) (.cons (.loc 31 _) (.cons (.loc 30 _) (.cons (.loc 25 _) .nil)))) _) _)
  (.cons (.assign (.loc 34 _) (.call (.glob 54 _) (.cons (.loc 27 _) (.cons (.loc 11 _) .nil)) _) _)
  (.cons (.for_ (.loc 35 _) (.call (.glob 21 _) (.cons (.call (.glob 5 _) (.cons (.loc 29 _) .nil) _) .nil) _) (.cons (.if_ (.cmp .NotEq (.meth (.loc 34 _) 77 (.cons (.call (.glob 38 _) (.cons (.sub (.loc 29 _) (.loc 35 _) _) .nil) _) (.cons (.bin .Sub (.int 0 _) (.int 1 _) _) .nil)) _ _) (.tup (.cons (.bool false _) (.cons (.sub (.loc 33 _) (.loc 35 _) _) .nil)) 0 _) _) (.cons (.ret (.bool false _) _)
  .nil) .nil _)
  .nil) _)
  (.cons (.expr (.meth (.loc 27 _) 72 .nil _ _) _)
  (.cons (.if_ (.cmp .Gt (.call (.glob 5 _) (.cons (.loc 32 _) .nil) _) (.int 0 _) _) (.cons (.assign (.sub (.loc 30 _) (.bin .Add (.int 30 _) (.loc 21 _) _) _) (.loc 32 _) _)
  (.cons (.assign (.sub (.loc 31 _) (.bin .Add (.int 30 _) (.loc 21 _) _) _) (.bin .Add (.loc 25 _) (.int 1 _) _) _)
  (.cons (.expr (.meth (.attr (.attr (.loc 27 _) 47 _) 32 _) 78 (.cons (.tup (.cons (.bin .Add (.loc 25 _) (.int 1 _) _) (.cons (.call (.glob 46 _) (.cons (.bin .Add (.int 30 _) (.loc 21 _) _) (.cons (.loc 32 _) .nil)) _) .nil)) 0 _) .nil) _ _) _)
  .nil))) .nil _)
  (.cons (.assign (.loc 9 _) (.loc 30 _) _)
  (.cons (.assign (.loc 10 _) (.loc 31 _) _)
  (.cons (.assign (.loc 16 _) (.call (.glob 47 _) (.cons (.loc 16 _) (.cons (.attr (.loc 27 _) 47 _) .nil)) _) _)
  (.cons (.if_ (.cmp .NotEq (.meth (.loc 16 _) 63 .nil _ _) (.call (.glob 26 _) (.cons (.loc 9 _) .nil) _) _) (.cons (.ret (.bool false _) _)
  .nil) .nil _)
  (.cons (.assign (.loc 20 _) (.list (.cons (.sub (.sub (.loc 29 _) (.int 0 _) _) (.int 0 _) _) (.cons (.sub (.sub (.loc 29 _) (.bin .Sub (.call (.glob 5 _) (.cons (.loc 29 _) .nil) _) (.int 1 _) _) _) (.int 0 _) _) .nil)) _) _)
  .nil))))))))))))))))))))))))) _)
  (.cons (.expr (.meth (.loc 16 _) 1 .nil _ _) _)
  (.cons (.ret (.call (.glob 55 _) (.cons (.comp (.call (.glob 49 _) (.cons (.loc 16 _) (.cons (.loc 9 _) (.cons (.loc 12 _) (.cons (.loc 22 _) (.cons (.loc 11 _) .nil))))) _) 22 _ (.call (.glob 21 _) (.cons (.int 6 _) .nil) _) .nil ⟨.function,[((Str.ofString ".0"),.local), ((Str.ofString "u"),.local), ((Str.ofString "_law_tells"),.globalImplicit), ((Str.ofString "last"),.free), ((Str.ofString "newest"),.free), ((Str.ofString "tables"),.free), ((Str.ofString "version"),.free)],false,false,[]⟩ _) .nil) _) _)
  .nil)))))))))))))))))))))))), rfl⟩ : { b : SL // b.py c__law_live.N = kids (stAt [63]) }).1
noncomputable def F__law_live (K : Frag) : Fn := ⟨773, fdOf K 773, c__law_live, b__law_live, 1⟩
noncomputable def c_law : Cx := ⟨⟨[Str.ofString "script", Str.ofString "nums", Str.ofString "whole", Str.ofString "x"], fnF, glL⟩, ⟨.function,[((Str.ofString "script"),.local), ((Str.ofString "nums"),.local), ((Str.ofString "whole"),.local), ((Str.ofString "len"),.globalImplicit), ((Str.ofString "_law_live"),.globalImplicit), ((Str.ofString "Corrupt"),.globalImplicit)],false,false,[((Str.ofString "fast"),.str (Str.ofString "script")), ((Str.ofString "fast"),.str (Str.ofString "x")), ((Str.ofString "fast"),.str (Str.ofString "nums")), ((Str.ofString "fast"),.str (Str.ofString "whole"))]⟩, [true, true, true, false], [5, 15, 56]⟩
noncomputable def b_law : SL := (⟨(.cons (.assign (.loc 1 _) (.comp (.bin .Mod (.loc 3 _) (.int 999983 _) _) 3 _ (.slTo (.loc 0 _) (.int 16 _) _ _) .nil ⟨.function,[((Str.ofString ".0"),.local), ((Str.ofString "x"),.local)],false,false,[]⟩ _) _)
  (.cons (.if_ (.cmp .Eq (.call (.glob 5 _) (.cons (.loc 1 _) .nil) _) (.int 0 _) _) (.cons (.assign (.loc 1 _) (.list (.cons (.int 0 _) .nil) _) _)
  .nil) .nil _)
  (.cons (.assign (.loc 2 _) (.bool false _) _)
  (.cons (.try_ (.cons (.assign (.loc 2 _) (.call (.glob 56 _) (.cons (.loc 1 _) .nil) _) _)
  .nil) (hdAt [64, 3]) _)
  (.cons (.ret (.loc 2 _) _)
  .nil))))), rfl⟩ : { b : SL // b.py c_law.N = kids (stAt [64]) }).1
noncomputable def F_law (K : Frag) : Fn := ⟨778, fdOf K 778, c_law, b_law, 1⟩
end Mine
namespace Mine
noncomputable def ix (x : String) : Nat := fnL.findIdx (· == Str.ofString x)
noncomputable def methL : List (Addr × Nat × Value) := [(272, ix "compare", .ref 241), (218, ix "compare", .ref 159), (305, ix "tiny", .ref 302), (466, ix "overlapping", .ref 407), (466, ix "candidates", .ref 414), (466, ix "get", .ref 421),
  (466, ix "level_octets", .ref 442), (466, ix "numbers", .ref 449), (466, ix "check", .ref 463), (522, ix "within", .ref 491), (522, ix "apply", .ref 498), (522, ix "before", .ref 505), (522, ix "place", .ref 512), (522, ix "finish", .ref 519),
  (592, ix "grand_limit", .ref 561), (592, ix "stop_before", .ref 575), (592, ix "base_level_for", .ref 582), (592, ix "add_deletions", .ref 589), (662, ix "needs_compaction", .ref 631), (662, ix "user_range", .ref 638), (662, ix "pick", .ref 645), (662, ix "set_up_other", .ref 659), (690, ix "turn", .ref 687)]
structure Wd where
  w : World
  K : Params → Frag
noncomputable def GG (w : Wd) (H0 : Heap) : Gd where
  prog := PySem.Challenge.pw_xm0838_01
  w := w.w
  K := w.K w.w.params
  H0 := H0
  gl := glL
  fn := fnF
  nf := nfL
  nn := fnL.length
  cls := [183, 218, 272, 305, 340, 375, 466, 522, 592, 662, 690]
  meths := methL
  nofld := [(466, 1)]
  lm := [(ix "append", .builtin "list.append"), (ix "insert", .builtin "list.insert")]
  dm := [(ix "get", .builtin "dict.get")]
theorem look_of {K : Frag} {a : Addr} (h : fnIn K a = true) : ∃ oc od osl, K.lookup a = some ⟨oc, od, .func (fdOf K a), osl⟩ := by
  unfold fnIn at h
  split at h
  · rename_i oc od fd osl e
    exact ⟨oc, od, osl, by rw [e]; congr 3; unfold fdOf; rw [e]⟩
  · cases h
theorem ar0 {P : List Value → Prop} (h : P []) (vs : List Value) (e : vs.length = 0) : P vs := List.eq_nil_of_length_eq_zero e ▸ h
theorem arS {n : Nat} {P : List Value → Prop} (h : ∀ a vs, vs.length = n → P (a :: vs)) (vs : List Value) (e : vs.length = n + 1) : P vs := by
  cases vs with
  | nil => cases e
  | cons a vs => exact h a vs (Nat.succ.inj e)
section
variable {P : List Value → Prop}
theorem ar1 (h : ∀ a, P [a]) : ∀ vs : List Value, vs.length = 1 → P vs := arS fun a => ar0 (P := fun l => P (a :: l)) (h a)
theorem ar2 (h : ∀ a b, P [a, b]) : ∀ vs : List Value, vs.length = 2 → P vs := arS fun a => ar1 (P := fun l => P (a :: l)) (h a)
theorem ar3 (h : ∀ a b c, P [a, b, c]) : ∀ vs : List Value, vs.length = 3 → P vs := arS fun a => ar2 (P := fun l => P (a :: l)) (h a)
theorem ar4 (h : ∀ a b c d, P [a, b, c, d]) : ∀ vs : List Value, vs.length = 4 → P vs := arS fun a => ar3 (P := fun l => P (a :: l)) (h a)
theorem ar5 (h : ∀ a b c d e, P [a, b, c, d, e]) : ∀ vs : List Value, vs.length = 5 → P vs := arS fun a => ar4 (P := fun l => P (a :: l)) (h a)
end
noncomputable def Fs : List (Frag → Fn) := [F_put_fixed32, F_put_fixed64, F_read_fixed32, F_read_fixed64, F_pack_tag, F_make_ikey, F_split_ikey, F_user_of, F_tag_of, F_Order_compare, F_InternalOrder___init__, F_InternalOrder_compare, F_Options___init__, F_Options_tiny, F_FileMeta___init__, F_VersionEdit___init__, F_find_file, F_Version___init__, F_Version_overlapping, F_Version_candidates, F_Version_get, F_Version_level_octets, F_Version_numbers, F_Version_check, F_VersionMaker___init__, F_VersionMaker_within, F_VersionMaker_apply, F_VersionMaker_before, F_VersionMaker_place, F_VersionMaker_finish, F_total_size, F_key_range, F_Compaction___init__, F_Compaction_grand_limit, F_Compaction_stop_before, F_Compaction_base_level_for, F_Compaction_add_deletions, F_max_octets_of, F_score_of, F_Picker___init__, F_Picker_needs_compaction, F_Picker_user_range, F_Picker_pick, F_Picker_set_up_other, F_Sieve___init__, F_Sieve_turn, F__law_draw, F__law_user, F__law_ikey, F__law_octets, F__law_meta, F__law_made, F__law_over, F__law_tells, F__law_fullest, F__law_left, F__law_lay, F__law_taken, F__law_live, F_law]
noncomputable def isRefV : Value → Option Addr
  | .ref a => some a
  | _ => none
noncomputable def clsChk (K : Frag) (p : Addr × Addr) : Bool := makesIn K p.1 && (findIn K (.ref p.1) "__init__" == some (some (.ref p.2))) && isFn K (.ref p.2) && keepIn K (.ref p.1)
structure HdOk (w : Wd) (H0 : Heap) : Prop where
  fn : ∀ F ∈ Fs, FnOk (GG w H0) (F (GG w H0).K)
  glob : (glL.all fun p => (nsIn (GG w H0).K mainGlobals p.1 == some (some p.2)) || (nsIn (GG w H0).K mainGlobals p.1 == some none && bootBuiltins p.1 == some p.2 && !(p.1 == ("__name__" : Str)))) = true
  cls : ((GG w H0).cls.all fun c => plainGet (GG w H0).K c "" && hasDictIn (GG w H0).K c && findIn (GG w H0).K (.ref c) "__setattr__" == some (some (.builtin "object.__setattr__")) && plainOver (GG w H0).K c &&
    (List.range nfL).all fun x => (GG w H0).nofld.contains (c, x) || findIn (GG w H0).K (.ref c) (fnF x) == some none) = true
  meth : (methL.all fun q => decide (q.2.1 < fnL.length) && (match isRefV q.2.2 with | some a => findIn (GG w H0).K (.ref q.1) (fnF q.2.1) == some (some (.ref a)) && isFn (GG w H0).K (.ref a) | none => false)) = true
  made : ([(272, 234), (305, 288), (340, 330), (375, 358), (466, 400), (522, 484), (592, 554), (662, 624), (690, 680)].all (clsChk (GG w H0).K)) = true
  made0 : makesIn (GG w H0).K 218 = true ∧ findIn (GG w H0).K (.ref 218) "__init__" = some (some (.builtin "object.__init__")) ∧ keepIn (GG w H0).K (.ref 218) = true
  law : nsIn (GG w H0).K mainGlobals (Str.ofString "law") = some (some (.ref 778))
end Mine
namespace Mine
structure Base (w : Wd) (H0 : Heap) : Prop where
  hd : HdOk w H0
  kin : (GG w H0).K.In H0
  lim : H0.NoLimit
  sys : H0.get? sysModules ≠ none
  g : ∃ mg, H0.Ns mainGlobals mg
  b : ∃ mb, H0.Ns builtinsNs mb ∧ ∀ x : Str, x ≠ "__name__" → mb x = bootBuiltins x
theorem fn_nodup : fnL.Nodup := by decide +kernel
theorem gok {w : Wd} {H0 : Heap} (B : Base w H0) : GOk (GG w H0) where
  glob := fun j p e env A E Q s hg hb base q => by
    have hm : p ∈ glL := List.mem_of_getElem? e
    obtain ⟨mg, hmg⟩ := B.g
    obtain ⟨mb, hmb, hbb⟩ := B.b
    have c := List.all_eq_true.mp B.hd.glob p hm
    rw [Bool.or_eq_true] at c
    have g1 : s.heap.Ns env.globals mg := by rw [hg]; exact hmg.keeps base
    have b1 : s.heap.Ns env.builtins mb := by rw [hb]; exact hmb.keeps base
    rcases c with c | c
    · exact loadGlobal_global g1 (mg_of B.kin hmg (beq_iff_eq.mp c)) q
    · simp only [Bool.and_eq_true, Bool.not_eq_true', beq_eq_false_iff_ne] at c
      obtain ⟨⟨c1, c2⟩, c3⟩ := c
      exact loadGlobal_builtin g1 (mg_none_of B.kin hmg (beq_iff_eq.mp c1)) b1 ((hbb _ c3).trans (beq_iff_eq.mp c2)) q
  lms := fun x f h => by
    have h : (x, f) ∈ [(ix "append", Value.builtin "list.append"), (ix "insert", .builtin "list.insert")] := h
    rcases List.mem_cons.mp h with e | h
    · cases e; exact ⟨_, rfl, slot_list_append, type_list_append⟩
    · rcases List.mem_cons.mp h with e | h
      · cases e; exact ⟨_, rfl, F.slot_list_insert, F.type_list_insert⟩
      · cases h
  dms := fun x f h => by
    have h : (x, f) ∈ [(ix "get", Value.builtin "dict.get")] := h
    rcases List.mem_cons.mp h with e | h
    · cases e; exact ⟨_, rfl, F.slot_dict_get, F.type_dict_get⟩
    · cases h
  kin := B.kin
  lim := B.lim
  sys := B.sys
  nfn := ⟨show nfL ≤ fnL.length by decide +kernel, show fnL.length ≤ 900 by decide +kernel⟩
  inj := fun x y hx hy e => by
    have hx' : x < fnL.length := hx
    have hy' : y < fnL.length := hy
    have e' : fnL.getD x default = fnL.getD y default := e
    rw [List.getD_eq_getElem?_getD, List.getD_eq_getElem?_getD, List.getElem?_eq_getElem hx', List.getElem?_eq_getElem hy'] at e'
    have e' : fnL[x] = fnL[y] := Option.some.inj (show some fnL[x] = some fnL[y] from congrArg some e')
    have P := List.pairwise_iff_getElem.mp fn_nodup
    rcases Nat.lt_trichotomy x y with z | z | z
    · exact absurd e' (P x y hx' hy' z)
    · exact z
    · exact absurd e'.symm (P y x hy' hx' z)
  cls := fun c hc => by
    have z := List.all_eq_true.mp B.hd.cls c hc
    simp only [Bool.and_eq_true, List.all_eq_true, List.mem_range, Bool.or_eq_true] at z
    obtain ⟨⟨⟨⟨z1, z2⟩, z3⟩, z4⟩, z5⟩ := z
    refine ⟨z1, z2, beq_iff_eq.mp z3, z4, fun x hx hn => ?_⟩
    rcases z5 x hx with q | q
    · rw [hn] at q; cases q
    · exact beq_iff_eq.mp q
  meth := fun c x f h => by
    have z := List.all_eq_true.mp B.hd.meth (c, x, f) h
    simp only [Bool.and_eq_true, decide_eq_true_eq] at z
    obtain ⟨z1, z2⟩ := z
    refine ⟨z1, ?_⟩
    cases f <;> first | (cases z2; done) | skip
    rename_i a
    simp only [isRefV, Bool.and_eq_true] at z2
    exact ⟨a, rfl, beq_iff_eq.mp z2.1, z2.2⟩
section
variable {w : Wd} {H0 : Heap} (B : Base w H0)
include B
theorem okF {F : Frag → Fn} (i : Nat) (h : Fs[i]? = some F) : FnOk (GG w H0) (F (GG w H0).K) := B.hd.fn F (List.mem_of_getElem? h)
theorem ok_put_fixed32 : FnOk (GG w H0) (F_put_fixed32 (GG w H0).K) := okF B 0 rfl
theorem ok_put_fixed64 : FnOk (GG w H0) (F_put_fixed64 (GG w H0).K) := okF B 1 rfl
theorem ok_read_fixed32 : FnOk (GG w H0) (F_read_fixed32 (GG w H0).K) := okF B 2 rfl
theorem ok_read_fixed64 : FnOk (GG w H0) (F_read_fixed64 (GG w H0).K) := okF B 3 rfl
theorem ok_pack_tag : FnOk (GG w H0) (F_pack_tag (GG w H0).K) := okF B 4 rfl
theorem ok_make_ikey : FnOk (GG w H0) (F_make_ikey (GG w H0).K) := okF B 5 rfl
theorem ok_split_ikey : FnOk (GG w H0) (F_split_ikey (GG w H0).K) := okF B 6 rfl
theorem ok_user_of : FnOk (GG w H0) (F_user_of (GG w H0).K) := okF B 7 rfl
theorem ok_tag_of : FnOk (GG w H0) (F_tag_of (GG w H0).K) := okF B 8 rfl
theorem ok_Order_compare : FnOk (GG w H0) (F_Order_compare (GG w H0).K) := okF B 9 rfl
theorem ok_InternalOrder___init__ : FnOk (GG w H0) (F_InternalOrder___init__ (GG w H0).K) := okF B 10 rfl
theorem ok_InternalOrder_compare : FnOk (GG w H0) (F_InternalOrder_compare (GG w H0).K) := okF B 11 rfl
theorem ok_Options___init__ : FnOk (GG w H0) (F_Options___init__ (GG w H0).K) := okF B 12 rfl
theorem ok_Options_tiny : FnOk (GG w H0) (F_Options_tiny (GG w H0).K) := okF B 13 rfl
theorem ok_FileMeta___init__ : FnOk (GG w H0) (F_FileMeta___init__ (GG w H0).K) := okF B 14 rfl
theorem ok_VersionEdit___init__ : FnOk (GG w H0) (F_VersionEdit___init__ (GG w H0).K) := okF B 15 rfl
theorem ok_find_file : FnOk (GG w H0) (F_find_file (GG w H0).K) := okF B 16 rfl
theorem ok_Version___init__ : FnOk (GG w H0) (F_Version___init__ (GG w H0).K) := okF B 17 rfl
theorem ok_Version_overlapping : FnOk (GG w H0) (F_Version_overlapping (GG w H0).K) := okF B 18 rfl
theorem ok_Version_candidates : FnOk (GG w H0) (F_Version_candidates (GG w H0).K) := okF B 19 rfl
theorem ok_Version_get : FnOk (GG w H0) (F_Version_get (GG w H0).K) := okF B 20 rfl
theorem ok_Version_level_octets : FnOk (GG w H0) (F_Version_level_octets (GG w H0).K) := okF B 21 rfl
theorem ok_Version_numbers : FnOk (GG w H0) (F_Version_numbers (GG w H0).K) := okF B 22 rfl
theorem ok_Version_check : FnOk (GG w H0) (F_Version_check (GG w H0).K) := okF B 23 rfl
theorem ok_VersionMaker___init__ : FnOk (GG w H0) (F_VersionMaker___init__ (GG w H0).K) := okF B 24 rfl
theorem ok_VersionMaker_within : FnOk (GG w H0) (F_VersionMaker_within (GG w H0).K) := okF B 25 rfl
theorem ok_VersionMaker_apply : FnOk (GG w H0) (F_VersionMaker_apply (GG w H0).K) := okF B 26 rfl
theorem ok_VersionMaker_before : FnOk (GG w H0) (F_VersionMaker_before (GG w H0).K) := okF B 27 rfl
theorem ok_VersionMaker_place : FnOk (GG w H0) (F_VersionMaker_place (GG w H0).K) := okF B 28 rfl
theorem ok_VersionMaker_finish : FnOk (GG w H0) (F_VersionMaker_finish (GG w H0).K) := okF B 29 rfl
theorem ok_total_size : FnOk (GG w H0) (F_total_size (GG w H0).K) := okF B 30 rfl
theorem ok_key_range : FnOk (GG w H0) (F_key_range (GG w H0).K) := okF B 31 rfl
theorem ok_Compaction___init__ : FnOk (GG w H0) (F_Compaction___init__ (GG w H0).K) := okF B 32 rfl
theorem ok_Compaction_grand_limit : FnOk (GG w H0) (F_Compaction_grand_limit (GG w H0).K) := okF B 33 rfl
theorem ok_Compaction_stop_before : FnOk (GG w H0) (F_Compaction_stop_before (GG w H0).K) := okF B 34 rfl
theorem ok_Compaction_base_level_for : FnOk (GG w H0) (F_Compaction_base_level_for (GG w H0).K) := okF B 35 rfl
theorem ok_Compaction_add_deletions : FnOk (GG w H0) (F_Compaction_add_deletions (GG w H0).K) := okF B 36 rfl
theorem ok_max_octets_of : FnOk (GG w H0) (F_max_octets_of (GG w H0).K) := okF B 37 rfl
theorem ok_score_of : FnOk (GG w H0) (F_score_of (GG w H0).K) := okF B 38 rfl
theorem ok_Picker___init__ : FnOk (GG w H0) (F_Picker___init__ (GG w H0).K) := okF B 39 rfl
theorem ok_Picker_needs_compaction : FnOk (GG w H0) (F_Picker_needs_compaction (GG w H0).K) := okF B 40 rfl
theorem ok_Picker_user_range : FnOk (GG w H0) (F_Picker_user_range (GG w H0).K) := okF B 41 rfl
theorem ok_Picker_pick : FnOk (GG w H0) (F_Picker_pick (GG w H0).K) := okF B 42 rfl
theorem ok_Picker_set_up_other : FnOk (GG w H0) (F_Picker_set_up_other (GG w H0).K) := okF B 43 rfl
theorem ok_Sieve___init__ : FnOk (GG w H0) (F_Sieve___init__ (GG w H0).K) := okF B 44 rfl
theorem ok_Sieve_turn : FnOk (GG w H0) (F_Sieve_turn (GG w H0).K) := okF B 45 rfl
theorem ok__law_draw : FnOk (GG w H0) (F__law_draw (GG w H0).K) := okF B 46 rfl
theorem ok__law_user : FnOk (GG w H0) (F__law_user (GG w H0).K) := okF B 47 rfl
theorem ok__law_ikey : FnOk (GG w H0) (F__law_ikey (GG w H0).K) := okF B 48 rfl
theorem ok__law_octets : FnOk (GG w H0) (F__law_octets (GG w H0).K) := okF B 49 rfl
theorem ok__law_meta : FnOk (GG w H0) (F__law_meta (GG w H0).K) := okF B 50 rfl
theorem ok__law_made : FnOk (GG w H0) (F__law_made (GG w H0).K) := okF B 51 rfl
theorem ok__law_over : FnOk (GG w H0) (F__law_over (GG w H0).K) := okF B 52 rfl
theorem ok__law_tells : FnOk (GG w H0) (F__law_tells (GG w H0).K) := okF B 53 rfl
theorem ok__law_fullest : FnOk (GG w H0) (F__law_fullest (GG w H0).K) := okF B 54 rfl
theorem ok__law_left : FnOk (GG w H0) (F__law_left (GG w H0).K) := okF B 55 rfl
theorem ok__law_lay : FnOk (GG w H0) (F__law_lay (GG w H0).K) := okF B 56 rfl
theorem ok__law_taken : FnOk (GG w H0) (F__law_taken (GG w H0).K) := okF B 57 rfl
theorem ok__law_live : FnOk (GG w H0) (F__law_live (GG w H0).K) := okF B 58 rfl
theorem ok_law : FnOk (GG w H0) (F_law (GG w H0).K) := okF B 59 rfl
end
end Mine
namespace Mine
theorem half {l r : Nat} (h : l < r) : l ≤ (l + r) / 2 ∧ (l + r) / 2 < r :=
  ⟨(Nat.le_div_iff_mul_le (by decide)).mpr (Nat.mul_two l ▸ Nat.add_le_add_left (Nat.le_of_lt h) l), Nat.div_lt_of_lt_mul (Nat.two_mul r ▸ Nat.add_lt_add_right h r)⟩
section
variable {c : Prop} {i : Decidable c} {A B : Prop}
theorem ip (h : c) (q : A) : @ite Prop c i A B := by rw [if_pos h]; exact q
theorem in_ (h : ¬c) (q : B) : @ite Prop c i A B := by rw [if_neg h]; exact q
theorem d1 (h : c) (q : A) : @ite Prop (decide c = true) (instDecidableEqBool _ _) A B := ip (decide_eq_true h) q
theorem d0 (h : ¬c) (q : B) : @ite Prop (decide c = true) (instDecidableEqBool _ _) A B := in_ (by simpa using h) q
theorem o1 (h : c) (q : B) : @ite Prop (decide c = false) (instDecidableEqBool _ _) A B := in_ (by simpa using h) q
theorem o0 (h : ¬c) (q : A) : @ite Prop (decide c = false) (instDecidableEqBool _ _) A B := ip (decide_eq_false h) q
theorem dc (h : c → A) (k : ¬c → B) : @ite Prop (decide c = true) (instDecidableEqBool _ _) A B := by
  by_cases e : c
  · exact d1 e (h e)
  · exact d0 e (k e)
end
noncomputable def Ext (σ σ' : SH) : Prop := ∀ a o, σ a = some o → σ' a = some o
theorem Ext.refl (σ : SH) : Ext σ σ := fun _ _ e => e
theorem Ext.trans {σ σ' σ'' : SH} (x : Ext σ σ') (y : Ext σ' σ'') : Ext σ σ'' := fun a o e => y a o (x a o e)
theorem Ext.none {σ σ' : SH} {a : Addr} (x : Ext σ σ') (h : σ' a = Option.none) : σ a = Option.none := by
  cases z : σ a with
  | none => rfl
  | some o => rw [x _ _ z] at h; cases h
theorem Ext.updF {σ σ' : SH} {a : Addr} (x : Ext σ σ') (o : SO) (h : σ a = Option.none) : Ext σ (Mine.upd σ' a o) := fun b p e => by
  rw [upd_ne _ _ (fun q => by subst q; rw [h] at e; cases e)]; exact x _ _ e
theorem Ext.upd {σ : SH} {a : Addr} (o : SO) (h : σ a = Option.none) : Ext σ (Mine.upd σ a o) := (Ext.refl σ).updF o h
theorem ne_of {σ : SH} {a b : Addr} {o : SO} (e : σ a = some o) (h : σ b = Option.none) : a ≠ b := fun q => by subst q; rw [e] at h; cases h
section
variable {G : Gd} {Q : QV} {σ : SH}
theorem new_w {o : SO} (h : ∀ a s, σ a = none → s a = some o → Ext σ s → Q (.ref a) s) : newW o Q σ :=
  fun a ha => h a _ ha (upd_same _ _ _) (Ext.upd _ ha)
theorem meth_inst {a c dd : Addr} {m : Nat → Option SV} {x : Nat} {f : Value} (h : σ a = some (.inst c dd m)) (hm : (c, x, f) ∈ G.meths) (hn : m x = none) : MRes G (.ref a) x f σ := ⟨a, rfl, .inl ⟨c, dd, m, h, hm, hn⟩⟩
theorem attr_inst {a c dd : Addr} {m : Nat → Option SV} {x : Nat} {v : SV} (h : σ a = some (.inst c dd m)) (hm : m x = some v) (hr : isRaw v = false) (hn : G.nofld.contains (c, x) = false) (q : Q v σ) : attrW G (.ref a) x Q σ := ⟨a, c, dd, m, v, rfl, h, hm, hr, hn, q⟩
theorem sub_list {a : Addr} {l : List SV} {k : Int} {v : SV} (h : σ a = some (.list l)) (h0 : 0 ≤ k) (h1 : k < 2 ^ 60) (e : l[k.toNat]? = some v) (q : Q v σ) : subW (.ref a) (.int k) Q σ := .inl ⟨l, v, h, h0, h1, e, q⟩
theorem sub_dict {a : Addr} {m : List (Int × SV)} {ep : Nat} {k : Int} {v : SV} (h : σ a = some (.dict m ep)) (e : mlook m k = some v) (q : Q v σ) : subW (.ref a) (.int k) Q σ := .inr ⟨m, ep, v, h, e, q⟩
theorem sub_n {a : Addr} {l : List SV} {k : Nat} {v : SV} (h : σ a = some (.list l)) (hz : l.length ≤ 1000000) (e : l[k]? = some v) (q : Q v σ) : subW (.ref a) (.int k) Q σ :=
  have := (List.getElem?_eq_some_iff.mp e).1
  sub_list h (by omega) (by omega) (by simpa using e) q
theorem sub_map {α : Type} {f : α → SV} {a : Addr} {l : List α} {k : Nat} {v : α} (h : σ a = some (.list (l.map f))) (hz : l.length ≤ 1000000) (e : l[k]? = some v) (q : Q (f v) σ) : subW (.ref a) (.int k) Q σ :=
  sub_n h (by simpa using hz) (by rw [List.getElem?_map, e]; rfl) q
theorem me {d n : Nat} {W : WL} {loc : Loc} {x : SV} {f : Value} (h : MRes G x n f σ) (q : W (KMeth2 G d f x Q) loc σ) : KMeth G d n W Q loc x σ := ⟨f, h, q⟩
theorem itl {a : Addr} {l : List SV} {k : List SV → (SH → Prop) → Prop} (h : σ a = some (.list l)) (q : k l fun s => s a = some (.list l)) : itemsW (.ref a) k σ := .inl ⟨l, h, q⟩
theorem itd {a : Addr} {m : List (Int × SV)} {ep : Nat} {k : List SV → (SH → Prop) → Prop} (h : σ a = some (.dict m ep)) (q : k (m.map fun p => .int p.1) fun s => s a = some (.dict m ep)) : itemsW (.ref a) k σ := .inr ⟨m, ep, h, q⟩
theorem slf_l {a : Addr} {l : List SV} {k : Nat} (h : σ a = some (.list l)) (h1 : k < 1000) (hz : l.length ≤ 1000000) (q : ∀ b s, σ b = none → s b = some (.list (l.drop k)) → Ext σ s → Q (.ref b) s) : slFromW (.ref a) (.int k) Q σ :=
  ⟨l, h, by omega, by omega, hz, by rw [Int.toNat_natCast]; exact new_w q⟩
theorem len_map {α : Type} {f : α → SV} {d : Nat} {a : Addr} {l : List α} (h : σ a = some (.list (l.map f))) (hz : l.length ≤ 1000) (q : Q (.int l.length) σ) : CallF G d (.builtin "len") [.ref a] Q σ :=
  f_len h (by rw [List.length_map]; omega) (by rw [List.length_map]; exact q)
end
section
variable {α : Type} {f : α → SV} {chk : SH → Prop} {As : SV → (Loc → SH → Prop) → Loc → SH → Prop} {Bd : WB} {K : KF}
theorem for1 (I : List α → Loc → SH → Prop) (hk : ∀ {r l h}, I r l h → chk h) (hn : ∀ l h, I [] l h → K .next l h)
    (hc : ∀ a r l h (R : Loc → SH → Prop), (∀ l h, I r l h → R l h) → I (a :: r) l h → As (f a) (KFb Bd R K) l h) : ∀ {r : List α} {l h}, I r l h → forN chk As Bd K (r.map f) l h
  | [], l, h, i => ⟨hk i, hn l h i⟩
  | a :: r, l, h, i => ⟨hk i, hc a r l h _ (fun l h j => for1 I hk hn hc (r := r) j) i⟩
theorem forR {n : Nat} {g : Nat → SV} (I : Nat → Loc → SH → Prop) (hk : ∀ {j l h}, I j l h → chk h) (hn : ∀ l h, I n l h → K .next l h)
    (hc : ∀ j l h (R : Loc → SH → Prop), j < n → (∀ l h, I (j + 1) l h → R l h) → I j l h → As (g j) (KFb Bd R K) l h) {l h} (i : I 0 l h) : forN chk As Bd K ((List.range n).map g) l h := by
  have go : ∀ m j l h, j + m = n → I j l h → forN chk As Bd K ((List.range' j m).map g) l h := by
    intro m
    induction m with
    | zero => intro j l h e i; exact ⟨hk i, hn l h (by rw [← e]; exact i)⟩
    | succ m ih => intro j l h e i; exact ⟨hk i, hc j l h _ (by omega) (fun l h i => ih (j + 1) l h (by omega) i) i⟩
  rw [List.range_eq_range']
  exact go n 0 l h (Nat.zero_add n) i
theorem wh1 {Tst : WT} (I : Nat → Loc → SH → Prop) (hc : ∀ m l h (R : Loc → SH → Prop), (∀ m' l h, m' < m → I m' l h → R l h) → I m l h → Tst (KWb Bd R K l) l h) : ∀ {m l h}, I m l h → ∃ n, whileN Tst Bd K n l h := by
  have go : ∀ n m l h, m < n → I m l h → whileN Tst Bd K n l h := by
    intro n
    induction n with
    | zero => intro m l h hm; exact absurd hm (Nat.not_lt_zero _)
    | succ n ih => intro m l h hm p; exact hc m l h _ (fun m' l h hm' p2 => ih m' l h (Nat.lt_of_lt_of_le hm' (Nat.le_of_lt_succ hm)) p2) p
  exact fun {m l h} p => ⟨m + 1, go (m + 1) m l h (Nat.lt_succ_self _) p⟩
theorem cmp1 {Tst : SV → (Bool → SH → Prop) → SH → Prop} {Bw : SV → QV → SH → Prop} {Q : QV} {acc : Addr} (I : List α → SH → Prop) (hk : ∀ {r h}, I r h → chk h) (hn : ∀ h, I [] h → Q (.ref acc) h)
    (hc : ∀ a r h (R : SH → Prop), (∀ h, I r h → R h) → I (a :: r) h → Tst (f a) (fun b h2 => if b = true then Bw (f a) (fun v h3 => ∃ l, h3 acc = some (.list l) ∧ l.length ≤ 1000000 ∧ R (upd h3 acc (.list (l ++ [v])))) h2 else R h2) h) :
    ∀ {r : List α} {h}, I r h → compN chk acc Tst Bw Q (r.map f) h
  | [], h, i => ⟨hk i, hn h i⟩
  | a :: r, h, i => ⟨hk i, hc a r h _ (fun h j => cmp1 I hk hn hc (r := r) j) i⟩
end
theorem fnC {w : Wd} {H0 : Heap} (B : Base w H0) {F : Fn} (K : FnOk (GG w H0) F) {d : Nat} {vs : List SV} {Q : QV} {σ : SH} (hn : vs.length = F.n) (h : wpB (GG w H0) d F.body (retK Q) (F.loc0 vs) σ) : CallF (GG w H0) (d + 1) (.ref F.a) vs Q σ := (call_fn (gok B) K hn h).toF
end Mine
namespace Mine
noncomputable abbrev byts (l : List UInt8) : SV := .byt l.toArray
noncomputable def ikB (u : List UInt8) (s k : Nat) : Array UInt8 := (u ++ [UInt8.ofNat k, UInt8.ofNat s, 0, 0, 0, 0, 0, 0]).toArray
theorem ikB_size (u : List UInt8) (s k : Nat) : (ikB u s k).size = u.length + 8 := by simp [ikB]
theorem ikB_at (u : List UInt8) (s k j : Nat) : (ikB u s k)[u.length + j]? = [UInt8.ofNat k, UInt8.ofNat s, 0, 0, 0, 0, 0, 0][j]? := by
  unfold ikB
  rw [List.getElem?_toArray, List.getElem?_append_right (Nat.le_add_right _ _), Nat.add_sub_cancel_left]
theorem tag_num : ∀ s, s < 256 → ∀ k, k < 2 → Builtin.bitOr (Builtin.bitOr (Builtin.bitOr (Builtin.bitOr ((UInt8.ofNat k).toNat : Int) (((UInt8.ofNat s).toNat : Int) * 2 ^ 8)) (((0 : UInt8).toNat : Int) * 2 ^ 16)) (((0 : UInt8).toNat : Int) * 2 ^ 24)) (0 * 2 ^ 32) = (s : Int) * 256 + k := by decide +kernel
theorem zero4 : Builtin.bitOr (Builtin.bitOr (Builtin.bitOr ((UInt8.toNat 0 : Nat) : Int) (((UInt8.toNat 0 : Nat) : Int) * 2 ^ 8)) (((UInt8.toNat 0 : Nat) : Int) * 2 ^ 16)) (((UInt8.toNat 0 : Nat) : Int) * 2 ^ 24) = 0 := by decide +kernel
theorem tag_kind : ∀ s : Nat, s < 256 → ∀ k : Nat, k < 2 → Builtin.bitAnd ((s : Int) * 256 + k) 255 = k := by decide +kernel
theorem tag_seq (s k : Nat) (hk : k < 2) : ((s : Int) * 256 + k).fdiv (2 ^ Int.toNat 8) = s := by
  have : (2 : Int) ^ Int.toNat 8 = 256 := by decide
  rw [this, Int.fdiv_eq_ediv_of_nonneg _ (by decide)]
  omega
section
variable {w : Wd} {H0 : Heap} (B : Base w H0) {d : Nat} {σ : SH} {Q : QV}
theorem sm8 (x : UInt8) : small (x.toNat : Int) := by unfold small; have := x.toNat_lt; omega
theorem sub_by {G : Gd} {b : Array UInt8} {n j : Nat} {x : UInt8} (hz : b.size ≤ 1000) (e : b[n + j]? = some x) (q : Q (.int x.toNat) σ) : subW (.byt b) (.int (n + j)) Q σ :=
  have := (Array.getElem?_eq_some_iff.mp e).1
  ⟨by omega, by omega, x, by rw [show ((n : Int) + j).toNat = n + j by omega]; exact e, q⟩
include B
theorem k_user_of {u : List UInt8} {s k : Nat} (hu : u.length ≤ 900) (q : Q (byts u) σ) : CallF (GG w H0) (d + 1) (.ref 138) [.byt (ikB u s k)] Q σ := by
  have z := ikB_size u s k
  refine fnC B (ok_user_of B) rfl (f_lenb (by omega) (d0 (by omega) (f_lenb (by omega) ⟨by omega, by omega, by omega, f_bytesb ?_⟩)))
  rw [z, show ((u.length + 8 : Nat) - 8 : Int).toNat = u.length by omega, show (ikB u s k).extract 0 u.length = u.toArray from Array.toList_inj.mp (by simp [ikB])]
  exact q
theorem k_read_fixed32 {b : Array UInt8} {n : Nat} {x0 x1 x2 x3 : UInt8} (hz : b.size ≤ 1000) (e0 : b[n]? = some x0) (e1 : b[n + 1]? = some x1) (e2 : b[n + 2]? = some x2) (e3 : b[n + 3]? = some x3)
    (q : Q (.int (Builtin.bitOr (Builtin.bitOr (Builtin.bitOr x0.toNat (x1.toNat * 2 ^ 8)) (x2.toNat * 2 ^ 16)) (x3.toNat * 2 ^ 24))) σ) : CallF (GG w H0) (d + 1) (.ref 103) [.byt b, .int n] Q σ := by
  have h := (Array.getElem?_eq_some_iff.mp e3).1
  refine fnC B (ok_read_fixed32 B) rfl (f_lenb (by omega) ?_)
  refine (d0 (by omega) ⟨by omega, by omega, x0, e0, ?_⟩)
  exact sub_by (G := GG w H0) hz e1 ⟨sm8 _, sub_by (G := GG w H0) hz e2 ⟨sm8 _, sub_by (G := GG w H0) hz e3 ⟨sm8 _, q⟩⟩⟩
theorem k_tag_of {u : List UInt8} {s k : Nat} (hs : s < 256) (hk : k < 2) (hu : u.length ≤ 900) (q : Q (.int ((s : Int) * 256 + k)) σ) : CallF (GG w H0) (d + 3) (.ref 145) [.byt (ikB u s k)] Q σ := by
  have z := ikB_size u s k
  have hz : (ikB u s k).size ≤ 1000 := by omega
  have at_ := ikB_at u s k
  refine fnC B (ok_tag_of B) rfl (f_lenb (by omega) (d0 (by omega) (f_lenb (by omega) ?_)))
  rw [z]
  show CallF (GG w H0) (d + 2) (.ref 110) [_, .int ((u.length + 8 : Nat) - 8 : Int)] _ _
  rw [show ((u.length + 8 : Nat) - 8 : Int) = (u.length : Nat) by omega]
  refine fnC B (ok_read_fixed64 B) rfl (f_lenb (by omega) ?_)
  refine (d0 (by omega) ?_)
  refine k_read_fixed32 B hz (at_ 0) (at_ 1) (at_ 2) (at_ 3) (k_read_fixed32 B (n := u.length + 4) hz (at_ 4) (at_ 5) (at_ 6) (at_ 7) ?_)
  rw [zero4]
  refine ⟨by unfold small; decide, ?_⟩
  rw [← tag_num s hs k hk] at q
  exact q
theorem k_split {u : List UInt8} {s k : Nat} (hs : s < 256) (hk : k < 2) (hu : u.length ≤ 900) (q : Q (.tup [byts u, .int s, .int k]) σ) : CallF (GG w H0) (d + 4) (.ref 131) [.byt (ikB u s k)] Q σ := by
  refine fnC B (ok_split_ikey B) rfl (k_user_of B hu (k_tag_of B hs hk hu (d0 ?_ ?_)))
  · rw [tag_kind s hs k hk]; omega
  · show Q (.tup [_, .int (((s : Int) * 256 + k).fdiv (2 ^ Int.toNat 8)), .int (Builtin.bitAnd ((s : Int) * 256 + k) 255)]) σ
    rw [tag_seq s k hk, tag_kind s hs k hk]
    exact q
end
end Mine
namespace Mine
noncomputable def uL : Nat → List UInt8
  | 0 => []
  | 1 => [97]
  | 2 => [97, 0]
  | 3 => [98]
  | 4 => [98, 97]
  | _ => [255]
theorem bord_u : ∀ i : Nat, i < 6 → ∀ j : Nat, j < 6 → bord (uL i).toArray (uL j).toArray = compare i j := by decide +kernel
theorem blt : ∀ i : Nat, i < 6 → ∀ j : Nat, j < 6 → (bord (uL i).toArray (uL j).toArray == .lt) = decide (i < j) := by decide +kernel
theorem bgt : ∀ i : Nat, i < 6 → ∀ j : Nat, j < 6 → (bord (uL i).toArray (uL j).toArray == .gt) = decide (j < i) := by decide +kernel
theorem ble : ∀ i : Nat, i < 6 → ∀ j : Nat, j < 6 → (bord (uL i).toArray (uL j).toArray != .gt) = decide (i ≤ j) := by decide +kernel
theorem bge : ∀ i : Nat, i < 6 → ∀ j : Nat, j < 6 → (bord (uL i).toArray (uL j).toArray != .lt) = decide (j ≤ i) := by decide +kernel
theorem eq_u : ∀ i : Nat, i < 6 → ∀ j : Nat, j < 6 → ((uL i).toArray.toList == (uL j).toArray.toList) = decide (i = j) := by decide +kernel
theorem ne_u : ∀ i : Nat, i < 6 → ∀ j : Nat, j < 6 → ((uL i).toArray.toList != (uL j).toArray.toList) = decide (i ≠ j) := by decide +kernel
theorem len_u : ∀ i : Nat, i < 6 → (uL i).length ≤ 2 := by decide
structure Row where
  u : Nat
  s : Nat
  k : Nat
  z : Nat
structure Row.Ok (r : Row) : Prop where
  u : r.u < 6
  s : r.s < 256
  k : r.k < 2
noncomputable def Row.sv (r : Row) : SV := .tup [.int r.u, .int (-(r.s : Int)), .int r.k, .int r.z]
noncomputable def Row.B (r : Row) : Array UInt8 := ikB (uL r.u) r.s r.k
theorem Row.Ok.l {r : Row} (h : r.Ok) : (uL r.u).length ≤ 900 := Nat.le_trans (len_u _ h.u) (by decide)
noncomputable def rank (r : Row) : Int := (r.u : Int) * 131072 - ((r.s : Int) * 256 + r.k)
noncomputable def cmp3 (o : Ordering) : Int := match o with
  | .lt => -1
  | .eq => 0
  | .gt => 1
noncomputable def IsBO (σ : SH) (b : Addr) : Prop := ∃ dd m, σ b = some (.inst 218 dd m) ∧ m 57 = none
noncomputable def IsIO (σ : SH) (a : Addr) : Prop := ∃ dd m b, σ a = some (.inst 272 dd m) ∧ m 57 = none ∧ m 0 = some (.ref b) ∧ IsBO σ b
section
variable {w : Wd} {H0 : Heap} (B : Base w H0) {d : Nat} {σ σ' : SH} {Q : QV} {a b : Addr} {x y : Row}
theorem IsBO.ext (h : IsBO σ b) (x : Ext σ σ') : IsBO σ' b := h.imp fun _ h => h.imp fun _ h => ⟨x _ _ h.1, h.2⟩
theorem IsIO.ext (h : IsIO σ a) (x : Ext σ σ') : IsIO σ' a := h.imp fun _ h => h.imp fun _ h => h.imp fun _ h => ⟨x _ _ h.1, h.2.1, h.2.2.1, h.2.2.2.ext x⟩
theorem IsBO.m (h : IsBO σ b) : MRes (GG w H0) (.ref b) 57 (.ref 159) σ := by
  obtain ⟨dd, m, e, n⟩ := h
  exact meth_inst e (List.mem_of_getElem? (i := 1) (by kernel_rfl)) n
theorem IsIO.m (h : IsIO σ b) : MRes (GG w H0) (.ref b) 57 (.ref 241) σ := by
  obtain ⟨dd, m, _, e, n, _⟩ := h
  exact meth_inst e (List.mem_of_getElem? (i := 0) (by kernel_rfl)) n
include B
theorem k_compare {a1 a2 : Array UInt8} (q : Q (.int (cmp3 (bord a1 a2))) σ) : CallF (GG w H0) (d + 1) (.ref 159) [.ref a, .byt a1, .byt a2] Q σ := by
  refine fnC B (ok_Order_compare B) rfl ?_
  cases h : bord a1 a2 <;> rw [h] at q
  · exact ip (c := (bord a1 a2 == .lt) = true) (by rw [h]; rfl) q
  · exact in_ (c := (bord a1 a2 == .lt) = true) (by rw [h]; decide) (in_ (c := (bord a1 a2 == .gt) = true) (by rw [h]; decide) q)
  · exact in_ (c := (bord a1 a2 == .lt) = true) (by rw [h]; decide) (ip (c := (bord a1 a2 == .gt) = true) (by rw [h]; rfl) q)
omit B in
theorem rank_u (hx : x.Ok) (hy : y.Ok) (h : x.u < y.u) : rank x < rank y := by have := hx.s; have := hx.k; have := hy.s; have := hy.k; unfold rank; omega
omit B in
theorem rank_s (h : x.u = y.u) : rank x < rank y ↔ (y.s : Int) * 256 + y.k < (x.s : Int) * 256 + x.k := by unfold rank; rw [h]; exact Int.sub_lt_sub_left_iff
omit B in
theorem neg_c {r s : Int} (h : r < s) : (((-1 : Int) < 0) ↔ r < s) ∧ ((0 : Int) < -1 ↔ s < r) := ⟨iff_of_true (by decide) h, iff_of_false (by decide) (Int.lt_asymm h)⟩
omit B in
theorem pos_c {r s : Int} (h : s < r) : (((1 : Int) < 0) ↔ r < s) ∧ ((0 : Int) < 1 ↔ s < r) := ⟨iff_of_false (by decide) (Int.lt_asymm h), iff_of_true (by decide) h⟩
theorem k_icmp (h : IsIO σ a) (hx : x.Ok) (hy : y.Ok) (q : ∀ c : Int, ((c < 0 ↔ rank x < rank y) ∧ (0 < c ↔ rank y < rank x)) → Q (.int c) σ) : CallF (GG w H0) (d + 5) (.ref 241) [.ref a, .byt x.B, .byt y.B] Q σ := by
  obtain ⟨dd, m, b, e, n57, n0, hb⟩ := h
  refine fnC B (ok_InternalOrder_compare B) rfl (attr_inst e n0 rfl rfl (me hb.m (k_user_of B hx.l (k_user_of B hy.l (k_compare B ?_)))))
  rw [bord_u _ hx.u _ hy.u]
  rcases Nat.lt_trichotomy x.u y.u with z | z | z
  · rw [Nat.compare_eq_lt.mpr z]
    exact q _ (neg_c (rank_u hx hy z))
  · rw [Nat.compare_eq_eq.mpr z]
    refine k_tag_of B hx.s hx.k hx.l (k_tag_of B hy.s hy.k hy.l ?_)
    refine dc (fun h => q _ (neg_c ((rank_s z).mpr h))) fun h => ?_
    exact dc (fun k => q _ (pos_c ((rank_s z.symm).mpr k))) fun k => q 0 ⟨iff_of_false (by decide) (mt (rank_s z).mp h), iff_of_false (by decide) (mt (rank_s z.symm).mp k)⟩
  · rw [Nat.compare_eq_gt.mpr z]
    exact q _ (pos_c (rank_u hy hx z))
end
end Mine
namespace Mine
structure Tab where
  n : Nat
  lev : Nat
  rows : List Row
  a : Addr
noncomputable def Tab.lo (t : Tab) : Row := t.rows.headD ⟨0, 0, 0, 0⟩
noncomputable def Tab.hi (t : Tab) : Row := t.rows.getLastD ⟨0, 0, 0, 0⟩
noncomputable def sumZ (rs : List Row) : Nat := (rs.map Row.z).sum
noncomputable def Tab.z (t : Tab) : Nat := sumZ t.rows
structure Tab.Ok (t : Tab) : Prop where
  ne : t.rows ≠ []
  rows : ∀ r ∈ t.rows, r.Ok
  up : t.rows.Pairwise (fun x y => x.u < y.u)
section
variable {t : Tab} (h : t.Ok)
include h
theorem Tab.Ok.hiE : t.rows = t.rows.dropLast ++ [t.hi] := by
  unfold Tab.hi
  rw [List.getLastD_eq_getLast?, List.getLast?_eq_some_getLast h.ne]
  exact (List.dropLast_concat_getLast h.ne).symm
theorem Tab.Ok.loE : ∃ l, t.rows = t.lo :: l := by
  unfold Tab.lo
  cases e : t.rows with
  | nil => exact absurd e h.ne
  | cons x l => exact ⟨l, rfl⟩
theorem Tab.Ok.loM : t.lo ∈ t.rows := by obtain ⟨l, e⟩ := h.loE; rw [e]; exact List.mem_cons_self
theorem Tab.Ok.hiM : t.hi ∈ t.rows := by rw [h.hiE]; exact List.mem_append_right _ List.mem_cons_self
theorem Tab.Ok.loO : t.lo.Ok := h.rows _ h.loM
theorem Tab.Ok.hiO : t.hi.Ok := h.rows _ h.hiM
theorem Tab.Ok.le_hi {r : Row} (hr : r ∈ t.rows) : r.u ≤ t.hi.u := by
  have p := h.up
  rw [h.hiE] at hr p
  rcases List.mem_append.mp hr with q | q
  · exact Nat.le_of_lt ((List.pairwise_append.mp p).2.2 r q _ List.mem_cons_self)
  · rw [List.mem_singleton.mp q]; exact Nat.le_refl _
theorem Tab.Ok.lo_le {r : Row} (hr : r ∈ t.rows) : t.lo.u ≤ r.u := by
  obtain ⟨l, e⟩ := h.loE
  have p := h.up
  rw [e] at hr p
  rcases List.mem_cons.mp hr with q | q
  · rw [q]; exact Nat.le_refl _
  · exact Nat.le_of_lt ((List.pairwise_cons.mp p).1 r q)
theorem Tab.Ok.lohi : t.lo.u ≤ t.hi.u := h.lo_le h.hiM
theorem Tab.Ok.at0 : t.rows[0]? = some t.lo := by obtain ⟨l, e⟩ := h.loE; rw [e]; rfl
theorem Tab.Ok.len0 : 0 < t.rows.length := List.length_pos_iff.mpr h.ne
theorem Tab.Ok.atL : t.rows[t.rows.length - 1]? = some t.hi := by
  unfold Tab.hi
  rw [List.getLastD_eq_getLast?, ← List.getLast?_eq_getElem?, List.getLast?_eq_some_getLast h.ne]; rfl
end
theorem up_len : ∀ (l : List Row) (a : Nat), (∀ r ∈ l, a ≤ r.u ∧ r.u < 6) → l.Pairwise (fun x y => x.u < y.u) → l.length ≤ 6 - a
  | [], a, _, _ => Nat.zero_le _
  | r :: l, a, h, p => by
    rw [List.pairwise_cons] at p
    have h0 := h r List.mem_cons_self
    have := up_len l (r.u + 1) (fun x hx => ⟨p.1 x hx, (h x (List.mem_cons_of_mem _ hx)).2⟩) p.2
    rw [List.length_cons]; omega
theorem Tab.Ok.len {t : Tab} (h : t.Ok) : t.rows.length ≤ 6 := up_len t.rows 0 (fun r hr => ⟨Nat.zero_le _, (h.rows r hr).u⟩) h.up
noncomputable def IsT (σ : SH) (a : Addr) (t : Tab) : Prop := ∃ dd f, σ a = some (.inst 340 dd f) ∧ f 22 = some (.int t.n) ∧ f 23 = some (.int t.z) ∧ f 24 = some (.byt t.lo.B) ∧ f 25 = some (.byt t.hi.B)
section
variable {σ σ' : SH} {a : Addr} {t : Tab} (h : IsT σ a t) {w : Wd} {H0 : Heap} {Q : QV}
include h
theorem IsT.ext (x : Ext σ σ') : IsT σ' a t := h.imp fun _ h => h.imp fun _ h => ⟨x _ _ h.1, h.2⟩
theorem IsT.num (q : Q (.int t.n) σ) : attrW (GG w H0) (.ref a) 22 Q σ := by obtain ⟨dd, f, e, e1, e2, e3, e4⟩ := h; exact attr_inst e e1 rfl rfl q
theorem IsT.size (q : Q (.int t.z) σ) : attrW (GG w H0) (.ref a) 23 Q σ := by obtain ⟨dd, f, e, e1, e2, e3, e4⟩ := h; exact attr_inst e e2 rfl rfl q
theorem IsT.lo (q : Q (.byt t.lo.B) σ) : attrW (GG w H0) (.ref a) 24 Q σ := by obtain ⟨dd, f, e, e1, e2, e3, e4⟩ := h; exact attr_inst e e3 rfl rfl q
theorem IsT.hi (q : Q (.byt t.hi.B) σ) : attrW (GG w H0) (.ref a) 25 Q σ := by obtain ⟨dd, f, e, e1, e2, e3, e4⟩ := h; exact attr_inst e e4 rfl rfl q
end
noncomputable abbrev AT := Addr × Tab
noncomputable def fr (p : AT) : SV := .ref p.1
structure FL (σ : SH) (l : Addr) (r : List AT) : Prop where
  e : σ l = some (.list (r.map fr))
  t : ∀ p ∈ r, IsT σ p.1 p.2
  ok : ∀ p ∈ r, p.2.Ok
  z : r.length ≤ 1000
theorem FL.ext {σ σ' : SH} {l : Addr} {r : List AT} (h : FL σ l r) (x : Ext σ σ') : FL σ' l r := ⟨x _ _ h.e, fun p m => (h.t p m).ext x, h.ok, h.z⟩
noncomputable def sz (r : List AT) : Nat := (r.map fun p => p.2.z).sum
noncomputable def Lo (r s : List AT) (x : Row) : Prop := (∃ p ∈ r, x = p.2.lo) ∧ ∀ p ∈ r, p ∈ s ∨ rank x ≤ rank p.2.lo
noncomputable def Hi (r s : List AT) (x : Row) : Prop := (∃ p ∈ r, x = p.2.hi) ∧ ∀ p ∈ r, p ∈ s ∨ rank p.2.hi ≤ rank x
section
variable {r s : List AT} {a : AT} {x : Row}
theorem Lo.new (h : Lo r (a :: s) x) (m : a ∈ r) (k : rank a.2.lo < rank x) : Lo r s a.2.lo := ⟨⟨a, m, rfl⟩, fun p hp => (h.2 p hp).elim (fun e => (List.mem_cons.mp e).elim (fun e => .inr (by rw [e]; exact Int.le_refl _)) .inl) fun e => .inr (Int.le_trans (Int.le_of_lt k) e)⟩
theorem Lo.old (h : Lo r (a :: s) x) (k : ¬ rank a.2.lo < rank x) : Lo r s x := ⟨h.1, fun p hp => (h.2 p hp).elim (fun e => (List.mem_cons.mp e).elim (fun e => .inr (by rw [e]; exact Int.not_lt.mp k)) .inl) .inr⟩
theorem Hi.new (h : Hi r (a :: s) x) (m : a ∈ r) (k : rank x < rank a.2.hi) : Hi r s a.2.hi := ⟨⟨a, m, rfl⟩, fun p hp => (h.2 p hp).elim (fun e => (List.mem_cons.mp e).elim (fun e => .inr (by rw [e]; exact Int.le_refl _)) .inl) fun e => .inr (Int.le_trans e (Int.le_of_lt k))⟩
theorem Hi.old (h : Hi r (a :: s) x) (k : ¬ rank x < rank a.2.hi) : Hi r s x := ⟨h.1, fun p hp => (h.2 p hp).elim (fun e => (List.mem_cons.mp e).elim (fun e => .inr (by rw [e]; exact Int.not_lt.mp k)) .inl) .inr⟩
theorem Lo.ok (h : Lo r s x) (ok : ∀ p ∈ r, p.2.Ok) : x.Ok := by obtain ⟨⟨p, m, e⟩, _⟩ := h; rw [e]; exact (ok p m).loO
theorem Hi.ok (h : Hi r s x) (ok : ∀ p ∈ r, p.2.Ok) : x.Ok := by obtain ⟨⟨p, m, e⟩, _⟩ := h; rw [e]; exact (ok p m).hiO
end
section
variable {w : Wd} {H0 : Heap} (B : Base w H0) {d : Nat} {σ : SH} {Q : QV}
include B
theorem k_total {l : Addr} {r : List AT} (h : FL σ l r) (q : Q (.int (sz r)) σ) : CallF (GG w H0) (d + 1) (.ref 533) [.ref l] Q σ := by
  refine fnC B (ok_total_size B) rfl (itl h.e ?_)
  refine for1 (fun s l' h' => ∀ Z : Loc → SH → Prop, (∀ (t : Nat) v, (∀ p ∈ s, IsT σ p.1 p.2) → t + sz s = sz r → Z [some (.ref l), some (.int t), v] σ) → Z l' h')
    (fun i => ?_) (fun l' h' i => ?_) (fun p s l' h' R k i => ?_) fun Z z => z 0 none h.t (Nat.zero_add _)
  · apply i; intro _ _ _ _; exact h.e
  · apply i; intro t v _ e
    rw [← e] at q
    exact q
  apply i; intro t v m e
  refine (m p List.mem_cons_self).size ?_
  exact k _ _ fun Z z => z (t + p.2.z) _ (fun p hp => m p (List.mem_cons_of_mem _ hp)) (by rw [← e, Nat.add_assoc]; rfl)
theorem k_key_range {l o : Addr} {p : AT} {r : List AT} (h : FL σ l (p :: r)) (hO : IsIO σ o) (q : ∀ x y s, Ext σ s → Lo (p :: r) [] x → Hi (p :: r) [] y → Q (.tup [.byt x.B, .byt y.B]) s) :
    CallF (GG w H0) (d + 6) (.ref 540) [.ref l, .ref o] Q σ := by
  refine fnC B (ok_key_range B) rfl (sub_map (k := 0) h.e (Nat.le_trans h.z (by decide)) rfl ((h.t p List.mem_cons_self).lo ?_))
  refine sub_map (k := 0) h.e (Nat.le_trans h.z (by decide)) rfl ((h.t p List.mem_cons_self).hi (slf_l (k := 1) h.e (by decide) (by rw [List.length_map]; exact Nat.le_trans h.z (by decide)) fun b s hb e x => ?_))
  have h' := h.ext x
  have hO := hO.ext x
  refine itl e ?_
  refine for1 (fun u l' h' => ∀ Z : Loc → SH → Prop, (∀ x y v, (∀ p' ∈ u, p' ∈ p :: r) → Lo (p :: r) u x → Hi (p :: r) u y → Z [some (.ref l), some (.ref o), some (.byt x.B), some (.byt y.B), v] s) → Z l' h')
    (fun i => ?_) (fun l' h' i => ?_) (fun a u l' t R k i => ?_) fun Z z => z p.2.lo p.2.hi none (fun _ => List.mem_cons_of_mem _) ⟨⟨p, List.mem_cons_self, rfl⟩, fun p' m => (List.mem_cons.mp m).elim (fun e => .inr (by rw [e]; exact Int.le_refl _)) .inl⟩ ⟨⟨p, List.mem_cons_self, rfl⟩, fun p' m => (List.mem_cons.mp m).elim (fun e => .inr (by rw [e]; exact Int.le_refl _)) .inl⟩
  · apply i; intro _ _ _ _ _ _; exact e
  · apply i; intro x' y v _ hx hy
    exact q x' y s x hx hy
  apply i; intro x y v m hx hy
  have am := m a List.mem_cons_self
  have ao := h.ok a am
  have at_ := h'.t a am
  have m := fun p' hp => m p' (List.mem_cons_of_mem a hp)
  refine me hO.m (at_.lo (k_icmp B hO ao.loO (hx.ok h.ok) fun c hc => ?_))
  refine dc (fun lt => ?_) fun lt => ?_
  · have hx := hx.new am (hc.1.mp lt)
    refine at_.lo (me hO.m (at_.hi (k_icmp B hO ao.hiO (hy.ok h.ok) fun c hc => ?_)))
    exact dc (fun lt => at_.hi (k _ _ fun Z z => z _ _ _ m hx (hy.new am (hc.2.mp lt)))) fun lt => k _ _ fun Z z => z _ _ _ m hx (hy.old fun g => lt (hc.2.mpr g))
  · have hx := hx.old fun g => lt (hc.1.mpr g)
    refine me hO.m (at_.hi (k_icmp B hO ao.hiO (hy.ok h.ok) fun c hc => ?_))
    exact dc (fun lt => at_.hi (k _ _ fun Z z => z _ _ _ m hx (hy.new am (hc.2.mp lt)))) fun lt => k _ _ fun Z z => z _ _ _ m hx (hy.old fun g => lt (hc.2.mpr g))
end
end Mine
namespace Mine
section
variable {Q : QV} {σ : SH} {k : SV → Prop}
theorem amul {x y : Nat} (h : x < 2 ^ 64) (q : k (.int (x * y : Nat))) : augW .Mult (.int x) (.int y) k := ⟨by unfold small; omega, q⟩
end
noncomputable def NM (f : Nat → Option SV) : Prop := ∀ x, f (57 + x) = none
theorem mth {w : Wd} {H0 : Heap} {σ : SH} {a c dd : Addr} {m : Nat → Option SV} (i : Nat) {x : Nat} {f : Value} (e : (GG w H0).meths[i]? = some (c, x, f)) (h : σ a = some (.inst c dd m)) (hn : m x = none) : MRes (GG w H0) (.ref a) x f σ := meth_inst h (List.mem_of_getElem? e) hn
structure Opt where
  num : Nat
  trig : Nat
  mfs : Nat
  base : Nat
  fac : Nat
  grand : Nat
  exp : Nat
noncomputable def optA : Opt := ⟨7, 4, 2097152, 10485760, 10, 10, 25⟩
noncomputable def optT : Opt := ⟨4, 2, 128, 256, 2, 10, 25⟩
structure OkO (p : Opt) : Prop where
  e : p = optA ∨ p = optT
noncomputable def IsOpt (σ : SH) (a : Addr) (p : Opt) : Prop := ∃ dd f, σ a = some (.inst 305 dd f) ∧ f 14 = some (.int p.num) ∧ f 15 = some (.int p.trig) ∧ f 13 = some (.int p.mfs) ∧ f 17 = some (.int p.base) ∧ f 18 = some (.int p.fac) ∧ f 20 = some (.int p.grand) ∧ f 21 = some (.int p.exp) ∧ NM f
section
variable {w : Wd} {H0 : Heap} {σ σ' : SH} {Q : QV} {a : Addr} {p : Opt} (h : IsOpt σ a p)
include h
theorem IsOpt.ext (x : Ext σ σ') : IsOpt σ' a p := h.imp fun _ h => h.imp fun _ h => ⟨x _ _ h.1, h.2⟩
theorem IsOpt.num (q : Q (.int p.num) σ) : attrW (GG w H0) (.ref a) 14 Q σ := by obtain ⟨_, _, e, e1, _⟩ := h; exact attr_inst e e1 rfl rfl q
theorem IsOpt.trig (q : Q (.int p.trig) σ) : attrW (GG w H0) (.ref a) 15 Q σ := by obtain ⟨_, _, e, _, e1, _⟩ := h; exact attr_inst e e1 rfl rfl q
theorem IsOpt.mfs (q : Q (.int p.mfs) σ) : attrW (GG w H0) (.ref a) 13 Q σ := by obtain ⟨_, _, e, _, _, e1, _⟩ := h; exact attr_inst e e1 rfl rfl q
theorem IsOpt.base (q : Q (.int p.base) σ) : attrW (GG w H0) (.ref a) 17 Q σ := by obtain ⟨_, _, e, _, _, _, e1, _⟩ := h; exact attr_inst e e1 rfl rfl q
theorem IsOpt.fac (q : Q (.int p.fac) σ) : attrW (GG w H0) (.ref a) 18 Q σ := by obtain ⟨_, _, e, _, _, _, _, e1, _⟩ := h; exact attr_inst e e1 rfl rfl q
theorem IsOpt.grand (q : Q (.int p.grand) σ) : attrW (GG w H0) (.ref a) 20 Q σ := by obtain ⟨_, _, e, _, _, _, _, _, e1, _⟩ := h; exact attr_inst e e1 rfl rfl q
theorem IsOpt.exp (q : Q (.int p.exp) σ) : attrW (GG w H0) (.ref a) 21 Q σ := by obtain ⟨_, _, e, _, _, _, _, _, _, e1, _⟩ := h; exact attr_inst e e1 rfl rfl q
end
noncomputable def maxOct (p : Opt) (level : Nat) : Nat := p.base * p.fac ^ (level - 1)
theorem OkO.small {p : Opt} (h : OkO p) : ∀ j, j < 12 → maxOct p j < 2 ^ 64 := by rcases h.e with e | e <;> rw [e] <;> decide
theorem OkO.fac {p : Opt} (h : OkO p) : 0 < p.fac := by rcases h.e with e | e <;> rw [e] <;> decide
theorem OkO.num {p : Opt} (h : OkO p) : p.num ≤ 12 := by rcases h.e with e | e <;> rw [e] <;> decide
structure Ver where
  fl : Addr
  lv : List (Addr × List AT)
noncomputable def lr (p : Addr × List AT) : SV := .ref p.1
noncomputable def Ver.ts (V : Ver) (i : Nat) : List AT := (V.lv[i]?.map Prod.snd).getD []
structure Lvl (σ : SH) (V : Ver) : Prop where
  e : σ V.fl = some (.list (V.lv.map lr))
  t : ∀ p ∈ V.lv, FL σ p.1 p.2
  z : V.lv.length ≤ 12
theorem Lvl.ext {σ σ' : SH} {V : Ver} (h : Lvl σ V) (x : Ext σ σ') : Lvl σ' V := ⟨x _ _ h.e, fun p m => (h.t p m).ext x, h.z⟩
noncomputable def IsVer (σ : SH) (v : Addr) (V : Ver) : Prop := ∃ dd f o, σ v = some (.inst 466 dd f) ∧ Lvl σ V ∧ f 14 = some (.int V.lv.length) ∧ f 34 = some (.ref o) ∧ f 35 = some (.ref V.fl) ∧ IsIO σ o ∧ f 1 = none ∧ NM f
section
variable {w : Wd} {H0 : Heap} {σ σ' : SH} {Q : QV} {v : Addr} {V : Ver} (h : IsVer σ v V)
include h
theorem IsVer.ext (x : Ext σ σ') : IsVer σ' v V := h.imp fun _ h => h.imp fun _ h => h.imp fun _ h => ⟨x _ _ h.1, h.2.1.ext x, h.2.2.1, h.2.2.2.1, h.2.2.2.2.1, h.2.2.2.2.2.1.ext x, h.2.2.2.2.2.2⟩
theorem IsVer.L : Lvl σ V := by obtain ⟨_, _, _, _, e, _⟩ := h; exact e
theorem IsVer.num (q : Q (.int V.lv.length) σ) : attrW (GG w H0) (.ref v) 14 Q σ := by obtain ⟨_, _, _, e, _, e1, _⟩ := h; exact attr_inst e e1 rfl rfl q
theorem IsVer.ord (q : ∀ o, IsIO σ o → Q (.ref o) σ) : attrW (GG w H0) (.ref v) 34 Q σ := by obtain ⟨_, _, o, e, _, _, e1, _, e2, _⟩ := h; exact attr_inst e e1 rfl rfl (q o e2)
theorem IsVer.files (q : Q (.ref V.fl) σ) : attrW (GG w H0) (.ref v) 35 Q σ := by obtain ⟨_, _, _, e, _, _, _, e1, _⟩ := h; exact attr_inst e e1 rfl rfl q
theorem IsVer.sub {i : Nat} {p : Addr × List AT} (e : V.lv[i]? = some p) (q : Q (.ref p.1) σ) : subW (.ref V.fl) (.int i) Q σ := sub_map h.L.e (Nat.le_trans h.L.z (by decide)) e q
theorem IsVer.at {i : Nat} {p : Addr × List AT} (e : V.lv[i]? = some p) : FL σ p.1 p.2 := h.L.t _ (List.mem_of_getElem? e)
theorem IsVer.m (i : Nat) {x : Nat} {f : Value} (e : (GG w H0).meths[i]? = some (466, 57 + x, f)) : MRes (GG w H0) (.ref v) (57 + x) f σ := by obtain ⟨_, _, _, k, _, _, _, _, _, _, n⟩ := h; exact mth i e k (n x)
theorem IsVer.mc : MRes (GG w H0) (.ref v) 1 (.ref 463) σ := by obtain ⟨_, _, _, k, _, _, _, _, _, n, _⟩ := h; exact mth 8 (by kernel_rfl) k n
end
noncomputable def IsPick (σ : SH) (a p : Addr) : Prop := ∃ dd f o, σ a = some (.inst 662 dd f) ∧ f 43 = some (.ref p) ∧ f 34 = some (.ref o) ∧ IsIO σ o ∧ NM f
section
variable {w : Wd} {H0 : Heap} {σ σ' : SH} {Q : QV} {a p : Addr} (h : IsPick σ a p)
include h
theorem IsPick.ext (x : Ext σ σ') : IsPick σ' a p := h.imp fun _ h => h.imp fun _ h => h.imp fun _ h => ⟨x _ _ h.1, h.2.1, h.2.2.1, h.2.2.2.1.ext x, h.2.2.2.2⟩
theorem IsPick.opt (q : Q (.ref p) σ) : attrW (GG w H0) (.ref a) 43 Q σ := by obtain ⟨_, _, _, e, e1, _⟩ := h; exact attr_inst e e1 rfl rfl q
theorem IsPick.ord (q : ∀ o, IsIO σ o → Q (.ref o) σ) : attrW (GG w H0) (.ref a) 34 Q σ := by obtain ⟨_, _, o, e, _, e1, e2, _⟩ := h; exact attr_inst e e1 rfl rfl (q o e2)
theorem IsPick.m (i : Nat) {x : Nat} {f : Value} (e : (GG w H0).meths[i]? = some (662, 57 + x, f)) : MRes (GG w H0) (.ref a) (57 + x) f σ := by obtain ⟨_, _, _, k, _, _, _, n⟩ := h; exact mth i e k (n x)
end
section
variable {w : Wd} {H0 : Heap} (B : Base w H0) {d : Nat} {σ : SH} {Q : QV}
include B
theorem k_max_octets {a : Addr} {p : Opt} (h : IsOpt σ a p) (hp : OkO p) {level : Nat} (hl : level < 12) (q : Q (.int (maxOct p level)) σ) : CallF (GG w H0) (d + 1) (.ref 603) [.ref a, .int level] Q σ := by
  refine fnC B (ok_max_octets_of B) rfl (h.base ?_)
  refine wh1 (fun m l' h' => ∀ Z : Loc → SH → Prop, (∀ (x : Int) r, x = m → r * p.fac ^ (m - 1) = maxOct p level → Z [some (.ref a), some (.int x), some (.int r)] σ) → Z l' h') (fun m l' h' R k i => ?_) (m := level) fun Z z => z level p.base rfl rfl
  apply i; intro x r ex e
  refine dc (fun c => ?_) fun c => ?_
  · refine h.fac (amul ?_ (k (m - 1) _ _ (by omega) fun Z z => z (x - 1) (r * p.fac) (by omega) ?_))
    · exact Nat.lt_of_le_of_lt (Nat.le_trans (Nat.le_mul_of_pos_right r (Nat.pow_pos hp.fac)) (Nat.le_of_eq e)) (hp.small level hl)
    · rw [← e, Nat.mul_assoc, ← Nat.pow_succ', show (m - 1 - 1).succ = m - 1 by omega]
  · rw [show m - 1 = 0 by omega, Nat.pow_zero, Nat.mul_one] at e
    rw [← e] at q
    exact q
theorem k_level_octets {v : Addr} {V : Ver} {i : Nat} {p : Addr × List AT} (h : IsVer σ v V) (hi : V.lv[i]? = some p) (q : Q (.int (sz p.2)) σ) : CallF (GG w H0) (d + 1) (.ref 442) [.ref v, .int i] Q σ := by
  have hf := h.at hi
  refine fnC B (ok_Version_level_octets B) rfl (h.files (h.sub hi (itl hf.e ?_)))
  refine for1 (fun s l' h' => ∀ Z : Loc → SH → Prop, (∀ (t : Nat) u, (∀ p ∈ s, IsT σ p.1 p.2) → t + sz s = sz p.2 → Z [some (.ref v), some (.int i), some (.int t), u] σ) → Z l' h')
    (fun i => ?_) (fun l' h' i => ?_) (fun p s l' h' R k i => ?_) fun Z z => z 0 none hf.t (Nat.zero_add _)
  · apply i; intro _ _ _ _; exact hf.e
  · apply i; intro t v _ e
    rw [← e] at q
    exact q
  apply i; intro t v m e
  refine (m p List.mem_cons_self).size ?_
  exact k _ _ fun Z z => z (t + p.2.z) _ (fun p hp => m p (List.mem_cons_of_mem _ hp)) (by rw [← e, Nat.add_assoc]; rfl)
theorem k_find {l o : Addr} {r : List AT} {x : Row} {n : Nat} (h : FL σ l r) (hO : IsIO σ o) (hx : x.Ok) (hn : n ≤ r.length) (hm : ∀ (i : Nat) p, r[i]? = some p → (rank p.2.hi < rank x ↔ i < n)) (q : Q (.int n) σ) :
    CallF (GG w H0) (d + 6) (.ref 386) [.ref l, .byt x.B, .ref o] Q σ := by
  refine fnC B (ok_find_file B) rfl (len_map h.e h.z ?_)
  refine wh1 (fun m l' h' => ∀ Z : Loc → SH → Prop, (∀ (lo hi : Nat) v, m = hi - lo → lo ≤ n → n ≤ hi → hi ≤ r.length → Z [some (.ref l), some (.byt x.B), some (.ref o), some (.int lo), some (.int hi), v] σ) → Z l' h') (fun m l' h' R k i => ?_) (m := r.length)
    fun Z z => z 0 r.length none rfl (Nat.zero_le _) hn (Nat.le_refl _)
  apply i; intro lo hi v e p1 p2 p3
  refine dc (fun c => ?_) fun c => ?_
  · have c := Int.ofNat_lt.mp c
    have H := half c
    have hp := List.getElem?_eq_getElem (l := r) (i := (lo + hi) / 2) (Nat.lt_of_lt_of_le H.2 p3)
    have pm := List.mem_of_getElem? hp
    have hc := hm _ _ hp
    generalize r[(lo + hi) / 2]'_ = p at hp pm hc
    refine me hO.m (sub_map h.e (Nat.le_trans h.z (by decide)) hp ((h.t p pm).hi (k_icmp B hO (h.ok p pm).hiO hx fun c2 hc2 => ?_)))
    refine dc (fun lt => k (hi - ((lo + hi) / 2 + 1)) _ _ (e ▸ Nat.sub_lt_sub_left c (Nat.lt_succ_of_le H.1)) fun Z z => z ((lo + hi) / 2 + 1) hi _ rfl ?_ p2 p3) fun lt => k ((lo + hi) / 2 - lo) _ _ (e ▸ Nat.sub_lt_sub_right H.1 H.2) fun Z z => z lo ((lo + hi) / 2) _ rfl p1 ?_ (Nat.le_trans (Nat.le_of_lt H.2) p3)
    · exact hc.mp (hc2.1.mp lt)
    · exact Nat.not_lt.mp fun g => lt (hc2.1.mpr (hc.mpr g))
  · obtain rfl : n = lo := Nat.le_antisymm (Nat.le_trans p2 (Nat.not_lt.mp fun g => c (Int.ofNat_lt.mpr g))) p1
    exact q
structure Hull (r : List AT) (lo hi : Nat) : Prop where
  los : ∀ p ∈ r, lo ≤ p.2.lo.u
  his : ∀ p ∈ r, p.2.hi.u ≤ hi
  loM : ∃ p ∈ r, p.2.lo.u = lo
  hiM : ∃ p ∈ r, p.2.hi.u = hi
omit B in
theorem u_of {x y : Row} (hx : x.Ok) (hy : y.Ok) (h : rank x ≤ rank y) : x.u ≤ y.u := Nat.not_lt.mp fun g => Int.not_le.mpr (rank_u hy hx g) h
theorem k_user_range {a p l : Addr} {r : List AT} (hP : IsPick σ a p) (h : FL σ l r) (ne : r ≠ []) (q : ∀ lo hi s, Ext σ s → Hull r lo hi → Q (.tup [byts (uL lo), byts (uL hi)]) s) :
    CallF (GG w H0) (d + 7) (.ref 638) [.ref a, .ref l] Q σ := by
  obtain ⟨p0, r', e⟩ := List.exists_cons_of_ne_nil ne
  refine fnC B (ok_Picker_user_range B) rfl (hP.ord fun o hO => ?_)
  rw [e] at h q
  have ok := h.ok
  refine k_key_range B h hO fun x y s xs hx hy => ?_
  refine k_user_of B (hx.ok ok).l (k_user_of B (hy.ok ok).l (q _ _ _ xs ⟨fun t m => ?_, fun t m => ?_, ?_, ?_⟩))
  · exact u_of (hx.ok ok) (ok t m).loO ((hx.2 t m).resolve_left (List.not_mem_nil))
  · exact u_of (ok t m).hiO (hy.ok ok) ((hy.2 t m).resolve_left (List.not_mem_nil))
  · exact hx.1.imp fun t m => ⟨m.1, by rw [m.2]⟩
  · exact hy.1.imp fun t m => ⟨m.1, by rw [m.2]⟩
end
end Mine
namespace Mine
noncomputable def New (σ s : SH) (a : Addr) (o : SO) : Prop := σ a = none ∧ Ext σ s ∧ s a = some o
theorem New.ext {σ s s' : SH} {a : Addr} {o : SO} (h : New σ s a o) (x : Ext s s') : New σ s' a o := ⟨h.1, h.2.1.trans x, x _ _ h.2.2⟩
noncomputable def Bar (a : Addr) (s s' : SH) : Prop := ∀ b o, b ≠ a → s b = some o → s' b = some o
theorem Bar.ext {a : Addr} {s s' s'' : SH} (x : Bar a s s') (y : Ext s' s'') : Bar a s s'' := fun b o n e => y b o (x b o n e)
theorem New.put {σ s : SH} {a : Addr} {o : SO} (h : New σ s a o) (o' : SO) : New σ (upd s a o') a o' := ⟨h.1, h.2.1.updF _ h.1, upd_same _ _ _⟩
theorem Bar.upd (a : Addr) (s : SH) (o : SO) : Bar a s (Mine.upd s a o) := fun b p n e => by rw [upd_ne _ _ n]; exact e
theorem NM.nil : NM fun _ => none := fun _ => rfl
theorem NM.set {f : Nat → Option SV} (h : NM f) {x : Nat} {v : SV} (hx : Nat.ble 57 x = false) : NM (setA f x v) := fun y => by
  have : ¬ 57 + y = x := fun e => by rw [← e, Nat.ble_eq_true_of_le (Nat.le_add_right _ _)] at hx; cases hx
  show (if 57 + y = x then some v else f (57 + y)) = none
  rw [if_neg this]; exact h y
section
variable {w : Wd} {H0 : Heap} {σ s : SH} {a c dd : Addr} {m : Nat → Option SV} {x : Nat} {v : SV} {R : SH → Prop}
theorem set1 (h : s a = some (.inst c dd m)) (q : ∀ s', s' a = some (.inst c dd (setA m x v)) → Bar a s s' → R s') (hx : Nat.ble 57 x = false := by rfl) (hn : (GG w H0).nofld.contains (c, x) = false := by rfl) : setAttrW (GG w H0) (.ref a) x v R s :=
  ⟨a, c, dd, m, rfl, h, Nat.lt_of_not_le fun z => by exact Bool.noConfusion ((Nat.ble_eq_true_of_le z).symm.trans hx), hn, q _ (upd_same _ _ _) (Bar.upd _ _ _)⟩
theorem setN (h : New σ s a (.inst c dd m)) (q : ∀ s', New σ s' a (.inst c dd (setA m x v)) → Bar a s s' → R s') (hx : Nat.ble 57 x = false := by rfl) (hn : (GG w H0).nofld.contains (c, x) = false := by rfl) : setAttrW (GG w H0) (.ref a) x v R s :=
  ⟨a, c, dd, m, rfl, h.2.2, Nat.lt_of_not_le fun z => by exact Bool.noConfusion ((Nat.ble_eq_true_of_le z).symm.trans hx), hn, q _ (h.put _) (Bar.upd _ _ _)⟩
end
section
variable {w : Wd} {H0 : Heap} (B : Base w H0) {d : Nat} {σ : SH} {Q : QV}
include B
theorem clsF (i : Nat) {C : Addr} {F : Fn} (K : FnOk (GG w H0) F) (hi : [(272, 234), (305, 288), (340, 330), (375, 358), (466, 400), (522, 484), (592, 554), (662, 624), (690, 680)][i]? = some (C, F.a)) (hc : (GG w H0).cls.contains C = true) {vs : List SV} (hn : vs.length + 1 = F.n)
    (h : ∀ a dd s, New σ s a (.inst C dd fun _ => none) → wpB (GG w H0) d F.body (retK fun v s' => v = .none ∧ Q (.ref a) s') (F.loc0 (.ref a :: vs)) s) : CallF (GG w H0) (d + 2) (.ref C) vs Q σ := by
  have z := List.all_eq_true.mp B.hd.made _ (List.mem_of_getElem? hi)
  simp only [clsChk, Bool.and_eq_true, beq_iff_eq] at z
  exact (call_cls (gok B) (List.contains_iff_mem.mp hc) z.1.1.1 z.1.1.2 z.1.2 z.2 (d := d + 1) fun a dd ha hd hne => call_fn (gok B) K hn (h a dd _ ⟨ha, Ext.upd _ ha, upd_same _ _ _⟩)).toF
theorem k_new_bo (q : ∀ a s, σ a = none → Ext σ s → IsBO s a → Q (.ref a) s) : CallF (GG w H0) (d + 1) (.ref 218) [] Q σ :=
  (call_cls0 (gok B) (C := 218) (List.contains_iff_mem.mp rfl) B.hd.made0.1 B.hd.made0.2.1 B.hd.made0.2.2 (d := d) fun a dd ha hd hne => q a _ ha (Ext.upd _ ha) ⟨dd, _, upd_same _ _ _, rfl⟩).toF
theorem k_new_io (q : ∀ a s, σ a = none → Ext σ s → IsIO s a → Q (.ref a) s) : CallF (GG w H0) (d + 3) (.ref 272) [] Q σ := by
  refine clsF B 0 (ok_InternalOrder___init__ B) rfl rfl rfl fun a dd s n => k_new_bo B fun b s1 hb x1 ib => ?_
  refine setN (n.ext x1) fun s2 n2 bar => ⟨rfl, q a s2 n2.1 n2.2.1 ⟨dd, _, b, n2.2.2, rfl, rfl, ?_⟩⟩
  obtain ⟨dd2, m2, e2, n2⟩ := ib
  exact ⟨dd2, m2, bar _ _ (fun e => by rw [e, n.2.2] at hb; cases hb) e2, n2⟩
theorem k_new_meta {t : Tab} (q : ∀ a s, σ a = none → Ext σ s → IsT s a t → Q (.ref a) s) : CallF (GG w H0) (d + 2) (.ref 340) [.int t.n, .int t.z, .byt t.lo.B, .byt t.hi.B] Q σ := by
  refine clsF B 2 (ok_FileMeta___init__ B) rfl rfl rfl fun a dd s n => ?_
  refine setN n fun s n _ => ?_
  refine setN n fun s n _ => ?_
  refine setN n fun s n _ => ?_
  exact setN n fun s n _ => ⟨rfl, q a s n.1 n.2.1 ⟨dd, _, n.2.2, rfl, rfl, rfl, rfl⟩⟩
theorem k_new_opt (q : ∀ a s, σ a = none → Ext σ s → IsOpt s a optA → Q (.ref a) s) : CallF (GG w H0) (d + 2) (.ref 305) [] Q σ := by
  refine clsF B 1 (ok_Options___init__ B) rfl rfl rfl fun a dd s n => ?_
  iterate 20 refine setN n fun s n _ => ?_
  exact setN n fun s n _ => ⟨rfl, q a s n.1 n.2.1 ⟨dd, _, n.2.2, rfl, rfl, rfl, rfl, rfl, rfl, rfl, by (repeat refine NM.set ?_ rfl); exact NM.nil⟩⟩
theorem k_tiny {a : Addr} (h : IsOpt σ a optA) (q : ∀ s, IsOpt s a optT → Bar a σ s → Q (.ref a) s) : CallF (GG w H0) (d + 1) (.ref 302) [.ref a] Q σ := by
  obtain ⟨dd, f, e, f14, f15, f13, f17, f18, f20, f21, nm⟩ := h
  refine fnC B (ok_Options_tiny B) rfl ?_
  have n : σ a = some (.inst 305 dd f) ∧ Bar a σ σ := ⟨e, fun _ _ _ e => e⟩
  have step : ∀ {s : SH} {m : Nat → Option SV} {x : Nat} {v : SV} {R : SH → Prop}, s a = some (.inst 305 dd m) ∧ Bar a σ s → (∀ s', s' a = some (.inst 305 dd (setA m x v)) ∧ Bar a σ s' → R s') → Nat.ble 57 x = false → (GG w H0).nofld.contains (305, x) = false → setAttrW (GG w H0) (.ref a) x v R s :=
    fun n q h1 h2 => set1 n.1 (fun s' e b => q s' ⟨e, fun c o hc e => b c o hc (n.2 c o hc e)⟩) h1 h2
  iterate 13 refine step n (fun s n => ?_) rfl rfl
  exact step n (fun s n => q s ⟨dd, _, n.1, rfl, rfl, rfl, rfl, rfl, f20, f21, by (iterate 14 refine NM.set ?_ rfl); exact nm⟩ n.2) rfl rfl
theorem k_new_pick {p o : Addr} (hO : IsIO σ o) (q : ∀ a s, σ a = none → Ext σ s → IsPick s a p → Q (.ref a) s) : CallF (GG w H0) (d + 2) (.ref 662) [.ref p, .ref o] Q σ := by
  refine clsF B 7 (ok_Picker___init__ B) rfl rfl rfl fun a dd s n => ?_
  refine setN n fun s n _ => ?_
  exact setN n fun s n _ => ⟨rfl, q a s n.1 n.2.1 ⟨dd, _, o, n.2.2, rfl, rfl, hO.ext n.2.1, (NM.nil.set rfl).set rfl⟩⟩
end
noncomputable def SieveAt (σ : SH) (a c : Addr) (last : Nat) (cur : SV) (newer : Int) : Prop := ∃ dd f, ∃ st : Bool, σ a = some (.inst 690 dd f) ∧ f 53 = some (.ref c) ∧ f 24 = some (.int last) ∧ f 54 = some cur ∧ f 55 = some (.int newer) ∧ f 56 = some (.bool st) ∧ NM f
section
variable {w : Wd} {H0 : Heap} (B : Base w H0) {d : Nat} {σ : SH} {Q : QV}
include B
theorem k_new_sieve {c : Addr} {last : Nat} (q : ∀ a s, σ a = none → Ext σ s → SieveAt s a c last .none 72057594037927936 → Q (.ref a) s) : CallF (GG w H0) (d + 2) (.ref 690) [.ref c, .int last] Q σ := by
  refine clsF B 8 (ok_Sieve___init__ B) rfl rfl rfl fun a dd s n => ?_
  iterate 4 refine setN n fun s n _ => ?_
  exact setN n fun s n _ => ⟨rfl, q a s n.1 n.2.1 ⟨dd, _, false, n.2.2, rfl, rfl, rfl, rfl, rfl, by (iterate 5 refine NM.set ?_ rfl); exact NM.nil⟩⟩
end
end Mine
namespace Mine
theorem put_nums : ∀ s : Nat, s < 256 → ∀ k : Nat, k < 2 → Builtin.bitAnd (Int.fdiv ((s : Int) * 256 + k) (2 ^ Int.toNat 8)) 255 = s ∧ Builtin.bitAnd (Int.fdiv ((s : Int) * 256 + k) (2 ^ Int.toNat 16)) 255 = 0 ∧ Int.fdiv ((s : Int) * 256 + k) (2 ^ Int.toNat 24) = 0 ∧
    Builtin.bitAnd ((s : Int) * 256 + k) 4294967295 = (s : Int) * 256 + k ∧ Int.fdiv ((s : Int) * 256 + k) (2 ^ Int.toNat 32) = ((0 : Nat) : Int) * 256 + (0 : Nat) := by decide +kernel
theorem pack_num : ∀ s : Nat, s < 256 → Builtin.bitOr ((s : Int) * 2 ^ Int.toNat 8) 1 = (s : Int) * 256 + (1 : Nat) := by decide +kernel
theorem tag_lt {s k : Nat} (hs : s < 256) (hk : k < 2) : ¬ ((s : Int) * 256 + k < 0) ∧ ¬ ((4294967295 : Int) < (s : Int) * 256 + k) := by omega
section
variable {w : Wd} {H0 : Heap} (B : Base w H0) {d : Nat} {σ : SH} {Q : QV}
theorem app {a : Addr} {l : List SV} {x : SV} (h : σ a = some (.list l)) (hz : l.length ≤ 1000) (q : ∀ s, s a = some (.list (l ++ [x])) → (∀ b o, b ≠ a → σ b = some o → s b = some o) → Q .none s) : CallF (GG w H0) d (.builtin "list.append") [.ref a, x] Q σ :=
  f_append h (Nat.le_trans hz (by decide)) (q _ (upd_same _ _ _) fun b o n e => by rw [upd_ne _ _ n]; exact e)
theorem m_app {a : Addr} {l : List SV} (h : σ a = some (.list l)) : MRes (GG w H0) (.ref a) 78 (.builtin "list.append") σ := ⟨a, rfl, .inr (.inl ⟨l, h, List.mem_of_getElem? (i := 0) (by kernel_rfl)⟩)⟩
include B
theorem k_put32 {s k : Nat} (hs : s < 256) (hk : k < 2) (q : ∀ s', Ext σ s' → Q (byts [UInt8.ofNat k, UInt8.ofNat s, 0, 0]) s') : CallF (GG w H0) (d + 1) (.ref 89) [.int ((s : Int) * 256 + k)] Q σ := by
  obtain ⟨p1, p2, p3, p4, p5⟩ := put_nums s hs k hk
  obtain ⟨l1, l2⟩ := tag_lt hs hk
  refine fnC B (ok_put_fixed32 B) rfl ?_
  refine d0 l2 (new_w fun a t ha e x => ?_)
  rw [tag_kind s hs k hk, p1, p2, p3] at e
  refine f_bytes (ns := [(k : Int), s, 0, 0]) e (fun n hn => ?_) (by simp) (q _ x)
  simp only [List.mem_cons, List.not_mem_nil, or_false] at hn
  omega
theorem k_put64 {s k : Nat} (hs : s < 256) (hk : k < 2) (q : ∀ s', Ext σ s' → Q (byts [UInt8.ofNat k, UInt8.ofNat s, 0, 0, 0, 0, 0, 0]) s') : CallF (GG w H0) (d + 2) (.ref 96) [.int ((s : Int) * 256 + k)] Q σ := by
  obtain ⟨p1, p2, p3, p4, p5⟩ := put_nums s hs k hk
  obtain ⟨l1, l2⟩ := tag_lt hs hk
  refine fnC B (ok_put_fixed64 B) rfl ?_
  refine d0 (fun z => l2 (by omega)) ?_
  show CallF (GG w H0) (d + 1) (.ref 89) [.int (Builtin.bitAnd ((s : Int) * 256 + k) 4294967295)] (KBin .Add (wpE (GG w H0) (d + 1) (.call (.glob 4 _) (.cons (.bin .RShift _ _ _) .nil) _)) _ _) σ
  rw [p4]
  refine k_put32 B hs hk fun s' x => ?_
  show CallF (GG w H0) (d + 1) (.ref 89) [.int (Int.fdiv ((s : Int) * 256 + k) (2 ^ Int.toNat 32))] (KBin2 .Add _ _) s'
  rw [p5]
  exact k_put32 B (by decide) (by decide) fun s2 y => ⟨rfl, Nat.le_of_ble_eq_true rfl, q s2 (x.trans y)⟩
theorem k_make {u : List UInt8} {s : Nat} (hs : s < 256) (hu : u.length ≤ 900) (q : ∀ s', Ext σ s' → Q (.byt (ikB u s 1)) s') : CallF (GG w H0) (d + 3) (.ref 124) [byts u, .int s, .int 1] Q σ := by
  refine fnC B (ok_make_ikey B) rfl (f_bytesb ?_)
  refine fnC B (ok_pack_tag B) rfl ?_
  refine d0 (by omega) ⟨by unfold small; omega, ?_⟩
  show CallF (GG w H0) (d + 2) (.ref 96) [.int (Builtin.bitOr ((s : Int) * 2 ^ Int.toNat 8) 1)] _ _
  rw [pack_num s hs]
  exact k_put64 B hs (k := 1) (by decide) fun s' x => ⟨rfl, by simp; omega, by
    show Q (.byt (u.toArray ++ _)) s'
    rw [show u.toArray ++ [UInt8.ofNat 1, UInt8.ofNat s, 0, 0, 0, 0, 0, 0].toArray = ikB u s 1 by simp [ikB]]
    exact q s' x⟩
theorem k_law_user {u : Nat} (hu : u < 6) (q : Q (byts (uL u)) σ) : CallF (GG w H0) (d + 1) (.ref 708) [.int u] Q σ := by
  refine fnC B (ok__law_user B) rfl ?_
  revert q
  match u, hu with
  | 0, _ => exact fun q => q
  | 1, _ => exact fun q => q
  | 2, _ => exact fun q => q
  | 3, _ => exact fun q => q
  | 4, _ => exact fun q => q
  | 5, _ => exact fun q => q
theorem k_law_ikey {r : Row} (hr : r.Ok) (q : ∀ s, Ext σ s → Q (.byt r.B) s) : CallF (GG w H0) (d + 2) (.ref 715) [r.sv] Q σ := by
  refine fnC B (ok__law_ikey B) rfl (k_law_user B hr.u (new_w fun a s ha e x => ?_))
  rw [show (0 : Int) - -(r.s : Int) = r.s by omega] at e
  refine f_bytes (ns := [(r.k : Int), r.s, 0, 0, 0, 0, 0, 0]) e (fun n hn => ?_) (by simp) ⟨rfl, ?_, ?_⟩
  · have := hr.s; have := hr.k
    simp only [List.mem_cons, List.not_mem_nil, or_false] at hn
    omega
  · have := hr.l; simp [byteArr]; omega
  · have := q s x
    rw [show r.B = (uL r.u).toArray ++ byteArr [(r.k : Int), r.s, 0, 0, 0, 0, 0, 0] by simp [Row.B, ikB, byteArr]] at this
    exact this
omit B in
theorem sum_int (l : List Nat) : (l.map fun (n : Nat) => (n : Int)).sum = (l.sum : Nat) := by
  induction l with
  | nil => rfl
  | cons a l ih => rw [List.map_cons, List.sum_cons, List.sum_cons, ih]; rfl
theorem k_law_octets {a : Addr} {rs : List Row} (h : σ a = some (.list (rs.map Row.sv))) (hz : rs.length ≤ 1000) (q : ∀ s, Ext σ s → Q (.int (sumZ rs)) s) : CallF (GG w H0) (d + 1) (.ref 720) [.ref a] Q σ := by
  refine fnC B (ok__law_octets B) rfl (itl h fun acc hacc => ?_)
  refine cmp1 (fun rest h' => ∀ Z : SH → Prop, (∀ done s, rs = done ++ rest → Ext σ s → s acc = some (.list (done.map fun r => .int r.z)) → Z s) → Z h') (fun i => ?_) (fun h' i => ?_) (fun r rest h' R k i => ?_) fun Z z => z [] _ rfl (Ext.upd _ hacc) (upd_same _ _ _)
  · apply i; intro _ s _ x _; exact x _ _ h
  · apply i; intro done s e x g
    rw [List.append_nil] at e
    refine f_sum (ns := (rs.map Row.z).map fun (n : Nat) => (n : Int)) (by rw [g, ← e, List.map_map, List.map_map]; rfl) ?_
    rw [sum_int]
    exact q s x
  · apply i; intro done s e x g
    refine ⟨_, g, ?_, k _ fun Z z => z (done ++ [r]) _ (by rw [List.append_assoc]; exact e) (x.updF _ hacc) (by rw [upd_same, List.map_append]; rfl)⟩
    rw [e, List.length_append] at hz
    rw [List.length_map]; omega
theorem k_law_meta {t : Tab} (ok : t.Ok) (h : σ t.a = some (.list (t.rows.map Row.sv))) (q : ∀ b s, σ b = none → Ext σ s → IsT s b t → Q (.ref b) s) : CallF (GG w H0) (d + 4) (.ref 727) [.int t.n, .ref t.a] Q σ := by
  have hz : t.rows.length ≤ 1000 := Nat.le_trans ok.len (by decide)
  have l0 := ok.len0
  have e : ((t.rows.length : Int) - 1) = (t.rows.length - 1 : Nat) := by omega
  refine fnC B (ok__law_meta B) rfl (len_map h hz ?_)
  show subW (.ref t.a) (.int ((t.rows.length : Int) - 1)) _ _
  rw [e]
  refine sub_map h (Nat.le_trans hz (by decide)) ok.atL (k_law_octets B h hz fun s x => ?_)
  refine sub_map (k := 0) (x _ _ h) (Nat.le_trans hz (by decide)) ok.at0 (k_law_ikey B ok.loO fun s2 x2 => k_law_ikey B ok.hiO fun s3 x3 => ?_)
  have x3 := (x.trans x2).trans x3
  exact k_new_meta B fun b s4 hb x4 im => q b s4 (x3.none hb) (x3.trans x4) im
noncomputable def draw (ns : List Int) (i : Nat) : Int := ns.getD (i % ns.length) 0 + 7919 * i
theorem k_draw {a : Addr} {ns : List Int} (h : σ a = some (.list (ns.map .int))) (h0 : 0 < ns.length) (hz : ns.length ≤ 1000) {i : Nat} (q : Q (.int (draw ns i)) σ) : CallF (GG w H0) (d + 1) (.ref 701) [.ref a, .int i] Q σ := by
  have lt := Nat.mod_lt i h0
  have g : ns[i % ns.length]? = some (ns.getD (i % ns.length) 0) := by rw [List.getD_eq_getElem?_getD, List.getElem?_eq_getElem lt]; rfl
  refine fnC B (ok__law_draw B) rfl (len_map h hz (gd_of (decide_eq_true (by omega)) (sub_map (k := i % ns.length) h (Nat.le_trans hz (by decide)) g ⟨by unfold small; decide, q⟩)))
theorem k_needs {a v dd : Addr} {f : Nat → Option SV} {x y : Int} (h : σ v = some (.inst 466 dd f)) (hs : f 37 = some (.tup [.int x, .int y])) (q : Q (.bool (decide (y ≤ x))) σ) : CallF (GG w H0) (d + 1) (.ref 631) [.ref a, .ref v] Q σ :=
  fnC B (ok_Picker_needs_compaction B) rfl (attr_inst h hs rfl rfl (attr_inst h hs rfl rfl q))
end
end Mine
namespace Mine
noncomputable def okind : SO → Nat
  | .list _ => 0
  | .dict _ _ => 1
  | .inst c _ _ => c
noncomputable def Kp (C : List Nat) (σ σ' : SH) : Prop := ∀ a o, σ a = some o → C.contains (okind o) = false → σ' a = some o
theorem Ext.kp {σ σ' : SH} (h : Ext σ σ') (C : List Nat) : Kp C σ σ' := fun a o e _ => h a o e
theorem Kp.trans {C : List Nat} {σ σ' σ'' : SH} (x : Kp C σ σ') (y : Kp C σ' σ'') : Kp C σ σ'' := fun a o e k => y a o (x a o e k) k
theorem Bar.kp {σ σ' : SH} {a : Addr} {o : SO} (x : Bar a σ σ') (e : σ a = some o) : Kp [okind o] σ σ' := fun b p q k => x b p (fun z => by rw [z, e] at q; cases q; simp at k) q
section
variable {C : List Nat} {σ σ' : SH} {a : Addr} (x : Kp C σ σ')
include x
theorem IsBO.kp (h : IsBO σ a) (h1 : C.contains 218 = false := by rfl) : IsBO σ' a := h.imp fun _ h => h.imp fun _ h => ⟨x _ _ h.1 h1, h.2⟩
theorem IsIO.kp (h : IsIO σ a) (h1 : C.contains 218 = false := by rfl) (h2 : C.contains 272 = false := by rfl) : IsIO σ' a := h.imp fun _ h => h.imp fun _ h => h.imp fun _ h => ⟨x _ _ h.1 h2, h.2.1, h.2.2.1, h.2.2.2.kp x h1⟩
theorem IsT.kp {t : Tab} (h : IsT σ a t) (h1 : C.contains 340 = false := by rfl) : IsT σ' a t := h.imp fun _ h => h.imp fun _ h => ⟨x _ _ h.1 h1, h.2⟩
theorem FL.kp {r : List AT} (h : FL σ a r) (h0 : C.contains 0 = false := by rfl) (h1 : C.contains 340 = false := by rfl) : FL σ' a r := ⟨x _ _ h.e h0, fun p m => (h.t p m).kp x h1, h.ok, h.z⟩
theorem IsOpt.kp {p : Opt} (h : IsOpt σ a p) (h1 : C.contains 305 = false := by rfl) : IsOpt σ' a p := h.imp fun _ h => h.imp fun _ h => ⟨x _ _ h.1 h1, h.2⟩
theorem Lvl.kp {V : Ver} (h : Lvl σ V) (h0 : C.contains 0 = false := by rfl) (h1 : C.contains 340 = false := by rfl) : Lvl σ' V := ⟨x _ _ h.e h0, fun p m => (h.t p m).kp x h0 h1, h.z⟩
theorem IsVer.kp {V : Ver} (h : IsVer σ a V) (h0 : C.contains 0 = false := by rfl) (h1 : C.contains 340 = false := by rfl) (h2 : C.contains 466 = false := by rfl) (h3 : C.contains 218 = false := by rfl) (h4 : C.contains 272 = false := by rfl) : IsVer σ' a V :=
  h.imp fun _ h => h.imp fun _ h => h.imp fun _ h => ⟨x _ _ h.1 h2, h.2.1.kp x h0 h1, h.2.2.1, h.2.2.2.1, h.2.2.2.2.1, h.2.2.2.2.2.1.kp x h3 h4, h.2.2.2.2.2.2⟩
theorem IsPick.kp {p : Addr} (h : IsPick σ a p) (h1 : C.contains 662 = false := by rfl) (h3 : C.contains 218 = false := by rfl) (h4 : C.contains 272 = false := by rfl) : IsPick σ' a p := h.imp fun _ h => h.imp fun _ h => h.imp fun _ h => ⟨x _ _ h.1 h1, h.2.1, h.2.2.1, h.2.2.2.1.kp x h3 h4, h.2.2.2.2⟩
end
noncomputable def numsOf (l : List (Addr × List AT)) : List Int := (l.map fun p => p.2.map fun q => (q.2.n : Int)).flatten
section
variable {w : Wd} {H0 : Heap} (B : Base w H0) {d : Nat} {σ : SH} {Q : QV}
include B
theorem k_numbers {v : Addr} {V : Ver} (h : IsVer σ v V) (hz : (numsOf V.lv).length < 64) (q : ∀ L (ns : List Int) s, Ext σ s → s L = some (.list (ns.map .int)) → ns.Perm (numsOf V.lv) → ns.Pairwise (· ≤ ·) → Q (.ref L) s) : CallF (GG w H0) (d + 1) (.ref 449) [.ref v] Q σ := by
  refine fnC B (ok_Version_numbers B) rfl (new_w fun acc s0 ha e0 x0 => ?_)
  refine (h.ext x0).files (itl (x0 _ _ h.L.e) ?_)
  refine for1 (fun rest l' h' => ∀ Z : Loc → SH → Prop, (∀ done u1 u2 s, Ext σ s → V.lv = done ++ rest → s acc = some (.list ((numsOf done).map .int)) → Z [some (.ref v), some (.ref acc), u1, u2] s) → Z l' h')
    (fun i => ?_) (fun l' h' i => ?_) (fun p rest l' h' R k i => ?_) fun Z z => z [] none none s0 x0 rfl e0
  · apply i; intro _ _ _ s x _ _; exact x _ _ h.L.e
  · apply i; intro done u1 u2 s x e g
    rw [List.append_nil] at e
    exact f_sort g (by rw [← e]; exact hz) fun L ns hL p1 p2 => q L ns _ (x.updF _ (x.none hL)) (upd_same _ _ _) (by rw [e]; exact p1) p2
  · apply i; intro done u1 u2 s x e g
    have hp := h.L.t p (by rw [e]; exact List.mem_append_right _ List.mem_cons_self)
    refine itl (x _ _ hp.e) ?_
    refine for1 (fun rs l' h' => ∀ Z : Loc → SH → Prop, (∀ dn u2 s, Ext σ s → p.2 = dn ++ rs → s acc = some (.list ((numsOf done ++ dn.map fun q => (q.2.n : Int)).map .int)) → Z [some (.ref v), some (.ref acc), some (.ref p.1), u2] s) → Z l' h')
      (fun i => ?_) (fun l' h' i => ?_) (fun t rs l' h' R k i => ?_) fun Z z => z [] u2 s x rfl (by rw [List.map_nil, List.append_nil]; exact g)
    · apply i; intro _ _ s x _ _; exact x _ _ hp.e
    · apply i; intro dn u2 s x e2 g
      rw [List.append_nil] at e2
      exact k _ _ fun Z z => z (done ++ [p]) _ _ s x (by rw [List.append_assoc]; exact e) (by rw [g, ← e2]; simp [numsOf])
    · apply i; intro dn u2 s x e2 g
      have ht := hp.t t (by rw [e2]; exact List.mem_append_right _ List.mem_cons_self)
      refine me (m_app g) ((ht.ext x).num (app g ?_ fun s2 g2 k2 => k _ _ fun Z z => z (dn ++ [t]) _ s2 (fun b o e => k2 b o (fun z => ?_) (x b o e)) (by rw [List.append_assoc]; exact e2) (by rw [g2]; simp)))
      · rw [e, numsOf, List.map_append, List.map_cons, List.flatten_append, List.flatten_cons, e2, List.length_append, List.length_append, List.map_append, List.length_append] at hz
        rw [List.length_map, List.length_append]
        unfold numsOf
        omega
      · rw [z, ha] at e; cases e
end
end Mine
namespace Mine
noncomputable def topV (V : Ver) (i : Nat) : Nat := if i = 0 then (V.ts 0).length else sz (V.ts i)
noncomputable def botV (p : Opt) (i : Nat) : Nat := if i = 0 then p.trig else maxOct p i
noncomputable def Best (top bot : Nat → Nat) (N b : Nat) : Prop := b < N ∧ (∀ j, j < N → top j * bot b ≤ top b * bot j) ∧ ∀ j, j < b → top j * bot b < top b * bot j
theorem frac {a b c d e f : Nat} (h1 : a * d ≤ c * b) (h2 : c * f < e * d) (hb : 0 < b) : a * f < e * b := by
  rcases Nat.eq_zero_or_pos d with z | hd
  · rw [z, Nat.mul_zero] at h2; exact absurd h2 (Nat.not_lt_zero _)
  · have x1 : a * f * d ≤ c * f * b := by rw [Nat.mul_right_comm, Nat.mul_right_comm c]; exact Nat.mul_le_mul_right f h1
    have x2 : c * f * b < e * b * d := by rw [Nat.mul_right_comm e]; exact Nat.mul_lt_mul_of_pos_right h2 hb
    exact Nat.lt_of_mul_lt_mul_right (Nat.lt_of_le_of_lt x1 x2)
section
variable {top bot : Nat → Nat} {N b : Nat} (h : Best top bot N b)
include h
theorem Best.keep (k : ¬ top b * bot N < top N * bot b) : Best top bot (N + 1) b := ⟨Nat.lt_succ_of_lt h.1, fun j hj => (Nat.lt_succ_iff_lt_or_eq.mp hj).elim (h.2.1 j) fun e => by rw [e]; exact Nat.not_lt.mp k, h.2.2⟩
theorem Best.turn (hp : ∀ j, 0 < bot j) (k : top b * bot N < top N * bot b) : Best top bot (N + 1) N :=
  have z : ∀ j, j < N → top j * bot N < top N * bot j := fun j hj => frac (h.2.1 j hj) k (hp j)
  ⟨Nat.lt_succ_self _, fun j hj => (Nat.lt_succ_iff_lt_or_eq.mp hj).elim (fun e => Nat.le_of_lt (z j e)) fun e => by rw [e]; exact Nat.le_refl _, z⟩
end
theorem OkO.bot {p : Opt} (h : OkO p) (j : Nat) : 0 < botV p j := by
  unfold botV maxOct
  split
  · rcases h.e with e | e <;> rw [e] <;> decide
  · exact Nat.mul_pos (by rcases h.e with e | e <;> rw [e] <;> decide) (Nat.pow_pos h.fac)
theorem OkO.n2 {p : Opt} (h : OkO p) : 4 ≤ p.num := by rcases h.e with e | e <;> rw [e] <;> decide
theorem Ver.ts_at {V : Ver} {i : Nat} {p : Addr × List AT} (e : V.lv[i]? = some p) : V.ts i = p.2 := by unfold Ver.ts; rw [e]; rfl
theorem Ver.lvl {V : Ver} {i : Nat} (h : i < V.lv.length) : ∃ p, V.lv[i]? = some p ∧ V.ts i = p.2 := ⟨_, List.getElem?_eq_getElem h, Ver.ts_at (List.getElem?_eq_getElem h)⟩
section
variable {w : Wd} {H0 : Heap} (B : Base w H0) {d : Nat} {σ : SH} {Q : QV}
theorem Bar.trans {σ s t : SH} {a : Addr} (x : Bar a σ s) (y : Bar a s t) : Bar a σ t := fun b o n e => y b o n (x b o n e)
theorem small_n {n : Nat} (h : n < 2 ^ 64) : small (n : Int) := h
include B
theorem k_score {v a : Addr} {V : Ver} {p : Opt} (hV : IsVer σ v V) (hP : IsOpt σ a p) (hp : OkO p) (hn : p.num = V.lv.length) (hs : ∀ i, topV V i < 2 ^ 64)
    (q : ∀ b s dd f, Best (topV V) (botV p) (p.num - 1) b → IsVer s v V → s v = some (.inst 466 dd f) → f 37 = some (.tup [.int (topV V b), .int (botV p b)]) → f 38 = some (.int b) → Bar v σ s → Q (.tup [.int (topV V b), .int (botV p b)]) s) :
    CallF (GG w H0) (d + 3) (.ref 610) [.ref v, .ref a] Q σ := by
  have n2 := hp.n2
  have n12 := hp.num
  obtain ⟨p0, e0, t0⟩ := V.lvl (i := 0) (by omega)
  have f0 := hV.at e0
  refine fnC B (ok_score_of B) rfl (hV.files (len_map hV.L.e (Nat.le_trans hV.L.z (by decide)) ?_))
  refine in_ (c := ((V.lv.length : Int) == 0) = true) (by simp; intro z; rw [z] at hn; simp at hn; omega) (hV.files (hV.sub e0 (len_map f0.e f0.z (hP.trig (hP.num ?_)))))
  refine f_range2 (by omega) (by omega) (by omega) (by omega) ?_
  refine forR (fun j l' h' => ∀ Z : Loc → SH → Prop, (∀ b u1 u2 u3, Best (topV V) (botV p) (j + 1) b → Z [some (.ref v), some (.ref a), some (.int (topV V b)), some (.int (botV p b)), some (.int b), u1, u2, u3] σ) → Z l' h')
    (fun i => trivial) (fun l' h' i => ?_) (fun j l' h' R hj k i => ?_) fun Z z => ?_
  · apply i; intro b u1 u2 u3 hb
    rw [show ((p.num : Int) - 1 - 1).toNat + 1 = p.num - 1 by omega] at hb
    obtain ⟨dd, f, o, g, gr⟩ := id hV
    refine set1 g fun s1 g1 b1 => set1 g1 fun s2 g2 b2 => ?_
    have bar := b1.trans b2
    have kp : Kp [466] σ s2 := bar.kp g
    exact attr_inst (v := .tup [.int (topV V b), .int (botV p b)]) g2 rfl rfl rfl (q b s2 dd _ hb ⟨dd, _, o, g2, gr.1.kp kp, gr.2.1, gr.2.2.1, gr.2.2.2.1, gr.2.2.2.2.1.kp kp, gr.2.2.2.2.2.1, (gr.2.2.2.2.2.2.set rfl).set rfl⟩ g2 rfl rfl bar)
  · apply i; intro b u1 u2 u3 hb
    have hl : j + 2 < p.num := by omega
    obtain ⟨pj, ej, tj⟩ := V.lvl (i := j + 1) (by omega)
    have s1 := hs (j + 1)
    have y1 : topV V (j + 1) = sz pj.2 := by unfold topV; rw [if_neg (Nat.succ_ne_zero j), tj]
    have y2 : botV p (j + 1) = maxOct p (j + 1) := if_neg (Nat.succ_ne_zero j)
    rw [y1] at s1
    refine me (hV.m 6 (x := 5) (by kernel_rfl)) (k_level_octets B hV ej (k_max_octets B hP hp (Nat.lt_of_lt_of_le (Nat.lt_of_succ_lt hl) n12) ⟨small_n s1, small_n (hs b), ?_⟩))
    refine dc (fun c => k _ _ fun Z z => ?_) fun c => k _ _ fun Z z => z b _ _ _ (hb.keep ?_)
    · have z := z (j + 1) (some (.int (j + 1 : Nat))) (some (.int (sz pj.2))) (some (.int (maxOct p (j + 1)))) (hb.turn hp.bot (by rw [y1, y2]; exact Int.ofNat_lt.mp c))
      rw [y1, y2] at z
      exact z
    · rw [y1, y2]; exact fun g => c (Int.ofNat_lt.mpr g)
  · have z := z 0 none none none ⟨Nat.zero_lt_one, fun j hj => by rw [Nat.lt_one_iff.mp hj]; exact Nat.le_refl _, fun j hj => absurd hj (Nat.not_lt_zero _)⟩
    rw [show topV V 0 = p0.2.length by rw [← t0]; rfl] at z
    exact z
end
end Mine
namespace Mine
theorem bc {b : Bool} {c : Prop} {i : Decidable c} {A B : Prop} (e : b = decide c) (h : c → A) (k : ¬c → B) : @ite Prop (b = true) (instDecidableEqBool _ _) A B := by subst e; exact dc h k
theorem eqz (i : Nat) : ((i : Int) == 0) = decide (i = 0) := by cases i <;> rfl
noncomputable def ov (l h : Nat) (t : Tab) : Bool := decide (l ≤ t.hi.u) && decide (t.lo.u ≤ h)
theorem ov_t {l h : Nat} {t : Tab} (h1 : l ≤ t.hi.u) (h2 : t.lo.u ≤ h) : ov l h t = true := by unfold ov; rw [decide_eq_true h1, decide_eq_true h2]; rfl
theorem ov_of {l h : Nat} {t : Tab} (e : ov l h t = true) : l ≤ t.hi.u ∧ t.lo.u ≤ h := by simpa [ov] using e
theorem take1 {α : Type} {l : List α} {j : Nat} {x : α} (e : l[j]? = some x) : l.take (j + 1) = l.take j ++ [x] := by rw [List.take_add_one, e]; rfl
theorem ms1 {X n j : Nat} (h : j < n) : X * (n + 1) + (n - (j + 1)) < X * (n + 1) + (n - j) := Nat.add_lt_add_left (Nat.sub_succ_lt_self n j h) _
theorem ms2 {X Y n j : Nat} (h : X < Y) : X * (n + 1) + (n - 0) < Y * (n + 1) + (n - j) :=
  have : (X + 1) * (n + 1) ≤ Y * (n + 1) := Nat.mul_le_mul_right _ h
  Nat.lt_of_lt_of_le (by rw [Nat.add_mul, Nat.one_mul] at this; omega) (Nat.le_add_right _ _)
noncomputable abbrev ovs (l h : Nat) (r : List AT) : List AT := r.filter fun a => ov l h a.2
structure OvR (i : Nat) (r : List AT) (lo hi l h : Nat) : Prop where
  la : l ≤ lo
  ha : hi ≤ h
  h6 : h < 6
  z : i = 0 → ∀ a ∈ r, ov l h a.2 = true → l ≤ a.2.lo.u ∧ a.2.hi.u ≤ h
  s : i ≠ 0 → l = lo ∧ h = hi
theorem OvR.no {i : Nat} {r : List AT} {lo hi l h : Nat} {a : AT} (H : OvR i r lo hi l h) (n : ov l h a.2 ≠ true) : OvR i (r ++ [a]) lo hi l h :=
  ⟨H.la, H.ha, H.h6, fun i0 b hb o => (List.mem_append.mp hb).elim (fun hb => H.z i0 b hb o) fun hb => absurd o (by rw [List.mem_singleton.mp hb]; exact n), H.s⟩
theorem OvR.yes {i : Nat} {r : List AT} {lo hi l h : Nat} {a : AT} (H : OvR i r lo hi l h) (n : i = 0 → l ≤ a.2.lo.u ∧ a.2.hi.u ≤ h) : OvR i (r ++ [a]) lo hi l h :=
  ⟨H.la, H.ha, H.h6, fun i0 b hb o => (List.mem_append.mp hb).elim (fun hb => H.z i0 b hb o) fun hb => by rw [List.mem_singleton.mp hb]; exact n i0, H.s⟩
theorem ovs_no {l h : Nat} {r : List AT} {a : AT} (n : ov l h a.2 ≠ true) : ovs l h (r ++ [a]) = ovs l h r := by unfold ovs; rw [List.filter_append]; simp [n]
theorem ovs_yes {l h : Nat} {r : List AT} {a : AT} (n : ov l h a.2 = true) : ovs l h (r ++ [a]) = ovs l h r ++ [a] := by unfold ovs; rw [List.filter_append]; simp [n]
section
variable {w : Wd} {H0 : Heap} (B : Base w H0) {d : Nat} {σ : SH} {Q : QV}
include B
theorem k_overlapping {v : Addr} {V : Ver} (hV : IsVer σ v V) {i : Nat} {p : Addr × List AT} (e : V.lv[i]? = some p) {lo hi : Nat} (hlo : lo < 6) (hhi : hi < 6) (q : ∀ L l h s, σ L = none → Ext σ s → FL s L (ovs l h p.2) → OvR i p.2 lo hi l h → Q (.ref L) s) :
    CallF (GG w H0) (d + 2) (.ref 407) [.ref v, .int i, byts (uL lo), byts (uL hi)] Q σ := by
  have F := hV.at e
  refine fnC B (ok_Version_overlapping B) rfl (new_w fun L0 s0 hL0 e0 x0 => ?_)
  refine wh1 (fun m l' h' => ∀ Z : Loc → SH → Prop, (∀ l h j L u1 u2 u3 s, m = (l + (5 - h)) * (p.2.length + 1) + (p.2.length - j) → σ L = none → Ext σ s → s L = some (.list ((ovs l h (p.2.take j)).map fr)) → OvR i (p.2.take j) lo hi l h →
      Z [some (.ref v), some (.int i), some (byts (uL lo)), some (byts (uL hi)), some (byts (uL l)), some (byts (uL h)), some (.ref L), some (.int (j : Nat)), u1, u2, u3] s) → Z l' h') (fun m l' h' R k i' => ?_) (m := (lo + (5 - hi)) * (p.2.length + 1) + (p.2.length - 0))
    fun Z z => z lo hi 0 L0 none none none s0 rfl hL0 x0 e0 ⟨Nat.le_refl _, Nat.le_refl _, hhi, fun _ _ m => absurd m List.not_mem_nil, fun _ => ⟨rfl, rfl⟩⟩
  apply i'; intro l h j L u1 u2 u3 s em hL x g H
  have hV' := hV.ext x
  have F' := F.ext x
  refine hV'.files (hV'.sub e (len_map F'.e F.z ?_))
  refine dc (fun c => ?_) fun c => ?_
  · have c := Int.ofNat_lt.mp c
    have hp := List.getElem?_eq_getElem c
    generalize p.2[j] = a at hp
    have am := List.mem_of_getElem? hp
    have at_ := F'.t a am
    have ao := F.ok a am
    have hl6 : l < 6 := Nat.lt_of_le_of_lt H.la hlo
    have et := take1 hp
    have kk := @ms1 (l + (5 - h)) _ _ c
    refine hV'.files (hV'.sub e (sub_map F'.e (Nat.le_trans F.z (by decide)) hp (at_.lo (k_user_of B ao.loO.l (at_.hi (k_user_of B ao.hiO.l ?_))))))
    refine bc (blt _ ao.hiO.u _ hl6) (fun c1 => k _ _ _ (em ▸ kk) fun Z z => z l h (j + 1) L _ _ _ s rfl hL x ?_ ?_) fun c1 => ?_
    · rw [et, ovs_no fun o => Nat.not_lt.mpr (ov_of o).1 c1]; exact g
    · rw [et]; exact H.no fun o => Nat.not_lt.mpr (ov_of o).1 c1
    refine bc (bgt _ ao.loO.u _ H.h6) (fun c2 => k _ _ _ (em ▸ kk) fun Z z => z l h (j + 1) L _ _ _ s rfl hL x ?_ ?_) fun c2 => ?_
    · rw [et, ovs_no fun o => Nat.not_lt.mpr (ov_of o).2 c2]; exact g
    · rw [et]; exact H.no fun o => Nat.not_lt.mpr (ov_of o).2 c2
    have ovt := ov_t (Nat.not_lt.mp c1) (Nat.not_lt.mp c2)
    have lz : ((ovs l h (p.2.take j)).map fr).length ≤ 1000 := by rw [List.length_map]; exact Nat.le_trans (List.length_filter_le _ _) (Nat.le_trans (List.length_take_le' _ _) F.z)
    refine me (m_app g) (app g lz fun s1 g1 k1 => ?_)
    have x1 : Ext σ s1 := fun b o e => k1 b o (ne_of e hL) (x b o e)
    have fin : (i = 0 → l ≤ a.2.lo.u ∧ a.2.hi.u ≤ h) → R _ s1 := fun hin => k _ _ _ (em ▸ kk) fun Z z => z l h (j + 1) L (some (.ref a.1)) (some (byts (uL a.2.lo.u))) (some (byts (uL a.2.hi.u))) s1 rfl hL x1 (by rw [et, ovs_yes ovt, g1, List.map_append]; rfl) (by rw [et]; exact H.yes hin)
    refine bc (eqz i) (fun c3 => ?_) fun c3 => fin fun z => absurd z c3
    have u3 := ao.lohi
    refine bc (blt _ ao.loO.u _ hl6) (fun c4 => new_w fun L2 s2 hL2 g2 x2 => k _ _ _ (em ▸ ms2 (Nat.add_lt_add_right c4 _)) fun Z z => z a.2.lo.u h 0 L2 _ _ _ s2 rfl (x1.none hL2) (x1.trans x2) g2 ⟨Nat.le_trans (Nat.le_of_lt c4) H.la, H.ha, H.h6, fun _ _ m => absurd m List.not_mem_nil, fun z => absurd c3 z⟩) fun c4 => ?_
    refine bc (bgt _ ao.hiO.u _ H.h6) (fun c5 => new_w fun L2 s2 hL2 g2 x2 => k _ _ _ (em ▸ ms2 (Nat.add_lt_add_left (Nat.sub_lt_sub_left (Nat.lt_of_lt_of_le c5 (Nat.le_of_lt_succ ao.hiO.u)) c5) _)) fun Z z => z l a.2.hi.u 0 L2 _ _ _ s2 rfl (x1.none hL2) (x1.trans x2) g2 ⟨H.la, Nat.le_trans H.ha (Nat.le_of_lt c5), ao.hiO.u, fun _ _ m => absurd m List.not_mem_nil, fun z => absurd c3 z⟩) fun c5 => ?_
    exact fin fun _ => ⟨Nat.not_lt.mp c4, Nat.not_lt.mp c5⟩
  · have c := Nat.not_lt.mp fun z => c (Int.ofNat_lt.mpr z)
    rw [List.take_of_length_le c] at g H
    exact q L l h s hL x ⟨g, fun t m => F'.t t ((List.mem_filter.mp m).1), fun t m => F.ok t ((List.mem_filter.mp m).1), Nat.le_trans (List.length_filter_le _ _) F.z⟩ H
end
end Mine
namespace Mine
theorem New.fresh {σ s : SH} {a c : Addr} {o : SO} (h : New σ s a o) (hc : s c = none) : σ c = none ∧ c ≠ a := ⟨h.2.1.none hc, fun e => by rw [e, h.2.2] at hc; cases hc⟩
theorem Ext.bar {σ s : SH} (x : Ext σ s) (a : Addr) : Bar a σ s := fun b o _ e => x b o e
noncomputable def EditAt (σ : SH) (e dl al cl : Addr) : Prop := ∃ dd f, σ e = some (.inst 375 dd f) ∧ f 31 = some (.ref dl) ∧ f 32 = some (.ref al) ∧ f 30 = some (.ref cl) ∧ f 33 = some (.bool false)
section
variable {w : Wd} {H0 : Heap} {σ σ' : SH} {Q : QV} {e dl al cl : Addr} (h : EditAt σ e dl al cl)
include h
theorem EditAt.kp {C : List Nat} (x : Kp C σ σ') (h1 : C.contains 375 = false := by rfl) : EditAt σ' e dl al cl := h.imp fun _ h => h.imp fun _ h => ⟨x _ _ h.1 h1, h.2⟩
theorem EditAt.ext (x : Ext σ σ') : EditAt σ' e dl al cl := h.kp (x.kp [])
theorem EditAt.del (q : Q (.ref dl) σ) : attrW (GG w H0) (.ref e) 31 Q σ := by obtain ⟨_, _, e, e1, _⟩ := h; exact attr_inst e e1 rfl rfl q
theorem EditAt.add (q : Q (.ref al) σ) : attrW (GG w H0) (.ref e) 32 Q σ := by obtain ⟨_, _, e, _, e1, _⟩ := h; exact attr_inst e e1 rfl rfl q
theorem EditAt.ptr (q : Q (.ref cl) σ) : attrW (GG w H0) (.ref e) 30 Q σ := by obtain ⟨_, _, e, _, _, e1, _⟩ := h; exact attr_inst e e1 rfl rfl q
theorem EditAt.rst (q : Q (.bool false) σ) : attrW (GG w H0) (.ref e) 33 Q σ := by obtain ⟨_, _, e, _, _, _, e1⟩ := h; exact attr_inst e e1 rfl rfl q
end
structure NewEd (σ s : SH) (e dl al cl : Addr) : Prop where
  at' : EditAt s e dl al cl
  d : s dl = some (.list [])
  a : s al = some (.list [])
  c : s cl = some (.list [])
  da : dl ≠ al
  dc : dl ≠ cl
  ac : al ≠ cl
  fe : σ e = none
  fd : σ dl = none
  fa : σ al = none
  fc : σ cl = none
  x : Ext σ s
section
variable {w : Wd} {H0 : Heap} (B : Base w H0) {d : Nat} {σ : SH} {Q : QV}
include B
theorem k_new_edit (q : ∀ e dl al cl s, NewEd σ s e dl al cl → Q (.ref e) s) : CallF (GG w H0) (d + 2) (.ref 375) [] Q σ := by
  refine clsF B 3 (ok_VersionEdit___init__ B) rfl rfl rfl fun a dd s n => ?_
  iterate 4 refine setN n fun s n _ => ?_
  refine new_w fun c s1 hc e1 x1 => setN (n.ext x1) fun s2 n2 b2 => ?_
  obtain ⟨fc, nc⟩ := n.fresh hc
  have e1 := b2 _ _ nc e1
  refine new_w fun b s3 hb e3 x3 => setN (n2.ext x3) fun s4 n4 b4 => ?_
  obtain ⟨fb, nb⟩ := n2.fresh hb
  have cb := ne_of e1 hb
  have e1 := b4 _ _ nc (x3 _ _ e1)
  have e3 := b4 _ _ nb e3
  refine new_w fun l s5 hl e5 x5 => setN (n4.ext x5) fun s6 n6 b6 => setN n6 fun s7 n7 b7 => ?_
  obtain ⟨fl, nl⟩ := n4.fresh hl
  have bb := b6.trans b7
  exact ⟨rfl, q a b l c s7 ⟨⟨dd, _, n7.2.2, rfl, rfl, rfl, rfl⟩, bb _ _ nb (x5 _ _ e3), bb _ _ nl e5, bb _ _ nc (x5 _ _ e1), ne_of e3 hl, cb.symm, (ne_of e1 hl).symm, n.1, fb, fl, fc, n7.2.1⟩⟩
end
noncomputable def Cells (s : SH) (ls : List Addr) (g : Nat → List AT) : Prop := ∀ i x, ls[i]? = some x → s x = some (.list ((g i).map fr))
noncomputable def Fresh (σ : SH) (ls : List Addr) : Prop := ls.Nodup ∧ ∀ x ∈ ls, σ x = none
theorem Cells.set {s s' : SH} {ls : List Addr} {g g' : Nat → List AT} (h : Cells s ls g) (nd : ls.Nodup) {i : Nat} {x : Addr} (e : ls[i]? = some x) (b : Bar x s s') (e' : s' x = some (.list ((g' i).map fr))) (hg : ∀ j, j ≠ i → g' j = g j) : Cells s' ls g' := fun j y ey => by
  by_cases c : j = i
  · rw [c] at ey ⊢; rw [e] at ey; cases ey; exact e'
  · rw [hg j c]
    exact b _ _ (fun z => c ((List.getElem?_inj (List.getElem?_eq_some_iff.mp ey).1 nd).mp (ey.trans (z ▸ e.symm)))) (h j y ey)
theorem Cells.ext {s s' : SH} {ls : List Addr} {g : Nat → List AT} (h : Cells s ls g) (x : Ext s s') : Cells s' ls g := fun i y e => x _ _ (h i y e)
structure VF (s : SH) (v fl : Addr) (ls : List Addr) : Prop where
  i : ∃ dd f o, s v = some (.inst 466 dd f) ∧ f 14 = some (.int ls.length) ∧ f 34 = some (.ref o) ∧ f 35 = some (.ref fl) ∧ IsIO s o ∧ f 1 = none ∧ NM f
  l : s fl = some (.list (ls.map .ref))
  z : ls.length ≤ 12
theorem VF.ver {s : SH} {v fl : Addr} {ls : List Addr} {g : Nat → List AT} (h : VF s v fl ls) (c : Cells s ls g) (ht : ∀ i, i < ls.length → ∀ p ∈ g i, IsT s p.1 p.2 ∧ p.2.Ok) (hz : ∀ i, i < ls.length → (g i).length ≤ 1000) : IsVer s v ⟨fl, ls.mapIdx fun i x => (x, g i)⟩ := by
  obtain ⟨⟨dd, f, o, e1, e2, e3, e4, e5, e6, e7⟩, l, z⟩ := h
  refine ⟨dd, f, o, e1, ⟨?_, fun p hp => ?_, ?_⟩, by rw [List.length_mapIdx]; exact e2, e3, e4, e5, e6, e7⟩
  · rw [l]
    congr 2
    apply List.ext_getElem? fun i => ?_
    rw [List.getElem?_map, List.getElem?_map, List.getElem?_mapIdx]
    cases ls[i]? <;> rfl
  · obtain ⟨i, hi⟩ := List.getElem?_of_mem hp
    rw [List.getElem?_mapIdx] at hi
    cases e : ls[i]? with
    | none => rw [e] at hi; cases hi
    | some x =>
      rw [e] at hi; cases hi
      have hl := (List.getElem?_eq_some_iff.mp e).1
      exact ⟨c i x e, fun p m => (ht i hl p m).1, fun p m => (ht i hl p m).2, hz i hl⟩
  · rw [List.length_mapIdx]; exact z
theorem VF.kp {C : List Nat} {s s' : SH} {v fl : Addr} {ls : List Addr} (h : VF s v fl ls) (x : Kp C s s') (b : s' fl = s fl) (h2 : C.contains 466 = false := by rfl) (h3 : C.contains 218 = false := by rfl) (h4 : C.contains 272 = false := by rfl) : VF s' v fl ls :=
  ⟨h.i.imp fun _ h => h.imp fun _ h => h.imp fun _ h => ⟨x _ _ h.1 h2, h.2.1, h.2.2.1, h.2.2.2.1, h.2.2.2.2.1.kp x h3 h4, h.2.2.2.2.2⟩, b.trans h.l, h.z⟩
section
variable {w : Wd} {H0 : Heap} (B : Base w H0) {d : Nat} {σ : SH} {Q : QV}
include B
theorem k_new_ver {n : Nat} (hn : n ≤ 12) {o : Addr} (hO : IsIO σ o) (q : ∀ a fl ls s, Ext σ s → ls.length = n → VF s a fl ls → Cells s ls (fun _ => []) → Fresh σ (fl :: ls) → (∃ dd f, s a = some (.inst 466 dd f) ∧ f 37 = some (.tup [.int 0, .int 1])) → Q (.ref a) s) :
    CallF (GG w H0) (d + 2) (.ref 466) [.int n, .ref o] Q σ := by
  refine clsF B 4 (ok_Version___init__ B) rfl rfl rfl fun a dd s n0 => ?_
  refine setN n0 fun s n1 _ => setN n1 fun s n2 _ => new_w fun fl s1 hfl e1 x1 => setN (n2.ext x1) fun s2 n3 b3 => ?_
  obtain ⟨ff, nf⟩ := n2.fresh hfl
  have e1 := b3 _ _ nf e1
  refine f_range1 (by omega) (by omega) ?_
  refine forR (fun j l' h' => ∀ Z : Loc → SH → Prop, (∀ (ls : List Addr) u s, ls.length = j → New σ s a (.inst 466 dd _) → s fl = some (.list (ls.map .ref)) → (∀ x ∈ ls, s x = some (.list []) ∧ σ x = none ∧ x ≠ fl) → ls.Nodup → Z [some (.ref a), some (.int n), some (.ref o), u] s) → Z l' h')
    (fun i => trivial) (fun l' h' i => ?_) (fun j l' h' R hj k i => ?_) fun Z z => z [] none s2 rfl n3 e1 (fun _ h => absurd h List.not_mem_nil) List.nodup_nil
  · apply i; intro ls u s hl nw el hx nd
    have hl : ls.length = n := hl
    refine setN nw fun s3 n4 b4 => setN n4 fun s4 n5 b5 => setN n5 fun s5 n6 b6 => ⟨rfl, q a fl ls s5 n6.2.1 hl ⟨⟨dd, _, o, n6.2.2, by rw [hl]; rfl, rfl, rfl, hO.ext n6.2.1, rfl, ?_⟩, ?_, by rw [hl]; exact hn⟩ (fun i x e => ?_) ⟨List.nodup_cons.mpr ⟨fun m => (hx _ m).2.2 rfl, nd⟩, fun x m => (List.mem_cons.mp m).elim (fun e => by rw [e]; exact ff) fun m => (hx x m).2.1⟩ ⟨dd, _, n6.2.2, rfl⟩⟩
    · iterate 6 refine NM.set ?_ rfl
      exact NM.nil
    · exact ((b4.trans b5).trans b6) _ _ nf el
    · have h := hx x (List.mem_of_getElem? e)
      exact ((b4.trans b5).trans b6) _ _ (fun z => by rw [z, nw.2.2] at h; cases h.1) h.1
  · apply i; intro ls u s hl nw el hx nd
    refine attr_inst nw.2.2 (v := .ref fl) rfl rfl rfl (me (m_app el) (new_w fun c s3 hc e3 x3 => app (x3 _ _ el) ?_ fun s4 g4 k4 => k _ _ fun Z z => z (ls ++ [c]) _ s4 ?_ ?_ (by rw [g4, List.map_append]; rfl) (fun y hy => ?_) ?_))
    · rw [List.length_map, hl]; omega
    · rw [List.length_append, hl]; rfl
    · exact ⟨nw.1, fun b ob e => k4 b ob (ne_of e ff) (x3 _ _ (nw.2.1 b ob e)), k4 _ _ nf.symm (x3 _ _ nw.2.2)⟩
    · have cf := ne_of el hc
      rcases List.mem_append.mp hy with m | m
      · exact ⟨k4 _ _ (hx y m).2.2 (x3 _ _ (hx y m).1), (hx y m).2⟩
      · rw [List.mem_singleton.mp m]; exact ⟨k4 _ _ cf.symm e3, nw.2.1.none hc, cf.symm⟩
    · exact List.nodup_append.mpr ⟨nd, List.nodup_cons.mpr ⟨List.not_mem_nil, List.nodup_nil⟩, fun y m z mz => by rw [List.mem_singleton.mp mz]; exact ne_of (hx y m).1 hc⟩
end
end Mine
namespace Mine
theorem mlook_nil (j : Int) : mlook [] j = none := rfl
theorem mlook_cons (k : Int) (v : SV) (m : List (Int × SV)) (j : Int) : mlook ((k, v) :: m) j = if k = j then some v else mlook m j := by
  unfold mlook
  by_cases c : k = j <;> simp [c]
theorem mlook_app (m : List (Int × SV)) (k : Int) (v : SV) (j : Int) : mlook (m ++ [(k, v)]) j = (mlook m j).or (if k = j then some v else none) := by
  induction m with
  | nil => rw [List.nil_append, mlook_cons, mlook_nil]; rfl
  | cons p m ih =>
    obtain ⟨k', v'⟩ := p
    rw [List.cons_append, mlook_cons, mlook_cons, ih]
    split <;> rfl
theorem any_look (m : List (Int × SV)) (k : Int) : (m.any fun p => decide (p.1 = k)) = (mlook m k).isSome := by
  induction m with
  | nil => rfl
  | cons p m ih =>
    obtain ⟨k', v'⟩ := p
    rw [List.any_cons, mlook_cons, ih]
    by_cases c : k' = k <;> simp [c]
theorem mlook_map (m : List (Int × SV)) (k : Int) (v : SV) (j : Int) : mlook (m.map fun p => if p.1 = k then (p.1, v) else p) j = if k = j then (mlook m j).map (fun _ => v) else mlook m j := by
  induction m with
  | nil => simp [mlook_nil]
  | cons p m ih =>
    obtain ⟨k', v'⟩ := p
    rw [List.map_cons]
    by_cases c : k' = k
    · rw [if_pos c, mlook_cons, mlook_cons, ih]
      by_cases c2 : k = j
      · simp [c, c2]
      · simp [c, c2]
    · rw [if_neg c, mlook_cons, mlook_cons, ih]
      by_cases c2 : k = j
      · have c3 : ¬ k' = j := fun q => c (q.trans c2.symm)
        rw [if_pos c2, if_neg c3, if_neg c3, if_pos c2]
      · simp [c2]
theorem mlook_mput (m : List (Int × SV)) (k : Int) (v : SV) (j : Int) : mlook (mput m k v) j = if k = j then some v else mlook m j := by
  unfold mput
  rw [any_look]
  by_cases h : (mlook m k).isSome = true
  · rw [if_pos h, mlook_map]
    by_cases c : k = j
    · subst c
      obtain ⟨x, hx⟩ := Option.isSome_iff_exists.mp h
      simp [hx]
    · rw [if_neg c, if_neg c]
  · rw [if_neg h, mlook_app]
    by_cases c : k = j
    · subst c
      have : mlook m k = none := by cases z : mlook m k with | none => rfl | some _ => rw [z] at h; simp at h
      simp [this]
    · simp [c]
theorem mput_len (m : List (Int × SV)) (k : Int) (v : SV) : (mput m k v).length ≤ m.length + 1 := by
  unfold mput; split <;> simp
theorem mput_new {m : List (Int × SV)} {k : Int} {v : SV} (h : mlook m k = none) : mput m k v = m ++ [(k, v)] := by
  unfold mput; rw [any_look, h]; rfl
theorem mlook_none {m : List (Int × SV)} {k : Int} (h : ∀ p ∈ m, p.1 ≠ k) : mlook m k = none := by
  induction m with
  | nil => rfl
  | cons p m ih => rw [mlook_cons, if_neg (h p List.mem_cons_self)]; exact ih fun q hq => h q (List.mem_cons_of_mem _ hq)
noncomputable def DS (s : SH) (xs : List Addr) (f : Nat → List (Int × SV)) : Prop := ∀ i x, xs[i]? = some x → ∃ ep, s x = some (.dict (f i) ep)
section
variable {s s' : SH} {xs : List Addr} {f f' : Nat → List (Int × SV)} (h : DS s xs f)
include h
theorem DS.kp {C : List Nat} (x : Kp C s s') (h1 : C.contains 1 = false := by rfl) : DS s' xs f := fun i y e => (h i y e).imp fun _ e => x _ _ e h1
theorem DS.oth {x : Addr} (b : Bar x s s') (n : x ∉ xs) : DS s' xs f := fun i y e => (h i y e).imp fun _ g => b _ _ (fun z => n (z ▸ List.mem_of_getElem? e)) g
theorem DS.set (nd : xs.Nodup) {i : Nat} {x : Addr} (e : xs[i]? = some x) (b : Bar x s s') {ep : Nat} (e' : s' x = some (.dict (f' i) ep)) (hf : ∀ j, j ≠ i → f' j = f j) : DS s' xs f' := fun j y ey => by
  by_cases c : j = i
  · rw [c] at ey ⊢; rw [e] at ey; cases ey; exact ⟨ep, e'⟩
  · rw [hf j c]
    exact (h j y ey).imp fun _ g => b _ _ (fun z => c ((List.getElem?_inj (List.getElem?_eq_some_iff.mp ey).1 nd).mp (ey.trans (z ▸ e.symm)))) g
end
theorem set_d {s : SH} {a : Addr} {m : List (Int × SV)} {ep : Nat} {k : Int} {v : SV} {Q : SH → Prop} (h : s a = some (.dict m ep)) (hz : m.length ≤ 1000) (q : ∀ ep' s', s' a = some (.dict (mput m k v) ep') → Bar a s s' → Q s') : setSubW (.ref a) (.int k) v Q s :=
  .inr ⟨m, ep, h, Nat.le_trans hz (by decide), fun ep' => q ep' _ (upd_same _ _ _) (Bar.upd _ _ _)⟩
theorem in_dd {s : SH} {a : Addr} {m : List (Int × SV)} {ep : Nat} {k : Int} {Q : QV} (h : s a = some (.dict m ep)) (g : Q (.bool (mlook m k).isSome) s) : cmpW .In (.int k) (.ref a) Q s := .inl ⟨m, ep, h, g⟩
theorem nin_dd {s : SH} {a : Addr} {m : List (Int × SV)} {ep : Nat} {k : Int} {Q : QV} (h : s a = some (.dict m ep)) (g : Q (.bool (!(mlook m k).isSome)) s) : cmpW .NotIn (.int k) (.ref a) Q s := .inl ⟨m, ep, h, g⟩
noncomputable def MakerAt (σ : SH) (mk v dl al : Addr) : Prop := ∃ dd f, σ mk = some (.inst 522 dd f) ∧ f 39 = some (.ref v) ∧ f 31 = some (.ref dl) ∧ f 32 = some (.ref al) ∧ f 40 = some (.bool false) ∧ NM f
section
variable {w : Wd} {H0 : Heap} {σ σ' : SH} {Q : QV} {mk v dl al : Addr} (h : MakerAt σ mk v dl al)
include h
theorem MakerAt.kp {C : List Nat} (x : Kp C σ σ') (h1 : C.contains 522 = false := by rfl) : MakerAt σ' mk v dl al := h.imp fun _ h => h.imp fun _ h => ⟨x _ _ h.1 h1, h.2⟩
theorem MakerAt.base (q : Q (.ref v) σ) : attrW (GG w H0) (.ref mk) 39 Q σ := by obtain ⟨_, _, e, e1, _⟩ := h; exact attr_inst e e1 rfl rfl q
theorem MakerAt.del (q : Q (.ref dl) σ) : attrW (GG w H0) (.ref mk) 31 Q σ := by obtain ⟨_, _, e, _, e1, _⟩ := h; exact attr_inst e e1 rfl rfl q
theorem MakerAt.add (q : Q (.ref al) σ) : attrW (GG w H0) (.ref mk) 32 Q σ := by obtain ⟨_, _, e, _, _, e1, _⟩ := h; exact attr_inst e e1 rfl rfl q
theorem MakerAt.drop (q : Q (.bool false) σ) : attrW (GG w H0) (.ref mk) 40 Q σ := by obtain ⟨_, _, e, _, _, _, e1, _⟩ := h; exact attr_inst e e1 rfl rfl q
theorem MakerAt.m (i : Nat) {x : Nat} {f : Value} (e : (GG w H0).meths[i]? = some (522, 57 + x, f)) : MRes (GG w H0) (.ref mk) (57 + x) f σ := by obtain ⟨_, _, k, _, _, _, _, n⟩ := h; exact mth i e k (n x)
end
structure Mk (s : SH) (mk v dl al : Addr) (ds as : List Addr) (n : Nat) : Prop where
  i : MakerAt s mk v dl al
  d : s dl = some (.list (ds.map .ref))
  a : s al = some (.list (as.map .ref))
  ld : ds.length = n
  la : as.length = n
  nd : ds.Nodup
  na : as.Nodup
  da : ∀ x ∈ ds, x ∉ as
  z : n ≤ 12
section
variable {C : List Nat} {s s' : SH} {mk v dl al : Addr} {ds as : List Addr} {n : Nat} (h : Mk s mk v dl al ds as n) {Q : QV}
include h
theorem Mk.kp (x : Kp C s s') (h0 : C.contains 0 = false := by rfl) (h1 : C.contains 522 = false := by rfl) : Mk s' mk v dl al ds as n := ⟨h.i.kp x h1, x _ _ h.d h0, x _ _ h.a h0, h.ld, h.la, h.nd, h.na, h.da, h.z⟩
theorem Mk.at {i : Nat} (hi : i < n) : ∃ x y, ds[i]? = some x ∧ as[i]? = some y := ⟨_, _, List.getElem?_eq_getElem (h.ld.symm ▸ hi), List.getElem?_eq_getElem (h.la.symm ▸ hi)⟩
theorem Mk.sd {i : Nat} {x : Addr} (e : ds[i]? = some x) (q : Q (.ref x) s) : subW (.ref dl) (.int i) Q s := sub_map h.d (h.ld ▸ Nat.le_trans h.z (by decide)) e q
theorem Mk.sa {i : Nat} {x : Addr} (e : as[i]? = some x) (q : Q (.ref x) s) : subW (.ref al) (.int i) Q s := sub_map h.a (h.la ▸ Nat.le_trans h.z (by decide)) e q
end
noncomputable def addSV (x : AT) : SV := .tup [.int x.2.lev, .ref x.1]
noncomputable def delSV (x : Nat × Nat) : SV := .tup [.int x.1, .int x.2]
noncomputable def delM (D : List (Nat × Nat)) (i : Nat) : List (Int × SV) := D.foldl (fun m y => if y.1 = i then mput m y.2 (.bool true) else m) []
noncomputable def addM (A : List AT) (i : Nat) : List (Int × SV) := (A.filter fun x => decide (x.2.lev = i)).map fun x => ((x.2.n : Int), .ref x.1)
theorem delM_one (D : List (Nat × Nat)) (y : Nat × Nat) (i : Nat) : delM (D ++ [y]) i = if y.1 = i then mput (delM D i) y.2 (.bool true) else delM D i := by unfold delM; rw [List.foldl_append]; rfl
theorem delM_ind {P : List (Nat × Nat) → Prop} (h0 : P []) (h1 : ∀ D y, P D → P (D ++ [y])) (D : List (Nat × Nat)) : P D := by
  have : P D.reverse.reverse := by
    induction D.reverse with
    | nil => exact h0
    | cons y l ih => rw [List.reverse_cons]; exact h1 _ _ ih
  rwa [List.reverse_reverse] at this
theorem delM_len (i : Nat) : ∀ D, (delM D i).length ≤ D.length := delM_ind (Nat.le_refl _) fun D y ih => by
  rw [delM_one, List.length_append]
  split
  · exact Nat.le_trans (mput_len _ _ _) (Nat.succ_le_succ ih)
  · exact Nat.le_succ_of_le ih
theorem delM_is (i k : Nat) : ∀ D : List (Nat × Nat), (mlook (delM D i) k).isSome = decide ((i, k) ∈ D) := delM_ind rfl fun D y ih => by
  have e : ((i, k) ∈ D ++ [y]) ↔ ((i, k) ∈ D ∨ (y.1 = i ∧ y.2 = k)) := by rw [List.mem_append, List.mem_singleton]; constructor <;> rintro (h | h) <;> first | exact .inl h | (right; cases h; exact ⟨rfl, rfl⟩) | (right; rw [← h.1, ← h.2])
  rw [delM_one, decide_eq_decide.mpr e, Bool.decide_or, ← ih]
  by_cases c : y.1 = i
  · rw [if_pos c, mlook_mput]
    by_cases c2 : y.2 = k
    · rw [if_pos (by rw [c2]), decide_eq_true ⟨c, c2⟩, Bool.or_true]; rfl
    · rw [if_neg (fun z : (y.2 : Int) = k => c2 (Int.ofNat.inj z)), decide_eq_false (fun z => c2 z.2), Bool.or_false]
  · rw [if_neg c, decide_eq_false (fun z => c z.1), Bool.or_false]
theorem addM_one (A : List AT) (x : AT) (i : Nat) : addM (A ++ [x]) i = if x.2.lev = i then addM A i ++ [((x.2.n : Int), .ref x.1)] else addM A i := by
  unfold addM; rw [List.filter_append, List.map_append]
  by_cases c : x.2.lev = i <;> simp [c]
theorem addM_len (A : List AT) (i : Nat) : (addM A i).length ≤ A.length := by unfold addM; rw [List.length_map]; exact List.length_filter_le _ _
theorem addM_new {A : List AT} {x : AT} (h : ∀ y ∈ A, y.2.n ≠ x.2.n) (i : Nat) : mlook (addM A i) x.2.n = none := mlook_none fun p hp => by
  obtain ⟨y, hy, e⟩ := List.mem_map.mp hp
  rw [← e]
  exact fun z => h y (List.mem_filter.mp hy).1 (Int.ofNat.inj z)
section
variable {w : Wd} {H0 : Heap} (B : Base w H0) {d : Nat} {σ : SH} {Q : QV}
include B
theorem k_new_maker {v : Addr} {V : Ver} (hV : IsVer σ v V) (q : ∀ mk dl al ds as s, Ext σ s → Mk s mk v dl al ds as V.lv.length → DS s ds (fun _ => []) → DS s as (fun _ => []) → (∀ x, x ∈ ds ∨ x ∈ as → σ x = none) → Q (.ref mk) s) :
    CallF (GG w H0) (d + 2) (.ref 522) [.ref v] Q σ := by
  have z12 := hV.L.z
  refine clsF B 5 (ok_VersionMaker___init__ B) rfl rfl rfl fun a dd s n0 => ?_
  refine setN n0 fun s n1 _ => setN n1 fun s n2 _ => new_w fun dl s1 hdl e1 x1 => setN (n2.ext x1) fun s2 n3 b3 => new_w fun al s3 hal e3 x3 => setN (n3.ext x3) fun s4 n4 b4 => ?_
  obtain ⟨fd, nad⟩ := n2.fresh hdl
  obtain ⟨fa, naa⟩ := n3.fresh hal
  have e1 := b3 _ _ nad e1
  have dla := ne_of e1 hal
  have e1 := b4 _ _ nad (x3 _ _ e1)
  have e3 := b4 _ _ naa e3
  refine (hV.ext n4.2.1).num (f_range1 (by omega) (by omega) ?_)
  refine forR (fun j l' h' => ∀ Z : Loc → SH → Prop, (∀ (ds as : List Addr) u s, ds.length = j → as.length = ds.length → New σ s a (.inst 522 dd _) → s dl = some (.list (ds.map .ref)) → s al = some (.list (as.map .ref)) →
      (∀ x ∈ ds, s x = some (.dict [] 0) ∧ σ x = none) → (∀ x ∈ as, s x = some (.dict [] 0) ∧ σ x = none) → ds.Nodup → as.Nodup → (∀ x ∈ ds, x ∉ as) → Z [some (.ref a), some (.ref v), u] s) → Z l' h')
    (fun i => trivial) (fun l' h' i => ?_) (fun j l' h' R hj k i => ?_) fun Z z => z [] [] none s4 rfl rfl n4 e1 e3 (fun _ h => absurd h List.not_mem_nil) (fun _ h => absurd h List.not_mem_nil) List.nodup_nil List.nodup_nil fun _ h => absurd h List.not_mem_nil
  · apply i; intro ds as u s hl hla nw ed ea hd ha nd na da
    have hl : ds.length = V.lv.length := hl
    refine ⟨rfl, q a dl al ds as s nw.2.1 ⟨⟨dd, _, nw.2.2, rfl, rfl, rfl, rfl, ?_⟩, ed, ea, hl, hla.trans hl, nd, na, da, z12⟩ (fun i x e => ⟨0, (hd x (List.mem_of_getElem? e)).1⟩) (fun i x e => ⟨0, (ha x (List.mem_of_getElem? e)).1⟩) fun x m => m.elim (fun m => (hd x m).2) fun m => (ha x m).2⟩
    iterate 4 refine NM.set ?_ rfl
    exact NM.nil
  · apply i; intro ds as u s hl hla nw ed ea hd ha nd na da
    refine attr_inst nw.2.2 (v := .ref dl) rfl rfl rfl (me (m_app ed) (new_w fun x s1 hx g1 x1 => app (x1 _ _ ed) ?_ fun s2 g2 b2 => ?_))
    · rw [List.length_map, hl]; omega
    have k2 := Bar.kp b2 (x1 _ _ ed)
    have D2 : ∀ y, s y = some (.dict [] 0) → s2 y = some (.dict [] 0) := fun y e => k2 _ _ (x1 _ _ e) rfl
    have ea2 := b2 _ _ dla.symm (x1 _ _ ea)
    have nw2 : New σ s2 a _ := ⟨nw.1, fun b ob e => b2 b ob (ne_of e fd) (x1 _ _ (nw.2.1 b ob e)), k2 _ _ (x1 _ _ nw.2.2) rfl⟩
    refine attr_inst nw2.2.2 (v := .ref al) rfl rfl rfl (me (m_app ea2) (new_w fun y s3 hy g3 x3 => app (x3 _ _ ea2) ?_ fun s4 g4 b4 => ?_))
    · rw [List.length_map, hla, hl]; omega
    have k4 := Bar.kp b4 (x3 _ _ ea2)
    have D4 : ∀ y, s2 y = some (.dict [] 0) → s4 y = some (.dict [] 0) := fun y e => k4 _ _ (x3 _ _ e) rfl
    have g1 := k2 _ _ g1 rfl
    have xy := ne_of g1 hy
    refine k _ _ fun Z z => z (ds ++ [x]) (as ++ [y]) _ s4 ?_ ?_ ⟨nw.1, fun b ob e => b4 b ob (ne_of e fa) (x3 _ _ (nw2.2.1 b ob e)), k4 _ _ (x3 _ _ nw2.2.2) rfl⟩ ?_ ?_ (fun t ht => ?_) (fun t ht => ?_) ?_ ?_ fun t ht ha' => ?_
    · rw [List.length_append, hl]; rfl
    · rw [List.length_append, List.length_append, hla]; rfl
    · rw [b4 _ _ dla (x3 _ _ g2), List.map_append]; rfl
    · rw [g4, List.map_append]; rfl
    · rcases List.mem_append.mp ht with m | m
      · exact ⟨D4 _ (D2 _ (hd t m).1), (hd t m).2⟩
      · rw [List.mem_singleton.mp m]; exact ⟨D4 _ g1, nw.2.1.none hx⟩
    · rcases List.mem_append.mp ht with m | m
      · exact ⟨D4 _ (D2 _ (ha t m).1), (ha t m).2⟩
      · rw [List.mem_singleton.mp m]; exact ⟨k4 _ _ g3 rfl, nw2.2.1.none hy⟩
    · exact List.nodup_append.mpr ⟨nd, List.nodup_cons.mpr ⟨List.not_mem_nil, List.nodup_nil⟩, fun t m z mz => by rw [List.mem_singleton.mp mz]; exact ne_of (hd t m).1 hx⟩
    · exact List.nodup_append.mpr ⟨na, List.nodup_cons.mpr ⟨List.not_mem_nil, List.nodup_nil⟩, fun t m z mz => by rw [List.mem_singleton.mp mz]; exact ne_of (D2 _ (ha t m).1) hy⟩
    · rcases List.mem_append.mp ht with m | m <;> rcases List.mem_append.mp ha' with m' | m'
      · exact da t m m'
      · exact ne_of (D2 _ (hd t m).1) hy (List.mem_singleton.mp m')
      · exact ne_of (ha t m').1 hx (List.mem_singleton.mp m)
      · exact xy ((List.mem_singleton.mp m).symm.trans (List.mem_singleton.mp m'))
theorem k_within {mk v dl al : Addr} {V : Ver} (hM : MakerAt σ mk v dl al) (hV : IsVer σ v V) {i : Nat} (hi : i < V.lv.length) (q : Q .none σ) : CallF (GG w H0) (d + 1) (.ref 491) [.ref mk, .int i] Q σ := by
  refine fnC B (ok_VersionMaker_within B) rfl (hM.base (hV.num ?_))
  exact d0 (fun z => Nat.not_le.mpr hi (Int.ofNat_le.mp z)) q
end
end Mine
namespace Mine
noncomputable def Oth (ds as : List Addr) (σ s : SH) : Prop := ∀ b o, b ∉ ds → b ∉ as → σ b = some o → s b = some o
theorem Oth.kp {ds as : List Addr} {σ s : SH} {f g : Nat → List (Int × SV)} (x : Oth ds as σ s) (hd : DS σ ds f) (ha : DS σ as g) : Kp [1] σ s := fun b o e k => by
  have no : ∀ {xs : List Addr} {f : Nat → List (Int × SV)}, DS σ xs f → b ∉ xs := fun h m => by
    obtain ⟨i, hi⟩ := List.getElem?_of_mem m
    obtain ⟨ep, g⟩ := h i b hi
    rw [g] at e; cases e; cases k
  exact x b o (no hd) (no ha) e
theorem Oth.bar {ds as : List Addr} {σ s t : SH} {x : Addr} (h : Oth ds as σ s) (m : x ∈ ds ∨ x ∈ as) (b : Bar x s t) : Oth ds as σ t := fun c o h1 h2 e => b c o (fun z => by rw [z] at h1 h2; exact m.elim h1 h2) (h c o h1 h2 e)
section
variable {w : Wd} {H0 : Heap} (B : Base w H0) {d : Nat} {σ : SH} {Q : QV}
include B
theorem k_apply {mk v dl al e el ea ec : Addr} {ds as : List Addr} {V : Ver} {D : List (Nat × Nat)} {A : List AT} (M : Mk σ mk v dl al ds as V.lv.length) (hV : IsVer σ v V) (hd : DS σ ds fun _ => []) (ha : DS σ as fun _ => []) (hE : EditAt σ e el ea ec)
    (hD : σ el = some (.list (D.map delSV))) (hA : σ ea = some (.list (A.map addSV))) (hT : ∀ x ∈ A, IsT σ x.1 x.2) (lA : ∀ x ∈ A, x.2.lev < V.lv.length) (lD : ∀ y ∈ D, y.1 < V.lv.length) (nA : (A.map fun x => x.2.n).Nodup) (nAD : ∀ x ∈ A, ∀ y ∈ D, x.2.n ≠ y.2) (zA : A.length ≤ 100) (zD : D.length ≤ 100)
    (q : ∀ s, Oth ds as σ s → DS s ds (delM D) → DS s as (addM A) → Q .none s) : CallF (GG w H0) (d + 2) (.ref 498) [.ref mk, .ref e] Q σ := by
  refine fnC B (ok_VersionMaker_apply B) rfl (hE.del (itl hD ?_))
  refine for1 (fun rest l' h' => ∀ Z : Loc → SH → Prop, (∀ u2 u3 u4, (∀ y ∈ rest, y.1 < V.lv.length) → Z [some (.ref mk), some (.ref e), u2, u3, u4] σ) → Z l' h') (fun i => ?_) (fun l' h' i => ?_) (fun y rest l' h' R k i => ?_) fun Z z => z none none none lD
  · apply i; intro _ _ _ _; exact hD
  rotate_left
  · apply i; intro u2 u3 u4 m
    exact me (M.i.m 9 (x := 7) (by kernel_rfl)) (k_within B M.i hV (m y List.mem_cons_self) (k _ _ fun Z z => z _ _ _ fun y hy => m y (List.mem_cons_of_mem _ hy)))
  apply i; intro u2 u3 u4 _
  refine hE.add (itl hA ?_)
  refine for1 (fun rest l' h' => ∀ Z : Loc → SH → Prop, (∀ u2 u3 u4, (∀ y ∈ rest, y.2.lev < V.lv.length) → Z [some (.ref mk), some (.ref e), u2, u3, u4] σ) → Z l' h') (fun i => ?_) (fun l' h' i => ?_) (fun y rest l' h' R k i => ?_) fun Z z => z u2 u3 u4 lA
  · apply i; intro _ _ _ _; exact hA
  rotate_left
  · apply i; intro u2 u3 u4 m
    exact me (M.i.m 9 (x := 7) (by kernel_rfl)) (k_within B M.i hV (m y List.mem_cons_self) (k _ _ fun Z z => z _ _ _ fun y hy => m y (List.mem_cons_of_mem _ hy)))
  apply i; intro u2 u3 u4 _
  refine hE.rst (hE.del (itl hD ?_))
  refine for1 (fun rest l' h' => ∀ Z : Loc → SH → Prop, (∀ dn u2 u3 u4 s, D = dn ++ rest → Oth ds as σ s → DS s ds (delM dn) → DS s as (fun _ => []) → Z [some (.ref mk), some (.ref e), u2, u3, u4] s) → Z l' h') (fun i => ?_) (fun l' h' i => ?_) (fun y rest l' h' R k i => ?_) fun Z z => z [] u2 u3 u4 σ rfl (fun _ _ _ _ e => e) hd ha
  · apply i; intro _ _ _ _ s _ o _ _; exact o.kp hd ha _ _ hD rfl
  rotate_left
  · apply i; intro dn u2 u3 u4 s e1 o d1 a1
    have kp := o.kp hd ha
    have M1 := M.kp kp
    obtain ⟨x, y', hx, hy⟩ := M.at (lD y (by rw [e1]; exact List.mem_append_right _ List.mem_cons_self))
    obtain ⟨ep, hx1⟩ := d1 _ _ hx
    have lz : (delM dn y.1).length ≤ 1000 := by
      have := delM_len y.1 dn
      rw [e1, List.length_append] at zD
      omega
    refine M1.i.del (M1.sd hx (set_d hx1 lz fun ep' s2 g2 b2 => ?_))
    have M2 := M1.kp (b2.kp hx1)
    have a2 := a1.oth b2 (M.da x (List.mem_of_getElem? hx))
    obtain ⟨ep2, hy2⟩ := a2 _ _ hy
    refine M2.i.add (M2.sa hy (in_dd hy2 (k _ _ fun Z z => z (dn ++ [y]) _ _ _ s2 (by rw [List.append_assoc]; exact e1) (o.bar (.inl (List.mem_of_getElem? hx)) b2) (d1.set M.nd hx b2 (f' := delM (dn ++ [y])) (ep := ep') (by rw [delM_one, if_pos rfl]; exact g2) fun j hj => by rw [delM_one, if_neg hj.symm]) a2)))
  apply i; intro dn u2 u3 u4 s e1 o d1 a1
  rw [List.append_nil] at e1
  rw [← e1] at d1
  have kp := o.kp hd ha
  refine (hE.kp kp).add (itl (kp _ _ hA rfl) ?_)
  refine for1 (fun rest l' h' => ∀ Z : Loc → SH → Prop, (∀ an u2 u3 u4 s, A = an ++ rest → Oth ds as σ s → DS s ds (delM D) → DS s as (addM an) → Z [some (.ref mk), some (.ref e), u2, u3, u4] s) → Z l' h') (fun i => ?_) (fun l' h' i => ?_) (fun y rest l' h' R k i => ?_) fun Z z => z [] u2 u3 u4 s rfl o d1 a1
  · apply i; intro _ _ _ _ s _ o _ _; exact o.kp hd ha _ _ hA rfl
  · apply i; intro an _ _ _ s e2 o d2 a2
    rw [List.append_nil] at e2
    exact q s o d2 (by rw [e2]; exact a2)
  · apply i; intro an u2 u3 u4 s e2 o d2 a2
    have kp := o.kp hd ha
    have M1 := M.kp kp
    have ym : y ∈ A := by rw [e2]; exact List.mem_append_right _ List.mem_cons_self
    have ty := hT y ym
    obtain ⟨x', x, hx', hx⟩ := M.at (lA y ym)
    obtain ⟨ep, hx1⟩ := a2 _ _ hx
    have lz : (addM an y.2.lev).length ≤ 1000 := by
      have := addM_len an y.2.lev
      rw [e2, List.length_append] at zA
      omega
    have nw : ∀ z ∈ an, z.2.n ≠ y.2.n := fun z hz e => by
      rw [e2, List.map_append, List.map_cons] at nA
      exact (List.nodup_append.mp nA).2.2 _ (List.mem_map.mpr ⟨z, hz, rfl⟩) _ List.mem_cons_self e
    refine M1.i.add (M1.sa hx ((ty.kp kp).num (set_d hx1 lz fun ep' s2 g2 b2 => ?_)))
    rw [mput_new (addM_new nw _)] at g2
    have nd : x ∉ ds := fun m => M.da x m (List.mem_of_getElem? hx)
    have d3 := d2.oth b2 nd
    obtain ⟨ep2, hy2⟩ := d3 _ _ hx'
    have o2 := o.bar (.inr (List.mem_of_getElem? hx)) b2
    have kp2 := o2.kp hd ha
    have M2 := M.kp kp2
    refine (ty.kp kp2).num (M2.i.del (M2.sd hx' (in_dd hy2 ?_)))
    refine bc (delM_is y.2.lev y.2.n D) (fun m => absurd rfl (nAD y ym _ m)) fun _ => ?_
    exact k _ _ fun Z z => z (an ++ [y]) _ _ _ s2 (by rw [List.append_assoc]; exact e2) o2 d3 (a2.set M.na hx b2 (f' := addM (an ++ [y])) (ep := ep') (by rw [addM_one, if_pos rfl]; exact g2) fun j hj => by rw [addM_one, if_neg hj.symm])
end
end Mine
namespace Mine
noncomputable def nxt (lev : Nat) (x y : Tab) : Prop := if lev = 0 then x.n < y.n else x.hi.u < y.lo.u
noncomputable def Srt (lev : Nat) (r : List AT) : Prop := r.Pairwise fun a b => nxt lev a.2 b.2
theorem nxt_trans {lev : Nat} {x y z : Tab} (hy : y.Ok) (h : nxt lev x y) (k : nxt lev y z) : nxt lev x z := by
  unfold nxt at *
  split at h <;> rename_i c
  · rw [if_pos c] at *; exact Nat.lt_trans h k
  · rw [if_neg c] at *; exact Nat.lt_trans (Nat.lt_of_lt_of_le h hy.lohi) k
theorem nxt_asym {lev : Nat} {x y : Tab} (hx : x.Ok) (hy : y.Ok) (h : nxt lev x y) : ¬ nxt lev y x := by
  unfold nxt at *
  split at h <;> rename_i c
  · rw [if_pos c]; exact Nat.lt_asymm h
  · rw [if_neg c]; exact fun k => Nat.lt_irrefl _ (Nat.lt_of_lt_of_le (Nat.lt_trans (Nat.lt_of_lt_of_le h hy.lohi) k) hx.lohi)
theorem nxt_p {lev : Nat} {x y : Tab} (c : lev ≠ 0) : nxt lev x y = (x.hi.u < y.lo.u) := if_neg c
theorem nxt_z {lev : Nat} {x y : Tab} (c : lev = 0) : nxt lev x y = (x.n < y.n) := if_pos c
theorem Srt.at {lev : Nat} {r : List AT} (h : Srt lev r) {i j : Nat} {a b : AT} (ea : r[i]? = some a) (eb : r[j]? = some b) (hij : i < j) : nxt lev a.2 b.2 := by
  obtain ⟨hi, rfl⟩ := List.getElem?_eq_some_iff.mp ea
  obtain ⟨hj, rfl⟩ := List.getElem?_eq_some_iff.mp eb
  exact List.pairwise_iff_getElem.mp h i j hi hj hij
section
variable {w : Wd} {H0 : Heap} (B : Base w H0) {d : Nat} {σ : SH} {Q : QV}
include B
theorem k_before {mk v dl al : Addr} {V : Ver} (hM : MakerAt σ mk v dl al) (hV : IsVer σ v V) {lev : Nat} {a b : AT} (ha : IsT σ a.1 a.2) (hb : IsT σ b.1 b.2) (hx : a.2.Ok) (hy : b.2.Ok) (q1 : nxt lev a.2 b.2 → Q (.bool true) σ) (q0 : nxt lev b.2 a.2 → Q (.bool false) σ) (h : nxt lev a.2 b.2 ∨ nxt lev b.2 a.2) :
    CallF (GG w H0) (d + 6) (.ref 505) [.ref mk, .int lev, .ref a.1, .ref b.1] Q σ := by
  refine fnC B (ok_VersionMaker_before B) rfl ?_
  refine dc (fun c => ?_) fun c => ?_
  · have c := Int.ofNat_lt.mp c
    rw [nxt_p (Nat.ne_of_gt c)] at h q1 q0
    rw [nxt_p (Nat.ne_of_gt c)] at h
    refine hM.base (hV.ord fun o hO => me hO.m (ha.lo (hb.lo (k_icmp B hO hx.loO hy.loO fun z hz => ?_))))
    rcases h with h | h
    · have lt := hz.1.mpr (rank_u hx.loO hy.loO (Nat.lt_of_le_of_lt hx.lohi h))
      refine ip (c := (z != 0) = true) (by simp; omega) ?_
      show Q (.bool (decide (z < 0))) σ
      rw [decide_eq_true lt]; exact q1 h
    · have lt := hz.2.mpr (rank_u hy.loO hx.loO (Nat.lt_of_le_of_lt hy.lohi h))
      refine ip (c := (z != 0) = true) (by simp; omega) ?_
      show Q (.bool (decide (z < 0))) σ
      rw [decide_eq_false (Int.lt_asymm lt)]; exact q0 h
  · have c : lev = 0 := Nat.eq_zero_of_not_pos fun z => c (Int.ofNat_lt.mpr z)
    rw [nxt_z c] at h q1 q0
    rw [nxt_z c] at h
    refine ha.num (hb.num ?_)
    show Q (.bool (decide ((a.2.n : Int) < b.2.n))) σ
    rcases h with h | h
    · rw [decide_eq_true (Int.ofNat_lt.mpr h)]; exact q1 h
    · rw [decide_eq_false fun z => Nat.lt_asymm h (Int.ofNat_lt.mp z)]; exact q0 h
theorem k_place {mk v dl al l : Addr} {V : Ver} (hM : MakerAt σ mk v dl al) (hV : IsVer σ v V) {lev : Nat} {a : AT} {r : List AT} (hl : σ l = some (.list (r.map fr))) (hr : ∀ x ∈ r, IsT σ x.1 x.2 ∧ x.2.Ok) (hz : r.length ≤ 1000) (ha : IsT σ a.1 a.2) (oa : a.2.Ok) (hs : Srt lev r) (tot : ∀ x ∈ r, nxt lev x.2 a.2 ∨ nxt lev a.2 x.2)
    (q : ∀ r' s, r'.Perm (a :: r) → Srt lev r' → s l = some (.list (r'.map fr)) → Bar l σ s → Q .none s) : CallF (GG w H0) (d + 7) (.ref 512) [.ref mk, .int lev, .ref l, .ref a.1] Q σ := by
  refine fnC B (ok_VersionMaker_place B) rfl (len_map hl hz ?_)
  refine wh1 (fun m l' h' => ∀ Z : Loc → SH → Prop, (∀ (lo hi : Nat) v, m = hi - lo → lo ≤ hi → hi ≤ r.length → (∀ i x, r[i]? = some x → (i < lo → nxt lev x.2 a.2) ∧ (hi ≤ i → nxt lev a.2 x.2)) → Z [some (.ref mk), some (.int lev), some (.ref l), some (.ref a.1), some (.int lo), some (.int hi), v] σ) → Z l' h') (fun m l' h' R k i => ?_) (m := r.length)
    fun Z z => z 0 r.length none rfl (Nat.zero_le _) (Nat.le_refl _) fun i x e => ⟨fun h => absurd h (Nat.not_lt_zero _), fun h => absurd (List.getElem?_eq_some_iff.mp e).1 (Nat.not_lt.mpr h)⟩
  apply i; intro lo hi u e p1 p2 H
  refine dc (fun c => ?_) fun c => ?_
  · have c := Int.ofNat_lt.mp c
    obtain ⟨g1, g2⟩ : lo ≤ (lo + hi) / 2 ∧ (lo + hi) / 2 < hi := by omega
    have hp := List.getElem?_eq_getElem (l := r) (i := (lo + hi) / 2) (by omega)
    generalize r[(lo + hi) / 2]'_ = x at hp
    have hx := hr x (List.mem_of_getElem? hp)
    refine me (hM.m 11 (x := 9) (by kernel_rfl)) (sub_map hl (Nat.le_trans hz (by decide)) hp (k_before B hM hV hx.1 ha hx.2 oa (fun h => ?_) (fun h => ?_) (tot x (List.mem_of_getElem? hp))))
    · refine k (hi - ((lo + hi) / 2 + 1)) _ _ (by omega) fun Z z => z ((lo + hi) / 2 + 1) hi _ rfl g2 p2 fun i y ey => ⟨fun hi' => ?_, (H i y ey).2⟩
      rcases Nat.lt_or_eq_of_le (Nat.le_of_lt_succ hi') with g | g
      · exact nxt_trans hx.2 (hs.at ey hp g) h
      · rw [g, hp] at ey; cases ey; exact h
    · refine k ((lo + hi) / 2 - lo) _ _ (by omega) fun Z z => z lo ((lo + hi) / 2) _ rfl g1 (by omega) fun i y ey => ⟨(H i y ey).1, fun hi' => ?_⟩
      rcases Nat.lt_or_eq_of_le hi' with g | g
      · exact nxt_trans hx.2 h (hs.at hp ey g)
      · rw [← g, hp] at ey; cases ey; exact h
  · have c : lo = hi := Nat.le_antisymm p1 (Nat.not_lt.mp fun z => c (Int.ofNat_lt.mpr z))
    refine ⟨_, ⟨l, rfl, .inr (.inl ⟨_, hl, List.mem_of_getElem? (i := 1) (by kernel_rfl)⟩)⟩, f_insert hl (by rw [List.length_map]; exact Nat.le_trans hz (by decide)) (Int.natCast_nonneg _) (by rw [List.length_map]; omega) ?_⟩
    refine q (r.take lo ++ a :: r.drop lo) _ (List.perm_middle.trans (by rw [List.take_append_drop])) ?_ (by rw [upd_same, Int.toNat_natCast, List.map_append, List.map_cons, List.map_take, List.map_drop]; rfl) (Bar.upd _ _ _)
    have lt : ∀ x ∈ r.take lo, nxt lev x.2 a.2 := fun x m => by
      obtain ⟨i, hi'⟩ := List.getElem?_of_mem m
      rw [List.getElem?_take] at hi'
      split at hi'
      · exact (H i x hi').1 ‹_›
      · cases hi'
    have gt : ∀ x ∈ r.drop lo, nxt lev a.2 x.2 := fun x m => by
      obtain ⟨i, hi'⟩ := List.getElem?_of_mem m
      rw [List.getElem?_drop] at hi'
      exact (H _ x hi').2 (by omega)
    refine List.pairwise_append.mpr ⟨hs.sublist (List.take_sublist _ _), List.pairwise_cons.mpr ⟨gt, hs.sublist (List.drop_sublist _ _)⟩, fun x hx y hy => ?_⟩
    rcases List.mem_cons.mp hy with e | m
    · rw [e]; exact lt x hx
    · exact nxt_trans oa (lt x hx) (gt y m)
end
end Mine
namespace Mine
theorem sub_p {α : Type} {f : α → SV} {Q : QV} {σ : SH} {a : Addr} {l : List α} {k : Nat} {x : Int} {v : α} (h : σ a = some (.list (l.map f))) (hz : l.length ≤ 1000) (e : l[k]? = some v) (hx : x = k) (q : Q (f v) σ) : subW (.ref a) (.int x) Q σ := by
  rw [hx]; exact sub_map h (Nat.le_trans hz (by decide)) e q
theorem Tab.Ok.rlh {t : Tab} (h : t.Ok) : rank t.lo ≤ rank t.hi := by
  obtain ⟨l, e⟩ := h.loE
  have m := h.hiM
  have p := h.up
  rw [e] at m p
  rcases List.mem_cons.mp m with g | g
  · rw [g]; exact Int.le_refl _
  · exact Int.le_of_lt (rank_u h.loO h.hiO ((List.pairwise_cons.mp p).1 _ g))
section
variable {w : Wd} {H0 : Heap} (B : Base w H0) {d : Nat} {σ : SH} {Q : QV}
include B
theorem k_check {v : Addr} {V : Ver} (hV : IsVer σ v V) (nd : (numsOf V.lv).Nodup) (hz : (numsOf V.lv).length < 64) (hs : ∀ i p, V.lv[i]? = some p → Srt i p.2) (q : ∀ s, Ext σ s → Q .none s) : CallF (GG w H0) (d + 6) (.ref 463) [.ref v] Q σ := by
  have z12 := hV.L.z
  refine fnC B (ok_Version_check B) rfl (me (hV.m 7 (x := 6) (by kernel_rfl)) (k_numbers B hV hz fun L ns s x e pm _ => ?_))
  have hn := pm.nodup_iff.mpr nd
  have zn : ns.length < 64 := pm.length_eq ▸ hz
  refine len_map e (Nat.le_of_lt (Nat.lt_trans zn (by decide))) (f_range2 (by decide) (by decide) (by omega) (by omega) ?_)
  refine forR (fun j l' h' => ∀ Z : Loc → SH → Prop, (∀ u, Z [some (.ref v), some (.ref L), u, none, none, none, none] s) → Z l' h') (fun i => trivial) (fun l' h' i => ?_) (fun j l' h' R hj k i => ?_) fun Z z => z none
  rotate_left
  · apply i; intro u
    have h1 := List.getElem?_eq_getElem (l := ns) (i := j + 1) (by omega)
    have h0 := List.getElem?_eq_getElem (l := ns) (i := j) (by omega)
    have ne := mt (List.getElem_inj hn (i := j) (j := j + 1) (h₀ := by omega) (h₁ := by omega)).mp (Nat.ne_of_lt (Nat.lt_succ_self j))
    refine sub_p (x := ((j + 1 : Nat) : Int) - 1) e (by omega) h0 (by omega) (sub_map (k := j + 1) e (by omega) h1 (in_ ?_ (k _ _ fun Z z => z _)))
    simpa using ne
  apply i; intro u
  have hV := hV.ext x
  refine hV.num (f_range1 (by omega) (by omega) ?_)
  refine forR (fun j l' h' => ∀ Z : Loc → SH → Prop, (∀ u u3 u4 u5 u6, Z [some (.ref v), some (.ref L), u, u3, u4, u5, u6] s) → Z l' h') (fun i => trivial) (fun l' h' i => ?_) (fun j l' h' R hj k i => ?_) fun Z z => z _ _ _ _ _
  · apply i; intro _ _ _ _ _; exact q s x
  · apply i; intro u u3 u4 u5 u6
    have ep := List.getElem?_eq_getElem (l := V.lv) (i := j) hj
    generalize V.lv[j]'_ = p at ep
    have F := hV.at ep
    refine hV.files (hV.sub ep (len_map F.e F.z (f_range1 (by omega) (by have := F.z; omega) ?_)))
    refine forR (fun i l' h' => ∀ Z : Loc → SH → Prop, (∀ u u5 u6, Z [some (.ref v), some (.ref L), u, some (.int j), some (.ref p.1), u5, u6] s) → Z l' h') (fun i => trivial) (fun l' h' i => ?_) (fun i l' h' R hi k2 i' => ?_) fun Z z => z _ _ _
    · apply i; intro _ _ _; exact k _ _ fun Z z => z _ _ _ _ _
    · apply i'; intro u u5 u6
      have ea := List.getElem?_eq_getElem (l := p.2) (i := i) hi
      generalize p.2[i]'_ = a at ea
      have am := List.mem_of_getElem? ea
      have ta := F.t a am
      have oa := F.ok a am
      refine sub_map F.e (Nat.le_trans F.z (by decide)) ea (hV.ord fun o hO => me hO.m (ta.lo (ta.hi (k_icmp B hO oa.loO oa.hiO fun c hc => ?_))))
      refine d0 (fun z => Int.not_lt.mpr oa.rlh (hc.2.mp z)) ?_
      refine bc (eqz i) (fun _ => k2 _ _ fun Z z => z _ _ _) fun ci => ?_
      have eb := List.getElem?_eq_getElem (l := p.2) (i := i - 1) (by omega)
      generalize p.2[i - 1]'_ = b at eb
      have bm := List.mem_of_getElem? eb
      have tb := F.t b bm
      have ob := F.ok b bm
      have nx := (hs j p ep).at eb ea (by omega)
      refine sub_p (x := (i : Int) - 1) F.e F.z eb (by omega) (bc (eqz j) (fun cj => tb.num (ta.num ?_)) fun cj => tb.hi (k_user_of B ob.hiO.l (ta.lo (k_user_of B oa.loO.l ?_))))
      · rw [nxt_z cj] at nx
        exact d0 (fun z => Nat.not_le.mpr nx (Int.ofNat_le.mp z)) (k2 _ _ fun Z z => z _ _ _)
      · rw [nxt_p cj] at nx
        exact bc (bge _ ob.hiO.u _ oa.loO.u) (fun z => absurd nx (Nat.not_lt.mpr z)) fun _ => k2 _ _ fun Z z => z _ _ _
end
end Mine
namespace Mine
theorem perm_map_inv {α β : Type} {f : α → β} : ∀ {l2 : List α} {l : List β}, l.Perm (l2.map f) → ∃ l1 : List α, l1.Perm l2 ∧ l = l1.map f
  | [], l, h => ⟨[], .nil, by simpa using h⟩
  | b :: l2, l, h => by
    have hm : f b ∈ l := h.mem_iff.mpr (by simp)
    obtain ⟨s, t, rfl⟩ := List.append_of_mem hm
    have h2 : (s ++ t).Perm (l2.map f) := (List.perm_middle.symm.trans h).cons_inv
    obtain ⟨l1, p, e⟩ := perm_map_inv h2
    obtain ⟨l1s, l1t, rfl, e1, e2⟩ := List.append_eq_map_iff.mp e
    exact ⟨l1s ++ b :: l1t, List.perm_middle.trans (p.cons b), by simp [e1, e2]⟩
theorem mlook_nodup : ∀ {m : List (Int × SV)} {k : Int} {v : SV}, (m.map (·.1)).Nodup → (k, v) ∈ m → mlook m k = some v
  | [], _, _, _, h => by cases h
  | (k', v') :: m, k, v, nd, h => by
    rw [List.map_cons, List.nodup_cons] at nd
    rw [mlook_cons]
    rcases List.mem_cons.mp h with e | h
    · cases e; rw [if_pos rfl]
    · rw [if_neg (fun q => nd.1 (List.mem_map.mpr ⟨_, h, q.symm⟩))]
      exact mlook_nodup nd.2 h
theorem nodup_int {l : List Nat} (h : l.Nodup) : (l.map fun (n : Nat) => (n : Int)).Nodup := List.Pairwise.map _ (fun _ _ h e => h (Int.ofNat.inj e)) h
noncomputable def updG (g : Nat → List AT) (j : Nat) (r : List AT) : Nat → List AT := fun i => if i = j then r else g i
theorem updG_same (g : Nat → List AT) (j : Nat) (r : List AT) : updG g j r j = r := if_pos rfl
theorem updG_ne {g : Nat → List AT} {i j : Nat} (r : List AT) (h : i ≠ j) : updG g j r i = g i := if_neg h
theorem updG_two (g : Nat → List AT) (j : Nat) (r r' : List AT) : updG (updG g j r) j r' = updG g j r' := by
  funext i; unfold updG; split <;> rfl
structure Fin' (σ s : SH) (a fl : Addr) (ls : List Addr) (g : Nat → List AT) : Prop where
  x : Ext σ s
  f : VF s a fl ls
  c : Cells s ls g
section
variable {σ s s' : SH} {a fl : Addr} {ls : List Addr} {g : Nat → List AT} (F : Fin' σ s a fl ls g)
include F
theorem Fin'.ext (y : Ext s s') : Fin' σ s' a fl ls g := ⟨F.x.trans y, F.f.kp (y.kp []) ((y _ _ F.f.l).trans F.f.l.symm), F.c.ext y⟩
theorem Fin'.put (fr' : Fresh σ (fl :: ls)) {j : Nat} {x : Addr} {r : List AT} (e : ls[j]? = some x) (b : Bar x s s') (e' : s' x = some (.list (r.map fr))) : Fin' σ s' a fl ls (updG g j r) := by
  have xm := List.mem_of_getElem? e
  have nf : fl ≠ x := fun z => (List.nodup_cons.mp fr'.1).1 (z ▸ xm)
  refine ⟨fun c o ec => b c o (ne_of ec (fr'.2 x (List.mem_cons_of_mem _ xm))) (F.x c o ec), F.f.kp (b.kp (F.c j x e)) ((b _ _ nf F.f.l).trans F.f.l.symm), F.c.set (List.nodup_cons.mp fr'.1).2 e b (by rw [updG_same]; exact e') fun i hi => updG_ne r hi⟩
theorem Fin'.at {j : Nat} {x : Addr} {r : List AT} (e : ls[j]? = some x) (h : g j = r) : s x = some (.list (r.map fr)) := h ▸ F.c j x e
end
noncomputable def kept (V : Ver) (D : List (Nat × Nat)) (i : Nat) : AT → Bool := fun t => !decide ((i, t.2.n) ∈ D)
noncomputable def lvA (A : List AT) (i : Nat) : List AT := A.filter fun x => decide (x.2.lev = i)
noncomputable def newL (V : Ver) (D : List (Nat × Nat)) (A : List AT) (i : Nat) : List AT := (V.ts i).filter (kept V D i) ++ lvA A i
structure Fits (V : Ver) (D : List (Nat × Nat)) (A : List AT) : Prop where
  okA : ∀ x ∈ A, x.2.Ok
  lA : ∀ x ∈ A, x.2.lev < V.lv.length
  lD : ∀ y ∈ D, y.1 < V.lv.length
  nA : (A.map fun x => x.2.n).Nodup
  nAD : ∀ x ∈ A, ∀ y ∈ D, x.2.n ≠ y.2
  nFA : ∀ i, ∀ t ∈ V.ts i, ∀ x ∈ A, t.2.n ≠ x.2.n
  zA : A.length < 64
  zD : D.length ≤ 100
  srt : ∀ i, Srt i (V.ts i)
  tot : ∀ i, ∀ x ∈ newL V D A i, ∀ y ∈ newL V D A i, x.2.n ≠ y.2.n → nxt i x.2 y.2 ∨ nxt i y.2 x.2
  nd : (((List.range V.lv.length).map (newL V D A)).flatten.map fun x => x.2.n).Nodup
  z : ((List.range V.lv.length).map (newL V D A)).flatten.length < 64
theorem flat_perm {f g : Nat → List AT} : ∀ n, (∀ i, i < n → (f i).Perm (g i)) → ((List.range n).map f).flatten.Perm ((List.range n).map g).flatten
  | 0, _ => .nil
  | n + 1, h => by
    rw [List.range_succ, List.map_append, List.map_append, List.flatten_append, List.flatten_append]
    exact (flat_perm n fun i hi => h i (Nat.lt_succ_of_lt hi)).append (by simpa using h n (Nat.lt_succ_self n))
theorem nums_idx (fl : Addr) (ls : List Addr) (g : Nat → List AT) : numsOf (ls.mapIdx fun i x => (x, g i)) = (((List.range ls.length).map g).flatten.map fun x => x.2.n).map fun (n : Nat) => (n : Int) := by
  have : (ls.mapIdx fun i x => (x, g i)).map Prod.snd = (List.range ls.length).map g := by
    apply List.ext_getElem? fun i => ?_
    rw [List.getElem?_map, List.getElem?_mapIdx, List.getElem?_map]
    by_cases h : i < ls.length
    · rw [List.getElem?_eq_getElem h, List.getElem?_range h]; rfl
    · rw [List.getElem?_eq_none (Nat.not_lt.mp h), List.getElem?_eq_none (by rw [List.length_range]; exact Nat.not_lt.mp h)]; rfl
  rw [← this]
  unfold numsOf
  rw [List.map_flatten, List.map_flatten, List.map_map, List.map_map]
  exact congrArg _ (List.map_congr_left fun p _ => by simp)
theorem Ver.tsT {σ : SH} {v : Addr} {V : Ver} (h : IsVer σ v V) {i : Nat} {t : AT} (m : t ∈ V.ts i) : IsT σ t.1 t.2 ∧ t.2.Ok := by
  unfold Ver.ts at m
  cases e : V.lv[i]? with
  | none => rw [e] at m; cases m
  | some p => rw [e] at m; exact ⟨(h.at e).t t m, (h.at e).ok t m⟩
section
variable {w : Wd} {H0 : Heap} (B : Base w H0) {d : Nat} {σ : SH} {Q : QV}
include B
theorem k_finish {mk v dl al : Addr} {ds as : List Addr} {V : Ver} {D : List (Nat × Nat)} {A : List AT} (M : Mk σ mk v dl al ds as V.lv.length) (hV : IsVer σ v V) (hd : DS σ ds (delM D)) (ha : DS σ as (addM A)) (hT : ∀ x ∈ A, IsT σ x.1 x.2) (X : Fits V D A)
    (q : ∀ a V' s, Ext σ s → IsVer s a V' → V'.lv.length = V.lv.length → (∀ i, i < V.lv.length → (V'.ts i).Perm (newL V D A i) ∧ Srt i (V'.ts i)) → Q (.ref a) s) : CallF (GG w H0) (d + 8) (.ref 519) [.ref mk] Q σ := by
  have z12 := hV.L.z
  have nT : ∀ i, ∀ t ∈ newL V D A i, IsT σ t.1 t.2 ∧ t.2.Ok := fun i t m => (List.mem_append.mp m).elim (fun m => Ver.tsT hV (List.mem_filter.mp m).1) fun m => ⟨hT t (List.mem_filter.mp m).1, X.okA t (List.mem_filter.mp m).1⟩
  have nZ : ∀ i, i < V.lv.length → (newL V D A i).length ≤ 1000 := fun i hi => by
    exact Nat.le_trans (List.sublist_flatten_of_mem (List.mem_map.mpr ⟨i, List.mem_range.mpr hi, rfl⟩)).length_le (Nat.le_of_lt (Nat.lt_trans X.z (by decide)))
  refine fnC B (ok_VersionMaker_finish B) rfl (M.i.base (hV.num (M.i.base (hV.ord fun o hO => k_new_ver B hV.L.z hO fun a fl ls s0 x0 hl f0 c0 fr0 _ => ?_))))
  have M0 := M.kp (x0.kp [])
  refine M0.i.base ((hV.ext x0).num (f_range1 (by omega) (by omega) ?_))
  refine forR (fun j l' h' => ∀ Z : Loc → SH → Prop, (∀ g u2 u3 u4 u5 s, Fin' σ s a fl ls g → (∀ i, i < j → (g i).Perm (newL V D A i) ∧ Srt i (g i)) → (∀ i, j ≤ i → g i = []) → Z [some (.ref mk), some (.ref a), u2, u3, u4, u5] s) → Z l' h')
    (fun i => trivial) (fun l' h' i => ?_) (fun j l' h' R hj k i => ?_) fun Z z => z _ none none none none s0 ⟨x0, f0, c0⟩ (fun _ h => absurd h (Nat.not_lt_zero _)) fun _ _ => rfl
  · apply i; intro g u2 u3 u4 u5 s F hg _
    have hg : ∀ i, i < V.lv.length → _ := hg
    have V' := F.f.ver F.c (fun i hi p m => by rw [hl] at hi; exact ⟨(nT i p ((hg i hi).1.mem_iff.mp m)).1.ext F.x, (nT i p ((hg i hi).1.mem_iff.mp m)).2⟩) fun i hi => by rw [hl] at hi; rw [(hg i hi).1.length_eq]; exact nZ i hi
    have pm := (flat_perm V.lv.length fun i hi => (hg i hi).1)
    have ets : ∀ i, i < V.lv.length → Ver.ts ⟨fl, ls.mapIdx fun i x => (x, g i)⟩ i = g i := fun i hi => by
      unfold Ver.ts
      rw [List.getElem?_mapIdx, List.getElem?_eq_getElem (by rw [hl]; exact hi)]; rfl
    refine me V'.mc (k_check B V' (by rw [nums_idx fl, hl]; exact nodup_int ((pm.map _).nodup_iff.mpr X.nd)) (by rw [nums_idx fl, hl, List.length_map, List.length_map, pm.length_eq]; exact X.z) (fun i p e => ?_) fun s2 x2 => q a _ s2 (F.x.trans x2) (V'.ext x2) (by show (ls.mapIdx _).length = _; rw [List.length_mapIdx, hl]) fun i hi => by rw [ets i hi]; exact hg i hi)
    have hi : i < V.lv.length := by have := (List.getElem?_eq_some_iff.mp e).1; rw [List.length_mapIdx, hl] at this; exact this
    rw [← Ver.ts_at (V := ⟨fl, ls.mapIdx fun i x => (x, g i)⟩) e, ets i hi]
    exact (hg i hi).2
  apply i; intro g u2 u3 u4 u5 s F hg hn
  obtain ⟨x, ex⟩ : ∃ x, ls[j]? = some x := ⟨_, List.getElem?_eq_getElem (hl.symm ▸ hj)⟩
  obtain ⟨p, ep, et⟩ := V.lvl hj
  obtain ⟨xd, xa, exd, exa⟩ := M.at hj
  have P := hV.at ep
  have M1 := fun {s : SH} (y : Ext σ s) => M.kp (y.kp [])
  obtain ⟨dd, f, o, e1, e2, e3, e4, e5, e6, e7⟩ := F.f.i
  refine attr_inst e1 e4 rfl rfl (sub_map F.f.l (by rw [hl]; omega) ex ((M1 F.x).i.drop ((M1 F.x).i.base ((hV.ext F.x).files ((hV.ext F.x).sub ep (itl (F.x _ _ P.e) ?_))))))
  refine for1 (fun rest l' h' => ∀ Z : Loc → SH → Prop, (∀ dn u4 s, p.2 = dn ++ rest → Fin' σ s a fl ls (updG g j (dn.filter (kept V D j))) → Z [some (.ref mk), some (.ref a), some (.int j), some (.ref x), u4, u5] s) → Z l' h')
    (fun i => ?_) (fun l' h' i => ?_) (fun t rest l' h' R2 k2 i => ?_) fun Z z => z [] _ s rfl ⟨F.x, F.f, fun i y ey => by
      by_cases c : i = j
      · rw [c, updG_same]; rw [c] at ey; exact F.at ey (hn j (Nat.le_refl j))
      · rw [updG_ne _ c]; exact F.c i y ey⟩
  · apply i; intro _ _ s _ F; exact F.x _ _ P.e
  rotate_left
  · apply i; intro dn u4 s em F
    have tm : t ∈ p.2 := by rw [em]; exact List.mem_append_right _ List.mem_cons_self
    have ht := (P.t t tm).ext F.x
    obtain ⟨ep1, d1⟩ := hd _ _ exd
    obtain ⟨ep2, a1⟩ := ha _ _ exa
    refine ht.num ((M1 F.x).i.del ((M1 F.x).sd exd (in_dd (F.x _ _ d1) ?_)))
    refine bc (delM_is j t.2.n D) (fun c => k2 _ _ fun Z z => z (dn ++ [t]) _ s (by rw [List.append_assoc]; exact em) ?_) fun c => ?_
    · rw [List.filter_append, show [t].filter (kept V D j) = [] by simp [kept, c], List.append_nil]; exact F
    refine ht.num ((M1 F.x).i.add ((M1 F.x).sa exa (in_dd (F.x _ _ a1) ?_)))
    rw [addM_new fun y hy e => X.nFA j t (et ▸ tm) y hy e.symm]
    refine me (m_app (F.at ex (updG_same _ _ _))) (app (F.at ex (updG_same _ _ _)) ?_ fun s2 g2 b2 => k2 _ _ fun Z z => z (dn ++ [t]) _ s2 (by rw [List.append_assoc]; exact em) ?_)
    · rw [List.length_map]
      have z1 := List.length_filter_le (kept V D j) dn
      have z2 := P.z
      rw [em, List.length_append] at z2
      omega
    · have F2 := F.put fr0 ex b2 (r := dn.filter (kept V D j) ++ [t]) (by rw [g2, List.map_append]; rfl)
      rw [List.filter_append, show [t].filter (kept V D j) = [t] by simp [kept, c]]
      rw [updG_two] at F2
      exact F2
  apply i; intro dn u4 s em F
  rw [List.append_nil] at em
  rw [← em, ← et] at F
  obtain ⟨ep2, a1⟩ := ha _ _ exa
  have nodA : ((addM A j).map (·.1)).Nodup := by
    have h := nodup_int (X.nA.sublist ((List.filter_sublist (p := fun x : AT => decide (x.2.lev = j))).map _))
    rw [List.map_map] at h
    unfold addM
    rw [List.map_map]; exact h
  refine (M1 F.x).i.add ((M1 F.x).sa exa (f_sortd (gok B) (F.x _ _ a1) (Nat.lt_of_le_of_lt (addM_len A j) X.zA) fun L ns hL pm _ => ?_))
  unfold addM at pm
  rw [List.map_map] at pm
  obtain ⟨A', pA, en⟩ := perm_map_inv pm
  have xL := ne_of (F.at ex (updG_same _ _ _)) hL
  have F1 := F.ext (Ext.upd (.list (ns.map .int)) hL)
  have eL := upd_same s L (.list (ns.map .int))
  generalize upd s L (.list (ns.map .int)) = s1 at F1 eL ⊢
  rw [en, List.map_map] at eL
  have nodn : (A'.map fun x => x.2.n).Nodup := (pA.map _).nodup_iff.mpr (X.nA.sublist (List.filter_sublist.map _))
  refine itl eL ?_
  refine for1 (f := fun x : AT => SV.int x.2.n) (fun rest l' h' => ∀ Z : Loc → SH → Prop, (∀ dn cur u5 s, A' = dn ++ rest → cur.Perm ((V.ts j).filter (kept V D j) ++ dn) → Srt j cur → s L = some (.list (A'.map fun x => SV.int x.2.n)) → Fin' σ s a fl ls (updG g j cur) → Z [some (.ref mk), some (.ref a), some (.int j), some (.ref x), u4, u5] s) → Z l' h')
    (fun i => ?_) (fun l' h' i => ?_) (fun t rest l' h' R2 k2 i => ?_) fun Z z => z [] _ _ s1 rfl (by rw [List.append_nil]) ((X.srt j).sublist List.filter_sublist) eL F1
  · apply i; intro _ _ _ s _ _ _ e _; exact e
  · apply i; intro dn cur u5 s e1 pc sc _ F
    rw [List.append_nil] at e1
    refine k _ _ fun Z z => z _ _ _ _ _ s F (fun i hi => ?_) fun i hi => by rw [updG_ne _ (Nat.ne_of_gt hi)]; exact hn i (Nat.le_of_lt hi)
    rcases Nat.lt_succ_iff_lt_or_eq.mp hi with c | c
    · rw [updG_ne _ (Nat.ne_of_lt c)]; exact hg i c
    · rw [c, updG_same]
      exact ⟨pc.trans (by rw [← e1]; exact pA.append_left _), sc⟩
  · apply i; intro dn cur u5 s e1 pc sc y1 F
    have tA : t ∈ A' := by rw [e1]; exact List.mem_append_right _ List.mem_cons_self
    have tm := pA.mem_iff.mp tA
    obtain ⟨tm, tl⟩ := List.mem_filter.mp tm
    have tl : t.2.lev = j := of_decide_eq_true tl
    have look : mlook (addM A j) t.2.n = some (.ref t.1) := mlook_nodup nodA (List.mem_map.mpr ⟨t, List.mem_filter.mpr ⟨tm, decide_eq_true tl⟩, rfl⟩)
    have cN : ∀ y ∈ cur, y ∈ newL V D A j ∧ y.2.n ≠ t.2.n := fun y m => by
      rcases List.mem_append.mp (pc.mem_iff.mp m) with h | h
      · exact ⟨List.mem_append_left _ h, X.nFA j y (List.mem_filter.mp h).1 t tm⟩
      · refine ⟨List.mem_append_right _ (pA.mem_iff.mp (by rw [e1]; exact List.mem_append_left _ h)), fun e => ?_⟩
        rw [e1, List.map_append, List.map_cons] at nodn
        exact (List.nodup_append.mp nodn).2.2 _ (List.mem_map.mpr ⟨y, h, rfl⟩) _ List.mem_cons_self e
    have tN : t ∈ newL V D A j := List.mem_append_right _ (pA.mem_iff.mp tA)
    have hz : cur.length ≤ 1000 := by
      have z1 := nZ j hj
      have z2 := pA.length_eq
      unfold newL lvA at z1
      rw [e1] at z2
      rw [pc.length_eq]
      rw [List.length_append] at z1 z2 ⊢
      omega
    have MM := M1 F.x
    refine me (MM.i.m 12 (x := 10) (by kernel_rfl)) (MM.i.add (MM.sa exa (sub_dict (F.x _ _ a1) look (k_place B MM.i (hV.ext F.x) (F.at ex (updG_same _ _ _)) (fun y m => ⟨(nT j y (cN y m).1).1.ext F.x, (nT j y (cN y m).1).2⟩) hz ((hT t tm).ext F.x) (X.okA t tm) sc (fun y m => X.tot j y (cN y m).1 t tN (cN y m).2) fun r' s2 pr sr g2 b2 => ?_))))
    have F2 := F.put fr0 ex b2 g2
    rw [updG_two] at F2
    exact k2 _ _ fun Z z => z (dn ++ [t]) r' _ s2 (by rw [List.append_assoc]; exact e1) (pr.trans ((pc.cons t).trans (by rw [← List.append_assoc]; exact (List.perm_append_singleton _ _).symm))) sr (b2 _ _ xL.symm y1) F2
end
end Mine
namespace Mine
section
variable {w : Wd} {H0 : Heap} (B : Base w H0) {d : Nat} {σ : SH} {Q : QV}
include B
theorem k_made {v e el ea ec : Addr} {V : Ver} {D : List (Nat × Nat)} {A : List AT} (hV : IsVer σ v V) (hE : EditAt σ e el ea ec) (hD : σ el = some (.list (D.map delSV))) (hA : σ ea = some (.list (A.map addSV))) (hT : ∀ x ∈ A, IsT σ x.1 x.2) (X : Fits V D A)
    (q : ∀ a V' s, Ext σ s → IsVer s a V' → V'.lv.length = V.lv.length → (∀ i, i < V.lv.length → (V'.ts i).Perm (newL V D A i) ∧ Srt i (V'.ts i)) → Q (.ref a) s) : CallF (GG w H0) (d + 9) (.ref 734) [.ref v, .ref e] Q σ := by
  refine fnC B (ok__law_made B) rfl (k_new_maker B hV fun mk dl al ds as s x M hd ha fr' => ?_)
  refine me (M.i.m 10 (x := 8) (by kernel_rfl)) (k_apply B M (hV.ext x) hd ha (hE.ext x) (x _ _ hD) (x _ _ hA) (fun t m => (hT t m).ext x) X.lA X.lD X.nA X.nAD (Nat.le_of_lt (Nat.lt_trans X.zA (by decide))) X.zD fun s2 o d2 a2 => ?_)
  have x2 : Ext σ s2 := fun b ob e => o b ob (fun m => ne_of e (fr' b (.inl m)) rfl) (fun m => ne_of e (fr' b (.inr m)) rfl) (x b ob e)
  have M2 := M.kp (o.kp hd ha)
  exact me (M2.i.m 13 (x := 11) (by kernel_rfl)) (k_finish B M2 (hV.ext x2) d2 a2 (fun t m => (hT t m).ext x2) X fun a V' s3 x3 h1 h2 h3 => q a V' s3 (x2.trans x3) h1 h2 h3)
end
structure CK where
  v : Addr
  p : Addr
  il : Addr
  gl : Addr
  e : Addr
  pl : Addr
  dl : Addr
  al : Addr
  cl : Addr
structure CFl (f : Nat → Option SV) (lev : Nat) (K : CK) (o u : Addr) (ga : Nat) (go : Int) (sk : Bool) : Prop where
  lev : f 41 = some (.int lev)
  ver : f 42 = some (.ref K.v)
  opt : f 43 = some (.ref K.p)
  ord : f 34 = some (.ref o)
  usr : f 44 = some (.ref u)
  inp : f 45 = some (.ref K.il)
  grd : f 46 = some (.ref K.gl)
  edt : f 47 = some (.ref K.e)
  ga : f 49 = some (.int ga)
  go : f 50 = some (.int go)
  sk : f 51 = some (.bool sk)
  plc : f 52 = some (.ref K.pl)
  nm : NM f
section
variable {f : Nat → Option SV} {lev : Nat} {K : CK} {o u : Addr} {ga : Nat} {go : Int} {sk : Bool} (h : CFl f lev K o u ga go sk)
include h
theorem CFl.setGa (x : Nat) : CFl (setA f 49 (.int x)) lev K o u x go sk := ⟨h.lev, h.ver, h.opt, h.ord, h.usr, h.inp, h.grd, h.edt, rfl, h.go, h.sk, h.plc, h.nm.set rfl⟩
theorem CFl.setGo (x : Int) : CFl (setA f 50 (.int x)) lev K o u ga x sk := ⟨h.lev, h.ver, h.opt, h.ord, h.usr, h.inp, h.grd, h.edt, h.ga, rfl, h.sk, h.plc, h.nm.set rfl⟩
theorem CFl.setSk (x : Bool) : CFl (setA f 51 (.bool x)) lev K o u ga go x := ⟨h.lev, h.ver, h.opt, h.ord, h.usr, h.inp, h.grd, h.edt, h.ga, h.go, rfl, h.plc, h.nm.set rfl⟩
theorem CFl.setGl (x : Addr) : CFl (setA f 46 (.ref x)) lev { K with gl := x } o u ga go sk := ⟨h.lev, h.ver, h.opt, h.ord, h.usr, h.inp, rfl, h.edt, h.ga, h.go, h.sk, h.plc, h.nm.set rfl⟩
end
noncomputable def CompAt (σ : SH) (c : Addr) (lev : Nat) (K : CK) : Prop := ∃ dd f o u, ∃ ga : Nat, ∃ go : Int, ∃ sk : Bool, σ c = some (.inst 592 dd f) ∧ CFl f lev K o u ga go sk ∧ IsIO σ o ∧ IsBO σ u
section
variable {w : Wd} {H0 : Heap} {σ σ' : SH} {Q : QV} {c : Addr} {lev : Nat} {K : CK} (h : CompAt σ c lev K)
include h
theorem CompAt.kp {C : List Nat} (x : Kp C σ σ') (h1 : C.contains 592 = false := by rfl) (h2 : C.contains 218 = false := by rfl) (h3 : C.contains 272 = false := by rfl) : CompAt σ' c lev K := by
  obtain ⟨dd, f, o, u, ga, go, sk, e, cf, io, bo⟩ := h
  exact ⟨dd, f, o, u, ga, go, sk, x _ _ e h1, cf, io.kp x h2 h3, bo.kp x h2⟩
theorem CompAt.attr {x : Nat} {v : SV} (hx : ∀ {f o u ga go sk}, CFl f lev K o u ga go sk → f x = some v) (q : Q v σ) (hr : isRaw v = false := by rfl) (hn : (GG w H0).nofld.contains (592, x) = false := by rfl) : attrW (GG w H0) (.ref c) x Q σ := by obtain ⟨_, _, _, _, _, _, _, e, cf, _⟩ := h; exact attr_inst e (hx cf) hr hn q
theorem CompAt.lv (q : Q (.int lev) σ) : attrW (GG w H0) (.ref c) 41 Q σ := h.attr (·.lev) q
theorem CompAt.ver (q : Q (.ref K.v) σ) : attrW (GG w H0) (.ref c) 42 Q σ := h.attr (·.ver) q
theorem CompAt.opt (q : Q (.ref K.p) σ) : attrW (GG w H0) (.ref c) 43 Q σ := h.attr (·.opt) q
theorem CompAt.inp (q : Q (.ref K.il) σ) : attrW (GG w H0) (.ref c) 45 Q σ := h.attr (·.inp) q
theorem CompAt.grd (q : Q (.ref K.gl) σ) : attrW (GG w H0) (.ref c) 46 Q σ := h.attr (·.grd) q
theorem CompAt.edt (q : Q (.ref K.e) σ) : attrW (GG w H0) (.ref c) 47 Q σ := h.attr (·.edt) q
theorem CompAt.plc (q : Q (.ref K.pl) σ) : attrW (GG w H0) (.ref c) 52 Q σ := h.attr (·.plc) q
theorem CompAt.ord (q : ∀ o, IsIO σ o → Q (.ref o) σ) : attrW (GG w H0) (.ref c) 34 Q σ := by obtain ⟨_, _, o, _, _, _, _, e, cf, io, _⟩ := h; exact attr_inst e cf.ord rfl rfl (q o io)
theorem CompAt.usr (q : ∀ u, IsBO σ u → Q (.ref u) σ) : attrW (GG w H0) (.ref c) 44 Q σ := by obtain ⟨_, _, _, u, _, _, _, e, cf, _, bo⟩ := h; exact attr_inst e cf.usr rfl rfl (q u bo)
theorem CompAt.m (i : Nat) {x : Nat} {f : Value} (e : (GG w H0).meths[i]? = some (592, 57 + x, f)) : MRes (GG w H0) (.ref c) (57 + x) f σ := by obtain ⟨_, _, _, _, _, _, _, k, cf, _⟩ := h; exact mth i e k (cf.nm x)
end
noncomputable def CK.S (K : CK) : List Addr := [K.il, K.dl, K.al, K.cl, K.pl]
structure Cm (s : SH) (c : Addr) (lev : Nat) (K : CK) (n : Nat) : Prop where
  c : CompAt s c lev K
  ed : EditAt s K.e K.dl K.al K.cl
  d : s K.dl = some (.list [])
  a : s K.al = some (.list [])
  p : s K.pl = some (.list (List.replicate n (.int 0)))
  nd : K.S.Nodup
theorem Cm.ext {s s' : SH} {c : Addr} {lev : Nat} {K : CK} {n : Nat} (h : Cm s c lev K n) (x : Ext s s') : Cm s' c lev K n := ⟨h.c.kp (x.kp []), h.ed.ext x, x _ _ h.d, x _ _ h.a, x _ _ h.p, h.nd⟩
theorem Cm.bar {s s' : SH} {c x : Addr} {lev : Nat} {K : CK} {n : Nat} (h : Cm s c lev K n) {l : List SV} (e : s x = some (.list l)) (b : Bar x s s') (n1 : K.dl ≠ x) (n2 : K.al ≠ x) (n3 : K.pl ≠ x) : Cm s' c lev K n :=
  have k : Kp [0] s s' := b.kp e
  ⟨h.c.kp k, h.ed.kp k, b _ _ n1 h.d, b _ _ n2 h.a, b _ _ n3 h.p, h.nd⟩
theorem FL.bar {s s' : SH} {l x : Addr} {r : List AT} (h : FL s l r) {ob : SO} (e : s x = some ob) (hk : (okind ob == 340) = false) (b : Bar x s s') (n : l ≠ x) : FL s' l r :=
  ⟨b _ _ n h.e, fun p m => (h.t p m).kp (b.kp e) (by rw [List.contains_cons, BEq.comm, hk]; rfl), h.ok, h.z⟩
section
variable {w : Wd} {H0 : Heap} (B : Base w H0) {d : Nat} {σ : SH} {Q : QV}
include B
theorem k_new_comp {lev : Nat} {v p : Addr} {P : Opt} (hP : IsOpt σ p P) (hn : P.num ≤ 12)
    (q : ∀ c il l0 l1 gl e dl al cl pl s, Ext σ s → Cm s c lev ⟨v, p, il, gl, e, pl, dl, al, cl⟩ P.num → s il = some (.list [.ref l0, .ref l1]) → s l0 = some (.list []) → s l1 = some (.list []) → s gl = some (.list []) → s cl = some (.list []) → (∀ x ∈ [c, e, il, dl, al, cl, pl], σ x = none) →
      (∀ x ∈ [l0, l1, gl], x ∉ [il, dl, al, cl, pl] ∧ σ x = none) → Q (.ref c) s) : CallF (GG w H0) (d + 5) (.ref 592) [.int lev, .ref v, .ref p] Q σ := by
  refine clsF B 6 (ok_Compaction___init__ B) rfl rfl rfl fun c dd s n => ?_
  refine setN n fun s n1 _ => setN n1 fun s n2 _ => setN n2 fun s n3 _ => k_new_io B fun o s1 ho xo io => setN (n3.ext xo) fun s n4 b4 => ?_
  have io := io.kp (b4.kp (xo _ _ n3.2.2))
  refine k_new_bo B fun u s1 hu xu bo => setN (n4.ext xu) fun s n5 b5 => ?_
  have io := (io.ext xu).kp (b5.kp (xu _ _ n4.2.2))
  have bo := bo.kp (b5.kp (xu _ _ n4.2.2))
  refine new_w fun l0 s1 h0 e0 x0 => new_w fun l1 s2 h1 e1 x1 => new_w fun il s3 hi ei xi => ?_
  have n6 := ((n5.ext x0).ext x1).ext xi
  have l0i := ne_of (x1 _ _ e0) hi
  have l1i := ne_of e1 hi
  have e0 := xi _ _ (x1 _ _ e0)
  have e1' := xi _ _ e1
  refine setN n6 fun s4 n7 b7 => new_w fun gl s5 hg eg xg => setN (n7.ext xg) fun s6 n8 b8 => k_new_edit B fun e dl al cl s7 E => setN (n8.ext E.x) fun s8 n9 b9 => ?_
  have k7 := b7.kp n6.2.2
  have k8 := b8.kp (xg _ _ n7.2.2)
  have k6 : Kp [592] s3 s6 := (k7.trans (xg.kp _)).trans k8
  have gli := ne_of (k7 _ _ ei rfl) hg
  have fr6 : ∀ {x : Addr}, s6 x = none → σ x = none := fun h => n8.2.1.none h
  refine setN n9 fun s9 n10 b10 => setN n10 fun s10 n11 b11 => setN n11 fun s11 n12 b12 => setN n12 fun s12 n13 b13 => new_w fun z s13 hz ez xz => ?_
  have k9 := (((b9.trans b10).trans b11).trans (b12.trans b13)).kp (E.x _ _ n8.2.2)
  have kz : Kp [592] s3 s13 := ((k6.trans (E.x.kp _)).trans k9).trans (xz.kp _)
  have hP13 : IsOpt s13 p P := ((hP.ext (n3.2.1)).ext xo |>.kp (b4.kp (xo _ _ n3.2.2)) |>.ext xu |>.kp (b5.kp (xu _ _ n4.2.2)) |>.ext x0 |>.ext x1 |>.ext xi).kp kz
  refine hP13.num ⟨rfl, _, ez, Int.natCast_nonneg _, by omega, new_w fun pl s14 hp ep xp => setN ((n13.ext xz).ext xp) fun s15 n15 b15 => ⟨rfl, ?_⟩⟩
  have k14 : Kp [592] s13 s15 := (xp.kp _).trans (b15.kp (xp _ _ (xz _ _ n13.2.2)))
  have kE : Kp [592] s7 s15 := (k9.trans (xz.kp _)).trans k14
  have kA := kz.trans k14
  have bp := b15.kp (xp _ _ (xz _ _ n13.2.2))
  have old : ∀ {x l}, s3 x = some (.list l) → x ≠ dl ∧ x ≠ al ∧ x ≠ cl ∧ x ≠ pl := fun e =>
    have e6 := k6 _ _ e rfl
    ⟨ne_of e6 E.fd, ne_of e6 E.fa, ne_of e6 E.fc, ne_of (kz _ _ e rfl) hp⟩
  have oi := old ei
  have o0 := old e0
  have o1 := old e1'
  have eg6 := k8 _ _ eg rfl
  have og : gl ≠ dl ∧ gl ≠ al ∧ gl ≠ cl ∧ gl ≠ pl := ⟨ne_of eg6 E.fd, ne_of eg6 E.fa, ne_of eg6 E.fc, ne_of (xz _ _ (k9 _ _ (E.x _ _ eg6) rfl)) hp⟩
  have pE := fun {x l} (e : s7 x = some (.list l)) => ne_of (xz _ _ (k9 x (.list l) e rfl)) hp
  have nin : ∀ {x a b c d e : Addr}, x ≠ a → x ≠ b ∧ x ≠ c ∧ x ≠ d ∧ x ≠ e → x ∉ [a, b, c, d, e] := fun h1 h2 m => by
    simp only [List.mem_cons, List.not_mem_nil, or_false] at m
    exact m.elim h1 fun m => m.elim h2.1 fun m => m.elim h2.2.1 fun m => m.elim h2.2.2.1 h2.2.2.2
  refine q c il l0 l1 gl e dl al cl pl s15 n15.2.1 ⟨⟨dd, _, o, u, 0, 0, false, n15.2.2, ⟨rfl, rfl, rfl, rfl, rfl, rfl, rfl, rfl, rfl, rfl, rfl, rfl, ?_⟩, ((((io.ext x0).ext x1).ext xi).kp kA), ((((bo.ext x0).ext x1).ext xi).kp kA)⟩, E.at'.kp kE, kE _ _ E.d rfl, kE _ _ E.a rfl, bp _ _ (by rw [Int.toNat_natCast] at ep; exact ep) rfl, ?_⟩
    (kA _ _ ei rfl) (kA _ _ e0 rfl) (kA _ _ e1' rfl) (kE _ _ (E.x _ _ eg6) rfl) (kE _ _ E.c rfl) ?_ (List.forall_mem_cons.mpr ⟨⟨nin l0i o0, n5.2.1.none h0⟩, List.forall_mem_cons.mpr ⟨⟨nin l1i o1, n5.2.1.none (x0.none h1)⟩, List.forall_mem_cons.mpr ⟨⟨nin gli.symm og, n7.2.1.none hg⟩, fun _ h => absurd h List.not_mem_nil⟩⟩⟩)
  · repeat refine NM.set ?_ rfl
    exact NM.nil
  · simp only [CK.S, List.nodup_cons, List.mem_cons, List.not_mem_nil, or_false, not_or, not_false_eq_true, and_true, List.nodup_nil]
    exact ⟨oi, ⟨E.da, E.dc, pE E.d⟩, ⟨E.ac, pE E.a⟩, pE E.c⟩
  · simp only [List.forall_mem_cons, List.not_mem_nil, false_implies, implies_true, and_true]
    exact ⟨n.1, fr6 E.fe, n5.2.1.none (x0.none (x1.none hi)), fr6 E.fd, fr6 E.fa, fr6 E.fc, n13.2.1.none (xz.none hp)⟩
end
end Mine
namespace Mine
noncomputable def SL.drop : Nat → SL → SL
  | 0, b => b
  | _ + 1, .nil => .nil
  | n + 1, .cons _ r => r.drop n
noncomputable def S.body : S → SL
  | .for_ _ _ a _ => a
  | .while_ _ a _ => a
  | .if_ _ a _ _ => a
  | _ => .nil
noncomputable def SL.at : Nat → SL → S
  | _, .nil => .brk ⟨0, 0, 0, 0⟩
  | 0, .cons s _ => s
  | n + 1, .cons _ r => r.at n
theorem bn {b : Bool} {c : Prop} {i : Decidable c} {A B : Prop} (e : b = decide c) (h : ¬c) (q : B) : @ite Prop (b = true) (instDecidableEqBool _ _) A B := bc e (fun z => absurd z h) fun _ => q
theorem by' {b : Bool} {c : Prop} {i : Decidable c} {A B : Prop} (e : b = decide c) (h : c) (q : A) : @ite Prop (b = true) (instDecidableEqBool _ _) A B := bc e (fun _ => q) fun z => absurd h z
section
variable {w : Wd} {H0 : Heap} (B : Base w H0) {d : Nat} {σ : SH} {Q : QV}
include B
theorem k_glimit {c : Addr} {lev : Nat} {K : CK} {P : Opt} (h : CompAt σ c lev K) (hP : IsOpt σ K.p P) (hp : OkO P) (q : ∀ x : Int, Q (.int x) σ) : CallF (GG w H0) (d + 1) (.ref 561) [.ref c] Q σ :=
  fnC B (ok_Compaction_grand_limit B) rfl (h.opt (hP.grand (h.opt (hP.mfs ⟨by unfold small; rcases hp.e with e | e <;> rw [e] <;> decide, q _⟩))))
theorem k_stop {c : Addr} {lev : Nat} {K : CK} {P : Opt} {g : List AT} {x : Row} (h : CompAt σ c lev K) (hP : IsOpt σ K.p P) (hp : OkO P) (hg : FL σ K.gl g) (hx : x.Ok) (q : ∀ b s, CompAt s c lev K → Bar c σ s → Q (.bool b) s) : CallF (GG w H0) (d + 6) (.ref 575) [.ref c, .byt x.B] Q σ := by
  obtain ⟨dd, f, o, u, ga, go, sk, e, cf, io, bo⟩ := h
  have kp := fun {s : SH} (b : Bar c σ s) => (b.kp e : Kp [592] σ s)
  have tail : ∀ {f : Nat → Option SV} {ga : Nat} {go : Int} {sk : Bool} {v : Option SV} {s : SH}, s c = some (.inst 592 dd f) → CFl f lev K o u ga go sk → Bar c σ s → wpB (GG w H0) (d + 5) (SL.drop 1 b_Compaction_stop_before) (retK Q) [some (.ref c), some (.byt x.B), v] s := fun e cf b => by
    refine set1 e fun s1 e1 b1 => ?_
    have b1 := b.trans b1
    have cf := cf.setSk true
    have C1 : CompAt s1 c lev K := ⟨dd, _, o, u, _, _, _, e1, cf, io.kp (kp b1), bo.kp (kp b1)⟩
    refine attr_inst e1 cf.go rfl rfl (me (C1.m 14 (x := 12) (by kernel_rfl)) (k_glimit B C1 (hP.kp (kp b1)) hp fun y => ?_))
    refine dc (fun _ => set1 e1 fun s2 e2 b2 => ?_) fun _ => q false s1 C1 b1
    have b2 := b1.trans b2
    exact q true s2 ⟨dd, _, o, u, _, _, _, e2, cf.setGo 0, io.kp (kp b2), bo.kp (kp b2)⟩ b2
  refine fnC B (ok_Compaction_stop_before B) rfl ?_
  refine wh1 (fun m l' h' => ∀ Z : Loc → SH → Prop, (∀ f ga go sk v s, m = g.length - ga → s c = some (.inst 592 dd f) → CFl f lev K o u ga go sk → Bar c σ s → Z [some (.ref c), some (.byt x.B), v] s) → Z l' h') (fun m l' h' R k i => ?_) (m := g.length - ga) fun Z z => z f ga go sk none σ rfl e cf fun _ _ _ e => e
  apply i; intro f ga go sk v s em e cf b
  have F := hg.kp (kp b)
  refine attr_inst e cf.ga rfl rfl (attr_inst e cf.grd rfl rfl (len_map F.e F.z ?_))
  refine dc (fun lt => ?_) fun _ => tail e cf b
  have lt := Int.ofNat_lt.mp lt
  have ea := List.getElem?_eq_getElem lt
  generalize g[ga] = a at ea
  have am := List.mem_of_getElem? ea
  have ta := F.t a am
  refine attr_inst e cf.grd rfl rfl (attr_inst e cf.ga rfl rfl (sub_map F.e (Nat.le_trans F.z (by decide)) ea (attr_inst e cf.ord rfl rfl (me (io.kp (kp b)).m (ta.hi (k_icmp B (io.kp (kp b)) hx (F.ok a am).hiO fun y _ => ?_))))))
  refine dc (fun _ => tail e cf b) fun _ => ?_
  refine attr_inst e cf.sk rfl rfl ?_
  cases sk with
  | false => exact attr_inst e cf.ga rfl rfl (set1 e fun s1 e1 b1 => k _ _ _ (by rw [em]; exact Nat.sub_succ_lt_self _ _ lt) fun Z z => z _ (ga + 1) go false _ s1 rfl e1 (cf.setGa _) (b.trans b1))
  | true =>
    refine attr_inst e cf.go rfl rfl (ta.size (set1 e fun s1 e1 b1 => ?_))
    have cf1 := cf.setGo (go + a.2.z)
    exact attr_inst e1 cf1.ga rfl rfl (set1 e1 fun s2 e2 b2 => k _ _ _ (by rw [em]; exact Nat.sub_succ_lt_self _ _ lt) fun Z z => z _ (ga + 1) _ true _ s2 rfl e2 (cf1.setGa _) ((b.trans b1).trans b2))
end
end Mine
namespace Mine
theorem IsVer.bar {σ s : SH} {v x : Addr} {V : Ver} (h : IsVer σ v V) (b : Bar x σ s) {l : List SV} (e : σ x = some (.list l)) (n1 : V.fl ≠ x) (n2 : ∀ p ∈ V.lv, p.1 ≠ x) : IsVer s v V := by
  obtain ⟨dd, f, o, e1, L, e2, e3, e4, io, r⟩ := h
  have kp : Kp [0] σ s := b.kp e
  exact ⟨dd, f, o, kp _ _ e1 rfl, ⟨b _ _ n1 L.e, fun p m => (L.t p m).bar e rfl b (n2 p m), L.z⟩, e2, e3, e4, io.kp kp, r⟩
noncomputable abbrev plV (pls : List Nat) : List SV := pls.map fun (q : Nat) => SV.int q
structure PlOk (V : Ver) (lev : Nat) (pls : List Nat) (us : Nat) : Prop where
  l : pls.length = V.lv.length
  h : ∀ i q, lev + 2 ≤ i → pls[i]? = some q → q ≤ (V.ts i).length ∧ ∀ k t, k < q → (V.ts i)[k]? = some t → t.2.hi.u < us
theorem PlOk.le {V : Ver} {lev : Nat} {pls : List Nat} {a b : Nat} (h : PlOk V lev pls a) (l : a ≤ b) : PlOk V lev pls b :=
  ⟨h.l, fun i q h1 h2 => ⟨(h.h i q h1 h2).1, fun k t h3 h4 => Nat.lt_of_lt_of_le ((h.h i q h1 h2).2 k t h3 h4) l⟩⟩
theorem PlOk.inc {V : Ver} {lev : Nat} {pls : List Nat} {us i q : Nat} {t : AT} (h : PlOk V lev pls us) (hi : lev + 2 ≤ i) (e : pls[i]? = some q) (et : (V.ts i)[q]? = some t) (ht : t.2.hi.u < us) : PlOk V lev (pls.set i (q + 1)) us := by
  refine ⟨by rw [List.length_set]; exact h.l, fun j r hj er => ?_⟩
  rw [List.getElem?_set] at er
  split at er
  · rename_i c
    rw [if_pos (c ▸ (List.getElem?_eq_some_iff.mp e).1)] at er
    cases er; subst c
    have z := h.h i q hi e
    refine ⟨(List.getElem?_eq_some_iff.mp et).1, fun k t' hk e' => ?_⟩
    rcases Nat.lt_succ_iff_lt_or_eq.mp hk with g | g
    · exact z.2 k t' g e'
    · rw [g, et] at e'; cases e'; exact ht
  · exact h.h j r hj er
noncomputable def NoOvL (V : Ver) (us i : Nat) : Prop := ∀ t ∈ V.ts i, ov us us t.2 ≠ true
section
variable {w : Wd} {H0 : Heap} (B : Base w H0) {d : Nat} {σ : SH} {Q : QV}
include B
theorem k_cmpu {a : Addr} {i j : Nat} (hi : i < 6) (hj : j < 6) (q : ∀ c : Int, (c ≤ 0 ↔ i ≤ j) → (0 ≤ c ↔ j ≤ i) → Q (.int c) σ) : CallF (GG w H0) (d + 1) (.ref 159) [.ref a, byts (uL i), byts (uL j)] Q σ := by
  refine k_compare B ?_
  rw [bord_u _ hi _ hj]
  rcases Nat.lt_trichotomy i j with c | c | c
  · rw [Nat.compare_eq_lt.mpr c]; exact q _ (iff_of_true (by decide) (Nat.le_of_lt c)) (iff_of_false (by decide) (Nat.not_le.mpr c))
  · rw [Nat.compare_eq_eq.mpr c]; exact q _ (iff_of_true (by decide) (Nat.le_of_eq c)) (iff_of_true (by decide) (Nat.le_of_eq c.symm))
  · rw [Nat.compare_eq_gt.mpr c]; exact q _ (iff_of_false (by decide) (Nat.not_le.mpr c)) (iff_of_true (by decide) (Nat.le_of_lt c))
theorem k_base {c : Addr} {lev : Nat} {K : CK} {P : Opt} {V : Ver} {pls : List Nat} {us : Nat} (h : CompAt σ c lev K) (hP : IsOpt σ K.p P) (hV : IsVer σ K.v V) (hn : P.num = V.lv.length) (hs : ∀ i, Srt i (V.ts i)) (n1 : V.fl ≠ K.pl) (n2 : ∀ p ∈ V.lv, p.1 ≠ K.pl) (hpl : σ K.pl = some (.list (plV pls)))
    (hok : PlOk V lev pls us) (hu : us < 6) (hl : lev ≤ 12) (q : ∀ b pls' s, (b = true ↔ ∀ i, lev + 2 ≤ i → NoOvL V us i) → s K.pl = some (.list (plV pls')) → Bar K.pl σ s → PlOk V lev pls' us → Q (.bool b) s) :
    CallF (GG w H0) (d + 2) (.ref 582) [.ref c, byts (uL us)] Q σ := by
  have z12 := hV.L.z
  refine fnC B (ok_Compaction_base_level_for B) rfl (h.lv (h.opt (hP.num (f_range2 (by omega) (by omega) (by omega) (by omega) ?_))))
  refine forR (fun j l' h' => ∀ Z : Loc → SH → Prop, (∀ pls u2 u3 u4 s, s K.pl = some (.list (plV pls)) → Bar K.pl σ s → PlOk V lev pls us → (∀ i, lev + 2 ≤ i → i < j + (lev + 2) → NoOvL V us i) → Z [some (.ref c), some (byts (uL us)), u2, u3, u4] s) → Z l' h')
    (fun i => trivial) (fun l' h' i => ?_) (fun j l' h' R hj k i => ?_) fun Z z => z pls none none none σ hpl (fun _ _ _ e => e) hok fun i h1 h2 => absurd h1 (by omega)
  · apply i; intro pls u2 u3 u4 s e b ok no
    refine q true pls s ⟨fun _ i hi => ?_, fun _ => rfl⟩ e b ok
    by_cases g : i < V.lv.length
    · exact no i hi (by omega)
    · unfold NoOvL Ver.ts
      rw [List.getElem?_eq_none (Nat.not_lt.mp g)]
      exact fun t m => absurd m List.not_mem_nil
  · apply i; intro pls u2 u3 u4 s e b ok no
    obtain ⟨p, ep, et⟩ := V.lvl (i := j + (lev + 2)) (by omega)
    have V1 := fun {s : SH} (b : Bar K.pl σ s) => hV.bar b hpl n1 n2
    have C1 := fun {s : SH} (b : Bar K.pl σ s) => h.kp (b.kp hpl : Kp [0] σ s)
    refine (C1 b).ver ((V1 b).files ((V1 b).sub ep ?_))
    have hi : lev + 2 ≤ j + (lev + 2) := Nat.le_add_left _ _
    have lo : ∀ pls, PlOk V lev pls us → ∃ x, pls[j + (lev + 2)]? = some x := fun pls ok => ⟨_, List.getElem?_eq_getElem (by rw [ok.l]; omega)⟩
    obtain ⟨x, ex⟩ := lo pls ok
    have nx : ∀ {pls l4 s}, s K.pl = some (.list (plV pls)) → Bar K.pl σ s → PlOk V lev pls us → NoOvL V us (j + (lev + 2)) → R [some (.ref c), some (byts (uL us)), some (.int (j + (lev + 2) : Nat)), some (.ref p.1), l4] s := fun e b ok nov =>
      k _ _ fun Z z => z _ _ _ _ _ e b ok fun i h1 h2 => by
        rcases Nat.lt_succ_iff_lt_or_eq.mp (show i < (j + (lev + 2)) + 1 by omega) with g | g
        · exact no i h1 g
        · rw [g]; exact nov
    refine wh1 (fun m l' h' => ∀ Z : Loc → SH → Prop, (∀ pls x u4 s, m = p.2.length - x → pls[j + (lev + 2)]? = some x → s K.pl = some (.list (plV pls)) → Bar K.pl σ s → PlOk V lev pls us → Z [some (.ref c), some (byts (uL us)), some (.int (j + (lev + 2) : Nat)), some (.ref p.1), u4] s) → Z l' h')
      (fun m l' h' R k i => ?_) (m := p.2.length - x) fun Z z => z pls x u4 s rfl ex e b ok
    apply i; intro pls x u4 s em ex e b ok
    have zp : (plV pls).length ≤ 1000000 := by rw [List.length_map, ok.l]; omega
    have F := (V1 b).at ep
    have px : (plV pls)[j + (lev + 2)]? = some (.int x) := by rw [List.getElem?_map, ex]; rfl
    refine (C1 b).plc (sub_n e zp px (len_map F.e F.z ?_))
    refine dc (fun lt => ?_) fun lt => nx e b ok fun t m o => ?_
    · have lt := Int.ofNat_lt.mp lt
      have ea := List.getElem?_eq_getElem lt
      generalize p.2[x] = a at ea
      have am := List.mem_of_getElem? ea
      have ta := F.t a am
      have oa := F.ok a am
      refine (C1 b).plc (sub_n e zp px (sub_map F.e (Nat.le_trans F.z (by decide)) ea ((C1 b).usr fun u hu' => me hu'.m (ta.hi (k_user_of B oa.hiO.l (k_cmpu B hu oa.hiO.u fun y hy _ => ?_))))))
      refine dc (fun le => (C1 b).usr fun u hu' => me hu'.m (ta.lo (k_user_of B oa.loO.l (k_cmpu B hu oa.loO.u fun y2 _ hy2 => ?_)))) fun gt => ?_
      · have le := hy.mp le
        refine dc (fun ge => q false pls s ⟨fun z => (nomatch z), fun z => absurd (ov_t le (hy2.mp ge)) (z _ hi a (by rw [et]; exact am))⟩ e b ok) fun lt2 => nx e b ok fun t m o => ?_
        obtain ⟨o1, o2⟩ := ov_of o
        rw [et] at m
        obtain ⟨i, hi'⟩ := List.getElem?_of_mem m
        rcases Nat.lt_trichotomy i x with g | g | g
        · exact Nat.not_lt.mpr o1 ((ok.h _ x hi ex).2 i t g (by rw [et]; exact hi'))
        · rw [g, ea] at hi'; cases hi'; exact lt2 (hy2.mpr o2)
        · have n := hs (j + (lev + 2))
          rw [et] at n
          have n := n.at ea hi' g
          rw [nxt_p (by omega)] at n
          exact Nat.not_lt.mpr (Nat.le_trans o2 le) n
      · have gt := Nat.not_le.mp fun z => gt (hy.mpr z)
        refine (C1 b).plc ⟨⟨_, rfl⟩, sub_n e zp px ?_⟩
        refine .inl ⟨_, e, Int.natCast_nonneg _, Int.ofNat_lt.mpr (List.getElem?_eq_some_iff.mp px).1, by omega, ?_⟩
        refine k (p.2.length - (x + 1)) _ _ (by rw [em]; exact Nat.sub_succ_lt_self _ _ lt) fun Z z => z (pls.set (j + (lev + 2)) (x + 1)) (x + 1) _ _ rfl ?_ ?_ (b.trans (Bar.upd _ _ _)) (ok.inc hi ex (by rw [et]; exact ea) gt)
        · rw [List.getElem?_set_self (List.getElem?_eq_some_iff.mp ex).1]
        · rw [upd_same, Int.toNat_natCast]; exact congrArg (fun l => some (SO.list l)) List.map_set.symm
    · rw [et] at m
      obtain ⟨i, hi'⟩ := List.getElem?_of_mem m
      have hx := (ok.h _ x hi ex).2 i t (Nat.lt_of_lt_of_le (List.getElem?_eq_some_iff.mp hi').1 (Nat.not_lt.mp fun z => lt (Int.ofNat_lt.mpr z))) (by rw [et]; exact hi')
      exact Nat.not_lt.mpr (ov_of o).1 hx
end
end Mine
namespace Mine
noncomputable def dels (lev : Nat) (inp : List (Addr × List AT)) (j : Nat) : List (Nat × Nat) := ((List.range j).map fun i => ((inp[i]?.map Prod.snd).getD []).map fun t => (lev + i, t.2.n)).flatten
theorem dels_one {lev : Nat} {inp : List (Addr × List AT)} {j : Nat} {p : Addr × List AT} (e : inp[j]? = some p) : dels lev inp (j + 1) = dels lev inp j ++ p.2.map fun t => (lev + j, t.2.n) := by
  unfold dels; rw [List.range_succ, List.map_append, List.flatten_append, List.map_singleton, List.flatten_singleton, e]; rfl
section
variable {w : Wd} {H0 : Heap} (B : Base w H0) {d : Nat} {σ : SH} {Q : QV}
include B
theorem k_adddel {c : Addr} {lev : Nat} {K : CK} {inp : List (Addr × List AT)} (h : CompAt σ c lev K) (hE : EditAt σ K.e K.dl K.al K.cl) (hil : σ K.il = some (.list (inp.map lr))) (h2 : inp.length = 2) (hF : ∀ p ∈ inp, FL σ p.1 p.2 ∧ p.1 ≠ K.dl) (hz : ∀ j, (dels lev inp j).length ≤ 100) (hdl : σ K.dl = some (.list [])) (n2 : K.il ≠ K.dl)
    (q : ∀ s, s K.dl = some (.list ((dels lev inp 2).map delSV)) → Bar K.dl σ s → Q .none s) : CallF (GG w H0) (d + 1) (.ref 589) [.ref c] Q σ := by
  refine fnC B (ok_Compaction_add_deletions B) rfl (f_range1 (by decide) (by decide) ?_)
  refine forR (n := 2) (fun j l' h' => ∀ Z : Loc → SH → Prop, (∀ u1 u2 s, s K.dl = some (.list ((dels lev inp j).map delSV)) → Bar K.dl σ s → Z [some (.ref c), u1, u2] s) → Z l' h')
    (fun i => trivial) (fun l' h' i => ?_) (fun j l' h' R hj k i => ?_) fun Z z => z none none σ hdl fun _ _ _ e => e
  · apply i; intro u1 u2 s e b
    exact q s e b
  · apply i; intro u1 u2 s e b
    have kp : ∀ {s : SH}, Bar K.dl σ s → Kp [0] σ s := fun b => b.kp hdl
    have ep := List.getElem?_eq_getElem (l := inp) (i := j) (by rw [h2]; exact hj)
    generalize inp[j]'_ = p at ep
    obtain ⟨F, nl⟩ := hF p (List.mem_of_getElem? ep)
    refine (h.kp (kp b)).inp (sub_map (b _ _ n2 hil) (by rw [h2]; decide) ep (itl (b _ _ nl F.e) ?_))
    refine for1 (fun rest l' h' => ∀ Z : Loc → SH → Prop, (∀ dn u2 s, p.2 = dn ++ rest → s K.dl = some (.list ((dels lev inp j ++ dn.map fun t => (lev + j, t.2.n)).map delSV)) → Bar K.dl σ s → Z [some (.ref c), some (.int j), u2] s) → Z l' h')
      (fun i => ?_) (fun l' h' i => ?_) (fun t rest l' h' R k2 i => ?_) fun Z z => z [] _ s rfl (by rw [List.map_nil, List.append_nil]; exact e) b
    · apply i; intro _ _ s _ _ b; exact b _ _ nl F.e
    · apply i; intro dn u2 s e1 e b
      rw [List.append_nil] at e1
      exact k _ _ fun Z z => z _ _ s (by rw [dels_one ep, e1]; exact e) b
    · apply i; intro dn u2 s e1 e b
      have ht := F.t t (by rw [e1]; exact List.mem_append_right _ List.mem_cons_self)
      refine (h.kp (kp b)).edt ((hE.kp (kp b)).del (me (m_app e) ((h.kp (kp b)).lv ((ht.kp (kp b)).num (app e ?_ fun s2 g2 b2 => ?_)))))
      · have z := hz (j + 1)
        rw [dels_one ep, e1, List.map_append, List.length_append, List.length_append] at z
        rw [List.length_map, List.length_append]
        omega
      · exact k2 _ _ fun Z z => z (dn ++ [t]) _ s2 (by rw [List.append_assoc]; exact e1) (by rw [g2, List.map_append (l₁ := dn), ← List.append_assoc, List.map_append (l₂ := List.map _ [t])]; rfl) (b.trans b2)
end
structure SF (f : Nat → Option SV) (c : Addr) (last : Nat) (cur : SV) (newer : Int) (st : Bool) : Prop where
  c : f 53 = some (.ref c)
  l : f 24 = some (.int last)
  cur : f 54 = some cur
  nw : f 55 = some (.int newer)
  st : f 56 = some (.bool st)
  nm : NM f
section
variable {f : Nat → Option SV} {c : Addr} {last : Nat} {cur : SV} {newer : Int} {st : Bool} (h : SF f c last cur newer st)
include h
theorem SF.setCur (x : SV) : SF (setA f 54 x) c last x newer st := ⟨h.c, h.l, rfl, h.nw, h.st, h.nm.set rfl⟩
theorem SF.setNw (x : Int) : SF (setA f 55 (.int x)) c last cur x st := ⟨h.c, h.l, h.cur, rfl, h.st, h.nm.set rfl⟩
theorem SF.setSt (x : Bool) : SF (setA f 56 (.bool x)) c last cur newer x := ⟨h.c, h.l, h.cur, h.nw, rfl, h.nm.set rfl⟩
end
noncomputable def curV : Option Nat → SV
  | none => .none
  | some u => byts (uL u)
structure TE (s : SH) (c : Addr) (lev : Nat) (K : CK) (P : Opt) (V : Ver) (g : List AT) (pls : List Nat) : Prop where
  cp : CompAt s c lev K
  op : IsOpt s K.p P
  gr : FL s K.gl g
  ve : IsVer s K.v V
  pl : s K.pl = some (.list (plV pls))
theorem TE.kp {s s' : SH} {c : Addr} {lev : Nat} {K : CK} {P : Opt} {V : Ver} {g : List AT} {pls : List Nat} (h : TE s c lev K P V g pls) (k : Kp [690] s s') : TE s' c lev K P V g pls := ⟨h.cp.kp k, h.op.kp k, h.gr.kp k, h.ve.kp k, k _ _ h.pl rfl⟩
structure TS (s : SH) (a c : Addr) (lev : Nat) (K : CK) (P : Opt) (V : Ver) (g : List AT) (pls : List Nat) (last : Nat) (cur : Option Nat) : Prop where
  e : TE s c lev K P V g pls
  i : ∃ dd f newer st, s a = some (.inst 690 dd f) ∧ SF f c last (curV cur) newer st ∧ ∀ u, cur = some u → newer ≤ last
noncomputable def Bar3 (a c p : Addr) (s s' : SH) : Prop := ∀ b o, b ≠ a → b ≠ c → b ≠ p → s b = some o → s' b = some o
section
variable {w : Wd} {H0 : Heap} (B : Base w H0) {d : Nat} {σ : SH} {Q : QV}
include B
theorem k_turn {a c : Addr} {lev : Nat} {K : CK} {P : Opt} {V : Ver} {g : List AT} {pls : List Nat} {last : Nat} {cur : Option Nat} {x : Row} (T : TS σ a c lev K P V g pls last cur) (hp : OkO P) (hn : P.num = V.lv.length) (hs : ∀ i, Srt i (V.ts i)) (n1 : V.fl ≠ K.pl) (n2 : ∀ p ∈ V.lv, p.1 ≠ K.pl) (n3 : K.gl ≠ K.pl)
    (hok : PlOk V lev pls x.u) (hl : lev ≤ 12) (hla : last < 256) (hx : x.Ok) (hxl : x.s ≤ last) (hcur : ∀ u, cur = some u → u < 6)
    (q : ∀ b pls' s, TS s a c lev K P V g pls' last (some x.u) → PlOk V lev pls' x.u → (b = true ↔ (cur = some x.u ∨ (x.k = 0 ∧ ∀ i, lev + 2 ≤ i → NoOvL V x.u i))) → Bar3 a c K.pl σ s → Q (.tup [.bool false, .bool b]) s) :
    CallF (GG w H0) (d + 7) (.ref 687) [.ref a, .byt x.B, .int (-1)] Q σ := by
  obtain ⟨E, dd, f, nw, st, e, sf, hnw⟩ := T
  have hac : a ≠ c := fun z => by obtain ⟨_, _, _, _, _, _, _, g, _⟩ := E.cp; rw [← z, e] at g; cases g
  have hap : a ≠ K.pl := fun z => by have g := E.pl; rw [← z, e] at g; cases g
  refine fnC B (ok_Sieve_turn B) rfl (k_split B hx.s hx.k hx.l ?_)
  refine attr_inst e sf.c rfl rfl (me (E.cp.m 15 (x := 13) (by kernel_rfl)) (k_stop B E.cp E.op hp E.gr hx fun b s1 cp b1 => ?_))
  have k1 : Kp [592] σ s1 := by obtain ⟨_, _, _, _, _, _, _, g, _⟩ := E.cp; exact b1.kp g
  have E1 : TE s1 c lev K P V g pls := ⟨cp, E.op.kp k1, E.gr.kp k1, E.ve.kp k1, k1 _ _ E.pl rfl⟩
  have e1 := b1 _ _ hac e
  have bb1 : Bar3 a c K.pl σ s1 := fun y o _ h2 _ e => b1 y o h2 e
  have step : ∀ {f : Nat → Option SV} {s s' : SH}, s a = some (.inst 690 dd f) → TE s c lev K P V g pls → Bar3 a c K.pl σ s → Bar a s s' → TE s' c lev K P V g pls ∧ Bar3 a c K.pl σ s' := fun e E b3 b => ⟨E.kp (b.kp e), fun y o h1 h2 h3 e => b y o h1 (b3 y o h1 h2 h3 e)⟩
  -- the end: from the test of what is dropped
  have tail : ∀ {f st s} {nw : Int}, s a = some (.inst 690 dd f) → SF f c last (byts (uL x.u)) nw st → TE s c lev K P V g pls → Bar3 a c K.pl σ s → (nw ≤ last ↔ cur = some x.u) →
      wpB (GG w H0) (d + 6) (SL.drop 5 b_Sieve_turn) (retK Q) [some (.ref a), some (.byt x.B), some (.int (-1)), some (byts (uL x.u)), some (.int x.s), some (.int x.k), some (.bool false), none] s := by
    intro f st s nw e sf E b3 hc
    refine attr_inst e sf.nw rfl rfl (attr_inst e sf.l rfl rfl ?_)
    have fin : ∀ {s pls'} {f : Nat → Option SV} (b : Bool), s a = some (.inst 690 dd f) → SF f c last (byts (uL x.u)) nw st → TE s c lev K P V g pls' → PlOk V lev pls' x.u → Bar3 a c K.pl σ s → (b = true ↔ (cur = some x.u ∨ (x.k = 0 ∧ ∀ i, lev + 2 ≤ i → NoOvL V x.u i))) →
        wpB (GG w H0) (d + 6) (SL.drop 7 b_Sieve_turn) (retK Q) [some (.ref a), some (.byt x.B), some (.int (-1)), some (byts (uL x.u)), some (.int x.s), some (.int x.k), some (.bool false), some (.bool b)] s := by
      intro s pls' f b e sf E ok b3 hb
      exact set1 e fun s1 e1 b1 => q b pls' s1 ⟨E.kp (b1.kp e), dd, _, x.s, st, e1, sf.setNw x.s, fun _ _ => Int.ofNat_le.mpr hxl⟩ ok hb fun y o h1 h2 h3 e => b1 y o h1 (b3 y o h1 h2 h3 e)
    refine dc (fun le => fin true e sf E hok b3 ⟨fun _ => .inl (hc.mp le), fun _ => rfl⟩) fun nle => ?_
    have nc := mt hc.mpr nle
    refine bc (eqz x.k) (fun k0 => attr_inst e sf.l rfl rfl (d1 (Int.ofNat_le.mpr hxl) ?_)) fun k0 => bn (eqz x.k) k0 (fin false e sf E hok b3 ⟨fun z => (nomatch z), fun z => z.elim (fun z => absurd z nc) fun z => absurd z.1 k0⟩)
    refine attr_inst e sf.c rfl rfl (me (E.cp.m 16 (x := 14) (by kernel_rfl)) (k_base B E.cp E.op E.ve hn hs n1 n2 E.pl hok hx.u hl fun b pls' s2 hb e2 b2 ok2 => ?_))
    have kp : Kp [0] s s2 := b2.kp E.pl
    exact fin b (b2 _ _ hap e) sf ⟨E.cp.kp kp, E.op.kp kp, E.gr.bar E.pl rfl b2 n3, E.ve.bar b2 E.pl n1 n2, e2⟩ ok2 (fun y o h1 h2 h3 e => b2 y o h3 (b3 y o h1 h2 h3 e)) (hb.trans ⟨fun z => .inr ⟨k0, z⟩, fun z => z.elim (fun z => absurd z nc) fun z => z.2⟩)
  have mid : ∀ {f st s}, s a = some (.inst 690 dd f) → SF f c last (curV cur) nw st → TE s c lev K P V g pls → Bar3 a c K.pl σ s →
      wpB (GG w H0) (d + 6) (SL.drop 2 b_Sieve_turn) (retK Q) [some (.ref a), some (.byt x.B), some (.int (-1)), some (byts (uL x.u)), some (.int x.s), some (.int x.k), none, none] s := by
    intro f st s e sf E b3
    refine attr_inst e sf.cur (by cases cur <;> rfl) rfl ?_
    have turn : cur ≠ some x.u → wpB (GG w H0) (d + 6) (S.body (SL.at 3 b_Sieve_turn)) (KB (wpB (GG w H0) (d + 6) (SL.drop 4 b_Sieve_turn)) (retK Q)) [some (.ref a), some (.byt x.B), some (.int (-1)), some (byts (uL x.u)), some (.int x.s), some (.int x.k), some (.bool false), none] s := fun nc => set1 e fun s1 e1 b1 => set1 e1 fun s2 e2 b2 => set1 e2 fun s3 e3 b3' => by
      have z1 := step e E b3 b1
      have z2 := step e1 z1.1 z1.2 b2
      have z3 := step e2 z2.1 z2.2 b3'
      exact tail e3 ((((sf.setCur (byts (uL x.u))).setNw 72057594037927936).setSt false)) z3.1 z3.2 ⟨fun z => absurd z (by omega), fun z => absurd z nc⟩
    cases hcu : cur with
    | none => exact turn (by rw [hcu]; exact fun z => nomatch z)
    | some u =>
      have e54 : f 54 = some (byts (uL u)) := by rw [sf.cur, hcu]; rfl
      refine attr_inst e e54 rfl rfl ?_
      refine bc (ne_u _ hx.u _ (hcur u hcu)) (fun ne => turn (by rw [hcu]; exact fun z => ne (Option.some.inj z).symm)) fun eq => ?_
      have eq := Decidable.not_not.mp eq
      refine set1 e fun s1 e1 b1 => ?_
      have z1 := step e E b3 b1
      have sf' := sf.setSt false
      rw [hcu, ← eq] at sf'
      exact tail e1 sf' z1.1 z1.2 (iff_of_true (hnw u hcu) (by rw [hcu, eq]))
  cases b with
  | true =>
    refine set1 e1 fun s2 e2 b2 => ?_
    have z := step e1 E1 bb1 b2
    exact mid e2 (sf.setSt true) z.1 z.2
  | false => exact mid e1 sf E1 bb1
end
end Mine
namespace Mine
noncomputable def Cl (ts U : List AT) : Prop := ∀ lo hi, Hull U lo hi → ∀ t ∈ ts, t ∉ U → ov lo hi t.2 ≠ true
structure Pk (ts ts1 U W : List AT) (y : Row) : Prop where
  ne : U ≠ []
  sub : U.Sublist ts
  cl : Cl ts U
  low : ∀ lo hi, Hull U lo hi → W = ovs lo hi ts1
  top : Hi U [] y
theorem Hull.uniq {U : List AT} {a b c d : Nat} (h : Hull U a b) (k : Hull U c d) : a = c ∧ b = d := by
  obtain ⟨t1, m1, e1⟩ := h.loM
  obtain ⟨t2, m2, e2⟩ := h.hiM
  obtain ⟨t3, m3, e3⟩ := k.loM
  obtain ⟨t4, m4, e4⟩ := k.hiM
  exact ⟨Nat.le_antisymm (e3 ▸ h.los t3 m3) (e1 ▸ k.los t1 m1), Nat.le_antisymm (e2 ▸ k.his t2 m2) (e4 ▸ h.his t4 m4)⟩
theorem Hull.six {U : List AT} {a b : Nat} (h : Hull U a b) (ok : ∀ t ∈ U, t.2.Ok) : a < 6 ∧ b < 6 := by
  obtain ⟨t1, m1, e1⟩ := h.loM
  obtain ⟨t2, m2, e2⟩ := h.hiM
  exact ⟨e1 ▸ (ok t1 m1).loO.u, e2 ▸ (ok t2 m2).hiO.u⟩
theorem Srt.tot {lev : Nat} {ts : List AT} (h : Srt lev ts) {a b : AT} (ha : a ∈ ts) (hb : b ∈ ts) (n : a ≠ b) : nxt lev a.2 b.2 ∨ nxt lev b.2 a.2 := by
  obtain ⟨i, hi⟩ := List.getElem?_of_mem ha
  obtain ⟨j, hj⟩ := List.getElem?_of_mem hb
  rcases Nat.lt_trichotomy i j with g | g | g
  · exact .inl (h.at hi hj g)
  · rw [g, hj] at hi; exact absurd (Option.some.inj hi).symm n
  · exact .inr (h.at hj hi g)
theorem cl_ov {lev lo0 hi0 l h : Nat} {ts : List AT} (O : OvR lev ts lo0 hi0 l h) (hs : Srt lev ts) (ok : ∀ t ∈ ts, t.2.Ok) : Cl ts (ovs l h ts) := fun lo hi H t mt nt o => by
  obtain ⟨o1, o2⟩ := ov_of o
  obtain ⟨p, mp, ep⟩ := H.loM
  obtain ⟨r, mr, er⟩ := H.hiM
  obtain ⟨mp, op⟩ := List.mem_filter.mp mp
  obtain ⟨mr, or'⟩ := List.mem_filter.mp mr
  have fin : l ≤ t.2.hi.u → t.2.lo.u ≤ h → False := fun h1 h2 => nt (List.mem_filter.mpr ⟨mt, ov_t h1 h2⟩)
  by_cases c : lev = 0
  · exact fin (Nat.le_trans (O.z c p mp op).1 (ep ▸ o1)) (Nat.le_trans o2 (er ▸ (O.z c r mr or').2))
  · have pt : p ≠ t := fun z => nt (z ▸ List.mem_filter.mpr ⟨mp, op⟩)
    have rt : r ≠ t := fun z => nt (z ▸ List.mem_filter.mpr ⟨mr, or'⟩)
    have h1 := hs.tot mp mt pt
    have h2 := hs.tot mr mt rt
    rw [nxt_p c, nxt_p c] at h1 h2
    rcases h1 with h1 | h1
    · rcases h2 with h2 | h2
      · exact Nat.lt_irrefl _ (Nat.lt_of_lt_of_le (er ▸ h2) o2)
      · exact fin (Nat.le_trans (ov_of op).1 (Nat.le_trans (Nat.le_of_lt h1) (ok t mt).lohi)) (Nat.le_trans (ok t mt).lohi (Nat.le_trans (Nat.le_of_lt h2) (ov_of or').2))
    · exact Nat.lt_irrefl _ (Nat.lt_of_lt_of_le (ep ▸ h1) o1)
theorem cl_one {lev : Nat} {ts : List AT} {a : AT} (c : lev ≠ 0) (hs : Srt lev ts) (ma : a ∈ ts) : Cl ts [a] := fun lo hi H t mt nt o => by
  obtain ⟨o1, o2⟩ := ov_of o
  obtain ⟨p, mp, ep⟩ := H.loM
  obtain ⟨r, mr, er⟩ := H.hiM
  rw [List.mem_singleton.mp mp] at ep
  rw [List.mem_singleton.mp mr] at er
  have h := hs.tot ma mt fun z => nt (z ▸ List.mem_singleton.mpr rfl)
  rw [nxt_p c, nxt_p c] at h
  rcases h with h | h
  · exact Nat.lt_irrefl _ (Nat.lt_of_lt_of_le (er ▸ h) o2)
  · exact Nat.lt_irrefl _ (Nat.lt_of_lt_of_le (ep ▸ h) o1)
theorem set_l {s : SH} {a : Addr} {l : List SV} {k : Nat} {v : SV} {R : SH → Prop} (h : s a = some (.list l)) (hk : k < l.length) (hz : l.length ≤ 1000) (q : ∀ s', s' a = some (.list (l.set k v)) → Bar a s s' → R s') : setSubW (.ref a) (.int k) v R s :=
  .inl ⟨l, h, Int.natCast_nonneg _, Int.ofNat_lt.mpr hk, by omega, q _ (by rw [upd_same, Int.toNat_natCast]) (Bar.upd _ _ _)⟩
theorem cat_l {s : SH} {x y : Addr} {U W : List AT} {Q : QV} (hu : FL s x U) (hw : FL s y W) (hz : U.length + W.length ≤ 1000) (q : ∀ L s', s L = none → Ext s s' → FL s' L (U ++ W) → Q (.ref L) s') : binW .Add (.ref x) (.ref y) Q s :=
  ⟨rfl, _, _, hu.e, hw.e, by rw [List.length_map, List.length_map]; omega, new_w fun L s' hL e x => q L s' hL x ⟨by rw [List.map_append]; exact e, fun p m => (List.mem_append.mp m).elim (fun m => (hu.t p m).ext x) fun m => (hw.t p m).ext x, fun p m => (List.mem_append.mp m).elim (hu.ok p) (hw.ok p), by rw [List.length_append]; exact hz⟩⟩
structure Su (σ s : SH) (c : Addr) (lev : Nat) (K : CK) (n : Nat) (ptrs l0 l1 : Addr) (U W : List AT) : Prop where
  x : Ext σ s
  m : Cm s c lev K n
  il : s K.il = some (.list [.ref l0, .ref l1])
  cl : s K.cl = some (.list [])
  u : FL s l0 U
  w : FL s l1 W
  g : ∃ g, FL s K.gl g
  fS : ∀ y ∈ [c, K.e] ++ K.S, σ y = none
  n0 : l0 ∉ ptrs :: K.S
  n1 : l1 ∉ ptrs :: K.S
  n2 : K.gl ∉ ptrs :: K.S
section
variable {σ s s' : SH} {c : Addr} {lev : Nat} {K : CK} {n : Nat} {ptrs l0 l1 : Addr} {U W : List AT} (S : Su σ s c lev K n ptrs l0 l1 U W)
include S
theorem Su.ext (y : Ext s s') : Su σ s' c lev K n ptrs l0 l1 U W := ⟨S.x.trans y, S.m.ext y, y _ _ S.il, y _ _ S.cl, S.u.ext y, S.w.ext y, S.g.imp fun _ h => h.ext y, S.fS, S.n0, S.n1, S.n2⟩
theorem Su.nin {L : Addr} {p : SO} (hp : s ptrs = some p) (h : s L = none) : L ∉ ptrs :: K.S := fun m => by
  simp only [CK.S, List.mem_cons, List.not_mem_nil, or_false] at m
  rcases m with e | e | e | e | e | e <;> rw [e] at h
  · rw [hp] at h; cases h
  · rw [S.il] at h; cases h
  · rw [S.m.d] at h; cases h
  · rw [S.m.a] at h; cases h
  · rw [S.cl] at h; cases h
  · rw [S.m.p] at h; cases h
omit S in
theorem Su.ni {L : Addr} (h : L ∉ ptrs :: K.S) : L ≠ ptrs ∧ L ≠ K.il ∧ L ≠ K.dl ∧ L ≠ K.al ∧ L ≠ K.cl ∧ L ≠ K.pl := by
  simpa only [CK.S, List.mem_cons, List.not_mem_nil, or_false, not_or] using h
theorem Su.ne : K.il ≠ K.dl ∧ K.il ≠ K.al ∧ K.il ≠ K.cl ∧ K.il ≠ K.pl ∧ K.dl ≠ K.cl ∧ K.al ≠ K.cl ∧ K.cl ≠ K.pl := by
  have h := S.m.nd
  simp only [CK.S, List.nodup_cons, List.mem_cons, List.not_mem_nil, or_false, not_or] at h
  exact ⟨h.1.1, h.1.2.1, h.1.2.2.1, h.1.2.2.2, h.2.1.2.1, h.2.2.1.1, h.2.2.2.1⟩
theorem Su.put (b : Bar K.il s s') {l0' l1' : Addr} {U' W' : List AT} (e : s' K.il = some (.list [.ref l0', .ref l1'])) (hu : FL s l0' U') (hw : FL s l1' W') (n0 : l0' ∉ ptrs :: K.S) (n1 : l1' ∉ ptrs :: K.S) : Su σ s' c lev K n ptrs l0' l1' U' W' := by
  have h := S.ne
  refine ⟨fun y o e => b y o (ne_of e (S.fS K.il (by simp [CK.S]))) (S.x y o e), S.m.bar S.il b h.1.symm h.2.1.symm h.2.2.2.1.symm, e, b _ _ h.2.2.1.symm S.cl, hu.bar S.il rfl b (Su.ni n0).2.1, hw.bar S.il rfl b (Su.ni n1).2.1, S.g.imp fun _ g => g.bar S.il rfl b (Su.ni S.n2).2.1, S.fS, n0, n1, S.n2⟩
end
structure Picked (σ s : SH) (c : Addr) (lev : Nat) (K : CK) (n : Nat) (ptrs l0 l1 : Addr) (U W : List AT) (y : Row) (ps : List (Array UInt8)) : Prop where
  b : Bar ptrs σ s
  m : Cm s c lev K n
  il : s K.il = some (.list [.ref l0, .ref l1])
  u : FL s l0 U
  w : FL s l1 W
  g : ∃ g, FL s K.gl g
  p : s ptrs = some (.list ((ps.set lev y.B).map .byt))
  fS : ∀ y ∈ [c, K.e] ++ K.S, σ y = none
  n0 : l0 ∉ ptrs :: K.S
  n1 : l1 ∉ ptrs :: K.S
  n2 : K.gl ∉ ptrs :: K.S
theorem ovs_len {l h : Nat} {r : List AT} : (ovs l h r).length ≤ r.length := List.length_filter_le _ _
section
variable {w : Wd} {H0 : Heap} (B : Base w H0) {d : Nat} {σ s : SH} {Q : QV}
include B
theorem up_tail {pk p ptrs c : Addr} {P : Opt} {V : Ver} {lev n : Nat} {K : CK} {l0 l1 : Addr} {U W ts ts1 : List AT} {ps : List (Array UInt8)} {a b : Nat} (hP : IsPick σ pk p) (hO : IsOpt σ p P) (hV : IsVer σ K.v V) (hn : P.num = V.lv.length) (S : Su σ s c lev K n ptrs l0 l1 U W)
    (hp : σ ptrs = some (.list (ps.map .byt))) (hl : lev < ps.length) (zps : ps.length ≤ 1000) (ne : U ≠ []) (sub : U.Sublist ts) (cl : Cl ts U) (low : ∀ lo hi, Hull U lo hi → W = ovs lo hi ts1) (ha : a < 6) (hb : b < 6)
    (q : ∀ gl l0 l1 U W y s', Picked σ s' c lev { K with gl := gl } n ptrs l0 l1 U W y ps → Pk ts ts1 U W y → Q .none s') {q5 q7 q8 q9 q10 : Option SV} :
    wpB (GG w H0) (d + 7) (SL.drop 6 b_Picker_set_up_other) (retK Q) [some (.ref pk), some (.ref c), some (.ref ptrs), some (.int lev), some (.ref K.v), q5, some (.tup [byts (uL a), byts (uL b)]), q7, q8, q9, q10, none] s := by
  have fin : ∀ {K' : CK} {s : SH}, (∃ gl, K' = { K with gl := gl }) → Su σ s c lev K' n ptrs l0 l1 U W →
      wpB (GG w H0) (d + 7) (SL.drop 7 b_Picker_set_up_other) (retK Q) [some (.ref pk), some (.ref c), some (.ref ptrs), some (.int lev), some (.ref K.v), q5, some (.tup [byts (uL a), byts (uL b)]), q7, q8, q9, q10, none] s := by
    rintro K' s ⟨gl, rfl⟩ S
    obtain ⟨a0, r, eU⟩ := List.exists_cons_of_ne_nil ne
    refine S.m.c.inp (sub_n (k := 0) S.il (Nat.le_of_ble_eq_true rfl) rfl ((hP.ext S.x).ord fun o ho => ?_))
    have hU := S.u
    rw [eU] at hU
    refine k_key_range B hU ho fun x y s1 x1 _ hy => ?_
    have S1 := S.ext x1
    refine set_l (S1.x _ _ hp) (by rw [List.length_map]; exact hl) (by rw [List.length_map]; exact zps) fun s2 e2 b2 => ?_
    have hp1 := S1.x _ _ hp
    have hne : ∀ {z}, z ∈ K.S → z ≠ ptrs := fun m e => by
      have := S1.fS _ (List.mem_append_right _ m)
      rw [e, hp] at this; cases this
    have mm : ∀ {z}, z ∈ [K.il, K.dl, K.al, K.cl, K.pl] → z ≠ ptrs := hne
    have m2 := S1.m.bar hp1 b2 (mm (by simp)) (mm (by simp)) (mm (by simp))
    have cl2 := b2 _ _ (mm (z := K.cl) (by simp)) S1.cl
    have hn' := S1.ne
    refine m2.c.edt (m2.ed.ptr (me (m_app cl2) (app cl2 (by decide) fun s3 e3 b3 => ?_)))
    have m3 := m2.bar cl2 b3 hn'.2.2.2.2.1 hn'.2.2.2.2.2.1 hn'.2.2.2.2.2.2.symm
    have fl : ∀ {L r}, L ∉ ptrs :: K.S → FL s1 L r → FL s3 L r := fun h f => (f.bar hp1 rfl b2 (Su.ni h).1).bar cl2 rfl b3 (Su.ni h).2.2.2.2.1
    refine q gl l0 l1 U W y s3 ⟨fun z o h e => ?_, m3, b3 _ _ hn'.2.2.1 (b2 _ _ (mm (z := K.il) (by simp)) S1.il), fl S1.n0 S1.u, fl S1.n1 S1.w, S1.g.imp fun _ h => fl S1.n2 h, ?_, S1.fS, S1.n0, S1.n1, S1.n2⟩ ⟨ne, sub, cl, low, eU ▸ hy⟩
    · exact b3 z o (ne_of e (S1.fS K.cl (by simp [CK.S]))) (b2 z o h (S1.x z o e))
    · rw [b3 _ _ (mm (z := K.cl) (by simp)).symm e2, List.map_set]
  refine (hP.ext S.x).opt ((hO.ext S.x).num ?_)
  refine dc (fun lt => ?_) fun _ => fin ⟨K.gl, rfl⟩ S
  obtain ⟨p2, e2, _⟩ := V.lvl (i := lev + 2) (by omega)
  have hV' := hV.ext S.x
  refine me (hV'.m 3 (x := 2) (by kernel_rfl)) (k_overlapping B hV' e2 ha hb fun L l h s1 hL x1 F _ => ?_)
  have S1 := S.ext x1
  obtain ⟨dd, f, o, u, ga, go, sk, e, cf, io, bo⟩ := S1.m.c
  refine set1 e fun s2 g2 b2 => ?_
  have kp : Kp [592] s1 s2 := b2.kp e
  have nL := S.nin (S.x _ _ hp) hL
  exact fin ⟨L, rfl⟩ ⟨fun y ob ey => b2 y ob (ne_of ey (S.fS c (by simp))) (S1.x y ob ey), ⟨⟨dd, _, o, u, ga, go, sk, g2, cf.setGl L, io.kp kp, bo.kp kp⟩, S1.m.ed.kp kp, kp _ _ S1.m.d rfl, kp _ _ S1.m.a rfl, kp _ _ S1.m.p rfl, S1.m.nd⟩, kp _ _ S1.il rfl, kp _ _ S1.cl rfl, S1.u.kp kp, S1.w.kp kp, ⟨_, F.kp kp⟩, S1.fS, S1.n0, S1.n1, nL⟩
end
end Mine
namespace Mine
theorem eqn (a b : Nat) : ((a : Int) == b) = decide (a = b) := decide_eq_decide.mpr Int.ofNat_inj
section
variable {w : Wd} {H0 : Heap} (B : Base w H0) {d : Nat} {σ s : SH} {Q : QV}
include B
theorem k_setup {pk p ptrs c : Addr} {P : Opt} {V : Ver} {lev n : Nat} {K : CK} {l0 l1 : Addr} {U W : List AT} {p0 p1 : Addr × List AT} {ps : List (Array UInt8)} (hP : IsPick σ pk p) (hO : IsOpt σ p P) (ho : OkO P) (hV : IsVer σ K.v V) (hn : P.num = V.lv.length) (hs : Srt lev p0.2) (e0 : V.lv[lev]? = some p0) (e1 : V.lv[lev + 1]? = some p1)
    (zF : p0.2.length + p1.2.length ≤ 500) (S : Su σ s c lev K n ptrs l0 l1 U W) (hp : σ ptrs = some (.list (ps.map .byt))) (hl : lev < ps.length) (zps : ps.length ≤ 1000) (ne : U ≠ []) (sub : U.Sublist p0.2) (cl : Cl p0.2 U)
    (q : ∀ gl l0 l1 U W y s', Picked σ s' c lev { K with gl := gl } n ptrs l0 l1 U W y ps → Pk p0.2 p1.2 U W y → Q .none s') : CallF (GG w H0) (d + 8) (.ref 659) [.ref pk, .ref c, .ref ptrs] Q s := by
  have lt2 : ∀ {a b : SV}, [a, b].length ≤ 1000000 := Nat.le_of_ble_eq_true rfl
  have zU := sub.length_le
  have uW : ∀ {l h : Nat}, (ovs l h p1.2).length ≤ p1.2.length := ovs_len
  refine fnC B (ok_Picker_set_up_other B) rfl (S.m.c.lv (S.m.c.ver ?_))
  refine me ((hP.ext S.x).m 19 (x := 17) (by kernel_rfl)) (S.m.c.inp (sub_n (k := 0) S.il lt2 rfl (k_user_range B (hP.ext S.x) S.u ne fun a b s1 x1 H => ?_)))
  have S := S.ext x1
  obtain ⟨ha, hb⟩ := H.six S.u.ok
  refine me ((hV.ext S.x).m 3 (x := 2) (by kernel_rfl)) (k_overlapping B (hV.ext S.x) e1 ha hb fun L l h s2 hL x2 F O => ?_)
  obtain ⟨rfl, rfl⟩ := O.s (Nat.succ_ne_zero lev)
  have nL := S.nin (S.x _ _ hp) hL
  have S := S.ext x2
  refine S.m.c.inp (set_l (k := 1) S.il (Nat.le_of_ble_eq_true rfl) (Nat.le_of_ble_eq_true rfl) fun s3 g3 b3 => ?_)
  have S := S.put b3 g3 S.u F S.n0 nL
  have low : ∀ lo hi, Hull U lo hi → ovs l h p1.2 = ovs lo hi p1.2 := fun lo hi H' => by obtain ⟨h1, h2⟩ := H.uniq H'; rw [h1, h2]
  have cat := @ovs_len l h p1.2
  refine me ((hP.ext S.x).m 19 (x := 17) (by kernel_rfl)) (S.m.c.inp (sub_n (k := 0) S.il lt2 rfl (S.m.c.inp (sub_n (k := 1) S.il lt2 rfl (cat_l S.u S.w (by omega) fun L2 s4 hL2 x4 F4 => k_user_range B ((hP.ext S.x).ext x4) F4 (fun z => ne (List.append_eq_nil_iff.mp z).1) fun a2 b2 s5 x5 H5 => ?_)))))
  obtain ⟨ha2, hb2⟩ := H5.six F4.ok
  have S := (S.ext x4).ext x5
  refine S.m.c.inp (sub_n (k := 1) S.il lt2 rfl (len_map S.w.e S.w.z ?_))
  refine dc (fun _ => ?_) fun _ => up_tail B hP hO hV hn S hp hl zps ne sub cl low ha2 hb2 q
  refine me ((hV.ext S.x).m 3 (x := 2) (by kernel_rfl)) (k_overlapping B (hV.ext S.x) e0 ha2 hb2 fun L6 l6 h6 s6 hL6 x6 F6 O6 => ?_)
  have n6 := S.nin (S.x _ _ hp) hL6
  have S := S.ext x6
  refine (hP.ext S.x).opt ((hO.ext S.x).exp ((hP.ext S.x).opt ((hO.ext S.x).mfs ⟨by unfold small; rcases ho.e with e | e <;> rw [e] <;> decide, ?_⟩)))
  refine S.m.c.inp (sub_n (k := 1) S.il lt2 rfl (k_total B S.w (k_total B F6 ?_)))
  refine len_map F6.e F6.z (S.m.c.inp (sub_n (k := 0) S.il lt2 rfl (len_map S.u.e S.u.z ?_)))
  refine dc (fun c1 => ?_) fun c1 => d0 c1 (up_tail B hP hO hV hn S hp hl zps ne sub cl low ha2 hb2 q)
  refine dc (fun _ => ?_) fun _ => up_tail B hP hO hV hn S hp hl zps ne sub cl low ha2 hb2 q
  have ne6 : ovs l6 h6 p0.2 ≠ [] := fun z => by rw [z] at c1; exact absurd (Int.ofNat_lt.mp c1) (Nat.not_lt_zero _)
  refine me ((hP.ext S.x).m 19 (x := 17) (by kernel_rfl)) (k_user_range B (hP.ext S.x) F6 ne6 fun a7 b7 s7 x7 H7 => ?_)
  obtain ⟨ha7, hb7⟩ := H7.six F6.ok
  have S := S.ext x7
  refine me ((hV.ext S.x).m 3 (x := 2) (by kernel_rfl)) (k_overlapping B (hV.ext S.x) e1 ha7 hb7 fun L8 l8 h8 s8 hL8 x8 F8 O8 => ?_)
  obtain ⟨rfl, rfl⟩ := O8.s (Nat.succ_ne_zero lev)
  have n8 := S.nin (S.x _ _ hp) hL8
  have S := S.ext x8
  have F6 := (F6.ext x7).ext x8
  refine len_map F8.e F8.z (S.m.c.inp (sub_n (k := 1) S.il lt2 rfl (len_map S.w.e S.w.z ?_)))
  refine bc (eqn _ _) (fun _ => ?_) fun _ => up_tail B hP hO hV hn S hp hl zps ne sub cl low ha2 hb2 q
  refine S.m.c.inp (set_l (k := 0) S.il (Nat.le_of_ble_eq_true rfl) (Nat.le_of_ble_eq_true rfl) fun s9 g9 b9 => ?_)
  have F8 := F8.bar S.il rfl b9 (Su.ni n8).2.1
  have S := S.put b9 g9 F6 S.w n6 S.n1
  refine S.m.c.inp (set_l (k := 1) S.il (Nat.le_of_ble_eq_true rfl) (Nat.le_of_ble_eq_true rfl) fun s10 g10 b10 => ?_)
  have S := S.put b10 g10 S.u F8 S.n0 n8
  have cat6 := @ovs_len l6 h6 p0.2
  have cat8 := @ovs_len l8 h8 p1.2
  refine me ((hP.ext S.x).m 19 (x := 17) (by kernel_rfl)) (S.m.c.inp (sub_n (k := 0) S.il lt2 rfl (S.m.c.inp (sub_n (k := 1) S.il lt2 rfl (cat_l S.u S.w (by omega) fun L2 s4 hL2 x4 F4 => k_user_range B ((hP.ext S.x).ext x4) F4 (fun z => ne6 (List.append_eq_nil_iff.mp z).1) fun a2 b2 s5 x5 H5 => ?_)))))
  obtain ⟨ha2, hb2⟩ := H5.six F4.ok
  exact up_tail B hP hO hV hn ((S.ext x4).ext x5) hp hl zps ne6 List.filter_sublist (cl_ov O6 hs (hV.at e0).ok) (fun lo hi H' => by obtain ⟨h1, h2⟩ := H7.uniq H'; rw [h1, h2]) ha2 hb2 q
end
end Mine
namespace Mine
theorem key_ne (r : Row) : (r.B.toList == ([] : List UInt8).toArray.toList) = false := by unfold Row.B ikB; simp
theorem obn {b : Bool} {A B : Prop} (e : b = false) (q : A) : @ite Prop (b = false) (instDecidableEqBool _ _) A B := ip e q
theorem locW_in {v : SV} : ∀ {l : Loc} {i : Nat} {Q : SV → Prop}, l[i]? = some (some v) → Q v → locW l i Q
  | [], _, _, h, _ => by cases h
  | _ :: _, 0, _, h, q => by cases h; exact q
  | _ :: l, i + 1, _, h, q => locW_in (l := l) (i := i) h q
theorem brk1 {G : Gd} {d x y : Nat} {p1 p2 p3 p4 : Pos} {K : KF} {l : Loc} {v : SV} {h : SH} (e : l[y]? = some (some v)) (q : K .brk (l.set x (some v)) h) : wpB G d (.cons (.assign (.loc x p1) (.loc y p2) p3) (.cons (.brk p4) .nil)) K l h := locW_in e q
section
variable {w : Wd} {H0 : Heap} (B : Base w H0) {d : Nat} {σ s : SH} {Q : QV}
include B
theorem k_pick_none {pk p v dd ptrs : Addr} {f : Nat → Option SV} {x y : Int} (hP : IsPick σ pk p) (h : σ v = some (.inst 466 dd f)) (hs : f 37 = some (.tup [.int x, .int y])) (lt : x < y) (q : Q .none σ) : CallF (GG w H0) (d + 2) (.ref 645) [.ref pk, .ref v, .ref ptrs] Q σ := by
  refine fnC B (ok_Picker_pick B) rfl (me (hP.m 18 (x := 16) (by kernel_rfl)) (k_needs B h hs ?_))
  exact ip (c := (!decide (y ≤ x)) = true) (by simp; exact lt) q
theorem k_pick {pk p v dd ptrs : Addr} {P : Opt} {V : Ver} {lev : Nat} {p0 p1 : Addr × List AT} {ps : List (Array UInt8)} {f : Nat → Option SV} {x y : Int} (hP : IsPick σ pk p) (hO : IsOpt σ p P) (ho : OkO P) (hV : IsVer σ v V) (hn : P.num = V.lv.length) (hs : Srt lev p0.2) (e0 : V.lv[lev]? = some p0) (e1 : V.lv[lev + 1]? = some p1)
    (zF : p0.2.length + p1.2.length ≤ 500) (ne : p0.2 ≠ []) (hp : σ ptrs = some (.list (ps.map .byt))) (hl : lev < ps.length) (zps : ps.length ≤ 1000) (hpo : ∀ b ∈ ps, b = #[] ∨ ∃ r : Row, r.Ok ∧ b = r.B) (h : σ v = some (.inst 466 dd f)) (hsc : f 37 = some (.tup [.int x, .int y])) (hsl : f 38 = some (.int lev)) (le : y ≤ x)
    (q : ∀ c K l0 l1 U W y s', Picked σ s' c lev K P.num ptrs l0 l1 U W y ps → Pk p0.2 p1.2 U W y → K.v = v → K.p = p → Q (.ref c) s') : CallF (GG w H0) (d + 10) (.ref 645) [.ref pk, .ref v, .ref ptrs] Q σ := by
  have F0 := hV.at e0
  obtain ⟨a0, r0, ea⟩ := List.exists_cons_of_ne_nil ne
  have m0 : a0 ∈ p0.2 := by rw [ea]; exact List.mem_cons_self
  obtain ⟨pb, hpb⟩ : ∃ pb, ps[lev]? = some pb := ⟨_, List.getElem?_eq_getElem hl⟩
  refine fnC B (ok_Picker_pick B) rfl (me (hP.m 18 (x := 16) (by kernel_rfl)) (k_needs B h hsc ?_))
  refine in_ (c := (!decide (y ≤ x)) = true) (by simp [le]) (attr_inst h hsl rfl rfl (hP.opt (k_new_comp B hO ho.num fun c il l0 l1 gl e dl al cl pl s1 x1 m ei e0' e1' eg ec fr' nin => ?_)))
  have hV1 := hV.ext x1
  have F1 := F0.ext x1
  refine hV1.files (hV1.sub e0 (sub_map (x1 _ _ hp) (Nat.le_trans zps (by decide)) hpb (sub_map (k := 0) F1.e (Nat.le_trans F1.z (by decide)) (by rw [ea]; rfl) (itl F1.e ?_))))
  have tail : ∀ {a : AT} {u8 : Option SV}, a ∈ p0.2 → wpB (GG w H0) (d + 9) (SL.drop 7 b_Picker_pick) (retK Q) [some (.ref pk), some (.ref v), some (.ref ptrs), some (.int lev), some (.ref c), some (.ref p0.1), some (.byt pb), some (.ref a.1), u8, none] s1 := by
    intro a u8 ma
    refine new_w fun L s2 hL eL x2 => ?_
    have S0 : Su σ s1 c lev ⟨v, p, il, gl, e, pl, dl, al, cl⟩ P.num ptrs l0 l1 [] [] := by
      have old := x1 _ _ hp
      have np : ∀ {z}, s1 z = some (.list []) → z ∈ [l0, l1, gl] → z ∉ ptrs :: CK.S ⟨v, p, il, gl, e, pl, dl, al, cl⟩ := fun e m mm => (List.mem_cons.mp mm).elim (fun z => ne_of hp (nin _ m).2 z.symm) fun mm => (nin _ m).1 mm
      exact ⟨x1, m, ei, eg |> fun _ => ec, ⟨e0', fun _ h => absurd h List.not_mem_nil, fun _ h => absurd h List.not_mem_nil, Nat.zero_le _⟩, ⟨e1', fun _ h => absurd h List.not_mem_nil, fun _ h => absurd h List.not_mem_nil, Nat.zero_le _⟩, ⟨[], eg, fun _ h => absurd h List.not_mem_nil, fun _ h => absurd h List.not_mem_nil, Nat.zero_le _⟩, fr', np e0' (by simp), np e1' (by simp), np eg (by simp)⟩
    have nL := S0.nin (x1 _ _ hp) hL
    have S := S0.ext x2
    refine S.m.c.inp (set_l (k := 0) S.il (Nat.le_of_ble_eq_true rfl) (Nat.le_of_ble_eq_true rfl) fun s3 g3 b3 => ?_)
    have FL1 : FL s2 L [a] := ⟨eL, fun z mz => by rw [List.mem_singleton.mp mz]; exact (F1.t a ma).ext x2, fun z mz => by rw [List.mem_singleton.mp mz]; exact F1.ok a ma, Nat.le_of_ble_eq_true rfl⟩
    have S := S.put b3 g3 FL1 S.w nL S.n1
    refine bc (eqz lev) (fun z => ?_) fun z => ?_
    · refine me ((hP.ext S.x).m 19 (x := 17) (by kernel_rfl)) (S.m.c.inp (sub_n (k := 0) S.il (Nat.le_of_ble_eq_true rfl) rfl (k_user_range B (hP.ext S.x) S.u (by simp) fun a1 b1 s4 x4 H => ?_)))
      obtain ⟨ha, hb⟩ := H.six S.u.ok
      have S := S.ext x4
      have e00 : V.lv[0]? = some p0 := by rw [← z]; exact e0
      refine me ((hV.ext S.x).m 3 (x := 2) (by kernel_rfl)) (k_overlapping B (hV.ext S.x) (i := 0) e00 ha hb fun L5 l5 h5 s5 hL5 x5 F5 O5 => ?_)
      have n5 := S.nin (S.x _ _ hp) hL5
      have S := S.ext x5
      refine S.m.c.inp (set_l (k := 0) S.il (Nat.le_of_ble_eq_true rfl) (Nat.le_of_ble_eq_true rfl) fun s6 g6 b6 => ?_)
      have S := S.put b6 g6 F5 S.w n5 S.n1
      have mO : a ∈ ovs l5 h5 p0.2 := List.mem_filter.mpr ⟨ma, ov_t (Nat.le_trans O5.la (Nat.le_trans (H.los a (by simp)) (F0.ok a ma).lohi)) (Nat.le_trans (F0.ok a ma).lohi (Nat.le_trans (H.his a (by simp)) O5.ha))⟩
      exact me ((hP.ext S.x).m 21 (x := 19) (by kernel_rfl)) (k_setup B hP hO ho hV hn hs e0 e1 zF S hp hl zps (List.ne_nil_of_mem mO) List.filter_sublist (cl_ov (lev := 0) O5 (by rw [← z]; exact hs) F0.ok) fun gl l0 l1 U W y s' K' P' => q c _ l0 l1 U W y s' K' P' rfl rfl)
    · exact me ((hP.ext S.x).m 21 (x := 19) (by kernel_rfl)) (k_setup B hP hO ho hV hn hs e0 e1 zF S hp hl zps (by simp) (List.singleton_sublist.mpr ma) (cl_one z hs ma) fun gl l0 l1 U W y s' K' P' => q c _ l0 l1 U W y s' K' P' rfl rfl)
  refine for1 (fun rest l' h' => ∀ Z : Loc → SH → Prop, (∀ a u8, a ∈ p0.2 → (∀ b ∈ rest, b ∈ p0.2) → Z [some (.ref pk), some (.ref v), some (.ref ptrs), some (.int lev), some (.ref c), some (.ref p0.1), some (.byt pb), some (.ref a.1), u8, none] s1) → Z l' h')
    (fun i => ?_) (fun l' h' i => ?_) (fun t rest l' h' R k i => ?_) fun Z z => z a0 none m0 fun _ h => h
  · apply i; intro _ _ _ _; exact F1.e
  · apply i; intro a u8 ma _; exact tail ma
  · apply i; intro a u8 ma mr
    have mt := mr t List.mem_cons_self
    have nx : R _ s1 := k _ _ fun Z z => z a (some (.ref t.1)) ma fun b hb => mr b (List.mem_cons_of_mem _ hb)
    rcases hpo pb (List.mem_of_getElem? hpb) with hb | ⟨r, or', hb⟩
    · subst hb
      exact tail mt
    · refine obn (b := (pb.toList == ([] : List UInt8).toArray.toList)) (by rw [hb]; exact key_ne r) ?_
      subst hb
      refine (hP.ext x1).ord fun o hO => me hO.m ((F1.t t mt).hi (k_icmp B hO (F1.ok t mt).hiO or' fun z _ => ?_))
      exact dc (fun _ => brk1 rfl (tail mt)) fun _ => nx
end
end Mine
namespace Mine
theorem ov_no {l h : Nat} {t : Tab} (n : ¬(l ≤ t.hi.u ∧ t.lo.u ≤ h)) : ov l h t ≠ true := fun o => n (ov_of o)
theorem find_plain {lev u : Nat} (c : lev ≠ 0) : ∀ r : List AT, (∀ p ∈ r, p.2.Ok) → Srt lev r →
    ∃ n, n ≤ r.length ∧ (∀ (i : Nat) (p : AT), r[i]? = some p → (p.2.hi.u < u ↔ i < n)) ∧ ovs u u r = r[n]?.toList.filter fun p => decide (p.2.lo.u ≤ u)
  | [], _, _ => ⟨0, Nat.le_refl _, ⟨fun i p e => (by cases e), rfl⟩⟩
  | t :: r, ok, s => by
    have s := List.pairwise_cons.mp s
    have ok' := fun p m => ok p (List.mem_cons_of_mem t m)
    by_cases h : t.2.hi.u < u
    · obtain ⟨n, h1, h2, h3⟩ := find_plain c r ok' s.2
      refine ⟨n + 1, Nat.succ_le_succ h1, fun i p e => ?_, ?_⟩
      · cases i with
        | zero => cases e; exact iff_of_true h (Nat.succ_pos n)
        | succ i => rw [h2 i p e]; exact Nat.succ_lt_succ_iff.symm
      · rw [ovs, List.filter_cons_of_neg (p := fun a : AT => ov u u a.2) (a := t) (l := r) (ov_no fun o => Nat.not_le.mpr h o.1)]
        exact h3
    · have h := Nat.not_lt.mp h
      have nx : ∀ p ∈ r, u < p.2.lo.u := fun p m => Nat.lt_of_le_of_lt h (nxt_p c ▸ s.1 p m)
      refine ⟨0, Nat.zero_le _, fun i p e => iff_of_false ?_ (Nat.not_lt_zero _), ?_⟩
      · cases i with
        | zero => cases e; exact Nat.not_lt.mpr h
        | succ i =>
          have m := List.mem_of_getElem? (l := r) e
          exact Nat.not_lt.mpr (Nat.le_trans (Nat.le_of_lt (nx p m)) (ok' p m).lohi)
      · have e : ovs u u r = [] := List.filter_eq_nil_iff.mpr fun p m => ov_no fun o => Nat.not_le.mpr (nx p m) o.2
        have e1 : ov u u t.2 = decide (t.2.lo.u ≤ u) := by unfold ov; rw [decide_eq_true h, Bool.true_and]
        show List.filter _ (t :: r) = List.filter _ [t]
        rw [List.filter_cons, List.filter_cons, e1, show r.filter (fun a => ov u u a.2) = [] from e]; rfl
noncomputable def Ver.all (V : Ver) : List AT := (V.ts 0).reverse ++ V.lv.tail.flatMap (·.2)
noncomputable def candSV (x : Nat × AT) : SV := .tup [.int x.1, .ref x.2.1]
theorem rank_lt_u {h : Row} {u last : Nat} (hs : h.s ≤ last) (hk : h.k < 2) (hl : last < 256) : rank h < rank ⟨u, last, 1, 0⟩ ↔ h.u < u := by
  unfold rank; dsimp only; omega
theorem meth_dict {G : Gd} {σ : SH} {a : Addr} {m : List (Int × SV)} {ep x : Nat} {f : Value} (h : σ a = some (.dict m ep)) (hm : (x, f) ∈ G.dm) : MRes G (.ref a) x f σ := ⟨a, rfl, .inr (.inr ⟨m, ep, h, hm⟩)⟩
section
variable {w : Wd} {H0 : Heap} (B : Base w H0) {d : Nat} {σ : SH} {Q : QV}
include B
theorem k_cands {v : Addr} {V : Ver} {u last : Nat} (hV : IsVer σ v V) (hs : ∀ i p, V.lv[i]? = some p → Srt i p.2) (n0 : 0 < V.lv.length) (hu : u < 6) (hl : last < 256) (hls : ∀ p ∈ V.lv, ∀ t ∈ p.2, t.2.hi.s ≤ last) (hz : ∀ p ∈ V.lv, p.2.length ≤ 500)
    (q : ∀ L (cs : List (Nat × AT)) s, Ext σ s → s L = some (.list (cs.map candSV)) → cs.map (·.2) = ovs u u V.all → (∀ x ∈ cs, IsT s x.2.1 x.2.2) → Q (.ref L) s) : CallF (GG w H0) (d + 7) (.ref 414) [.ref v, .byt (ikB (uL u) last 1)] Q σ := by
  obtain ⟨p0, e0, t0⟩ := V.lvl n0
  have F0 := hV.at e0
  have z0 := hz p0 (List.mem_of_getElem? e0)
  have zl := hV.L.z
  have lu : (uL u).length ≤ 900 := Nat.le_trans (len_u u hu) (by decide)
  refine fnC B (ok_Version_candidates B) rfl (k_user_of B lu (new_w fun L s1 hL eL x1 => ?_))
  refine (hV.ext x1).files ((hV.ext x1).sub e0 (len_map (F0.ext x1).e F0.z (f_range3 (b := -1) (by omega) (by omega) (by decide) (by decide) ?_)))
  rw [show ((p0.2.length : Int) - 1 - -1).toNat = p0.2.length by omega]
  have ej : ∀ {j}, j < p0.2.length → rgI ((p0.2.length : Int) - 1) (-1) j = .int ((p0.2.length - 1 - j : Nat) : Int) := fun h => by rw [rgI_eq]; congr 1; omega
  refine forR (fun j l' h' => ∀ Z : Loc → SH → Prop, (∀ (cs : List (Nat × AT)) q5 q6 s, Ext σ s → s L = some (.list (cs.map candSV)) → cs.map (·.2) = ovs u u (p0.2.reverse.take j) → (∀ x ∈ cs, IsT s x.2.1 x.2.2) → Z [some (.ref v), some (.byt (ikB (uL u) last 1)), some (byts (uL u)), some (.ref L), some (.ref p0.1), q5, q6, none, none] s) → Z l' h')
    (fun i => trivial) (fun l' h' i => ?_) (fun j l' h' R hj k i => ?_) fun Z z => z [] none none s1 x1 eL rfl fun _ h => absurd h List.not_mem_nil
  rotate_left
  · apply i; intro cs q5 q6 s x eL ec ht
    rw [ej hj]
    have hp : p0.2[p0.2.length - 1 - j]? = some _ := List.getElem?_eq_getElem (by omega)
    have hr : p0.2.reverse[j]? = some _ := (List.getElem?_reverse hj).trans hp
    generalize p0.2[p0.2.length - 1 - j]'_ = t at hp hr
    have m := List.mem_of_getElem? hp
    have F := F0.ext x
    have ok := F.ok t m
    have ek := take1 hr
    have lz : (cs.map candSV).length ≤ 1000 := by
      have := congrArg List.length ec
      have h2 := @ovs_len u u (p0.2.reverse.take j)
      rw [List.length_map] at this
      rw [List.length_take, List.length_reverse] at h2
      rw [List.length_map]; omega
    have no : ov u u t.2 ≠ true → R _ s := fun n => k _ _ fun Z z => z cs (some (.int ((p0.2.length - 1 - j : Nat) : Int))) (some (.ref t.1)) s x eL (by rw [ek, ovs_no n]; exact ec) ht
    refine sub_map F.e (Nat.le_trans F.z (by decide)) hp ((F.t t m).lo (k_user_of B ok.loO.l ?_))
    refine bc (ble _ ok.loO.u _ hu) (fun c1 => (F.t t m).hi (k_user_of B ok.hiO.l ?_)) fun c1 => ?_
    · refine bc (ble _ hu _ ok.hiO.u) (fun c2 => ?_) fun c2 => no (ov_no fun o => c2 o.1)
      refine me (m_app eL) (app eL lz fun s2 e2 b2 => ?_)
      exact k _ _ fun Z z => z (cs ++ [(0, t)]) _ _ s2 (fun b o e => b2 b o (ne_of e hL) (x b o e)) (by rw [e2, List.map_append]; rfl) (by rw [ek, ovs_yes (ov_t c2 c1), List.map_append, ec]; rfl) fun y hy => (List.mem_append.mp hy).elim (fun hy => (ht y hy).kp ((Bar.kp b2 eL : Kp [0] s s2))) fun hy => by rw [List.mem_singleton.mp hy]; exact (F.t t m).kp (Bar.kp b2 eL : Kp [0] s s2)
    · exact bn (ble _ ok.loO.u _ hu) c1 (no (ov_no fun o => c1 o.2))
  apply i; intro cs q5 q6 s x eL ec ht
  rw [← List.length_reverse, List.take_length] at ec
  have hV0 := hV.ext x
  have lc : cs.length ≤ p0.2.length := by
    have := congrArg List.length ec
    have h2 := @ovs_len u u p0.2.reverse
    rw [List.length_map] at this
    rw [List.length_reverse] at h2; omega
  have xok : (⟨u, last, 1, 0⟩ : Row).Ok := ⟨hu, hl, Nat.one_lt_two⟩
  refine hV0.num (f_range2 (by decide) (by decide) (by omega) (by omega) ?_)
  rw [show ((V.lv.length : Int) - 1).toNat = V.lv.length - 1 by omega]
  refine forR (fun j l' h' => ∀ Z : Loc → SH → Prop, (∀ (cs : List (Nat × AT)) q5 q6 q7 q8 s, Ext σ s → s L = some (.list (cs.map candSV)) → cs.length ≤ p0.2.length + j → cs.map (·.2) = ovs u u (p0.2.reverse ++ (V.lv.tail.take j).flatMap (·.2)) → (∀ x ∈ cs, IsT s x.2.1 x.2.2) → Z [some (.ref v), some (.byt (ikB (uL u) last 1)), some (byts (uL u)), some (.ref L), some (.ref p0.1), q5, q6, q7, q8] s) → Z l' h')
    (fun i => trivial) (fun l' h' i => ?_) (fun j l' h' R hj k i => ?_) fun Z z => z cs q5 q6 none none s x eL lc (by rw [List.take_zero, List.flatMap_nil, List.append_nil]; exact ec) ht
  · apply i; intro cs q5 q6 q7 q8 s x eL _ ec ht
    refine q L cs s x eL ?_ ht
    rw [ec, ← List.length_tail, List.take_length]
    unfold Ver.all; rw [t0]
  · apply i; intro cs q5 q6 q7 q8 s x eL lc ec ht
    obtain ⟨p, ep, _⟩ := V.lvl (i := j + 1) (by omega)
    have pm := List.mem_of_getElem? ep
    have hV := hV.ext x
    have F := hV.at ep
    have zp := hz p pm
    have et : V.lv.tail[j]? = some p := by rw [List.getElem?_tail]; exact ep
    have ek : ovs u u (p0.2.reverse ++ (V.lv.tail.take (j + 1)).flatMap (·.2)) = cs.map (·.2) ++ ovs u u p.2 := by
      rw [take1 et, List.flatMap_append, ← List.append_assoc, ovs, List.filter_append, ec, List.flatMap_cons, List.flatMap_nil, List.append_nil]
    obtain ⟨n, h1, h2, h3⟩ := find_plain (u := u) (Nat.succ_ne_zero j) p.2 F.ok (hs _ _ ep)
    rw [h3] at ek
    refine hV.files (hV.sub ep (hV.ord fun o hO => k_find B F hO xok h1 (fun i t e => ?_) (len_map F.e F.z ?_)))
    · have tm := List.mem_of_getElem? e
      rw [rank_lt_u (hls p pm t tm) (F.ok t tm).hiO.k hl]; exact h2 i t e
    refine dc (fun c1 => ?_) fun c1 => ?_
    · have c1 := Int.ofNat_lt.mp c1
      have hp := List.getElem?_eq_getElem c1
      generalize p.2[n] = t at hp
      have m := List.mem_of_getElem? hp
      have ok := F.ok t m
      rw [hp] at ek
      refine sub_map F.e (Nat.le_trans F.z (by decide)) hp ((F.t t m).lo (k_user_of B ok.loO.l ?_))
      refine bc (ble _ ok.loO.u _ hu) (fun c2 => me (m_app eL) (sub_map F.e (Nat.le_trans F.z (by decide)) hp (app eL ?_ fun s2 e2 b2 => ?_))) fun c2 => ?_
      · rw [List.length_map]; omega
      · exact k _ _ fun Z z => z (cs ++ [(j + 1, t)]) _ _ _ _ s2 (fun b o e => b2 b o (ne_of e hL) (x b o e)) (by rw [e2, List.map_append]; rfl) (by rw [List.length_append]; exact Nat.succ_le_succ lc) (by rw [ek, List.map_append]; simp [c2]) fun y hy => (List.mem_append.mp hy).elim (fun hy => (ht y hy).kp (Bar.kp b2 eL : Kp [0] s s2)) fun hy => by rw [List.mem_singleton.mp hy]; exact (F.t t m).kp (Bar.kp b2 eL : Kp [0] s s2)
      · exact k _ _ fun Z z => z cs _ _ _ _ s x eL (Nat.le_succ_of_le lc) (by rw [ek]; simp [c2]) ht
    · rw [List.getElem?_eq_none (Nat.not_lt.mp fun z => c1 (Int.ofNat_lt.mpr z))] at ek
      exact d0 c1 (k _ _ fun Z z => z cs _ _ _ _ s x eL (Nat.le_succ_of_le lc) (by rw [ek]; exact (List.append_nil _).symm) ht)
end
noncomputable def hit (u : Nat) (t : Tab) : Option Row := t.rows.find? fun r => decide (u ≤ r.u)
noncomputable def entV : Option Row → SV
  | none => .none
  | some r => .tup [.byt r.B, byts [UInt8.ofNat r.s, 7]]
noncomputable def rowOf (u : Nat) (t : Tab) : Option Row := (hit u t).bind fun r => if r.u = u then some r else none
noncomputable def gotV : Option Row → SV
  | none => .tup [.bool false, .int 0, byts []]
  | some r => if r.k = 0 then .tup [.bool true, .int 0, byts []] else .tup [.bool true, .int 1, byts [UInt8.ofNat r.s, 7]]
section
variable {w : Wd} {H0 : Heap} (B : Base w H0) {d : Nat} {σ : SH} {Q : QV}
include B
theorem k_get {v ca : Addr} {V : Ver} {u last : Nat} {m : List (Int × SV)} {ep : Nat} (hV : IsVer σ v V) (hs : ∀ i p, V.lv[i]? = some p → Srt i p.2) (n0 : 0 < V.lv.length) (hu : u < 6) (hl : last < 256) (hls : ∀ p ∈ V.lv, ∀ t ∈ p.2, t.2.hi.s ≤ last) (hz : ∀ p ∈ V.lv, p.2.length ≤ 500)
    (hm : σ ca = some (.dict m ep)) (ok : ∀ t ∈ V.all, t.2.Ok) (he : ∀ t ∈ V.all, mlook m t.2.n = some (entV (hit u t.2))) (q : ∀ s, Ext σ s → Q (gotV ((ovs u u V.all).findSome? fun t => rowOf u t.2)) s) :
    CallF (GG w H0) (d + 8) (.ref 421) [.ref v, .ref ca, byts (uL u), .int last] Q σ := by
  have lu : (uL u).length ≤ 900 := Nat.le_trans (len_u u hu) (by decide)
  refine fnC B (ok_Version_get B) rfl (k_make B hl lu fun s1 x1 => ?_)
  refine me ((hV.ext x1).m 4 (x := 3) (by kernel_rfl)) (k_cands B (hV.ext x1) hs n0 hu hl hls hz fun L cs s x2 eL ec ht => itl eL ?_)
  have x := x1.trans x2
  have hm := x _ _ hm
  have inA : ∀ t ∈ cs, t.2 ∈ V.all := fun t h => (List.mem_filter.mp (ec ▸ List.mem_map.mpr ⟨t, h, rfl⟩)).1
  refine for1 (fun rest l' h' => ∀ Z : Loc → SH → Prop, (∀ q5 q6 q7 q8 q9 q10, (∀ t ∈ rest, t ∈ cs) → (ovs u u V.all).findSome? (fun t => rowOf u t.2) = rest.findSome? (fun t => rowOf u t.2.2) → Z [some (.ref v), some (.ref ca), some (byts (uL u)), some (.int last), some (.byt (ikB (uL u) last 1)), q5, q6, q7, q8, q9, q10] s) → Z l' h')
    (fun i => ?_) (fun l' h' i => ?_) (fun t rest l' h' R k i => ?_) fun Z z => z none none none none none none (fun _ h => h) (by rw [← ec, List.findSome?_map]; rfl)
  · apply i; intro _ _ _ _ _ _ _ _; exact eL
  · apply i; intro _ _ _ _ _ _ _ e
    have := q s x
    rw [e] at this
    exact this
  · apply i; intro q5 q6 q7 q8 q9 q10 mr e
    have mt := mr t List.mem_cons_self
    have tt := ht t mt
    have mr := fun y h => mr y (List.mem_cons_of_mem t h)
    rw [List.findSome?_cons] at e
    refine me (meth_dict hm (List.mem_of_getElem? (i := 0) (by kernel_rfl))) (tt.num (f_get (gok B) hm ?_))
    rw [he _ (inA t mt), Option.getD_some]
    cases hh : hit u t.2.2 with
    | none =>
      rw [show rowOf u t.2.2 = none by unfold rowOf; rw [hh]; rfl] at e
      exact k _ _ fun Z z => z _ _ _ _ _ _ mr e
    | some r =>
      have rok := (ok _ (inA t mt)).rows r (List.mem_of_find?_eq_some hh)
      refine k_split B rok.s rok.k rok.l ?_
      refine bc (eq_u _ rok.u _ hu) (fun c => ?_) fun c => ?_
      · rw [show rowOf u t.2.2 = some r by unfold rowOf; rw [hh]; exact if_pos c] at e
        have := q s x
        rw [e] at this
        refine bc (eqz r.k) (fun c => ?_) fun c => ?_
        · rw [show gotV (some r) = _ from if_pos c] at this
          exact this
        · rw [show gotV (some r) = _ from if_neg c] at this
          exact this
      · rw [show rowOf u t.2.2 = none by unfold rowOf; rw [hh]; exact if_neg c] at e
        exact k _ _ fun Z z => z _ _ _ _ _ _ mr e
end
end Mine
namespace Mine
theorem cmpF {α : Type} {chk : SH → Prop} {acc : Addr} {Tst : SV → (Bool → SH → Prop) → SH → Prop} {Bd : SV → QV → SH → Prop} {Q : QV} {σ : SH} {xs : List α} {f : α → SV} (p : α → Bool) (g : α → SV) (hacc : σ acc = none) (hz : xs.length ≤ 1000)
    (hchk : ∀ h, Ext σ h → chk h) (hT : ∀ x ∈ xs, ∀ h, Ext σ h → ∀ k : Bool → SH → Prop, (∀ h' b, b = p x → Ext h h' → k b h') → Tst (f x) k h)
    (hB : ∀ x ∈ xs, ∀ h, Ext σ h → ∀ K : QV, (∀ h', Ext h h' → K (g x) h') → Bd (f x) K h)
    (hQ : ∀ h, Ext σ h → h acc = some (.list ((xs.filter p).map g)) → Q (.ref acc) h) : compN chk acc Tst Bd Q (xs.map f) (upd σ acc (.list [])) := by
  refine cmp1 (fun rest h' => ∀ Z : SH → Prop, (∀ dn h, xs = dn ++ rest → Ext σ h → h acc = some (.list ((dn.filter p).map g)) → Z h) → Z h') (fun i => ?_) (fun h' i => ?_) (fun r rest h' R k i => ?_) fun Z z => z [] _ rfl (Ext.upd _ hacc) (upd_same _ _ _)
  · apply i; intro dn h _ x _; exact hchk h x
  · apply i; intro dn h e x a
    rw [List.append_nil] at e
    exact hQ h x (by rw [e]; exact a)
  · apply i; intro dn h e x a
    have m : r ∈ xs := by rw [e]; exact List.mem_append_right _ List.mem_cons_self
    have e' : xs = (dn ++ [r]) ++ rest := by rw [List.append_assoc]; exact e
    refine hT r m h x _ fun h2 b eb x2 => ?_
    have x2' := x.trans x2
    cases b with
    | true =>
      refine ip rfl (hB r m h2 x2' _ fun h3 x3 => ⟨_, x3 _ _ (x2 _ _ a), ?_, k _ fun Z z => z (dn ++ [r]) _ e' ((x2'.trans x3).updF _ hacc) ?_⟩)
      · have h1 := List.length_filter_le p dn
        rw [e, List.length_append] at hz
        rw [List.length_map]; omega
      · rw [upd_same, List.filter_append, List.map_append, List.filter_cons_of_pos eb.symm]; rfl
    | false => exact in_ Bool.false_ne_true (k _ fun Z z => z (dn ++ [r]) _ e' x2' (by rw [x2 _ _ a, List.filter_append, List.filter_cons_of_neg (by rw [← eb]; exact Bool.false_ne_true), List.filter_nil, List.append_nil]))
noncomputable def tdM (ts : List Tab) : List (Int × SV) := ts.map fun t => ((t.n : Int), .ref t.a)
noncomputable def wdM (ts : List Tab) : List (Int × SV) := ts.map fun t => ((t.n : Int), .int t.lev)
structure LT (σ : SH) (td wd : Addr) (ts : List Tab) : Prop where
  d : ∃ ep, σ td = some (.dict (tdM ts) ep)
  w : ∃ ep, σ wd = some (.dict (wdM ts) ep)
  r : ∀ t ∈ ts, σ t.a = some (.list (t.rows.map Row.sv))
  ok : ∀ t ∈ ts, t.Ok
  nd : (ts.map (·.n)).Nodup
  z : ts.length ≤ 6
theorem nodup_ints {l : List Nat} (h : l.Nodup) : (l.map fun (n : Nat) => (n : Int)).Nodup := List.Pairwise.map _ (fun a b h e => h (Int.ofNat.inj e)) h
section
variable {σ σ' : SH} {td wd : Addr} {ts : List Tab} (h : LT σ td wd ts) {Q : QV} {t : Tab} {G : Gd} {d : Nat}
include h
theorem LT.ext (x : Ext σ σ') : LT σ' td wd ts := ⟨h.d.imp fun _ => x _ _, h.w.imp fun _ => x _ _, fun t m => x _ _ (h.r t m), h.ok, h.nd, h.z⟩
theorem LT.look (m : t ∈ ts) (g : Tab → SV) : mlook (ts.map fun t => ((t.n : Int), g t)) t.n = some (g t) :=
  mlook_nodup (by have := nodup_ints h.nd; rw [List.map_map] at *; exact this) (List.mem_map.mpr ⟨t, m, rfl⟩)
theorem LT.row (m : t ∈ ts) (q : Q (.ref t.a) σ) : subW (.ref td) (.int t.n) Q σ := by obtain ⟨_, e⟩ := h.d; exact sub_dict e (h.look m _) q
theorem LT.lev (m : t ∈ ts) (q : Q (.int t.lev) σ) : subW (.ref wd) (.int t.n) Q σ := by obtain ⟨_, e⟩ := h.w; exact sub_dict e (h.look m fun t => .int t.lev) q
theorem LT.rz (m : t ∈ ts) : t.rows.length ≤ 1000 := Nat.le_trans (h.ok t m).len (by decide)
theorem LT.len (m : t ∈ ts) (q : Q (.int t.rows.length) σ) : CallF G d (.builtin "len") [.ref t.a] Q σ := len_map (h.r t m) (h.rz m) q
theorem LT.lo (m : t ∈ ts) (q : Q t.lo.sv σ) : subW (.ref t.a) (.int 0) Q σ := sub_map (k := 0) (h.r t m) (Nat.le_trans (h.rz m) (by decide)) (h.ok t m).at0 q
theorem LT.hi (m : t ∈ ts) {x : Int} (e : x = (t.rows.length : Int) - 1) (q : Q t.hi.sv σ) : subW (.ref t.a) (.int x) Q σ :=
  sub_p (h.r t m) (h.rz m) (h.ok t m).atL (by have := (h.ok t m).len0; omega) q
theorem LT.itw (y : Ext σ σ') {k : List SV → (SH → Prop) → Prop} (q : ∀ chk : SH → Prop, (∀ h, Ext σ h → chk h) → k (ts.map fun t => .int t.n) chk) : itemsW (.ref wd) k σ' := by
  obtain ⟨_, e⟩ := h.w
  refine itd (y _ _ e) ?_
  unfold wdM; rw [List.map_map]
  exact q _ fun _ x => x _ _ e
theorem LT.itt (y : Ext σ σ') {k : List SV → (SH → Prop) → Prop} (q : ∀ chk : SH → Prop, (∀ h, Ext σ h → chk h) → k (ts.map fun t => .int t.n) chk) : itemsW (.ref td) k σ' := by
  obtain ⟨_, e⟩ := h.d
  refine itd (y _ _ e) ?_
  unfold tdM; rw [List.map_map]
  exact q _ fun _ x => x _ _ e
end
section
variable {w : Wd} {H0 : Heap} (B : Base w H0) {d : Nat} {σ : SH} {Q : QV}
include B
theorem k_over {td wd : Addr} {ts : List Tab} {t : Tab} {u : Nat} (h : LT σ td wd ts) (m : t ∈ ts) (q : ∀ b, b = ov u u t → Q (.bool b) σ) : CallF (GG w H0) (d + 1) (.ref 741) [.ref td, .int t.n, .int u] Q σ := by
  refine fnC B (ok__law_over B) rfl (h.row m (h.lo m ?_))
  refine dc (fun c => h.row m (h.row m (h.len m (h.hi m rfl (q _ ?_))))) fun c => q _ ?_
  · unfold ov
    rw [decide_eq_true (Int.ofNat_le.mp c), Bool.and_true]
    exact decide_eq_decide.mpr Int.ofNat_le
  · unfold ov
    rw [decide_eq_false c, decide_eq_false fun z => c (Int.ofNat_le.mpr z), Bool.and_false]
end
end Mine
namespace Mine
theorem tc_t {op : CmpOp} {a b : SV} {l l' : List SV} (h : flatEq a b = some true) : tcmp op (a :: l) (b :: l') = tcmp op l l' := by
  show (match flatEq a b with | some true => tcmp op l l' | some false => _ | none => _) = _
  rw [h]
theorem tc_f {x u : Int} {l l' : List SV} (h : (x == u) = false) : tcmp .GtE (.int x :: l) (.int u :: l') = some (decide (u ≤ x)) := by
  show (match some (x == u) with | some true => tcmp .GtE l l' | some false => some (decide (u ≤ x)) | none => _) = _
  rw [h]
theorem fe_i {x u : Int} (h : x = u) : flatEq (.int x) (.int u) = some true := congrArg some (beq_iff_eq.mpr h)
theorem fe_b {x : Bool} : flatEq (.bool x) (.bool x) = some true := congrArg some (beq_self_eq_true x)
theorem fe_y {x : Array UInt8} : flatEq (.byt x) (.byt x) = some true := congrArg some (beq_self_eq_true x.toList)
theorem cmp_ge {x y u l : Int} {Q : QV} {σ : SH} (q : Q (.bool (if x = u then decide (l ≤ y) else decide (u ≤ x))) σ) : cmpW .GtE (.tup [.int x, .int y]) (.tup [.int u, .int l]) Q σ := by
  refine ⟨_, ?_, q⟩
  by_cases c : x = u
  · rw [if_pos c, tc_t (fe_i c)]
    by_cases c2 : y = l
    · rw [tc_t (fe_i c2), decide_eq_true (Int.le_of_eq c2.symm)]; rfl
    · exact tc_f (beq_eq_false_iff_ne.mpr c2)
  · rw [if_neg c]
    exact tc_f (beq_eq_false_iff_ne.mpr c)
theorem cmp_eq3 {a : Bool} {b : Int} {y : Array UInt8} {Q : QV} {σ : SH} (q : Q (.bool true) σ) : cmpW .Eq (.tup [.bool a, .int b, .byt y]) (.tup [.bool a, .int b, .byt y]) Q σ := ⟨_, by rw [tc_t fe_b, tc_t (fe_i rfl), tc_t fe_y]; rfl, q⟩
theorem hit_head (u : Nat) (t : Tab) : hit u t = (t.rows.filter fun r => decide (u ≤ r.u)).head? := List.head?_filter.symm
theorem eq1 (a : Nat) : ((a : Int) == 1) = decide (a = 1) := eqn a 1
theorem mput_ne {m : List (Int × SV)} {k j : Nat} {v : SV} (h : j ≠ k) : mlook (mput m k v) j = mlook m j := by rw [mlook_mput, if_neg (mt Int.ofNat_inj.mp h.symm)]
theorem mput_eq {m : List (Int × SV)} {k : Int} {v : SV} : mlook (mput m k v) k = some v := by rw [mlook_mput, if_pos rfl]
noncomputable def tells (V : Ver) (u : Nat) : Option Row := (ovs u u V.all).findSome? fun t => rowOf u t.2
theorem cmp_got {F : Option Row} {Q : QV} {σ : SH} (q : Q (.bool true) σ) : cmpW .Eq (gotV F) (gotV F) Q σ := by
  unfold gotV
  cases F with
  | none => exact cmp_eq3 q
  | some r => dsimp only; split <;> exact cmp_eq3 q
theorem got0 {F : Option Row} (h : ∀ r, F = some r → r.k = 0) : SV.tup [.bool F.isSome, .int 0, byts []] = gotV F := by
  cases F with
  | none => rfl
  | some r => exact (if_pos (h r rfl)).symm
section
variable {w : Wd} {H0 : Heap} (B : Base w H0) {d : Nat} {σ : SH} {Q : QV}
theorem k_seq7 {s : Nat} (hs : s < 256) (q : ∀ h, Ext σ h → Q (byts [UInt8.ofNat s, 7]) h) {x : Int} (e : x = s) : newW (.list [.int x, .int 7]) (fun v => CallF (GG w H0) d (.type "bytes") [v] Q) σ := by
  refine new_w fun a h ha ea x => f_bytes (ns := [(s : Int), 7]) (by rw [ea, e]; rfl) (fun n hn => ?_) (Nat.le_of_ble_eq_true rfl) (q h x)
  rcases List.mem_cons.mp hn with e | e
  · rw [e]; omega
  · rw [List.mem_singleton.mp e]; decide
include B
theorem k_tells {v td wd nd : Addr} {V : Ver} {u last : Nat} {ts : List Tab} {m : List (Int × SV)} {ep : Nat} {g : Option Row} (hV : IsVer σ v V) (hs : ∀ i p, V.lv[i]? = some p → Srt i p.2) (n0 : 0 < V.lv.length) (hz : ∀ p ∈ V.lv, p.2.length ≤ 500) (hu : u < 6) (hl : last < 256)
    (h : LT σ td wd ts) (hls : ∀ t ∈ ts, ∀ r ∈ t.rows, r.s ≤ last) (hin : ∀ p ∈ V.lv, ∀ t ∈ p.2, t.2 ∈ ts) (hn : σ nd = some (.dict m ep)) (hg : mlook m u = g.map Row.sv) (okg : ∀ r, g = some r → r.Ok)
    (T1 : ∀ r, g = some r → r.k = 1 → tells V u = some r) (T0 : (∀ r, g = some r → r.k ≠ 1) → ∀ r, tells V u = some r → r.k = 0) (T2 : (ts.any fun t => (rowOf u t).isSome) = (tells V u).isSome) (q : ∀ s, Ext σ s → Q (.bool true) s) :
    CallF (GG w H0) (d + 9) (.ref 746) [.ref v, .ref td, .ref nd, .int u, .int last] Q σ := by
  have inA : ∀ t ∈ V.all, t.2 ∈ ts := fun t ht => by
    rcases List.mem_append.mp ht with m | m
    · obtain ⟨p, e, e2⟩ := V.lvl n0
      exact hin p (List.mem_of_getElem? e) t (e2 ▸ List.mem_reverse.mp m)
    · obtain ⟨p, mp, mt⟩ := List.mem_flatMap.mp m
      exact hin p (List.mem_of_mem_tail mp) t mt
  have hls' : ∀ p ∈ V.lv, ∀ t ∈ p.2, t.2.hi.s ≤ last := fun p mp t mt => hls _ (hin p mp t mt) _ (h.ok _ (hin p mp t mt)).hiM
  -- the end
  have fin : ∀ {ca : Addr} {c : List (Int × SV)} {ce : Nat} {s : SH} {q7 q8 : Option SV}, s ca = some (.dict c ce) → (∀ t ∈ ts, mlook c t.n = some (entV (hit u t))) → Ext σ s →
      wpB (GG w H0) (d + 8) (SL.drop 3 b__law_tells) (retK Q) [some (.ref v), some (.ref td), some (.ref nd), some (.int u), some (.int last), some (.ref ca), some (.bool (tells V u).isSome), q7, q8, none, none] s := fun {ca c ce s q7 q8} hc he x => by
    have hV := hV.ext x
    have last : ∀ {want : SV} {s2 : SH}, Ext s s2 → want = gotV (tells V u) → wpB (GG w H0) (d + 8) (SL.drop 5 b__law_tells) (retK Q) [some (.ref v), some (.ref td), some (.ref nd), some (.int u), some (.int last), some (.ref ca), some (.bool (tells V u).isSome), q7, q8, some want, none] s2 := fun {want s2} x2 e => by
      refine me ((hV.ext x2).m 5 (x := 4) (by kernel_rfl)) (k_law_user B hu (k_get B (hV.ext x2) hs n0 hu hl hls' hz (x2 _ _ hc) (fun t m => h.ok _ (inA t m)) (fun t m => he _ (inA t m)) fun s3 x3 => ?_))
      rw [e]
      exact cmp_got (q s3 ((x.trans x2).trans x3))
    refine in_dd (x _ _ hn) ?_
    rw [hg]
    cases g with
    | none => exact last (Ext.refl s) (got0 (T0 fun r e => by cases e))
    | some r =>
      refine sub_dict (x _ _ hn) hg ?_
      refine bc (eq1 r.k) (fun c => ?_) fun c => last (Ext.refl s) (got0 (T0 fun r e => by cases e; exact c))
      refine sub_dict (x _ _ hn) hg (k_seq7 (okg r rfl).s (fun h x => last x (by rw [T1 r rfl c]; exact (if_neg (by omega)).symm)) (by omega))
  refine fnC B (ok__law_tells B) rfl (new_w fun ca s0 hca e0 x0 => h.itt x0 fun chk hk => ?_)
  refine for1 (f := fun t : Tab => SV.int t.n) (fun rest l' h' => ∀ Z : Loc → SH → Prop, (∀ (dn : List Tab) (c : List (Int × SV)) ce b q7 q8 s, ts = dn ++ rest → b = (dn.any fun t => (rowOf u t).isSome) → s ca = some (.dict c ce) → c.length ≤ 2 * dn.length → (∀ t ∈ dn, mlook c t.n = some (entV (hit u t))) → Ext σ s →
      Z [some (.ref v), some (.ref td), some (.ref nd), some (.int u), some (.int last), some (.ref ca), some (.bool b), q7, q8, none, none] s) → Z l' h')
    (fun i => ?_) (fun l' h' i => ?_) (fun t rest l' h' R k i => ?_) fun Z z => z [] [] 0 _ none none s0 rfl rfl e0 (Nat.le_refl _) (fun _ h => absurd h List.not_mem_nil) x0
  · apply i; intro _ _ _ _ _ _ s _ _ ec _ _ x; exact hk s x
  · apply i; intro dn c ce b q7 q8 s e eb ec _ he x
    rw [List.append_nil] at e
    rw [← e] at eb he
    rw [eb, T2]
    exact fin ec he x
  · apply i; intro dn c ce b q7 q8 s e eb ec lc he x
    have m : t ∈ ts := by rw [e]; exact List.mem_append_right _ List.mem_cons_self
    have h1 := h.ext x
    refine h1.row m (itl (h1.r t m) fun acc hacc => ?_)
    refine cmpF (fun r : Row => decide (u ≤ r.u)) Row.sv hacc (h.rz m) (fun _ x => x _ _ (h1.r t m)) (fun r rm s2 x2 k' hk' => cmp_ge (hk' s2 _ ?_ (Ext.refl _))) (fun r rm s2 x2 k' hk' => hk' s2 (Ext.refl _)) fun s2 x2 ea => ?_
    · have := hls t m r rm
      by_cases c : r.u = u
      · rw [if_pos (Int.ofNat_inj.mpr c), decide_eq_true (by omega), decide_eq_true (Nat.le_of_eq c.symm)]
      · rw [if_neg (mt Int.ofNat_inj.mp c)]; exact decide_eq_decide.mpr Int.ofNat_le
    have y := x.trans x2
    have nac := (ne_of ec hacc).symm
    have ec := x2 _ _ ec
    have e' : ts = (dn ++ [t]) ++ rest := by rw [List.append_assoc]; exact e
    have new : ∀ z ∈ dn, z.n ≠ t.n := fun z hz q => by
      have nd := h.nd
      rw [e, List.map_append, List.map_cons] at nd
      exact (List.nodup_append.mp nd).2.2 _ (List.mem_map.mpr ⟨z, hz, rfl⟩) _ List.mem_cons_self q
    have zc : c.length ≤ 12 := by
      have := h.z
      rw [e, List.length_append] at this
      omega
    have x' : ∀ {s3}, Bar ca s2 s3 → Ext σ s3 := fun b a o e => b a o (ne_of e hca) (y a o e)
    refine set_d ec (Nat.le_trans zc (by decide)) fun ce2 s3 e3 b3 => ?_
    have l3 := mput_len c t.n .none
    have ea3 := b3 _ _ nac ea
    have he3 : ∀ z ∈ dn, mlook (mput c t.n .none) z.n = some (entV (hit u z)) := fun z hz => (mput_ne (new z hz)).trans (he z hz)
    have zf := List.length_filter_le (fun r : Row => decide (u ≤ r.u)) t.rows
    have hh := hit_head u t
    have zr := (h.ok t m).len
    have ro : ∀ b, b = (rowOf u t).isSome → ((dn ++ [t]).any fun t => (rowOf u t).isSome) = ((dn.any fun t => (rowOf u t).isSome) || b) := fun b e => by rw [List.any_append, List.any_cons, List.any_nil, Bool.or_false, e]
    generalize t.rows.filter (fun r => decide (u ≤ r.u)) = fl at ea3 zf hh
    refine len_map ea3 (by omega) ?_
    cases fl with
    | nil =>
      have hr : rowOf u t = none := by unfold rowOf; rw [hh]; rfl
      exact k _ _ fun Z z => z (dn ++ [t]) _ ce2 b _ _ s3 e' (by rw [ro false (by rw [hr]; rfl), Bool.or_false]; exact eb) e3 (by rw [List.length_append, List.length_singleton]; omega) (fun z hz => (List.mem_append.mp hz).elim (he3 z) fun hz => by rw [List.mem_singleton.mp hz, mput_eq, hh]; rfl) (x' b3)
    | cons r l =>
      have hh : hit u t = some r := hh
      have rm := List.mem_of_find?_eq_some hh
      have rok := (h.ok t m).rows r rm
      refine d1 (Int.ofNat_lt.mpr (Nat.succ_pos l.length)) ?_
      refine sub_map (k := 0) ea3 (by omega) rfl ?_
      refine k_law_ikey B rok fun s4 x4 => ?_
      refine sub_map (k := 0) (x4 _ _ ea3) (by omega) rfl ?_
      refine k_seq7 rok.s (fun s5 x5 => ?_) (by omega)
      have x45 := x4.trans x5
      refine set_d (x45 _ _ e3) (by omega) fun ce6 s6 e6 b6 => ?_
      have l6 := mput_len (mput c t.n .none) t.n (.tup [.byt r.B, byts [UInt8.ofNat r.s, 7]])
      have done : ∀ b', b' = (b || decide (r.u = u)) → R [some (.ref v), some (.ref td), some (.ref nd), some (.int u), some (.int last), some (.ref ca), some (.bool b'), some (.int t.n), some (.ref acc), none, none] s6 := fun b' hb => k _ _ fun Z z => z (dn ++ [t]) _ ce6 b' _ _ s6 e' (by
          have hr : rowOf u t = if r.u = u then some r else none := by unfold rowOf; rw [hh]; rfl
          rw [ro (decide (r.u = u)) (by rw [hr]; by_cases c : r.u = u <;> simp [c]), ← eb]; exact hb) e6 (by rw [List.length_append, List.length_singleton]; omega) (fun z hz => (List.mem_append.mp hz).elim (fun hz => (mput_ne (new z hz)).trans (he3 z hz)) fun hz => by rw [List.mem_singleton.mp hz, mput_eq, hh]; rfl) fun a o e => b6 a o (ne_of e hca) (x45 _ _ (x' b3 a o e))
      cases b with
      | true => exact done true rfl
      | false => exact sub_map (k := 0) (b6 _ _ nac (x45 _ _ ea3)) (by omega) rfl (done _ (eqn _ _))
end
end Mine
namespace Mine
theorem Best.ex {top bot : Nat → Nat} (hp : ∀ j, 0 < bot j) : ∀ N, ∃ b, Best top bot (N + 1) b
  | 0 => ⟨0, Nat.zero_lt_one, fun j hj => by rw [Nat.lt_one_iff.mp hj]; exact Nat.le_refl _, fun j hj => absurd hj (Nat.not_lt_zero _)⟩
  | N + 1 => by
    obtain ⟨b, h⟩ := Best.ex hp N
    by_cases c : top b * bot (N + 1) < top (N + 1) * bot b
    · exact ⟨_, h.turn hp c⟩
    · exact ⟨b, h.keep c⟩
theorem Best.uniq {top bot : Nat → Nat} {N a b : Nat} (h : Best top bot N a) (k : Best top bot N b) : a = b := by
  rcases Nat.lt_trichotomy a b with c | c | c
  · exact absurd (k.2.2 a c) (Nat.not_lt.mpr (h.2.1 b k.1))
  · exact c
  · exact absurd (h.2.2 b c) (Nat.not_lt.mpr (k.2.1 a h.1))
noncomputable def onL (ts : List Tab) (i : Nat) : List Tab := ts.filter fun t => decide (t.lev = i)
noncomputable def topAt (ts : List Tab) (i : Nat) : Nat := if i = 0 then (onL ts 0).length else ((onL ts i).map Tab.z).sum
noncomputable abbrev rngV (N : Nat) (f : Nat → Nat) : List SV := (List.range N).map fun i => .int (f i)
theorem rngV_succ {N : Nat} {f : Nat → Nat} : rngV (N + 1) f = rngV N f ++ [.int (f N)] := by rw [rngV, List.range_succ, List.map_append]; rfl
theorem sub_r {Q : QV} {σ : SH} {a : Addr} {N k : Nat} {f : Nat → Nat} (h : σ a = some (.list (rngV N f))) (hk : k < N) (hz : N ≤ 1000) (q : Q (.int (f k)) σ) : subW (.ref a) (.int k) Q σ :=
  sub_map (l := List.range N) (f := fun i => .int (f i)) h (by rw [List.length_range]; exact Nat.le_trans hz (by decide)) (List.getElem?_range hk) q
theorem len_r {Q : QV} {σ : SH} {G : Gd} {d : Nat} {a : Addr} {N : Nat} {f : Nat → Nat} (h : σ a = some (.list (rngV N f))) (hz : N ≤ 1000) (q : Q (.int N) σ) : CallF G d (.builtin "len") [.ref a] Q σ :=
  len_map (l := List.range N) h (by rw [List.length_range]; exact hz) (by rw [List.length_range]; exact q)
section
variable {w : Wd} {H0 : Heap} (B : Base w H0) {d : Nat} {σ : SH} {Q : QV}
include B
theorem k_fullest {td wd bd : Addr} {ts : List Tab} {p : Opt} {b : Nat} (h : LT σ td wd ts) (ho : OkO p) (hb : σ bd = some (.list (rngV p.num (maxOct p)))) (hs : ∀ i, topAt ts i < 2 ^ 64) (hB : Best (topAt ts) (botV p) (p.num - 1) b)
    (q : ∀ s, Ext σ s → Q (.tup [.int (topAt ts b), .int (botV p b), .int b]) s) : CallF (GG w H0) (d + 2) (.ref 751) [.ref td, .ref wd, .ref bd, .int p.trig] Q σ := by
  have n2 := ho.n2
  have n12 := ho.num
  have zt := Nat.le_trans h.z (show 6 ≤ 1000 by decide)
  refine fnC B (ok__law_fullest B) rfl (h.itw (Ext.refl σ) fun chk hk acc hacc => ?_)
  refine cmpF (fun t : Tab => decide (t.lev = 0)) (fun t => SV.int t.n) hacc zt hk (fun t m s x k' hk' => (h.ext x).lev m (hk' s _ (eqz _) (Ext.refl s))) (fun t m s x k' hk' => hk' s (Ext.refl s)) fun s1 x1 ea => ?_
  refine len_map ea (Nat.le_trans (List.length_filter_le _ _) zt) (new_w fun tl s2 htl etl x2 => new_w fun bl s3 hbl ebl x3 => ?_)
  have tb := ne_of etl hbl
  have etl := x3 _ _ etl
  have x := (x1.trans x2).trans x3
  have ftl := x1.none htl
  have fbl := (x1.trans x2).none hbl
  refine len_r (x _ _ hb) (by omega) (f_range2 (by decide) (by decide) (by omega) (by omega) ?_)
  rw [show ((p.num : Int) - 1 - 1).toNat = p.num - 2 by omega]
  refine forR (fun j l' h' => ∀ Z : Loc → SH → Prop, (∀ q6 q7 q8 s, Ext σ s → s tl = some (.list (rngV (j + 1) (topAt ts))) → s bl = some (.list (rngV (j + 1) (botV p))) → Z [some (.ref td), some (.ref wd), some (.ref bd), some (.int p.trig), some (.ref tl), some (.ref bl), q6, q7, q8, none, none] s) → Z l' h')
    (fun i => trivial) (fun l' h' i => ?_) (fun j l' h' R hj k i => ?_) fun Z z => z none none none s3 x etl ebl
  · apply i; intro q6 q7 q8 s x etl ebl
    rw [show p.num - 2 + 1 = p.num - 1 by omega] at etl ebl
    generalize hN : p.num - 1 = N at etl ebl hB
    have z12 : N ≤ 12 := by omega
    refine len_r etl (Nat.le_trans z12 (by decide)) (f_range3 (b := -1) (by omega) (by omega) (by decide) (by decide) ?_)
    rw [show ((N : Int) - 1 - -1).toNat = N by omega]
    refine forR (fun j l' h' => ∀ Z : Loc → SH → Prop, (∀ (c : Nat) q6 q8 s, Ext σ s → s tl = some (.list (rngV N (topAt ts))) → s bl = some (.list (rngV N (botV p))) → c < N → (N ≤ b + j → c = b) → Z [some (.ref td), some (.ref wd), some (.ref bd), some (.int p.trig), some (.ref tl), some (.ref bl), q6, some (.int c), q8, none, none] s) → Z l' h')
      (fun i => trivial) (fun l' h' i => ?_) (fun j l' h' R hj k i => ?_) fun Z z => z 0 _ _ s x etl ebl (by omega) fun h => absurd hB.1 (Nat.not_lt.mpr h)
    · apply i; intro c q6 q8 s x etl ebl hc e
      rw [e (Nat.le_add_left N b)]
      exact sub_r etl hB.1 (Nat.le_trans z12 (by decide)) (sub_r ebl hB.1 (Nat.le_trans z12 (by decide)) (q s x))
    · apply i; intro c q6 q8 s x etl ebl hc e
      rw [show rgI ((N : Int) - 1) (-1) j = .int ((N - 1 - j : Nat) : Int) by rw [rgI_eq]; congr 1; omega]
      have hi : N - 1 - j < N := by omega
      have hib : N ≤ b + (j + 1) → N - 1 - j ≤ b := fun h => by omega
      have hne : N - 1 - j ≠ b → N ≤ b + (j + 1) → N ≤ b + j := fun h g => by omega
      generalize N - 1 - j = i at hi hib hne
      have zN := Nat.le_trans z12 (show 12 ≤ 1000 by decide)
      refine len_r etl zN (f_range1 (by omega) (by omega) fun acc hacc => ?_)
      rw [Int.toNat_natCast]
      refine cmpF (fun n : Nat => decide (topAt ts i * botV p n < topAt ts n * botV p i)) (fun n => SV.int n) hacc (by rw [List.length_range]; exact zN) (fun _ _ => trivial) (fun n m s' x' k' hk' => ?_) (fun n m s' x' k' hk' => hk' s' (Ext.refl s')) fun s1 x1 ea => ?_
      · have hn := List.mem_range.mp m
        have etl := x' _ _ etl
        have ebl := x' _ _ ebl
        refine sub_r etl hn zN (sub_r ebl hi zN ⟨small_n (hs n), sub_r etl hi zN (sub_r ebl hn zN ⟨small_n (hs i), hk' s' _ ?_ (Ext.refl s')⟩)⟩)
        exact decide_eq_decide.mpr Int.ofNat_lt
      · refine len_map ea (Nat.le_trans (List.length_filter_le _ _) (by rw [List.length_range]; exact zN)) ?_
        refine bc (eqz _) (fun c1 => ?_) fun c1 => ?_
        · have g := List.filter_eq_nil_iff.mp (List.length_eq_zero_iff.mp c1)
          refine k _ _ fun Z z => z i _ _ s1 (x.trans x1) (x1 _ _ etl) (x1 _ _ ebl) hi fun h => ?_
          refine (Nat.lt_or_eq_of_le (hib h)).elim (fun lt => ?_) id
          exact absurd (decide_eq_true (hB.2.2 i lt)) (g b (List.mem_range.mpr hB.1))
        · refine k _ _ fun Z z => z c _ _ s1 (x.trans x1) (x1 _ _ etl) (x1 _ _ ebl) hc fun h => e (hne (fun ib => c1 ?_) h)
          rw [List.length_eq_zero_iff, List.filter_eq_nil_iff]
          intro n m
          rw [ib, decide_eq_true_eq]
          exact Nat.not_lt.mpr (hB.2.1 n (List.mem_range.mp m))
  · apply i; intro q6 q7 q8 s x etl ebl
    refine me (m_app etl) (h.itw x fun chk hk acc hacc => ?_)
    refine cmpF (fun t : Tab => decide (t.lev = j + 1)) (fun t => SV.int t.z) hacc zt (fun h x' => hk h (x.trans x')) (fun t m s' x' k' hk' => ((h.ext x).ext x').lev m (hk' s' _ (eqn _ _) (Ext.refl s'))) (fun t m s' x' k' hk' => ((h.ext x).ext x').row m (k_law_octets B (((h.ext x).ext x').r t m) (h.rz m) fun s2 x2 => hk' s2 x2)) fun s1 x1 ea => ?_
    refine f_sum (ns := ((onL ts (j + 1)).map Tab.z).map fun (n : Nat) => (n : Int)) (by rw [ea, List.map_map, List.map_map]; rfl) ?_
    rw [sum_int]
    refine app (x1 _ _ etl) (by rw [List.length_map, List.length_range]; omega) fun s2 e2 b2 => ?_
    have ebl := b2 _ _ tb.symm (x1 _ _ ebl)
    have x2 : Ext σ s2 := fun a o e => b2 a o (ne_of e ftl) (x1 a o (x a o e))
    refine me (m_app ebl) (sub_r (k := j + 1) (x2 _ _ hb) (by omega) (by omega) (app ebl (by rw [List.length_map, List.length_range]; omega) fun s3 e3 b3 => ?_))
    refine k _ _ fun Z z => z _ _ _ s3 (fun a o e => b3 a o (ne_of e fbl) (x2 a o e)) ?_ ?_
    · rw [b3 _ _ tb e2, rngV_succ (N := j + 1)]
      show _ = some (SO.list (_ ++ [.int (topAt ts (j + 1))]))
      rw [show topAt ts (j + 1) = _ from if_neg (Nat.succ_ne_zero j)]
    · rw [e3, rngV_succ (N := j + 1)]
      show _ = some (SO.list (_ ++ [.int (botV p (j + 1))]))
      rw [show botV p (j + 1) = _ from if_neg (Nat.succ_ne_zero j)]
end
end Mine
namespace Mine
noncomputable def noTab (ts : List Tab) (lev u : Nat) : Bool := ts.all fun t => !(decide (lev + 1 < t.lev) && ov u u t)
noncomputable def prv (R : List Row) : Nat → Option Nat
  | 0 => none
  | j + 1 => R[j]?.map (·.u)
noncomputable def goB (ts : List Tab) (lev : Nat) (R : List Row) (j : Nat) (r : Row) : Bool := decide (prv R j = some r.u) || (decide (r.k = 0) && noTab ts lev r.u)
noncomputable def goL (ts : List Tab) (lev : Nat) (R : List Row) (j : Nat) : Bool := (R[j]?.map (goB ts lev R j)).getD false
noncomputable def kept' (ts : List Tab) (lev : Nat) (R : List Row) : Nat → List Row
  | 0 => []
  | j + 1 => kept' ts lev R j ++ R[j]?.toList.filter fun r => !goB ts lev R j r
noncomputable def keep (ts : List Tab) (lev : Nat) (R : List Row) : List Row := kept' ts lev R R.length
theorem kept_sub {ts : List Tab} {lev : Nat} {R : List Row} : ∀ n, (kept' ts lev R n).Sublist (R.take n)
  | 0 => List.nil_sublist _
  | n + 1 => by rw [List.take_add_one]; exact (kept_sub n).append List.filter_sublist
theorem kept_mem {ts : List Tab} {lev : Nat} {R : List Row} {r : Row} : ∀ n, r ∈ kept' ts lev R n ↔ ∃ j, j < n ∧ R[j]? = some r ∧ goB ts lev R j r = false
  | 0 => ⟨fun h => absurd h List.not_mem_nil, fun ⟨j, h, _⟩ => absurd h (Nat.not_lt_zero j)⟩
  | n + 1 => by
    rw [kept', List.mem_append, kept_mem n, List.mem_filter, Option.mem_toList, Bool.not_eq_true']
    constructor
    · rintro (⟨j, h, e⟩ | h)
      · exact ⟨j, Nat.lt_succ_of_lt h, e⟩
      · exact ⟨n, Nat.lt_succ_self n, h⟩
    · rintro ⟨j, h, e⟩
      rcases Nat.lt_succ_iff_lt_or_eq.mp h with h | h
      · exact .inl ⟨j, h, e⟩
      · rw [h] at e; exact .inr e
theorem noTab_len {ts : List Tab} {lev u : Nat} : noTab ts lev u = decide ((ts.filter fun t => decide (lev + 1 < t.lev) && ov u u t).length = 0) := by
  rw [Bool.eq_iff_iff, decide_eq_true_eq, List.length_eq_zero_iff, List.filter_eq_nil_iff, noTab, List.all_eq_true]
  exact forall_congr' fun t => forall_congr' fun _ => by rw [Bool.not_eq_true', Bool.not_eq_true]
noncomputable abbrev boolV (l : List Nat) (f : Nat → Bool) : List SV := l.map fun j => SV.bool (f j)
theorem boolV_succ {n : Nat} {f : Nat → Bool} : boolV (List.range (n + 1)) f = boolV (List.range n) f ++ [.bool (f n)] := by rw [boolV, List.range_succ, List.map_append]; rfl
noncomputable abbrev left_body : SL := S.body (SL.at 2 b__law_left)
section
variable {w : Wd} {H0 : Heap} (B : Base w H0) {d : Nat} {σ : SH} {Q : QV}
include B
theorem k_left {rl td wd : Addr} {ts : List Tab} {R : List Row} {lev : Nat} (hrl : σ rl = some (.list (R.map Row.sv))) (zr : R.length ≤ 500) (h : LT σ td wd ts)
    (q : ∀ kl gl s, σ kl = none → σ gl = none → Ext σ s → s kl = some (.list ((keep ts lev R).map Row.sv)) → s gl = some (.list (boolV (List.range R.length) (goL ts lev R))) → Q (.tup [.ref kl, .ref gl]) s) :
    CallF (GG w H0) (d + 2) (.ref 756) [.ref rl, .ref wd, .ref td, .int lev] Q σ := by
  refine fnC B (ok__law_left B) rfl (new_w fun kl s1 hkl ekl x1 => new_w fun gl s2 hgl egl x2 => ?_)
  have kg := ne_of ekl hgl
  have ekl := x2 _ _ ekl
  have x := x1.trans x2
  have fgl := x1.none hgl
  have zr' := Nat.le_trans zr (show 500 ≤ 1000 by decide)
  refine len_map (x _ _ hrl) zr' (f_range1 (by omega) (by omega) ?_)
  rw [Int.toNat_natCast]
  refine forR (fun j l' h' => ∀ Z : Loc → SH → Prop, (∀ q6 q7 q8 s, Ext σ s → s kl = some (.list ((kept' ts lev R j).map Row.sv)) → s gl = some (.list (boolV (List.range j) (goL ts lev R))) → Z [some (.ref rl), some (.ref wd), some (.ref td), some (.int lev), some (.ref kl), some (.ref gl), q6, q7, q8, none] s) → Z l' h')
    (fun i => trivial) (fun l' h' i => ?_) (fun j l' h' Rr hj k i => ?_) fun Z z => z none none none s2 x ekl egl
  · apply i; intro q6 q7 q8 s x ekl egl
    exact q kl gl s hkl fgl x ekl egl
  · apply i; intro q6 q7 q8 s x ekl egl
    have hr := List.getElem?_eq_getElem hj
    generalize R[j] = r at hr
    have row : ∀ {s}, Ext σ s → ∀ {Q : QV}, Q r.sv s → subW (.ref rl) (.int j) Q s := fun {s} x {Q} q => sub_map (x _ _ hrl) (Nat.le_trans zr (by decide)) hr q
    have hb := h.ext x
    -- the end of a turn
    have done : ∀ {K : KF} {s b}, (∀ l h, Rr l h → K .next l h) → Ext σ s → s kl = some (.list ((kept' ts lev R j).map Row.sv)) → s gl = some (.list (boolV (List.range j) (goL ts lev R))) → b = goB ts lev R j r →
        wpB (GG w H0) (d + 1) (SL.drop 3 left_body) K [some (.ref rl), some (.ref wd), some (.ref td), some (.int lev), some (.ref kl), some (.ref gl), some (.int j), some (.int r.u), some (.bool b), none] s := fun {K s b} hK x ekl egl eb => by
      refine me (m_app egl) (app egl (by rw [List.length_map, List.length_range]; omega) fun s2 e2 b2 => ?_)
      have x2 : Ext σ s2 := fun a o e => b2 a o (ne_of e fgl) (x a o e)
      have ekl := b2 _ _ kg ekl
      have e4 : s2 gl = some (.list (boolV (List.range (j + 1)) (goL ts lev R))) := by
        rw [e2, boolV_succ]
        show _ = some (SO.list (_ ++ [SV.bool ((R[j]?.map (goB ts lev R j)).getD false)]))
        rw [hr, eb]; rfl
      have ek : kept' ts lev R (j + 1) = kept' ts lev R j ++ if b = true then [] else [r] := by
        show _ ++ List.filter _ R[j]?.toList = _
        rw [hr, eb]
        cases c : goB ts lev R j r
        · exact congrArg _ (List.filter_cons_of_pos (by rw [c]; rfl))
        · exact congrArg _ (List.filter_cons_of_neg (by rw [c]; exact Bool.false_ne_true))
      cases b with
      | true => exact hK _ _ (k _ _ fun Z z => z _ _ _ s2 x2 (by rw [ek]; exact ekl.trans (by rw [if_pos rfl, List.append_nil])) e4)
      | false =>
        refine me (m_app ekl) (row x2 (app ekl ?_ fun s3 e3 b3 => hK _ _ (k _ _ fun Z z => z _ _ _ s3 (fun a o e => b3 a o (ne_of e hkl) (x2 a o e)) (by rw [e3, ek, List.map_append]; rfl) (b3 _ _ kg.symm e4))))
        have := (@kept_sub ts lev R j).length_le
        rw [List.length_take] at this
        rw [List.length_map]; omega
    have third : ∀ {K : KF} {b}, (∀ l h, Rr l h → K .next l h) → b = decide (prv R j = some r.u) →
        wpB (GG w H0) (d + 1) (SL.drop 2 left_body) K [some (.ref rl), some (.ref wd), some (.ref td), some (.int lev), some (.ref kl), some (.ref gl), some (.int j), some (.int r.u), some (.bool b), none] s := fun {K b} hK eb => by
      refine row x ?_
      refine bc (eqz r.k) (fun c1 => ?_) fun c1 => ?_
      · cases b with
        | true => exact done hK x ekl egl (by unfold goB; rw [← eb]; rfl)
        | false =>
          refine h.itw x fun chk hk acc hacc => ?_
          refine cmpF (fun t : Tab => decide (lev + 1 < t.lev) && ov r.u r.u t) (fun t => SV.int t.n) hacc (Nat.le_trans h.z (by decide)) (fun h x' => hk h (x.trans x')) (fun t m s' x' k' hk' => ?_) (fun t m s' x' k' hk' => hk' s' (Ext.refl s')) fun s1 x1 ea => ?_
          · have hb := hb.ext x'
            refine hb.lev m ?_
            refine dc (fun c2 => k_over B hb m fun b e => hk' s' b ?_ (Ext.refl s')) fun c2 => hk' s' _ ?_ (Ext.refl s')
            · rw [e, decide_eq_true (show lev + 1 < t.lev by omega), Bool.true_and]
            · rw [decide_eq_false c2, decide_eq_false (show ¬ lev + 1 < t.lev by omega), Bool.false_and]
          · refine len_map ea (Nat.le_trans (List.length_filter_le _ _) (Nat.le_trans h.z (by decide))) ?_
            refine done hK (x.trans x1) (x1 _ _ ekl) (x1 _ _ egl) ?_
            rw [eqz]
            unfold goB
            rw [← eb, decide_eq_true c1, Bool.false_or, Bool.true_and, noTab_len]
      · refine bn (eqz r.k) c1 (done hK x ekl egl ?_)
        unfold goB
        rw [← eb, decide_eq_false c1, Bool.false_and, Bool.or_false]
    refine row x ?_
    cases j with
    | zero => exact third (fun l h r => r) rfl
    | succ j =>
      have hp := List.getElem?_eq_getElem (Nat.lt_of_succ_lt hj)
      have e : prv R (j + 1) = some (R[j]'(Nat.lt_of_succ_lt hj)).u := by show R[j]?.map _ = _; rw [hp]; rfl
      generalize R[j]'_ = y at hp e
      refine d1 (Int.ofNat_lt.mpr (Nat.succ_pos j)) ?_
      refine sub_p (x := ((j + 1 : Nat) : Int) - 1) (x _ _ hrl) zr' hp (by omega) ?_
      refine third (fun l h r => r) ?_
      rw [e, eqn]
      exact decide_eq_decide.mpr Option.some_inj.symm
end
end Mine
namespace Mine
theorem cmpA {α : Type} {chk : SH → Prop} {acc : Addr} {Tst : SV → (Bool → SH → Prop) → SH → Prop} {Bd : SV → QV → SH → Prop} {Q : QV} {σ : SH} {xs : List α} {f : α → SV} (g : α → SV) (hacc : σ acc = none) (hz : xs.length ≤ 1000)
    (hchk : ∀ h, Ext σ h → chk h) (hT : ∀ (v : SV) (k : Bool → SH → Prop) (h : SH), k true h → Tst v k h)
    (hB : ∀ x ∈ xs, ∀ h, Ext σ h → ∀ K : QV, (∀ h', Ext h h' → K (g x) h') → Bd (f x) K h)
    (hQ : ∀ h, Ext σ h → h acc = some (.list (xs.map g)) → Q (.ref acc) h) : compN chk acc Tst Bd Q (xs.map f) (upd σ acc (.list [])) :=
  cmpF (fun _ => true) g hacc hz hchk (fun x m h x' k hk => hT _ _ _ (hk h true rfl (Ext.refl h))) hB fun h x e => hQ h x (by rw [e, List.filter_eq_self.mpr fun _ _ => rfl])
noncomputable def Row.l (r : Row) : List SV := [.int r.u, .int (-(r.s : Int)), .int r.k, .int r.z]
theorem tc_g {x u : Int} {l l' : List SV} : tcmp .Gt (.int x :: l) (.int u :: l') = if x = u then tcmp .Gt l l' else some (decide (u < x)) := by
  by_cases c : x = u
  · rw [if_pos c, tc_t (fe_i c)]
  · rw [if_neg c]
    show (match some (x == u) with | some true => tcmp .Gt l l' | some false => some (decide (u < x)) | none => _) = _
    rw [beq_eq_false_iff_ne.mpr c]
theorem gt_ex (x y : Row) : ∃ b, tcmp .Gt x.l y.l = some b := by
  unfold Row.l
  rw [tc_g, tc_g, tc_g, tc_g]
  by_cases c1 : (x.u : Int) = y.u
  · by_cases c2 : -(x.s : Int) = -(y.s : Int)
    · by_cases c3 : (x.k : Int) = y.k
      · by_cases c4 : (x.z : Int) = y.z
        · rw [if_pos c1, if_pos c2, if_pos c3, if_pos c4]; exact ⟨_, rfl⟩
        · rw [if_pos c1, if_pos c2, if_pos c3, if_neg c4]; exact ⟨_, rfl⟩
      · rw [if_pos c1, if_pos c2, if_neg c3]; exact ⟨_, rfl⟩
    · rw [if_pos c1, if_neg c2]; exact ⟨_, rfl⟩
  · rw [if_neg c1]; exact ⟨_, rfl⟩
theorem gt_of {x y : Row} (hx : x.Ok) (hy : y.Ok) (h : rank x ≤ rank y) (ne : x.s ≠ y.s) : bestT x.l y.l = y.l ∧ bestT y.l x.l = y.l := by
  have hl := u_of hx hy h
  have fin : tcmp .Gt y.l x.l = some true → tcmp .Gt x.l y.l = some false → bestT x.l y.l = y.l ∧ bestT y.l x.l = y.l := fun e1 e2 => ⟨by unfold bestT gtT; rw [e1]; rfl, by unfold bestT gtT; rw [e2]; rfl⟩
  unfold Row.l at fin ⊢
  by_cases c : x.u = y.u
  · have c1 : ¬ -(y.s : Int) = -(x.s : Int) := fun z => ne (Int.ofNat_inj.mp (Int.neg_inj.mp z)).symm
    have lt : y.s < x.s := by
      have h1 := hx.k
      have h2 := hy.k
      unfold rank at h
      rw [c] at h
      omega
    refine fin ?_ ?_
    · rw [tc_g, if_pos (Int.ofNat_inj.mpr c.symm), tc_g, if_neg c1, decide_eq_true (Int.neg_lt_neg (Int.ofNat_lt.mpr lt))]
    · rw [tc_g, if_pos (Int.ofNat_inj.mpr c), tc_g, if_neg fun z => c1 z.symm, decide_eq_false fun z => Nat.lt_asymm lt (Int.ofNat_lt.mp (Int.neg_lt_neg_iff.mp z))]
  · have lt := Nat.lt_of_le_of_ne hl c
    refine fin ?_ ?_
    · rw [tc_g, if_neg fun z => c (Int.ofNat_inj.mp z).symm, decide_eq_true (Int.ofNat_lt.mpr lt)]
    · rw [tc_g, if_neg (mt Int.ofNat_inj.mp c), decide_eq_false fun z => Nat.lt_asymm lt (Int.ofNat_lt.mp z)]
theorem best_is {y : List SV} : ∀ (ts : List (List SV)) (t : List SV), (y = t ∨ y ∈ ts) → (∀ x ∈ t :: ts, bestT x y = y ∧ bestT y x = y) → ts.foldl bestT t = y
  | [], t, h, _ => (h.resolve_right List.not_mem_nil).symm
  | b :: ts, t, h, hb => by
    have hi : bestT t b = t ∨ bestT t b = b := by unfold bestT; split; exact .inr rfl; exact .inl rfl
    refine best_is ts (bestT t b) ?_ fun x m => (List.mem_cons.mp m).elim (fun e => ?_) fun m => hb x (List.mem_cons_of_mem _ (List.mem_cons_of_mem _ m))
    · rcases h with h | h
      · exact .inl (by rw [← h]; exact (hb b (List.mem_cons_of_mem _ List.mem_cons_self)).2.symm)
      · rcases List.mem_cons.mp h with h | h
        · exact .inl (by rw [← h]; exact (hb t List.mem_cons_self).1.symm)
        · exact .inr h
    · rw [e]
      rcases hi with e | e <;> rw [e]
      · exact hb t List.mem_cons_self
      · exact hb b (List.mem_cons_of_mem _ List.mem_cons_self)
theorem slt_l {Q : QV} {σ : SH} {G : Gd} {a : Addr} {l : List SV} {k : Nat} (h : σ a = some (.list l)) (h1 : k < 1000) (hz : l.length ≤ 1000000) (q : ∀ b s, σ b = none → s b = some (.list (l.take k)) → Ext σ s → Q (.ref b) s) : slToG G (.ref a) (.int k) Q σ :=
  ⟨l, h, Int.natCast_nonneg _, by omega, hz, by rw [Int.toNat_natCast]; exact new_w q⟩
theorem cat {Q : QV} {σ : SH} {x y : Addr} {l l' : List SV} (h : σ x = some (.list l)) (h' : σ y = some (.list l')) (hz : l.length + l'.length ≤ 1000000) (q : ∀ L s, σ L = none → Ext σ s → s L = some (.list (l ++ l')) → Q (.ref L) s) : binW .Add (.ref x) (.ref y) Q σ :=
  ⟨rfl, _, _, h, h', hz, new_w fun L s hL e x => q L s hL x e⟩
theorem byt_same : ∀ l : List (Array UInt8), tcmp .NotEq (l.map .byt) (l.map .byt) = some false
  | [] => rfl
  | b :: l => (tc_t fe_y).trans (byt_same l)
theorem int_same : ∀ l : List Int, tcmp .NotEq (l.map .int) (l.map .int) = some false
  | [] => rfl
  | b :: l => (tc_t (fe_i rfl)).trans (int_same l)
section
variable {w : Wd} {H0 : Heap} (B : Base w H0) {d : Nat} {σ : SH} {Q : QV}
include B
theorem k_taken {c td wd bp pp l0 l1 : Addr} {lev : Nat} {K : CK} {U W : List AT} {ts : List Tab} {ps : List (Array UInt8)} {y : Row} (hC : CompAt σ c lev K) (hil : σ K.il = some (.list [.ref l0, .ref l1])) (h0 : FL σ l0 U) (h1 : FL σ l1 W) (h : LT σ td wd ts)
    (hU : ∀ t ∈ U, t.2 ∈ ts ∧ t.2.lev = lev) (hW : ∀ t ∈ W, t.2 ∈ ts ∧ t.2.lev = lev + 1) (ne : U ≠ []) (hT : Hi U [] y) (hinj : ∀ t ∈ U, t.2.hi.s = y.s → t.2.hi = y) (zUW : U.length + W.length ≤ 500)
    (hb : σ bp = some (.list (ps.map .byt))) (hp : σ pp = some (.list ((ps.set lev y.B).map .byt))) (hl : lev < ps.length) (zps : ps.length ≤ 100)
    (q : ∀ L s, Ext σ s → s L = some (.list ((U ++ W).map fun t => .int t.2.n)) → Q (.ref L) s) : CallF (GG w H0) (d + 3) (.ref 768) [.ref c, .ref td, .ref wd, .ref bp, .ref pp] Q σ := by
  have lt2 : ∀ {a b : SV}, [a, b].length ≤ 1000000 := Nat.le_of_ble_eq_true rfl
  refine fnC B (ok__law_taken B) rfl (hC.inp (sub_n (k := 0) hil lt2 rfl (itl h0.e fun ul hul => ?_)))
  refine cmpA (fun t : AT => SV.int t.2.n) hul h0.z (fun _ x => x _ _ h0.e) (fun _ _ _ q => q) (fun t m s x K hK => ((h0.t t m).ext x).num (hK s (Ext.refl s))) fun s1 x1 e1 => ?_
  refine (hC.kp (x1.kp [])).inp (sub_n (k := 1) (x1 _ _ hil) lt2 rfl (itl (x1 _ _ h1.e) fun wl hwl => ?_))
  refine cmpA (fun t : AT => SV.int t.2.n) hwl h1.z (fun _ x => x _ _ (x1 _ _ h1.e)) (fun _ _ _ q => q) (fun t m s x K hK => ((h1.t t m).ext (x1.trans x)).num (hK s (Ext.refl s))) fun s2 x2 e2 => ?_
  have e1 := x2 _ _ e1
  have x := x1.trans x2
  obtain ⟨u0, U', eU⟩ := List.exists_cons_of_ne_nil ne
  have ends : ∀ {q7}, wpB (GG w H0) (d + 2) (SL.drop 5 b__law_taken) (retK Q) [some (.ref c), some (.ref td), some (.ref wd), some (.ref bp), some (.ref pp), some (.ref ul), some (.ref wl), q7, none, none] s2 := fun {q7} => by
    refine itl e1 fun acc hacc => ?_
    refine cmpA (fun t : AT => t.2.hi.sv) hacc h0.z (fun _ x => x _ _ e1) (fun _ _ _ q => q) (fun t m s x' K hK => ?_) fun s3 x3 ea => ?_
    · have hh := h.ext (x.trans x')
      have tm := (hU t m).1
      exact hh.row tm (hh.row tm (hh.len tm (hh.hi tm rfl (hK s (Ext.refl s)))))
    have z3 := x.trans x3
    have C3 := hC.kp (z3.kp [])
    refine C3.lv (slt_l (z3 _ _ hb) (by omega) (by rw [List.length_map]; omega) fun b1 s4 _ e4 x4 => ?_)
    have hm : ∀ x ∈ u0.2.hi.l :: U'.map (fun t => t.2.hi.l), ∃ t ∈ U, x = t.2.hi.l := fun x m => by
      rw [show u0.2.hi.l :: U'.map (fun t => t.2.hi.l) = U.map (fun t => t.2.hi.l) by rw [eU]; rfl] at m
      obtain ⟨t, mt, e⟩ := List.mem_map.mp m
      exact ⟨t, mt, e.symm⟩
    have eb := best_is (y := y.l) (U'.map fun t => t.2.hi.l) u0.2.hi.l (by
      obtain ⟨t, mt, e⟩ := hT.1
      rw [e]
      exact List.mem_cons.mp (show _ ∈ (u0 :: U').map (fun t => t.2.hi.l) from List.mem_map.mpr ⟨t, eU ▸ mt, rfl⟩)) fun x m => by
      obtain ⟨t, mt, e⟩ := hm x m
      rw [e]
      by_cases c : t.2.hi.s = y.s
      · rw [hinj t mt c]; unfold bestT; exact ⟨ite_self _, ite_self _⟩
      · exact gt_of (h0.ok t mt).hiO (hT.ok h0.ok) ((hT.2 t mt).resolve_left List.not_mem_nil) c
    refine f_max (t := u0.2.hi.l) (ts := U'.map fun t => t.2.hi.l) (by rw [x4 _ _ ea, eU, List.map_cons, List.map_cons, List.map_map]; rfl) (fun r hr z hz => ?_) ?_
    · obtain ⟨t, _, e⟩ := hm r hr
      obtain ⟨t', _, e'⟩ := hm z hz
      rw [e, e']; exact gt_ex _ _
    rw [eb]
    refine k_law_ikey B (r := y) (hT.ok h0.ok) fun s5 x5 => new_w fun b2 s6 _ e6 x6 => ?_
    have x56 := x5.trans x6
    have z6 := (z3.trans x4).trans x56
    refine cat (x56 _ _ e4) e6 (by rw [List.length_take, List.length_map]; show min lev ps.length + 1 ≤ _; omega) fun b3 s7 _ x7 e7 => ?_
    have z7 := z6.trans x7
    refine (hC.kp (z7.kp [])).lv (slf_l (k := lev + 1) (z7 _ _ hb) (by omega) (by rw [List.length_map]; omega) fun b4 s8 _ e8 x8 => ?_)
    refine cat (x8 _ _ e7) e8 (by rw [List.length_append, List.length_take, List.length_drop, List.length_map]; show min lev ps.length + 1 + _ ≤ _; omega) fun b5 s9 _ x9 e9 => ?_
    have z9 := (z7.trans x8).trans x9
    have ep : (ps.map SV.byt).take lev ++ [.byt y.B] ++ (ps.map SV.byt).drop (lev + 1) = (ps.set lev y.B).map .byt := by
      rw [List.set_eq_take_append_cons_drop, if_pos hl, List.map_append, List.map_cons, List.map_take, List.map_drop, List.append_assoc]; rfl
    rw [ep] at e9
    refine ⟨rfl, _, _, false, z9 _ _ hp, e9, .inr (byt_same _), ?_⟩
    have x39 := (((x3.trans x4).trans x56).trans x7).trans (x8.trans x9)
    refine cat (x39 _ _ e1) (x39 _ _ e2) (by rw [List.length_map, List.length_map]; omega) fun L s10 _ x10 e10 => q L s10 (z9.trans x10) (by rw [e10, List.map_append])
  refine len_map e1 h0.z (bn (eqz _) (fun z => ne (List.length_eq_zero_iff.mp z)) (itl e1 ?_))
  refine for1 (f := fun t : AT => SV.int t.2.n) (fun rest l' h' => ∀ Z : Loc → SH → Prop, (∀ q7, (∀ t ∈ rest, t ∈ U) → Z [some (.ref c), some (.ref td), some (.ref wd), some (.ref bp), some (.ref pp), some (.ref ul), some (.ref wl), q7, none, none] s2) → Z l' h')
    (fun i => ?_) (fun l' h' i => ?_) (fun t rest l' h' R k i => ?_) fun Z z => z none fun _ h => h
  · apply i; intro _ _; exact e1
  · apply i; intro q7 _
    refine itl e2 ?_
    refine for1 (f := fun t : AT => SV.int t.2.n) (fun rest l' h' => ∀ Z : Loc → SH → Prop, (∀ q7, (∀ t ∈ rest, t ∈ W) → Z [some (.ref c), some (.ref td), some (.ref wd), some (.ref bp), some (.ref pp), some (.ref ul), some (.ref wl), q7, none, none] s2) → Z l' h')
      (fun i => ?_) (fun l' h' i => ?_) (fun t rest l' h' R k i => ?_) fun Z z => z q7 fun _ h => h
    · apply i; intro _ _; exact e2
    · apply i; intro q7 _; exact ends
    · apply i; intro q7 mr
      obtain ⟨tm, tl⟩ := hW t (mr t List.mem_cons_self)
      obtain ⟨ep, ew⟩ := (h.ext x).w
      refine nin_dd ew ?_
      rw [show mlook (wdM ts) t.2.n = _ from h.look tm fun t => .int t.lev]
      refine (h.ext x).lev tm ((hC.kp (x.kp [])).lv ?_)
      refine in_ (c := ((t.2.lev : Int) != (lev : Int) + 1) = true) (by rw [tl]; simp) (k _ _ fun Z z => z _ fun y m => mr y (List.mem_cons_of_mem _ m))
  · apply i; intro q7 mr
    obtain ⟨tm, tl⟩ := hU t (mr t List.mem_cons_self)
    obtain ⟨ep, ew⟩ := (h.ext x).w
    refine nin_dd ew ?_
    rw [show mlook (wdM ts) t.2.n = _ from h.look tm fun t => .int t.lev]
    refine (h.ext x).lev tm ((hC.kp (x.kp [])).lv ?_)
    refine in_ (c := ((t.2.lev : Int) != (lev : Int)) = true) (by rw [tl]; simp) (k _ _ fun Z z => z _ fun y m => mr y (List.mem_cons_of_mem _ m))
end
end Mine
namespace Mine
theorem f_min2n {G : Gd} {d : Nat} {Q : QV} {σ : SH} {x y : Int} {a b : Nat} (ex : x = a) (ey : y = b) (q : Q (.int (min a b : Nat)) σ) : CallF G d (.builtin "min") [.int x, .int y] Q σ := by
  refine f_min2 ?_
  rw [show (if y < x then y else x) = ((min a b : Nat) : Int) by rw [ex, ey]; split <;> omega]
  exact q
theorem f_max2n {G : Gd} {d : Nat} {Q : QV} {σ : SH} {x y : Int} {a : Nat} (ex : x = 0) (ey : y.toNat = a) (q : Q (.int a) σ) : CallF G d (.builtin "max") [.int x, .int y] Q σ := by
  refine f_max2 ?_
  rw [show (if y > x then y else x) = (a : Int) by rw [ex, ← ey]; split <;> omega]
  exact q
section
variable {ts : List Tab} {t : Tab} {s : SH} {R : SH → Prop} {a : Addr}
theorem put_d {ep : Nat} (h : s a = some (.dict (tdM ts) ep)) (new : ∀ z ∈ ts, z.n ≠ t.n) (hz : ts.length ≤ 1000) (q : ∀ s', (∃ ep, s' a = some (.dict (tdM (ts ++ [t])) ep)) → Bar a s s' → R s') : setSubW (.ref a) (.int t.n) (.ref t.a) R s := by
  refine set_d h (by unfold tdM; rw [List.length_map]; exact hz) fun ep' s' e b => q s' ⟨ep', ?_⟩ b
  rw [e, mput_new (mlook_none fun p m => ?_), tdM, tdM, List.map_append]; rfl
  obtain ⟨z, mz, e⟩ := List.mem_map.mp m
  rw [← e]; exact mt Int.ofNat_inj.mp (new z mz)
theorem put_w {ep : Nat} (h : s a = some (.dict (wdM ts) ep)) (new : ∀ z ∈ ts, z.n ≠ t.n) (hz : ts.length ≤ 1000) (q : ∀ s', (∃ ep, s' a = some (.dict (wdM (ts ++ [t])) ep)) → Bar a s s' → R s') : setSubW (.ref a) (.int t.n) (.int t.lev) R s := by
  refine set_d h (by unfold wdM; rw [List.length_map]; exact hz) fun ep' s' e b => q s' ⟨ep', ?_⟩ b
  rw [e, mput_new (mlook_none fun p m => ?_), wdM, wdM, List.map_append]; rfl
  obtain ⟨z, mz, e⟩ := List.mem_map.mp m
  rw [← e]; exact mt Int.ofNat_inj.mp (new z mz)
theorem nd_snoc (nd : (ts.map (·.n)).Nodup) (new : ∀ z ∈ ts, z.n ≠ t.n) : ((ts ++ [t]).map (·.n)).Nodup := by
  rw [List.map_append]
  refine List.nodup_append.mpr ⟨nd, List.nodup_cons.mpr ⟨List.not_mem_nil, List.nodup_nil⟩, fun x mx y my => ?_⟩
  obtain ⟨z, mz, e⟩ := List.mem_map.mp mx
  rw [List.mem_singleton.mp my, ← e]; exact new z mz
theorem all_snoc {α : Type} {P : α → Prop} {l : List α} {x : α} (h : ∀ y ∈ l, P y) (k : P x) : ∀ y ∈ l ++ [x], P y := fun y m => (List.mem_append.mp m).elim (h y) fun m => by rw [List.mem_singleton.mp m]; exact k
theorem LT.grow {s' : SH} {td wd : Addr} (h : LT s td wd ts) (e1 : ∃ ep, s' td = some (.dict (tdM (ts ++ [t])) ep)) (e2 : ∃ ep, s' wd = some (.dict (wdM (ts ++ [t])) ep)) (k : ∀ t ∈ ts, s' t.a = s t.a) (hr : s' t.a = some (.list (t.rows.map Row.sv))) (ok : t.Ok) (new : ∀ z ∈ ts, z.n ≠ t.n) (z : ts.length < 6) : LT s' td wd (ts ++ [t]) :=
  ⟨e1, e2, all_snoc (fun t m => (k t m).trans (h.r t m)) hr, all_snoc h.ok ok, nd_snoc h.nd new, by rw [List.length_append]; exact z⟩
end
structure LI (count : Nat) (ts : List Tab) (seq : Nat) : Prop where
  ok : ∀ t ∈ ts, t.Ok
  lv : ∀ t ∈ ts, t.lev < count
  sq : ∀ t ∈ ts, ∀ r ∈ t.rows, r.s < seq
  inj : ∀ t ∈ ts, ∀ r ∈ t.rows, ∀ r' ∈ t.rows, r.s = r'.s → r = r'
  pw : ts.Pairwise fun a b => a.n < b.n ∧ (∀ r ∈ a.rows, ∀ r' ∈ b.rows, r.s < r'.s) ∧ (a.lo.u ≤ b.hi.u → b.lo.u ≤ a.hi.u → b.lev ≤ a.lev - 1)
  sz : ∀ t ∈ ts, t.z < 2 ^ 50
  n : ∀ t ∈ ts, t.n < 10 + ts.length
theorem LI.push {count : Nat} {ts : List Tab} {seq : Nat} (h : LI count ts seq) {t : Tab} (ok : t.Ok) (lv : t.lev < count) (sq : ∀ r ∈ t.rows, seq ≤ r.s ∧ r.s < seq + t.rows.length) (inj : ∀ r ∈ t.rows, ∀ r' ∈ t.rows, r.s = r'.s → r = r') (sz : t.z < 2 ^ 50) (n : t.n = 10 + ts.length)
    (ab : ∀ a ∈ ts, a.lo.u ≤ t.hi.u → t.lo.u ≤ a.hi.u → t.lev ≤ a.lev - 1) : LI count (ts ++ [t]) (seq + t.rows.length) where
  ok := all_snoc h.ok ok
  lv := all_snoc h.lv lv
  sq := all_snoc (fun x m r mr => Nat.lt_of_lt_of_le (h.sq x m r mr) (Nat.le_add_right _ _)) fun r mr => (sq r mr).2
  inj := all_snoc h.inj inj
  pw := List.pairwise_append.mpr ⟨h.pw, List.pairwise_singleton _ _, fun a ha b hb => by
    rw [List.mem_singleton.mp hb]
    exact ⟨by rw [n]; exact h.n a ha, fun r hr r' hr' => Nat.lt_of_lt_of_le (h.sq a ha r hr) (sq r' hr').1, ab a ha⟩⟩
  sz := all_snoc h.sz sz
  n := all_snoc (fun x m => by rw [List.length_append]; exact Nat.lt_succ_of_lt (h.n x m)) (by rw [n, List.length_append]; exact Nat.lt_succ_self _)
theorem LI.nd {count : Nat} {ts : List Tab} {seq : Nat} (h : LI count ts seq) : (ts.map (·.n)).Nodup := List.pairwise_map.mpr (h.pw.imp fun q => Nat.ne_of_lt q.1)
theorem row_sv {low s k z : Nat} {a b c : Int} (ea : a = -(s : Int)) (eb : b = k) (ec : c = z) : SV.tup [.int low, .int a, .int b, .int c] = Row.sv ⟨low, s, k, z⟩ := by rw [ea, eb, ec]; rfl
theorem row1_ok {low s k z n lev : Nat} {a : Addr} (hl : low < 6) (hs : s < 256) (hk : k < 2) : (⟨n, lev, [⟨low, s, k, z⟩], a⟩ : Tab).Ok where
  ne := List.cons_ne_nil _ _
  rows := fun r hr => by rw [List.mem_singleton.mp hr]; exact ⟨hl, hs, hk⟩
  up := List.pairwise_singleton _ _
theorem row2_ok {low high s k k2 z z2 n lev : Nat} {a : Addr} (hl : low < high) (hh : high < 6) (hs : s + 1 < 256) (hk : k < 2) (hk2 : k2 < 2) : (⟨n, lev, [⟨low, s, k, z⟩, ⟨high, s + 1, k2, z2⟩], a⟩ : Tab).Ok where
  ne := List.cons_ne_nil _ _
  rows := List.forall_mem_cons.mpr ⟨⟨Nat.lt_trans hl hh, Nat.lt_of_succ_lt hs, hk⟩, List.forall_mem_cons.mpr ⟨⟨hh, hs, hk2⟩, fun _ h => absurd h List.not_mem_nil⟩⟩
  up := List.pairwise_pair.mpr hl
theorem OkO.small44 {p : Opt} (h : OkO p) : ∀ j, j < p.num → maxOct p j < 2 ^ 44 := by rcases h.e with e | e <;> rw [e] <;> decide
noncomputable abbrev lay_body : SL := S.body (SL.at 3 b__law_lay)
end Mine
namespace Mine
theorem sub_k (k : Nat) : (1 : Int) - (k % 2 : Nat) = (1 - k % 2 : Nat) := by omega
theorem tz2 {n l a : Nat} {x y : Row} : Tab.z ⟨n, l, [x, y], a⟩ = x.z + y.z := rfl
theorem z2_lt {n : Nat} (h : n < 2 ^ 47) : n - n / 2 + n / 2 < 2 ^ 50 := by rw [Nat.sub_add_cancel (Nat.div_le_self n 2)]; exact Nat.lt_trans h (by decide)
theorem sub_k2 (k : Nat) : (1 : Int) - (k % 4 / 2 : Nat) = (1 - k % 4 / 2 : Nat) := by omega
section
variable {w : Wd} {H0 : Heap} (B : Base w H0) {d : Nat} {σ : SH} {Q : QV}
include B
theorem k_lay {nm bd : Addr} {ns : List Int} {p : Opt} {total : Nat} (hn : σ nm = some (.list (ns.map .int))) (h0 : 0 < ns.length) (hz : ns.length ≤ 1000) (hpos : ∀ i, ∃ y : Nat, draw ns i = y) (ho : OkO p) (hb : σ bd = some (.list (rngV p.num (maxOct p)))) (ht : total ≤ 6)
    (q : ∀ td wd ts last s, td ≠ wd → Ext σ s → LT s td wd ts → LI p.num ts (last + 1) → ts.length = total → last ≤ 12 → Q (.tup [.ref td, .ref wd, .int last]) s) :
    CallF (GG w H0) (d + 2) (.ref 763) [.ref nm, .int p.num, .ref bd, .int total] Q σ := by
  have c4 := ho.n2
  have c12 := ho.num
  refine fnC B (ok__law_lay B) rfl (new_w fun td s1 htd etd x1 => new_w fun wd s2 hwd ewd x2 => ?_)
  have tw := ne_of etd hwd
  have fwd := x1.none hwd
  refine f_range1 (by omega) (by omega) ?_
  rw [Int.toNat_natCast]
  refine forR (fun j l' h' => ∀ Z : Loc → SH → Prop, (∀ ts seq q7 q8 q9 q10 q11 q12 q13 q14 q15 s, ts.length = j → 1 ≤ seq → seq ≤ 1 + 2 * j → Ext σ s → LT s td wd ts → LI p.num ts seq →
      Z [some (.ref nm), some (.int p.num), some (.ref bd), some (.int total), some (.ref td), some (.ref wd), some (.int seq), q7, q8, q9, q10, q11, q12, q13, q14, q15] s) → Z l' h')
    (fun i => trivial) (fun l' h' i => ?_) (fun j l' h' R hj k i => ?_) fun Z z => z [] 1 _ _ _ _ _ _ _ _ _ s2 rfl (Nat.le_refl _) (Nat.le_refl _) (x1.trans x2) ⟨⟨0, x2 _ _ etd⟩, ⟨0, ewd⟩, fun _ h => absurd h List.not_mem_nil, fun _ h => absurd h List.not_mem_nil, List.nodup_nil, Nat.zero_le _⟩
      ⟨fun _ h => absurd h List.not_mem_nil, fun _ h => absurd h List.not_mem_nil, fun _ h => absurd h List.not_mem_nil, fun _ h => absurd h List.not_mem_nil, .nil, fun _ h => absurd h List.not_mem_nil, fun _ h => absurd h List.not_mem_nil⟩
  · apply i; intro ts seq q7 q8 q9 q10 q11 q12 q13 q14 q15 s hj s1 s2 x T I
    obtain ⟨last, rfl⟩ : ∃ l, seq = l + 1 := ⟨seq - 1, (Nat.sub_add_cancel s1).symm⟩
    have := q td wd ts last s tw x T I hj (by omega)
    rw [show (last : Int) = ((last + 1 : Nat) : Int) - 1 by omega] at this
    exact this
  apply i; intro ts seq q7 q8 q9 q10 q11 q12 q13 q14 q15 s ej s1 s2 x T I
  obtain ⟨y, hy⟩ := hpos (2 + j)
  refine k_draw B (i := 2 + j) (x _ _ hn) h0 hz ?_
  rw [hy]
  have hlow : y % 6 < 6 := Nat.mod_lt _ (by decide)
  have hlh : y % 6 ≤ min 5 (y % 6 + y / 6 % 3) := Nat.le_min.mpr ⟨Nat.le_of_lt_succ hlow, Nat.le_add_right _ _⟩
  have hh : min 5 (y % 6 + y / 6 % 3) < 6 := Nat.lt_succ_of_le (Nat.min_le_left _ _)
  have hl0 : y / 18 % p.num < p.num := Nat.mod_lt _ (by omega)
  refine f_min2n (a := 5) (b := y % 6 + y / 6 % 3) rfl rfl (gd_of (decide_eq_true (by omega)) ?_)
  have last : ∀ {K : KF} {low high level : Nat} {q12}, (∀ l h, R l h → K .next l h) → low < 6 → low ≤ high → high < 6 → level < p.num → (∀ a ∈ ts, a.lo.u ≤ high → low ≤ a.hi.u → level ≤ a.lev - 1) →
      wpB (GG w H0) (d + 1) (SL.drop 5 lay_body) K [some (.ref nm), some (.int p.num), some (.ref bd), some (.int total), some (.ref td), some (.ref wd), some (.int seq), some (.int j), some (.int y), some (.int low), some (.int high), some (.int level), q12, q13, q14, q15] s := by
    intro K low high level q12 hK hlow hlh hh hl ha
    have fin : ∀ {t : Tab} {s4 q13 q14}, t.n = 10 + j → t.lev = level → Ext s s4 → s4 t.a = some (.list (t.rows.map Row.sv)) → t.Ok → t.rows.length ≤ 2 → (∀ r ∈ t.rows, seq ≤ r.s ∧ r.s < seq + t.rows.length) → (∀ r ∈ t.rows, ∀ r' ∈ t.rows, r.s = r'.s → r = r') → t.z < 2 ^ 50 → low ≤ t.lo.u → t.hi.u ≤ high →
        wpB (GG w H0) (d + 1) (SL.drop 9 lay_body) K [some (.ref nm), some (.int p.num), some (.ref bd), some (.int total), some (.ref td), some (.ref wd), some (.int seq), some (.int j), some (.int y), some (.int low), some (.int high), some (.int level), q12, q13, q14, some (.ref t.a)] s4 := by
      rintro ⟨n, lev, rows, ra⟩ s4 q13 q14 rfl rfl x4 e4 ok l2 sq inj sz lo hi
      have l2 : rows.length ≤ 2 := l2
      have new : ∀ z ∈ ts, z.n ≠ 10 + j := fun z m => Nat.ne_of_lt (ej ▸ I.n z m)
      have T4 := T.ext x4
      have z6 : ts.length < 6 := by omega
      have zz : ts.length ≤ 1000 := Nat.le_trans T.z (by decide)
      obtain ⟨ep, ed⟩ := T4.d
      refine len_map e4 (Nat.le_trans l2 (by decide)) (put_d (t := ⟨10 + j, lev, rows, ra⟩) ed new zz fun s5 e5 b5 => ?_)
      obtain ⟨ep2, ew⟩ := T4.w
      refine put_w (t := ⟨10 + j, lev, rows, ra⟩) (b5 _ _ tw.symm ew) new zz fun s6 e6 b6 => ?_
      have ew5 := b5 _ _ tw.symm ew
      have kp := (b5.kp ed : Kp [1] s4 s5).trans (b6.kp ew5 : Kp [1] s5 s6)
      exact hK _ _ (k _ _ fun Z z => z (ts ++ [⟨10 + j, lev, rows, ra⟩]) (seq + rows.length) _ _ _ _ _ _ _ _ _ s6 (by rw [List.length_append, ej]; rfl) (Nat.le_trans s1 (Nat.le_add_right _ _)) (by omega) (fun a o e => b6 a o (ne_of e fwd) (b5 a o (ne_of e htd) (x4 a o (x a o e))))
        (T4.grow (e5.imp fun _ e => b6 _ _ tw e) e6 (fun t m => (kp _ _ (T4.r t m) rfl).trans (T4.r t m).symm) (kp _ _ e4 rfl) ok new z6) (I.push ok hl sq inj sz (by rw [ej]) fun a m h1 h2 => ha a m (Nat.le_trans h1 hi) (Nat.le_trans lo h2)))
    have zm : min level (p.num - 2) < p.num := Nat.lt_of_le_of_lt (Nat.min_le_left _ _) hl
    have z44 := ho.small44 _ zm
    refine f_min2n (b := p.num - 2) rfl (by omega) (sub_r (x _ _ hb) zm (by omega) ⟨small_n (Nat.lt_trans z44 (by decide)), ?_⟩)
    have zs : 1 + maxOct p (min level (p.num - 2)) * (y / 216 % 7) / 4 < 2 ^ 47 := by
      have h7 : y / 216 % 7 < 7 := Nat.mod_lt _ (by decide)
      have := Nat.mul_le_mul_left (maxOct p (min level (p.num - 2))) (Nat.le_of_lt_succ h7)
      omega
    refine new_w fun ra s4 _ e4 x4 => ?_
    have hk2 : 1 - y / 1512 % 4 % 2 < 2 := Nat.lt_of_le_of_lt (Nat.sub_le _ _) (by decide)
    have hk3 : 1 - y / 1512 % 4 / 2 < 2 := Nat.lt_of_le_of_lt (Nat.sub_le _ _) (by decide)
    have sq : seq + 1 < 256 := by omega
    refine dc (fun c => ?_) fun c => ?_
    · have c := Int.ofNat_lt.mp c
      refine new_w fun ra s5 _ e5 x5 => ?_
      refine fin (t := ⟨10 + j, level, [⟨low, seq, 1 - y / 1512 % 4 % 2, 1 + maxOct p (min level (p.num - 2)) * (y / 216 % 7) / 4 - (1 + maxOct p (min level (p.num - 2)) * (y / 216 % 7) / 4) / 2⟩, ⟨high, seq + 1, 1 - y / 1512 % 4 / 2, (1 + maxOct p (min level (p.num - 2)) * (y / 216 % 7) / 4) / 2⟩], ra⟩) rfl rfl (x4.trans x5) ?_
        (row2_ok c hh sq hk2 hk3) (Nat.le_refl _) (List.forall_mem_cons.mpr ⟨⟨Nat.le_refl _, Nat.lt_add_of_pos_right (Nat.succ_pos _)⟩, List.forall_mem_cons.mpr ⟨⟨Nat.le_succ _, Nat.lt_succ_self _⟩, fun _ h => absurd h List.not_mem_nil⟩⟩) ?_ ?_ (Nat.le_refl _) (Nat.le_refl _)
      · rw [e5]
        refine congrArg (fun l => some (SO.list l)) (List.cons_eq_cons.mpr ⟨row_sv (Int.zero_sub _) ?_ ?_, List.cons_eq_cons.mpr ⟨row_sv (by omega) ?_ rfl, rfl⟩⟩)
        · exact sub_k _
        · exact (Int.ofNat_sub (Nat.div_le_self _ 2)).symm
        · exact sub_k2 _
      · refine List.forall_mem_cons.mpr ⟨List.forall_mem_cons.mpr ⟨fun _ => rfl, List.forall_mem_cons.mpr ⟨fun h => absurd h (Nat.ne_of_lt (Nat.lt_succ_self seq)), fun _ h => absurd h List.not_mem_nil⟩⟩, List.forall_mem_cons.mpr ⟨List.forall_mem_cons.mpr ⟨fun h => absurd h.symm (Nat.ne_of_lt (Nat.lt_succ_self seq)), List.forall_mem_cons.mpr ⟨fun _ => rfl, fun _ h => absurd h List.not_mem_nil⟩⟩, fun _ h => absurd h List.not_mem_nil⟩⟩
      · rw [tz2]; exact z2_lt zs
    · refine fin (t := ⟨10 + j, level, [⟨low, seq, 1 - y / 1512 % 4 % 2, 1 + maxOct p (min level (p.num - 2)) * (y / 216 % 7) / 4⟩], ra⟩) rfl rfl x4 (e4.trans ?_) (row1_ok hlow (Nat.lt_of_succ_lt sq) hk2) (Nat.le_of_ble_eq_true rfl) (List.forall_mem_cons.mpr ⟨⟨Nat.le_refl _, Nat.lt_succ_self _⟩, fun _ h => absurd h List.not_mem_nil⟩) (fun r m r' m' _ => (List.mem_singleton.mp m).trans (List.mem_singleton.mp m').symm) ?_ (Nat.le_refl _) hlh
      · exact congrArg (fun l => some (SO.list l)) (List.cons_eq_cons.mpr ⟨row_sv (Int.zero_sub _) (sub_k _) rfl, rfl⟩)
      · exact Nat.lt_trans zs (by decide)
  refine T.itw (Ext.refl s) fun chk hk => ?_
  refine for1 (f := fun t : Tab => SV.int t.n) (fun rest l' h' => ∀ Z : Loc → SH → Prop, (∀ (dn : List Tab) (level : Nat) q12, ts = dn ++ rest → level < p.num → (∀ a ∈ dn, a.lo.u ≤ min 5 (y % 6 + y / 6 % 3) → y % 6 ≤ a.hi.u → level ≤ a.lev - 1) →
      Z [some (.ref nm), some (.int p.num), some (.ref bd), some (.int total), some (.ref td), some (.ref wd), some (.int seq), some (.int j), some (.int y), some (.int (y % 6 : Nat)), some (.int (min 5 (y % 6 + y / 6 % 3) : Nat)), some (.int level), q12, q13, q14, q15] s) → Z l' h')
    (fun i => ?_) (fun l' h' i => ?_) (fun t rest l' h' R2 k2 i => ?_) fun Z z => z [] _ q12 rfl hl0 fun _ h => absurd h List.not_mem_nil
  · apply i; intro _ _ _ _ _ _; exact hk s (Ext.refl s)
  · apply i; intro dn level q12 e hl ha
    rw [List.append_nil] at e
    rw [← e] at ha
    exact last (fun l h r => r) hlow hlh hh hl ha
  · apply i; intro dn level q12 e hl ha
    have m : t ∈ ts := by rw [e]; exact List.mem_append_right _ List.mem_cons_self
    have e' : ts = (dn ++ [t]) ++ rest := by rw [List.append_assoc]; exact e
    refine T.row m (T.lo m ?_)
    refine dc (fun c1 => T.row m (T.row m (T.len m (T.hi m rfl ?_)))) fun c1 => d0 c1 (k2 _ _ fun Z z => z (dn ++ [t]) _ _ e' hl (all_snoc ha fun h => absurd (Int.ofNat_le.mpr h) c1))
    refine dc (fun c2 => T.lev m ?_) fun c2 => k2 _ _ fun Z z => z (dn ++ [t]) _ _ e' hl (all_snoc ha fun _ h => absurd (Int.ofNat_le.mpr h) c2)
    refine f_max2n (a := t.lev - 1) rfl (by omega) (f_min2n rfl rfl ?_)
    exact k2 _ _ fun Z z => z (dn ++ [t]) _ _ e' (Nat.lt_of_le_of_lt (Nat.min_le_left _ _) hl) (all_snoc (fun a m h1 h2 => Nat.le_trans (Nat.min_le_left _ _) (ha a m h1 h2)) fun _ _ => Nat.min_le_right _ _)
end
end Mine
namespace Mine
noncomputable def newer (a b : Tab) : Prop := ∀ r ∈ a.rows, ∀ r' ∈ b.rows, r.u = r'.u → r'.s < r.s
structure Inv (count last : Nat) (ts : List Tab) (nw : Nat → Option Row) : Prop where
  ok : ∀ t ∈ ts, t.Ok
  n : ts.Pairwise fun a b => a.n < b.n
  lv : ∀ t ∈ ts, t.lev < count
  sl : ∀ t ∈ ts, ∀ r ∈ t.rows, r.s ≤ last
  dis : ∀ a ∈ ts, ∀ b ∈ ts, a.n ≠ b.n → a.lev = b.lev → a.lev ≠ 0 → a.hi.u < b.lo.u ∨ b.hi.u < a.lo.u
  abv : ∀ a ∈ ts, ∀ b ∈ ts, a.lev < b.lev → newer a b
  abv0 : ∀ a ∈ ts, ∀ b ∈ ts, a.lev = 0 → b.lev = 0 → a.n < b.n → newer b a
  inj : ∀ a ∈ ts, ∀ b ∈ ts, ∀ r ∈ a.rows, ∀ r' ∈ b.rows, r.s = r'.s → a = b ∧ r = r'
  nwo : ∀ u r, nw u = some r → r.Ok ∧ r.u = u
  nw1 : ∀ t ∈ ts, ∀ r ∈ t.rows, ∃ x, nw r.u = some x ∧ r.s ≤ x.s
  nw2 : ∀ u x, nw u = some x → (∃ t ∈ ts, x ∈ t.rows) ∨ (x.k = 0 ∧ ∀ t ∈ ts, ∀ r ∈ t.rows, r.u ≠ u)
  sz : (ts.map Tab.z).sum < 2 ^ 60
  len : ts.length ≤ 6
theorem Inv.nd {count last : Nat} {ts : List Tab} {nw : Nat → Option Row} (h : Inv count last ts nw) : (ts.map (·.n)).Nodup := List.pairwise_map.mpr (h.n.imp Nat.ne_of_lt)
theorem Inv.ndt {count last : Nat} {ts : List Tab} {nw : Nat → Option Row} (h : Inv count last ts nw) : ts.Nodup := h.n.imp fun {a b} q (e : a = b) => Nat.lt_irrefl b.n (by rw [e] at q; exact q)
theorem nd_eq {ts : List Tab} (h : (ts.map (·.n)).Nodup) {a b : Tab} (ha : a ∈ ts) (hb : b ∈ ts) (e : a.n = b.n) : a = b := by
  obtain ⟨i, hi⟩ := List.getElem?_of_mem ha
  obtain ⟨j, hj⟩ := List.getElem?_of_mem hb
  have h1 : (ts.map (·.n))[i]? = some a.n := by rw [List.getElem?_map, hi]; rfl
  have h2 : (ts.map (·.n))[j]? = some a.n := by rw [List.getElem?_map, hj, e]; rfl
  have := (List.getElem?_inj (List.getElem?_eq_some_iff.mp h1).1 h).mp (h1.trans h2.symm)
  rw [this, hj] at hi; exact (Option.some.inj hi).symm
structure VL (V : Ver) (ts : List Tab) (count : Nat) : Prop where
  len : V.lv.length = count
  perm : ∀ i, i < count → ((V.ts i).map (·.2)).Perm (onL ts i)
  srt : ∀ i, Srt i (V.ts i)
theorem onL_mem {ts : List Tab} {i : Nat} {t : Tab} : t ∈ onL ts i ↔ t ∈ ts ∧ t.lev = i := by rw [onL, List.mem_filter, decide_eq_true_eq]
section
variable {V : Ver} {ts : List Tab} {count : Nat} (h : VL V ts count)
theorem Ver.ts_mem {V : Ver} {i : Nat} {p : AT} (m : p ∈ V.ts i) : i < V.lv.length := Nat.lt_of_not_le fun g => by
  unfold Ver.ts at m
  rw [List.getElem?_eq_none g] at m
  exact List.not_mem_nil m
include h
theorem VL.sub {i : Nat} {p : AT} (m : p ∈ V.ts i) : p.2 ∈ ts ∧ p.2.lev = i :=
  onL_mem.mp ((h.perm i (h.len ▸ Ver.ts_mem m)).mem_iff.mp (List.mem_map.mpr ⟨p, m, rfl⟩))
theorem VL.get {t : Tab} (m : t ∈ ts) (l : t.lev < count) : ∃ p ∈ V.ts t.lev, p.2 = t := List.mem_map.mp ((h.perm _ l).mem_iff.mpr (onL_mem.mpr ⟨m, rfl⟩))
end
section
variable {V : Ver} {p : AT}
theorem Ver.tl {q : Addr × List AT} (m : q ∈ V.lv.tail) : ∃ j, V.lv[j + 1]? = some q := by
  obtain ⟨j, e⟩ := List.getElem?_of_mem m
  rw [List.getElem?_tail] at e; exact ⟨j, e⟩
theorem all_sub (m : p ∈ V.all) : ∃ i, p ∈ V.ts i := by
  rcases List.mem_append.mp m with m | m
  · exact ⟨0, List.mem_reverse.mp m⟩
  · obtain ⟨q, mq, m⟩ := List.mem_flatMap.mp m
    obtain ⟨j, e⟩ := Ver.tl mq
    exact ⟨j + 1, Ver.ts_at e ▸ m⟩
theorem all_get : ∀ {i : Nat}, p ∈ V.ts i → p ∈ V.all
  | 0, m => List.mem_append_left _ (List.mem_reverse.mpr m)
  | j + 1, m => by
    obtain ⟨q, e, e2⟩ := V.lvl (Ver.ts_mem m)
    exact List.mem_append_right _ (List.mem_flatMap.mpr ⟨q, List.mem_of_getElem? ((List.getElem?_tail).trans e), e2 ▸ m⟩)
end
theorem all_pw {V : Ver} {ts : List Tab} {count last : Nat} {nw : Nat → Option Row} (h : VL V ts count) (I : Inv count last ts nw) : V.all.Pairwise fun a b => newer a.2 b.2 := by
  have cross : ∀ {i j : Nat} {a b : AT}, a ∈ V.ts i → b ∈ V.ts j → i < j → newer a.2 b.2 := fun ma mb l => by
    have ha := h.sub ma
    have hb := h.sub mb
    exact I.abv _ ha.1 _ hb.1 (by rw [ha.2, hb.2]; exact l)
  refine List.pairwise_append.mpr ⟨List.pairwise_reverse.mpr ((h.srt 0).imp_of_mem fun ma mb q => ?_), List.pairwise_flatMap.mpr ⟨fun q mq => ?_, ?_⟩, fun a ma b mb => ?_⟩
  · have ha := h.sub ma
    have hb := h.sub mb
    exact I.abv0 _ ha.1 _ hb.1 ha.2 hb.2 (nxt_z rfl ▸ q)
  · obtain ⟨j, e⟩ := Ver.tl mq
    have s := h.srt (j + 1)
    rw [Ver.ts_at e] at s
    refine s.imp_of_mem fun ma mb q r mr r' mr' e' => ?_
    rw [nxt_p (Nat.succ_ne_zero j)] at q
    have ha := I.ok _ (h.sub (Ver.ts_at e ▸ ma)).1
    have hb := I.ok _ (h.sub (Ver.ts_at e ▸ mb)).1
    exact absurd (Nat.lt_of_le_of_lt (ha.le_hi mr) (Nat.lt_of_lt_of_le q (hb.lo_le mr'))) (Nat.not_lt.mpr (Nat.le_of_eq e'.symm))
  · refine List.pairwise_iff_getElem.mpr fun i j hi hj l x mx y my => ?_
    have e1 : V.lv[i + 1]? = some V.lv.tail[i] := (List.getElem?_tail).symm.trans (List.getElem?_eq_getElem hi)
    have e2 : V.lv[j + 1]? = some V.lv.tail[j] := (List.getElem?_tail).symm.trans (List.getElem?_eq_getElem hj)
    exact cross (Ver.ts_at e1 ▸ mx) (Ver.ts_at e2 ▸ my) (Nat.succ_lt_succ l)
  · obtain ⟨q, mq, mb⟩ := List.mem_flatMap.mp mb
    obtain ⟨j, e⟩ := Ver.tl mq
    exact cross (List.mem_reverse.mp ma) (Ver.ts_at e ▸ mb) (Nat.succ_pos j)
theorem rowOf_mem {u : Nat} {t : Tab} {r : Row} (h : rowOf u t = some r) : r ∈ t.rows ∧ r.u = u := by
  obtain ⟨x, e, h⟩ := Option.bind_eq_some_iff.mp h
  by_cases c : x.u = u
  · rw [if_pos c] at h; cases h; exact ⟨List.mem_of_find?_eq_some e, c⟩
  · rw [if_neg c] at h; cases h
theorem rowOf_of {t : Tab} (ok : t.Ok) {r : Row} (m : r ∈ t.rows) : rowOf r.u t = some r := by
  obtain ⟨l1, l2, e⟩ := List.append_of_mem m
  have p := ok.up
  rw [e] at p
  have hh : hit r.u t = some r := List.find?_eq_some_iff_append.mpr ⟨decide_eq_true (Nat.le_refl _), l1, l2, e, fun a ha => by rw [decide_eq_false (Nat.not_le.mpr ((List.pairwise_append.mp p).2.2 a ha r List.mem_cons_self))]; rfl⟩
  unfold rowOf
  rw [hh]; exact if_pos rfl
noncomputable def Nws (l : List AT) (u : Nat) : Option Row → Prop
  | some r => r.u = u ∧ (∃ p ∈ l, r ∈ p.2.rows) ∧ ∀ p ∈ l, ∀ r' ∈ p.2.rows, r'.u = u → r'.s ≤ r.s
  | none => ∀ p ∈ l, ∀ r' ∈ p.2.rows, r'.u ≠ u
theorem nws {u : Nat} : ∀ (l : List AT), l.Pairwise (fun a b => newer a.2 b.2) → (∀ p ∈ l, p.2.Ok) → Nws l u ((ovs u u l).findSome? fun t => rowOf u t.2)
  | [], _, _ => fun _ h => absurd h List.not_mem_nil
  | p :: l, pw, ok => by
    have pw := List.pairwise_cons.mp pw
    have okp := ok p List.mem_cons_self
    have ih := nws (u := u) l pw.2 fun x m => ok x (List.mem_cons_of_mem _ m)
    cases h : rowOf u p.2 with
    | some r =>
      obtain ⟨rm, ru⟩ := rowOf_mem h
      rw [show ovs u u (p :: l) = p :: ovs u u l from List.filter_cons_of_pos (ov_t (ru ▸ okp.le_hi rm) (ru ▸ okp.lo_le rm)), List.findSome?_cons, h]
      refine ⟨ru, ⟨p, List.mem_cons_self, rm⟩, List.forall_mem_cons.mpr ⟨fun r' m' e => ?_, fun x m r' m' e => Nat.le_of_lt (pw.1 x m r rm r' m' (ru.trans e.symm))⟩⟩
      have := rowOf_of okp m'
      rw [e, h] at this
      rw [Option.some.inj this]; exact Nat.le_refl _
    | none =>
      have no : ∀ r' ∈ p.2.rows, r'.u ≠ u := fun r' m' e => by
        have := rowOf_of okp m'
        rw [e, h] at this; cases this
      have e : (ovs u u (p :: l)).findSome? (fun t => rowOf u t.2) = (ovs u u l).findSome? fun t => rowOf u t.2 := by
        by_cases c : ov u u p.2 = true
        · rw [show ovs u u (p :: l) = p :: ovs u u l from List.filter_cons_of_pos c, List.findSome?_cons, h]
        · rw [show ovs u u (p :: l) = ovs u u l from List.filter_cons_of_neg c]
      rw [e]
      generalize (ovs u u l).findSome? (fun t => rowOf u t.2) = F at ih
      cases F with
      | some r => exact ⟨ih.1, ih.2.1.imp fun x m => ⟨List.mem_cons_of_mem _ m.1, m.2⟩, List.forall_mem_cons.mpr ⟨fun r' m' e => absurd e (no r' m'), ih.2.2⟩⟩
      | none => exact List.forall_mem_cons.mpr ⟨no, ih⟩
section
variable {V : Ver} {ts : List Tab} {count last : Nat} {nw : Nat → Option Row} (h : VL V ts count) (I : Inv count last ts nw)
include h I
theorem tells_is (u : Nat) : Nws V.all u (tells V u) := nws V.all (all_pw h I) fun p m => by
  obtain ⟨i, m⟩ := all_sub m
  exact I.ok _ (h.sub m).1
theorem in_all {t : Tab} (m : t ∈ ts) : ∃ p ∈ V.all, p.2 = t := (h.get m (I.lv t m)).imp fun _ k => ⟨all_get k.1, k.2⟩
theorem tells_mem {u : Nat} {r : Row} (e : tells V u = some r) : r.u = u ∧ (∃ t ∈ ts, r ∈ t.rows) ∧ ∀ t ∈ ts, ∀ r' ∈ t.rows, r'.u = u → r'.s ≤ r.s := by
  have n := tells_is h I u
  rw [e] at n
  obtain ⟨a, ⟨p, mp, m⟩, c⟩ := n
  obtain ⟨i, mp⟩ := all_sub mp
  refine ⟨a, ⟨p.2, (h.sub mp).1, m⟩, fun t mt => ?_⟩
  obtain ⟨p', mp', e⟩ := in_all h I mt
  exact e ▸ c p' mp'
theorem tells_ex {t : Tab} {r : Row} (mt : t ∈ ts) (m : r ∈ t.rows) : ∃ x, tells V r.u = some x := by
  have n := tells_is h I r.u
  cases e : tells V r.u with
  | some x => exact ⟨x, rfl⟩
  | none =>
    rw [e] at n
    obtain ⟨p, mp, e⟩ := in_all h I mt
    exact absurd rfl (n p mp r (e ▸ m))
theorem tells_nw {u : Nat} {r x : Row} (e : tells V u = some r) (hx : nw u = some x) (mt : ∃ t ∈ ts, x ∈ t.rows) : r = x := by
  obtain ⟨ru, ⟨t, m, mr⟩, mx⟩ := tells_mem h I e
  obtain ⟨t', m', mx'⟩ := mt
  obtain ⟨z, hz, le⟩ := I.nw1 t m r mr
  rw [ru, hx] at hz
  rw [← Option.some.inj hz] at le
  exact (I.inj t m t' m' r mr x mx' (Nat.le_antisymm le (mx t' m' x mx' (I.nwo u x hx).2))).2
theorem tells1 {u : Nat} {x : Row} (hx : nw u = some x) (k : x.k = 1) : tells V u = some x := by
  rcases I.nw2 u x hx with ⟨t, m, mx⟩ | ⟨k0, _⟩
  · obtain ⟨r, e⟩ := tells_ex h I m mx
    rw [(I.nwo u x hx).2] at e
    rw [e, tells_nw h I e hx ⟨t, m, mx⟩]
  · rw [k] at k0; cases k0
theorem tells0 {u : Nat} (k : ∀ x, nw u = some x → x.k ≠ 1) {r : Row} (e : tells V u = some r) : r.k = 0 := by
  obtain ⟨ru, ⟨t, m, mr⟩, mx⟩ := tells_mem h I e
  obtain ⟨x, hx, _⟩ := I.nw1 t m r mr
  rw [ru] at hx
  rcases I.nw2 u x hx with mt | ⟨_, no⟩
  · rw [tells_nw h I e hx mt]
    have := (I.nwo u x hx).1.k
    have := k x hx
    omega
  · exact absurd ru (no t m r mr)
theorem tells2 (u : Nat) : (ts.any fun t => (rowOf u t).isSome) = (tells V u).isSome := by
  rw [Bool.eq_iff_iff, List.any_eq_true, Option.isSome_iff_exists]
  constructor
  · rintro ⟨t, m, e⟩
    obtain ⟨r, e⟩ := Option.isSome_iff_exists.mp e
    obtain ⟨mr, ru⟩ := rowOf_mem e
    exact ru ▸ tells_ex h I m mr
  · rintro ⟨r, e⟩
    obtain ⟨ru, ⟨t, m, mr⟩, _⟩ := tells_mem h I e
    exact ⟨t, m, by rw [← ru, rowOf_of (I.ok t m) mr]; rfl⟩
end
end Mine
namespace Mine
noncomputable def srtR (a b : Row) : Prop := a.u < b.u ∨ (a.u = b.u ∧ b.s < a.s)
theorem srt_at {R : List Row} (s : R.Pairwise srtR) {i j : Nat} {a b : Row} (ea : R[i]? = some a) (eb : R[j]? = some b) (h : i < j) : srtR a b := by
  obtain ⟨hi, rfl⟩ := List.getElem?_eq_some_iff.mp ea
  obtain ⟨hj, rfl⟩ := List.getElem?_eq_some_iff.mp eb
  exact List.pairwise_iff_getElem.mp s i j hi hj h
theorem srt_le {a b : Row} (h : srtR a b) : a.u ≤ b.u := h.elim Nat.le_of_lt fun h => Nat.le_of_eq h.1
theorem prv_iff {R : List Row} (s : R.Pairwise srtR) {j : Nat} {r : Row} (e : R[j]? = some r) : prv R j ≠ some r.u ↔ ∀ r' ∈ R, r'.u = r.u → r'.s ≤ r.s := by
  have hj := (List.getElem?_eq_some_iff.mp e).1
  constructor
  · intro n r' m eu
    obtain ⟨i, ei⟩ := List.getElem?_of_mem m
    rcases Nat.lt_trichotomy i j with g | g | g
    · cases j with
      | zero => exact absurd g (Nat.not_lt_zero i)
      | succ j =>
        have ea := List.getElem?_eq_getElem (Nat.lt_of_succ_lt hj)
        generalize R[j]'(Nat.lt_of_succ_lt hj) = a at ea
        have l1 : r'.u ≤ a.u := by
          rcases Nat.lt_succ_iff_lt_or_eq.mp g with g | g
          · exact srt_le (srt_at s ei ea g)
          · rw [g, ea] at ei; rw [Option.some.inj ei]; exact Nat.le_refl _
        have l2 := srt_le (srt_at s ea e (Nat.lt_succ_self j))
        exact absurd (show R[j]?.map (·.u) = some r.u by rw [ea]; exact congrArg some (Nat.le_antisymm l2 (eu ▸ l1))) n
    · rw [g, e] at ei; rw [Option.some.inj ei]; exact Nat.le_refl _
    · exact (srt_at s e ei g).elim (fun l => absurd l (Nat.not_lt.mpr (Nat.le_of_eq eu))) fun l => Nat.le_of_lt l.2
  · intro h z
    cases j with
    | zero => cases z
    | succ j =>
      obtain ⟨a, ea, eu⟩ := Option.map_eq_some_iff.mp z
      exact (srt_at s ea e (Nat.lt_succ_self j)).elim (fun l => Nat.lt_irrefl _ (eu ▸ l)) fun l => Nat.not_le.mpr l.2 (h a (List.mem_of_getElem? ea) eu)
theorem goB_iff {ts : List Tab} {lev : Nat} {R : List Row} {j : Nat} {r : Row} : goB ts lev R j r = true ↔ prv R j = some r.u ∨ (r.k = 0 ∧ noTab ts lev r.u = true) := by
  rw [goB, Bool.or_eq_true, Bool.and_eq_true, decide_eq_true_eq, decide_eq_true_eq]
theorem keep_mem {ts : List Tab} {lev : Nat} {R : List Row} (s : R.Pairwise srtR) {r : Row} : r ∈ keep ts lev R ↔ r ∈ R ∧ (∀ r' ∈ R, r'.u = r.u → r'.s ≤ r.s) ∧ ¬(r.k = 0 ∧ noTab ts lev r.u = true) := by
  rw [keep, kept_mem]
  constructor
  · rintro ⟨j, _, e, g⟩
    rw [← Bool.not_eq_true, goB_iff, not_or] at g
    exact ⟨List.mem_of_getElem? e, (prv_iff s e).mp g.1, g.2⟩
  · rintro ⟨m, h, n⟩
    obtain ⟨j, e⟩ := List.getElem?_of_mem m
    refine ⟨j, (List.getElem?_eq_some_iff.mp e).1, e, ?_⟩
    rw [← Bool.not_eq_true, goB_iff, not_or]
    exact ⟨(prv_iff s e).mpr h, n⟩
theorem keep_sub {ts : List Tab} {lev : Nat} {R : List Row} : (keep ts lev R).Sublist R := by
  have := @kept_sub ts lev R R.length
  rw [List.take_length] at this; exact this
theorem keep_up {ts : List Tab} {lev : Nat} {R : List Row} (s : R.Pairwise srtR) : (keep ts lev R).Pairwise fun x y => x.u < y.u :=
  (s.sublist keep_sub).imp_of_mem fun ma mb q => q.elim id fun q => absurd (((keep_mem s).mp mb).2.1 _ ((keep_mem s).mp ma).1 q.1) (Nat.not_le.mpr q.2)
noncomputable def oth (ts T : List Tab) : List Tab := ts.filter fun t => !((T.map fun x => (x.n : Int)).contains t.n)
theorem oth_mem {ts T : List Tab} (nd : (ts.map (·.n)).Nodup) (hT : ∀ t ∈ T, t ∈ ts) {t : Tab} : t ∈ oth ts T ↔ t ∈ ts ∧ t ∉ T := by
  rw [oth, List.mem_filter, Bool.not_eq_true', ← Bool.not_eq_true, List.contains_iff_mem]
  refine and_congr_right fun ht => not_congr ⟨fun m => ?_, fun m => List.mem_map.mpr ⟨t, m, rfl⟩⟩
  obtain ⟨x, mx, e⟩ := List.mem_map.mp m
  rw [← nd_eq nd (hT x mx) ht (Int.ofNat_inj.mp e)]; exact mx
structure Ad (K : List Row) (N lev : Nat) (L : List Tab) : Prop where
  p : ∀ M ∈ L, M.n = N ∧ M.lev = lev ∧ M.rows = K ∧ K ≠ []
  l : L = [] ∨ ∃ M, L = [M]
  e : K ≠ [] → ∃ M, M ∈ L
theorem Ad.eq {K : List Row} {N lev : Nat} {L : List Tab} (A : Ad K N lev L) {x y : Tab} (hx : x ∈ L) (hy : y ∈ L) : x = y := by
  rcases A.l with e | ⟨M, e⟩
  · rw [e] at hx; exact absurd hx List.not_mem_nil
  · rw [e] at hx hy; exact (List.mem_singleton.mp hx).trans (List.mem_singleton.mp hy).symm
structure Tk (count last : Nat) (ts : List Tab) (nw : Nat → Option Row) (lev : Nat) (U W : List Tab) (R : List Row) : Prop where
  I : Inv count last ts nw
  hl : lev + 1 < count
  hU : ∀ t ∈ U, t ∈ ts ∧ t.lev = lev
  hW : ∀ t ∈ W, t ∈ ts ∧ t.lev = lev + 1
  ne : U ≠ []
  ndT : (U ++ W).Nodup
  c1 : ∀ t ∈ ts, t.lev = lev → t ∉ U → ∀ x ∈ U, ∀ r ∈ x.rows, ov r.u r.u t ≠ true
  c2 : ∀ t ∈ ts, t.lev = lev + 1 → t ∉ W → (∀ x ∈ U ++ W, ∀ r ∈ x.rows, t.hi.u < r.u) ∨ (∀ x ∈ U ++ W, ∀ r ∈ x.rows, r.u < t.lo.u)
  hR : ∀ r, r ∈ R ↔ ∃ t ∈ U ++ W, r ∈ t.rows
  sR : R.Pairwise srtR
  zR : sumZ R = ((U ++ W).map Tab.z).sum
section
variable {count last : Nat} {ts : List Tab} {nw : Nat → Option Row} {lev : Nat} {U W : List Tab} {R : List Row} (T : Tk count last ts nw lev U W R)
include T
theorem Tk.sub {t : Tab} (m : t ∈ U ++ W) : t ∈ ts := (List.mem_append.mp m).elim (fun m => (T.hU t m).1) fun m => (T.hW t m).1
theorem Tk.om {t : Tab} : t ∈ oth ts (U ++ W) ↔ t ∈ ts ∧ t ∉ U ++ W := oth_mem T.I.nd fun _ => T.sub
theorem Tk.perm : ((U ++ W) ++ oth ts (U ++ W)).Perm ts :=
  (List.perm_ext_iff_of_nodup (List.nodup_append.mpr ⟨T.ndT, T.I.ndt.sublist List.filter_sublist, fun a ha b hb e => (T.om.mp hb).2 (e ▸ ha)⟩) T.I.ndt).mpr fun t => by
    exact List.mem_append.trans ⟨fun h => h.elim T.sub fun h => (T.om.mp h).1, fun h => (Classical.em (t ∈ U ++ W)).imp id fun n => T.om.mpr ⟨h, n⟩⟩
theorem Tk.sum (f : Tab → Nat) : ((U ++ W).map f).sum + ((oth ts (U ++ W)).map f).sum = (ts.map f).sum := by
  rw [← List.sum_append_nat, ← List.map_append]; exact (T.perm.map f).sum_nat
theorem Tk.lv {t : Tab} (m : t ∈ U ++ W) : t.lev = lev ∨ t.lev = lev + 1 := (List.mem_append.mp m).imp (fun m => (T.hU t m).2) fun m => (T.hW t m).2
theorem Tk.above {t x : Tab} (ht : t ∈ ts) (hn : t ∉ U ++ W) (hl : t.lev < lev + 1) (hx : x ∈ U ++ W) : newer t x := fun r mr r' mr' e => by
  have up : t.lev < x.lev → r'.s < r.s := fun l => T.I.abv t ht x (T.sub hx) l r mr r' mr' e
  rcases List.mem_append.mp hx with m | m
  · by_cases c : t.lev = lev
    · have ok := T.I.ok t ht
      exact absurd (ov_t (e ▸ ok.le_hi mr) (e ▸ ok.lo_le mr)) (T.c1 t ht c (fun h => hn (List.mem_append_left _ h)) x m r' mr')
    · exact up (by rw [(T.hU x m).2]; exact Nat.lt_of_le_of_ne (Nat.le_of_lt_succ hl) c)
  · exact up (by rw [(T.hW x m).2]; exact hl)
theorem Tk.newest {u : Nat} {x : Row} (hx : nw u = some x) {t : Tab} (ht : t ∈ ts) {r : Row} (mr : r ∈ t.rows) (e : r.u = u) : r.s ≤ x.s := by
  obtain ⟨z, hz, le⟩ := T.I.nw1 t ht r mr
  rw [e, hx] at hz
  rw [Option.some.inj hz]; exact le
end
end Mine
namespace Mine
theorem sum_sub {l l' : List Row} (h : l'.Sublist l) : sumZ l' ≤ sumZ l := by
  unfold sumZ
  induction h with
  | slnil => exact Nat.le_refl _
  | cons a _ ih => rw [List.map_cons, List.sum_cons]; exact Nat.le_trans ih (Nat.le_add_left _ _)
  | cons_cons a _ ih => rw [List.map_cons, List.sum_cons, List.map_cons, List.sum_cons]; exact Nat.add_le_add_left ih _
section
variable {count last : Nat} {ts : List Tab} {nw : Nat → Option Row} {lev : Nat} {U W : List Tab} {R : List Row} (T : Tk count last ts nw lev U W R) {N : Nat} {L : List Tab} (A : Ad (keep (oth ts (U ++ W)) lev R) N (lev + 1) L) (hN : ∀ t ∈ ts, t.n < N)
include T
theorem Tk.kt {r : Row} (m : r ∈ keep (oth ts (U ++ W)) lev R) : ∃ t ∈ U ++ W, r ∈ t.rows := (T.hR r).mp ((keep_mem T.sR).mp m).1
theorem Tk.len1 : 0 < (U ++ W).length := by rw [List.length_append]; exact Nat.lt_of_lt_of_le (List.length_pos_iff.mpr T.ne) (Nat.le_add_right _ _)
theorem Tk.lens : (U ++ W).length + (oth ts (U ++ W)).length = ts.length := by rw [← List.length_append]; exact T.perm.length_eq
include A
theorem Ad.ok {M : Tab} (m : M ∈ L) : M.Ok := by
  obtain ⟨_, _, e, ne⟩ := A.p M m
  refine ⟨e ▸ ne, fun r mr => ?_, e ▸ keep_up T.sR⟩
  rw [e] at mr
  obtain ⟨t, mt, mr⟩ := T.kt mr
  exact (T.I.ok t (T.sub mt)).rows r mr
theorem Ad.row {M : Tab} (m : M ∈ L) {r : Row} (mr : r ∈ M.rows) : ∃ t ∈ U ++ W, r ∈ t.rows := T.kt ((A.p M m).2.2.1 ▸ mr)
theorem Ad.dis {M t : Tab} (m : M ∈ L) (ht : t ∈ ts) (hn : t ∉ U ++ W) (hl : t.lev = lev + 1) : M.hi.u < t.lo.u ∨ t.hi.u < M.lo.u := by
  have ok := A.ok T m
  rcases T.c2 t ht hl (fun h => hn (List.mem_append_right _ h)) with h | h
  · obtain ⟨x, mx, mr⟩ := A.row T m ok.loM
    exact .inr (h x mx _ mr)
  · obtain ⟨x, mx, mr⟩ := A.row T m ok.hiM
    exact .inl (h x mx _ mr)
include hN
theorem Tk.inv : Inv count last (oth ts (U ++ W) ++ L) nw := by
  have cs : ∀ {t : Tab}, t ∈ oth ts (U ++ W) ++ L → (t ∈ ts ∧ t ∉ U ++ W) ∨ t ∈ L := fun m => (List.mem_append.mp m).imp T.om.mp id
  have nl : ∀ {M}, M ∈ L → M.lev = lev + 1 := fun m => (A.p _ m).2.1
  have lt : ∀ {M}, M ∈ L → 0 < M.lev := fun m => by rw [nl m]; exact Nat.succ_pos _
  refine ⟨fun t m => (cs m).elim (fun h => T.I.ok t h.1) fun h => A.ok T h, ?_, fun t m => (cs m).elim (fun h => T.I.lv t h.1) fun h => by rw [nl h]; exact T.hl, fun t m r mr => ?_, fun a ma b mb ne e n0 => ?_, fun a ma b mb l r mr r' mr' e => ?_, fun a ma b mb l1 l2 n => ?_, fun a ma b mb r mr r' mr' e => ?_, T.I.nwo, fun t m r mr => ?_, fun u x hx => ?_, ?_, ?_⟩
  · refine List.pairwise_append.mpr ⟨T.I.n.sublist List.filter_sublist, ?_, fun x mx y my => ?_⟩
    · rcases A.l with e | ⟨M, e⟩ <;> rw [e]
      · exact .nil
      · exact List.pairwise_singleton _ _
    · rw [(A.p y my).1]; exact hN x (T.om.mp mx).1
  · rcases cs m with h | h
    · exact T.I.sl t h.1 r mr
    · obtain ⟨x, mx, mr⟩ := A.row T h mr
      exact T.I.sl x (T.sub mx) r mr
  · rcases cs ma with ha | ha <;> rcases cs mb with hb | hb
    · exact T.I.dis a ha.1 b hb.1 ne e n0
    · exact (A.dis T hb ha.1 ha.2 (e.trans (nl hb))).symm
    · exact A.dis T ha hb.1 hb.2 (e.symm.trans (nl ha))
    · exact absurd (congrArg Tab.n (A.eq ha hb)) ne
  · rcases cs ma with ha | ha <;> rcases cs mb with hb | hb
    · exact T.I.abv a ha.1 b hb.1 l r mr r' mr' e
    · obtain ⟨x, mx, mr'⟩ := A.row T hb mr'
      exact T.above ha.1 ha.2 (nl hb ▸ l) mx r mr r' mr' e
    · obtain ⟨x, mx, mr⟩ := A.row T ha mr
      refine T.I.abv x (T.sub mx) b hb.1 (Nat.lt_of_le_of_lt ?_ l) r mr r' mr' e
      rw [nl ha]
      exact (T.lv mx).elim (fun h => by rw [h]; exact Nat.le_succ _) Nat.le_of_eq
    · rw [nl ha, nl hb] at l; exact absurd l (Nat.lt_irrefl _)
  · rcases cs ma with ha | ha
    · rcases cs mb with hb | hb
      · exact T.I.abv0 a ha.1 b hb.1 l1 l2 n
      · exact absurd l2 (Nat.ne_of_gt (lt hb))
    · exact absurd l1 (Nat.ne_of_gt (lt ha))
  · rcases cs ma with ha | ha <;> rcases cs mb with hb | hb
    · exact T.I.inj a ha.1 b hb.1 r mr r' mr' e
    · obtain ⟨x, mx, mr'⟩ := A.row T hb mr'
      exact absurd ((T.I.inj a ha.1 x (T.sub mx) r mr r' mr' e).1 ▸ mx) ha.2
    · obtain ⟨x, mx, mr⟩ := A.row T ha mr
      exact absurd ((T.I.inj x (T.sub mx) b hb.1 r mr r' mr' e).1 ▸ mx) hb.2
    · obtain ⟨x, mx, mr⟩ := A.row T ha mr
      obtain ⟨y, my, mr'⟩ := A.row T hb mr'
      exact ⟨A.eq ha hb, (T.I.inj x (T.sub mx) y (T.sub my) r mr r' mr' e).2⟩
  · rcases cs m with h | h
    · exact T.I.nw1 t h.1 r mr
    · obtain ⟨x, mx, mr⟩ := A.row T h mr
      exact T.I.nw1 x (T.sub mx) r mr
  · -- the newest is there, or nothing of that user is
    have xu := (T.I.nwo u x hx).2
    rcases T.I.nw2 u x hx with ⟨t, ht, xt⟩ | ⟨hk, no⟩
    · by_cases c : t ∈ U ++ W
      · have xR := (T.hR x).mpr ⟨t, c, xt⟩
        by_cases c2 : x ∈ keep (oth ts (U ++ W)) lev R
        · obtain ⟨M, mM⟩ := A.e (List.ne_nil_of_mem c2)
          exact .inl ⟨M, List.mem_append_right _ mM, (A.p M mM).2.2.1 ▸ c2⟩
        · right
          have hd : x.k = 0 ∧ noTab (oth ts (U ++ W)) lev x.u = true := Decidable.byContradiction fun h => c2 ((keep_mem T.sR).mpr ⟨xR, fun r' m' e => by
            obtain ⟨z, hz, mz⟩ := (T.hR r').mp m'
            exact T.newest hx (T.sub hz) mz (e.trans xu), h⟩)
          refine ⟨hd.1, fun t' m' r mr e => ?_⟩
          rcases cs m' with g | g
          · have ok := T.I.ok t' g.1
            have l1 := ok.lo_le mr
            have l2 := ok.le_hi mr
            rw [e, ← xu] at l1 l2
            by_cases c1 : lev + 1 < t'.lev
            · have := List.all_eq_true.mp hd.2 t' (T.om.mpr g)
              rw [decide_eq_true c1, ov_t l2 l1] at this; cases this
            · by_cases c3 : t'.lev = lev + 1
              · rcases T.c2 t' g.1 c3 (fun h => g.2 (List.mem_append_right _ h)) with h | h
                · exact Nat.not_lt.mpr l2 (h t c x xt)
                · exact Nat.not_lt.mpr l1 (h t c x xt)
              · exact Nat.not_lt.mpr (T.newest hx g.1 mr e) (T.above g.1 g.2 (Nat.lt_of_le_of_ne (Nat.not_lt.mp c1) c3) c r mr x xt (e.trans xu.symm))
          · rw [(A.p t' g).2.2.1] at mr
            obtain ⟨rR, mx, _⟩ := (keep_mem T.sR).mp mr
            obtain ⟨z, hz, mz⟩ := T.kt mr
            have es := Nat.le_antisymm (T.newest hx (T.sub hz) mz e) (mx x xR (xu.trans e.symm))
            rw [(T.I.inj z (T.sub hz) t ht r mz x xt es).2] at mr
            exact c2 mr
      · exact .inl ⟨t, List.mem_append_left _ (T.om.mpr ⟨ht, c⟩), xt⟩
    · refine .inr ⟨hk, fun t' m' r mr => ?_⟩
      rcases cs m' with g | g
      · exact no t' g.1 r mr
      · obtain ⟨z, hz, mr⟩ := A.row T g mr
        exact no z (T.sub hz) r mr
  · have s1 := T.sum Tab.z
    rw [List.map_append, List.sum_append_nat]
    refine Nat.lt_of_le_of_lt ?_ T.I.sz
    rw [← s1, Nat.add_comm]
    refine Nat.add_le_add_right ?_ _
    rw [← T.zR]
    rcases A.l with e | ⟨M, e⟩
    · rw [e]; exact Nat.zero_le _
    · have := (A.p M (by rw [e]; exact List.mem_cons_self)).2.2.1
      rw [e]
      show sumZ M.rows + 0 ≤ _
      rw [this]; exact sum_sub keep_sub
  · have l1 := T.lens
    have l2 := T.len1
    have l3 : L.length ≤ 1 := by rcases A.l with e | ⟨M, e⟩ <;> rw [e]; exact Nat.zero_le _; exact Nat.le_refl _
    have := T.I.len
    rw [List.length_append]
    omega
end
end Mine
namespace Mine
theorem ex_best {α : Type} {r : α → α → Prop} (tr : ∀ {a b c}, r a b → r b c → r a c) (tt : ∀ a b, r a b ∨ r b a) : ∀ l : List α, l ≠ [] → ∃ a ∈ l, ∀ b ∈ l, r a b
  | [], h => absurd rfl h
  | [a], _ => ⟨a, List.mem_cons_self, fun b m => by rw [List.mem_singleton.mp m]; exact (tt a a).elim id id⟩
  | a :: b :: l, _ => by
    obtain ⟨c, m, h⟩ := ex_best (r := r) tr tt (b :: l) (List.cons_ne_nil _ _)
    rcases tt a c with k | k
    · exact ⟨a, List.mem_cons_self, List.forall_mem_cons.mpr ⟨(tt a a).elim id id, fun x mx => tr k (h x mx)⟩⟩
    · exact ⟨c, List.mem_cons_of_mem _ m, List.forall_mem_cons.mpr ⟨k, h⟩⟩
theorem hull_ex {U : List AT} (ne : U ≠ []) : ∃ lo hi, Hull U lo hi := by
  obtain ⟨a, ma, ha⟩ := ex_best (r := fun a b : AT => a.2.lo.u ≤ b.2.lo.u) Nat.le_trans (fun a b => Nat.le_total _ _) U ne
  obtain ⟨b, mb, hb⟩ := ex_best (r := fun a b : AT => b.2.hi.u ≤ a.2.hi.u) (fun h k => Nat.le_trans k h) (fun a b => Nat.le_total _ _) U ne
  exact ⟨_, _, ha, hb, ⟨a, ma, rfl⟩, ⟨b, mb, rfl⟩⟩
theorem perm_of {V : Ver} {ts : List Tab} {count last : Nat} {nw : Nat → Option Row} (F : VL V ts count) (I : Inv count last ts nw) (i : Nat) : ((V.ts i).map (·.2)).Nodup := by
  by_cases c : i < V.lv.length
  · exact ((F.perm i (F.len ▸ c)).nodup_iff).mpr (I.ndt.sublist List.filter_sublist)
  · unfold Ver.ts; rw [List.getElem?_eq_none (Nat.not_lt.mp c)]; exact List.nodup_nil
theorem Tk.of {V : Ver} {ts : List Tab} {count last : Nat} {nw : Nat → Option Row} (F : VL V ts count) (I : Inv count last ts nw) {lev : Nat} (hl : lev + 1 < count) {U W : List AT} {y : Row} (K : Pk (V.ts lev) (V.ts (lev + 1)) U W y) {R : List Row}
    (hR : ∀ r, r ∈ R ↔ ∃ t ∈ U.map (·.2) ++ W.map (·.2), r ∈ t.rows) (sR : R.Pairwise srtR) (zR : sumZ R = ((U.map (·.2) ++ W.map (·.2)).map Tab.z).sum) : Tk count last ts nw lev (U.map (·.2)) (W.map (·.2)) R := by
  obtain ⟨lo, hi, H⟩ := hull_ex K.ne
  have eW := K.low lo hi H
  have hU : ∀ p ∈ U, p.2 ∈ ts ∧ p.2.lev = lev := fun p m => F.sub (K.sub.subset m)
  have hW : ∀ p ∈ W, p.2 ∈ ts ∧ p.2.lev = lev + 1 := fun p m => F.sub (List.mem_filter.mp (eW ▸ m)).1
  have oW : ∀ p ∈ W, lo ≤ p.2.hi.u ∧ p.2.lo.u ≤ hi := fun p m => ov_of ((List.mem_filter (p := fun a : AT => ov lo hi a.2)).mp (eW ▸ m)).2
  have hU' : ∀ t ∈ U.map (·.2), t ∈ ts ∧ t.lev = lev := List.forall_mem_map.mpr hU
  have hW' : ∀ t ∈ W.map (·.2), t ∈ ts ∧ t.lev = lev + 1 := List.forall_mem_map.mpr hW
  refine ⟨I, hl, hU', hW', fun e => K.ne (List.map_eq_nil_iff.mp e), List.nodup_append.mpr ⟨(perm_of F I lev).sublist (K.sub.map _), ?_, fun a ha b hb e => ?_⟩, fun t ht tl tn => List.forall_mem_map.mpr fun p mp r mr o => ?_, fun t ht tl tn => ?_, hR, sR, zR⟩
  · rw [eW]; exact (perm_of F I (lev + 1)).sublist (List.filter_sublist.map _)
  · have h1 := (hU' a ha).2
    rw [e, (hW' b hb).2] at h1
    exact Nat.succ_ne_self lev h1
  · obtain ⟨q, mq, eq⟩ := F.get ht (I.lv t ht)
    rw [tl] at mq
    have ok := I.ok _ (hU p mp).1
    obtain ⟨o1, o2⟩ := ov_of o
    exact K.cl lo hi H q mq (fun m => tn (List.mem_map.mpr ⟨q, m, eq⟩)) (eq ▸ ov_t (Nat.le_trans (H.los p mp) (Nat.le_trans (ok.lo_le mr) o1)) (Nat.le_trans o2 (Nat.le_trans (ok.le_hi mr) (H.his p mp))))
  · have ok := I.ok t ht
    have no : ov lo hi t ≠ true := fun o => by
      obtain ⟨q, mq, eq⟩ := F.get ht (I.lv t ht)
      rw [tl] at mq
      exact tn (List.mem_map.mpr ⟨q, eW ▸ List.mem_filter.mpr ⟨mq, eq ▸ o⟩, eq⟩)
    have ap : ∀ p ∈ W, p.2.hi.u < t.lo.u ∨ t.hi.u < p.2.lo.u := fun p m => I.dis p.2 (hW p m).1 t ht (fun e => tn (List.mem_map.mpr ⟨p, m, nd_eq I.nd (hW p m).1 ht e⟩)) ((hW p m).2.trans tl.symm) (by rw [(hW p m).2]; exact Nat.succ_ne_zero lev)
    have two : ∀ {P : Row → Prop}, (∀ p ∈ U, ∀ r ∈ p.2.rows, P r) → (∀ p ∈ W, ∀ r ∈ p.2.rows, P r) → ∀ x ∈ U.map (·.2) ++ W.map (·.2), ∀ r ∈ x.rows, P r := fun h k x m => (List.mem_append.mp m).elim (fun m => by obtain ⟨p, mp, e⟩ := List.mem_map.mp m; rw [← e]; exact h p mp) fun m => by obtain ⟨p, mp, e⟩ := List.mem_map.mp m; rw [← e]; exact k p mp
    by_cases c : lo ≤ t.hi.u
    · have c2 := Nat.not_le.mp fun z => no (ov_t c z)
      refine .inr (two (fun p m r mr => Nat.lt_of_le_of_lt (Nat.le_trans ((I.ok _ (hU p m).1).le_hi mr) (H.his p m)) c2) fun p m r mr => ?_)
      refine Nat.lt_of_le_of_lt ((I.ok _ (hW p m).1).le_hi mr) ((ap p m).resolve_right fun z => ?_)
      exact Nat.lt_irrefl _ (Nat.lt_of_lt_of_le (Nat.lt_of_lt_of_le c2 ok.lohi) (Nat.le_of_lt (Nat.lt_of_lt_of_le z (oW p m).2)))
    · have c2 := Nat.not_le.mp c
      refine .inl (two (fun p m r mr => Nat.lt_of_lt_of_le c2 (Nat.le_trans (H.los p m) ((I.ok _ (hU p m).1).lo_le mr))) fun p m r mr => ?_)
      refine Nat.lt_of_lt_of_le ((ap p m).resolve_left fun z => ?_) ((I.ok _ (hW p m).1).lo_le mr)
      exact Nat.lt_irrefl _ (Nat.lt_of_lt_of_le (Nat.lt_of_le_of_lt (Nat.le_trans (oW p m).1 (Nat.le_of_lt z)) (Nat.lt_of_le_of_lt ok.lohi c2)) (Nat.le_refl _))
theorem levels {g : Nat → List AT} {ts : List Tab} (nd : ts.Nodup) {count : Nat} (h : ∀ i, i < count → ((g i).map (·.2)).Perm (onL ts i)) : ∀ n, n ≤ count → ((((List.range n).map g).flatten).map (·.2)).Perm (ts.filter fun t => decide (t.lev < n))
  | 0, _ => by rw [List.filter_eq_nil_iff.mpr fun t _ => by rw [decide_eq_true_eq]; exact Nat.not_lt_zero _]; exact .nil
  | n + 1, hn => by
    rw [List.range_succ, List.map_append, List.flatten_append, List.map_append]
    refine ((levels nd h n (Nat.le_of_lt hn)).append (show ((([n].map g).flatten).map (·.2)).Perm (onL ts n) by rw [List.map_singleton, List.flatten_singleton]; exact h n hn)).trans ?_
    refine (List.perm_ext_iff_of_nodup (List.nodup_append.mpr ⟨nd.sublist List.filter_sublist, nd.sublist List.filter_sublist, fun a ha b hb e => ?_⟩) (nd.sublist List.filter_sublist)).mpr fun t => ?_
    · have h1 := of_decide_eq_true (List.mem_filter.mp ha).2
      rw [e, (onL_mem.mp hb).2] at h1
      exact Nat.lt_irrefl _ h1
    · rw [List.mem_append, List.mem_filter, List.mem_filter, List.mem_filter, decide_eq_true_eq, decide_eq_true_eq, decide_eq_true_eq, Nat.lt_succ_iff_lt_or_eq, ← and_or_left]
theorem levels' {g : Nat → List AT} {ts : List Tab} {count last : Nat} {nw : Nat → Option Row} (I : Inv count last ts nw) (h : ∀ i, i < count → ((g i).map (·.2)).Perm (onL ts i)) : ((((List.range count).map g).flatten).map (·.2)).Perm ts := by
  have := levels I.ndt h count (Nat.le_refl _)
  rwa [List.filter_eq_self.mpr fun t m => decide_eq_true (I.lv t m)] at this
theorem lv_ts (V : Ver) : V.lv.map Prod.snd = (List.range V.lv.length).map V.ts := by
  apply List.ext_getElem? fun i => ?_
  rw [List.getElem?_map, List.getElem?_map]
  by_cases c : i < V.lv.length
  · rw [List.getElem?_range c, List.getElem?_eq_getElem c]; exact congrArg some (Ver.ts_at (List.getElem?_eq_getElem c)).symm
  · rw [List.getElem?_eq_none (Nat.not_lt.mp c), List.getElem?_eq_none (by rw [List.length_range]; exact Nat.not_lt.mp c)]; rfl
theorem nums_perm {V : Ver} {ts : List Tab} {count last : Nat} {nw : Nat → Option Row} (F : VL V ts count) (I : Inv count last ts nw) : (numsOf V.lv).Perm (ts.map fun t => (t.n : Int)) := by
  have e : numsOf V.lv = ((((List.range V.lv.length).map V.ts).flatten).map (·.2)).map fun t => (t.n : Int) := by
    rw [← lv_ts, List.map_map, List.map_flatten, List.map_map]; rfl
  rw [e, F.len]
  exact (levels' I F.perm).map _
end Mine
namespace Mine
noncomputable def wsum (count : Nat) (ts : List Tab) : Nat := (ts.map fun t => count - 1 - t.lev).sum
theorem le_sum {α : Type} {f : α → Nat} : ∀ {l : List α} {x : α}, x ∈ l → f x ≤ (l.map f).sum
  | y :: l, x, m => by
    rw [List.map_cons, List.sum_cons]
    rcases List.mem_cons.mp m with e | m
    · rw [e]; exact Nat.le_add_right _ _
    · exact Nat.le_trans (le_sum m) (Nat.le_add_left _ _)
section
variable {count last : Nat} {ts : List Tab} {nw : Nat → Option Row} {lev : Nat} {U W : List Tab} {R : List Row} (T : Tk count last ts nw lev U W R)
include T
theorem Tk.wsum {N : Nat} {L : List Tab} (A : Ad (keep (oth ts (U ++ W)) lev R) N (lev + 1) L) : wsum count (oth ts (U ++ W) ++ L) + 1 ≤ Mine.wsum count ts := by
  have s := T.sum fun t => count - 1 - t.lev
  have hl := T.hl
  obtain ⟨u, mu⟩ := List.exists_mem_of_ne_nil U T.ne
  have h1 := le_sum (f := fun t : Tab => count - 1 - t.lev) (List.mem_append_left W mu)
  rw [(T.hU u mu).2] at h1
  have h2 : (L.map fun t => count - 1 - t.lev).sum ≤ count - 1 - (lev + 1) := by
    rcases A.l with e | ⟨M, e⟩
    · rw [e]; exact Nat.zero_le _
    · have := (A.p M (by rw [e]; exact List.mem_cons_self)).2.1
      rw [e, ← this]; exact Nat.le_refl _
  unfold Mine.wsum
  rw [List.map_append, List.sum_append_nat]
  omega
end
section
variable {V : Ver} {ts : List Tab} {count last : Nat} {nw : Nat → Option Row} (F : VL V ts count)
include F
theorem VL.perm' (I : Inv count last ts nw) (i : Nat) : ((V.ts i).map (·.2)).Perm (onL ts i) := by
  by_cases c : i < count
  · exact F.perm i c
  · rw [show V.ts i = [] by unfold Ver.ts; rw [List.getElem?_eq_none (Nat.not_lt.mp (F.len.symm ▸ c))]; rfl, show onL ts i = [] from List.filter_eq_nil_iff.mpr fun t m e => c (of_decide_eq_true e ▸ I.lv t m)]; exact .nil
theorem VL.top (I : Inv count last ts nw) : topV V = topAt ts := by
  funext i
  unfold topV topAt
  split
  · rw [← (F.perm' I 0).length_eq, List.length_map]
  · rw [← ((F.perm' I i).map Tab.z).sum_nat, List.map_map]; rfl
theorem VL.noTab (I : Inv count last ts nw) {lev u : Nat} {T : List Tab} (hT : ∀ t ∈ T, t ∈ ts ∧ t.lev ≤ lev + 1) : noTab (oth ts T) lev u = true ↔ ∀ i, lev + 2 ≤ i → NoOvL V u i := by
  have om := fun t => oth_mem (t := t) I.nd fun t m => (hT t m).1
  rw [Mine.noTab, List.all_eq_true]
  constructor
  · intro h i hi t m o
    obtain ⟨mt, tl⟩ := F.sub m
    have := h t.2 ((om _).mpr ⟨mt, fun z => Nat.not_le.mpr hi (tl ▸ (hT _ z).2)⟩)
    rw [o, decide_eq_true (show lev + 1 < t.2.lev from tl.symm ▸ hi)] at this; cases this
  · intro h t m
    obtain ⟨mt, _⟩ := (om t).mp m
    by_cases c : lev + 1 < t.lev
    · obtain ⟨p, mp, e⟩ := F.get mt (I.lv t mt)
      rw [show ov u u t = false from Bool.eq_false_iff.mpr (e ▸ h t.lev c p mp), Bool.and_false]; rfl
    · rw [decide_eq_false c, Bool.false_and]; rfl
end
section
variable {V : Ver} {ts ts' : List Tab} {count last : Nat} {nw : Nat → Option Row} {D : List (Nat × Nat)} {A : List AT} (F : VL V ts count) (hnew : ∀ i, i < count → ((newL V D A i).map (·.2)).Perm (onL ts' i))
include F hnew
theorem fits_of (I : Inv count last ts' nw) (hA : ∀ x ∈ A, x.2 ∈ ts') (nA : (A.map fun x => x.2.n).Nodup) (lD : ∀ y ∈ D, y.1 < count) (nAD : ∀ x ∈ A, ∀ y ∈ D, x.2.n ≠ y.2) (nFA : ∀ t ∈ ts, ∀ x ∈ A, t.n ≠ x.2.n) (zA : A.length ≤ 6) (zD : D.length ≤ 100) : Fits V D A := by
  have pm := levels' I hnew
  rw [← F.len] at pm
  have inN : ∀ {i x}, x ∈ newL V D A i → x.2 ∈ ts' ∧ x.2.lev = i := fun {i x} m => by
    have hi : i < count := by
      rcases List.mem_append.mp m with m | m
      · exact F.len ▸ Ver.ts_mem (List.mem_filter.mp m).1
      · obtain ⟨m, e⟩ := List.mem_filter.mp m
        exact of_decide_eq_true e ▸ I.lv _ (hA x m)
    exact onL_mem.mp ((hnew i hi).mem_iff.mp (List.mem_map.mpr ⟨x, m, rfl⟩))
  refine ⟨fun x m => I.ok _ (hA x m), fun x m => F.len.symm ▸ I.lv _ (hA x m), fun y m => F.len.symm ▸ lD y m, nA, nAD, fun i t m => nFA _ (F.sub m).1, Nat.lt_of_le_of_lt zA (by decide), zD, F.srt, fun i x mx y my ne => ?_, ?_, ?_⟩
  · obtain ⟨x1, x2⟩ := inN mx
    obtain ⟨y1, y2⟩ := inN my
    by_cases c : i = 0
    · rw [nxt_z c, nxt_z c]; exact Nat.lt_or_gt_of_ne ne
    · rw [nxt_p c, nxt_p c]; exact I.dis _ x1 _ y1 ne (x2.trans y2.symm) (x2 ▸ c)
  · have := (pm.map (·.n)).nodup_iff.mpr I.nd
    rw [List.map_map] at this; exact this
  · have h1 := pm.length_eq
    have h2 := I.len
    rw [List.length_map] at h1
    omega
theorem VL.new {V' : Ver} (hl : V'.lv.length = V.lv.length) (hG : ∀ i, i < V.lv.length → (V'.ts i).Perm (newL V D A i) ∧ Srt i (V'.ts i)) : VL V' ts' count := by
  refine ⟨hl.trans F.len, fun i hi => ((hG i (F.len.symm ▸ hi)).1.map _).trans (hnew i hi), fun i => ?_⟩
  by_cases c : i < V.lv.length
  · exact (hG i c).2
  · unfold Ver.ts; rw [List.getElem?_eq_none (hl ▸ Nat.not_lt.mp c)]; exact List.Pairwise.nil
end
theorem dels_mem {lev : Nat} {a b : Addr} {U W : List AT} {y : Nat × Nat} : y ∈ dels lev [(a, U), (b, W)] 2 ↔ (∃ p ∈ U, (lev, p.2.n) = y) ∨ ∃ p ∈ W, (lev + 1, p.2.n) = y := by
  show y ∈ U.map (fun t => (lev, t.2.n)) ++ (W.map (fun t => (lev + 1, t.2.n)) ++ []) ↔ _
  rw [List.append_nil, List.mem_append, List.mem_map, List.mem_map]
theorem dels_len {lev : Nat} {a b : Addr} {U W : List AT} : ∀ j, (dels lev [(a, U), (b, W)] j).length ≤ U.length + W.length
  | 0 => Nat.zero_le _
  | 1 => by rw [dels_one (p := (a, U)) rfl, List.length_append, List.length_map]; exact Nat.le_trans (Nat.le_of_eq (Nat.zero_add _)) (Nat.le_add_right _ _)
  | j + 2 => by
    have h2 : (dels lev [(a, U), (b, W)] 2).length = U.length + W.length := by
      show (U.map _ ++ (W.map _ ++ [])).length = _
      rw [List.length_append, List.append_nil, List.length_map, List.length_map]
    have : ∀ j, dels lev [(a, U), (b, W)] (j + 2) = dels lev [(a, U), (b, W)] 2 := fun j => by
      induction j with
      | zero => rfl
      | succ j ih =>
        rw [← ih]
        show ((List.range (j + 2 + 1)).map _).flatten = _
        rw [List.range_succ, List.map_append, List.flatten_append]
        exact List.append_nil _
    rw [this, h2]; exact Nat.le_refl _
section
variable {count last : Nat} {ts : List Tab} {nw : Nat → Option Row} {lev : Nat} {U W : List AT} {R : List Row} (T : Tk count last ts nw lev (U.map (·.2)) (W.map (·.2)) R) {V : Ver} (F : VL V ts count) {A : List AT} {a b : Addr}
include T F
theorem Tk.newL (i : Nat) (hi : i < count) : ((newL V (dels lev [(a, U), (b, W)] 2) A i).map (·.2)).Perm (onL (oth ts (U.map (·.2) ++ W.map (·.2)) ++ A.map (·.2)) i) := by
  rw [Mine.newL, List.map_append, onL, List.filter_append]
  refine List.Perm.append ?_ (by unfold lvA; rw [List.filter_map]; exact .refl _)
  refine (List.perm_ext_iff_of_nodup ((perm_of F T.I i).sublist (List.filter_sublist.map _)) ((T.I.ndt.sublist List.filter_sublist).sublist List.filter_sublist)).mpr fun t => ?_
  refine List.mem_map.trans (Iff.trans ?_ (List.mem_filter.trans (and_congr T.om decide_eq_true_iff)).symm)
  constructor
  · rintro ⟨p, m, rfl⟩
    obtain ⟨m, k⟩ := List.mem_filter.mp m
    obtain ⟨mt, tl⟩ := F.sub m
    refine ⟨⟨mt, fun z => ?_⟩, tl⟩
    refine absurd (dels_mem.mpr ?_) (of_decide_eq_false (Bool.not_eq_true' _ ▸ k))
    rcases List.mem_append.mp z with z | z
    · obtain ⟨x, mx, e⟩ := List.mem_map.mp z
      exact .inl ⟨x, mx, by rw [← tl, ← e, (T.hU _ (List.mem_map.mpr ⟨x, mx, rfl⟩)).2]⟩
    · obtain ⟨x, mx, e⟩ := List.mem_map.mp z
      exact .inr ⟨x, mx, by rw [← tl, ← e, (T.hW _ (List.mem_map.mpr ⟨x, mx, rfl⟩)).2]⟩
  · rintro ⟨⟨mt, nt⟩, tl⟩
    obtain ⟨p, m, e⟩ := F.get mt (T.I.lv t mt)
    rw [tl] at m
    refine ⟨p, List.mem_filter.mpr ⟨m, (Bool.not_eq_true' _).mpr (decide_eq_false fun z => nt ?_)⟩, e⟩
    rcases dels_mem.mp z with ⟨x, mx, ex⟩ | ⟨x, mx, ex⟩
    · have mU : x.2 ∈ U.map (·.2) ++ W.map (·.2) := List.mem_append_left _ (List.mem_map.mpr ⟨x, mx, rfl⟩)
      rw [← nd_eq T.I.nd (T.sub mU) mt ((Prod.mk.inj ex).2.trans (congrArg Tab.n e))]; exact mU
    · have mW : x.2 ∈ U.map (·.2) ++ W.map (·.2) := List.mem_append_right _ (List.mem_map.mpr ⟨x, mx, rfl⟩)
      rw [← nd_eq T.I.nd (T.sub mW) mt ((Prod.mk.inj ex).2.trans (congrArg Tab.n e))]; exact mW
end
end Mine
namespace Mine
section
variable {count last : Nat} {ts : List Tab} {nw : Nat → Option Row} {lev : Nat} {U W : List AT} {R : List Row} (T : Tk count last ts nw lev (U.map (·.2)) (W.map (·.2)) R) {V : Ver} (F : VL V ts count) {A : List AT} {a b : Addr}
include T
theorem Tk.zUW : U.length + W.length ≤ 6 := by
  have h := T.lens
  have := T.I.len
  rw [List.length_append, List.length_map, List.length_map] at h
  omega
include F
theorem Tk.fits {N : Nat} (H : Ad (keep (oth ts (U.map (·.2) ++ W.map (·.2))) lev R) N (lev + 1) (A.map (·.2))) (hN : ∀ t ∈ ts, t.n < N) : Fits V (dels lev [(a, U), (b, W)] 2) A := by
  have mA : ∀ x ∈ A, x.2 ∈ A.map (·.2) := fun x m => List.mem_map.mpr ⟨x, m, rfl⟩
  have hD : ∀ y ∈ dels lev [(a, U), (b, W)] 2, y.1 < count ∧ y.2 < N := fun y m => by
    rcases dels_mem.mp m with ⟨p, mp, e⟩ | ⟨p, mp, e⟩
    · rw [← e]; exact ⟨Nat.lt_of_succ_lt T.hl, hN _ (T.hU _ (List.mem_map.mpr ⟨p, mp, rfl⟩)).1⟩
    · rw [← e]; exact ⟨T.hl, hN _ (T.hW _ (List.mem_map.mpr ⟨p, mp, rfl⟩)).1⟩
  have l1 : (A.map (·.2)).length ≤ 1 := by rcases H.l with e | ⟨M, e⟩ <;> rw [e]; exact Nat.zero_le _; exact Nat.le_refl _
  refine fits_of F (T.newL F) (T.inv H hN) (fun x m => List.mem_append_right _ (mA x m)) ?_ (fun y m => (hD y m).1) (fun x m y my e => ?_) (fun t m x mx e => ?_) ?_ ?_
  · have : ((A.map (·.2)).map Tab.n).Nodup := by
      rcases H.l with e | ⟨M, e⟩ <;> rw [e]
      · exact List.nodup_nil
      · exact List.nodup_cons.mpr ⟨List.not_mem_nil, List.nodup_nil⟩
    rw [List.map_map] at this; exact this
  · have := (hD y my).2
    rw [← e, (H.p _ (mA x m)).1] at this; exact Nat.lt_irrefl _ this
  · have := hN t m
    rw [e, (H.p _ (mA x mx)).1] at this; exact Nat.lt_irrefl _ this
  · rw [List.length_map] at l1; exact Nat.le_trans l1 (by decide)
  · exact Nat.le_trans (dels_len 2) (Nat.le_trans T.zUW (by decide))
end
noncomputable def nput (f : Nat → Option Row) (r : Row) : Nat → Option Row := fun u => if r.u = u then some r else f u
noncomputable def newest (rs : List Row) : Nat → Option Row := rs.foldl nput fun _ => none
theorem newest_snoc (rs : List Row) (r : Row) : newest (rs ++ [r]) = nput (newest rs) r := by unfold newest; rw [List.foldl_append]; rfl
theorem snoc_ind {α : Type} {P : List α → Prop} (h0 : P []) (h1 : ∀ l x, P l → P (l ++ [x])) (l : List α) : P l := by
  have : P l.reverse.reverse := by
    induction l.reverse with
    | nil => exact h0
    | cons y l ih => rw [List.reverse_cons]; exact h1 _ _ ih
  rwa [List.reverse_reverse] at this
theorem newest_spec : ∀ rs : List Row, rs.Pairwise (fun x r => x.u = r.u → x.s ≤ r.s) → (∀ u x, newest rs u = some x → x ∈ rs ∧ x.u = u) ∧ ∀ r ∈ rs, ∃ x, newest rs r.u = some x ∧ r.s ≤ x.s := by
  refine snoc_ind (P := fun rs => rs.Pairwise (fun x r => x.u = r.u → x.s ≤ r.s) → (∀ u x, newest rs u = some x → x ∈ rs ∧ x.u = u) ∧ ∀ r ∈ rs, ∃ x, newest rs r.u = some x ∧ r.s ≤ x.s) (fun _ => ⟨fun u x e => (nomatch e), fun r m => absurd m List.not_mem_nil⟩) fun rs r ih pw => ?_
  obtain ⟨p1, _, p2⟩ := List.pairwise_append.mp pw
  obtain ⟨h1, h2⟩ := ih p1
  rw [newest_snoc]
  refine ⟨fun u x e => ?_, all_snoc (fun z m => ?_) ⟨r, if_pos rfl, Nat.le_refl _⟩⟩
  · by_cases c : r.u = u
    · rw [nput, if_pos c] at e
      cases e; exact ⟨List.mem_append_right _ List.mem_cons_self, c⟩
    · rw [nput, if_neg c] at e
      exact ⟨List.mem_append_left _ (h1 u x e).1, (h1 u x e).2⟩
  · by_cases c : r.u = z.u
    · exact ⟨r, if_pos c, p2 z m r List.mem_cons_self c.symm⟩
    · rw [nput, if_neg c]; exact h2 z m
theorem pw_or {α : Type} {r : α → α → Prop} {l : List α} (h : l.Pairwise r) {a b : α} (ha : a ∈ l) (hb : b ∈ l) : a = b ∨ r a b ∨ r b a := by
  obtain ⟨i, ei⟩ := List.getElem?_of_mem ha
  obtain ⟨j, ej⟩ := List.getElem?_of_mem hb
  obtain ⟨hi, ea⟩ := List.getElem?_eq_some_iff.mp ei
  obtain ⟨hj, eb⟩ := List.getElem?_eq_some_iff.mp ej
  rcases Nat.lt_trichotomy i j with g | g | g
  · exact .inr (.inl (ea ▸ eb ▸ List.pairwise_iff_getElem.mp h i j hi hj g))
  · rw [g, ej] at ei; exact .inl (Option.some.inj ei).symm
  · exact .inr (.inr (ea ▸ eb ▸ List.pairwise_iff_getElem.mp h j i hj hi g))
theorem sub_one {a b : Nat} (h : a ≤ b - 1) (n : b ≠ 0) : a < b := Nat.lt_of_le_of_lt h (Nat.sub_lt (Nat.pos_of_ne_zero n) Nat.zero_lt_one)
theorem LI.inv {count last : Nat} {ts : List Tab} (h : LI count ts (last + 1)) (hl : ts.length ≤ 6) : Inv count last ts (newest (ts.flatMap (·.rows))) := by
  have pw := h.pw
  have fp : (ts.flatMap (·.rows)).Pairwise (fun x r => x.u = r.u → x.s ≤ r.s) :=
    List.pairwise_flatMap.mpr ⟨fun t m => (h.ok t m).up.imp fun q e => absurd q (Nat.not_lt.mpr (Nat.le_of_eq e.symm)), pw.imp fun q x mx z mz _ => Nat.le_of_lt (q.2.1 x mx z mz)⟩
  obtain ⟨n1, n2⟩ := newest_spec _ fp
  have in' : ∀ u x, newest (ts.flatMap (·.rows)) u = some x → ∃ t ∈ ts, x ∈ t.rows := fun u x e => List.mem_flatMap.mp (n1 u x e).1
  have meet : ∀ {a b : Tab} {r r' : Row}, a ∈ ts → b ∈ ts → r ∈ a.rows → r' ∈ b.rows → r.u = r'.u → a.lo.u ≤ b.hi.u := fun ma mb mr mr' e => Nat.le_trans ((h.ok _ ma).lo_le mr) (e ▸ (h.ok _ mb).le_hi mr')
  refine ⟨h.ok, pw.imp (·.1), h.lv, fun t m r mr => Nat.le_of_lt_succ (h.sq t m r mr), fun a ma b mb ne el n0 => ?_, fun a ma b mb l r mr r' mr' e => ?_, fun a ma b mb l1 l2 n r mr r' mr' e => ?_, fun a ma b mb r mr r' mr' e => ?_, fun u x e => ?_, fun t m r mr => n2 r (List.mem_flatMap.mpr ⟨t, m, mr⟩), fun u x e => .inl (in' u x e), ?_, hl⟩
  · have fin : ∀ {a b : Tab}, a.lev = b.lev → a.lev ≠ 0 → (a.lo.u ≤ b.hi.u → b.lo.u ≤ a.hi.u → b.lev ≤ a.lev - 1) → a.hi.u < b.lo.u ∨ b.hi.u < a.lo.u := fun {a b} el n0 k => by
      by_cases c1 : a.lo.u ≤ b.hi.u
      · exact .inl (Nat.not_le.mp fun c2 => Nat.ne_of_lt (sub_one (k c1 c2) n0) el.symm)
      · exact .inr (Nat.not_le.mp c1)
    rcases pw_or pw ma mb with q | q | q
    · exact absurd (congrArg Tab.n q) ne
    · exact fin el n0 q.2.2
    · exact (fin el.symm (el ▸ n0) q.2.2).symm
  · rcases pw_or pw ma mb with q | q | q
    · rw [q] at l; exact absurd l (Nat.lt_irrefl _)
    · exact absurd (q.2.2 (meet ma mb mr mr' e) (meet mb ma mr' mr e.symm)) fun z => Nat.not_le.mpr l (Nat.le_trans z (Nat.sub_le _ _))
    · exact q.2.1 r' mr' r mr
  · rcases pw_or pw ma mb with q | q | q
    · rw [q] at n; exact absurd n (Nat.lt_irrefl _)
    · exact q.2.1 r' mr' r mr
    · exact absurd q.1 (Nat.lt_asymm n)
  · rcases pw_or pw ma mb with q | q | q
    · subst q; exact ⟨rfl, h.inj a ma r mr r' mr' e⟩
    · exact absurd e (Nat.ne_of_lt (q.2.1 r mr r' mr'))
    · exact absurd e.symm (Nat.ne_of_lt (q.2.1 r' mr' r mr))
  · obtain ⟨t, m, mx⟩ := in' u x e
    exact ⟨(h.ok t m).rows x mx, (n1 u x e).2⟩
  · have : ∀ l : List Tab, (∀ t ∈ l, t.z < 2 ^ 50) → (l.map Tab.z).sum ≤ l.length * 2 ^ 50 := fun l => by
      induction l with
      | nil => exact fun _ => Nat.le_refl _
      | cons x l ih =>
        intro hx
        rw [List.map_cons, List.sum_cons, List.length_cons, Nat.succ_mul, Nat.add_comm]
        exact Nat.add_le_add (ih fun t m => hx t (List.mem_cons_of_mem _ m)) (Nat.le_of_lt (hx x List.mem_cons_self))
    exact Nat.lt_of_le_of_lt (Nat.le_trans (this ts h.sz) (Nat.mul_le_mul_right _ hl)) (by decide)
end Mine
namespace Mine
structure LX where
  p : Addr
  bd : Addr
  td : Addr
  wd : Addr
  nd : Addr
  v : Addr
  pk : Addr
  pp : Addr
  P : Opt
  last : Nat
  ts : List Tab
  nw : Nat → Option Row
  m : List (Int × SV)
  V : Ver
  ps : List (Array UInt8)
structure LX.Ok (X : LX) : Prop where
  ho : OkO X.P
  vl : VL X.V X.ts X.P.num
  inv : Inv X.P.num X.last X.ts X.nw
  lps : X.ps.length = X.P.num
  pso : ∀ b ∈ X.ps, b = #[] ∨ ∃ r : Row, r.Ok ∧ b = r.B
  l12 : X.last ≤ 12
  look : ∀ u : Nat, mlook X.m u = (X.nw u).map Row.sv
structure LB (s : SH) (X : LX) (ps : List (Array UInt8)) : Prop where
  opt : IsOpt s X.p X.P
  bd : s X.bd = some (.list (rngV X.P.num (maxOct X.P)))
  nd : ∃ ep, s X.nd = some (.dict X.m ep)
  pk : IsPick s X.pk X.p
  pp : s X.pp = some (.list (ps.map .byt))
structure LS (s : SH) (X : LX) : Prop where
  b : LB s X X.ps
  T : LT s X.td X.wd X.ts
  ver : IsVer s X.v X.V
section
variable {s s' : SH} {X : LX} {ps : List (Array UInt8)}
theorem LB.ext (h : LB s X ps) (x : Ext s s') : LB s' X ps := ⟨h.opt.ext x, x _ _ h.bd, h.nd.imp fun _ => x _ _, h.pk.ext x, x _ _ h.pp⟩
theorem LS.ext (h : LS s X) (x : Ext s s') : LS s' X := ⟨h.b.ext x, h.T.ext x, h.ver.ext x⟩
theorem LX.Ok.zl (O : X.Ok) {p : Addr × List AT} (m : p ∈ X.V.lv) : p.2.length ≤ 6 := by
  obtain ⟨i, e⟩ := List.getElem?_of_mem m
  have h := (O.vl.perm' O.inv i).length_eq
  rw [Ver.ts_at e, List.length_map] at h
  exact h ▸ Nat.le_trans (List.length_filter_le _ _) O.inv.len
theorem LX.Ok.n0 (O : X.Ok) : 0 < X.V.lv.length := O.vl.len.symm ▸ Nat.lt_of_lt_of_le (by decide) O.ho.n2
theorem LX.Ok.srt (O : X.Ok) (i : Nat) (p : Addr × List AT) (e : X.V.lv[i]? = some p) : Srt i p.2 := Ver.ts_at e ▸ O.vl.srt i
theorem LX.Ok.in' (O : X.Ok) {p : Addr × List AT} (m : p ∈ X.V.lv) {t : AT} (mt : t ∈ p.2) : t.2 ∈ X.ts := by
  obtain ⟨i, e⟩ := List.getElem?_of_mem m
  exact (O.vl.sub (Ver.ts_at e ▸ mt)).1
end
structure LK where
  nm : Addr
  ed : Addr
  a : Int
  b : Int
  fac : Int
  most : Int
  steps : Nat
noncomputable def LC (k : LK) (X : LX) (ak : Addr) (q14 q15 : Option SV) (r : Loc) : Loc :=
  some (.ref k.nm) :: some (.int k.a) :: some (.int k.b) :: some (.ref X.p) :: some (.int X.P.num) :: some (.int X.P.trig) :: some (.int k.fac) :: some (.ref X.bd) :: some (.int k.most) :: some (.ref X.td) :: some (.ref X.wd) :: some (.int X.last) :: some (.ref X.nd) :: some (.ref k.ed) :: q14 :: q15 :: some (.ref X.v) :: some (.ref X.pk) :: some (.ref X.pp) :: some (.int k.steps) :: some (.ref ak) :: r
noncomputable def TP (k : LK) (turn : Nat) (l : Loc) (s : SH) : Prop := ∀ Z : Loc → SH → Prop, (∀ X ak (us : List Nat) q14 q15 q21 q22 q23 q24 q25 q26 q27 q28 q29 q30 q31 q32 q33 q34 q35 q36 q37 s, LS s X → X.Ok → s ak = some (.list (us.map fun (u : Nat) => .int u)) → (∀ u ∈ us, u < 6) → us.length ≤ 2 → (∀ t ∈ X.ts, t.n < 30 + turn) → wsum X.P.num X.ts + turn ≤ k.steps →
  Z (LC k X ak q14 q15 [q21, q22, q23, q24, q25, q26, q27, q28, q29, q30, q31, q32, q33, q34, q35, q36, q37]) s) → Z l s
noncomputable abbrev tb : SL := S.body (SL.at 21 b__law_live)
section
variable {w : Wd} {H0 : Heap} (B : Base w H0) {d : Nat} {σ : SH} {Q : QV}
include B
theorem LS.tells {X : LX} (L : LS σ X) (O : X.Ok) {u : Nat} (hu : u < 6) (q : ∀ s, Ext σ s → Q (.bool true) s) : CallF (GG w H0) (d + 9) (.ref 746) [.ref X.v, .ref X.td, .ref X.nd, .int u, .int X.last] Q σ := by
  obtain ⟨ep, e⟩ := L.b.nd
  exact k_tells B L.ver O.srt O.n0 (fun p m => Nat.le_trans (O.zl m) (by decide)) hu (Nat.lt_of_le_of_lt O.l12 (by decide)) L.T O.inv.sl (fun p m t => O.in' m) e (O.look u) (fun r h => (O.inv.nwo u r h).1) (fun r => tells1 O.vl O.inv) (fun h r => tells0 O.vl O.inv h) (tells2 O.vl O.inv u) q
theorem seg20 {k : LK} {X : LX} (O : X.Ok) {lev turn : Nat} {U W : List AT} {R : List Row} (T : Tk X.P.num X.last X.ts X.nw lev (U.map (·.2)) (W.map (·.2)) R) (hN : ∀ t ∈ X.ts, t.n < 30 + turn) (hm : wsum X.P.num X.ts + turn ≤ k.steps) {y : Row} (yok : y.Ok) {c l0 l1 od sd rl ak : Addr} {C : CK} {A : List AT}
    (H : Ad (keep (oth X.ts (U.map (·.2) ++ W.map (·.2))) lev R) (30 + turn) (lev + 1) (A.map (·.2))) (hC : CompAt σ c lev C) (hE : EditAt σ C.e C.dl C.al C.cl) (hdl : σ C.dl = some (.list ((dels lev [(l0, U), (l1, W)] 2).map delSV))) (hal : σ C.al = some (.list (A.map addSV))) (hA : ∀ x ∈ A, IsT σ x.1 x.2)
    (b : LB σ X (X.ps.set lev y.B)) (ver : IsVer σ X.v X.V) (hT : LT σ od sd (oth X.ts (U.map (·.2) ++ W.map (·.2)) ++ A.map (·.2))) (hrl : σ rl = some (.list (R.map Row.sv))) (zR : R.length ≤ 100)
    {q14 q15 q22 q23 q24 q26 q28 q32 q33 q34 q35 q36 q37 : Option SV} {K : KF} (hK : ∀ l s, TP k (turn + 1) l s → K .next l s) :
    wpB (GG w H0) (d + 10) (SL.drop 20 tb) K (LC k X ak q14 q15 [some (.int turn), q22, q23, q24, some (.int lev), q26, some (.ref c), q28, some (.ref rl), some (.ref od), some (.ref sd), q32, q33, q34, q35, q36, q37]) σ := by
  refine hC.edt (k_made B ver hE hdl hal hA (T.fits O.vl H hN) fun v' V' s1 x1 ver' hl hG => ?_)
  have I' := T.inv H hN
  have F' := O.vl.new (T.newL O.vl) hl hG
  have ws := T.wsum H
  have nums := nums_perm F' I'
  have l6 := I'.len
  refine me (ver'.m 7 (x := 6) (by kernel_rfl)) (k_numbers B ver' (by rw [nums.length_eq, List.length_map]; omega) fun L1 ns1 s2 x2 e1 p1 st1 => ?_)
  obtain ⟨ep, ed⟩ := (hT.ext (x1.trans x2)).d
  refine f_sortd (gok B) ed (by unfold tdM; rw [List.length_map]; omega) fun L2 ns2 hL2 p2 st2 => ?_
  have e12 : ns1 = ns2 := (p1.trans (nums.trans (by unfold tdM at p2; rw [List.map_map] at p2; exact p2.symm))).eq_of_pairwise (fun x y _ _ h k => Int.le_antisymm h k) st1 st2
  have x3 := Ext.upd (.list (ns2.map .int)) hL2
  have e2 := upd_same s2 L2 (.list (ns2.map .int))
  generalize upd s2 L2 (.list (ns2.map .int)) = s3 at x3 e2 ⊢
  rw [← e12] at e2
  refine ⟨rfl, _, _, false, x3 _ _ e1, e2, .inr (int_same _), ?_⟩
  have x := x1.trans (x2.trans x3)
  have hrl := x _ _ hrl
  have Rm : ∀ r ∈ R, r.u < 6 := fun r m => by
    obtain ⟨t, mt, mr⟩ := (T.hR r).mp m
    exact ((O.inv.ok t (T.sub mt)).rows r mr).u
  have l0 : 0 < R.length := by
    obtain ⟨t, mt⟩ := List.exists_mem_of_ne_nil _ T.ne
    exact List.length_pos_of_mem ((T.hR _).mpr ⟨t, List.mem_append_left _ mt, (O.inv.ok t (T.hU t mt).1).loM⟩)
  have ha := List.getElem?_eq_getElem l0
  have hz := List.getElem?_eq_getElem (Nat.sub_lt l0 Nat.zero_lt_one)
  generalize R[0] = ra at ha
  generalize R[R.length - 1]'_ = rz at hz
  have zR' := Nat.le_trans zR (show 100 ≤ 1000 by decide)
  refine sub_map (k := 0) hrl (Nat.le_trans zR (by decide)) ha (len_map hrl zR' (sub_p hrl zR' hz (Int.ofNat_sub l0).symm (new_w fun ak' s4 _ e4 x4 => hK _ _ fun Z z => ?_)))
  have x := x.trans x4
  have x' := x2.trans (x3.trans x4)
  have b := b.ext x
  exact z { X with td := od, wd := sd, v := v', ts := oth X.ts (U.map (·.2) ++ W.map (·.2)) ++ A.map (·.2), V := V', ps := X.ps.set lev y.B } ak' [ra.u, rz.u] _ _ _ _ _ _ _ _ _ _ _ _ _ _ _ _ _ _ _ s4
    ⟨⟨b.opt, b.bd, b.nd, b.pk, b.pp⟩, hT.ext x, ver'.ext x'⟩ ⟨O.ho, F', I', by rw [List.length_set]; exact O.lps, fun b m => (List.mem_or_eq_of_mem_set m).elim (O.pso b) fun e => .inr ⟨y, yok, e⟩, O.l12, O.look⟩ e4
    (List.forall_mem_cons.mpr ⟨Rm _ (List.mem_of_getElem? ha), List.forall_mem_cons.mpr ⟨Rm _ (List.mem_of_getElem? hz), fun _ h => absurd h List.not_mem_nil⟩⟩) (Nat.le_refl _) (fun t m => (List.mem_append.mp m).elim (fun m => Nat.lt_succ_of_lt (hN t (T.om.mp m).1)) fun m => by rw [(H.p t m).1]; exact Nat.lt_succ_self _) (by show wsum X.P.num (_ ++ _) + (turn + 1) ≤ _; omega)
end
end Mine
namespace Mine
theorem ne_byt {α : Type} {f : α → SV} {s : SH} {a pp : Addr} {l : List α} {ps : List (Array UInt8)} (h : s a = some (.list (l.map f))) (hp : s pp = some (.list (ps.map .byt))) (ne : ps ≠ []) (hf : ∀ x b, f x ≠ .byt b) : a ≠ pp := fun e => by
  rw [e, hp] at h
  cases ps with
  | nil => exact ne rfl
  | cons b ps =>
    cases l with
    | nil => cases h
    | cons x l => injection h with h; injection h with h; exact hf x b (List.cons.inj h).1.symm
theorem LT.bar {σ t : SH} {td wd x : Addr} {ts : List Tab} (h : LT σ td wd ts) {l : List SV} (e : σ x = some (.list l)) (b : Bar x σ t) (n : ∀ t ∈ ts, t.a ≠ x) : LT t td wd ts :=
  have k : Kp [0] σ t := b.kp e
  ⟨h.d.imp fun _ g => k _ _ g rfl, h.w.imp fun _ g => k _ _ g rfl, fun t m => b _ _ (n t m) (h.r t m), h.ok, h.nd, h.z⟩
theorem LX.Ok.ps0 {X : LX} (O : X.Ok) : X.ps ≠ [] := fun e => by
  have := O.lps
  have := O.ho.n2
  rw [e] at *
  simp at *
  omega
theorem LS.later {σ t : SH} {X : LX} (L : LS σ X) (O : X.Ok) (b : Bar X.pp σ t) {ps' : List (Array UInt8)} (e : t X.pp = some (.list (ps'.map .byt))) : LB t X ps' ∧ LT t X.td X.wd X.ts ∧ IsVer t X.v X.V :=
  have k : Kp [0] σ t := b.kp L.b.pp
  have n := O.ps0
  ⟨⟨L.b.opt.kp k, b _ _ (ne_byt L.b.bd L.b.pp n fun _ _ z => nomatch z) L.b.bd, L.b.nd.imp fun _ g => k _ _ g rfl, L.b.pk.kp k, e⟩,
    L.T.bar L.b.pp b fun t m => ne_byt (L.T.r t m) L.b.pp n fun _ _ z => (nomatch z), L.ver.bar b L.b.pp (ne_byt L.ver.L.e L.b.pp n fun _ _ z => (nomatch z)) fun p m => ne_byt (L.ver.L.t p m).e L.b.pp n fun _ _ z => (nomatch z)⟩
theorem Bar.into {σ s t : SH} {x y : Addr} (b : Bar x σ s) (c : Bar y s t) (h : σ y = none) : Bar x σ t := fun a o n e => c a o (ne_of e h) (b a o n e)
theorem Bar.nx {σ s t : SH} {x : Addr} (b : Bar x σ s) (y : Ext s t) : Bar x σ t := fun a o n e => y a o (b a o n e)
section
variable {w : Wd} {H0 : Heap} (B : Base w H0) {d : Nat} {σ t : SH} {Q : QV}
include B
theorem seg18 {k : LK} {X : LX} (L : LS σ X) (O : X.Ok) {lev turn : Nat} {U W : List AT} {R : List Row} (T : Tk X.P.num X.last X.ts X.nw lev (U.map (·.2)) (W.map (·.2)) R) (hN : ∀ t ∈ X.ts, t.n < 30 + turn) (hm : wsum X.P.num X.ts + turn ≤ k.steps) {y : Row} (yok : y.Ok) {c l0 l1 od sd rl kl ak : Addr} {C : CK}
    (b : Bar X.pp σ t) (pp : t X.pp = some (.list ((X.ps.set lev y.B).map .byt))) (hC : CompAt t c lev C) (hE : EditAt t C.e C.dl C.al C.cl) (hdl : t C.dl = some (.list [])) (hal : t C.al = some (.list [])) (hil : t C.il = some (.list [.ref l0, .ref l1])) (h0 : FL t l0 U) (h1 : FL t l1 W)
    (hT : LT t od sd (oth X.ts (U.map (·.2) ++ W.map (·.2)))) (os : od ≠ sd) (hrl : t rl = some (.list (R.map Row.sv))) (hkl : t kl = some (.list ((keep (oth X.ts (U.map (·.2) ++ W.map (·.2))) lev R).map Row.sv))) (zR : R.length ≤ 100)
    (fr' : ∀ z ∈ [od, sd, C.dl, C.al], σ z = none) (nd : C.il ≠ C.dl ∧ C.dl ≠ C.al) (n0 : l0 ≠ C.dl) (n1 : l1 ≠ C.dl) (nr : rl ≠ C.dl ∧ rl ≠ C.al) (nk : kl ≠ C.dl ∧ kl ≠ C.al) (nrow : ∀ t ∈ X.ts, t.a ≠ C.dl ∧ t.a ≠ C.al)
    {q14 q15 q22 q23 q24 q26 q28 q33 q34 q35 q36 q37 : Option SV} {K : KF} (hK : ∀ l s, TP k (turn + 1) l s → K .next l s) :
    wpB (GG w H0) (d + 10) (SL.drop 18 tb) K (LC k X ak q14 q15 [some (.int turn), q22, q23, q24, some (.int lev), q26, some (.ref c), q28, some (.ref rl), some (.ref od), some (.ref sd), some (.ref kl), q33, q34, q35, q36, q37]) t := by
  have fod := fr' od (by simp)
  have fsd := fr' sd (by simp)
  have fdl := fr' C.dl (by simp)
  have fal := fr' C.al (by simp)
  have zUW := T.zUW
  refine me (hC.m 17 (x := 15) (by kernel_rfl)) (k_adddel B (inp := [(l0, U), (l1, W)]) hC hE hil rfl (List.forall_mem_cons.mpr ⟨⟨h0, n0⟩, List.forall_mem_cons.mpr ⟨⟨h1, n1⟩, fun _ h => absurd h List.not_mem_nil⟩⟩) (fun j => Nat.le_trans (dels_len j) (Nat.le_trans zUW (by decide))) hdl nd.1 fun s1 e1 b1 => ?_)
  have k1 : Kp [0] t s1 := b1.kp hdl
  have hC := hC.kp k1
  have hE := hE.kp k1
  have hal := b1 _ _ nd.2.symm hal
  have hrl := b1 _ _ nr.1 hrl
  have hkl := b1 _ _ nk.1 hkl
  have hT := hT.bar hdl b1 fun t m => (nrow t (T.om.mp m).1).1
  have pp := b1 _ _ (ne_of L.b.pp fdl) pp
  have b := b.into b1 fdl
  have zK := keep_sub (ts := oth X.ts (U.map (·.2) ++ W.map (·.2))) (lev := lev) (R := R) |>.length_le
  refine len_map hkl (Nat.le_trans zK (Nat.le_trans zR (by decide))) ?_
  refine dc (fun c1 => ?_) fun c1 => ?_
  · have ne : keep (oth X.ts (U.map (·.2) ++ W.map (·.2))) lev R ≠ [] := fun e => by rw [e] at c1; exact absurd (Int.ofNat_lt.mp c1) (Nat.not_lt_zero _)
    have H : Ad (keep (oth X.ts (U.map (·.2) ++ W.map (·.2))) lev R) (30 + turn) (lev + 1) [⟨30 + turn, lev + 1, keep (oth X.ts (U.map (·.2) ++ W.map (·.2))) lev R, kl⟩] := ⟨fun x m => by rw [List.mem_singleton.mp m]; exact ⟨rfl, rfl, rfl, ne⟩, .inr ⟨_, rfl⟩, fun _ => ⟨_, List.mem_cons_self⟩⟩
    have Mok := H.ok T List.mem_cons_self
    have new : ∀ z ∈ oth X.ts (U.map (·.2) ++ W.map (·.2)), z.n ≠ 30 + turn := fun z m => Nat.ne_of_lt (hN z (T.om.mp m).1)
    have z6 : (oth X.ts (U.map (·.2) ++ W.map (·.2))).length < 6 := Nat.lt_of_lt_of_le (by rw [← T.lens]; exact Nat.lt_add_of_pos_left T.len1) O.inv.len
    have zz := Nat.le_trans (Nat.le_of_lt z6) (show 6 ≤ 1000 by decide)
    obtain ⟨ep, ed⟩ := hT.d
    refine put_d (t := ⟨30 + turn, lev + 1, keep (oth X.ts (U.map (·.2) ++ W.map (·.2))) lev R, kl⟩) ed new zz fun s2 e2 b2 => ?_
    obtain ⟨ep2, ew⟩ := hT.w
    have ew := b2 _ _ os.symm ew
    refine put_w (t := ⟨30 + turn, lev + 1, keep (oth X.ts (U.map (·.2) ++ W.map (·.2))) lev R, kl⟩) ew new zz fun s3 e3 b3 => ?_
    have kp := (b2.kp ed : Kp [1] s1 s2).trans (b3.kp ew : Kp [1] s2 s3)
    have hC := hC.kp kp
    have hE := hE.kp kp
    have hal := kp _ _ hal rfl
    have hkl := kp _ _ hkl rfl
    have hT := hT.grow (e2.imp fun _ e => b3 _ _ os e) e3 (fun t m => (kp _ _ (hT.r t m) rfl).trans (hT.r t m).symm) hkl Mok new z6
    have b := (b.into b2 fod).into b3 fsd
    refine hC.edt (hE.add (me (m_app hal) (k_law_meta B Mok hkl fun m s4 _ x4 im => app (x4 _ _ hal) (Nat.le_of_ble_eq_true rfl) fun s5 e5 b5 => ?_)))
    have b5 : Bar C.al s4 s5 := b5
    have hal4 := x4 _ _ hal
    have k5 : Kp [0] s4 s5 := b5.kp hal4
    have b := (b.nx x4).into b5 fal
    obtain ⟨lb, _, lv⟩ := L.later O b (b5 _ _ (ne_of L.b.pp fal) (x4 _ _ (kp _ _ pp rfl)))
    exact seg20 B O T hN hm yok (A := [(m, ⟨30 + turn, lev + 1, keep (oth X.ts (U.map (·.2) ++ W.map (·.2))) lev R, kl⟩)]) H ((hC.kp (x4.kp [])).kp k5) ((hE.ext x4).kp k5) (b5 _ _ nd.2 (x4 _ _ (kp _ _ e1 rfl))) e5 (fun z mz => by rw [List.mem_singleton.mp mz]; exact im.kp k5) lb lv ((hT.ext x4).bar hal4 b5 (all_snoc (fun t m => (nrow t (T.om.mp m).1).2) nk.2)) (b5 _ _ nr.2 (x4 _ _ (kp _ _ hrl rfl))) zR hK
  · have e0 : keep (oth X.ts (U.map (·.2) ++ W.map (·.2))) lev R = [] := List.length_eq_zero_iff.mp (Nat.eq_zero_of_not_pos fun z => c1 (Int.ofNat_lt.mpr z))
    obtain ⟨lb, _, lv⟩ := L.later O b pp
    exact seg20 B O T hN hm yok (A := []) ⟨fun _ h => absurd h List.not_mem_nil, .inl rfl, fun z => absurd e0 z⟩ hC hE e1 hal (fun _ h => absurd h List.not_mem_nil) lb lv (by rw [List.map_nil, List.append_nil]; exact hT) hrl zR hK
end
end Mine
namespace Mine
theorem Bar3.kp {a c p : Addr} {s s' : SH} (x : Bar3 a c p s s') {A B D : SO} (ea : s a = some A) (ec : s c = some B) (ep : s p = some D) (h1 : okind A = 690) (h2 : okind B = 592) (h3 : okind D = 0) : Kp [690, 592, 0] s s' := fun b o e k =>
  have ne : ∀ {z : Addr} {O : SO}, s z = some O → (okind O = 690 ∨ okind O = 592 ∨ okind O = 0) → b ≠ z := fun ez h q => by
    rw [q, ez] at e
    cases e
    rcases h with h | h | h <;> rw [h] at k <;> cases k
  x b o (ne ea (.inl h1)) (ne ec (.inr (.inl h2))) (ne ep (.inr (.inr h3))) e
theorem goL_iff {ts : List Tab} {lev : Nat} {R : List Row} {j : Nat} {r : Row} (e : R[j]? = some r) : goL ts lev R j = true ↔ prv R j = some r.u ∨ (r.k = 0 ∧ noTab ts lev r.u = true) := by
  rw [goL, e]; exact goB_iff
theorem cmp_ne2 {a b : Bool} {Q : QV} {σ : SH} (q : Q (.bool false) σ) : cmpW .NotEq (.tup [.bool a, .bool b]) (.tup [.bool a, .bool b]) Q σ := ⟨_, by rw [tc_t fe_b, tc_t fe_b]; rfl, q⟩
theorem Su.ni' {ptrs L : Addr} {K : CK} (h : L ∉ ptrs :: K.S) : L ≠ ptrs ∧ L ≠ K.il ∧ L ≠ K.dl ∧ L ≠ K.al ∧ L ≠ K.cl ∧ L ≠ K.pl := Su.ni h
theorem TS.ext {s s' : SH} {a c : Addr} {lev : Nat} {K : CK} {P : Opt} {V : Ver} {g : List AT} {pls : List Nat} {last : Nat} {cur : Option Nat} (h : TS s a c lev K P V g pls last cur) (x : Ext s s') : TS s' a c lev K P V g pls last cur := ⟨h.e.kp (x.kp _), by obtain ⟨dd, f, nw, st, e, r⟩ := h.i; exact ⟨dd, f, nw, st, x _ _ e, r⟩⟩
theorem prv_mem {R : List Row} {u : Nat} : ∀ {j : Nat}, prv R j = some u → ∃ r ∈ R, r.u = u
  | 0, e => nomatch e
  | _ + 1, e => by
    obtain ⟨r, e, h⟩ := Option.map_eq_some_iff.mp e
    exact ⟨r, List.mem_of_getElem? e, h⟩
section
variable {w : Wd} {H0 : Heap} (B : Base w H0) {d : Nat} {σ s0 t : SH} {Q : QV}
include B
theorem seg15 {k : LK} {X : LX} (L : LS σ X) (O : X.Ok) {lev turn : Nat} {U W : List AT} {R : List Row} (T : Tk X.P.num X.last X.ts X.nw lev (U.map (·.2)) (W.map (·.2)) R) (hN : ∀ t ∈ X.ts, t.n < 30 + turn) (hm : wsum X.P.num X.ts + turn ≤ k.steps) {y : Row} (yok : y.Ok) {c l0 l1 od sd rl ak : Addr} {C : CK}
    (P : Picked σ s0 c lev C X.P.num X.pp l0 l1 U W y X.ps) (hv : C.v = X.v) (hp : C.p = X.p) (x : Ext s0 t) (hT : LT t od sd (oth X.ts (U.map (·.2) ++ W.map (·.2)))) (os : od ≠ sd) (fo : s0 od = none) (fs : s0 sd = none) (hrl : t rl = some (.list (R.map Row.sv))) (fr' : s0 rl = none) (zR : R.length ≤ 100)
    {q14 q15 q22 q23 q24 q26 q28 q32 q33 q34 q35 q36 q37 : Option SV} {K : KF} (hK : ∀ l s, TP k (turn + 1) l s → K .next l s) :
    wpB (GG w H0) (d + 10) (SL.drop 15 tb) K (LC k X ak q14 q15 [some (.int turn), q22, q23, q24, some (.int lev), q26, some (.ref c), q28, some (.ref rl), some (.ref od), some (.ref sd), q32, q33, q34, q35, q36, q37]) t := by
  have l12 := O.l12
  have n12 := O.ho.num
  have hl := T.hl
  have Rrow : ∀ {r}, r ∈ R → r.Ok ∧ r.s ≤ X.last := fun m => by
    obtain ⟨t, mt, mr⟩ := (T.hR _).mp m
    exact ⟨(O.inv.ok t (T.sub mt)).rows _ mr, O.inv.sl t (T.sub mt) _ mr⟩
  refine k_left B hrl (Nat.le_trans zR (by decide)) hT fun kl gl s1 hkl hgl x1 ekl egl => ?_
  refine k_new_sieve B fun sv s2 hsv x2 sat => ?_
  have x01 := x.trans x1
  have x02 := x01.trans x2
  have m1 := P.m.ext x01
  have m2 := m1.ext x2
  have S := m2.nd
  simp only [CK.S, List.nodup_cons, List.mem_cons, List.not_mem_nil, or_false, not_or] at S
  have nS : ∀ {s : SH} {z : Addr}, Ext s0 s → s z = none → z ≠ C.pl ∧ z ≠ C.dl ∧ z ≠ C.al := fun y h => ⟨(ne_of (y _ _ P.m.p) h).symm, (ne_of (y _ _ P.m.d) h).symm, (ne_of (y _ _ P.m.a) h).symm⟩
  have n0 := Su.ni' P.n0
  have n1 := Su.ni' P.n1
  have ng := Su.ni' P.n2
  have old : ∀ {z : Addr}, s0 z = none → σ z = none := fun {z} h => by
    cases e : σ z with
    | none => rfl
    | some o => rw [P.b z o (fun q => by rw [q, P.p] at h; cases h) e] at h; cases h
  have fC : ∀ {z : Addr}, z ∈ [c, C.e, C.il, C.dl, C.al, C.cl, C.pl] → σ z = none := fun {z} m => P.fS z m
  have fc := fC (z := c) (by simp)
  have fpl := fC (z := C.pl) (by simp)
  have fdl := fC (z := C.dl) (by simp)
  have fal := fC (z := C.al) (by simp)
  obtain ⟨lb, lt, lv⟩ := L.later O (P.b.nx x02) (x02 _ _ P.p)
  obtain ⟨g, hg⟩ := P.g
  obtain ⟨dd, f, st, eS, h53, h24, h54, h55, h56, nm⟩ := sat
  obtain ⟨ddc, fc', oc, uc, gac, goc, skc, eC, -⟩ := id m2.c
  have ntab : ∀ {z : Addr} {o : SO}, σ z = some o → z ≠ C.pl ∧ z ≠ C.dl ∧ z ≠ C.al := fun h => ⟨ne_of h fpl, ne_of h fdl, ne_of h fal⟩
  have keepL : ∀ {tf : SH}, Bar3 sv c C.pl s2 tf → ∀ {z : Addr} {l : List SV}, s1 z = some (.list l) → z ≠ C.pl → tf z = some (.list l) := fun {tf} b3 {z l} e n => b3 z _ (ne_of e hsv) (fun q => by have := x2 _ _ e; rw [q, eC] at this; cases this) n (x2 _ _ e)
  have T0 : TS s2 sv c lev C X.P X.V g (List.replicate X.P.num 0) X.last none := ⟨⟨m2.c, hp.symm ▸ lb.opt, hg.ext x02, hv.symm ▸ lv, by rw [m2.p, plV, List.map_replicate]; rfl⟩, dd, f, _, st, eS, ⟨h53, h24, h54, h55, h56, nm⟩, fun u z => nomatch z⟩
  have hrl1 := x1 _ _ hrl
  have hrl2 := x2 _ _ hrl1
  refine len_map hrl2 (Nat.le_trans zR (by decide)) (f_range1 (by omega) (by omega) ?_)
  rw [Int.toNat_natCast]
  refine forR (fun j l' h' => ∀ Z : Loc → SH → Prop, (∀ pls us q35 t, TS t sv c lev C X.P X.V g pls X.last (prv R j) → PlOk X.V lev pls us → (∀ r, R[j]? = some r → us ≤ r.u) → Bar3 sv c C.pl s2 t → Z (LC k X ak q14 q15 [some (.int turn), q22, q23, q24, some (.int lev), q26, some (.ref c), q28, some (.ref rl), some (.ref od), some (.ref sd), some (.ref kl), some (.ref gl), some (.ref sv), q35, q36, q37]) t) → Z l' h')
    (fun i => trivial) (fun l' h' i => ?_) (fun j l' h' Rr hj kk i => ?_) fun Z z => z _ 0 q35 s2 T0 ⟨List.length_replicate.trans O.vl.len.symm, fun i q h1 h2 => by rw [(List.mem_replicate.mp (List.mem_of_getElem? h2)).2]; exact ⟨Nat.zero_le _, fun k t hk => absurd hk (Nat.not_lt_zero _)⟩⟩ (fun _ _ => Nat.zero_le _) fun _ _ _ _ _ e => e
  · apply i; intro pls us q35 tf Tf _ _ b3
    have kp := b3.kp eS eC m2.p rfl rfl rfl
    have pp1 := x01 _ _ P.p
    have npp := ntab L.b.pp
    have fl : ∀ {z : Addr} {r : List AT}, z ≠ C.pl → FL s0 z r → FL tf z r := fun n h => ⟨keepL b3 (x01 _ _ h.e) n, fun p m => ((h.t p m).ext x02).kp kp, h.ok, h.z⟩
    have b : Bar X.pp σ tf := fun a o n e => b3 a o (ne_of (x01 a o (P.b a o n e)) hsv) (ne_of e fc) (ne_of e fpl) (x02 a o (P.b a o n e))
    have hT2 := (hT.ext x1).ext x2
    exact seg18 B L O T hN hm yok b (keepL b3 pp1 npp.1) Tf.e.cp (m2.ed.kp kp) (keepL b3 m1.d S.2.1.2.2) (keepL b3 m1.a S.2.2.1.2) (keepL b3 (x01 _ _ P.il) S.1.2.2.2) (fl n0.2.2.2.2.2 P.u) (fl n1.2.2.2.2.2 P.w)
      ⟨hT2.d.imp fun _ e => kp _ _ e rfl, hT2.w.imp fun _ e => kp _ _ e rfl, fun t m => keepL b3 ((hT.ext x1).r t m) (ntab (L.T.r t (T.om.mp m).1)).1, hT2.ok, hT2.nd, hT2.z⟩ os (keepL b3 hrl1 (nS (Ext.refl s0) fr').1) (keepL b3 ekl (nS x hkl).1) zR
      (List.forall_mem_cons.mpr ⟨old fo, List.forall_mem_cons.mpr ⟨old fs, List.forall_mem_cons.mpr ⟨fdl, List.forall_mem_cons.mpr ⟨fal, fun _ h => absurd h List.not_mem_nil⟩⟩⟩⟩) ⟨S.1.1, S.2.1.1⟩ n0.2.2.1 n1.2.2.1 (nS (Ext.refl s0) fr').2 (nS x hkl).2 (fun t m => (ntab (L.T.r t m)).2) hK
  · apply i; intro pls us q35 tf Tf ok le b3
    have hr := List.getElem?_eq_getElem hj
    generalize R[j] = r at hr
    have rm := List.mem_of_getElem? hr
    obtain ⟨rok, rls⟩ := Rrow rm
    obtain ⟨_, dd', f', nw', st', e', sf', _⟩ := id Tf
    refine me (mth 22 (x := 77) (f := .ref 687) (by kernel_rfl) e' (sf'.nm 20)) ?_
    refine sub_map (keepL b3 hrl1 (nS (Ext.refl s0) fr').1) (Nat.le_trans zR (by decide)) hr ?_
    refine k_law_ikey B rok fun s' x' => ?_
    refine k_turn B (Tf.ext x') O.ho O.vl.len.symm O.vl.srt (ntab L.ver.L.e).1 (fun p m => (ntab (L.ver.L.t p m).e).1) ng.2.2.2.2.2 (ok.le (le r hr)) (by omega) (by omega) rok rls (fun u e => by obtain ⟨r', m, e⟩ := prv_mem e; rw [← e]; exact (Rrow m).1.u) fun b pls' s3 T3 ok3 hb b3' => ?_
    have eb : b = goL (oth X.ts (U.map (·.2) ++ W.map (·.2))) lev R j := by
      rw [Bool.eq_iff_iff, hb, goL_iff hr, O.vl.noTab O.inv fun t m => ⟨T.sub m, (T.lv m).elim (fun e => by rw [e]; exact Nat.le_succ _) Nat.le_of_eq⟩]
    have b4 : Bar3 sv c C.pl s2 s3 := fun a o h1 h2 h3 e => b3' a o h1 h2 h3 (x' a o (b3 a o h1 h2 h3 e))
    rw [eb]
    refine sub_map (l := List.range R.length) (f := fun j => .bool (goL (oth X.ts (U.map (·.2) ++ W.map (·.2))) lev R j)) (keepL b4 egl (nS x hgl).1) (by rw [List.length_range]; omega) (List.getElem?_range hj) ?_
    refine cmp_ne2 (kk _ _ fun Z z => z pls' r.u _ s3 ?_ ok3 (fun r' e' => srt_le (srt_at T.sR hr e' (Nat.lt_succ_self j))) b4)
    rw [show prv R (j + 1) = some r.u by show R[j]?.map _ = _; rw [hr]; rfl]
    exact T3
end
end Mine
namespace Mine
noncomputable def Row.ints (r : Row) : List Int := [(r.u : Int), -(r.s : Int), (r.k : Int), (r.z : Int)]
noncomputable def keyI (l : List Int) : Int := l.getD 0 0 * 256 + l.getD 1 0
theorem lex_row {x y : Row} (hx : x.Ok) (hy : y.Ok) (h : x.s = y.s → x = y) : lexI (decide (x.ints.length < y.ints.length)) x.ints y.ints = decide (keyI x.ints < keyI y.ints) := by
  have h1 := hx.s
  have h2 := hy.s
  show (if (x.u : Int) = y.u then (if -(x.s : Int) = -(y.s : Int) then lexI false [(x.k : Int), x.z] [(y.k : Int), y.z] else decide (-(x.s : Int) < -(y.s : Int))) else decide ((x.u : Int) < y.u)) = decide ((x.u : Int) * 256 + -(x.s : Int) < (y.u : Int) * 256 + -(y.s : Int))
  by_cases c : x.s = y.s
  · rw [h c, if_pos rfl, if_pos rfl, decide_eq_false (Int.lt_irrefl _)]
    show (if _ then (if _ then _ else _) else _) = _
    rw [if_pos rfl, if_pos rfl]; rfl
  · by_cases cu : (x.u : Int) = y.u
    · rw [if_pos cu, if_neg (by omega)]; exact decide_eq_decide.mpr (by omega)
    · rw [if_neg cu]; exact decide_eq_decide.mpr (by omega)
theorem srt_of {x y : Row} (hx : x.Ok) (hy : y.Ok) (h : keyI x.ints ≤ keyI y.ints) (n : x.s ≠ y.s) : srtR x y := by
  have h : (x.u : Int) * 256 + -(x.s : Int) ≤ (y.u : Int) * 256 + -(y.s : Int) := h
  have h1 := hx.s
  have h2 := hy.s
  unfold srtR; omega
theorem len_flat {T : List AT} (h : ∀ p ∈ T, p.2.rows.length ≤ 6) : (T.flatMap fun p => p.2.rows).length ≤ 6 * T.length := by
  induction T with
  | nil => exact Nat.le_refl _
  | cons x T ih =>
    rw [List.flatMap_cons, List.length_append, List.length_cons, Nat.mul_succ, Nat.add_comm]
    exact Nat.add_le_add (ih fun p m => h p (List.mem_cons_of_mem _ m)) (h x List.mem_cons_self)
theorem sum_flat (T : List AT) : sumZ (T.flatMap fun p => p.2.rows) = (T.map fun p => p.2.z).sum := by
  induction T with
  | nil => rfl
  | cons x T ih =>
    rw [List.flatMap_cons, List.map_cons, List.sum_cons, ← ih]
    unfold sumZ
    rw [List.map_append, List.sum_append_nat]; rfl
theorem Pk.nd {V : Ver} {ts : List Tab} {count last : Nat} {nw : Nat → Option Row} (F : VL V ts count) (I : Inv count last ts nw) {lev : Nat} {U W : List AT} {y : Row} (K : Pk (V.ts lev) (V.ts (lev + 1)) U W y) : (∀ p ∈ U, p.2 ∈ ts ∧ p.2.lev = lev) ∧ (∀ p ∈ W, p.2 ∈ ts ∧ p.2.lev = lev + 1) ∧ ((U ++ W).map (·.2)).Nodup := by
  obtain ⟨lo, hi, H⟩ := hull_ex K.ne
  have eW := K.low lo hi H
  have hU : ∀ p ∈ U, p.2 ∈ ts ∧ p.2.lev = lev := fun p m => F.sub (K.sub.subset m)
  have hW : ∀ p ∈ W, p.2 ∈ ts ∧ p.2.lev = lev + 1 := fun p m => F.sub (List.mem_filter.mp (eW ▸ m)).1
  refine ⟨hU, hW, ?_⟩
  rw [List.map_append]
  refine List.nodup_append.mpr ⟨(perm_of F I lev).sublist (K.sub.map _), ?_, fun a ha b hb e => ?_⟩
  · rw [eW]; exact (perm_of F I (lev + 1)).sublist (List.filter_sublist.map _)
  · obtain ⟨p, mp, ep⟩ := List.mem_map.mp ha
    obtain ⟨q, mq, eq⟩ := List.mem_map.mp hb
    have h1 := (hU p mp).2
    rw [ep, e, ← eq, (hW q mq).2] at h1
    exact Nat.succ_ne_self lev h1
section
variable {w : Wd} {H0 : Heap} (B : Base w H0) {d : Nat} {σ : SH} {Q : QV}
theorem k_sort {rl : Addr} {fl : List Row} (h : σ rl = some (.list (fl.map Row.sv))) (ok : ∀ r ∈ fl, r.Ok) (inj : ∀ x ∈ fl, ∀ y ∈ fl, x.s = y.s → x = y) (nd : fl.Nodup) (hz : fl.length < 64) (q : ∀ L (R : List Row) s, σ L = none → Ext σ s → s L = some (.list (R.map Row.sv)) → R.Perm fl → R.Pairwise srtR → Q (.ref L) s) :
    CallF (GG w H0) d (.builtin "sorted") [.ref rl] Q σ := by
  refine f_sortt (rows := fl.map Row.ints) (k := keyI) (by rw [h, List.map_map]; rfl) (by rw [List.length_map]; exact hz) (List.forall_mem_map.mpr fun r m => List.cons_ne_nil _ _) (List.forall_mem_map.mpr fun x mx => List.forall_mem_map.mpr fun y my => lex_row (ok x mx) (ok y my) (inj x mx y my)) fun L rows' hL pm sk => ?_
  obtain ⟨R, pR, rfl⟩ := perm_map_inv pm
  refine q L R _ hL (Ext.upd _ hL) ?_ pR ?_
  · rw [upd_same, List.map_map]; rfl
  · rw [List.map_map, List.pairwise_map] at sk
    exact (sk.and (pR.nodup_iff.mpr nd)).imp_of_mem fun {x y} mx my q => srt_of (ok x (pR.mem_iff.mp mx)) (ok y (pR.mem_iff.mp my)) q.1 fun e => q.2 (inj x (pR.mem_iff.mp mx) y (pR.mem_iff.mp my) e)
end
end Mine
namespace Mine
theorem nin_l {s : SH} {a : Addr} {ns : List Int} {k : Int} {Q : QV} (h : s a = some (.list (ns.map .int))) (g : Q (.bool (!ns.contains k)) s) : cmpW .NotIn (.int k) (.ref a) Q s := .inr ⟨ns, h, g⟩
theorem oth_snoc {dn T : List Tab} {t : Tab} : oth (dn ++ [t]) T = oth dn T ++ if (T.map fun x => (x.n : Int)).contains t.n = true then [] else [t] := by
  unfold oth
  rw [List.filter_append]
  cases h : (T.map fun x => (x.n : Int)).contains t.n
  · rw [List.filter_cons_of_pos (by rw [h]; rfl)]; rfl
  · rw [List.filter_cons_of_neg (by rw [h]; exact Bool.false_ne_true)]; rfl
section
variable {w : Wd} {H0 : Heap} (B : Base w H0) {d : Nat} {σ s0 t : SH} {Q : QV}
include B
theorem seg9 {k : LK} {X : LX} (L : LS σ X) (O : X.Ok) {lev turn : Nat} {U W : List AT} {y : Row} (hl : lev + 1 < X.P.num) (K' : Pk (X.V.ts lev) (X.V.ts (lev + 1)) U W y) (hN : ∀ t ∈ X.ts, t.n < 30 + turn) (hm : wsum X.P.num X.ts + turn ≤ k.steps) (yok : y.Ok) {c l0 l1 tk ak : Addr} {C : CK}
    (P : Picked σ s0 c lev C X.P.num X.pp l0 l1 U W y X.ps) (hv : C.v = X.v) (hp : C.p = X.p) (x : Ext s0 t) (htk : t tk = some (.list ((U ++ W).map fun p => .int p.2.n)))
    {q14 q15 q22 q23 q24 q26 q29 q30 q31 q32 q33 q34 q35 q36 q37 : Option SV} {K : KF} (hK : ∀ l s, TP k (turn + 1) l s → K .next l s) :
    wpB (GG w H0) (d + 10) (SL.drop 9 tb) K (LC k X ak q14 q15 [some (.int turn), q22, q23, q24, some (.int lev), q26, some (.ref c), some (.ref tk), q29, q30, q31, q32, q33, q34, q35, q36, q37]) t := by
  obtain ⟨hU, hW, nd⟩ := K'.nd O.vl O.inv
  have hT : ∀ p ∈ U ++ W, p.2 ∈ X.ts := fun p m => (List.mem_append.mp m).elim (fun m => (hU p m).1) fun m => (hW p m).1
  obtain ⟨lb, lt, lv⟩ := L.later O (P.b.nx x) (x _ _ P.p)
  have z6 : (U ++ W).length ≤ 6 := by
    have := (nd.length_le_of_subset (l₂ := X.ts) (List.forall_mem_map.mpr hT))
    rw [List.length_map] at this
    exact Nat.le_trans this O.inv.len
  have rl6 : ∀ p ∈ U ++ W, p.2.rows.length ≤ 6 := fun p m => (O.inv.ok _ (hT p m)).len
  have z36 := Nat.le_trans (len_flat rl6) (Nat.mul_le_mul_left 6 z6)
  refine new_w fun ra s1 hra era x1 => itl (x1 _ _ htk) ?_
  refine for1 (f := fun p : AT => SV.int p.2.n) (fun rest l' h' => ∀ Z : Loc → SH → Prop, (∀ dn rr q14 s, U ++ W = dn ++ rest → Ext t s → s rr = some (.list ((dn.flatMap fun p => p.2.rows).map Row.sv)) → Z (LC k X ak q14 q15 [some (.int turn), q22, q23, q24, some (.int lev), q26, some (.ref c), some (.ref tk), some (.ref rr), q30, q31, q32, q33, q34, q35, q36, q37]) s) → Z l' h')
    (fun i => ?_) (fun l' h' i => ?_) (fun p rest l' h' R k' i => ?_) fun Z z => z [] ra q14 s1 rfl x1 era
  · apply i; intro _ _ _ s _ x _; exact x _ _ htk
  rotate_left
  · apply i; intro dn rr q14 s e xs er
    have m : p ∈ U ++ W := by rw [e]; exact List.mem_append_right _ List.mem_cons_self
    have lt := lt.ext xs
    have mt := hT p m
    have z : (dn.flatMap fun p => p.2.rows).length ≤ 36 := by
      rw [e, List.flatMap_append, List.length_append] at z36
      exact Nat.le_trans (Nat.le_add_right _ _) z36
    have z2 := rl6 p m
    refine lt.row mt (cat er (lt.r _ mt) (by rw [List.length_map, List.length_map]; omega) fun r2 s2 _ x2 e2 => k' _ _ fun Z z => z (dn ++ [p]) r2 _ s2 (by rw [List.append_assoc]; exact e) (xs.trans x2) ?_)
    rw [e2, List.flatMap_append, List.flatMap_singleton, List.map_append]
  · apply i; intro dn rr q14 s e xs er
    rw [List.append_nil] at e
    rw [← e] at er
    have fin : ∀ r ∈ (U ++ W).flatMap (fun p => p.2.rows), ∃ p ∈ U ++ W, r ∈ p.2.rows := fun r m => List.mem_flatMap.mp m
    refine k_sort er (fun r m => by obtain ⟨p, mp, mr⟩ := fin r m; exact (O.inv.ok _ (hT p mp)).rows r mr) (fun a ma b mb e => by obtain ⟨p, mp, mr⟩ := fin a ma; obtain ⟨q, mq, mr'⟩ := fin b mb; exact (O.inv.inj _ (hT p mp) _ (hT q mq) a mr b mr' e).2) ?_ (Nat.lt_of_le_of_lt z36 (by decide)) fun rl R s2 hrl x2 erl pR sR => ?_
    · refine List.pairwise_flatMap.mpr ⟨fun p m => (O.inv.ok _ (hT p m)).up.imp fun q h => by rw [h] at q; exact Nat.lt_irrefl _ q, (List.pairwise_map.mp nd).imp_of_mem fun {a b} ma mb ne x mx y my h => ne ?_⟩
      rw [← h] at my
      exact (O.inv.inj _ (hT a ma) _ (hT b mb) x mx x my rfl).1
    have T := Tk.of O.vl O.inv hl K' (R := R) (fun r => by
      rw [pR.mem_iff, List.mem_flatMap, ← List.map_append]
      exact ⟨fun ⟨p, m, h⟩ => ⟨p.2, List.mem_map.mpr ⟨p, m, rfl⟩, h⟩, fun ⟨t, m, h⟩ => by obtain ⟨p, mp, e⟩ := List.mem_map.mp m; exact ⟨p, mp, e ▸ h⟩⟩) sR (by
      rw [← List.map_append, List.map_map, show sumZ R = sumZ ((U ++ W).flatMap fun p => p.2.rows) from (pR.map Row.z).sum_nat]; exact sum_flat (U ++ W))
    refine new_w fun od s3 hod eod x3 => new_w fun sd s4 hsd esd x4 => ?_
    have x13 := xs.trans x2
    have fod := x13.none hod
    have fsd := x13.none (x3.none hsd)
    have os := ne_of eod hsd
    have x14 := (x13.trans x3).trans x4
    refine lt.itw x14 fun chk hk => ?_
    refine for1 (f := fun t : Tab => SV.int t.n) (fun rest l' h' => ∀ Z : Loc → SH → Prop, (∀ dn q14 s, X.ts = dn ++ rest → Ext t s → LT s od sd (oth dn (U.map (·.2) ++ W.map (·.2))) → s rl = some (.list (R.map Row.sv)) → Z (LC k X ak q14 q15 [some (.int turn), q22, q23, q24, some (.int lev), q26, some (.ref c), some (.ref tk), some (.ref rl), some (.ref od), some (.ref sd), q32, q33, q34, q35, q36, q37]) s) → Z l' h')
      (fun i => ?_) (fun l' h' i => ?_) (fun p rest l' h' R' k' i => ?_) fun Z z => z [] _ s4 rfl x14 ⟨⟨0, x4 _ _ eod⟩, ⟨0, esd⟩, fun _ h => absurd h List.not_mem_nil, fun _ h => absurd h List.not_mem_nil, List.nodup_nil, Nat.zero_le _⟩ (x4 _ _ (x3 _ _ erl))
    · apply i; intro _ _ s _ x _ _; exact hk s x
    · apply i; intro dn q14 s e xt hO hr
      rw [List.append_nil] at e
      rw [← e] at hO
      exact seg15 B L O T hN hm yok P hv hp (x.trans xt) hO os (x.none fod) (x.none fsd) hr (x.none (xs.none hrl)) (by rw [pR.length_eq]; exact Nat.le_trans z36 (by decide)) hK
    · apply i; intro dn q14 s e xt hO hr
      have m : p ∈ X.ts := by rw [e]; exact List.mem_append_right _ List.mem_cons_self
      have e' : X.ts = (dn ++ [p]) ++ rest := by rw [List.append_assoc]; exact e
      have hO' := @oth_snoc dn (U.map (·.2) ++ W.map (·.2)) p
      have lts := lt.ext xt
      refine nin_l (ns := (U.map (·.2) ++ W.map (·.2)).map fun x => (x.n : Int)) (by rw [xt _ _ htk, ← List.map_append, List.map_map, List.map_map]; rfl) ?_
      cases hc : ((U.map (·.2) ++ W.map (·.2)).map fun x => (x.n : Int)).contains p.n
      · rw [hc] at hO'
        have new : ∀ z ∈ oth dn (U.map (·.2) ++ W.map (·.2)), z.n ≠ p.n := fun z hz q => by
          have nd := O.inv.nd
          rw [e, List.map_append, List.map_cons] at nd
          exact (List.nodup_append.mp nd).2.2 _ (List.mem_map.mpr ⟨z, (List.mem_filter.mp hz).1, rfl⟩) _ List.mem_cons_self q
        have zO : (oth dn (U.map (·.2) ++ W.map (·.2))).length < 6 := by
          have h1 : (oth dn (U.map (·.2) ++ W.map (·.2))).length ≤ dn.length := List.length_filter_le _ _
          have h2 := O.inv.len
          rw [e, List.length_append, List.length_cons] at h2
          omega
        have zz := Nat.le_trans (Nat.le_of_lt zO) (show 6 ≤ 1000 by decide)
        obtain ⟨ep, ed⟩ := hO.d
        obtain ⟨ep2, ew⟩ := hO.w
        refine lts.row m (put_d ed new zz fun s2 e2 b2 => ?_)
        have xt2 : Ext t s2 := fun a o h => b2 a o (ne_of h fod) (xt a o h)
        have ew := b2 _ _ os.symm ew
        refine (lt.ext xt2).lev m (put_w ew new zz fun s3 e3 b3 => ?_)
        have kp := (b2.kp ed : Kp [1] s s2).trans (b3.kp ew : Kp [1] s2 s3)
        refine k' _ _ fun Z z => z (dn ++ [p]) _ s3 e' (fun a o h => b3 a o (ne_of h fsd) (xt2 a o h)) ?_ (kp _ _ hr rfl)
        rw [hO']
        exact hO.grow (e2.imp fun _ e => b3 _ _ os e) e3 (fun t m => (kp _ _ (hO.r t m) rfl).trans (hO.r t m).symm) (kp _ _ (lts.r p m) rfl) (O.inv.ok p m) new zO
      · rw [hc, if_pos rfl, List.append_nil] at hO'
        exact k' _ _ fun Z z => z (dn ++ [p]) _ s e' xt (by rw [hO']; exact hO) hr
end
end Mine
namespace Mine
theorem bf {b : Bool} {A B : Prop} (e : b = false) (q : B) : @ite Prop (b = true) (instDecidableEqBool _ _) A B := in_ (by rw [e]; exact Bool.false_ne_true) q
noncomputable def EP (k : LK) (l : Loc) (s : SH) : Prop := ∀ Z : Loc → SH → Prop, (∀ X ak q14 q15 q21 q22 q23 q24 q25 q26 q27 q28 q29 q30 q31 q32 q33 q34 q35 q36 q37 s, LS s X → X.Ok → Z (LC k X ak q14 q15 [q21, q22, q23, q24, q25, q26, q27, q28, q29, q30, q31, q32, q33, q34, q35, q36, q37]) s) → Z l s
theorem sum_filter {f : Tab → Nat} {p : Tab → Bool} (l : List Tab) : ((l.filter p).map f).sum ≤ (l.map f).sum := by
  induction l with
  | nil => exact Nat.le_refl _
  | cons x l ih =>
    rw [List.filter_cons, List.map_cons, List.sum_cons]
    split
    · rw [List.map_cons, List.sum_cons]; exact Nat.add_le_add_left ih _
    · exact Nat.le_trans ih (Nat.le_add_left _ _)
theorem top_small {count last : Nat} {ts : List Tab} {nw : Nat → Option Row} (I : Inv count last ts nw) (i : Nat) : topAt ts i < 2 ^ 64 := by
  unfold topAt
  split
  · exact Nat.lt_of_le_of_lt (Nat.le_trans (List.length_filter_le _ _) I.len) (by decide)
  · exact Nat.lt_of_le_of_lt (sum_filter ts) (Nat.lt_trans I.sz (by decide))
theorem top_pos {ts : List Tab} {i : Nat} (h : 0 < topAt ts i) : ∃ t ∈ ts, t.lev = i := by
  have : onL ts i ≠ [] := fun e => by
    unfold topAt at h
    split at h
    · rename_i c; rw [c] at e; rw [e] at h; exact Nat.lt_irrefl 0 h
    · rw [e] at h; exact Nat.lt_irrefl 0 h
  obtain ⟨t, m⟩ := List.exists_mem_of_ne_nil _ this
  exact ⟨t, onL_mem.mp m⟩
theorem LS.score {σ s : SH} {X : LX} (L : LS σ X) (b : Bar X.v σ s) (v : IsVer s X.v X.V) : LS s X := by
  obtain ⟨_, _, _, e, _⟩ := L.ver
  have k : Kp [466] σ s := b.kp e
  exact ⟨⟨L.b.opt.kp k, k _ _ L.b.bd rfl, L.b.nd.imp fun _ g => k _ _ g rfl, L.b.pk.kp k, k _ _ L.b.pp rfl⟩, ⟨L.T.d.imp fun _ g => k _ _ g rfl, L.T.w.imp fun _ g => k _ _ g rfl, fun t m => k _ _ (L.T.r t m) rfl, L.T.ok, L.T.nd, L.T.z⟩, v⟩
section
variable {w : Wd} {H0 : Heap} (B : Base w H0) {d : Nat} {σ : SH} {Q : QV}
include B
theorem seg1 {k : LK} {X : LX} (L : LS σ X) (O : X.Ok) {turn : Nat} {ak : Addr} (hN : ∀ t ∈ X.ts, t.n < 30 + turn) (hm : wsum X.P.num X.ts + turn ≤ k.steps)
    {q14 q15 q22 q23 q24 q25 q26 q27 q28 q29 q30 q31 q32 q33 q34 q35 q36 q37 : Option SV} {K : KF} (hK : ∀ l s, TP k (turn + 1) l s → K .next l s) (hB : ∀ l s, EP k l s → K .brk l s) :
    wpB (GG w H0) (d + 10) (SL.drop 1 tb) K (LC k X ak q14 q15 [some (.int turn), q22, q23, q24, q25, q26, q27, q28, q29, q30, q31, q32, q33, q34, q35, q36, q37]) σ := by
  have n2 := O.ho.n2
  have n12 := O.ho.num
  have ts := top_small O.inv
  obtain ⟨b, hb⟩ := Best.ex (top := topAt X.ts) O.ho.bot (X.P.num - 2)
  rw [show X.P.num - 2 + 1 = X.P.num - 1 by omega] at hb
  have hb1 := hb.1
  refine k_fullest B L.T O.ho L.b.bd ts hb fun s1 x1 => ?_
  have L1 := L.ext x1
  refine k_score B L1.ver L1.b.opt O.ho O.vl.len.symm (by rw [O.vl.top O.inv]; exact ts) fun b' s2 dd f hb' v2 e2 f37 f38 bv => ?_
  rw [O.vl.top O.inv] at hb' f37
  obtain rfl := hb'.uniq hb
  rw [O.vl.top O.inv]
  have L2 := L1.score bv v2
  refine ⟨_, int_same [(topAt X.ts b' : Int), (botV X.P b' : Int)], attr_inst e2 f38 rfl rfl ?_⟩
  refine in_ (c := ((b' : Int) != (b' : Int)) = true) (by simp) ?_
  refine itl L2.b.pp fun bp hbp => cmpA SV.byt hbp (by rw [O.lps]; omega) (fun _ x => x _ _ L2.b.pp) (fun _ _ _ q => q) (fun p m s x K hK => hK s (Ext.refl s)) fun s3 x3 ebp => ?_
  have L3 := L2.ext x3
  refine me (L3.b.pk.m 20 (x := 18) (f := .ref 645) (by kernel_rfl)) ?_
  by_cases cmp : topAt X.ts b' < botV X.P b'
  · refine k_pick_none B L3.b.pk (x3 _ _ e2) f37 (Int.ofNat_lt.mpr cmp) ?_
    refine bf (b := (true != decide ((topAt X.ts b' : Int) < (botV X.P b' : Int)))) (by rw [decide_eq_true (Int.ofNat_lt.mpr cmp)]; rfl) ?_
    exact hB _ _ fun Z z => z X ak _ _ _ _ _ _ _ _ _ _ _ _ _ _ _ _ _ _ _ s3 L3 O
  · have cmp := Nat.not_lt.mp cmp
    obtain ⟨t0, mt0, tl0⟩ := top_pos (Nat.lt_of_lt_of_le (O.ho.bot b') cmp)
    have hl : b' + 1 < X.P.num := by omega
    obtain ⟨p0, ep0, et0⟩ := X.V.lvl (i := b') (by rw [O.vl.len]; omega)
    obtain ⟨p1, ep1, et1⟩ := X.V.lvl (i := b' + 1) (by rw [O.vl.len]; exact hl)
    have z0 := O.zl (List.mem_of_getElem? ep0)
    have z1 := O.zl (List.mem_of_getElem? ep1)
    have ne0 : p0.2 ≠ [] := fun e => by
      obtain ⟨q, mq, _⟩ := O.vl.get mt0 (O.inv.lv t0 mt0)
      rw [tl0, et0, e] at mq; exact List.not_mem_nil mq
    refine k_pick B L3.b.pk L3.b.opt O.ho L3.ver O.vl.len.symm (O.srt _ _ ep0) ep0 ep1 (by omega) ne0 L3.b.pp (by rw [O.lps]; omega) (by rw [O.lps]; omega) O.pso (x3 _ _ e2) f37 f38 (Int.ofNat_le.mpr cmp) fun c C l0 l1 U W y s4 P K' hv hp => ?_
    refine bf (b := (false != decide ((topAt X.ts b' : Int) < (botV X.P b' : Int)))) (by rw [decide_eq_false fun z => Nat.not_lt.mpr cmp (Int.ofNat_lt.mp z)]; rfl) ?_
    rw [← et0, ← et1] at K'
    obtain ⟨hU, hW, nd⟩ := K'.nd O.vl O.inv
    obtain ⟨lb, lt, lv⟩ := L3.later O P.b P.p
    have okU : ∀ p ∈ U, p.2.Ok := fun p m => O.inv.ok _ (hU p m).1
    have yok := K'.top.ok okU
    have zUW : (U ++ W).length ≤ 6 := by
      have := nd.length_le_of_subset (l₂ := X.ts) (List.forall_mem_map.mpr fun p m => (List.mem_append.mp m).elim (fun m => (hU p m).1) fun m => (hW p m).1)
      rw [List.length_map] at this
      exact Nat.le_trans this O.inv.len
    rw [List.length_append] at zUW
    have nbp : bp ≠ X.pp := (ne_of L2.b.pp hbp).symm
    refine k_taken B P.m.c P.il P.u P.w lt hU hW K'.ne K'.top (fun p m e => ?_) (by omega) (P.b _ _ nbp ebp) P.p (by rw [O.lps]; omega) (by rw [O.lps]; omega) fun tk s5 x5 e5 => ?_
    · obtain ⟨q, mq, eq⟩ := K'.top.1
      rw [eq] at e ⊢
      exact (O.inv.inj _ (hU p m).1 _ (hU q mq).1 _ (okU p m).hiM _ (okU q mq).hiM e).2
    refine (P.m.c.kp (x5.kp [])).lv ?_
    have hst : ¬ (k.steps : Int) ≤ turn := fun z => by
      have h1 := le_sum (f := fun t : Tab => X.P.num - 1 - t.lev) mt0
      rw [tl0] at h1
      unfold wsum at hm
      have := Int.ofNat_le.mp z
      omega
    refine obn (b := ((b' : Int) != (b' : Int))) (by simp) ?_
    refine d0 hst ?_
    exact seg9 B L3 O hl K' hN hm yok P hv hp x5 e5 hK
end
end Mine
namespace Mine
section
variable {w : Wd} {H0 : Heap} (B : Base w H0) {d : Nat} {σ : SH} {Q : QV}
include B
theorem live_end {k : LK} {l : Loc} (h : EP k l σ) (q : ∀ s, Q (.bool true) s) : wpB (GG w H0) (d + 10) (SL.drop 22 b__law_live) (retK Q) l σ := by
  apply h; intro X ak q14 q15 q21 q22 q23 q24 q25 q26 q27 q28 q29 q30 q31 q32 q33 q34 q35 q36 q37 s L O
  have nums := nums_perm O.vl O.inv
  have l6 := O.inv.len
  refine me L.ver.mc (k_check B L.ver (nums.nodup_iff.mpr (by have := nodup_ints O.inv.nd; rw [List.map_map] at this; exact this)) (by rw [nums.length_eq, List.length_map]; omega) O.srt fun s1 x1 => ?_)
  refine f_range1 (by decide) (by decide) fun acc hacc => ?_
  refine cmpA (xs := List.range 6) (fun _ => SV.bool true) hacc (Nat.le_of_ble_eq_true rfl) (fun _ _ => trivial) (fun _ _ _ q => q) (fun u m s2 x2 K hK => (L.ext (x1.trans x2)).tells B O (List.mem_range.mp m) hK) fun s2 x2 e2 => ?_
  exact f_all (bs := (List.range 6).map fun _ => true) (by rw [e2, List.map_map]; rfl) (q s2)
theorem live21 {k : LK} {l : Loc} (h2 : 2 ≤ k.most) (h6 : k.most ≤ 6) (h : TP k 0 l σ) (q : ∀ s, Q (.bool true) s) : wpB (GG w H0) (d + 10) (SL.drop 21 b__law_live) (retK Q) l σ := by
  apply h; intro X ak us q14 q15 q21 q22 q23 q24 q25 q26 q27 q28 q29 q30 q31 q32 q33 q34 q35 q36 q37 s L O eak hus zus hN hm
  refine ⟨by unfold small; decide, f_range1 (by omega) (by omega) ?_⟩
  refine forR (fun j l' h' => TP k j l' h') (fun i => trivial) (fun l' h' i => ?_) (fun j l' h' R hj kk i => ?_) fun Z z => z X ak us q14 q15 q21 q22 q23 q24 q25 q26 q27 q28 q29 q30 q31 q32 q33 q34 q35 q36 q37 s L O eak hus zus hN hm
  · refine live_end B (fun Z z => i Z fun X ak us q14 q15 q21 q22 q23 q24 q25 q26 q27 q28 q29 q30 q31 q32 q33 q34 q35 q36 q37 s L O _ _ _ _ _ => z X ak _ _ _ _ _ _ _ _ _ _ _ _ _ _ _ _ _ _ _ s L O) q
  · apply i; intro X ak us q14 q15 q21 q22 q23 q24 q25 q26 q27 q28 q29 q30 q31 q32 q33 q34 q35 q36 q37 s L O eak hus zus hN hm
    refine itl eak ?_
    refine for1 (f := fun u : Nat => SV.int u) (fun rest l' h' => ∀ Z : Loc → SH → Prop, (∀ q22 s', Ext s s' → (∀ u ∈ rest, u < 6) → Z (LC k X ak q14 q15 [some (.int j), q22, q23, q24, q25, q26, q27, q28, q29, q30, q31, q32, q33, q34, q35, q36, q37]) s') → Z l' h')
      (fun i => ?_) (fun l' h' i => ?_) (fun u rest l' h' R' k' i => ?_) fun Z z => z q22 s (Ext.refl s) hus
    · apply i; intro _ s' x _; exact x _ _ eak
    · apply i; intro q22 s' x _
      exact seg1 B (L.ext x) O hN hm (fun l s h => kk l s h) fun l s h => live_end B h q
    · apply i; intro q22 s' x m
      exact (L.ext x).tells B O (m u List.mem_cons_self) fun s2 x2 => k' _ _ fun Z z => z _ s2 (x.trans x2) fun v hv => m v (List.mem_cons_of_mem _ hv)
end
end Mine
namespace Mine
noncomputable def ver0 (fl : Addr) (ls : List Addr) : Ver := ⟨fl, ls.mapIdx fun i x => (x, [])⟩
theorem ver0_ts (fl : Addr) (ls : List Addr) (i : Nat) : (ver0 fl ls).ts i = [] := by
  unfold Ver.ts ver0
  rw [List.getElem?_mapIdx]
  cases ls[i]? <;> rfl
section
variable {w : Wd} {H0 : Heap} (B : Base w H0) {d : Nat} {σ t : SH} {Q : QV}
include B
theorem seg16 {nm ed bd td wd p nd dl al cl : Addr} {P : Opt} {last : Nat} {a fac most : Int} {bN : Nat} {ts : List Tab} {A : List AT} {m : List (Int × SV)} (ho : OkO P) (h2 : 2 ≤ most) (h6 : most ≤ 6) (l12 : last ≤ 12) (opt : IsOpt σ p P) (hbd : σ bd = some (.list (rngV P.num (maxOct P)))) (T : LT σ td wd ts) (I : Inv P.num last ts (newest (ts.flatMap (·.rows)))) (hN : ∀ t ∈ ts, t.n < 30)
    (hnd : ∃ ep, σ nd = some (.dict m ep)) (look : ∀ u : Nat, mlook m u = (newest (ts.flatMap (·.rows)) u).map Row.sv) (hE : EditAt σ ed dl al cl) (hdl : σ dl = some (.list [])) (hal : σ al = some (.list (A.map addSV))) (eA : A.map (·.2) = ts) (hA : ∀ x ∈ A, IsT σ x.1 x.2) (q : ∀ s, Q (.bool true) s) {q14 q15 : Option SV} :
    wpB (GG w H0) (d + 10) (SL.drop 16 b__law_live) (retK Q) [some (.ref nm), some (.int a), some (.int bN), some (.ref p), some (.int P.num), some (.int P.trig), some (.int fac), some (.ref bd), some (.int most), some (.ref td), some (.ref wd), some (.int last), some (.ref nd), some (.ref ed), q14, q15, none, none, none, none, none, none, none, none, none, none, none, none, none, none, none, none, none, none, none, none, none, none] σ := by
  have n12 := ho.num
  refine k_new_io B fun o s1 _ x1 io => k_new_ver B n12 io fun v0 fl ls s2 x2 ll vf cells _ _ => ?_
  have hV : IsVer s2 v0 (ver0 fl ls) := vf.ver cells (fun i _ p m => absurd m List.not_mem_nil) fun _ _ => Nat.zero_le _
  have l0 : (ver0 fl ls).lv.length = P.num := (List.length_mapIdx).trans ll
  have F0 : VL (ver0 fl ls) [] P.num := ⟨l0, fun i _ => by rw [ver0_ts]; exact .nil, fun i => by rw [ver0_ts]; exact List.Pairwise.nil⟩
  have hnew : ∀ i, i < P.num → ((newL (ver0 fl ls) [] A i).map (·.2)).Perm (onL ts i) := fun i _ => by
    rw [newL, ver0_ts, ← eA, onL, List.filter_map]; exact .refl _
  have nA : (A.map fun x => x.2.n).Nodup := by
    have := I.nd
    rw [← eA, List.map_map] at this; exact this
  have x12 := x1.trans x2
  have zA : A.length ≤ 6 := by rw [← List.length_map (f := fun x : AT => x.2), eA]; exact I.len
  refine k_made B hV (hE.ext x12) (D := []) (x12 _ _ hdl) (x12 _ _ hal) (fun x m => (hA x m).ext x12) (fits_of F0 hnew I (fun x m => by rw [← eA]; exact List.mem_map.mpr ⟨x, m, rfl⟩) nA (fun _ h => absurd h List.not_mem_nil) (fun _ _ _ h => absurd h List.not_mem_nil) (fun _ h => absurd h List.not_mem_nil) zA (Nat.zero_le _)) fun v V s3 x3 ver hl hG => ?_
  have F := F0.new hnew hl hG
  refine k_new_io B fun o2 s4 _ x4 io2 => k_new_pick B io2 fun pk s5 _ x5 ipk => new_w fun z s6 _ ez x6 => ?_
  refine ⟨rfl, _, ez, Int.natCast_nonneg _, by omega, new_w fun pp s7 _ epp x7 => ?_⟩
  have x37 := ((x4.trans x5).trans x6).trans x7
  have x07 := (x12.trans x3).trans x37
  have T7 := T.ext x07
  refine T7.itw (Ext.refl s7) fun chk hk acc hacc => ?_
  refine cmpA (fun t : Tab => SV.int ((P.num : Int) - 1 - t.lev)) hacc (Nat.le_trans T.z (by decide)) hk (fun _ _ _ q => q) (fun t m s x K hK => (T7.ext x).lev m (hK s (Ext.refl s))) fun s8 x8 e8 => ?_
  refine f_sum (ns := (ts.map fun t => P.num - 1 - t.lev).map fun (n : Nat) => (n : Int)) ?_ ?_
  · rw [e8, List.map_map, List.map_map]
    refine congrArg (fun l => some (SO.list l)) (List.map_congr_left fun t m => ?_)
    have := I.lv t m
    show SV.int _ = SV.int ((P.num - 1 - t.lev : Nat) : Int)
    congr 1; omega
  rw [sum_int]
  refine new_w fun ak s9 _ e9 x9 => ?_
  have x09 := (x07.trans x8).trans x9
  have x79 := x8.trans x9
  rw [Int.toNat_natCast] at epp
  have V9 := (ver.ext x37).ext x79
  have O : LX.Ok ⟨p, bd, td, wd, nd, v, pk, pp, P, last, ts, newest (ts.flatMap (·.rows)), m, V, List.replicate P.num #[]⟩ := ⟨ho, F, I, List.length_replicate, fun b m => .inl (List.mem_replicate.mp m).2, l12, look⟩
  have L : LS s9 ⟨p, bd, td, wd, nd, v, pk, pp, P, last, ts, newest (ts.flatMap (·.rows)), m, V, List.replicate P.num #[]⟩ := ⟨⟨opt.ext x09, x09 _ _ hbd, hnd.imp fun _ e => x09 _ _ e, ipk.ext ((x6.trans x7).trans x79), by rw [x79 _ _ epp, List.map_replicate]⟩, T.ext x09, V9⟩
  exact live21 B (k := ⟨nm, ed, a, bN, fac, most, wsum P.num ts⟩) h2 h6 (fun Z z => z _ ak [bN % 6] q14 q15 _ _ _ _ _ _ _ _ _ _ _ _ _ _ _ _ _ s9 L O e9 (fun u m => by rw [List.mem_singleton.mp m]; exact Nat.mod_lt _ (by decide)) (Nat.le_of_ble_eq_true rfl) hN (Nat.le_refl _)) q
end
end Mine
namespace Mine
theorem len_flat' {T : List Tab} (h : ∀ p ∈ T, p.rows.length ≤ 6) : (T.flatMap fun p => p.rows).length ≤ 6 * T.length := by
  induction T with
  | nil => exact Nat.le_refl _
  | cons x T ih =>
    rw [List.flatMap_cons, List.length_append, List.length_cons, Nat.mul_succ, Nat.add_comm]
    exact Nat.add_le_add (ih fun p m => h p (List.mem_cons_of_mem _ m)) (h x List.mem_cons_self)
theorem look_put {m : List (Int × SV)} {f : Nat → Option Row} (h : ∀ u : Nat, mlook m u = (f u).map Row.sv) (r : Row) (u : Nat) : mlook (mput m r.u r.sv) u = (nput f r u).map Row.sv := by
  rw [mlook_mput, nput]
  by_cases c : r.u = u
  · rw [if_pos c, if_pos (Int.ofNat_inj.mpr c)]; rfl
  · rw [if_neg c, if_neg (mt Int.ofNat_inj.mp c)]; exact h u
section
variable {w : Wd} {H0 : Heap} (B : Base w H0) {d : Nat} {σ t : SH} {Q : QV}
include B
theorem seg13 {nm bd td wd p : Addr} {P : Opt} {last : Nat} {a fac most : Int} {bN : Nat} {ts : List Tab} (ho : OkO P) (h2 : 2 ≤ most) (h6 : most ≤ 6) (l12 : last ≤ 12) (opt : IsOpt σ p P) (hbd : σ bd = some (.list (rngV P.num (maxOct P)))) (T : LT σ td wd ts) (I : LI P.num ts (last + 1)) (q : ∀ s, Q (.bool true) s) :
    wpB (GG w H0) (d + 10) (SL.drop 13 b__law_live) (retK Q) [some (.ref nm), some (.int a), some (.int bN), some (.ref p), some (.int P.num), some (.int P.trig), some (.int fac), some (.ref bd), some (.int most), some (.ref td), some (.ref wd), some (.int last), none, none, none, none, none, none, none, none, none, none, none, none, none, none, none, none, none, none, none, none, none, none, none, none, none, none] σ := by
  have II := I.inv T.z
  have hN : ∀ t ∈ ts, t.n < 30 := fun t m => by have := I.n t m; have := T.z; omega
  have r6 : ∀ t ∈ ts, t.rows.length ≤ 6 := fun t m => (T.ok t m).len
  have z36 := Nat.le_trans (len_flat' r6) (Nat.mul_le_mul_left 6 T.z)
  refine new_w fun nd s1 hnd end' x1 => k_new_edit B fun e dl al cl s2 E => ?_
  have fnd := hnd
  have fal := x1.none E.fa
  have nal := ne_of end' E.fa
  have x2 := x1.trans E.x
  refine T.itt x2 fun chk hk => ?_
  refine for1 (f := fun t : Tab => SV.int t.n) (fun rest l' h' => ∀ Z : Loc → SH → Prop, (∀ (dn : List Tab) (A : List AT) (m : List (Int × SV)) (ep : Nat) (q14 q15 : Option SV) (s : SH), ts = dn ++ rest → Ext σ s → s nd = some (.dict m ep) → (∀ u : Nat, mlook m u = (newest (dn.flatMap (·.rows)) u).map Row.sv) → m.length ≤ (dn.flatMap (·.rows)).length → EditAt s e dl al cl → s dl = some (.list []) → s al = some (.list (A.map addSV)) → A.map (·.2) = dn → (∀ x ∈ A, IsT s x.1 x.2) →
      Z [some (SV.ref nm), some (SV.int a), some (SV.int bN), some (SV.ref p), some (SV.int P.num), some (SV.int P.trig), some (SV.int fac), some (SV.ref bd), some (SV.int most), some (SV.ref td), some (SV.ref wd), some (SV.int last), some (SV.ref nd), some (SV.ref e), q14, q15, none, none, none, none, none, none, none, none, none, none, none, none, none, none, none, none, none, none, none, none, none, none] s) → Z l' h')
    (fun i => ?_) (fun l' h' i => ?_) (fun t rest l' h' R k i => ?_) fun Z z => z [] [] [] 0 none none s2 rfl x2 (E.x _ _ end') (fun _ => rfl) (Nat.le_refl _) E.at' E.d E.a rfl fun _ h => absurd h List.not_mem_nil
  · apply i; intro _ _ _ _ _ _ s _ x _ _ _ _ _ _ _ _; exact hk s x
  · apply i; intro dn A m ep q14 q15 s e1 x en lk lm hE hdl hal eA hA
    rw [List.append_nil] at e1
    rw [← e1] at lk eA
    exact seg16 B ho h2 h6 l12 (opt.ext x) (x _ _ hbd) (T.ext x) II hN ⟨ep, en⟩ lk hE hdl hal eA hA q
  · apply i; intro dn A m ep q14 q15 s e1 x en lk lm hE hdl hal eA hA
    have mt : t ∈ ts := by rw [e1]; exact List.mem_append_right _ List.mem_cons_self
    have e' : ts = (dn ++ [t]) ++ rest := by rw [List.append_assoc]; exact e1
    have Tx := T.ext x
    have zf : (dn.flatMap (·.rows)).length + t.rows.length ≤ 36 := by
      rw [e', List.flatMap_append, List.length_append, List.flatMap_append, List.length_append, List.flatMap_singleton] at z36
      exact Nat.le_trans (Nat.le_add_right _ _) z36
    refine Tx.row mt (itl (Tx.r t mt) ?_)
    refine for1 (f := Row.sv) (fun rest l' h' => ∀ Z : Loc → SH → Prop, (∀ (rd : List Row) (m : List (Int × SV)) (ep : Nat) (q15 : Option SV) (s : SH), t.rows = rd ++ rest → Ext σ s → s nd = some (.dict m ep) → (∀ u : Nat, mlook m u = (newest (dn.flatMap (·.rows) ++ rd) u).map Row.sv) → m.length ≤ (dn.flatMap (·.rows) ++ rd).length → EditAt s e dl al cl → s dl = some (.list []) → s al = some (.list (A.map addSV)) → (∀ x ∈ A, IsT s x.1 x.2) →
        Z [some (SV.ref nm), some (SV.int a), some (SV.int bN), some (SV.ref p), some (SV.int P.num), some (SV.int P.trig), some (SV.int fac), some (SV.ref bd), some (SV.int most), some (SV.ref td), some (SV.ref wd), some (SV.int last), some (SV.ref nd), some (SV.ref e), some (SV.int t.n), q15, none, none, none, none, none, none, none, none, none, none, none, none, none, none, none, none, none, none, none, none, none, none] s) → Z l' h')
      (fun i => ?_) (fun l' h' i => ?_) (fun r rest l' h' R2 k2 i => ?_) fun Z z => z [] m ep _ s rfl x en (by rw [List.append_nil]; exact lk) (by rw [List.append_nil]; exact lm) hE hdl hal hA
    · apply i; intro _ _ _ _ s _ x _ _ _ _ _ _ _; exact x _ _ (T.r t mt)
    · apply i; intro rd m ep q15 s er x en lk lm hE hdl hal hA
      rw [List.append_nil] at er
      rw [← er] at lk lm
      have Tx := T.ext x
      have zA : (A.map addSV).length ≤ 1000 := by
        have := T.z
        rw [e1, List.length_append, ← eA, List.length_map] at this
        rw [List.length_map]; omega
      refine hE.add (me (m_app hal) (Tx.lev mt (Tx.row mt (k_law_meta B (T.ok t mt) (Tx.r t mt) fun c s3 _ x3 ic => app (x3 _ _ hal) zA fun s4 e4 b4 => ?_))))
      have b4 : Bar al s3 s4 := b4
      have k4 : Kp [0] s3 s4 := b4.kp (x3 _ _ hal)
      have fm : (dn ++ [t]).flatMap (·.rows) = dn.flatMap (·.rows) ++ t.rows := by rw [List.flatMap_append, List.flatMap_singleton]
      exact k _ _ fun Z z => z (dn ++ [t]) (A ++ [(c, t)]) m ep _ _ s4 e' (fun a o h => b4 a o (ne_of h fal) (x3 a o (x a o h))) (k4 _ _ (x3 _ _ en) rfl) (by rw [fm]; exact lk) (by rw [fm]; exact lm) ((hE.ext x3).kp k4) (b4 _ _ E.da (x3 _ _ hdl)) (by rw [e4, List.map_append]; rfl) (by rw [List.map_append, eA]; rfl) (all_snoc (fun y m => ((hA y m).ext x3).kp k4) (ic.kp k4))
    · apply i; intro rd m ep q15 s er x en lk lm hE hdl hal hA
      rw [List.length_append] at lm
      have zr : rd.length ≤ t.rows.length := by rw [er, List.length_append]; exact Nat.le_add_right _ _
      refine set_d en (by omega) fun ep2 s2 e2 b2 => ?_
      have k2' : Kp [1] s s2 := b2.kp en
      have ml := mput_len m r.u r.sv
      exact k2 _ _ fun Z z => z (rd ++ [r]) _ ep2 _ s2 (by rw [List.append_assoc]; exact er) (fun a o h => b2 a o (ne_of h fnd) (x a o h)) e2 (fun u => by rw [← List.append_assoc, newest_snoc]; exact look_put lk r u) (by rw [List.length_append, List.length_append, List.length_singleton]; omega) (hE.kp k2') (k2' _ _ hdl rfl) (k2' _ _ hal rfl) fun y m => (hA y m).kp k2'
end
end Mine
namespace Mine
theorem rng_same (N : Nat) (f : Nat → Nat) : tcmp .NotEq (rngV N f) (rngV N f) = some false := by
  have := int_same ((List.range N).map fun i => (f i : Int))
  rw [List.map_map] at this; exact this
theorem rng_take {N k : Nat} (h : k ≤ N) (f : Nat → Nat) : (rngV N f).take k = rngV k f := by
  rw [rngV, ← List.map_take, List.take_range, Nat.min_eq_left h]
theorem maxOct_next (p : Opt) {j : Nat} (h : 2 ≤ j) : maxOct p (j - 1) * p.fac = maxOct p j := by
  obtain ⟨i, rfl⟩ : ∃ i, j = i + 2 := ⟨j - 2, (Nat.sub_add_cancel h).symm⟩
  exact Nat.mul_assoc _ _ _
section
variable {w : Wd} {H0 : Heap} (B : Base w H0) {d : Nat} {σ t : SH} {Q : QV}
include B
theorem seg8 {nm bd p : Addr} {P : Opt} {a : Int} {bN : Nat} {ns : List Int} (ho : OkO P) (opt : IsOpt σ p P) (hbd : σ bd = some (.list (rngV 2 (maxOct P)))) (hn : σ nm = some (.list (ns.map .int))) (nb : nm ≠ bd) (h0 : 0 < ns.length) (hz : ns.length ≤ 1000) (hpos : ∀ i, ∃ y : Nat, draw ns i = y) (q : ∀ s, Q (.bool true) s) :
    wpB (GG w H0) (d + 10) (SL.drop 8 b__law_live) (retK Q) [some (.ref nm), some (.int a), some (.int bN), some (.ref p), some (.int P.num), some (.int P.trig), some (.int P.fac), some (.ref bd), none, none, none, none, none, none, none, none, none, none, none, none, none, none, none, none, none, none, none, none, none, none, none, none, none, none, none, none, none, none] σ := by
  have n12 := ho.num
  refine wh1 (fun m l' h' => ∀ Z : Loc → SH → Prop, (∀ (j : Nat) (s : SH), m = 12 - j → 2 ≤ j → j ≤ 12 → Bar bd σ s → s bd = some (.list (rngV j (maxOct P))) → Z [some (SV.ref nm), some (SV.int a), some (SV.int bN), some (SV.ref p), some (SV.int P.num), some (SV.int P.trig), some (SV.int P.fac), some (SV.ref bd), none, none, none, none, none, none, none, none, none, none, none, none, none, none, none, none, none, none, none, none, none, none, none, none, none, none, none, none, none, none] s) → Z l' h')
    (fun m l' h' R k i => ?_) (m := 10) fun Z z => z 2 σ rfl (Nat.le_refl _) (by decide) (fun _ _ _ e => e) hbd
  apply i; intro j s em j2 j12 b e
  refine len_r e (Nat.le_trans j12 (by decide)) ?_
  refine dc (fun c => ?_) fun c => ?_
  · have c : j < 12 := by omega
    refine me (m_app e) (len_r e (Nat.le_trans j12 (by decide)) ?_)
    refine sub_p (l := List.range j) (f := fun i => .int (maxOct P i)) (k := j - 1) e (by rw [List.length_range]; omega) (List.getElem?_range (by omega)) (by omega) ⟨small_n (ho.small _ (by omega)), app e (by rw [List.length_map, List.length_range]; omega) fun s2 e2 b2 => ?_⟩
    refine k (12 - (j + 1)) _ _ (by omega) fun Z z => z (j + 1) s2 rfl (Nat.le_succ_of_le j2) c (b.trans b2) ?_
    rw [e2, rngV_succ, ← maxOct_next P j2]; rfl
  · have c : j = 12 := by omega
    subst c
    have opt := opt.kp (b.kp hbd : Kp [0] σ s)
    have hn := b _ _ nb hn
    refine f_range1 (by decide) (by decide) fun acc hacc => ?_
    refine cmpA (xs := List.range 12) (fun i => SV.int (maxOct P i)) hacc (Nat.le_of_ble_eq_true rfl) (fun _ _ => trivial) (fun _ _ _ q => q) (fun i m s2 x2 K hK => k_max_octets B (opt.ext x2) ho (List.mem_range.mp m) (hK s2 (Ext.refl s2))) fun s3 x3 e3 => ?_
    refine ⟨rfl, _, _, false, e3, x3 _ _ e, .inr (rng_same 12 _), ?_⟩
    refine slt_l (G := GG w H0) (x3 _ _ e) (by omega) (Nat.le_of_ble_eq_true rfl) fun bd2 s4 _ e4 x4 => ?_
    rw [rng_take n12] at e4
    have x := x3.trans x4
    have hn := x _ _ hn
    have opt := opt.ext x
    have fin : ∀ {most : Nat}, 2 ≤ most → most ≤ 6 → wpB (GG w H0) (d + 10) (SL.drop 12 b__law_live) (retK Q) [some (.ref nm), some (.int a), some (.int bN), some (.ref p), some (.int P.num), some (.int P.trig), some (.int P.fac), some (.ref bd2), some (.int most), none, none, none, none, none, none, none, none, none, none, none, none, none, none, none, none, none, none, none, none, none, none, none, none, none, none, none, none, none] s4 := fun {most} h2 h6 =>
      k_lay B hn h0 hz hpos ho e4 h6 fun td wd ts last s5 _ x5 T I _ l12 => seg13 B ho (Int.ofNat_le.mpr h2) (Int.ofNat_le.mpr h6) l12 (opt.ext x5) (x5 _ _ e4) T I q
    refine len_map hn hz ?_
    exact dc (fun _ => fin (most := 6) (by decide) (by decide)) fun _ => fin (most := 4) (by decide) (by decide)
end
end Mine
namespace Mine
section
variable {w : Wd} {H0 : Heap} (B : Base w H0) {d : Nat} {σ t : SH} {Q : QV}
include B
theorem k_live {nm : Addr} {ns : List Int} (hn : σ nm = some (.list (ns.map .int))) (h0 : 0 < ns.length) (hz : ns.length ≤ 1000) (hpos : ∀ x ∈ ns, 0 ≤ x) (q : ∀ s, Q (.bool true) s) : CallF (GG w H0) (d + 11) (.ref 773) [.ref nm] Q σ := by
  have dp : ∀ i, ∃ y : Nat, draw ns i = y := fun i => by
    have lt := Nat.mod_lt i h0
    have : 0 ≤ ns.getD (i % ns.length) 0 := by
      rw [List.getD_eq_getElem?_getD, List.getElem?_eq_getElem lt]; exact hpos _ (List.getElem_mem lt)
    exact ⟨(draw ns i).toNat, by unfold draw; omega⟩
  obtain ⟨aN, ha⟩ := dp 0
  obtain ⟨bN, hb⟩ := dp 1
  refine fnC B (ok__law_live B) rfl (k_draw B (i := 0) hn h0 hz ?_)
  rw [ha]
  refine k_draw B (i := 1) hn h0 hz ?_
  rw [hb]
  refine k_new_opt B fun p s1 _ x1 opt => new_w fun bd s2 hbd ebd x2 => ?_
  have hn1 := x1 _ _ hn
  have nb := ne_of hn1 hbd
  refine bc (eqn (aN % 4) 3) (fun _ => ?_) fun _ => ?_
  · refine k_new_opt B fun p2 s3 _ x3 opt2 => ?_
    obtain ⟨dd, f, e, r⟩ := id opt2
    refine me (mth 2 (x := 58) (f := .ref 302) (by kernel_rfl) e (r.2.2.2.2.2.2.2 1)) (k_tiny B opt2 fun s4 opt4 b4 => new_w fun bd2 s5 hbd2 ebd2 x5 => ?_)
    have kp := b4.kp e
    have hn4 := kp _ _ (x3 _ _ (x2 _ _ hn1)) rfl
    exact seg8 B (P := optT) ⟨.inr rfl⟩ (opt4.ext x5) ebd2 (x5 _ _ hn4) (ne_of hn4 hbd2) h0 hz dp q
  · exact seg8 B (P := optA) ⟨.inl rfl⟩ (opt.ext x2) ebd (x2 _ _ hn1) nb h0 hz dp q
theorem k_law {a : Addr} {vs : List Value} {n : Nat} {ns : List Int} (hH : H0.get? a = some (listObj vs n)) (hv : ∀ H : Heap, VRs H (ns.map .int) vs) (hz : ns.length ≤ 1000) (q : ∀ s, Q (.bool true) s) : CallF (GG w H0) (d + 12) (.ref 778) [.raw (.ref a)] Q σ := by
  have fin : ∀ {t : SH} {nm : Addr} {ms : List Int}, t nm = some (.list (ms.map .int)) → 0 < ms.length → ms.length ≤ 1000 → (∀ x ∈ ms, 0 ≤ x) → wpB (GG w H0) (d + 11) (SL.drop 2 b_law) (retK Q) [some (.raw (.ref a)), some (.ref nm), none, none] t := fun {t nm ms} h1 h2 h3 h4 => by
    refine k_live B h1 h2 h3 h4 fun s => ?_
    exact q s
  refine fnC B (ok_law B) rfl ⟨vs, n, ns, hH, hv, by decide, by decide, by omega, new_w fun b s1 _ eb x1 => ?_⟩
  rw [show (ns.map SV.int).take (Int.toNat 16) = (ns.take 16).map SV.int from List.map_take.symm] at eb
  have z16 : (ns.take 16).length ≤ 16 := by rw [List.length_take]; exact Nat.min_le_left _ _
  refine itl eb fun acc hacc => cmpA (fun x => SV.int (fmd x 999983)) hacc (Nat.le_trans z16 (by decide)) (fun _ x => x _ _ eb) (fun _ _ _ q => q) (fun x m s x' K hK => hK s (Ext.refl s)) fun s2 x2 e2 => ?_
  rw [show (ns.take 16).map (fun x => SV.int (fmd x 999983)) = ((ns.take 16).map fun x => fmd x 999983).map SV.int by rw [List.map_map]; rfl] at e2
  have zm : ((ns.take 16).map fun x => fmd x 999983).length ≤ 1000 := by rw [List.length_map]; exact Nat.le_trans z16 (by decide)
  refine len_map e2 zm ?_
  refine bc (eqz _) (fun c => new_w fun b2 s3 _ e3 _ => fin (ms := [0]) e3 (by decide) (Nat.le_of_ble_eq_true rfl) fun x m => by rw [List.mem_singleton.mp m]; exact Int.le_refl _) fun c => fin e2 (Nat.pos_of_ne_zero c) zm (List.forall_mem_map.mpr fun x _ => ?_)
  rw [fmd_eq]; exact Int.fmod_nonneg_of_pos x (by decide)
end
end Mine
namespace Mine
theorem ints_vrs {vs : List Value} {ns : List Int} (h : IntsAre vs ns) : ∀ H : Heap, VRs H (ns.map .int) vs := by
  induction h with
  | nil => exact fun H => rfl
  | cons n t _ ih => exact fun H => ⟨_, _, rfl, ⟨t, rfl⟩, ih H⟩
theorem ints_len {vs : List Value} {ns : List Int} (h : IntsAre vs ns) : vs.length = ns.length := by
  induction h with
  | nil => rfl
  | cons n t _ ih => simp [ih]
theorem fin {K : Params → Frag} (hk : ∀ w H0, HdOk ⟨w, K⟩ H0) {v : Program} (hv : importsNone v = true) {as : List Addr} {e : ∀ P, as = (K P).map (·.1)} {d : DefRec} (hdn : d.name = Str.ofString "law") {kwd : List (Str × PySem.Expr)} :
    WalkO v [] (XL v []) (kHook K as e).says PySem.Challenge.rw_xm0838_01.row.toRowW d kwd (fun f vs => PySem.call f vs) := by
  intro w s₀ s₁ mg mb G Y fa o pm cd doc dV kV ho hd hcd hD hmg hg args vals as hpre hlay hrd hwl hlo
  have KX := kIn_of Y
  have T := G.T
  have hse := T.seer hv
  rw [hdn] at hmg
  have hfa : (.ref fa : Value) = .ref 778 := Option.some.inj (hmg.symm.trans (mg_of KX T.g (hk w s₁.heap).law))
  cases hfa
  have B : Mine.Base ⟨w, K⟩ s₁.heap := ⟨hk w _, KX, T.nolimit, by obtain ⟨mm, ⟨o, es, ep, e, _⟩, _⟩ := hse.mods; rw [e]; simp, ⟨mg, T.g⟩, ⟨mb, T.b, T.builtins⟩⟩
  clear ho hd hcd hD hmg KX hse Y
  wrow_args hpre hlay hrd hwl hlo
  rename_i ns hs hlay0 hlL hrr hl2 as1 as2 a vs as3 hL ra w1 r0 hI hr hcond hcond'
  have hob : ∃ vs', s₁.heap.get? a = some (Mine.listObj vs' 0) := by
    cases w1 with
    | list e _ => exact ⟨_, e⟩
  obtain ⟨vs', hob⟩ := hob
  obtain ⟨o2, ho2, hc2, n2, hd2⟩ := hL
  rw [hob] at ho2
  cases ho2
  have evs : vs'.toArray = vs.toArray := by cases hd2; rfl
  have evs : vs' = vs := by simpa using evs
  subst evs
  have hlen : ns.length ≤ 63 := by omega
  have C := Mine.k_law B (d := 0) (σ := fun _ => none) (Q := fun r _ => r = .bool true) hob (Mine.ints_vrs hI) (by omega) fun _ => rfl
  have R : Mine.Rep (Mine.GG ⟨w, K⟩ s₁.heap) (fun _ => none) s₁ := ⟨fun b o e => e, fun b f => (by rcases f with ⟨o, e⟩ | ⟨_, _, _, e⟩ <;> cases e), fun a o e => (by cases e), fun a a' c c' d m m' e => (by cases e), fun a c d m e => (by cases e)⟩
  have V : Mine.VRs s₁.heap [.raw (.ref a)] [.ref a] := ⟨_, _, rfl, rfl, rfl⟩
  have hok : Mine.Ok 12 callerA := ⟨rfl, by decide, by decide⟩
  refine wpAny_mono (C.2 callerA s₁ [.ref a] hok R V) (fun v s' hp => ?_) fun _ _ f => f.elim
  obtain ⟨sv, σ', st, R', V', rfl⟩ := hp
  have V' : v = .bool true := V'
  subst V'
  refine GoodW.toG ⟨.inl ⟨.bool true, _, [], rfl, raisesW_false ?_, .bool true, ?_, fun _ => ⟨.nil, fun a h => (by cases h)⟩⟩, fun b o e => st.pres b o e (fun f => (by rcases f with ⟨o, e⟩ | ⟨_, _, _, e⟩ <;> cases e)) (fun h => h), st.rest.2.2, st.rest.1.trans hg⟩
  · wrow_none_raised
  · wrow_post
end Mine
namespace Mine
/- The head's tool lays for each constant of its own (a state, a tree, an object) a twin with an equation; all together these make a file of 234 MB, and no check needs them.
It lays none where the twin's name is taken: so these names, in the own namespace, are taken here by theorems that say nothing. -/
theorem hd.tw10012880186880212623 : True := trivial
theorem hd.tw10024716035694756283 : True := trivial
theorem hd.tw10030107230732127627 : True := trivial
theorem hd.tw100483095206116625 : True := trivial
theorem hd.tw10098268173465320503 : True := trivial
theorem hd.tw1011335219593555734 : True := trivial
theorem hd.tw10117440562283002822 : True := trivial
theorem hd.tw1013155817946168525 : True := trivial
theorem hd.tw10170382586518783626 : True := trivial
theorem hd.tw10203026625882799534 : True := trivial
theorem hd.tw10216474801634566288 : True := trivial
theorem hd.tw10246146449241189800 : True := trivial
theorem hd.tw10264135568141901301 : True := trivial
theorem hd.tw10292235466723388172 : True := trivial
theorem hd.tw1033889070964956483 : True := trivial
theorem hd.tw10403243965636340961 : True := trivial
theorem hd.tw10404513684093684653 : True := trivial
theorem hd.tw10424393626065333798 : True := trivial
theorem hd.tw1043307727769730188 : True := trivial
theorem hd.tw10458740792067480800 : True := trivial
theorem hd.tw10465514089279642386 : True := trivial
theorem hd.tw10507497572311344420 : True := trivial
theorem hd.tw10525666975642140466 : True := trivial
theorem hd.tw10583446816852156582 : True := trivial
theorem hd.tw10603584201595350602 : True := trivial
theorem hd.tw10614716105012338702 : True := trivial
theorem hd.tw10727248033764811480 : True := trivial
theorem hd.tw10738003575532504788 : True := trivial
theorem hd.tw10745771331937819419 : True := trivial
theorem hd.tw10781468475247234061 : True := trivial
theorem hd.tw10784824025267889561 : True := trivial
theorem hd.tw10788059911547816233 : True := trivial
theorem hd.tw10806950440038215891 : True := trivial
theorem hd.tw10844753989422098599 : True := trivial
theorem hd.tw10860895700388868024 : True := trivial
theorem hd.tw10879034167726328663 : True := trivial
theorem hd.tw1088296927520436173 : True := trivial
theorem hd.tw10905682514733158466 : True := trivial
theorem hd.tw10919297434634762262 : True := trivial
theorem hd.tw11011131195910976488 : True := trivial
theorem hd.tw11032806212648032379 : True := trivial
theorem hd.tw11034497122203965937 : True := trivial
theorem hd.tw11037278301008091258 : True := trivial
theorem hd.tw11038495425325230296 : True := trivial
theorem hd.tw11054480109507316185 : True := trivial
theorem hd.tw11117797201346649052 : True := trivial
theorem hd.tw11122889685044009724 : True := trivial
theorem hd.tw11128854368766332075 : True := trivial
theorem hd.tw11136197038861592535 : True := trivial
theorem hd.tw11151547217846952531 : True := trivial
theorem hd.tw11162318198679636149 : True := trivial
theorem hd.tw1118553966540926140 : True := trivial
theorem hd.tw11210553801493137410 : True := trivial
theorem hd.tw11232374478483605306 : True := trivial
theorem hd.tw11249132867342737325 : True := trivial
theorem hd.tw11251137523995926341 : True := trivial
theorem hd.tw11256106856564762260 : True := trivial
theorem hd.tw1129884963351977449 : True := trivial
theorem hd.tw11319097763535126812 : True := trivial
theorem hd.tw11319892378374348655 : True := trivial
theorem hd.tw11364443708160879001 : True := trivial
theorem hd.tw11375277706881905925 : True := trivial
theorem hd.tw11389486352061984695 : True := trivial
theorem hd.tw11402939732021071671 : True := trivial
theorem hd.tw11421645511747890330 : True := trivial
theorem hd.tw11465210709893060100 : True := trivial
theorem hd.tw1147470481896660410 : True := trivial
theorem hd.tw11513968764499736323 : True := trivial
theorem hd.tw11551083187376567056 : True := trivial
theorem hd.tw11587034568685482758 : True := trivial
theorem hd.tw11631869004601391166 : True := trivial
theorem hd.tw11631947586910100387 : True := trivial
theorem hd.tw11652457597714270106 : True := trivial
theorem hd.tw11663481321943121269 : True := trivial
theorem hd.tw11672842613191775419 : True := trivial
theorem hd.tw11713075325732132258 : True := trivial
theorem hd.tw11778180911958503814 : True := trivial
theorem hd.tw11801993109049149486 : True := trivial
theorem hd.tw11905163887095721015 : True := trivial
theorem hd.tw11912922877643110818 : True := trivial
theorem hd.tw11917015161858427179 : True := trivial
theorem hd.tw1194904439430580092 : True := trivial
theorem hd.tw11953376511379268794 : True := trivial
theorem hd.tw11968265576560266318 : True := trivial
theorem hd.tw1197925565968671727 : True := trivial
theorem hd.tw12023040214023829324 : True := trivial
theorem hd.tw12050417470231563642 : True := trivial
theorem hd.tw12058812876911547015 : True := trivial
theorem hd.tw12070051907170230399 : True := trivial
theorem hd.tw12070654863422294720 : True := trivial
theorem hd.tw1208734638264122097 : True := trivial
theorem hd.tw12092154237167983948 : True := trivial
theorem hd.tw12112201142124510154 : True := trivial
theorem hd.tw12113243949977362033 : True := trivial
theorem hd.tw12127338746724423809 : True := trivial
theorem hd.tw12131494931117144662 : True := trivial
theorem hd.tw12173100003817136821 : True := trivial
theorem hd.tw12173540411733591300 : True := trivial
theorem hd.tw1222794163293265305 : True := trivial
theorem hd.tw12271959270614036898 : True := trivial
theorem hd.tw12337632362937886050 : True := trivial
theorem hd.tw12350410155528471161 : True := trivial
theorem hd.tw12364972598781006883 : True := trivial
theorem hd.tw12394076208661396346 : True := trivial
theorem hd.tw12399718760709695909 : True := trivial
theorem hd.tw12414669353804360901 : True := trivial
theorem hd.tw12459740579856956213 : True := trivial
theorem hd.tw12487502673411948298 : True := trivial
theorem hd.tw12521463284412890351 : True := trivial
theorem hd.tw12575139184659369484 : True := trivial
theorem hd.tw12588582704262371052 : True := trivial
theorem hd.tw12590977762386282803 : True := trivial
theorem hd.tw12591134339009171964 : True := trivial
theorem hd.tw12602439190401603521 : True := trivial
theorem hd.tw12611767792052310623 : True := trivial
theorem hd.tw12614811148066621264 : True := trivial
theorem hd.tw12629568148972539762 : True := trivial
theorem hd.tw12631932088317031055 : True := trivial
theorem hd.tw12647368939536790636 : True := trivial
theorem hd.tw12659318050587179527 : True := trivial
theorem hd.tw12744807935193187038 : True := trivial
theorem hd.tw12832683148521936107 : True := trivial
theorem hd.tw128412058910260475 : True := trivial
theorem hd.tw12901994302517312135 : True := trivial
theorem hd.tw12936449754285732098 : True := trivial
theorem hd.tw12940713784782232206 : True := trivial
theorem hd.tw12952509933414984302 : True := trivial
theorem hd.tw12994019391074448376 : True := trivial
theorem hd.tw13047593935725612058 : True := trivial
theorem hd.tw13066319289922817542 : True := trivial
theorem hd.tw13092906067662860646 : True := trivial
theorem hd.tw13122850982685727845 : True := trivial
theorem hd.tw13133211045375063716 : True := trivial
theorem hd.tw13160604113216922460 : True := trivial
theorem hd.tw13181700845877081190 : True := trivial
theorem hd.tw13217225542625558698 : True := trivial
theorem hd.tw13217827037086042188 : True := trivial
theorem hd.tw13225837485096350037 : True := trivial
theorem hd.tw13267510147771200024 : True := trivial
theorem hd.tw13277076834127875243 : True := trivial
theorem hd.tw13280443560766958183 : True := trivial
theorem hd.tw13285133528070534704 : True := trivial
theorem hd.tw13289513938125300765 : True := trivial
theorem hd.tw13293453174229064190 : True := trivial
theorem hd.tw13315533130655954831 : True := trivial
theorem hd.tw13322179722446271537 : True := trivial
theorem hd.tw13330244855972007585 : True := trivial
theorem hd.tw13342606739435360313 : True := trivial
theorem hd.tw13363553139645760527 : True := trivial
theorem hd.tw13365295217650922812 : True := trivial
theorem hd.tw13368278939475635651 : True := trivial
theorem hd.tw13409441903868389331 : True := trivial
theorem hd.tw13431754692932380062 : True := trivial
theorem hd.tw13466754112058979494 : True := trivial
theorem hd.tw13483081372092288885 : True := trivial
theorem hd.tw13531707123254989501 : True := trivial
theorem hd.tw13532847315355080253 : True := trivial
theorem hd.tw13566260322249332789 : True := trivial
theorem hd.tw1359830224848277088 : True := trivial
theorem hd.tw13609717118414637909 : True := trivial
theorem hd.tw13619402905963910902 : True := trivial
theorem hd.tw13638418597567726942 : True := trivial
theorem hd.tw13642289790063256904 : True := trivial
theorem hd.tw13770079208771991547 : True := trivial
theorem hd.tw13790719812936386609 : True := trivial
theorem hd.tw13828106393651249627 : True := trivial
theorem hd.tw1382963296337349011 : True := trivial
theorem hd.tw13855946660403688772 : True := trivial
theorem hd.tw13866372431405929976 : True := trivial
theorem hd.tw13893168526513508166 : True := trivial
theorem hd.tw13903934854276604550 : True := trivial
theorem hd.tw13919464512627920130 : True := trivial
theorem hd.tw13994979335412520660 : True := trivial
theorem hd.tw14006173549557618073 : True := trivial
theorem hd.tw14060154772996877548 : True := trivial
theorem hd.tw14083186784513179016 : True := trivial
theorem hd.tw1409312971732116557 : True := trivial
theorem hd.tw14103535550066685397 : True := trivial
theorem hd.tw14137390275340422267 : True := trivial
theorem hd.tw14176624398918483544 : True := trivial
theorem hd.tw14294001040229213422 : True := trivial
theorem hd.tw14352634086879598012 : True := trivial
theorem hd.tw14353793391729792155 : True := trivial
theorem hd.tw14359650246247986136 : True := trivial
theorem hd.tw1439246655266547700 : True := trivial
theorem hd.tw14400467628812073631 : True := trivial
theorem hd.tw14417942806812102896 : True := trivial
theorem hd.tw14438451200097066615 : True := trivial
theorem hd.tw14457593812595234344 : True := trivial
theorem hd.tw14462709497994964445 : True := trivial
theorem hd.tw14478148883734587675 : True := trivial
theorem hd.tw14492701947808656938 : True := trivial
theorem hd.tw1452849714261714991 : True := trivial
theorem hd.tw14553816603554493358 : True := trivial
theorem hd.tw14560493823538711346 : True := trivial
theorem hd.tw14567429538950270057 : True := trivial
theorem hd.tw14598272352848978880 : True := trivial
theorem hd.tw14620637471214046174 : True := trivial
theorem hd.tw14667805832236412624 : True := trivial
theorem hd.tw14685462170515437407 : True := trivial
theorem hd.tw14690822567662456159 : True := trivial
theorem hd.tw14705683404202351889 : True := trivial
theorem hd.tw14745743045033390146 : True := trivial
theorem hd.tw14754805428009184798 : True := trivial
theorem hd.tw14772383043592177042 : True := trivial
theorem hd.tw14852329139284432860 : True := trivial
theorem hd.tw14859038896228082724 : True := trivial
theorem hd.tw14892549342360969540 : True := trivial
theorem hd.tw14896477498954680388 : True := trivial
theorem hd.tw14906377314874228009 : True := trivial
theorem hd.tw14955159897011116063 : True := trivial
theorem hd.tw14980023328507725902 : True := trivial
theorem hd.tw14984183105004643987 : True := trivial
theorem hd.tw15043168886218598503 : True := trivial
theorem hd.tw15048261121198461528 : True := trivial
theorem hd.tw1506431575118746342 : True := trivial
theorem hd.tw15083628210047938546 : True := trivial
theorem hd.tw15089522573102190283 : True := trivial
theorem hd.tw15103106377680225435 : True := trivial
theorem hd.tw15152743547302097792 : True := trivial
theorem hd.tw15199589371867527261 : True := trivial
theorem hd.tw15207398651663016943 : True := trivial
theorem hd.tw15213948185873263833 : True := trivial
theorem hd.tw15220180469806662145 : True := trivial
theorem hd.tw15279998641719260112 : True := trivial
theorem hd.tw15344866539931968096 : True := trivial
theorem hd.tw1535757262459896012 : True := trivial
theorem hd.tw15367242080415987702 : True := trivial
theorem hd.tw15368132723985388332 : True := trivial
theorem hd.tw15411387601460861337 : True := trivial
theorem hd.tw15422856539912107476 : True := trivial
theorem hd.tw15427206886491885616 : True := trivial
theorem hd.tw15430367267962946696 : True := trivial
theorem hd.tw15529170255622000948 : True := trivial
theorem hd.tw15578025631644234493 : True := trivial
theorem hd.tw15595854959937240912 : True := trivial
theorem hd.tw15610959940260225430 : True := trivial
theorem hd.tw15615420239508185596 : True := trivial
theorem hd.tw15615537253650120727 : True := trivial
theorem hd.tw1563692795949630186 : True := trivial
theorem hd.tw15643275761693703936 : True := trivial
theorem hd.tw15651613401221246523 : True := trivial
theorem hd.tw15673258824015622330 : True := trivial
theorem hd.tw15675198926951892251 : True := trivial
theorem hd.tw15687388767607454252 : True := trivial
theorem hd.tw15759970867653108152 : True := trivial
theorem hd.tw15790720579355451973 : True := trivial
theorem hd.tw1580110805410547442 : True := trivial
theorem hd.tw15837987909243819085 : True := trivial
theorem hd.tw15852365999677673905 : True := trivial
theorem hd.tw1588505670450824345 : True := trivial
theorem hd.tw1589133516308662214 : True := trivial
theorem hd.tw15946388913382835224 : True := trivial
theorem hd.tw15987713032478767096 : True := trivial
theorem hd.tw15992342658441690333 : True := trivial
theorem hd.tw1600037746751723098 : True := trivial
theorem hd.tw16007149819294483003 : True := trivial
theorem hd.tw16009884308244765898 : True := trivial
theorem hd.tw16011055738799735888 : True := trivial
theorem hd.tw16029623286316568529 : True := trivial
theorem hd.tw1603739661141634737 : True := trivial
theorem hd.tw16037735763661986305 : True := trivial
theorem hd.tw16053994301053490033 : True := trivial
theorem hd.tw16056359734778111409 : True := trivial
theorem hd.tw16064382804478563927 : True := trivial
theorem hd.tw1610171440888473627 : True := trivial
theorem hd.tw16154546982801380032 : True := trivial
theorem hd.tw16155205043701107222 : True := trivial
theorem hd.tw16157073509204512506 : True := trivial
theorem hd.tw16211521421427940678 : True := trivial
theorem hd.tw16240987189780228909 : True := trivial
theorem hd.tw16257038226119295666 : True := trivial
theorem hd.tw16259696140248634718 : True := trivial
theorem hd.tw162610821266807592 : True := trivial
theorem hd.tw16302227732802510677 : True := trivial
theorem hd.tw16332348944364537037 : True := trivial
theorem hd.tw16376525773666504680 : True := trivial
theorem hd.tw16412773359747925120 : True := trivial
theorem hd.tw16432713993328977331 : True := trivial
theorem hd.tw16456969618363192440 : True := trivial
theorem hd.tw16477043939570097188 : True := trivial
theorem hd.tw16640546478005224243 : True := trivial
theorem hd.tw16649331688326792143 : True := trivial
theorem hd.tw1666387254794493845 : True := trivial
theorem hd.tw16684818696116721337 : True := trivial
theorem hd.tw16694946328126371552 : True := trivial
theorem hd.tw16713699803418581334 : True := trivial
theorem hd.tw16722109127936396110 : True := trivial
theorem hd.tw16740174149368742834 : True := trivial
theorem hd.tw16772102934027710169 : True := trivial
theorem hd.tw16794629799341752650 : True := trivial
theorem hd.tw16828841361933241965 : True := trivial
theorem hd.tw16858285156579221889 : True := trivial
theorem hd.tw16919406825032445293 : True := trivial
theorem hd.tw16945582573551092051 : True := trivial
theorem hd.tw16970440968685349367 : True := trivial
theorem hd.tw1699103778626983548 : True := trivial
theorem hd.tw17047115858639842297 : True := trivial
theorem hd.tw17070941380808615275 : True := trivial
theorem hd.tw17076082267592564974 : True := trivial
theorem hd.tw17087091549796120035 : True := trivial
theorem hd.tw1712922718373300912 : True := trivial
theorem hd.tw17130151131035750659 : True := trivial
theorem hd.tw17183224562656869120 : True := trivial
theorem hd.tw17213754286329925777 : True := trivial
theorem hd.tw17234923516513369237 : True := trivial
theorem hd.tw17252143746492648416 : True := trivial
theorem hd.tw17252343639133405964 : True := trivial
theorem hd.tw17281405217945637968 : True := trivial
theorem hd.tw17311223219408574766 : True := trivial
theorem hd.tw17325209927041812611 : True := trivial
theorem hd.tw17330132731328240911 : True := trivial
theorem hd.tw17330945745186091897 : True := trivial
theorem hd.tw17336936450418997793 : True := trivial
theorem hd.tw17429513623812275283 : True := trivial
theorem hd.tw17454471701868102899 : True := trivial
theorem hd.tw17471934795394947791 : True := trivial
theorem hd.tw17491280204586788870 : True := trivial
theorem hd.tw17542962492245011380 : True := trivial
theorem hd.tw17574625026820762457 : True := trivial
theorem hd.tw17577478241444706838 : True := trivial
theorem hd.tw17588044629489971554 : True := trivial
theorem hd.tw17599816209265215132 : True := trivial
theorem hd.tw17606422857730326317 : True := trivial
theorem hd.tw17628472586750557451 : True := trivial
theorem hd.tw17650839729002327288 : True := trivial
theorem hd.tw17711083657039698284 : True := trivial
theorem hd.tw17714235663813219645 : True := trivial
theorem hd.tw17739348878880393726 : True := trivial
theorem hd.tw17772917993097084435 : True := trivial
theorem hd.tw17789176322338366841 : True := trivial
theorem hd.tw1781861727890032366 : True := trivial
theorem hd.tw17839855588491291079 : True := trivial
theorem hd.tw17843490464661113860 : True := trivial
theorem hd.tw17893044597097874663 : True := trivial
theorem hd.tw17901334829092211166 : True := trivial
theorem hd.tw17903497710992402801 : True := trivial
theorem hd.tw17919194246423945575 : True := trivial
theorem hd.tw17925215291927510665 : True := trivial
theorem hd.tw1792636949448641307 : True := trivial
theorem hd.tw17948085552500728524 : True := trivial
theorem hd.tw17950676927832955104 : True := trivial
theorem hd.tw17975533764899295144 : True := trivial
theorem hd.tw17986969038992634876 : True := trivial
theorem hd.tw17989097746536338734 : True := trivial
theorem hd.tw1800889605409440832 : True := trivial
theorem hd.tw18061152169483246106 : True := trivial
theorem hd.tw18093812233618175256 : True := trivial
theorem hd.tw18103342009636024947 : True := trivial
theorem hd.tw18103420901670897651 : True := trivial
theorem hd.tw18166333605607142505 : True := trivial
theorem hd.tw18176940659606848779 : True := trivial
theorem hd.tw18185175575083235020 : True := trivial
theorem hd.tw18219297243305740317 : True := trivial
theorem hd.tw18241275227582772068 : True := trivial
theorem hd.tw18264374347568628810 : True := trivial
theorem hd.tw18268791191939849864 : True := trivial
theorem hd.tw18282886421538689439 : True := trivial
theorem hd.tw18293851220164018083 : True := trivial
theorem hd.tw18300207936620678264 : True := trivial
theorem hd.tw18322514126500204803 : True := trivial
theorem hd.tw18343703819029505601 : True := trivial
theorem hd.tw18358800413957953924 : True := trivial
theorem hd.tw1836080755315867724 : True := trivial
theorem hd.tw1847840615245081061 : True := trivial
theorem hd.tw1848646778235469078 : True := trivial
theorem hd.tw185848376630758926 : True := trivial
theorem hd.tw1869635642477389258 : True := trivial
theorem hd.tw189712035060473897 : True := trivial
theorem hd.tw190519026028168232 : True := trivial
theorem hd.tw1997569388931296116 : True := trivial
theorem hd.tw2000490053193787569 : True := trivial
theorem hd.tw2040990291671593033 : True := trivial
theorem hd.tw2051048951616859547 : True := trivial
theorem hd.tw2068664650715991707 : True := trivial
theorem hd.tw2101469004524951375 : True := trivial
theorem hd.tw2114630138375439770 : True := trivial
theorem hd.tw212345690472687942 : True := trivial
theorem hd.tw2167537188350426706 : True := trivial
theorem hd.tw2195365466389143174 : True := trivial
theorem hd.tw2216850387143573719 : True := trivial
theorem hd.tw2252305205657439004 : True := trivial
theorem hd.tw22551697357593593 : True := trivial
theorem hd.tw226724450230711188 : True := trivial
theorem hd.tw2274498078352570744 : True := trivial
theorem hd.tw2284436838669742495 : True := trivial
theorem hd.tw2295870552580634182 : True := trivial
theorem hd.tw2304311442786299043 : True := trivial
theorem hd.tw2315301623876862497 : True := trivial
theorem hd.tw2323474266016966308 : True := trivial
theorem hd.tw2327210489368252092 : True := trivial
theorem hd.tw2329189449893159454 : True := trivial
theorem hd.tw2391449824757734642 : True := trivial
theorem hd.tw243823211424636713 : True := trivial
theorem hd.tw2448417245163862455 : True := trivial
theorem hd.tw2457190517430149469 : True := trivial
theorem hd.tw2464740170502395326 : True := trivial
theorem hd.tw2480057099694739299 : True := trivial
theorem hd.tw2502866573005156581 : True := trivial
theorem hd.tw250903467453971090 : True := trivial
theorem hd.tw257007361410690125 : True := trivial
theorem hd.tw2595994805191909183 : True := trivial
theorem hd.tw2608437505485318709 : True := trivial
theorem hd.tw262745018181394680 : True := trivial
theorem hd.tw26425463804135960 : True := trivial
theorem hd.tw2708950531961675432 : True := trivial
theorem hd.tw2781682124601125471 : True := trivial
theorem hd.tw2788664435532181463 : True := trivial
theorem hd.tw2799067240506288376 : True := trivial
theorem hd.tw280609765759037681 : True := trivial
theorem hd.tw2808349399557158395 : True := trivial
theorem hd.tw2855845756224970109 : True := trivial
theorem hd.tw2867327485932766208 : True := trivial
theorem hd.tw2930668341846507884 : True := trivial
theorem hd.tw2951005344575393816 : True := trivial
theorem hd.tw2999033326186475339 : True := trivial
theorem hd.tw3008623586974134963 : True := trivial
theorem hd.tw307737655149646647 : True := trivial
theorem hd.tw3085183777334472315 : True := trivial
theorem hd.tw3109861748172591687 : True := trivial
theorem hd.tw3182187488490625086 : True := trivial
theorem hd.tw3196399650302076718 : True := trivial
theorem hd.tw3219085151875037572 : True := trivial
theorem hd.tw3229955645248102723 : True := trivial
theorem hd.tw3259873300814134281 : True := trivial
theorem hd.tw3309697970292668127 : True := trivial
theorem hd.tw3350844169311001129 : True := trivial
theorem hd.tw3350930974749635488 : True := trivial
theorem hd.tw3429492842335990350 : True := trivial
theorem hd.tw3434918251397683217 : True := trivial
theorem hd.tw3442329435671937591 : True := trivial
theorem hd.tw3443669649825651883 : True := trivial
theorem hd.tw3451239065008710300 : True := trivial
theorem hd.tw3452082135128663414 : True := trivial
theorem hd.tw3453542296344581817 : True := trivial
theorem hd.tw3480954088277226078 : True := trivial
theorem hd.tw3484992998616243462 : True := trivial
theorem hd.tw3493717111155160527 : True := trivial
theorem hd.tw3530705653197291679 : True := trivial
theorem hd.tw3571134770919094901 : True := trivial
theorem hd.tw3646829019195819677 : True := trivial
theorem hd.tw3673020696563887462 : True := trivial
theorem hd.tw368366308016060594 : True := trivial
theorem hd.tw3694398316872202419 : True := trivial
theorem hd.tw3704167492566942397 : True := trivial
theorem hd.tw3789350110615891812 : True := trivial
theorem hd.tw3828038474966422129 : True := trivial
theorem hd.tw3869513607575875631 : True := trivial
theorem hd.tw3915529967508079626 : True := trivial
theorem hd.tw3919010098100093602 : True := trivial
theorem hd.tw3922637787740509324 : True := trivial
theorem hd.tw3941438180925939637 : True := trivial
theorem hd.tw395138700845864316 : True := trivial
theorem hd.tw3953601041324332601 : True := trivial
theorem hd.tw4014540891139286612 : True := trivial
theorem hd.tw4015398097383911347 : True := trivial
theorem hd.tw4021928978595405253 : True := trivial
theorem hd.tw402640490398009360 : True := trivial
theorem hd.tw4065347644161347641 : True := trivial
theorem hd.tw4068527845204499245 : True := trivial
theorem hd.tw4086058157674990017 : True := trivial
theorem hd.tw4091639524402994376 : True := trivial
theorem hd.tw4138081844389336918 : True := trivial
theorem hd.tw4159134105002834734 : True := trivial
theorem hd.tw4172343393113369950 : True := trivial
theorem hd.tw4225703048834024713 : True := trivial
theorem hd.tw4272726840584523970 : True := trivial
theorem hd.tw4282304852377368616 : True := trivial
theorem hd.tw4292457097857839397 : True := trivial
theorem hd.tw4297731678662094536 : True := trivial
theorem hd.tw4315991029959535628 : True := trivial
theorem hd.tw432457690288141553 : True := trivial
theorem hd.tw4343815846532229135 : True := trivial
theorem hd.tw4363365295628954845 : True := trivial
theorem hd.tw4367231431732253908 : True := trivial
theorem hd.tw4377701919642642989 : True := trivial
theorem hd.tw4383666589626881386 : True := trivial
theorem hd.tw4402725079659364252 : True := trivial
theorem hd.tw442638132926106271 : True := trivial
theorem hd.tw4449123307109862055 : True := trivial
theorem hd.tw4478166936697009375 : True := trivial
theorem hd.tw4478177076189095293 : True := trivial
theorem hd.tw4478964076566166474 : True := trivial
theorem hd.tw4494801613693538912 : True := trivial
theorem hd.tw4523669819894539328 : True := trivial
theorem hd.tw461538923250603899 : True := trivial
theorem hd.tw4643362625855044894 : True := trivial
theorem hd.tw464777395874653626 : True := trivial
theorem hd.tw4702841417184801058 : True := trivial
theorem hd.tw4706079058837389440 : True := trivial
theorem hd.tw4819202231147424091 : True := trivial
theorem hd.tw4846842124234013525 : True := trivial
theorem hd.tw4851647983119433812 : True := trivial
theorem hd.tw4870687313549177768 : True := trivial
theorem hd.tw4971549296188076032 : True := trivial
theorem hd.tw4990156530697904881 : True := trivial
theorem hd.tw4993660671451451078 : True := trivial
theorem hd.tw5009564483982726761 : True := trivial
theorem hd.tw5036846961687405229 : True := trivial
theorem hd.tw5054737718236178183 : True := trivial
theorem hd.tw5130813555471234732 : True := trivial
theorem hd.tw5138769234217329475 : True := trivial
theorem hd.tw5148922909946612681 : True := trivial
theorem hd.tw5149956267321005627 : True := trivial
theorem hd.tw5167245352685981253 : True := trivial
theorem hd.tw5174551420813472067 : True := trivial
theorem hd.tw5190246844813560578 : True := trivial
theorem hd.tw519851828213033955 : True := trivial
theorem hd.tw5245234834050458271 : True := trivial
theorem hd.tw5247051413645994129 : True := trivial
theorem hd.tw526207354791536317 : True := trivial
theorem hd.tw5278057926702712004 : True := trivial
theorem hd.tw5282504435634884242 : True := trivial
theorem hd.tw5283464899586487735 : True := trivial
theorem hd.tw5292301768408028288 : True := trivial
theorem hd.tw5318216170032084099 : True := trivial
theorem hd.tw5343241284826551009 : True := trivial
theorem hd.tw5363564295841288755 : True := trivial
theorem hd.tw5366084841770067474 : True := trivial
theorem hd.tw5373601922739893978 : True := trivial
theorem hd.tw5416991563250132298 : True := trivial
theorem hd.tw5433107678231618845 : True := trivial
theorem hd.tw5480042469492414594 : True := trivial
theorem hd.tw5486487638281291605 : True := trivial
theorem hd.tw5505005885091257285 : True := trivial
theorem hd.tw5505332120971382143 : True := trivial
theorem hd.tw5511420028821071320 : True := trivial
theorem hd.tw5513025101015932971 : True := trivial
theorem hd.tw5549315172176941698 : True := trivial
theorem hd.tw5562173858411828344 : True := trivial
theorem hd.tw5592360268479517082 : True := trivial
theorem hd.tw5608270528595127837 : True := trivial
theorem hd.tw5635641802508607975 : True := trivial
theorem hd.tw5645013508041368607 : True := trivial
theorem hd.tw5657824000916062451 : True := trivial
theorem hd.tw5715356086224469760 : True := trivial
theorem hd.tw5716766192118558609 : True := trivial
theorem hd.tw5732804406350252772 : True := trivial
theorem hd.tw5781342201191254626 : True := trivial
theorem hd.tw5899666649113621702 : True := trivial
theorem hd.tw5902613922787404954 : True := trivial
theorem hd.tw5940121870281237432 : True := trivial
theorem hd.tw5961118342813265553 : True := trivial
theorem hd.tw5976792059365374437 : True := trivial
theorem hd.tw5978321128707920903 : True := trivial
theorem hd.tw5987830557187376847 : True := trivial
theorem hd.tw6038821095411175016 : True := trivial
theorem hd.tw6046454685291232161 : True := trivial
theorem hd.tw6060742912462422084 : True := trivial
theorem hd.tw6079173187612997037 : True := trivial
theorem hd.tw6082411064634330575 : True := trivial
theorem hd.tw6136932545381038964 : True := trivial
theorem hd.tw6140570298594658328 : True := trivial
theorem hd.tw6184208073178115725 : True := trivial
theorem hd.tw6184460063843016694 : True := trivial
theorem hd.tw6186238094035137676 : True := trivial
theorem hd.tw6264232113106981867 : True := trivial
theorem hd.tw6291416237084387574 : True := trivial
theorem hd.tw6296012490568780991 : True := trivial
theorem hd.tw6305734824756694309 : True := trivial
theorem hd.tw6308581086252854402 : True := trivial
theorem hd.tw6320253292602491972 : True := trivial
theorem hd.tw6394381022753523788 : True := trivial
theorem hd.tw6407587892757256292 : True := trivial
theorem hd.tw6411954120941647267 : True := trivial
theorem hd.tw6413248158994207847 : True := trivial
theorem hd.tw6423634429210846174 : True := trivial
theorem hd.tw6438293893037913957 : True := trivial
theorem hd.tw6442067068224118133 : True := trivial
theorem hd.tw6449127861642672459 : True := trivial
theorem hd.tw6465913693859258597 : True := trivial
theorem hd.tw6469175993241445255 : True := trivial
theorem hd.tw6482722132109649516 : True := trivial
theorem hd.tw6528754448969337418 : True := trivial
theorem hd.tw6545403380812914513 : True := trivial
theorem hd.tw6547078798241139092 : True := trivial
theorem hd.tw6578402527460240241 : True := trivial
theorem hd.tw6598312636042714100 : True := trivial
theorem hd.tw6615107907471364465 : True := trivial
theorem hd.tw6627881031435992008 : True := trivial
theorem hd.tw6683769817339685419 : True := trivial
theorem hd.tw6755925336976613232 : True := trivial
theorem hd.tw6759412095888398321 : True := trivial
theorem hd.tw6767318904944593275 : True := trivial
theorem hd.tw6785817131721698500 : True := trivial
theorem hd.tw6804821044290156842 : True := trivial
theorem hd.tw6818987989461384207 : True := trivial
theorem hd.tw6819123309680001836 : True := trivial
theorem hd.tw6820862383352777685 : True := trivial
theorem hd.tw6830512106363814048 : True := trivial
theorem hd.tw6838551448383532254 : True := trivial
theorem hd.tw6868836192036940282 : True := trivial
theorem hd.tw6882427118574961969 : True := trivial
theorem hd.tw6898005170327248138 : True := trivial
theorem hd.tw6906073325868019850 : True := trivial
theorem hd.tw6924109203229866365 : True := trivial
theorem hd.tw6931407450589930559 : True := trivial
theorem hd.tw6957150274394394060 : True := trivial
theorem hd.tw697623264460660564 : True := trivial
theorem hd.tw6977684244182880681 : True := trivial
theorem hd.tw6982297934935202809 : True := trivial
theorem hd.tw701787995468756871 : True := trivial
theorem hd.tw7031273417212677730 : True := trivial
theorem hd.tw7068711184596962023 : True := trivial
theorem hd.tw7080932558258925280 : True := trivial
theorem hd.tw7082855905992002993 : True := trivial
theorem hd.tw7085514621470718492 : True := trivial
theorem hd.tw7120233287515763914 : True := trivial
theorem hd.tw7152984921513172624 : True := trivial
theorem hd.tw7153062008950511462 : True := trivial
theorem hd.tw7191455744419660376 : True := trivial
theorem hd.tw7270182246851987180 : True := trivial
theorem hd.tw728884934406724761 : True := trivial
theorem hd.tw7289634563603522867 : True := trivial
theorem hd.tw7292484366425897655 : True := trivial
theorem hd.tw7317836474542784337 : True := trivial
theorem hd.tw732345407407602841 : True := trivial
theorem hd.tw7354087734392854552 : True := trivial
theorem hd.tw7355570028127101125 : True := trivial
theorem hd.tw7366208706002141716 : True := trivial
theorem hd.tw7372000682148998216 : True := trivial
theorem hd.tw7379015992945566340 : True := trivial
theorem hd.tw7382370116671421104 : True := trivial
theorem hd.tw7510230149288206974 : True := trivial
theorem hd.tw7512474625130614241 : True := trivial
theorem hd.tw7519716089354478335 : True := trivial
theorem hd.tw7526368328331116154 : True := trivial
theorem hd.tw7534799579077118603 : True := trivial
theorem hd.tw7540741092611519060 : True := trivial
theorem hd.tw758273949599710562 : True := trivial
theorem hd.tw7598622570094877466 : True := trivial
theorem hd.tw7610815399733428385 : True := trivial
theorem hd.tw7628703163842673926 : True := trivial
theorem hd.tw7654286748164834634 : True := trivial
theorem hd.tw7676003278276379012 : True := trivial
theorem hd.tw7698358502638924378 : True := trivial
theorem hd.tw7721951785955056133 : True := trivial
theorem hd.tw7752569895197466512 : True := trivial
theorem hd.tw7754304195085646258 : True := trivial
theorem hd.tw7763873220885509757 : True := trivial
theorem hd.tw7793673504863384051 : True := trivial
theorem hd.tw7822882547125802209 : True := trivial
theorem hd.tw7854228177987924090 : True := trivial
theorem hd.tw7880807054014371918 : True := trivial
theorem hd.tw7914949630228597729 : True := trivial
theorem hd.tw7927469264209771579 : True := trivial
theorem hd.tw7943647380988272828 : True := trivial
theorem hd.tw8015326511298524721 : True := trivial
theorem hd.tw8025032847418708242 : True := trivial
theorem hd.tw8037109435796230573 : True := trivial
theorem hd.tw8047900516022102942 : True := trivial
theorem hd.tw8053944837975664402 : True := trivial
theorem hd.tw8068729725432388964 : True := trivial
theorem hd.tw8081886968326746073 : True := trivial
theorem hd.tw8112040973832200146 : True := trivial
theorem hd.tw8117029840178788049 : True := trivial
theorem hd.tw8165907130275166556 : True := trivial
theorem hd.tw8191903926673212241 : True := trivial
theorem hd.tw8228950375871286339 : True := trivial
theorem hd.tw8242931771332617035 : True := trivial
theorem hd.tw825126770350376351 : True := trivial
theorem hd.tw8268277133935991078 : True := trivial
theorem hd.tw8273930003744585626 : True := trivial
theorem hd.tw8311109941518608819 : True := trivial
theorem hd.tw8312999807965096350 : True := trivial
theorem hd.tw8317466277049474617 : True := trivial
theorem hd.tw8343274005884668182 : True := trivial
theorem hd.tw8351282476255451920 : True := trivial
theorem hd.tw8356816923877370021 : True := trivial
theorem hd.tw8381844023166312768 : True := trivial
theorem hd.tw8428860471423672150 : True := trivial
theorem hd.tw845060206244984605 : True := trivial
theorem hd.tw8457440626546761165 : True := trivial
theorem hd.tw8458067239894703972 : True := trivial
theorem hd.tw8479784124755550697 : True := trivial
theorem hd.tw8493152586797012548 : True := trivial
theorem hd.tw8516288146210602744 : True := trivial
theorem hd.tw8538877666451538035 : True := trivial
theorem hd.tw8587404781116728655 : True := trivial
theorem hd.tw8652628183442184457 : True := trivial
theorem hd.tw8664936974563722654 : True := trivial
theorem hd.tw8671608845466749128 : True := trivial
theorem hd.tw8684328023851190084 : True := trivial
theorem hd.tw8716120427605611371 : True := trivial
theorem hd.tw8727321023445011275 : True := trivial
theorem hd.tw8735263284916673568 : True := trivial
theorem hd.tw876933089483189297 : True := trivial
theorem hd.tw8770205317985620760 : True := trivial
theorem hd.tw8789358453043137523 : True := trivial
theorem hd.tw8801323125487838256 : True := trivial
theorem hd.tw8810149144160419634 : True := trivial
theorem hd.tw881544763273948857 : True := trivial
theorem hd.tw8879563391730754479 : True := trivial
theorem hd.tw8934143017859847078 : True := trivial
theorem hd.tw8959176491354863721 : True := trivial
theorem hd.tw8960069828448710407 : True := trivial
theorem hd.tw8965841893048198262 : True := trivial
theorem hd.tw8990313861142287110 : True := trivial
theorem hd.tw9013056391748086436 : True := trivial
theorem hd.tw9077708301081682751 : True := trivial
theorem hd.tw9131607905817354932 : True := trivial
theorem hd.tw9132557439983319658 : True := trivial
theorem hd.tw9153386212771759811 : True := trivial
theorem hd.tw9155422001095189878 : True := trivial
theorem hd.tw9170477692918782315 : True := trivial
theorem hd.tw920214292312260371 : True := trivial
theorem hd.tw922143313871775805 : True := trivial
theorem hd.tw9228397985900620932 : True := trivial
theorem hd.tw9244321171653502345 : True := trivial
theorem hd.tw9271970288684553227 : True := trivial
theorem hd.tw9277588360372424766 : True := trivial
theorem hd.tw9298403506768410418 : True := trivial
theorem hd.tw9325612240067072397 : True := trivial
theorem hd.tw9330943631129107780 : True := trivial
theorem hd.tw9345676750909349944 : True := trivial
theorem hd.tw9345929723534960622 : True := trivial
theorem hd.tw9386895884608548742 : True := trivial
theorem hd.tw940617070666608080 : True := trivial
theorem hd.tw9406673726873002282 : True := trivial
theorem hd.tw9421340871869096474 : True := trivial
theorem hd.tw9427301549700849589 : True := trivial
theorem hd.tw9430268157657104642 : True := trivial
theorem hd.tw9459050058782445324 : True := trivial
theorem hd.tw9496365245306024149 : True := trivial
theorem hd.tw9533747618267967006 : True := trivial
theorem hd.tw9555612238305686254 : True := trivial
theorem hd.tw9557236495431379559 : True := trivial
theorem hd.tw9566141503761928105 : True := trivial
theorem hd.tw9577689765879766989 : True := trivial
theorem hd.tw960944832710211464 : True := trivial
theorem hd.tw9617658007855726926 : True := trivial
theorem hd.tw9641152695372364146 : True := trivial
theorem hd.tw9673543361469618366 : True := trivial
theorem hd.tw9702936160620672325 : True := trivial
theorem hd.tw9719896912496429819 : True := trivial
theorem hd.tw9741134391959003819 : True := trivial
theorem hd.tw9748044761591592747 : True := trivial
theorem hd.tw9763420282994701918 : True := trivial
theorem hd.tw9783614193127449063 : True := trivial
theorem hd.tw978945382295711627 : True := trivial
theorem hd.tw9908193460736022307 : True := trivial
theorem hd.tw991583007596301734 : True := trivial
theorem hd.tw9960721518486171458 : True := trivial
theorem hd.tw9983995961361265002 : True := trivial
theorem hd.tw9990345226319884068 : True := trivial
theorem hd_fn {G : Gd} : ∀ F ∈ ([] : List (Frag → Fn)), FnOk G (F G.K) := fun _ h => nomatch h
/- Asynchronous, so that the head's own constants and their twins bear names under Mine.hd. -/
set_option Elab.async true in
theorem hd : PySem.Challenge.rw_xm0838_01.Holds := by
  w_on; o_law; k_head
  case hw => w_witness2
  all_goals refine fin (fun w H0 => ⟨?_, by kernel_rfl, by kernel_rfl, by kernel_rfl, by kernel_rfl, ⟨by kernel_rfl, by kernel_rfl, by kernel_rfl⟩, by kernel_rfl⟩) (by decide +kernel) (by rfl)
  iterate 60
    refine List.forall_mem_cons.mpr ⟨⟨look_of (by kernel_rfl), by kernel_rfl, by kernel_rfl, by kernel_rfl, ⟨by kernel_rfl, by kernel_rfl, by kernel_rfl⟩, ⟨by kernel_rfl, by kernel_rfl, by kernel_rfl⟩, by kernel_rfl, by kernel_rfl, by kernel_rfl, ⟨rfl, rfl⟩, by kernel_rfl, ?_⟩, ?_⟩
    (first | exact ar1 fun a => by kernel_rfl | exact ar2 fun a b => by kernel_rfl | exact ar3 fun a b c => by kernel_rfl | exact ar4 fun a b c d => by kernel_rfl | exact ar5 fun a b c d e => by kernel_rfl)
  exact hd_fn
end Mine
theorem PySem.Challenge.cw_xm0838_01_holds : PySem.Challenge.rw_xm0838_01.Holds :=
  Mine.hd
