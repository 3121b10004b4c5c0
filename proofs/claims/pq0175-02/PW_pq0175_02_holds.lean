import PyProof.Rows.All
import Wide.All
import Open.Line
import OpenK.KCell
import OpenK.KDict
import Lean
import PySem.Challenge.RW_pq0175_02
section
open PySem PySem.W PyProof.Rows
set_option Elab.async false
set_option genSizeOf false
set_option genInjectivity false
set_option maxRecDepth 100000
set_option maxHeartbeats 1000000
set_option linter.unusedVariables false
set_option linter.unusedSimpArgs false
namespace Mine

/-- the fixed surroundings of one program -/
structure Cx where
  prog : Program
  w : World
  K : Frag
  p : Program
  loose : List Str
  mean : ExcName → Option Value
  mg : Str → Option Value
  mb : Str → Option Value
  gens : Array GenState
  os : OsState

/-- a plain def of the text: its frame's fixed parts, its locals and the globals that it reads -/
structure FnI where
  qual : Str
  scope : Scope
  a : Addr
  cd : Value
  locs : List Str
  gls : List Str
  hk : scope.kind = .function
  hnd : locs.Nodup
  hl : ∀ x ∈ locs, scope.names.lookup x = some .local ∧ (x == ("__debug__" : Str)) = false
  hg : ∀ x ∈ gls, scope.names.lookup x = some .globalImplicit ∧ (x == ("__debug__" : Str)) = false

/-- values told without tokens; tuples as trees -/
inductive PV where
  | none
  | bool (b : Bool)
  | int (i : Int)
  | str (l : List Nat)
  | ref (a : Addr)
  | tuple (l : List PV)

/-- objects that may change -/
inductive AObj where
  | list (l : List PV)
  | dict (l : List (Str × PV))
  | inst (C : Addr) (l : List (Str × PV))
  | raw (P : Obj → Prop)

noncomputable abbrev AH := List (Addr × AObj)
noncomputable abbrev Loc := List (Str × Option PV)
structure St where
  loc : Loc
  ah : AH

noncomputable abbrev tupObj (vs : List Value) : Obj := { cls := .type "tuple", data := .seq vs.toArray }
noncomputable abbrev Led := List (Addr × Obj)

mutual
inductive VRel (tl : Led) : PV → Value → Prop
  | none : VRel tl .none .none
  | bool (b : Bool) : VRel tl (.bool b) (.bool b)
  | int (i : Int) (t : Tok) : VRel tl (.int i) (.int i t)
  | str (s : Str) (t : Tok) : VRel tl (.str s.cps.toList) (.str s t)
  | ref (a : Addr) : VRel tl (.ref a) (.ref a)
  | tuple (a : Addr) (ps : List PV) (vs : List Value) : (a, tupObj vs) ∈ tl → VsRel tl ps vs → VRel tl (.tuple ps) (.ref a)
inductive VsRel (tl : Led) : List PV → List Value → Prop
  | nil : VsRel tl [] []
  | cons {p v ps vs} : VRel tl p v → VsRel tl ps vs → VsRel tl (p :: ps) (v :: vs)
end

mutual
theorem VRel.mono {tl tl' : Led} (h : ∀ x ∈ tl, x ∈ tl') : ∀ {p v}, VRel tl p v → VRel tl' p v
  | _, _, .none => .none
  | _, _, .bool b => .bool b
  | _, _, .int i t => .int i t
  | _, _, .str i t => .str i t
  | _, _, .ref a => .ref a
  | _, _, .tuple a ps vs m r => .tuple a ps vs (h _ m) (VsRel.mono h r)
theorem VsRel.mono {tl tl' : Led} (h : ∀ x ∈ tl, x ∈ tl') : ∀ {p v}, VsRel tl p v → VsRel tl' p v
  | _, _, .nil => .nil
  | _, _, .cons a b => .cons (VRel.mono h a) (VsRel.mono h b)
end

theorem VRel.int_inv {tl : Led} {i : Int} {v : Value} (h : VRel tl (.int i) v) : ∃ t, v = .int i t := by cases h; exact ⟨_, rfl⟩
theorem VRel.str_inv {tl : Led} {i : List Nat} {v : Value} (h : VRel tl (.str i) v) : ∃ x t, v = .str x t ∧ x.cps.toList = i := by cases h; exact ⟨_, _, rfl, rfl⟩
theorem VRel.bool_inv {tl : Led} {i : Bool} {v : Value} (h : VRel tl (.bool i) v) : v = .bool i := by cases h; rfl
theorem VRel.none_inv {tl : Led} {v : Value} (h : VRel tl .none v) : v = .none := by cases h; rfl
theorem VRel.ref_inv {tl : Led} {a : Addr} {v : Value} (h : VRel tl (.ref a) v) : v = .ref a := by cases h; rfl
theorem VsRel.hd {tl : Led} {p : PV} {v : Value} {ps : List PV} {vs : List Value} (h : VsRel tl (p :: ps) (v :: vs)) : VRel tl p v := by cases h; assumption
theorem VsRel.tl' {tl : Led} {p : PV} {v : Value} {ps : List PV} {vs : List Value} (h : VsRel tl (p :: ps) (v :: vs)) : VsRel tl ps vs := by cases h; assumption
theorem VsRel.open {tl : Led} {p : PV} {ps : List PV} {ws : List Value} (h : VsRel tl (p :: ps) ws) : ∃ v vs, ws = v :: vs ∧ VRel tl p v ∧ VsRel tl ps vs := by
  cases h with
  | cons a b => exact ⟨_, _, rfl, a, b⟩
theorem VsRel.none {tl : Led} {ws : List Value} (h : VsRel tl [] ws) : ws = [] := by cases h; rfl
theorem VsRel.length {tl : Led} : ∀ {p v}, VsRel tl p v → v.length = p.length := by
  intro p
  induction p with
  | nil => intro v h; rw [h.none]; rfl
  | cons p ps ih => intro v h; obtain ⟨v, vs, rfl, a, b⟩ := h.open; exact congrArg (· + 1) (ih b)
theorem VsRel.get {tl : Led} : ∀ {ps vs} {i : Nat} {p : PV}, VsRel tl ps vs → ps[i]? = some p → ∃ v, vs[i]? = some v ∧ VRel tl p v
  | _, _, i, _, .nil, e => by simp at e
  | _, _, 0, _, .cons a _, e => by simp at e; subst e; exact ⟨_, rfl, a⟩
  | _, _, i+1, _, .cons _ b, e => by
    have := VsRel.get (i := i) b (by simpa using e)
    simpa using this
theorem VsRel.cut {tl : Led} : ∀ {ps qs : List PV} {vs us : List Value}, vs.length = ps.length → VsRel tl (ps ++ qs) (vs ++ us) → VsRel tl ps vs ∧ VsRel tl qs us
  | [], _, [], _, _, h => ⟨.nil, h⟩
  | p :: ps, _, v :: vs, _, e, h => by
    cases h with
    | cons a b =>
      obtain ⟨x, y⟩ := VsRel.cut (ps := ps) (vs := vs) (by simpa using e) b
      exact ⟨.cons a x, y⟩
  | [], _, _ :: _, _, e, _ => by simp at e
  | _ :: _, _, [], _, e, _ => by simp at e
theorem VsRel.append {tl : Led} : ∀ {ps vs qs us}, VsRel tl ps vs → VsRel tl qs us → VsRel tl (ps ++ qs) (vs ++ us)
  | _, _, _, _, .nil, h => h
  | _, _, _, _, .cons a b, h => .cons a (VsRel.append b h)
/-- entries of a dict with written str keys -/
inductive EsRel (C : Cx) (tl : Led) : List (Str × PV) → List DictEntry → Prop
  | nil : EsRel C tl [] []
  | cons {k : Str} {t : Tok} {p v ps es} : VRel tl p v → EsRel C tl ps es → EsRel C tl ((k, p) :: ps) (⟨PyData.keyHash C.w.params k, .str k t, v⟩ :: es)
theorem EsRel.mono {C : Cx} {tl tl' : Led} (h : ∀ x ∈ tl, x ∈ tl') : ∀ {p v}, EsRel C tl p v → EsRel C tl' p v
  | _, _, .nil => .nil
  | _, _, .cons a b => .cons (a.mono h) (b.mono h)

inductive ORel (C : Cx) (tl : Led) (a : Addr) : AObj → Led → Prop
  | list {ps : List PV} {vs : List Value} {n : Nat} : VsRel tl ps vs → ORel C tl a (.list ps) [(a, listOf vs.toArray n)]
  | dict {ps : List (Str × PV)} {es : List DictEntry} {n : Nat} : EsRel C tl ps es → (ps.map (·.1)).Nodup → ORel C tl a (.dict ps) [(a, dictOf es n)]
  | inst {K : Addr} {d : Addr} {ps : List (Str × PV)} {es : List DictEntry} {n : Nat} : EsRel C tl ps es → (ps.map (·.1)).Nodup → ORel C tl a (.inst K ps) [(a, instObj K d), (d, dictOf es n)]
  | raw {P : Obj → Prop} {o : Obj} : P o → ORel C tl a (.raw P) [(a, o)]
theorem ORel.mono {C : Cx} {tl tl' : Led} {a : Addr} (h : ∀ x ∈ tl, x ∈ tl') : ∀ {o v}, ORel C tl a o v → ORel C tl' a o v
  | _, _, .list r => .list (r.mono h)
  | _, _, .dict r n => .dict (r.mono h) n
  | _, _, .inst r n => .inst (r.mono h) n
  | _, _, .raw h => .raw h
theorem ORel.head {C : Cx} {tl : Led} {a : Addr} : ∀ {o v}, ORel C tl a o v → ∃ x r, v = (a, x) :: r
  | _, _, .list _ => ⟨_, _, rfl⟩
  | _, _, .dict _ _ => ⟨_, _, rfl⟩
  | _, _, .inst _ _ => ⟨_, _, rfl⟩
  | _, _, .raw _ => ⟨_, _, rfl⟩

inductive HRel (C : Cx) (tl : Led) : AH → Led → Prop
  | nil : HRel C tl [] []
  | cons {a o c ah mu} : ORel C tl a o c → HRel C tl ah mu → HRel C tl ((a, o) :: ah) (c ++ mu)
theorem HRel.mono {C : Cx} {tl tl' : Led} (h : ∀ x ∈ tl, x ∈ tl') : ∀ {o v}, HRel C tl o v → HRel C tl' o v
  | _, _, .nil => .nil
  | _, _, .cons r s => .cons (r.mono h) (s.mono h)

/-- what of the machine's shared state is spoken of -/
structure HS where
  heap : Heap
  gens : Array GenState
  os : OsState
noncomputable abbrev vw (s : Shared) : HS := ⟨s.heap, s.gens, s.os⟩
noncomputable abbrev HS.to (x : HS) (h : Heap) : HS := ⟨h, x.gens, x.os⟩
structure Sim0 (C : Cx) (h₀ : Heap) (L : Addr) (locs : List Str) (st : St) (hp : List PV) (hv : List Value) (h : HS) (m : Str → Option Value) (mu tl : Led) : Prop where
  F : Fr h₀ L h.heap m
  N : News h₀ L h.heap (mu ++ tl)
  nd : ((mu ++ tl).map (·.1)).Nodup
  H : HRel C tl st.ah mu
  nm : st.loc.map (·.1) = locs
  X : h.gens = C.gens ∧ h.os = C.os
  R : ∀ x pv, (x, some pv) ∈ st.loc → ∃ v, m x = some v ∧ VRel tl pv v
  O : VsRel tl hp hv
noncomputable def Sim (C : Cx) (h₀ : Heap) (L : Addr) (locs : List Str) (st : St) (hp : List PV) (hv : List Value) (h : HS) : Prop := ∃ m mu tl, Sim0 C h₀ L locs st hp hv h m mu tl

/-- one activation of a def -/
structure Act (C : Cx) (F : FnI) where
  L : Addr
  A₀ : Around
  base : Heap
  h₀ : Heap
  outer : List Env
  B : Below A₀ base outer h₀
  X : C.K.In h₀
  T : Top C.p C.loose C.mean C.mg C.mb h₀

variable {C : Cx} {F : FnI}
noncomputable abbrev Act.env (V : Act C F) : Env := envX F.qual F.scope V.L F.a F.cd []
noncomputable abbrev Act.Sim (V : Act C F) (st : St) (hp : List PV) (hv : List Value) (h : HS) : Prop := Mine.Sim C V.h₀ V.L F.locs st hp hv h
structure Act.Ok (V : Act C F) (A : Around) (n : Nat) : Prop where
  fr : A.frames = some (V.env :: V.outer)
  hd : A.handled = none
  dp : A.depth + n < 1000
  un : A.units + 10 * n < 9900
theorem Act.Ok.le {V : Act C F} {A : Around} {n k : Nat} (h : V.Ok A n) (hk : k ≤ n) : V.Ok A k := ⟨h.fr, h.hd, by have := h.dp; omega, by have := h.un; omega⟩
theorem Act.Ok.units {V : Act C F} {A : Around} {n : Nat} (h : V.Ok A n) : A.units < cLine := by have := h.un; simp only [cLine]; omega
noncomputable abbrev M (C : Cx) : Model := model C.prog C.w
noncomputable abbrev Pst (V : Act C F) (hp : List PV) (hv : List Value) (Q : PV → St → Prop) : Value → Shared → Prop := fun v s' => ∃ pv st', Q pv st' ∧ V.Sim st' (pv :: hp) (v :: hv) (vw s')
noncomputable abbrev PstB (V : Act C F) (hp : List PV) (hv : List Value) (Q : Bool → St → Prop) : Bool → Shared → Prop := fun b s' => ∃ st', Q b st' ∧ V.Sim st' hp hv (vw s')
noncomputable abbrev PstL (V : Act C F) (hp : List PV) (hv : List Value) (Q : List PV → St → Prop) : List Value → Shared → Prop := fun vs s' => ∃ ps st', Q ps st' ∧ vs.length = ps.length ∧ V.Sim st' (ps ++ hp) (vs ++ hv) (vw s')

noncomputable def Ev (V : Act C F) (n : Nat) (e : Expr) (st : St) (Q : PV → St → Prop) : Prop :=
  ∀ A s hp hv E, V.Ok A n → V.Sim st hp hv (vw s) → wpAny (M C) A (eval e V.env) (Pst V hp hv Q) E s
noncomputable def Tt (V : Act C F) (n : Nat) (e : Expr) (st : St) (Q : Bool → St → Prop) : Prop :=
  ∀ A s hp hv E, V.Ok A n → V.Sim st hp hv (vw s) → wpAny (M C) A (isTrue e V.env (eval e V.env)) (PstB V hp hv Q) E s
/-- a list of arguments or elements, in order -/
noncomputable def Es (V : Act C F) (n : Nat) (es : List Expr) (st : St) (Q : List PV → St → Prop) : Prop :=
  ∀ A s hp hv E pos, V.Ok A n → V.Sim st hp hv (vw s) → wpAny (M C) A (spliced (backTo pos (starEach es V.env))) (PstL V hp hv Q) E s
noncomputable def Bo (V : Act C F) (n : Nat) (op : Operator) (x y : PV) (st : St) (Q : PV → St → Prop) : Prop :=
  ∀ A s hp hv E vx vy, V.Ok A n → V.Sim st (y :: x :: hp) (vy :: vx :: hv) (vw s) → wpAny (M C) A (binaryOp op vx vy) (Pst V hp hv Q) E s
noncomputable def Uo (V : Act C F) (n : Nat) (op : UnaryOp) (x : PV) (st : St) (Q : PV → St → Prop) : Prop :=
  ∀ A s hp hv E vx, V.Ok A n → V.Sim st (x :: hp) (vx :: hv) (vw s) → wpAny (M C) A (unaryOp op vx) (Pst V hp hv Q) E s
noncomputable def Co (V : Act C F) (n : Nat) (op : CmpOp) (x y : PV) (st : St) (Q : Bool → St → Prop) : Prop :=
  ∀ A s hp hv E vx vy, V.Ok A n → V.Sim st (y :: x :: hp) (vy :: vx :: hv) (vw s) → wpAny (M C) A (compareOp op vx vy) (fun v s' => ∃ b, v = .bool b ∧ PstB V hp hv Q b s') E s
noncomputable def Ca (V : Act C F) (n : Nat) (f : Value) (args : List PV) (st : St) (Q : PV → St → Prop) : Prop :=
  ∀ A s hp hv E vs, V.Ok A n → vs.length = args.length → V.Sim st (args ++ hp) (vs ++ hv) (vw s) → wpAny (M C) A (call f vs) (Pst V hp hv Q) E s

noncomputable abbrev PstF (V : Act C F) (hp : List PV) (hv : List Value) (Qn : St → Prop) (Qr : PV → St → Prop) (Qc : St → Prop) : Flow → Shared → Prop := fun f s' =>
  match f with
  | .next => ∃ st', Qn st' ∧ V.Sim st' hp hv (vw s')
  | .cont => ∃ st', Qc st' ∧ V.Sim st' hp hv (vw s')
  | .ret v => Pst V hp hv Qr v s'
  | .brk => False
noncomputable def Ex1 (V : Act C F) (n : Nat) (x : Stmt) (st : St) (Qn : St → Prop) (Qr : PV → St → Prop) (Qc : St → Prop) : Prop :=
  ∀ A s hp hv E, V.Ok A n → V.Sim st hp hv (vw s) → wpAny (M C) A (exec x V.env) (PstF V hp hv Qn Qr Qc) E s
noncomputable def Ex (V : Act C F) (n : Nat) (x : List Stmt) (st : St) (Qn : St → Prop) (Qr : PV → St → Prop) (Qc : St → Prop) : Prop :=
  ∀ A s hp hv E, V.Ok A n → V.Sim st hp hv (vw s) → wpAny (M C) A (execs x V.env) (PstF V hp hv Qn Qr Qc) E s

/-! ### facts of Sim -/
section
variable {h₀ : Heap} {h : HS} {L : Addr} {locs : List Str} {st : St} {hp : List PV} {hv : List Value}
theorem Sim.head {p : PV} {v : Value} (S : Sim C h₀ L locs st (p :: hp) (v :: hv) h) : ∃ tl, VRel tl p v := S.elim fun _ S => S.elim fun _ S => S.elim fun tl S => ⟨tl, S.O.hd⟩
theorem Sim.drop1 {p : PV} {v : Value} (S : Sim C h₀ L locs st (p :: hp) (v :: hv) h) : Sim C h₀ L locs st hp hv h := by
  obtain ⟨m, mu, tl, S⟩ := S
  exact ⟨m, mu, tl, S.F, S.N, S.nd, S.H, S.nm, S.X, S.R, S.O.tl'⟩
theorem Sim.push {p : PV} {v : Value} (S : Sim C h₀ L locs st hp hv h) (r : ∀ tl, VRel tl p v) : Sim C h₀ L locs st (p :: hp) (v :: hv) h := by
  obtain ⟨m, mu, tl, S⟩ := S
  exact ⟨m, mu, tl, S.F, S.N, S.nd, S.H, S.nm, S.X, S.R, .cons (r tl) S.O⟩
theorem Sim.int1 {i : Int} {v : Value} (S : Sim C h₀ L locs st (.int i :: hp) (v :: hv) h) : ∃ t, v = .int i t := S.head.elim fun _ r => r.int_inv
theorem Sim.str1 {i : List Nat} {v : Value} (S : Sim C h₀ L locs st (.str i :: hp) (v :: hv) h) : ∃ x t, v = .str x t ∧ x.cps.toList = i := S.head.elim fun _ r => r.str_inv
theorem Sim.bool1 {i : Bool} {v : Value} (S : Sim C h₀ L locs st (.bool i :: hp) (v :: hv) h) : v = .bool i := S.head.elim fun _ r => r.bool_inv
theorem Sim.none1 {v : Value} (S : Sim C h₀ L locs st (.none :: hp) (v :: hv) h) : v = .none := S.head.elim fun _ r => r.none_inv
theorem Sim.ref1 {a : Addr} {v : Value} (S : Sim C h₀ L locs st (.ref a :: hp) (v :: hv) h) : v = .ref a := S.head.elim fun _ r => r.ref_inv
theorem Sim.swap {p q : PV} {v u : Value} (S : Sim C h₀ L locs st (p :: q :: hp) (v :: u :: hv) h) : Sim C h₀ L locs st (q :: p :: hp) (u :: v :: hv) h := by
  obtain ⟨m, mu, tl, S⟩ := S
  exact ⟨m, mu, tl, S.F, S.N, S.nd, S.H, S.nm, S.X, S.R, .cons S.O.tl'.hd (.cons S.O.hd S.O.tl'.tl')⟩
end
end Mine
end
section
open PySem PySem.W PyProof.Rows
set_option Elab.async false
set_option genSizeOf false
set_option genInjectivity false
set_option maxRecDepth 100000
set_option maxHeartbeats 1000000
set_option linter.unusedVariables false
set_option linter.unusedSimpArgs false
namespace Mine
variable {C : Cx} {F : FnI} {V : Act C F} {n : Nat}

/-! ### nodes -/
theorem Ev_local {x : Str} {p : PV} {pos : Pos} {st : St} {Q : PV → St → Prop} (hm : (x, some p) ∈ st.loc) (h : Q p st) : Ev V n (.Name x pos) st Q := by
  intro A s hp hv E ok S
  obtain ⟨m, mu, tl, S⟩ := S
  obtain ⟨v, hv', r⟩ := S.R x p hm
  have hx : x ∈ F.locs := S.nm ▸ List.mem_map_of_mem (f := (·.1)) hm
  exact nameX_L S.F hv' ⟨p, st, h, m, mu, tl, S.F, S.N, S.nd, S.H, S.nm, S.X, S.R, .cons r S.O⟩ F.hk (F.hl x hx).1 (F.hl x hx).2
theorem Ev_int {i : Int} {k : Nat} {pos : Pos} {st : St} {Q : PV → St → Prop} (h : Q (.int i) st) : Ev V n (.Constant (.int i) k pos) st Q :=
  fun A s hp hv E ok S => wpAny_Constant_int ⟨_, st, h, S.push fun _ => .int _ _⟩
/-- the signs' numbers of a written text -/
noncomputable def cs (s : String) : List Nat := (Str.ofString s).cps.toList
theorem Ev_bool {b : Bool} {k : Nat} {pos : Pos} {st : St} {Q : PV → St → Prop} (h : Q (.bool b) st) : Ev V n (.Constant (.bool b) k pos) st Q :=
  fun A s hp hv E ok S => Constant_bool ⟨_, st, h, S.push fun _ => .bool _⟩
theorem Ev_none {k : Nat} {pos : Pos} {st : St} {Q : PV → St → Prop} (h : Q .none st) : Ev V n (.Constant .none k pos) st Q :=
  fun A s hp hv E ok S => Constant_none ⟨_, st, h, S.push fun _ => .none⟩
theorem Ev_bin {l r : Expr} {op : Operator} {pos : Pos} {st : St} {Q : PV → St → Prop} (h : Ev V n l st fun x st1 => Ev V n r st1 fun y st2 => Bo V n op x y st2 Q) : Ev V n (.BinOp l op r pos) st Q := by
  intro A s hp hv E ok S
  refine wpAny_BinOp (wpAny_mono (h A s hp hv E ok S) (fun v s1 hx => ?_) fun _ _ e => e)
  obtain ⟨x, st1, h1, S1⟩ := hx
  exact wpAny_mono (h1 A s1 _ _ E ok S1) (fun u s2 ⟨y, st2, h2, S2⟩ => h2 A s2 _ _ E _ _ ok S2) fun _ _ e => e
theorem Ev_un {x : Expr} {op : UnaryOp} {pos : Pos} {st : St} {Q : PV → St → Prop} (h : Ev V n x st fun x st1 => Uo V n op x st1 Q) : Ev V n (.UnaryOp op x pos) st Q := by
  intro A s hp hv E ok S
  exact UnaryOp_ (wpAny_mono (h A s hp hv E ok S) (fun v s1 ⟨x, st1, h1, S1⟩ => h1 A s1 _ _ E _ ok S1) fun _ _ e => e)
theorem Ev_cmp {l r : Expr} {op : CmpOp} {pos : Pos} {st : St} {Q : PV → St → Prop} (h : Ev V n l st fun x st1 => Ev V n r st1 fun y st2 => Co V n op x y st2 fun b => Q (.bool b))
    (hm : behindInMarks op r = false) : Ev V n (.Compare l [op] [r] pos) st Q := by
  intro A s hp hv E ok S
  refine wpAny_Compare1 (wpAny_mono (h A s hp hv E ok S) (fun v s1 ⟨x, st1, h1, S1⟩ => ?_) fun _ _ e => e) hm
  refine wpAny_mono (h1 A s1 _ _ E ok S1) (fun u s2 hx => ?_) fun _ _ e => e
  obtain ⟨y, st2, h2, S2⟩ := hx
  refine wpAny_mono (h2 A s2 _ _ E _ _ ok S2) (fun u s3 hx => ?_) fun _ _ e => e
  obtain ⟨b, e, st3, h3, S3⟩ := hx
  exact ⟨_, st3, h3, S3.push fun _ => e ▸ .bool _⟩
theorem Tt_cmp {l r : Expr} {op : CmpOp} {pos : Pos} {st : St} {Q : Bool → St → Prop} (h : Ev V n l st fun x st1 => Ev V n r st1 fun y st2 => Co V n op x y st2 Q)
    (hm : behindInMarks op r = false) : Tt V n (.Compare l [op] [r] pos) st Q := by
  intro A s hp hv E ok S
  refine wpAny_isTrue_Compare1 (wpAny_mono (h A s hp hv E ok S) (fun v s1 ⟨x, st1, h1, S1⟩ => ?_) fun _ _ e => e) hm
  refine wpAny_mono (h1 A s1 _ _ E ok S1) (fun u s2 hx => ?_) fun _ _ e => e
  obtain ⟨y, st2, h2, S2⟩ := hx
  refine wpAny_mono (h2 A s2 _ _ E _ _ ok S2) (fun u s3 hx => ?_) fun _ _ e => e
  obtain ⟨b, e, st3, h3, S3⟩ := hx
  subst e
  exact wpAny_truthy_bool ⟨st3, h3, S3⟩
/-- a test that is a plain expression with a bool behind it -/
theorem Tt_plain {e : Expr} {st : St} {Q : Bool → St → Prop} (h : Ev V n e st fun v st1 => ∃ b, v = .bool b ∧ Q b st1)
    (he : ∀ whole, isTrue e V.env whole = (do let v ← whole; standAt e.pos; holding [v] (truthy v))) : Tt V n e st Q := by
  intro A s hp hv E ok S
  refine isTrue_plain (wpAny_mono (h A s hp hv E ok S) (fun v s1 ⟨x, st1, ⟨b, e, h1⟩, S1⟩ => ?_) fun _ _ e => e) (he _)
  subst e
  obtain rfl := S1.bool1
  exact wpAny_truthy_bool ⟨st1, h1, S1.drop1⟩
theorem Tt_not {x : Expr} {pos : Pos} {st : St} {Q : Bool → St → Prop} (h : Tt V n x st fun b => Q (!b)) : Tt V n (.UnaryOp .Not x pos) st Q :=
  fun A s hp hv E ok S => isTrue_not (h A s hp hv E ok S)
theorem Tt_and0 {pos : Pos} {st : St} {Q : Bool → St → Prop} (h : Q true st) : Tt V n (.BoolOp .And [] pos) st Q := fun A s hp hv E ok S => isTrue_and_nil ⟨st, h, S⟩
theorem Tt_or0 {pos : Pos} {st : St} {Q : Bool → St → Prop} (h : Q false st) : Tt V n (.BoolOp .Or [] pos) st Q := fun A s hp hv E ok S => isTrue_or_nil ⟨st, h, S⟩
theorem Tt_and {x : Expr} {r : List Expr} {pos : Pos} {st : St} {Q : Bool → St → Prop} (h : Tt V n x st fun b st1 => (b = true → Tt V n (.BoolOp .And r pos) st1 Q) ∧ (b = false → Q false st1)) : Tt V n (.BoolOp .And (x :: r) pos) st Q := by
  intro A s hp hv E ok S
  refine isTrue_and (wpAny_mono (h A s hp hv E ok S) (fun b s1 hx => ?_) fun _ _ e => e)
  obtain ⟨st1, ⟨h1, h2⟩, S1⟩ := hx
  cases b with
  | true => exact h1 rfl A s1 hp hv E ok S1
  | false => exact ⟨st1, h2 rfl, S1⟩
theorem Tt_or {x : Expr} {r : List Expr} {pos : Pos} {st : St} {Q : Bool → St → Prop} (h : Tt V n x st fun b st1 => (b = true → Q true st1) ∧ (b = false → Tt V n (.BoolOp .Or r pos) st1 Q)) : Tt V n (.BoolOp .Or (x :: r) pos) st Q := by
  intro A s hp hv E ok S
  refine isTrue_or (wpAny_mono (h A s hp hv E ok S) (fun b s1 hx => ?_) fun _ _ e => e)
  obtain ⟨st1, ⟨h1, h2⟩, S1⟩ := hx
  cases b with
  | true => exact ⟨st1, h1 rfl, S1⟩
  | false => exact h2 rfl A s1 hp hv E ok S1
/-- and | or whose parts are all bools -/
theorem Ev_and1 {x : Expr} {op : BoolOp} {pos : Pos} {st : St} {Q : PV → St → Prop} (h : Ev V n x st Q) : Ev V n (.BoolOp op [x] pos) st Q := fun A s hp hv E ok S => BoolOp_one (h A s hp hv E ok S)
theorem Ev_and {x y : Expr} {r : List Expr} {pos : Pos} {st : St} {Q : PV → St → Prop}
    (h : Ev V n x st fun v st1 => ∃ b, v = .bool b ∧ (b = true → Ev V n (.BoolOp .And (y :: r) pos) st1 Q) ∧ (b = false → Q (.bool false) st1)) : Ev V n (.BoolOp .And (x :: y :: r) pos) st Q := by
  intro A s hp hv E ok S
  refine BoolOp_and (wpAny_mono (h A s hp hv E ok S) (fun v s1 hx => ?_) fun _ _ e => e)
  obtain ⟨x, st1, ⟨b, e, h1, h2⟩, S1⟩ := hx
  subst e
  obtain rfl := S1.bool1
  refine wpAny_truthy_bool ?_
  cases b with
  | true => exact h1 rfl A s1 hp hv E ok S1.drop1
  | false => exact ⟨_, st1, h2 rfl, S1⟩
theorem Ev_or {x y : Expr} {r : List Expr} {pos : Pos} {st : St} {Q : PV → St → Prop}
    (h : Ev V n x st fun v st1 => ∃ b, v = .bool b ∧ (b = true → Q (.bool true) st1) ∧ (b = false → Ev V n (.BoolOp .Or (y :: r) pos) st1 Q)) : Ev V n (.BoolOp .Or (x :: y :: r) pos) st Q := by
  intro A s hp hv E ok S
  refine BoolOp_or (wpAny_mono (h A s hp hv E ok S) (fun v s1 hx => ?_) fun _ _ e => e)
  obtain ⟨x, st1, ⟨b, e, h1, h2⟩, S1⟩ := hx
  subst e
  obtain rfl := S1.bool1
  refine wpAny_truthy_bool ?_
  cases b with
  | true => exact ⟨_, st1, h1 rfl, S1⟩
  | false => exact h2 rfl A s1 hp hv E ok S1.drop1
theorem Ev_ifexp {t a b : Expr} {pos : Pos} {st : St} {Q : PV → St → Prop} (h : Tt V n t st fun c st1 => (c = true → Ev V n a st1 Q) ∧ (c = false → Ev V n b st1 Q)) : Ev V n (.IfExp t a b pos) st Q := by
  intro A s hp hv E ok S
  refine IfExp_ (wpAny_mono (h A s hp hv E ok S) (fun c s1 hx => ?_) fun _ _ e => e)
  obtain ⟨st1, ⟨h1, h2⟩, S1⟩ := hx
  cases c with
  | true => exact h1 rfl A s1 hp hv E ok S1
  | false => exact h2 rfl A s1 hp hv E ok S1

theorem Tt_ifexp {t a b : Expr} {pos : Pos} {st : St} {Q : Bool → St → Prop} (h : Tt V n t st fun c st1 => (c = true → Tt V n a st1 Q) ∧ (c = false → Tt V n b st1 Q)) : Tt V n (.IfExp t a b pos) st Q := by
  intro A s hp hv E ok S
  refine isTrue_IfExp (wpAny_mono (h A s hp hv E ok S) (fun c s1 hx => ?_) fun _ _ e => e)
  obtain ⟨st1, ⟨h1, h2⟩, S1⟩ := hx
  cases c with
  | true => exact h1 rfl A s1 hp hv E ok S1
  | false => exact h2 rfl A s1 hp hv E ok S1

/-! ### lists of expressions -/
theorem Es_nil {st : St} {Q : List PV → St → Prop} (h : Q [] st) : Es V n [] st Q := fun A s hp hv E pos ok S => Calls.spliced_nil ⟨[], st, h, rfl, S⟩
theorem Es_cons {e : Expr} {r : List Expr} {st : St} {Q : List PV → St → Prop} (h : Ev V n e st fun p st1 => Es V n r st1 fun ps st2 => Q (p :: ps) st2)
    (he : starEach (e :: r) V.env = (false, eval e V.env) :: starEach r V.env) : Es V n (e :: r) st Q := by
  intro A s hp hv E pos ok S
  refine spliced_more (wpAny_mono (h A s hp hv E ok S) (fun v s1 ⟨x, st1, h1, S1⟩ => ?_) fun _ _ e => e) he
  refine wpAny_mono (h1 A s1 _ _ E pos ok S1) (fun vs s2 hx => ?_) fun _ _ e => e
  obtain ⟨ps, st2, h2, hl, S2⟩ := hx
  refine ⟨_, st2, h2, by simp [hl], ?_⟩
  obtain ⟨m, mu, tl, S2⟩ := S2
  obtain ⟨a, b⟩ := VsRel.cut hl S2.O
  cases b with
  | cons b c => exact ⟨m, mu, tl, S2.F, S2.N, S2.nd, S2.H, S2.nm, S2.X, S2.R, .cons b (a.append c)⟩

/-! ### statements -/
theorem Ex_nil {st : St} {Qn : St → Prop} {Qr : PV → St → Prop} {Qc : St → Prop} (h : Qn st) : Ex V n [] st Qn Qr Qc := fun A s hp hv E ok S => wpAny_execs_nil ⟨st, h, S⟩
theorem Ex_cons {x : Stmt} {r : List Stmt} {st : St} {Qn : St → Prop} {Qr : PV → St → Prop} {Qc : St → Prop} (h : Ex1 V n x st (fun st1 => Ex V n r st1 Qn Qr Qc) Qr Qc) : Ex V n (x :: r) st Qn Qr Qc := by
  intro A s hp hv E ok S
  refine wpAny_execs_cons (wpAny_mono (h A s hp hv E ok S) (fun f s1 h1 => ?_) fun _ _ e => e)
  cases f with
  | next => obtain ⟨st1, h1, S1⟩ := h1; exact h1 A s1 hp hv E ok S1
  | cont => exact h1
  | brk => exact h1
  | ret v => exact h1
theorem Ex1_if {t : Expr} {a b : List Stmt} {pos : Pos} {st : St} {Qn : St → Prop} {Qr : PV → St → Prop} {Qc : St → Prop} (h : Tt V n t st fun c st1 => (c = true → Ex V n a st1 Qn Qr Qc) ∧ (c = false → Ex V n b st1 Qn Qr Qc)) : Ex1 V n (.If t a b pos) st Qn Qr Qc := by
  intro A s hp hv E ok S
  refine wpAny_If (wpAny_mono (h A s hp hv E ok S) (fun c s1 hx => ?_) fun _ _ e => e)
  obtain ⟨st1, ⟨h1, h2⟩, S1⟩ := hx
  cases c with
  | true => exact h1 rfl A s1 hp hv E ok S1
  | false => exact h2 rfl A s1 hp hv E ok S1
theorem Ex1_ret {e : Expr} {pos : Pos} {st : St} {Qn : St → Prop} {Qr : PV → St → Prop} {Qc : St → Prop} (h : Ev V n e st Qr) : Ex1 V n (.Return (some e) pos) st Qn Qr Qc := by
  intro A s hp hv E ok S
  exact wpAny_Return_some (h A s hp hv E ok S)
theorem Ex1_cont {pos : Pos} {st : St} {Qn : St → Prop} {Qr : PV → St → Prop} {Qc : St → Prop} (h : Qc st) : Ex1 V n (.Continue pos) st Qn Qr Qc := by
  intro A s hp hv E ok S
  exact wpAny_Continue ⟨st, h, S⟩

/-- the local x, at its place, gets p -/
inductive Put (x : Str) (p : PV) : Loc → Loc → Prop
  | here {o r} : Put x p ((x, o) :: r) ((x, some p) :: r)
  | next {e r r'} : Put x p r r' → Put x p (e :: r) (e :: r')
theorem Put.names {x : Str} {p : PV} : ∀ {l l'}, Put x p l l' → l'.map (·.1) = l.map (·.1)
  | _, _, .here => rfl
  | _, _, .next h => by simp [Put.names h]
theorem Put.mem {x : Str} {p : PV} : ∀ {l l'}, Put x p l l' → x ∈ l.map (·.1)
  | _, _, .here => by simp
  | _, _, .next h => by have := Put.mem h; simp at this ⊢; exact .inr this
theorem Put.cases {x : Str} {p : PV} : ∀ {l l'}, Put x p l l' → (l.map (·.1)).Nodup → ∀ y q, (y, some q) ∈ l' → (y = x ∧ q = p) ∨ (y ≠ x ∧ (y, some q) ∈ l)
  | _, _, .here (r := r), hn, y, q, hm => by
    simp only [List.map_cons, List.nodup_cons] at hn
    rcases List.mem_cons.mp hm with e | e
    · left; simpa using e
    · right; exact ⟨fun z => hn.1 (z ▸ List.mem_map_of_mem (f := (·.1)) e), .tail _ e⟩
  | _, _, .next (e := e) h, hn, y, q, hm => by
    simp only [List.map_cons, List.nodup_cons] at hn
    rcases List.mem_cons.mp hm with z | z
    · right; subst z
      exact ⟨fun z => hn.1 (by rw [z]; exact h.mem), .head _⟩
    · rcases Put.cases h hn.2 y q z with a | a
      · exact .inl a
      · exact .inr ⟨a.1, .tail _ a.2⟩
theorem store_local {x : Str} {p : PV} {v : Value} {st : St} {loc' : Loc} {Q : Unit → Shared → Prop} {A : Around} {s : Shared} {hp : List PV} {hv : List Value} {E : Value → Shared → Prop}
    (P : Put x p st.loc loc') (S : V.Sim st (p :: hp) (v :: hv) (vw s)) (h : ∀ s', V.Sim ⟨loc', st.ah⟩ hp hv (vw s') → Q () s') : wpAny (M C) A (storeName V.env x v) Q E s := by
  obtain ⟨m, mu, tl, S⟩ := S
  have hx : x ∈ F.locs := S.nm ▸ P.mem
  refine storeX_L S.F S.N (fun h' F' N' => h _ ?_) F.hk (F.hl x hx).1
  cases S.O with
  | cons r O =>
    refine ⟨_, mu, tl, F', N', S.nd, S.H, P.names.trans S.nm, S.X, fun y q hm => ?_, O⟩
    rcases P.cases (S.nm ▸ F.hnd) y q hm with ⟨rfl, rfl⟩ | ⟨hne, hm'⟩
    · exact ⟨v, if_pos rfl, r⟩
    · obtain ⟨u, hu, ru⟩ := S.R y q hm'
      exact ⟨u, (if_neg hne).trans hu, ru⟩
theorem Ex1_while {ι : Type} (S : ι → St) (P : ι → Prop) (μ : ι → Nat) (i : ι) {t : Expr} {b : List Stmt} {pos : Pos} {st : St} {Qn : St → Prop} {Qr : PV → St → Prop} {Qc : St → Prop}
    (h0 : st = S i ∧ P i) (h : ∀ i, P i → Tt V n t (S i) fun c st1 => (c = true → Ex V n b st1 (fun st2 => ∃ j, st2 = S j ∧ P j ∧ μ j < μ i) Qr (fun st2 => ∃ j, st2 = S j ∧ P j ∧ μ j < μ i)) ∧ (c = false → Qn st1)) :
    Ex1 V n (.While t b [] pos) st Qn Qr Qc := by
  intro A s hp hv E ok SS
  refine wpAny_While (codeAny_whileLoop (I := fun k s => ∃ i, P i ∧ μ i = k ∧ V.Sim (S i) hp hv (vw s)) (fun k s ⟨i, hP, hk, S1⟩ => ?_) (μ i) ⟨i, h0.2, rfl, h0.1 ▸ SS⟩)
  refine wpAny_mono (h i hP A s hp hv _ ok S1) (fun c s1 hx => ?_) fun _ _ e => e
  obtain ⟨st1, ⟨h1, h2⟩, S2⟩ := hx
  cases c with
  | true =>
    refine wpAny_mono (h1 rfl A s1 hp hv _ ok S2) (fun f s2 hf => ?_) fun _ _ e => e
    cases f with
    | next => obtain ⟨st2, ⟨j, rfl, hj, hm⟩, S3⟩ := hf; exact ⟨μ j, hk ▸ hm, j, hj, rfl, S3⟩
    | cont => obtain ⟨st2, ⟨j, rfl, hj, hm⟩, S3⟩ := hf; exact ⟨μ j, hk ▸ hm, j, hj, rfl, S3⟩
    | brk => exact hf.elim
    | ret v => exact hf
  | false => exact wpAny_execs_nil ⟨st1, h2 rfl, S2⟩
end Mine
end
section
open PySem PySem.W PyProof.Rows
set_option Elab.async false
set_option genSizeOf false
set_option genInjectivity false
set_option maxRecDepth 100000
set_option maxHeartbeats 1000000
set_option linter.unusedVariables false
set_option linter.unusedSimpArgs false
namespace Mine
variable {C : Cx} {F : FnI} {V : Act C F} {n : Nat}

/-! ### calls of the text's own defs -/
/-- what a def, called on args, makes of the objects -/
noncomputable def Fn (C : Cx) (n : Nat) (f : Addr) (args : List PV) (ah : AH) (Q : PV → AH → Prop) : Prop :=
  ∀ (F : FnI) (V : Act C F) A s hp hv (E : Value → Shared → Prop) vs loc, V.Ok A n → vs.length = args.length → V.Sim ⟨loc, ah⟩ (args ++ hp) (vs ++ hv) (vw s) →
    codeAny (M C) A (.call (.ref f) ⟨vs, []⟩) (fun r s' => match r with | .ok (.ret v) => Pst V hp hv (fun p st' => st'.loc = loc ∧ Q p st'.ah) v s' | .ok _ => False | .error e => E e s') s

/-- the locals' values, as held values -/
inductive LHold (m : Str → Option Value) : Loc → List PV → List Value → Prop
  | nil : LHold m [] [] []
  | skip {x l ps vs} : LHold m l ps vs → LHold m ((x, none) :: l) ps vs
  | keep {x p v l ps vs} : m x = some v → LHold m l ps vs → LHold m ((x, some p) :: l) (p :: ps) (v :: vs)
theorem LHold.make {m : Str → Option Value} {tl : Led} : ∀ {l : Loc}, (∀ x pv, (x, some pv) ∈ l → ∃ v, m x = some v ∧ VRel tl pv v) → ∃ ps vs, LHold m l ps vs ∧ VsRel tl ps vs
  | [], _ => ⟨[], [], .nil, .nil⟩
  | (x, none) :: l, h => by
    obtain ⟨ps, vs, a, b⟩ := LHold.make (l := l) fun x pv hm => h x pv (.tail _ hm)
    exact ⟨ps, vs, .skip a, b⟩
  | (x, some p) :: l, h => by
    obtain ⟨ps, vs, a, b⟩ := LHold.make (l := l) fun x pv hm => h x pv (.tail _ hm)
    obtain ⟨v, hv, r⟩ := h x p (.head _)
    exact ⟨p :: ps, v :: vs, .keep hv a, .cons r b⟩
theorem LHold.back {m : Str → Option Value} {tl : Led} {l : Loc} {ps : List PV} {vs : List Value} (h : LHold m l ps vs) (r : VsRel tl ps vs) (x : Str) (pv : PV) (hm : (x, some pv) ∈ l) : ∃ v, m x = some v ∧ VRel tl pv v := by
  induction h with
  | nil => cases hm
  | skip h ih =>
    rcases List.mem_cons.mp hm with e | e
    · cases e
    · exact ih r e
  | keep hx h ih =>
    rcases List.mem_cons.mp hm with e | e
    · cases e; exact ⟨_, hx, r.hd⟩
    · exact ih r.tl' e

structure DefAt (C : Cx) (F : FnI) (ps : List Str) (rest : List Str) (body : List Stmt) : Prop where
  look : ∃ oc od osl name params dV kV doc pm an ct, C.K.lookup F.a = some ⟨oc, od, .func (fnOf name F.qual params body F.scope dV kV doc pm an F.cd ct), osl⟩ ∧
    ∀ vs : List Value, vs.length = ps.length → bindArgs (fnOf name F.qual params body F.scope dV kV doc pm an F.cd ct) ⟨vs, []⟩ = pure (ps.zip vs)
  code : codeIn C.K F.cd F.qual = true
  locs : F.locs = ps ++ rest
  nocell : ∀ x ∈ F.scope.names, x.2 ≠ .cell
  noco : F.scope.isCoroutine = false
  nogen : F.scope.isGenerator = false

noncomputable def loc0 (ps rest : List Str) (args : List PV) : Loc := (ps.zip (args.map some)) ++ rest.map fun x => (x, none)
theorem loc0_names {ps rest : List Str} {args : List PV} (h : args.length = ps.length) : (loc0 ps rest args).map (·.1) = ps ++ rest := by
  simp only [loc0, List.map_append, List.map_map]
  congr 1
  · rw [List.map_fst_zip]; simp [h]
  · induction rest with
    | nil => rfl
    | cons a r ih => simp [ih]
theorem lookup_of_nodup {β : Type} {k : Str} {v : β} : ∀ {l : List (Str × β)}, (l.map (·.1)).Nodup → (k, v) ∈ l → l.lookup k = some v
  | [], _, h => nomatch h
  | (a, b) :: l, hn, h => by
    simp only [List.map_cons, List.nodup_cons] at hn
    rcases List.mem_cons.mp h with e | e
    · cases e; simp [List.lookup_cons]
    · have : a ≠ k := fun z => hn.1 (z ▸ List.mem_map_of_mem (f := (·.1)) e)
      have hb : (k == a) = false := by simpa using Ne.symm this
      rw [List.lookup_cons, hb]
      exact lookup_of_nodup hn.2 e
theorem loc0_rel {tl : Led} : ∀ {ps rest : List Str} {args : List PV} {vs : List Value}, VsRel tl args vs → args.length = ps.length → ps.Nodup →
    ∀ x pv, (x, some pv) ∈ loc0 ps rest args → ∃ v, (ps.zip vs).reverse.lookup x = some v ∧ VRel tl pv v := by
  intro ps rest args vs r hl hn x pv hm
  have hvl := r.length
  rcases List.mem_append.mp hm with h | h
  · obtain ⟨i, hi⟩ := List.mem_iff_getElem?.mp h
    rw [List.getElem?_zip_eq_some] at hi
    obtain ⟨h1, h2⟩ := hi
    rw [List.getElem?_map] at h2
    cases h3 : args[i]? with
    | none => rw [h3] at h2; cases h2
    | some p =>
      rw [h3] at h2
      cases h2
      obtain ⟨v, hv, rv⟩ := r.get h3
      refine ⟨v, lookup_of_nodup ?_ ?_, rv⟩
      · rw [List.map_reverse, List.map_fst_zip (by lia)]
        exact List.pairwise_reverse.mpr (hn.imp Ne.symm)
      · rw [List.mem_reverse, List.mem_iff_getElem?]
        exact ⟨i, List.getElem?_zip_eq_some.mpr ⟨h1, hv⟩⟩
  · obtain ⟨y, _, e⟩ := List.mem_map.mp h
    cases e

theorem Fn_of_body {f : Addr} (hf : F.a = f) {ps rest : List Str} {body : List Stmt} (D : DefAt C F ps rest body) {args : List PV} {ah : AH} {Q : PV → AH → Prop} (hl : args.length = ps.length)
    (h : ∀ V : Act C F, Ex V n body ⟨loc0 ps rest args, ah⟩ (fun st => Q .none st.ah) (fun p st => Q p st.ah) (fun _ => False)) : Fn C (n + 1) f args ah Q := by
  subst hf
  intro G V A s hp hv E vs loc ok hvl S
  obtain ⟨m, mu, tl, S⟩ := S
  obtain ⟨oc, od, osl, name, params, dV, kV, doc, pm, an, ct, hlook, hbind⟩ := D.look
  obtain ⟨lp, lv, LH, LV⟩ := LHold.make S.R
  obtain ⟨ra, rh⟩ := VsRel.cut hvl S.O
  have hn : ps.Nodup := (List.nodup_append.mp (D.locs ▸ F.hnd)).1
  have hdp := ok.dp
  have hun := ok.un
  refine callX_plain (cl := []) (name := name) (params := params) V.B S.F S.N V.T.nolimit ok.fr rfl G.hk ((V.X.keeps S.F.keep) _ _ hlook) rfl (codeRec_of (V.X.keeps S.F.keep) D.code) (by simp only [recursionLimit]; lia) (BindsTo.of_eq (hbind vs (by lia))) ?_ ?_ D.nocell D.noco D.nogen F.hk
  · intro y hy
    have : y.1 ∈ ps := List.of_mem_zip hy |>.1
    exact (F.hl y.1 (D.locs ▸ List.mem_append_left _ this)).1
  · intro g L' h₁ FG F' N' B' st₀ _
    have X' := V.X.keeps st₀
    have T' := V.T.keeps st₀
    let W : Act C F := ⟨L', A, V.base, g, V.env :: V.outer, B', X', T'⟩
    have ok' : W.Ok (A.deeper W.env) n := ⟨by show A.frames.map _ = _; rw [ok.fr]; rfl, ok.hd, by show A.depth + 1 + n < 1000; lia, by show A.units + 3 + 10 * n < 9900; lia⟩
    have S' : W.Sim ⟨loc0 ps rest args, ah⟩ (hp ++ lp) (hv ++ lv) ((vw s).to h₁) :=
      ⟨_, mu, tl, F', N', S.nd, S.H, (loc0_names hl).trans D.locs.symm, S.X, loc0_rel ra hl hn, rh.append LV⟩
    have fin : ∀ p v st' (s' : Shared), Q p st'.ah → W.Sim st' (p :: (hp ++ lp)) (v :: (hv ++ lv)) (vw s') →
        LeaveK V.h₀ V.L m g (fun r s' => match r with | .ok (.ret v) => Pst V hp hv (fun p st' => st'.loc = loc ∧ Q p st'.ah) v s' | .ok _ => False | .error e => E e s') v s' := by
      intro p v st' s' hq ⟨m', mu', tl', S'⟩
      refine leaveK_ S'.F S'.N fun F₀ N₀ => ⟨p, ⟨loc, st'.ah⟩, ⟨rfl, hq⟩, m, mu', tl', F₀, N₀, S'.nd, S'.H, S.nm, S'.X, ?_, ?_⟩
      · cases S'.O with
        | cons a b => exact LH.back (VsRel.cut rh.length b).2
      · cases S'.O with
        | cons a b => exact .cons a (VsRel.cut rh.length b).1
    refine wpAny_mono (h W _ _ _ _ _ ok' S') (fun f s1 hf => ?_) fun _ _ e => e
    cases f with
    | next => obtain ⟨st', hq, S2⟩ := hf; exact fin _ _ st' s1 hq (S2.push fun _ => .none)
    | cont => obtain ⟨st', hq, _⟩ := hf; exact hq.elim
    | brk => exact hf.elim
    | ret v => obtain ⟨p, st', hq, S2⟩ := hf; exact fin _ _ st' s1 hq S2

theorem Fn.mono {k : Nat} {f : Addr} {args : List PV} {ah : AH} {Q Q' : PV → AH → Prop} (h : Fn C n f args ah Q) (hk : n ≤ k) (hq : ∀ p ah', Q p ah' → Q' p ah') : Fn C k f args ah Q' := by
  intro G V A s hp hv E vs loc ok hvl S
  refine codeAny_mono (h _ V A s hp hv E vs loc (ok.le hk) hvl S) fun r s' x => ?_
  match r, x with
  | .ok (.ret v), ⟨p, st', ⟨a, b⟩, S'⟩ => exact ⟨p, st', ⟨a, hq _ _ b⟩, S'⟩
  | .error e, x => exact x

/-- what the caller's text knows of a name of the top -/
structure GlobAt (C : Cx) (g : Str) (f : Addr) : Prop where
  at_ : nsIn C.K mainGlobals g = some (some (.ref f))
  keep : keepIn C.K (.ref f) = true

theorem Ev_call {g : Str} {f : Addr} {gp pos : Pos} {e : Expr} {r : List Expr} {st : St} {Q : PV → St → Prop} (G : GlobAt C g f) (hg : g ∈ F.gls)
    (h : Es V n (e :: r) st fun ps st1 => Fn C n f ps st1.ah fun p ah' => Q p ⟨st1.loc, ah'⟩)
    (he : starEach (e :: r) V.env = (false, eval e V.env) :: starEach r V.env) (hpl : ∀ pos, (backTo pos (starEach r V.env)).any (·.1) = false) :
    Ev V n (.Call (.Name g gp) (e :: r) [] pos) st Q := by
  intro A s hp hv E ok S
  obtain ⟨m, mu, tl, S₀⟩ := id S
  refine Call_Name rfl (nameX_K S₀.F V.X (topRead_of V.T) G.at_ ?_ F.hk (F.hg g hg).1 (F.hg g hg).2)
  refine callWith_K (K := C.K) V.X G.keep ?_ he (hpl _)
  refine wpAny_mono (h A s hp hv E pos ok S) (fun vs s1 hx => ?_) fun _ _ e => e
  obtain ⟨ps, st1, h1, hl, S1⟩ := hx
  obtain ⟨m1, mu1, tl1, S1'⟩ := id S1
  refine ⟨V.X.keeps S1'.F.keep, ?_⟩
  refine wpAny_call (codeAny_mono (h1 _ V A s1 hp hv E vs st1.loc ok hl S1) fun r s' x => ?_)
  match r, x with
  | .ok (.ret v), ⟨p, ⟨l', a'⟩, ⟨a, b⟩, S'⟩ => cases a; exact ⟨p, ⟨_, a'⟩, b, S'⟩
  | .error e, x => exact x
end Mine
end
section
open PySem PySem.W PyProof.Rows
set_option Elab.async false
set_option genSizeOf false
set_option genInjectivity false
set_option maxRecDepth 100000
set_option maxHeartbeats 1000000
set_option linter.unusedVariables false
set_option linter.unusedSimpArgs false
namespace Mine

theorem len1 {α : Type} {l : List α} (h : l.length = 1) : ∃ a, l = [a] := by
  cases l with
  | nil => simp at h
  | cons a l => cases l with
    | nil => exact ⟨a, rfl⟩
    | cons b l => simp at h
theorem len2 {α : Type} {l : List α} (h : l.length = 2) : ∃ a b, l = [a, b] := by
  cases l with
  | nil => simp at h
  | cons a l => obtain ⟨b, rfl⟩ := len1 (l := l) (by simpa using h); exact ⟨a, b, rfl⟩
theorem len3 {α : Type} {l : List α} (h : l.length = 3) : ∃ a b c, l = [a, b, c] := by
  cases l with
  | nil => simp at h
  | cons a l => obtain ⟨b, c, rfl⟩ := len2 (l := l) (by simpa using h); exact ⟨a, b, c, rfl⟩

/-! ### the whole heap behind the top, as a part that is known -/
noncomputable def fragOf (h : Heap) : Frag := h.objs.toList.zipIdx.filterMap fun p => if p.1.isFreed then none else some (p.2, p.1)
theorem lookup_zip (l : List Obj) : ∀ (k a : Nat) (o : Obj), ((l.zipIdx k).filterMap fun p => if p.1.isFreed then none else some (p.2, p.1)).lookup a = some o → ∃ i, a = k + i ∧ l[i]? = some o ∧ o.isFreed = false := by
  induction l with
  | nil => intro k a o h; cases h
  | cons x l ih =>
    intro k a o h
    rw [List.zipIdx_cons, List.filterMap_cons] at h
    have step : ((l.zipIdx (k + 1)).filterMap fun p => if p.1.isFreed then none else some (p.2, p.1)).lookup a = some o → ∃ i, a = k + i ∧ (x :: l)[i]? = some o ∧ o.isFreed = false := fun h => by
      obtain ⟨i, rfl, hi, ho⟩ := ih (k + 1) a o h
      exact ⟨i + 1, by omega, by simpa using hi, ho⟩
    dsimp only at h
    cases hx : x.isFreed with
    | true => rw [hx] at h; exact step h
    | false =>
      rw [hx] at h
      simp only [Bool.false_eq_true, if_false] at h
      rw [List.lookup_cons] at h
      cases hb : (a == k) with
      | true =>
        rw [hb] at h
        cases h
        exact ⟨0, by simpa using hb, rfl, hx⟩
      | false => rw [hb] at h; exact step h
theorem fragOf_in (h : Heap) : (fragOf h).In h := fun a o e => by
  obtain ⟨i, rfl, hi, ho⟩ := lookup_zip _ 0 a o e
  rw [Nat.zero_add]
  have : h.objs[i]? = some o := by rw [← Array.getElem?_toList]; exact hi
  unfold Heap.get?
  rw [this]
  obtain ⟨c, d, dt, sl⟩ := o
  cases dt <;> first | rfl | (cases ho)

/-- what is looked at of a def of the top -/
structure Parts where
  qual : Str
  params : Arguments
  body : List Stmt
  scope : Scope
  ok : Bool
  deriving Inhabited

noncomputable def adr (K : Frag) (g : Str) : Addr := match nsIn K mainGlobals g with
  | some (some (.ref a)) => a
  | _ => 0
noncomputable def fnData (K : Frag) (a : Addr) : Option FuncData := match K.lookup a with
  | some ⟨_, _, .func fd, _⟩ => some fd
  | _ => none
noncomputable def cdOf (K : Frag) (a : Addr) : Value := match fnData K a with
  | some fd => fd.code
  | none => .none
noncomputable def partsAt (K : Frag) (a : Addr) : Option Parts := match fnData K a with
  | some ⟨_, qual, params, .stmts body, scope, gl, cl, dV, kV, _, _, _, code, _, bu⟩ => some ⟨qual, params, body, scope, gl == mainGlobals && cl.isEmpty && bu == builtinsNs && codeIn K code qual && dV == .none && kV == .none⟩
  | _ => none
noncomputable def isGlob (K : Frag) (g : Str) : Bool := nsIn K mainGlobals g == some (some (.ref (adr K g))) && keepIn K (.ref (adr K g))

/-- the def of that name in the text -/
noncomputable def defIn (ss : List Stmt) (g : Str) : Option Parts := ss.findSome? fun st => match st with
  | .FunctionDef name params body _ _ _ scope _ _ _ => if name == g then some ⟨g, params, body, scope, true⟩ else none
  | _ => none
noncomputable def clsBody (ss : List Stmt) (g : Str) : List Stmt := (ss.findSome? fun st => match st with
  | .ClassDef name _ _ body _ _ _ _ _ _ _ => if name == g then some body else none
  | _ => none).getD []

noncomputable def initAt (K : Frag) (C : Addr) : Addr := match findIn K (.ref C) "__init__" with
  | some (some (.ref f)) => f
  | _ => 0

theorem look_of_parts {K : Frag} {a : Addr} {P : Parts} (h : partsAt K a = some P) (ho : P.ok = true) :
    ∃ oc od osl name params doc pm an ct, K.lookup a = some ⟨oc, od, .func (fnOf name P.qual params P.body P.scope .none .none doc pm an (cdOf K a) ct), osl⟩ ∧ params = P.params ∧ codeIn K (cdOf K a) P.qual = true := by
  unfold partsAt at h
  unfold cdOf
  cases hf : fnData K a with
  | none => rw [hf] at h; cases h
  | some fd =>
    rw [hf] at h
    obtain ⟨name, qual, params, fb, scope, gl, cl, dV, kV, doc, pm, an, code, ct, bu⟩ := fd
    cases fb with
    | expr e => cases h
    | stmts body =>
      cases h
      simp only [Bool.and_eq_true, beq_iff_eq, List.isEmpty_iff] at ho
      obtain ⟨⟨⟨⟨⟨h1, h2⟩, h3⟩, h4⟩, h5⟩, h6⟩ := ho
      subst h1 h2 h3 h5 h6
      unfold fnData at hf
      split at hf
      · rename_i oc od fd osl q
        cases hf
        exact ⟨oc, od, osl, name, params, doc, pm, an, ct, q, rfl, h4⟩
      · cases hf

theorem defAt_of {C : Cx} {F : FnI} {ps rest : List Str} {P : Parts} (h : partsAt C.K F.a = some P) (ho : P.ok = true) (hc : F.cd = cdOf C.K F.a) (hq : F.qual = P.qual) (hs : F.scope = P.scope)
    (hb : ∀ name doc pm an ct code vs, vs.length = ps.length → bindArgs (fnOf name P.qual P.params P.body P.scope .none .none doc pm an code ct) ⟨vs, []⟩ = pure (ps.zip vs))
    (hl : F.locs = ps ++ rest) (hn : ∀ x ∈ P.scope.names, x.2 ≠ .cell) (h1 : P.scope.isCoroutine = false) (h2 : P.scope.isGenerator = false) : DefAt C F ps rest P.body := by
  obtain ⟨oc, od, osl, name, params, doc, pm, an, ct, hk, hp, hcode⟩ := look_of_parts h ho
  subst hp
  exact ⟨⟨oc, od, osl, name, _, .none, .none, doc, pm, an, ct, by rw [hc, hq, hs]; exact hk, fun vs hvs => by rw [hc, hq, hs]; exact hb name doc pm an ct _ vs hvs⟩, by rw [hc, hq]; exact hcode, hl, by rw [hs]; exact hn, by rw [hs]; exact h1, by rw [hs]; exact h2⟩

theorem globAt_of {C : Cx} {g : Str} (h : isGlob C.K g = true) : GlobAt C g (adr C.K g) := by
  obtain ⟨a, b⟩ := Bool.and_eq_true_iff.mp h
  exact ⟨beq_iff_eq.mp a, b⟩

/-- what is asked of the classes and the built-ins -/
noncomputable def fieldOk (K : Frag) (C : Addr) (x : Str) : Bool := findIn K (.ref C) x == some none && takerIn K C x == some none && plainGet K C x && noGet K none
noncomputable def clsOk (K : Frag) (C : Addr) (fields : List Str) : Bool := makesIn K C && findIn K (.ref C) "__init__" == some (some (.ref (initAt K C))) && typeIn K (.ref (initAt K C)) == some (.type "function") &&
  findIn K (.ref C) "__setattr__" == some (some (.builtin "object.__setattr__")) && plainOver K C && hasDictIn K C && isIn K (.ref C) C && fields.all (fieldOk K C)
/-- what is asked so that an instance is no tuple -/
noncomputable def noTup (K : Frag) (C : Addr) : Bool := plainGet K C "__class__" && findIn K (.ref C) "__class__" == some (some (.builtin "object.__class__")) && specialIn K (.builtin "object.__class__") "__get__" == some (some (.builtin "getset_descriptor.__get__")) &&
  takesIn K (.builtin "object.__class__") == some true && mroIn K C (.type "object") == some true && subIn K (.ref C) (.type "tuple") == some false

noncomputable def obsK (fns bs fields : List Str) (K : Frag) : Bool × List (Option Parts) × Option Parts :=
  (fns.all (isGlob K) && isGlob K "Picture" && bs.all (fun b => nsIn K mainGlobals b == some none) && (clsOk K (adr K "Picture") fields && noTup K (adr K "Picture")), fns.map (fun g => partsAt K (adr K g)), partsAt K (initAt K (adr K "Picture")))
noncomputable def valOf (ss : List Stmt) (fns : List Str) : Bool × List (Option Parts) × Option Parts :=
  (true, fns.map (defIn ss), (defIn (clsBody ss "Picture") "__init__").map fun p => { p with qual := "Picture.__init__" })

noncomputable def obsOf (fns bs fields : List Str) (h : Heap) : Bool × List (Option Parts) × Option Parts := obsK fns bs fields (fragOf h)
noncomputable def Says (ss : List Stmt) (fns bs fields : List Str) (w : World) (h : Heap) : Prop := ∃ K : Frag, K.In h ∧ obsK fns bs fields K = valOf ss fns
noncomputable def hook (ss : List Stmt) (fns bs fields : List Str) : Hook :=
  ⟨_, fun s => obsOf fns bs fields s.heap, fun _ => valOf ss fns, Says ss fns bs fields, fun w s e => ⟨fragOf s.heap, fragOf_in _, e⟩, fun w h h' ⟨k, a, b⟩ hk => ⟨k, a.keeps hk, b⟩⟩


/-- what stands behind the top, as used -/
structure Good (C : Cx) (ss : List Stmt) (fns bs fields : List Str) : Prop where
  obs : obsK fns bs fields C.K = valOf ss fns
section
variable {C : Cx} {ss : List Stmt} {fns bs fields : List Str}
theorem Good.checks (G : Good C ss fns bs fields) : fns.all (isGlob C.K) = true ∧ isGlob C.K "Picture" = true ∧ bs.all (fun b => nsIn C.K mainGlobals b == some none) = true ∧ clsOk C.K (adr C.K "Picture") fields = true := by
  have := congrArg Prod.fst G.obs
  simp only [obsK, valOf, Bool.and_eq_true] at this
  exact ⟨this.1.1.1, this.1.1.2, this.1.2, this.2.1⟩
theorem Good.noTup (G : Good C ss fns bs fields) : noTup C.K (adr C.K "Picture") = true := by
  have := congrArg Prod.fst G.obs
  simp only [obsK, valOf, Bool.and_eq_true] at this
  exact this.2.2
theorem Good.glob (G : Good C ss fns bs fields) {g : Str} (h : g ∈ fns) : GlobAt C g (adr C.K g) := globAt_of (List.all_eq_true.mp G.checks.1 g h)
theorem Good.parts (G : Good C ss fns bs fields) {g : Str} (h : g ∈ fns) : partsAt C.K (adr C.K g) = defIn ss g := by
  have := congrArg (fun x => x.2.1) G.obs
  exact List.map_inj_left.mp this g h
theorem Good.builtin (G : Good C ss fns bs fields) {b : Str} (h : b ∈ bs) : nsIn C.K mainGlobals b = some none := beq_iff_eq.mp (List.all_eq_true.mp G.checks.2.2.1 b h)
end
end Mine
end
section
open PySem PySem.W PyProof.Rows
set_option Elab.async false
set_option genSizeOf false
set_option genInjectivity false
set_option maxRecDepth 100000
set_option maxHeartbeats 1000000
set_option linter.unusedVariables false
set_option linter.unusedSimpArgs false
namespace Mine
variable {C : Cx} {F : FnI} {V : Act C F} {n : Nat}

theorem Sim.str_push {h₀ : Heap} {h : HS} {L : Addr} {locs : List Str} {st : St} {hp : List PV} {hv : List Value} {l : List Nat} {x : Str} {t : Tok} (S : Sim C h₀ L locs st hp hv h) (e : x.cps.toList = l) : Sim C h₀ L locs st (.str l :: hp) (.str x t :: hv) h :=
  S.push fun tl => e ▸ .str x t
/-- another heap with the same frame and ledger -/
theorem Sim0.heap {h₀ h' : Heap} {h : HS} {L : Addr} {locs : List Str} {st : St} {hp : List PV} {hv : List Value} {m : Str → Option Value} {mu tl : Led} (S : Sim0 C h₀ L locs st hp hv h m mu tl) (F' : Fr h₀ L h' m) (N' : News h₀ L h' (mu ++ tl)) :
    Sim C h₀ L locs st hp hv (h.to h') := ⟨m, mu, tl, F', N', S.nd, S.H, S.nm, S.X, S.R, S.O⟩

/-! ### ints -/
section
variable {a b : Int} {st : St} {Q : PV → St → Prop} {QB : Bool → St → Prop}
theorem intOp {A : Around} {s s' : Shared} {hp : List PV} {hv : List Value} {x y : PV} {vx vy : Value} {i : Int} {t : Tok} (S : V.Sim st (y :: x :: hp) (vy :: vx :: hv) (vw s)) (h : Q (.int i) st) (he : vw s' = vw s) : Pst V hp hv Q (.int i t) s' :=
  ⟨_, st, h, by rw [he]; exact (Sim.drop1 (Sim.drop1 S)).push fun _ => .int _ _⟩
theorem Bo_add_int (h : Q (.int (a + b)) st) : Bo V n .Add (.int a) (.int b) st Q := by
  intro A s hp hv E vx vy ok S
  obtain ⟨t, rfl⟩ := S.int1; obtain ⟨u, rfl⟩ := S.drop1.int1
  exact PyProof.Rows.add_int (intOp (A := A) S h rfl)
theorem Bo_sub_int (h : Q (.int (a - b)) st) : Bo V n .Sub (.int a) (.int b) st Q := by
  intro A s hp hv E vx vy ok S
  obtain ⟨t, rfl⟩ := S.int1; obtain ⟨u, rfl⟩ := S.drop1.int1
  exact PyProof.Rows.sub_int (intOp (A := A) S h rfl)
theorem Bo_mul_int (hm : IntMulOk a b) (h : Q (.int (a * b)) st) : Bo V n .Mult (.int a) (.int b) st Q := by
  intro A s hp hv E vx vy ok S
  obtain ⟨t, rfl⟩ := S.int1; obtain ⟨u, rfl⟩ := S.drop1.int1
  exact PyProof.Rows.mul_int (intOp (A := A) S h rfl) hm
theorem Bo_div_int (hb : 0 < b) (hs : b.natAbs.log2 < 9000) (h : Q (.int (a / b)) st) : Bo V n .FloorDiv (.int a) (.int b) st Q := by
  intro A s hp hv E vx vy ok S
  obtain ⟨t, rfl⟩ := S.int1; obtain ⟨u, rfl⟩ := S.drop1.int1
  refine PyProof.Rows.floordiv_int (by lia) ?_ (.inl (PyProof.noPylong_of_log2 hs))
  rw [Int.fdiv_eq_ediv_of_nonneg _ (by lia)]
  exact intOp (A := A) S h rfl
theorem Bo_mod_int (hb : 0 < b) (h : Q (.int (a % b)) st) : Bo V n .Mod (.int a) (.int b) st Q := by
  intro A s hp hv E vx vy ok S
  obtain ⟨t, rfl⟩ := S.int1; obtain ⟨u, rfl⟩ := S.drop1.int1
  refine PyProof.Rows.mod_int (by lia) ?_
  rw [Int.fmod_eq_emod_of_nonneg _ (by lia)]
  exact intOp (A := A) S h rfl
theorem Bo_pow_int (hb : 0 ≤ b) (hs : (Builtin.Int.intBits a : Int) * b ≤ 2 ^ 27) (h : Q (.int (a ^ b.toNat)) st) : Bo V n .Pow (.int a) (.int b) st Q := by
  intro A s hp hv E vx vy ok S
  obtain ⟨t, rfl⟩ := S.int1; obtain ⟨u, rfl⟩ := S.drop1.int1
  exact PyProof.Rows.pow_int hb hs (intOp (A := A) S h rfl)
theorem Uo_neg (h : Q (.int (-a)) st) : Uo V n .USub (.int a) st Q := by
  intro A s hp hv E vx ok S
  obtain ⟨t, rfl⟩ := S.int1
  exact PyProof.Rows.neg_int ⟨_, st, h, (Sim.drop1 S).push fun _ => .int _ _⟩
theorem Uo_not {b : Bool} (h : Q (.bool (!b)) st) : Uo V n .Not (.bool b) st Q := by
  intro A s hp hv E vx ok S
  obtain rfl := S.bool1
  exact not_of (wpAny_truthy_bool ⟨_, st, h, (Sim.drop1 S).push fun _ => .bool _⟩)
theorem cmpOp {s : Shared} {hp : List PV} {hv : List Value} {x y : PV} {vx vy : Value} {b : Bool} (S : V.Sim st (y :: x :: hp) (vy :: vx :: hv) (vw s)) (h : QB b st) : ∃ c, Value.bool b = .bool c ∧ PstB V hp hv QB c s :=
  ⟨b, rfl, st, h, Sim.drop1 (Sim.drop1 S)⟩
theorem Co_eq_int (h : QB (decide (a = b)) st) : Co V n .Eq (.int a) (.int b) st QB := by
  intro A s hp hv E vx vy ok S
  obtain ⟨t, rfl⟩ := S.int1; obtain ⟨u, rfl⟩ := S.drop1.int1
  exact PyProof.Rows.eq_int (cmpOp S h)
theorem Co_ne_int (h : QB (!decide (a = b)) st) : Co V n .NotEq (.int a) (.int b) st QB := by
  intro A s hp hv E vx vy ok S
  obtain ⟨t, rfl⟩ := S.int1; obtain ⟨u, rfl⟩ := S.drop1.int1
  exact PyProof.Rows.ne_int (cmpOp S h)
theorem Co_lt_int (h : QB (decide (a < b)) st) : Co V n .Lt (.int a) (.int b) st QB := by
  intro A s hp hv E vx vy ok S
  obtain ⟨t, rfl⟩ := S.int1; obtain ⟨u, rfl⟩ := S.drop1.int1
  exact PyProof.Rows.lt_int (cmpOp S h)
theorem Co_le_int (h : QB (decide (a ≤ b)) st) : Co V n .LtE (.int a) (.int b) st QB := by
  intro A s hp hv E vx vy ok S
  obtain ⟨t, rfl⟩ := S.int1; obtain ⟨u, rfl⟩ := S.drop1.int1
  exact PyProof.Rows.le_int (cmpOp S h)
theorem Co_gt_int (h : QB (decide (b < a)) st) : Co V n .Gt (.int a) (.int b) st QB := by
  intro A s hp hv E vx vy ok S
  obtain ⟨t, rfl⟩ := S.int1; obtain ⟨u, rfl⟩ := S.drop1.int1
  exact PyProof.Rows.gt_int (cmpOp S h)
theorem Co_ge_int (h : QB (decide (b ≤ a)) st) : Co V n .GtE (.int a) (.int b) st QB := by
  intro A s hp hv E vx vy ok S
  obtain ⟨t, rfl⟩ := S.int1; obtain ⟨u, rfl⟩ := S.drop1.int1
  exact PyProof.Rows.ge_int (cmpOp S h)
end

/-! ### texts -/
noncomputable def clip (n : Nat) (v : Option Int) (d : Nat) : Nat := match v with
  | none => d
  | some i => (max 0 (min (if i < 0 then i + n else i) n)).toNat
noncomputable def pySlice {α : Type} (lo hi : Option Int) (l : List α) : List α := (l.take (clip l.length hi l.length)).drop (clip l.length lo 0)
noncomputable def pyMul (l : List Nat) (n : Int) : List Nat := (List.replicate n.toNat l).flatten

theorem filterMap_same {α β : Type} {f g : α → Option β} : ∀ {l : List α}, (∀ x ∈ l, f x = g x) → l.filterMap f = l.filterMap g
  | [], _ => rfl
  | a :: l, h => by
    rw [List.filterMap_cons, List.filterMap_cons, h a (.head _), filterMap_same fun x hx => h x (.tail _ hx)]
theorem range_pick (l : List Nat) (a b : Nat) (hb : b ≤ l.length) : ((List.range (b - a)).map fun k => a + k).filterMap (fun i => l[i]?) = (l.take b).drop a := by
  have key : ∀ (k : Nat), (∀ j, j < k → a + j < l.length) → ((List.range k).map fun k => a + k).filterMap (fun i => l[i]?) = (List.range k).map (fun j => l.getD (a + j) 0) := by
    intro k hk
    rw [List.filterMap_map, ← List.filterMap_eq_map]
    apply filterMap_same
    intro j hj
    have := hk j (List.mem_range.mp hj)
    simp [List.getD, this]
  rw [key _ (by intro j hj; lia)]
  apply List.ext_getElem?
  intro i
  by_cases hi : i < b - a
  · rw [List.getElem?_map, List.getElem?_range hi, List.getElem?_drop, List.getElem?_take]
    rw [if_pos (by lia)]
    have : a + i < l.length := by lia
    simp [List.getD, this]
  · rw [List.getElem?_map, List.getElem?_drop, List.getElem?_take, if_neg (by lia)]
    simp; lia
noncomputable def clipI (n : Int) (v : Option Int) (d : Int) : Int := match v with
  | none => d
  | some i => max 0 (min (if i < 0 then i + n else i) n)
theorem clip_eq (n : Nat) (v : Option Int) (d : Nat) (hd : d ≤ n) : clipI n v d = (clip n v d : Int) ∧ clip n v d ≤ n := by
  cases v with
  | none => exact ⟨rfl, hd⟩
  | some i => unfold clip clipI; dsimp only; constructor <;> split <;> lia
theorem slice_idx (lo hi : Option Int) (n : Nat) : Builtin.Str.strSliceIndices lo hi 1 n = sliceRange (clipI n lo 0) (clipI n hi n) 1 := by
  cases lo <;> cases hi <;> rfl
theorem slice_list (x : Str) (lo hi : Option Int) : (Txt.slice x lo hi).cps.toList = pySlice lo hi x.cps.toList := by
  have hlen : x.length = x.cps.toList.length := by simp [Str.length]
  obtain ⟨ha, ha'⟩ := clip_eq x.length lo 0 (Nat.zero_le _)
  obtain ⟨hb, hb'⟩ := clip_eq x.length hi x.length (Nat.le_refl _)
  have idx : Builtin.Str.strSliceIndices lo hi 1 x.length = (List.range (clip x.length hi x.length - clip x.length lo 0)).map fun k => clip x.length lo 0 + k := by
    rw [slice_idx, show ((0 : Int)) = ((0 : Nat) : Int) from rfl, ha, hb]
    unfold sliceRange
    simp only [show (1 : Int) > 0 by decide, if_true, Int.one_mul]
    have hc : (if (clip x.length lo 0 : Int) < clip x.length hi x.length then ((clip x.length hi x.length : Int) - clip x.length lo 0 + 1 - 1) / 1 else 0).toNat = clip x.length hi x.length - clip x.length lo 0 := by
      split <;> lia
    rw [hc]
    apply List.map_congr_left
    intro k _
    lia
  unfold Txt.slice
  rw [idx]
  have hp : pySlice lo hi x.cps.toList = (x.cps.toList.take (clip x.length hi x.length)).drop (clip x.length lo 0) := by unfold pySlice; rw [← hlen]
  rw [hp, ← range_pick _ _ _ (by rw [← hlen]; exact hb')]
  split
  · rename_i hc
    simp only [List.length_map, List.length_range, Bool.and_eq_true, beq_iff_eq] at hc
    have h1 : clip x.length lo 0 = 0 := by lia
    have h2 : clip x.length hi x.length = x.length := by lia
    rw [range_pick _ _ _ (by rw [← hlen]; exact hb'), h1, h2, hlen]
    simp only [List.drop_zero]
    exact (List.take_of_length_le (by simp)).symm
  · show (List.filterMap _ _).toArray.toList = _
    rw [List.toList_toArray]
    apply filterMap_same
    intro i _
    rw [Array.getElem?_toList]
theorem foldl_app (l : List Nat) : ∀ (k : Nat) (a : Array Nat), ((List.replicate k l.toArray).foldl (· ++ ·) a).toList = a.toList ++ (List.replicate k l).flatten
  | 0, a => by simp
  | k + 1, a => by
    rw [List.replicate_succ, List.foldl_cons, foldl_app l k, List.replicate_succ, List.flatten_cons]
    simp
theorem mul_list (x : Str) (k : Int) : (Txt.mul x k).cps.toList = pyMul x.cps.toList k := by
  unfold Txt.mul pyMul
  split
  · have : k.toNat = 0 := by lia
    rw [this]; rfl
  · split
    · rename_i h1 h2
      simp only [Bool.or_eq_true, beq_iff_eq] at h2
      rcases h2 with rfl | h2
      · simp
      · have : x.cps.toList = [] := by
          have : x.cps.size = 0 := h2
          simpa using this
        rw [this]
        simp
    · show ((List.replicate k.toNat x.cps).foldl (· ++ ·) #[]).toList = _
      have := foldl_app x.cps.toList k.toNat #[]
      simpa using this

theorem cps_append (x y : Str) : (x ++ y).cps.toList = x.cps.toList ++ y.cps.toList := by
  show (x.cps ++ y.cps).toList = _
  simp
theorem len_eq (x : Str) : x.length = x.cps.toList.length := by simp [Str.length]
theorem str_ext {x y : Str} (h : x.cps.toList = y.cps.toList) : x = y := by
  cases x; cases y; simp only [Str.mk.injEq]; exact Array.toList_inj.mp h
theorem str_beq (x y : Str) : (x == y) = decide (x.cps.toList = y.cps.toList) := by
  by_cases h : x = y
  · subst h; simp
  · have : x.cps.toList ≠ y.cps.toList := fun e => h (str_ext e)
    simp [h, this]
section
variable {x y : List Nat} {k : Int} {st : St} {Q : PV → St → Prop} {QB : Bool → St → Prop}
noncomputable abbrev Small (x : List Nat) : Prop := x.length ≤ 1000000
theorem Bo_add_str (h1 : x.length + y.length ≤ 1000000) (h : Q (.str (x ++ y)) st) : Bo V n .Add (.str x) (.str y) st Q := by
  intro A s hp hv E vx vy ok S
  obtain ⟨b, t, rfl, rfl⟩ := S.str1; obtain ⟨a, u, rfl, rfl⟩ := S.drop1.str1
  refine PyProof.Rows.add_str (fun t' tk => ⟨_, st, h, S.drop1.drop1.str_push (cps_append _ _)⟩) ?_
  rw [sizeLine_eq, len_eq, len_eq]; lia
theorem Bo_mul_str (h1 : k < 1000000) (h2 : x.length * k.toNat ≤ 1000000) (h : Q (.str (pyMul x k)) st) (h3 : -1000000 < k) : Bo V n .Mult (.str x) (.int k) st Q := by
  intro A s hp hv E vx vy ok S
  obtain ⟨t, rfl⟩ := S.int1; obtain ⟨a, u, rfl, rfl⟩ := S.drop1.str1
  refine SB.mul ⟨?_, fun hk hc => ?_, fun hk hc => ?_⟩ fun t' k' => ⟨_, st, h, S.drop1.drop1.str_push (mul_list _ _)⟩
  · simp only [Bool.or_eq_false_iff, decide_eq_false_iff_not]; lia
  · rw [len_eq]
    have h0 : (0 : Int) < k := by lia
    have e1 : (a.cps.toList.length : Int) * k ≤ 1000000 := by
      have := h2
      have e : ((a.cps.toList.length * k.toNat : Nat) : Int) ≤ 1000000 := by lia
      rwa [Int.natCast_mul, Int.toNat_of_nonneg (by lia)] at e
    have e2 : (a.cps.toList.length : Int) ≤ 1000000 := by
      have : (a.cps.toList.length : Int) * 1 ≤ a.cps.toList.length * k := Int.mul_le_mul_of_nonneg_left (by lia) (Int.natCast_nonneg _)
      lia
    have e3 : (1000001 : Int) ≤ (2 ^ 63 - 1) / k := by
      rw [Int.le_ediv_iff_mul_le h0]
      have : 1000001 * k ≤ 1000001 * 1000000 := Int.mul_le_mul_of_nonneg_left (by lia) (by lia)
      lia
    lia
  · have : a.length * k.toNat ≤ 1000000 := by rw [len_eq]; exact h2
    exact decide_eq_false (by rw [sizeLine_eq]; lia)
theorem Co_eq_str (h : QB (decide (x = y)) st) : Co V n .Eq (.str x) (.str y) st QB := by
  intro A s hp hv E vx vy ok S
  obtain ⟨b, t, rfl, rfl⟩ := S.str1; obtain ⟨a, u, rfl, rfl⟩ := S.drop1.str1
  exact PyProof.Rows.eq_str (by rw [str_beq]; exact cmpOp S h)
theorem Co_ne_str (h : QB (!decide (x = y)) st) : Co V n .NotEq (.str x) (.str y) st QB := by
  intro A s hp hv E vx vy ok S
  obtain ⟨b, t, rfl, rfl⟩ := S.str1; obtain ⟨a, u, rfl, rfl⟩ := S.drop1.str1
  refine PyProof.Rows.ne_str ?_
  have : (a != b) = !decide (a.cps.toList = b.cps.toList) := by rw [← str_beq]; rfl
  rw [this]; exact cmpOp S h
end

/-! ### places and parts of a text -/
noncomputable def oi : PV → Option (Option Int)
  | .none => some none
  | .int i => some (some i)
  | _ => none
/-- an end of a slice -/
noncomputable def Eo (V : Act C F) (n : Nat) : Option Expr → St → (PV → St → Prop) → Prop
  | none, st, Q => Q .none st
  | some e, st, Q => Ev V n e st Q
theorem Eo_run {o : Option Expr} {st : St} {Q : PV → St → Prop} (h : Eo V n o st Q) (A : Around) (s : Shared) (hp : List PV) (hv : List Value) (E : Value → Shared → Prop) (ok : V.Ok A n) (S : V.Sim st hp hv (vw s)) :
    wpAny (M C) A (evalPart o V.env) (Pst V hp hv Q) E s := by
  cases o with
  | none => exact evalPart_none_step ⟨_, st, h, S.push fun _ => .none⟩
  | some e => exact evalPart_some_step (h A s hp hv E ok S)
theorem Sim.frN {h₀ : Heap} {h : HS} {L : Addr} {locs : List Str} {st : St} {hp : List PV} {hv : List Value} (S : Sim C h₀ L locs st hp hv h) :
    ∃ m N, Fr h₀ L h.heap m ∧ News h₀ L h.heap N ∧ ∀ h', Fr h₀ L h' m → News h₀ L h' N → Sim C h₀ L locs st hp hv (h.to h') := by
  obtain ⟨m, mu, tl, S⟩ := S
  exact ⟨m, _, S.F, S.N, fun h' F' N' => S.heap F' N'⟩
theorem tempGo_str (value : Expr) (x : Str) (t : Tok) (r : Value) : letTemporaryGo value (.str x t) r = pure () := by cases value <;> rfl
theorem Ev_slice {value : Expr} {lo hi : Option Expr} {p pos : Pos} {st : St} {Q : PV → St → Prop}
    (h : Ev V n value st fun x st1 => Eo V n lo st1 fun l st2 => Eo V n hi st2 fun u st3 => ∃ t a b, x = .str t ∧ oi l = some a ∧ oi u = some b ∧ Small t ∧ Q (.str (pySlice a b t)) st3) :
    Ev V n (.Subscript value (.Slice lo hi none p) pos) st Q := by
  intro A s hp hv E ok S
  refine Subscript_ (wpAny_mono (h A s hp hv E ok S) (fun vx s1 hx => ?_) fun _ _ e => e)
  obtain ⟨x, st1, h1, S1⟩ := hx
  refine wpAny_Slice (wpAny_mono (Eo_run h1 A s1 _ _ E ok S1) (fun vl s2 hx => ?_) fun _ _ e => e)
  obtain ⟨l, st2, h2, S2⟩ := hx
  refine wpAny_mono (Eo_run h2 A s2 _ _ E ok S2) (fun vu s3 hx => ?_) fun _ _ e => e
  obtain ⟨u, st3, ⟨t, a, b, ex, el, eu, hs, h3⟩, S3⟩ := hx
  refine evalPart_none_step ?_
  subst ex
  have S4 := S3.drop1.drop1.drop1
  obtain ⟨m, N, F3, N3, back⟩ := S4.frN
  obtain ⟨y, ty, rfl, rfl⟩ := S3.drop1.drop1.str1
  have sz : y.length ≤ sizeLine := by rw [sizeLine_eq, len_eq]; simp only [Small] at hs; lia
  have fin : ∀ h' t' k, Fr V.h₀ V.L h' m → News V.h₀ V.L h' N → Pst V hp hv Q (.str (Txt.slice y a b) t') { s3 with heap := h', toks := k } :=
    fun h' t' k F' N' => ⟨_, st3, h3, (back h' F' N').str_push (slice_list _ _ _)⟩
  cases l <;> simp only [oi, Option.some.injEq, reduceCtorEq] at el <;> cases u <;> simp only [oi, Option.some.injEq, reduceCtorEq] at eu <;> subst el <;> subst eu
  · obtain rfl := S3.none1; obtain rfl := S3.drop1.none1
    exact slice_strN_nn F3 N3 fin rfl (fun r => tempGo_str _ _ _ _) sz
  · obtain ⟨_, rfl⟩ := S3.int1; obtain rfl := S3.drop1.none1
    exact slice_strN_ns F3 N3 fin rfl (fun r => tempGo_str _ _ _ _) sz
  · obtain rfl := S3.none1; obtain ⟨_, rfl⟩ := S3.drop1.int1
    exact slice_strN_sn F3 N3 fin rfl (fun r => tempGo_str _ _ _ _) sz
  · obtain ⟨_, rfl⟩ := S3.int1; obtain ⟨_, rfl⟩ := S3.drop1.int1
    exact slice_strN_ss F3 N3 fin rfl (fun r => tempGo_str _ _ _ _) sz

/-- x[i] for whatever x is -/
noncomputable def Gi (V : Act C F) (n : Nat) (x i : PV) (st : St) (Q : PV → St → Prop) : Prop :=
  ∀ A s hp hv E vx vi value slice, V.Ok A n → V.Sim st (i :: x :: hp) (vi :: vx :: hv) (vw s) → (∀ o i, subscripted slice false o i = operate [o, i] (getItem o i)) →
    wpAny (M C) A (subscriptTail value slice vx vi) (Pst V hp hv Q) E s
theorem Ev_item {value i : Expr} {pos : Pos} {st : St} {Q : PV → St → Prop} (h : Ev V n value st fun x st1 => Ev V n i st1 fun j st2 => Gi V n x j st2 Q)
    (hs : ∀ o v, subscripted i false o v = operate [o, v] (getItem o v) := by intro _ _; rfl) : Ev V n (.Subscript value i pos) st Q := by
  intro A s hp hv E ok S
  refine Subscript_ (wpAny_mono (h A s hp hv E ok S) (fun vx s1 hx => ?_) fun _ _ e => e)
  obtain ⟨x, st1, h1, S1⟩ := hx
  refine wpAny_mono (h1 A s1 _ _ E ok S1) (fun vi s2 hx => ?_) fun _ _ e => e
  obtain ⟨j, st2, h2, S2⟩ := hx
  exact h2 A s2 hp hv E vx vi value i ok S2 hs
/-- the place that an index means -/
noncomputable def pyIdx (n : Nat) (i : Int) : Nat := (if i < 0 then i + n else i).toNat
theorem seqIdx {n : Nat} {i : Int} (h1 : -(n : Int) ≤ i) (h2 : i < n) : seqIndex? i n = some (pyIdx n i) ∧ pyIdx n i < n := by
  unfold pyIdx
  constructor
  · unfold seqIndex?
    dsimp only
    rw [if_pos]
    simp only [Bool.and_eq_true, decide_eq_true_eq]
    split <;> lia
  · split <;> lia
theorem Gi_str {t : List Nat} {i : Int} {st : St} {Q : PV → St → Prop} (hs : Small t) (h1 : -(t.length : Int) ≤ i) (h2 : i < t.length) (h : Q (.str [t.getD (pyIdx t.length i) 0]) st) : Gi V n (.str t) (.int i) st Q := by
  intro A s hp hv E vx vi value slice ok S hsub
  obtain ⟨u, rfl⟩ := S.int1; obtain ⟨x, t', rfl, rfl⟩ := S.drop1.str1
  simp only [Small] at hs
  obtain ⟨a, b⟩ := seqIdx h1 h2
  refine tail_any (typeIs_str _ _ _) PySem.F.slot_str_getitem.lookup (PyProof.Rows.getItem_str (c := x.cps.toList.getD (pyIdx x.cps.toList.length i) 0) ?_ ?_ ⟨_, st, h, S.drop1.drop1.str_push rfl⟩) (hsub _ _)
  · simp only [Bool.or_eq_false_iff, decide_eq_false_iff_not]; lia
  · rw [len_eq, a]
    simp only [Option.bind_some, ← Array.getElem?_toList]
    rw [List.getD_eq_getElem?_getD, List.getElem?_eq_getElem b]; rfl
end Mine
end
section
open PySem PySem.W PyProof.Rows
set_option Elab.async false
set_option genSizeOf false
set_option genInjectivity false
set_option maxRecDepth 100000
set_option maxHeartbeats 1000000
set_option linter.unusedVariables false
set_option linter.unusedSimpArgs false
namespace Mine
variable {C : Cx} {F : FnI} {V : Act C F} {n : Nat}

/-! ### tuples made -/
theorem lt_of_news {h₀ h : Heap} {L : Addr} {N : Led} (h' : News h₀ L h N) : ∀ p ∈ N, p.1 < h.objs.size := fun p hp => Heap.lt_size (h' p hp).1
theorem Sim0.tup {h₀ h' : Heap} {h : HS} {L : Addr} {locs : List Str} {st : St} {hp : List PV} {hv : List Value} {m : Str → Option Value} {mu tl : Led} {ps : List PV} {vs : List Value} {a : Addr} (S : Sim0 C h₀ L locs st (ps ++ hp) (vs ++ hv) h m mu tl)
    (hl : vs.length = ps.length) (ha : ∀ p ∈ mu ++ tl, p.1 ≠ a) (F' : Fr h₀ L h' m) (N' : News h₀ L h' ((a, tupObj vs) :: (mu ++ tl))) : Sim C h₀ L locs st (.tuple ps :: hp) (.ref a :: hv) (h.to h') := by
  obtain ⟨x, y⟩ := VsRel.cut hl S.O
  have up : ∀ z ∈ tl, z ∈ (a, tupObj vs) :: tl := fun z hz => .tail _ hz
  refine ⟨m, mu, (a, tupObj vs) :: tl, F', fun p hp => N' p ?_, ?_, S.H.mono up, S.nm, S.X, fun z pv hz => ?_, .cons (.tuple a ps vs (.head _) (x.mono up)) (y.mono up)⟩
  · simp only [List.mem_append, List.mem_cons] at hp ⊢; rcases hp with h | h | h
    · exact .inr (.inl h)
    · exact .inl h
    · exact .inr (.inr h)
  · have hd := S.nd
    simp only [List.map_append, List.map_cons] at hd ⊢
    rw [List.nodup_append] at hd ⊢
    obtain ⟨h1, h2, h3⟩ := hd
    refine ⟨h1, List.nodup_cons.mpr ⟨fun hm => ?_, h2⟩, fun b hb c hc => ?_⟩
    · obtain ⟨p, hp, e⟩ := List.mem_map.mp hm
      exact ha p (List.mem_append_right _ hp) e
    · rcases List.mem_cons.mp hc with rfl | hc
      · obtain ⟨p, hp, e⟩ := List.mem_map.mp hb
        exact fun q => ha p (List.mem_append_left _ hp) (e.trans q)
      · exact h3 b hb c hc
  · obtain ⟨v, hv, r⟩ := S.R z pv hz
    exact ⟨v, hv, r.mono up⟩
theorem Ev_tuple {elts : List Expr} {k : Nat} {pos : Pos} {st : St} {Q : PV → St → Prop} (h : Es V n elts st fun ps st1 => ps.length ≤ 1000 ∧ Q (.tuple ps) st1) : Ev V n (.Tuple elts k pos) st Q := by
  intro A s hp hv E ok S
  refine Tuple_ (wpAny_mono (h A s hp hv E pos ok S) (fun vs s1 hx => ?_) fun _ _ e => e)
  obtain ⟨ps, st1, ⟨h0, h1⟩, hl, S1⟩ := hx
  obtain ⟨m, mu, tl, S1⟩ := S1
  refine newTuple_N S1.F S1.N (fun h' F' N' => ⟨_, st1, h1, S1.tup hl (fun p hp => Nat.ne_of_lt (lt_of_news S1.N p hp)) F' N'⟩) ?_
  rw [sizeLine_eq]; lia

/-! ### targets -/
noncomputable def As (V : Act C F) (n : Nat) (t : Expr) (p : PV) (st : St) (Q : St → Prop) : Prop :=
  ∀ A s hp hv E v, V.Ok A n → V.Sim st (p :: hp) (v :: hv) (vw s) → wpAny (M C) A (assign t V.env v) (fun _ s' => ∃ st', Q st' ∧ V.Sim st' hp hv (vw s')) E s
/-- the targets of a tuple, one after the other -/
noncomputable def AsL (V : Act C F) (n : Nat) (ts : List Expr) (ps : List PV) (st : St) (Q : St → Prop) : Prop :=
  ∀ A s hp hv E vs, V.Ok A n → vs.length = ps.length → V.Sim st (ps ++ hp) (vs ++ hv) (vw s) → wpAny (M C) A (assignInOrder ((assignEach ts V.env).map (·.2)) vs) (fun _ s' => ∃ st', Q st' ∧ V.Sim st' hp hv (vw s')) E s
theorem AsL_nil {st : St} {Q : St → Prop} (h : Q st) : AsL V n [] [] st Q := by
  intro A s hp hv E vs ok hl S
  cases vs with
  | nil => exact wpAny_pure ⟨st, h, S⟩
  | cons _ _ => simp at hl
theorem AsL_cons {t : Expr} {r : List Expr} {p : PV} {ps : List PV} {st : St} {Q : St → Prop} (h : As V n t p st fun st1 => AsL V n r ps st1 Q)
    (he : assignEach (t :: r) V.env = (false, assign t V.env) :: assignEach r V.env) : AsL V n (t :: r) (p :: ps) st Q := by
  intro A s hp hv E vs ok hl S
  cases vs with
  | nil => simp at hl
  | cons v vs =>
    rw [he]
    show wpAny (M C) A (do holding vs (assign t V.env v); assignInOrder ((assignEach r V.env).map (·.2)) vs) _ E s
    refine wpAny_bind (wpAny_holding (wpAny_mono (h A s _ _ E v ok S) (fun _ s1 hx => ?_) fun _ _ e => e))
    obtain ⟨st1, h1, S1⟩ := hx
    exact h1 A s1 hp hv E vs ok (by simpa using hl) S1
theorem Sim.untup {h₀ : Heap} {h : HS} {L : Addr} {locs : List Str} {st : St} {hp : List PV} {hv : List Value} {ps : List PV} {v : Value} (S : Sim C h₀ L locs st (.tuple ps :: hp) (v :: hv) h) :
    ∃ a vs m N, v = .ref a ∧ vs.length = ps.length ∧ Fr h₀ L h.heap m ∧ News h₀ L h.heap N ∧ (a, tupObj vs) ∈ N ∧ ∀ h', Fr h₀ L h' m → News h₀ L h' N → Sim C h₀ L locs st (ps ++ hp) (vs ++ hv) (h.to h') := by
  obtain ⟨m, mu, tl, S⟩ := S
  cases hO : S.O with
  | cons a b =>
    cases a with
    | tuple a ps vs hm r =>
      exact ⟨a, vs, m, mu ++ tl, rfl, r.length, S.F, S.N, List.mem_append_right _ hm, fun h' F' N' => ⟨m, mu, tl, F', N', S.nd, S.H, S.nm, S.X, S.R, r.append b⟩⟩
theorem As_tuple {ts : List Expr} {k : Nat} {tp : Pos} {ps : List PV} {st : St} {Q : St → Prop} (hn : (assignEach ts V.env).length = ps.length) (hstar : (assignEach ts V.env).findIdx? (·.1) = none)
    (h : AsL V n ts ps st Q) : As V n (.Tuple ts k tp) (.tuple ps) st Q := by
  intro A s hp hv E v ok S
  obtain ⟨a, vs, m, N, rfl, hl, F', N', hm, back⟩ := S.untup
  refine unpackN_ F' N' (N'.isTup hm) ok.hd (by rw [hn]; simp [hl]) hstar fun h' F2 N2 => ?_
  have e : vs.toArray.toList = vs := by simp
  rw [e]
  exact h A _ hp hv E vs ok hl (back h' F2 N2)
theorem Ex1_tup {ts : List Expr} {k : Nat} {tp : Pos} {e : Expr} {pos : Pos} {st : St} {Qn : St → Prop} {Qr : PV → St → Prop} {Qc : St → Prop}
    (hs : swapsWithSole [.Tuple ts k tp] e pos.line V.env = pure false) (hw : swappedStores [.Tuple ts k tp] e V.env = pure none)
    (h : Ev V n e st fun p st1 => As V n (.Tuple ts k tp) p st1 Qn) : Ex1 V n (.Assign [.Tuple ts k tp] e pos) st Qn Qr Qc := by
  intro A s hp hv E ok S
  refine Assign_Tuple (wpAny_mono (h A s hp hv E ok S) (fun v s1 ⟨p, st1, h1, S1⟩ => ?_) fun _ _ e => e) hs hw
  exact wpAny_mono (h1 A s1 hp hv E v ok S1) (fun _ s2 ⟨st2, h2, S2⟩ => ⟨st2, h2, S2⟩) fun _ _ e => e
/-! ### x += e on a local -/
noncomputable def Io (V : Act C F) (n : Nat) (op : Operator) (x y : PV) (st : St) (Q : PV → St → Prop) : Prop :=
  ∀ A s hp hv E vx vy, V.Ok A n → V.Sim st (y :: x :: hp) (vy :: vx :: hv) (vw s) → wpAny (M C) A (inplaceOp op vx vy) (Pst V hp hv Q) E s
theorem Io_add_int {a b : Int} {st : St} {Q : PV → St → Prop} (h : Q (.int (a + b)) st) : Io V n .Add (.int a) (.int b) st Q := by
  intro A s hp hv E vx vy ok S
  obtain ⟨t, rfl⟩ := S.int1; obtain ⟨u, rfl⟩ := S.drop1.int1
  exact PyProof.Rows.iadd_int (intOp (A := A) S h rfl)
theorem Io_mul_int {a b : Int} {st : St} {Q : PV → St → Prop} (hm : IntMulOk a b) (h : Q (.int (a * b)) st) : Io V n .Mult (.int a) (.int b) st Q := by
  intro A s hp hv E vx vy ok S
  obtain ⟨t, rfl⟩ := S.int1; obtain ⟨u, rfl⟩ := S.drop1.int1
  exact PyProof.Rows.imul_int (intOp (A := A) S h rfl) hm
end Mine
end
section
open PySem PySem.W PyProof.Rows
set_option Elab.async false
set_option genSizeOf false
set_option genInjectivity false
set_option maxRecDepth 100000
set_option maxHeartbeats 1000000
set_option linter.unusedVariables false
set_option linter.unusedSimpArgs false
namespace Mine
variable {C : Cx} {F : FnI} {V : Act C F} {n : Nat}

/-! ### the objects' part of the ledger -/
theorem HRel.find {tl : Led} {a : Addr} {o : AObj} {ah : AH} {mu : Led} (H : HRel C tl ah mu) (h : (a, o) ∈ ah) : ∃ c, ORel C tl a o c ∧ ∀ x ∈ c, x ∈ mu := by
  induction H with
  | nil => cases h
  | cons r s ih =>
    rcases List.mem_cons.mp h with e | e
    · cases e; exact ⟨_, r, fun x hx => List.mem_append_left _ hx⟩
    · obtain ⟨c', r', hs⟩ := ih e
      exact ⟨c', r', fun x hx => List.mem_append_right _ (hs x hx)⟩
inductive UpdH (a : Addr) (o o' : AObj) : AH → AH → Prop
  | here {r} : UpdH a o o' ((a, o) :: r) ((a, o') :: r)
  | next {e r r'} : UpdH a o o' r r' → UpdH a o o' (e :: r) (e :: r')
theorem HRel.upd {tl : Led} {a : Addr} {o o' : AObj} {ah ah' : AH} {mu : Led} (H : HRel C tl ah mu) (U : UpdH a o o' ah ah') : ∃ pre c post, mu = pre ++ (c ++ post) ∧ ORel C tl a o c ∧ ∀ c', ORel C tl a o' c' → HRel C tl ah' (pre ++ (c' ++ post)) := by
  induction U generalizing mu with
  | here => cases H with
    | @cons _ _ c _ mu r s => exact ⟨[], c, mu, rfl, r, fun c' r' => show HRel C tl _ (c' ++ mu) from HRel.cons r' s⟩
  | next u ih => cases H with
    | @cons _ _ d _ _ r s =>
      obtain ⟨pre, c, post, e, r', k⟩ := ih s
      refine ⟨d ++ pre, c, post, by rw [e, List.append_assoc], r', fun c' hc => ?_⟩
      rw [List.append_assoc]
      exact .cons r (k c' hc)
theorem upd_of_nodup {d : Addr} {o o' : Obj} : ∀ {pre post : Led}, ((pre ++ (d, o) :: post).map (·.1)).Nodup → Upd d o o' (pre ++ (d, o) :: post) (pre ++ (d, o') :: post)
  | [], post, h => by
    simp only [List.nil_append, List.map_cons, List.nodup_cons] at h ⊢
    exact .head fun p hp e => h.1 (e ▸ List.mem_map_of_mem (f := (·.1)) hp)
  | p :: pre, post, h => by
    simp only [List.cons_append, List.map_cons, List.nodup_cons] at h ⊢
    refine .tail (fun e => h.1 ?_) (upd_of_nodup h.2)
    rw [e]; simp

/-! ### written keys -/
theorem EsRel.keys {tl : Led} : ∀ {kvs es}, EsRel C tl kvs es → ∀ e ∈ es, ∃ k t, e.key = .str k t
  | _, _, .nil, _, h => nomatch h
  | _, _, .cons _ r, e, h => by
    rcases List.mem_cons.mp h with rfl | h
    · exact ⟨_, _, rfl⟩
    · exact r.keys e h
theorem EsRel.get {tl : Led} {k : Str} {p : PV} : ∀ {kvs es}, EsRel C tl kvs es → (kvs.map (·.1)).Nodup → (k, p) ∈ kvs → ∃ v, getL k es = some (some v) ∧ VRel tl p v
  | _, _, .cons (k := k') (t := t) (p := q) (v := v) (ps := ps) (es := es) a r, hn, hm => by
    simp only [List.map_cons, List.nodup_cons] at hn
    rcases List.mem_cons.mp hm with e | e
    · cases e
      refine ⟨v, ?_, a⟩
      unfold getL
      rw [List.find?_cons]
      simp [Value.isStr]
    · obtain ⟨u, h1, h2⟩ := r.get hn.2 e
      refine ⟨u, ?_, h2⟩
      have hne : (k' == k) = false := by
        simp only [beq_eq_false_iff_ne, ne_eq]
        intro z
        exact hn.1 (z ▸ List.mem_map_of_mem (f := (·.1)) e)
      unfold getL at h1 ⊢
      rw [List.find?_cons]
      have e0 : (Value.str k' t).isStr k = false := hne
      simp only [e0]
      cases hf : es.find? (·.key.isStr k) with
      | some e' => rw [hf] at h1; exact h1
      | none =>
        rw [hf] at h1
        dsimp only at h1
        split at h1 <;> cases h1
theorem EsRel.isSome {tl : Led} {k : Str} {kvs es} (r : EsRel C tl kvs es) : (getL k es).isSome = true := by
  unfold getL
  cases hf : es.find? (·.key.isStr k) with
  | some e => rfl
  | none =>
    dsimp only
    rw [if_neg]
    · rfl
    · intro h
      obtain ⟨e, he, hr⟩ := List.any_eq_true.mp h
      obtain ⟨x, t, hk⟩ := r.keys e he
      obtain ⟨_, ek, _⟩ := e
      dsimp only at hk
      subst hk
      cases hr
inductive PutK (k : Str) (p : PV) : List (Str × PV) → List (Str × PV) → Prop
  | here {q r} : PutK k p ((k, q) :: r) ((k, p) :: r)
  | next {e r r'} : PutK k p r r' → PutK k p (e :: r) (e :: r')
theorem PutK.keys {k : Str} {p : PV} : ∀ {l l'}, PutK k p l l' → l'.map (·.1) = l.map (·.1) ∧ k ∈ l.map (·.1)
  | _, _, .here => ⟨rfl, by simp⟩
  | _, _, .next h => by obtain ⟨a, b⟩ := h.keys; exact ⟨by simp [a], by simp only [List.map_cons]; exact .tail _ b⟩
theorem EsRel.put {tl : Led} {k : Str} {p : PV} {v : Value} {t : Tok} {hs : Int} {kvs kvs' : List (Str × PV)} {es : List DictEntry} (rv : VRel tl p v) (R : EsRel C tl kvs es) (hn : (kvs.map (·.1)).Nodup) (U : PutK k p kvs kvs') :
    EsRel C tl kvs' (putL k hs (.str k t) v es) ∧ es.any (·.key.isStr k) = true := by
  induction U generalizing es with
  | here => cases R with
    | cons a r =>
      refine ⟨?_, by simp [Value.isStr]⟩
      unfold putL
      rw [if_pos (by simp [Value.isStr])]
      exact .cons rv r
  | next u ih => cases R with
    | @cons k' _ _ _ _ _ a r =>
      simp only [List.map_cons, List.nodup_cons] at hn
      have hne : (k' == k) = false := by
        simp only [beq_eq_false_iff_ne, ne_eq]
        intro z
        exact hn.1 (z ▸ u.keys.2)
      obtain ⟨h1, h2⟩ := ih r hn.2
      refine ⟨?_, ?_⟩
      · unfold putL
        rw [if_neg (by simp [Value.isStr, hne])]
        exact .cons a h1
      · rw [List.any_cons, h2]; simp
theorem EsRel.new {tl : Led} {k : Str} {p : PV} {v : Value} {t : Tok} {kvs : List (Str × PV)} {es : List DictEntry} (rv : VRel tl p v) (R : EsRel C tl kvs es) (hn : k ∉ kvs.map (·.1)) :
    EsRel C tl (kvs ++ [(k, p)]) (putL k (PyData.keyHash C.w.params k) (.str k t) v es) ∧ es.any (·.key.isStr k) = false := by
  induction R with
  | nil => exact ⟨.cons rv .nil, rfl⟩
  | @cons k' _ _ _ _ _ a r ih =>
    simp only [List.map_cons, List.mem_cons, not_or] at hn
    have hne : (k' == k) = false := by
      simp only [beq_eq_false_iff_ne, ne_eq]
      exact fun z => hn.1 z.symm
    obtain ⟨h1, h2⟩ := ih hn.2
    refine ⟨?_, ?_⟩
    · unfold putL
      rw [if_neg (by simp [Value.isStr, hne])]
      exact .cons a h1
    · rw [List.any_cons, h2]; simp [Value.isStr, hne]
theorem EsRel.len {tl : Led} : ∀ {kvs es}, EsRel C tl kvs es → es.length = kvs.length
  | _, _, .nil => rfl
  | _, _, .cons _ r => by simp [r.len]

/-! ### fields -/
structure FieldAt (C : Cx) (K : Addr) (x : Str) : Prop where
  ok : fieldOk C.K K x = true
  dict : hasDictIn C.K K = true
  plain : plainOver C.K K = true
  set : findIn C.K (.ref K) "__setattr__" = some (some (.builtin "object.__setattr__"))
theorem FieldAt.parts {K : Addr} {x : Str} (h : FieldAt C K x) : findIn C.K (.ref K) x = some none ∧ takerIn C.K K x = some none ∧ plainGet C.K K x = true ∧ noGet C.K none = true := by
  have := h.ok
  simp only [fieldOk, Bool.and_eq_true, beq_iff_eq] at this
  exact ⟨this.1.1.1, this.1.1.2, this.1.2, this.2⟩
theorem Good.field {ss : List Stmt} {fns bs fields : List Str} (G : Good C ss fns bs fields) {x : Str} (h : x ∈ fields) : FieldAt C (adr C.K "Picture") x := by
  have := G.checks.2.2.2
  simp only [clsOk, Bool.and_eq_true, beq_iff_eq] at this
  obtain ⟨⟨⟨⟨⟨⟨⟨a, b⟩, c⟩, d⟩, e⟩, f⟩, g⟩, i⟩ := this
  exact ⟨List.all_eq_true.mp i x h, f, e, d⟩
theorem Ev_attr {value : Expr} {x : Str} {pos : Pos} {st : St} {Q : PV → St → Prop}
    (h : Ev V n value st fun o st1 => ∃ a K kvs p, o = .ref a ∧ (a, .inst K kvs) ∈ st1.ah ∧ (x, p) ∈ kvs ∧ FieldAt C K x ∧ Q p st1)
    (he : eval (.Attribute value x pos) V.env = (do
      let o ← eval value V.env
      standAt pos.atName
      let r ← holding [o] (getAttr o x true)
      letTemporaryGo value o r
      pure r)) : Ev V n (.Attribute value x pos) st Q := by
  intro A s hp hv E ok S
  refine Attribute_any_ (wpAny_mono (h A s hp hv E ok S) (fun vo s1 ⟨o, st1, ⟨a, K, kvs, p, eo, hm, hk, hF, h1⟩, S1⟩ => ?_) fun _ _ e => e) he
  subst eo
  obtain rfl := S1.ref1
  obtain ⟨m, mu, tl, S1⟩ := S1.drop1
  obtain ⟨c, r, hc⟩ := S1.H.find hm
  cases r with
  | inst r hn =>
    obtain ⟨v, hg, rv⟩ := r.get hn hk
    obtain ⟨f1, f2, f3, f4⟩ := hF.parts
    refine get_own (K := C.K) S1.F V.X (InstAt.of_news S1.N (List.mem_append_left _ (hc _ (.head _))) (List.mem_append_left _ (hc _ (.tail _ (.head _))))) f3 hF.dict f1 f4 hg ?_ ⟨p, st1, h1, m, mu, tl, S1.F, S1.N, S1.nd, S1.H, S1.nm, S1.X, S1.R, .cons rv S1.O⟩
    cases rv <;> rfl
theorem As_attr_run {a K : Addr} {x : Str} {kvs kvs' : List (Str × PV)} {p : PV} {st : St} {ah' : AH} {A : Around} {s : Shared} {hp : List PV} {hv : List Value} {v : Value} {Q : Unit → Shared → Prop} {E : Value → Shared → Prop} (hF : FieldAt C K x)
    (hk : PutK x p kvs kvs' ∨ (x ∉ kvs.map (·.1) ∧ kvs' = kvs ++ [(x, p)])) (hl : kvs'.length ≤ 100) (U : UpdH a (.inst K kvs) (.inst K kvs') st.ah ah') (S : V.Sim st (p :: hp) (v :: hv) (vw s)) (h : ∀ s', V.Sim ⟨st.loc, ah'⟩ hp hv (vw s') → Q () s') :
    wpAny (M C) A (setAttr (.ref a) x v) Q E s := by
  obtain ⟨m, mu, tl, S⟩ := S
  obtain ⟨pre, c, post, rfl, r, back⟩ := S.H.upd U
  cases hO : S.O with
  | cons rv O =>
  cases r with
  | @inst _ d _ es nn r hn =>
    obtain ⟨f1, f2, f3, f4⟩ := hF.parts
    obtain ⟨hasP, hn', hput⟩ : ∃ nn', (kvs'.map (·.1)).Nodup ∧ EsRel C tl kvs' (putL x (PyData.keyHash C.w.params x) (.str x (s.toks + 1)) v es) ∧ putN x es nn = nn' := by
      rcases hk with hk | ⟨hk, rfl⟩
      · exact ⟨_, hk.keys.1 ▸ hn, (r.put rv hn hk).1, rfl⟩
      · refine ⟨_, ?_, (r.new rv hk).1, rfl⟩
        rw [List.map_append, List.nodup_append]
        refine ⟨hn, by simp, fun b hb c hc => ?_⟩
        simp only [List.map_cons, List.map_nil, List.mem_singleton] at hc
        subst hc
        exact fun e => hk (e ▸ hb)
    have hnd : ((pre ++ [(a, instObj K d)] ++ (d, dictOf es nn) :: (post ++ tl)).map (·.1)).Nodup := by
      have := S.nd
      simpa [List.append_assoc] using this
    have U' := upd_of_nodup (o' := dictOf (putL x (PyData.keyHash C.w.params x) (.str x (s.toks + 1)) v es) (putN x es nn)) hnd
    have N' : News V.h₀ V.L s.heap (pre ++ [(a, instObj K d)] ++ (d, dictOf es nn) :: (post ++ tl)) := by
      have := S.N
      simpa [List.append_assoc] using this
    refine set_dict (K := C.K) S.F V.X N' (InstAt.of_news (x := a) (dx := d) (C := K) (sl := #[]) N' (by simp) (by simp)) rfl hF.set hF.plain f2 hF.dict r.isSome rfl U' ?_ fun h' F2 N2 => ?_
    · rw [hput.1.len]; lia
    · have hmu := back [(a, instObj K d), (d, dictOf (putL x (PyData.keyHash C.w.params x) (.str x (s.toks + 1)) v es) (putN x es nn))] (.inst hput.1 hn')
      refine h _ ⟨m, _, tl, F2, ?_, ?_, hmu, S.nm, S.X, S.R, O⟩
      · simpa [List.append_assoc] using N2
      · simpa [List.append_assoc] using hnd

/-- o.x = p, o an instance -/
theorem As_attr {o : Expr} {x : Str} {pos : Pos} {p : PV} {st : St} {Q : St → Prop}
    (h : Ev V n o st fun r st1 => ∃ a K kvs kvs' ah', r = .ref a ∧ FieldAt C K x ∧ (PutK x p kvs kvs' ∨ (x ∉ kvs.map (·.1) ∧ kvs' = kvs ++ [(x, p)])) ∧ kvs'.length ≤ 100 ∧ UpdH a (.inst K kvs) (.inst K kvs') st1.ah ah' ∧ Q ⟨st1.loc, ah'⟩) : As V n (.Attribute o x pos) p st Q := by
  intro A s hp hv E v ok S
  rw [arm_assign_Attribute]
  refine wpAny_bind (wpAny_holding (wpAny_mono (h A s _ _ E ok S) (fun vo s1 hx => ?_) fun _ _ e => e))
  obtain ⟨r, st1, ⟨a, K, kvs, kvs', ah', er, hF, hk, hl, U, h1⟩, S1⟩ := hx
  subst er
  obtain rfl := S1.ref1
  refine wpAny_bind (wpAny_standAt (wpAny_bind (wpAny_holding (As_attr_run hF hk hl U S1.drop1 fun s2 S2 => ?_))))
  exact fun Γ p hΓ => by
    rw [Sem.wp_release]
    exact ⟨_, h1, S2⟩
theorem Ex1_attr_run {o : Expr} {x : Str} {ap pos : Pos} {e : Expr} {st : St} {Qn : St → Prop} {Qr : PV → St → Prop} {Qc : St → Prop}
    (h : Ev V n e st fun p st1 => Ev V n o st1 fun r st2 => ∃ a K kvs kvs' ah', r = .ref a ∧ FieldAt C K x ∧ (PutK x p kvs kvs' ∨ (x ∉ kvs.map (·.1) ∧ kvs' = kvs ++ [(x, p)])) ∧ kvs'.length ≤ 100 ∧ UpdH a (.inst K kvs) (.inst K kvs') st2.ah ah' ∧ Qn ⟨st2.loc, ah'⟩)
    (hs : swapsWith e (some (.Attribute o x ap)) pos.line V.env = pure false) : Ex1 V n (.Assign [.Attribute o x ap] e pos) st Qn Qr Qc := by
  intro A s hp hv E ok S
  refine plainObj_wpAny_Assign_Attribute (wpAny_mono (h A s hp hv E ok S) (fun v s1 ⟨p, st1, h1, S1⟩ => ?_) fun _ _ e => e) hs
  refine wpAny_mono (h1 A s1 _ _ E ok S1) (fun vo s2 hx => ?_) fun _ _ e => e
  obtain ⟨r, st2, ⟨a, K, kvs, kvs', ah', er, hF, hk, hl, U, h2⟩, S2⟩ := hx
  subst er
  obtain rfl := S2.ref1
  exact As_attr_run hF hk hl U S2.drop1 fun s' S' => ⟨_, h2, S'⟩
end Mine
end
section
open PySem PySem.W PyProof.Rows
set_option Elab.async false
set_option genSizeOf false
set_option genInjectivity false
set_option maxRecDepth 100000
set_option maxHeartbeats 1000000
set_option linter.unusedVariables false
set_option linter.unusedSimpArgs false
namespace Mine
variable {C : Cx} {F : FnI} {V : Act C F} {n : Nat}

/-! ### built-ins by name -/
structure BiAt (C : Cx) (x : Str) (v : Value) : Prop where
  miss : nsIn C.K mainGlobals x = some none
  boot : bootBuiltins x = some v
  ne : x ≠ "__name__"
theorem Ev_bcall {g : Str} {bid : String} {gp pos : Pos} {e : Expr} {r : List Expr} {st : St} {Q : PV → St → Prop} (G : BiAt C g (.builtin bid)) (hg : g ∈ F.gls)
    (h : Es V n (e :: r) st fun ps st1 => Ca V n (.builtin bid) ps st1 Q)
    (he : starEach (e :: r) V.env = (false, eval e V.env) :: starEach r V.env) (hpl : ∀ pos, (backTo pos (starEach r V.env)).any (·.1) = false) :
    Ev V n (.Call (.Name g gp) (e :: r) [] pos) st Q := by
  intro A s hp hv E ok S
  obtain ⟨m, mu, tl, S₀⟩ := id S
  refine Call_Name rfl (nameX_B S₀.F V.X (topRead_of V.T) G.miss G.boot G.ne ?_ F.hk (F.hg g hg).1 (F.hg g hg).2)
  have hx := h A s hp hv E pos ok S
  rw [he] at hx ⊢
  refine Calls.callWith_builtin (by show (false || (backTo pos (starEach r V.env)).any (·.1)) = false; rw [hpl]; rfl) (Calls.evalArgs_plain (wpAny_mono hx (fun vs s1 hx => ?_) fun _ _ e => e))
  obtain ⟨ps, st1, h1, hl, S1⟩ := hx
  exact h1 A s1 hp hv E vs ok hl S1
theorem Ca_one {f : Value} {p : PV} {st : St} {Q : PV → St → Prop} (h : ∀ A s hp hv E v, V.Ok A n → V.Sim st (p :: hp) (v :: hv) (vw s) → wpAny (M C) A (call f [v]) (Pst V hp hv Q) E s) : Ca V n f [p] st Q := by
  intro A s hp hv E vs ok hl S
  obtain ⟨v, rfl⟩ := len1 hl
  exact h A s hp hv E v ok S
theorem Ca_two {f : Value} {p q : PV} {st : St} {Q : PV → St → Prop} (h : ∀ A s hp hv E v u, V.Ok A n → V.Sim st (p :: q :: hp) (v :: u :: hv) (vw s) → wpAny (M C) A (call f [v, u]) (Pst V hp hv Q) E s) : Ca V n f [p, q] st Q := by
  intro A s hp hv E vs ok hl S
  obtain ⟨v, u, rfl⟩ := len2 hl
  exact h A s hp hv E v u ok S
theorem Ca_abs {i : Int} {st : St} {Q : PV → St → Prop} (h : Q (.int (if i < 0 then -i else i)) st) : Ca V n (.builtin "abs") [.int i] st Q := Ca_one fun A s hp hv E v ok S => by
  obtain ⟨t, rfl⟩ := S.int1
  exact call_abs_int fun u tk => ⟨_, st, h, S.drop1.push fun _ => .int _ _⟩
theorem Ca_len_str {t : List Nat} {st : St} {Q : PV → St → Prop} (hs : Small t) (h : Q (.int t.length) st) : Ca V n (.builtin "len") [.str t] st Q := Ca_one fun A s hp hv E v ok S => by
  obtain ⟨x, u, rfl, rfl⟩ := S.str1
  simp only [Small] at hs
  refine PyProof.Rows.len_str (by rw [len_eq]; lia) ⟨_, st, h, S.drop1.push fun _ => ?_⟩
  rw [len_eq]; exact .int _ _
theorem Ca_max {i j : Int} {st : St} {Q : PV → St → Prop} (h : Q (.int (max i j)) st) : Ca V n (.builtin "max") [.int i, .int j] st Q := Ca_two fun A s hp hv E v u ok S => by
  obtain ⟨t, rfl⟩ := S.int1; obtain ⟨t', rfl⟩ := S.drop1.int1
  obtain ⟨m, N, F', N', back⟩ := S.drop1.drop1.frN
  refine max_two_N ok.hd F' N' fun h' tk F2 N2 => ⟨_, st, h, (back h' F2 N2).push fun _ => ?_⟩
  have : max i j = if j > i then j else i := by split <;> lia
  rw [this]; exact .int _ _
/-- a list, as the heap has it -/
theorem Sim.list {h₀ : Heap} {h : HS} {L a : Addr} {locs : List Str} {st : St} {hp : List PV} {hv : List Value} {ps : List PV} (S : Sim C h₀ L locs st hp hv h) (hm : (a, AObj.list ps) ∈ st.ah) :
    ∃ vs n m mu tl, Sim0 C h₀ L locs st hp hv h m mu tl ∧ (a, listOf vs.toArray n) ∈ mu ∧ VsRel tl ps vs := by
  obtain ⟨m, mu, tl, S⟩ := S
  obtain ⟨c, r, hc⟩ := S.H.find hm
  cases r with
  | list r => exact ⟨_, _, m, mu, tl, S, hc _ (.head _), r⟩
theorem Ca_len_list {a : Addr} {ps : List PV} {st : St} {Q : PV → St → Prop} (hm : (a, AObj.list ps) ∈ st.ah) (hs : ps.length ≤ 1000000) (h : Q (.int ps.length) st) : Ca V n (.builtin "len") [.ref a] st Q := Ca_one fun A s hp hv E v ok S => by
  obtain rfl := S.ref1
  obtain ⟨vs, k, m, mu, tl, S1, hmu, r⟩ := Sim.list S.drop1 hm
  refine PyProof.Rows.len_list (S1.N.isList (List.mem_append_left _ hmu)) (by simp [r.length]; lia) ⟨_, st, h, S.drop1.push fun _ => ?_⟩
  have : (vs.toArray.size : Int) = ps.length := by simp [r.length]
  rw [this]; exact .int _ _
theorem Ca_len_tuple {ps : List PV} {st : St} {Q : PV → St → Prop} (hs : ps.length ≤ 1000000) (h : Q (.int ps.length) st) : Ca V n (.builtin "len") [.tuple ps] st Q := Ca_one fun A s hp hv E v ok S => by
  obtain ⟨a, vs, m, N, rfl, hl, F', N', hm, back⟩ := S.untup
  refine PyProof.Rows.len_tuple (N'.isTup hm) (by simp [hl]; lia) ⟨_, st, h, S.drop1.push fun _ => ?_⟩
  have : (vs.toArray.size : Int) = ps.length := by simp [hl]
  rw [this]; exact .int _ _

/-! ### isinstance -/
noncomputable def isStrPV : PV → Option Bool
  | .str _ => some true
  | .int _ => some false
  | .tuple _ => some false
  | _ => none
theorem Ev_isi {g : Str} {T : String} {gp tp pos pos' : Pos} {e : Expr} {st : St} {Q : PV → St → Prop} (G : BiAt C "isinstance" (.builtin "isinstance")) (hg : Str.ofString "isinstance" ∈ F.gls) (GT : BiAt C g (.type T)) (hT : g ∈ F.gls)
    (h : Ev V n e st fun p st1 => ∀ A s hp hv E v, V.Ok A n → V.Sim st1 (p :: hp) (v :: hv) (vw s) → wpAny (M C) A (call (.builtin "isinstance") [v, .type T]) (Pst V hp hv Q) E s)
    (he : starEach [e, .Name g tp] V.env = [(false, eval e V.env), (false, eval (.Name g tp) V.env)]) :
    Ev V n (.Call (.Name (Str.ofString "isinstance") gp) [e, .Name g tp] [] pos) st Q := by
  intro A s hp hv E ok S
  obtain ⟨m, mu, tl, S₀⟩ := id S
  refine Call_Name rfl (nameX_B S₀.F V.X (topRead_of V.T) G.miss G.boot G.ne ?_ F.hk (F.hg _ hg).1 (F.hg _ hg).2)
  rw [he]
  refine Calls.callWith_builtin rfl (Calls.evalArgs_plain (Calls.spliced_cons (wpAny_mono (h A s hp hv E ok S) (fun v s1 hx => ?_) fun _ _ e => e)))
  obtain ⟨p, st1, h1, S1⟩ := hx
  obtain ⟨m1, mu1, tl1, S1'⟩ := id S1
  refine Calls.spliced_cons (nameX_B S1'.F V.X (topRead_of V.T) GT.miss GT.boot GT.ne ?_ F.hk (F.hg _ hT).1 (F.hg _ hT).2)
  exact Calls.spliced_nil (h1 A s1 hp hv E v ok S1)
theorem isi_str {p : PV} {b : Bool} {st : St} {Q : PV → St → Prop} (hp : isStrPV p = some b) (h : Q (.bool b) st) : ∀ A s hp hv E v, V.Ok A n → V.Sim st (p :: hp) (v :: hv) (vw s) → wpAny (M C) A (call (.builtin "isinstance") [v, .type "str"]) (Pst V hp hv Q) E s := by
  intro A s hp' hv E v ok S
  have fin : ∀ (s' : Shared), vw s' = vw s → Pst V hp' hv Q (.bool b) s' := fun s' e => ⟨_, st, h, by rw [e]; exact S.drop1.push fun _ => .bool _⟩
  cases p with
  | str l => obtain ⟨x, u, rfl, rfl⟩ := S.str1; cases hp; exact IsiPair.str_str (fin _ rfl)
  | int i => obtain ⟨u, rfl⟩ := S.int1; cases hp; exact IsiPair.int_str (fin _ rfl)
  | tuple l =>
    obtain ⟨a, vs, m, N, rfl, hl, F', N', hm, back⟩ := S.untup
    cases hp; exact IsiPair.tuple_str (N' _ hm).1 rfl (fin _ rfl)
  | _ => cases hp
noncomputable def isTupPV : PV → Option Bool
  | .str _ => some false
  | .int _ => some false
  | .tuple _ => some true
  | _ => none
theorem isi_tup {p : PV} {b : Bool} {st : St} {Q : PV → St → Prop} (hp : isTupPV p = some b) (h : Q (.bool b) st) : ∀ A s hp hv E v, V.Ok A n → V.Sim st (p :: hp) (v :: hv) (vw s) → wpAny (M C) A (call (.builtin "isinstance") [v, .type "tuple"]) (Pst V hp hv Q) E s := by
  intro A s hp' hv E v ok S
  have fin : ∀ (s' : Shared), vw s' = vw s → Pst V hp' hv Q (.bool b) s' := fun s' e => ⟨_, st, h, by rw [e]; exact S.drop1.push fun _ => .bool _⟩
  cases p with
  | str l => obtain ⟨x, u, rfl, rfl⟩ := S.str1; cases hp; exact IsiPair.str_tuple (fin _ rfl)
  | int i => obtain ⟨u, rfl⟩ := S.int1; cases hp; exact IsiPair.int_tuple (fin _ rfl)
  | tuple l =>
    obtain ⟨a, vs, m, N, rfl, hl, F', N', hm, back⟩ := S.untup
    cases hp; exact IsiPair.tuple_tuple (N' _ hm).1 rfl (fin _ rfl)
  | _ => cases hp

/-! ### is None; in -/
theorem Co_is_none {p : PV} {st : St} {Q : Bool → St → Prop} (b : Bool) (hb : b = match p with | .none => true | _ => false) (h : Q b st) : Co V n .Is p .none st Q := by
  intro A s hp hv E vx vy ok S
  obtain rfl := S.none1
  refine PySem.is_none ?_
  have e : (vx == Value.none) = b := by
    obtain ⟨m, mu, tl, S0⟩ := S.drop1
    cases S0.O with
    | cons r _ => subst hb; cases r <;> rfl
  rw [e]; exact cmpOp S h
/-- a text among written texts -/
noncomputable def allStr : List PV → Option (List (List Nat))
  | [] => some []
  | .str l :: r => (allStr r).map (l :: ·)
  | _ => none
noncomputable def isX (x : Str) (v : Value) : Bool := match v with
  | .str z _ => z == x
  | _ => false
theorem allStr_any {tl : Led} {x : Str} : ∀ {ps : List PV} {ls : List (List Nat)} {vs : List Value}, VsRel tl ps vs → allStr ps = some ls →
    (∀ y ∈ vs, ∃ z u, y = .str z u) ∧ vs.any (isX x) = ls.contains x.cps.toList
  | _, ls, _, .nil, e => by cases e; exact ⟨(fun _ h => nomatch h), rfl⟩
  | _, ls, _, .cons (p := p) a b, e => by
    cases a with
    | str z u =>
      simp only [allStr, Option.map_eq_some_iff] at e
      obtain ⟨ls', e1, rfl⟩ := e
      obtain ⟨h1, h2⟩ := allStr_any (x := x) b e1
      refine ⟨fun y hy => ?_, ?_⟩
      · rcases List.mem_cons.mp hy with rfl | hy
        · exact ⟨_, _, rfl⟩
        · exact h1 y hy
      · rw [List.any_cons, h2, List.contains_cons]
        congr 1
        show (z == x) = _
        rw [str_beq]
        by_cases q : z.cps.toList = x.cps.toList
        · simp [q]
        · have h1 : ¬ x.cps = z.cps := fun e => q (by rw [e])
          have h2 : ¬ z.cps = x.cps := fun e => q (by rw [e])
          simp [h1, h2]
    | _ => cases e
theorem Co_in_tuple {x : List Nat} {ps : List PV} {ls : List (List Nat)} {st : St} {Q : Bool → St → Prop} (hs : allStr ps = some ls) (h : Q (ls.contains x) st) : Co V n .In (.str x) (.tuple ps) st Q := by
  intro A s hp hv E vx vy ok S
  obtain ⟨y, t, rfl, rfl⟩ := S.drop1.str1
  obtain ⟨m, mu, tl, S0⟩ := id S
  cases S0.O with
  | cons r _ =>
    cases r with
    | tuple a ps vs hm r =>
      obtain ⟨h1, h2⟩ := allStr_any (x := y) r hs
      have hg := (S0.N _ (List.mem_append_right _ hm)).1
      refine PySem.SeqRoads2.in_tuple (isX y) (fun v hv' => ?_) hg ?_
      · obtain ⟨z, u, rfl⟩ := h1 v (by simpa using hv')
        exact PyProof.Rows.eqGives_str _ _ _ _
      · have : vs.toArray.any (isX y) = ls.contains y.cps.toList := by rw [← h2]; simp
        rw [this]; exact cmpOp S h

/-! ### ready for the step line -/
theorem bo_abs : bootBuiltins "abs" = some (.builtin "abs") := by kernel_rfl
theorem bo_len : bootBuiltins "len" = some (.builtin "len") := by kernel_rfl
theorem bo_max : bootBuiltins "max" = some (.builtin "max") := by kernel_rfl
theorem bo_isinstance : bootBuiltins "isinstance" = some (.builtin "isinstance") := by kernel_rfl
theorem bo_str : bootBuiltins "str" = some (.type "str") := by kernel_rfl
theorem bo_tuple : bootBuiltins "tuple" = some (.type "tuple") := by kernel_rfl
section
variable {ss : List Stmt} {fns bs fields : List Str}
theorem mem_of {α : Type} [BEq α] [LawfulBEq α] {l : List α} {a : α} (h : l.contains a = true) : a ∈ l := by simpa using h
theorem Good.bi (G : Good C ss fns bs fields) {g : Str} {v : Value} (h1 : bs.contains g = true) (h2 : bootBuiltins g = some v) (h3 : g ≠ "__name__") : BiAt C g v := ⟨G.builtin (mem_of h1), h2, h3⟩
theorem Ev_fcall (G : Good C ss fns bs fields) {g : Str} {gp pos : Pos} {e : Expr} {r : List Expr} {st : St} {Q : PV → St → Prop} (h1 : fns.contains g = true) (h2 : F.gls.contains g = true)
    (he : starEach (e :: r) V.env = (false, eval e V.env) :: starEach r V.env) (hpl : ∀ pos, (backTo pos (starEach r V.env)).any (·.1) = false)
    (h : Es V n (e :: r) st fun ps st1 => Fn C n (adr C.K g) ps st1.ah fun p ah' => Q p ⟨st1.loc, ah'⟩) : Ev V n (.Call (.Name g gp) (e :: r) [] pos) st Q := Ev_call (G.glob (mem_of h1)) (mem_of h2) h he hpl
theorem Ev_abs (G : Good C ss fns bs fields) {gp pos : Pos} {e : Expr} {st : St} {Q : PV → St → Prop} (h1 : bs.contains (Str.ofString "abs") = true) (h2 : F.gls.contains (Str.ofString "abs") = true)
    (he : starEach [e] V.env = (false, eval e V.env) :: starEach [] V.env) (h : Ev V n e st fun p st1 => Ca V n (.builtin "abs") [p] st1 Q) : Ev V n (.Call (.Name (Str.ofString "abs") gp) [e] [] pos) st Q :=
  Ev_bcall (G.bi h1 bo_abs (by decide +kernel)) (mem_of h2) (Es_cons (fun A s hp hv E ok S => wpAny_mono (h A s hp hv E ok S) (fun v s1 ⟨p, st1, h1, S1⟩ => ⟨p, st1, Es_nil h1, S1⟩) fun _ _ e => e) he) he fun _ => rfl
theorem Ev_len (G : Good C ss fns bs fields) {gp pos : Pos} {e : Expr} {st : St} {Q : PV → St → Prop} (h1 : bs.contains (Str.ofString "len") = true) (h2 : F.gls.contains (Str.ofString "len") = true)
    (he : starEach [e] V.env = (false, eval e V.env) :: starEach [] V.env) (h : Ev V n e st fun p st1 => Ca V n (.builtin "len") [p] st1 Q) : Ev V n (.Call (.Name (Str.ofString "len") gp) [e] [] pos) st Q :=
  Ev_bcall (G.bi h1 bo_len (by decide +kernel)) (mem_of h2) (Es_cons (fun A s hp hv E ok S => wpAny_mono (h A s hp hv E ok S) (fun v s1 ⟨p, st1, h1, S1⟩ => ⟨p, st1, Es_nil h1, S1⟩) fun _ _ e => e) he) he fun _ => rfl
theorem Ev_max (G : Good C ss fns bs fields) {gp pos : Pos} {e e' : Expr} {st : St} {Q : PV → St → Prop} (h1 : bs.contains (Str.ofString "max") = true) (h2 : F.gls.contains (Str.ofString "max") = true)
    (he : starEach [e, e'] V.env = (false, eval e V.env) :: starEach [e'] V.env) (hpl : ∀ pos, (backTo pos (starEach [e'] V.env)).any (·.1) = false) (h : Es V n [e, e'] st fun ps st1 => Ca V n (.builtin "max") ps st1 Q) : Ev V n (.Call (.Name (Str.ofString "max") gp) [e, e'] [] pos) st Q :=
  Ev_bcall (G.bi h1 bo_max (by decide +kernel)) (mem_of h2) h he hpl
theorem Ev_isi_str (G : Good C ss fns bs fields) {gp tp pos : Pos} {e : Expr} {st : St} {Q : PV → St → Prop} (h1 : bs.contains (Str.ofString "isinstance") = true) (h2 : F.gls.contains (Str.ofString "isinstance") = true) (h3 : bs.contains (Str.ofString "str") = true) (h4 : F.gls.contains (Str.ofString "str") = true)
    (he : starEach [e, .Name (Str.ofString "str") tp] V.env = [(false, eval e V.env), (false, eval (.Name (Str.ofString "str") tp) V.env)]) (h : Ev V n e st fun p st1 => ∃ b, isStrPV p = some b ∧ Q (.bool b) st1) :
    Ev V n (.Call (.Name (Str.ofString "isinstance") gp) [e, .Name (Str.ofString "str") tp] [] pos) st Q :=
  Ev_isi (pos' := pos) (G.bi h1 bo_isinstance (by decide +kernel)) (mem_of h2) (G.bi h3 bo_str (by decide +kernel)) (mem_of h4) (fun A s hp hv E ok S => wpAny_mono (h A s hp hv E ok S) (fun v s1 ⟨p, st1, ⟨b, hb, h1⟩, S1⟩ => ⟨p, st1, isi_str hb h1, S1⟩) fun _ _ e => e) he
end
/-! tests without a change, their parts joined into one bool -/
/-! heads, for the step line -/
/-! monotony, for the tail of a step -/
theorem Ev.mono {e : Expr} {st : St} {Q Q' : PV → St → Prop} (h : Ev V n e st Q) (hq : ∀ p st', Q p st' → Q' p st') : Ev V n e st Q' := fun A s hp hv E ok S => wpAny_mono (h A s hp hv E ok S) (fun v s1 ⟨p, st1, h1, S1⟩ => ⟨p, st1, hq _ _ h1, S1⟩) fun _ _ e => e
theorem Tt.mono {e : Expr} {st : St} {Q Q' : Bool → St → Prop} (h : Tt V n e st Q) (hq : ∀ p st', Q p st' → Q' p st') : Tt V n e st Q' := fun A s hp hv E ok S => wpAny_mono (h A s hp hv E ok S) (fun v s1 ⟨st1, h1, S1⟩ => ⟨st1, hq _ _ h1, S1⟩) fun _ _ e => e
theorem Ex1.mono {x : Stmt} {st : St} {Qn Qn' : St → Prop} {Qr Qr' : PV → St → Prop} {Qc Qc' : St → Prop} (h : Ex1 V n x st Qn Qr Qc) (h1 : ∀ st, Qn st → Qn' st) (h2 : ∀ p st, Qr p st → Qr' p st) (h3 : ∀ st, Qc st → Qc' st) : Ex1 V n x st Qn' Qr' Qc' :=
  fun A s hp hv E ok S => wpAny_mono (h A s hp hv E ok S) (fun f s1 hf => by
    cases f with
    | next => obtain ⟨st', q, S'⟩ := hf; exact ⟨st', h1 _ q, S'⟩
    | cont => obtain ⟨st', q, S'⟩ := hf; exact ⟨st', h3 _ q, S'⟩
    | brk => exact hf
    | ret v => obtain ⟨p, st', q, S'⟩ := hf; exact ⟨p, st', h2 _ _ q, S'⟩) fun _ _ e => e
theorem len_small {l : List Nat} (h : l.length ≤ 1000000) : Small l := h
end Mine
end
section
open PySem PySem.W PyProof.Rows
set_option Elab.async false
set_option genSizeOf false
set_option genInjectivity false
set_option maxRecDepth 100000
set_option maxHeartbeats 1000000
set_option linter.unusedVariables false
set_option linter.unusedSimpArgs false
namespace Mine
variable {C : Cx} {F : FnI} {V : Act C F} {n : Nat}

/-! ### lists: made, read, changed -/
theorem HRel.key {tl : Led} {a : Addr} {o : AObj} : ∀ {ah : AH} {mu : Led}, HRel C tl ah mu → (a, o) ∈ ah → ∃ x, (a, x) ∈ mu
  | _, _, h, hm => by
    obtain ⟨c, r, hc⟩ := h.find hm
    obtain ⟨x, r', e⟩ := r.head
    exact ⟨x, hc _ (e ▸ .head _)⟩
theorem Sim0.fresh {h₀ : Heap} {h : HS} {L : Addr} {locs : List Str} {st : St} {hp : List PV} {hv : List Value} {m : Str → Option Value} {mu tl : Led} (S : Sim0 C h₀ L locs st hp hv h m mu tl) : h.heap.objs.size ∉ st.ah.map (·.1) := by
  intro hm
  obtain ⟨⟨a, o⟩, hp', e⟩ := List.mem_map.mp hm
  obtain ⟨x, hx⟩ := S.H.key hp'
  have := lt_of_news S.N _ (List.mem_append_left _ hx)
  dsimp only at e this
  rw [e] at this
  exact Nat.lt_irrefl _ this
theorem Sim0.newList {h₀ h' : Heap} {h : HS} {L a : Addr} {locs : List Str} {st : St} {hp : List PV} {hv : List Value} {m : Str → Option Value} {mu tl : Led} {ps : List PV} {vs : List Value} {k : Nat} (S : Sim0 C h₀ L locs st (ps ++ hp) (vs ++ hv) h m mu tl)
    (hl : vs.length = ps.length) (ha : ∀ p ∈ mu ++ tl, p.1 ≠ a) (F' : Fr h₀ L h' m) (N' : News h₀ L h' ((a, listOf vs.toArray k) :: (mu ++ tl))) : Sim C h₀ L locs ⟨st.loc, (a, .list ps) :: st.ah⟩ (.ref a :: hp) (.ref a :: hv) (h.to h') := by
  obtain ⟨x, y⟩ := VsRel.cut hl S.O
  refine ⟨m, (a, listOf vs.toArray k) :: mu, tl, F', N', ?_, ?_, S.nm, S.X, S.R, .cons (.ref a) y⟩
  · have hd := S.nd
    simp only [List.cons_append, List.map_cons]
    refine List.nodup_cons.mpr ⟨fun hm => ?_, hd⟩
    obtain ⟨p, hp, e⟩ := List.mem_map.mp hm
    exact ha p hp e
  · exact (HRel.cons (.list x) S.H : HRel C tl ((a, .list ps) :: st.ah) ([(a, listOf vs.toArray k)] ++ mu))
theorem newList_at {ps : List PV} {vs : List Value} {st : St} {hp : List PV} {hv : List Value} {A : Around} {s : Shared} {E : Value → Shared → Prop} {Q : PV → St → Prop} (hl : vs.length = ps.length) (hn : ps.length ≤ 1000000) (S : V.Sim st (ps ++ hp) (vs ++ hv) (vw s))
    (h : ∀ a, a ∉ st.ah.map (·.1) → Q (.ref a) ⟨st.loc, (a, .list ps) :: st.ah⟩) : wpAny (M C) A (newList vs) (Pst V hp hv Q) E s := by
  obtain ⟨m, mu, tl, S⟩ := S
  refine wpAny_newList ⟨_, _, h s.heap.objs.size S.fresh, S.newList (k := 0) hl (fun p hp => Nat.ne_of_lt (lt_of_news S.N p hp)) (S.F.push _) (News.push S.F S.N _)⟩ ?_
  rw [sizeLine_eq]; lia
theorem Ev_list {elts : List Expr} {pos : Pos} {st : St} {Q : PV → St → Prop} (h : Es V n elts st fun ps st1 => ps.length ≤ 1000000 ∧ ∀ a, a ∉ st1.ah.map (·.1) → Q (.ref a) ⟨st1.loc, (a, .list ps) :: st1.ah⟩) : Ev V n (.List elts pos) st Q := by
  intro A s hp hv E ok S
  rw [arm_eval_List]
  refine wpAny_bind (wpAny_standAt (wpAny_bind (wpAny_mono (h A s hp hv E pos ok S) (fun vs s1 hx => ?_) fun _ _ e => e)))
  obtain ⟨ps, st1, ⟨h0, h1⟩, hl, S1⟩ := hx
  exact newList_at hl h0 S1 h1
/-- the item that an index means -/
noncomputable def pIx (ps : List PV) (k : Int) : Option PV := if 0 ≤ k then ps[k.toNat]? else if -(ps.length : Int) ≤ k then ps[(k + ps.length).toNat]? else none
theorem pIx_len {ps : List PV} {k : Int} {p : PV} (h : pIx ps k = some p) : -(ps.length : Int) ≤ k ∧ k < ps.length := by
  unfold pIx at h
  split at h
  · have := (List.getElem?_eq_some_iff.mp h).1
    lia
  · split at h
    · lia
    · cases h
theorem Gi_list {a : Addr} {ps : List PV} {k : Int} {p : PV} {st : St} {Q : PV → St → Prop} (hm : (a, AObj.list ps) ∈ st.ah) (hs : ps.length ≤ 1000000) (hk : pIx ps k = some p) (h : Q p st) : Gi V n (.ref a) (.int k) st Q := by
  intro A s hp hv E vx vi value slice ok S hsub
  obtain ⟨u, rfl⟩ := S.int1
  obtain rfl := S.drop1.ref1
  obtain ⟨vs, kk, m, mu, tl, S1, hmu, r⟩ := Sim.list S.drop1.drop1 hm
  have hL := S1.N.isList (List.mem_append_left _ hmu)
  have hlen := r.length
  have hb := pIx_len hk
  unfold pIx at hk
  split at hk
  · obtain ⟨v, hv', rv⟩ := r.get hk
    exact tail_any hL.typeIs slot_list_getitem.lookup (wpAny_getItem_list (x := v) hL (by lia) (by lia) (by simpa using hv') ⟨p, st, h, m, mu, tl, S1.F, S1.N, S1.nd, S1.H, S1.nm, S1.X, S1.R, .cons rv S1.O⟩) (hsub _ _)
  · rw [if_pos hb.1] at hk
    obtain ⟨v, hv', rv⟩ := r.get hk
    refine tail_any hL.typeIs slot_list_getitem.lookup (wpAny_getItem_list_neg (x := v) hL (by lia) (by simp; lia) (by lia) ?_ ⟨p, st, h, m, mu, tl, S1.F, S1.N, S1.nd, S1.H, S1.nm, S1.X, S1.R, .cons rv S1.O⟩) (hsub _ _)
    simpa [hlen] using hv'
theorem pIx_seq {ps : List PV} {k : Int} {p : PV} (hk : pIx ps k = some p) : ∃ j, seqIndex? k ps.length = some j ∧ ps[j]? = some p := by
  have hb := pIx_len hk
  obtain ⟨a, b⟩ := seqIdx hb.1 hb.2
  refine ⟨_, a, ?_⟩
  unfold pIx at hk
  unfold pyIdx
  split at hk
  · rw [if_neg (by lia)]; exact hk
  · rw [if_pos hb.1] at hk
    rw [if_pos (by lia)]; exact hk
theorem Gi_tuple {ps : List PV} {k : Int} {p : PV} {st : St} {Q : PV → St → Prop} (hs : ps.length ≤ 1000000) (hk : pIx ps k = some p) (h : Q p st) : Gi V n (.tuple ps) (.int k) st Q := by
  intro A s hp hv E vx vi value slice ok S hsub
  obtain ⟨u, rfl⟩ := S.int1
  obtain ⟨m, mu, tl, S0⟩ := S.drop1
  cases hO : S0.O with
  | cons rt O =>
    cases rt with
    | tuple a ps vs hmem r =>
      obtain ⟨j, h1, h2⟩ := pIx_seq hk
      obtain ⟨v, hv', rv⟩ := r.get h2
      have hb := pIx_len hk
      have hlen := r.length
      refine item_tupleT (S0.N.isTup (List.mem_append_right _ hmem)) (by lia) (by lia) (by rw [hlen]; exact h1) hv' ⟨p, st, h, m, mu, tl, S0.F, S0.N, S0.nd, S0.H, S0.nm, S0.X, S0.R, .cons rv O⟩ (hsub _ _)
/-- a list changed in its place -/
theorem Sim.setList {h₀ : Heap} {h : HS} {L a : Addr} {locs : List Str} {st : St} {hp : List PV} {hv : List Value} {ps ps' : List PV} {ah' : AH} (S : Sim C h₀ L locs st hp hv h) (U : UpdH a (.list ps) (.list ps') st.ah ah') :
    ∃ vs k tl, h.heap.get? a = some (listOf vs.toArray k) ∧ VsRel tl ps vs ∧ VsRel tl hp hv ∧ (∀ b qs, (b, AObj.list qs) ∈ st.ah → ∃ us j, h.heap.get? b = some (listOf us.toArray j) ∧ VsRel tl qs us) ∧ ∀ vs' k' h', VsRel tl ps' vs' → Heap.SameBut a h.heap h' → h'.get? a = some (listOf vs'.toArray k') → ∀ hp' hv', VsRel tl hp' hv' → Sim C h₀ L locs ⟨st.loc, ah'⟩ hp' hv' (h.to h') := by
  obtain ⟨m, mu, tl, S⟩ := S
  obtain ⟨pre, c, post, rfl, r, back⟩ := S.H.upd U
  cases r with
  | @list _ vs k r =>
    have hin : (a, listOf vs.toArray k) ∈ (pre ++ ([(a, listOf vs.toArray k)] ++ post)) ++ tl := by simp
    refine ⟨vs, k, tl, S.N.get hin, r, S.O, fun b qs hb => ?_, fun vs' k' h' r' hs ho hp' hv' O' => ?_⟩
    · obtain ⟨c2, r2, hc2⟩ := S.H.find hb
      cases r2 with
      | list r2 => exact ⟨_, _, S.N.get (List.mem_append_left _ (hc2 _ (.head _))), r2⟩
    have hnd : ((pre ++ (a, listOf vs.toArray k) :: (post ++ tl)).map (·.1)).Nodup := by
      have := S.nd
      simpa [List.append_assoc] using this
    have N' : News h₀ L h.heap (pre ++ (a, listOf vs.toArray k) :: (post ++ tl)) := by
      have := S.N
      simpa [List.append_assoc] using this
    have U' := upd_of_nodup (o' := listOf vs'.toArray k') hnd
    rw [List.map_append, List.nodup_append] at hnd
    obtain ⟨n1, n2, n3⟩ := hnd
    simp only [List.map_cons, List.nodup_cons] at n2
    have N2 := news_set N' (fun p hp e => n3 p.1 (List.mem_map_of_mem (f := (·.1)) hp) a (by simp) e) (fun p hp e => n2.1 (e ▸ List.mem_map_of_mem (f := (·.1)) hp)) hs ho
    have z := S.N _ hin
    refine ⟨m, pre ++ ([(a, listOf vs'.toArray k')] ++ post), tl, S.F.change hs z.2.1 z.2.2, by simpa [List.append_assoc] using N2, ?_, back _ (.list r'), S.nm, S.X, S.R, O'⟩
    have := S.nd
    simpa [List.append_assoc] using this
theorem Ca_append {a : Addr} {ps : List PV} {p : PV} {st : St} {ah' : AH} {Q : PV → St → Prop} (U : UpdH a (.list ps) (.list (ps ++ [p])) st.ah ah') (hs : ps.length ≤ 1000000) (h : Q .none ⟨st.loc, ah'⟩) : Ca V n (.builtin "list.append") [.ref a, p] st Q := Ca_two fun A s hp hv E v u ok S => by
  obtain rfl := S.ref1
  obtain ⟨vs, k, tl, ho, r, O, -, back⟩ := Sim.setList S U
  have hlen := r.length
  refine append_at ho (fun h' hsb ho' => ?_) (by rw [sizeLine_eq]; simp; lia)
  cases O with
  | cons _ O => cases O with
    | cons rp O =>
      refine ⟨.none, _, h, back (vs ++ [u]) (k + 1) h' (r.append (.cons rp .nil)) hsb ?_ _ _ (.cons .none O)⟩
      rw [ho']; simp
theorem Ca_extend {a b : Addr} {ps qs : List PV} {st : St} {ah' : AH} {Q : PV → St → Prop} (hb : (b, AObj.list qs) ∈ st.ah) (U : UpdH a (.list ps) (.list (ps ++ qs)) st.ah ah') (hs : ps.length + qs.length ≤ 1000000) (h : Q .none ⟨st.loc, ah'⟩) : Ca V n (.builtin "list.extend") [.ref a, .ref b] st Q := Ca_two fun A s hp hv E v u ok S => by
  obtain rfl := S.ref1
  obtain rfl := S.drop1.ref1
  obtain ⟨vs, k, tl, ho, r, O, hx, back⟩ := Sim.setList S U
  obtain ⟨us, j, ho2, r2⟩ := hx b qs hb
  have l1 := r.length
  have l2 := r2.length
  have hz : vs.toArray.size ≤ sizeLine := by rw [sizeLine_eq]; simp only [List.size_toArray]; lia
  have hz2 : vs.toArray.size + us.toArray.size ≤ sizeLine + 1 := by rw [sizeLine_eq]; simp only [List.size_toArray]; lia
  have hd : ¬(!vs.toArray.isEmpty && Builtin.List.listTooLong (vs.toArray.size + us.toArray.size)) = true := by
    have : Builtin.List.listTooLong (vs.toArray.size + us.toArray.size) = false := by
      simp only [Builtin.List.listTooLong, decide_eq_false_iff_not, List.size_toArray, sizeLine_eq]
      lia
    rw [this]; simp
  refine call_meets PySem.F.slot_list_extend ⟨_, ho, rfl⟩ PySem.F.entry_list_extend (PySem.F.args_list_extend_2 _ _) (PySem.AutoSeq1.list_extend_list_list_0 a vs.toArray k b us.toArray j hd hz hz2) ⟨ho, ho2, ?_⟩
  cases O with
  | cons _ O => cases O with
    | cons _ O =>
      refine ⟨.none, _, h, back (vs ++ us) (if (vs.toArray ++ us.toArray).size == vs.toArray.size then k else k + 1) _ (r.append r2) (Heap.SameBut.update ..) ?_ _ _ (.cons .none O)⟩
      have q := PySem.IsL.update ho (fun x => x ++ us.toArray)
      have e2 : (vs ++ us).toArray = vs.toArray ++ us.toArray := by simp
      rw [e2]
      exact q
theorem setList_at {a : Addr} {items : Array Value} {kk : Nat} {k : Int} {t : Tok} {v : Value} {A : Around} {s : Shared} {E : Value → Shared → Prop} {Q : Unit → Shared → Prop} (ho : s.heap.get? a = some (listOf items kk)) (h0 : 0 ≤ k) (hfit : k < 2 ^ 63) (hn : k < items.size)
    (hQ : ∀ h', h'.get? a = some (listOf (items.setIfInBounds k.toNat v) kk) → Heap.SameBut a s.heap h' → Q () { s with heap := h' }) : wpAny (M C) A (setItem (.ref a) (.int k t) v) Q E s := by
  have hl : s.heap.IsList a items := ⟨_, ho, rfl, _, rfl⟩
  unfold setItem
  try with_reducible refine wpAny_holding ?_
  first | refine wpAny_bind (wpAny_pure ?_) | skip
  refine wpAny_bind (wpAny_sequenceKey hl.typeIs (by decide) ?_)
  refine wpAny_bind (wpAny_callSpecial?_slot (name := Str.ofString "__setitem__") hl.typeIs slot_list_setitem
    (wpAny_call_entry slot_list_setitem hl.typeIs entry_list_setitem ?_ (args_list_setitem _ _ _)))
  show wpAny _ _ (Builtin.List.listSubscript? (.int k t) >>= _) _ _ s
  refine wpAny_bind (wpAny_listSubscript_int (fitsIndex_of h0 hfit) ?_)
  clear hfit
  obtain ⟨j, rfl⟩ := Int.eq_ofNat_of_zero_le h0
  have hj : j < items.size := by lia
  have hx' : items[j]? = some items[j] := Array.getElem?_eq_getElem hj
  show wpAny _ _ ((seqItemAt a j >>= fun r => pure (r.map (j, ·))) >>= _) _ _ s
  refine wpAny_bind (wpAny_bind (wpAny_seqItemAt ho rfl (wpAny_pure ?_)))
  rw [hx']
  show wpAny _ _ (setSeqItemAt a j v >>= _) _ _ s
  have q := PySem.IsL.update ho (fun x => x.setIfInBounds j v)
  rw [if_pos (by simp)] at q
  refine wpAny_bind (wpAny_setSeqItemAt ho rfl ?_)
  first
    | exact wpAny_bind (wpAny_pure (wpAny_pure ⟨.none, rfl, wpAny_pure (hQ _ q (Heap.SameBut.update ..))⟩))
    | exact wpAny_pure ⟨.none, rfl, wpAny_pure (hQ _ q (Heap.SameBut.update ..))⟩
theorem VsRel.set {tl : Led} {p : PV} {v : Value} (rv : VRel tl p v) : ∀ {ps vs} (i : Nat), VsRel tl ps vs → VsRel tl (ps.set i p) (vs.set i v)
  | _, _, _, .nil => .nil
  | _, _, 0, .cons a b => .cons rv b
  | _, _, i + 1, .cons a b => .cons a (VsRel.set rv i b)
/-- l[k] = p -/
theorem setItem_at {a : Addr} {ps : List PV} {k : Int} {u : Tok} {p : PV} {v : Value} {st : St} {ah' : AH} {A : Around} {s : Shared} {hp : List PV} {hv : List Value} {E : Value → Shared → Prop} {Q : Unit → Shared → Prop}
    (h0 : 0 ≤ k) (h1 : k < ps.length) (h2 : ps.length ≤ 1000000) (U : UpdH a (.list ps) (.list (ps.set k.toNat p)) st.ah ah') (S : V.Sim st (p :: hp) (v :: hv) (vw s)) (h : ∀ s', V.Sim ⟨st.loc, ah'⟩ hp hv (vw s') → Q () s') :
    wpAny (M C) A (setItem (.ref a) (.int k u) v) Q E s := by
  obtain ⟨vs, kk, tl, ho, r, O, -, back⟩ := Sim.setList S U
  have l1 := r.length
  refine setList_at ho h0 (by lia) (by simp only [List.size_toArray]; lia) fun h' ho' hs => ?_
  cases O with
  | cons rv O =>
    refine h _ (back (vs.set k.toNat v) kk h' (r.set rv _) hs ?_ _ _ O)
    rw [ho']; simp
/-- l[k] op= e -/
theorem Ex1_augItem {o i : Expr} {pos' pos : Pos} {op : Operator} {e : Expr} {st : St} {Qn : St → Prop} {Qr : PV → St → Prop} {Qc : St → Prop}
    (h : Ev V n o st fun x st1 => Ev V n i st1 fun j st2 => ∃ a ps k q, x = .ref a ∧ j = .int k ∧ (a, AObj.list ps) ∈ st2.ah ∧ ps.length ≤ 1000000 ∧ pIx ps k = some q ∧ Ev V n e st2 fun p st3 => Io V n op q p st3 fun r st4 =>
      ∃ ps' ah', 0 ≤ k ∧ k < ps'.length ∧ ps'.length ≤ 1000000 ∧ UpdH a (.list ps') (.list (ps'.set k.toNat r)) st4.ah ah' ∧ Qn ⟨st4.loc, ah'⟩)
    (ha : ∀ ov iv new, augStore i ov iv new = (do holding [new, ov, iv] (setItem ov iv new); release [new, ov, iv] []; pure .next)) : Ex1 V n (.AugAssign (.Subscript o i pos') op e pos) st Qn Qr Qc := by
  intro A s hp hv E ok S
  refine wpAny_AugAssign_Subscript_any (wpAny_mono (h A s hp hv E ok S) (fun vo s1 ⟨x, st1, h1, S1⟩ => ?_) fun _ _ e => e) ha
  refine wpAny_mono (h1 A s1 _ _ E ok S1) (fun vi s2 hx => ?_) fun _ _ e => e
  obtain ⟨j, st2, ⟨a, ps, k, q, ex, ej, hm, hs, hk, h2⟩, S2⟩ := hx
  subst ex ej
  obtain ⟨u, rfl⟩ := S2.int1
  obtain rfl := S2.drop1.ref1
  obtain ⟨vs, kk, m, mu, tl, S3, hmu, r⟩ := Sim.list S2 hm
  have hL := S3.N.isList (List.mem_append_left _ hmu)
  have hlen := r.length
  have fin : ∀ v, VRel tl q v → wpAny (M C) A (eval e V.env) (fun v' s₄ => wpAny (M C) A (inplaceOp op v v') (fun new s₅ => wpAny (M C) A (setItem (.ref a) (.int k u) new) (fun _ => PstF V hp hv Qn Qr Qc .next) E s₅) E s₄) E s2 := by
    intro v rv
    have S4 : V.Sim st2 (q :: (.int k :: .ref a :: hp)) (v :: (.int k u :: .ref a :: hv)) (vw s2) := ⟨m, mu, tl, S3.F, S3.N, S3.nd, S3.H, S3.nm, S3.X, S3.R, .cons rv S3.O⟩
    refine wpAny_mono (h2 A s2 _ _ E ok S4) (fun v' s4 ⟨p, st3, h3, S5⟩ => ?_) fun _ _ e => e
    refine wpAny_mono (h3 A s4 _ _ E v v' ok S5) (fun new s5 hx => ?_) fun _ _ e => e
    obtain ⟨r, st4, ⟨ps', ah', g1, g2, g3, U, h4⟩, S6⟩ := hx
    exact setItem_at g1 g2 g3 U S6 fun s' S' => ⟨_, h4, S'.drop1.drop1⟩
  have hb := pIx_len hk
  unfold pIx at hk
  split at hk
  · obtain ⟨v, hv', rv⟩ := r.get hk
    exact wpAny_getItem_list (x := v) hL (by lia) (by lia) (by simpa using hv') (fin v rv)
  · rw [if_pos hb.1] at hk
    obtain ⟨v, hv', rv⟩ := r.get hk
    refine wpAny_getItem_list_neg (x := v) hL (by lia) (by simp only [List.size_toArray]; lia) (by lia) ?_ (fin v rv)
    simpa [hlen] using hv'
/-- l + m -/
theorem Bo_add_list {a b : Addr} {ps qs : List PV} {st : St} {Q : PV → St → Prop} (ha : (a, AObj.list ps) ∈ st.ah) (hb : (b, AObj.list qs) ∈ st.ah) (hs : ps.length + qs.length ≤ 1000000) (h : ∀ c, c ∉ st.ah.map (·.1) → Q (.ref c) ⟨st.loc, (c, .list (ps ++ qs)) :: st.ah⟩) : Bo V n .Add (.ref a) (.ref b) st Q := by
  intro A s hp hv E vx vy ok S
  obtain rfl := S.ref1
  obtain rfl := S.drop1.ref1
  obtain ⟨m, mu, tl, S0⟩ := S
  obtain ⟨c1, r1, hc1⟩ := S0.H.find ha
  obtain ⟨c2, r2, hc2⟩ := S0.H.find hb
  cases r1 with
  | @list _ vs k r1 =>
    cases r2 with
    | @list _ us k2 r2 =>
      have l1 := r1.length
      have l2 := r2.length
      refine add_lists S0.F S0.N (S0.N.isList (List.mem_append_left _ (hc1 _ (.head _)))) (S0.N.isList (List.mem_append_left _ (hc2 _ (.head _)))) (fun h' F' N' => ?_) (by rw [sizeLine_eq]; lia)
      have O : VsRel tl ((ps ++ qs) ++ hp) ((vs ++ us) ++ hv) := by
        cases S0.O with
        | cons _ O => cases O with
          | cons _ O => exact (r1.append r2).append O
      have S1 : Sim0 C V.h₀ V.L F.locs st ((ps ++ qs) ++ hp) ((vs ++ us) ++ hv) (vw s) m mu tl := ⟨S0.F, S0.N, S0.nd, S0.H, S0.nm, S0.X, S0.R, O⟩
      exact ⟨_, _, h _ S0.fresh, S1.newList (k := 0) (by simp [l1, l2]) (fun p hp => Nat.ne_of_lt (lt_of_news S0.N p hp)) F' N'⟩
end Mine
end
section
open PySem PySem.W PyProof.Rows
set_option Elab.async false
set_option genSizeOf false
set_option genInjectivity false
set_option maxRecDepth 100000
set_option maxHeartbeats 1000000
set_option linter.unusedVariables false
set_option linter.unusedSimpArgs false
namespace Mine
variable {C : Cx} {F : FnI} {V : Act C F} {n : Nat}

/-! ### methods of lists and texts -/
inductive HasT (ah : AH) : PV → String → Prop
  | str {l} : HasT ah (.str l) "str"
  | list {a ps} : (a, AObj.list ps) ∈ ah → HasT ah (.ref a) "list"
structure MethAt (name : Str) (T id : String) : Prop where
  pa : PlainAttrs T
  slot : Slot T name id
  ty : typeOf (.builtin id) = pure (.type "method_descriptor")
theorem Sim.rot {h₀ : Heap} {h : HS} {L : Addr} {locs : List Str} {st : St} {x : PV} {vx : Value} {ps hp : List PV} {vs hv : List Value} (hl : vs.length = ps.length) (S : Sim C h₀ L locs st (ps ++ x :: hp) (vs ++ vx :: hv) h) : Sim C h₀ L locs st (x :: ps ++ hp) (vx :: vs ++ hv) h := by
  obtain ⟨m, mu, tl, S⟩ := S
  obtain ⟨a, b⟩ := VsRel.cut hl S.O
  cases b with
  | cons b c => exact ⟨m, mu, tl, S.F, S.N, S.nd, S.H, S.nm, S.X, S.R, .cons b (a.append c)⟩
theorem Ev_meth {o e : Expr} {r : List Expr} {name : Str} {apos pos : Pos} {T id : String} {st : St} {Q : PV → St → Prop} (M0 : MethAt name T id)
    (h : Ev V n o st fun x st1 => HasT st1.ah x T ∧ Es V n (e :: r) st1 fun ps st2 => Ca V n (.builtin id) (x :: ps) st2 Q)
    (hbase : attributeBase o name V.env (eval o V.env) = eval o V.env) (hline : (apos.endLine == pos.line) = true) (he : starEach (e :: r) V.env = (false, eval e V.env) :: starEach r V.env) (hpl : ∀ pos, (backTo pos (starEach r V.env)).any (·.1) = false)
    (hfew : ((backTo pos (starEach (e :: r) V.env)).all (fun x => !x.1) && (backToKw pos (keywordEach [] V.env)).all (fun x => x.1.isSome)
      && decide ((e :: r).length + ([] : List Keyword).length + (if ([] : List Keyword).isEmpty then 0 else 1) < 30)) = true) : Ev V n (.Call (.Attribute o name apos) (e :: r) [] pos) st Q := by
  intro A s hp hv E ok S
  refine wpAny_Call_method_lateS hbase hfew hline (wpAny_mono (h A s hp hv E ok S) (fun vx s1 hx => ?_) fun _ _ e => e)
  obtain ⟨x, st1, ⟨hT, h1⟩, S1⟩ := hx
  have hty : s1.TypeIs vx T ∧ ∀ a, vx = .ref a → ∃ ob, s1.heap.get? a = some ob ∧ ob.dict = none := by
    cases hT with
    | str =>
      obtain ⟨y, t, rfl, rfl⟩ := S1.str1
      exact ⟨typeIs_str _ _ _, fun a e => nomatch e⟩
    | list hm =>
      obtain rfl := S1.ref1
      obtain ⟨vs, k, m, mu, tl, S2, hmu, rr⟩ := Sim.list S1 hm
      have ho := S2.N.get (List.mem_append_left _ hmu)
      exact ⟨⟨_, ho, rfl⟩, fun a e => by cases e; exact ⟨_, ho, rfl⟩⟩
  refine ⟨T, id, M0.pa, M0.slot, M0.ty, hty.1, hty.2, ?_⟩
  have hx := h1 A s1 _ _ E pos ok S1
  rw [he] at hx ⊢
  refine Calls.callWith_builtin (by show (false || (backTo pos (starEach r V.env)).any (·.1)) = false; rw [hpl]; rfl) (Calls.evalArgs_plain (wpAny_mono hx (fun vs s2 hx => ?_) fun _ _ e => e))
  obtain ⟨ps, st2, h2, hl, S2⟩ := hx
  exact h2 A s2 hp hv E (vx :: vs) ok (by simp [hl]) (S2.rot hl)
theorem Ex1_expr {e : Expr} {pos : Pos} {st : St} {Qn : St → Prop} {Qr : PV → St → Prop} {Qc : St → Prop} (h : Ev V n e st fun _ st1 => Qn st1) (hi : interactive V.env = false) (hs : swapsWith e none pos.line V.env = pure false) : Ex1 V n (.Expr e pos) st Qn Qr Qc := by
  intro A s hp hv E ok S
  exact wpAny_Expr_any (wpAny_mono (h A s hp hv E ok S) (fun v s1 ⟨p, st1, h1, S1⟩ => ⟨st1, h1, S1.drop1⟩) fun _ _ e => e) hi hs
theorem meth_append : MethAt "append" "list" "list.append" := ⟨PySem.F.plainAttrs_list, PySem.F.slot_list_append, PySem.F.type_list_append⟩
theorem meth_extend : MethAt "extend" "list" "list.extend" := ⟨PySem.F.plainAttrs_list, PySem.F.slot_list_extend, PySem.F.type_list_extend⟩
theorem meth_count : MethAt "count" "str" "str.count" := ⟨PySem.F.plainAttrs_str, PySem.F.slot_str_count, PySem.F.type_str_count⟩
theorem meth_rstrip : MethAt "rstrip" "str" "str.rstrip" := ⟨PySem.F.plainAttrs_str, PySem.F.slot_str_rstrip, PySem.F.type_str_rstrip⟩
theorem meth_replace : MethAt "replace" "str" "str.replace" := ⟨PySem.F.plainAttrs_str, PySem.F.slot_str_replace, PySem.F.type_str_replace⟩
/-! ### objects that the text does not name -/
theorem Sim0.pushRaw {h₀ h' : Heap} {h : HS} {L a : Addr} {locs : List Str} {st : St} {hp : List PV} {hv : List Value} {m : Str → Option Value} {mu tl : Led} {P : Obj → Prop} {o : Obj} (hP : P o) (S : Sim0 C h₀ L locs st hp hv h m mu tl)
    (ha : ∀ p ∈ mu ++ tl, p.1 ≠ a) (F' : Fr h₀ L h' m) (N' : News h₀ L h' ((a, o) :: (mu ++ tl))) : Sim C h₀ L locs ⟨st.loc, (a, .raw P) :: st.ah⟩ hp hv (h.to h') := by
  refine ⟨m, (a, o) :: mu, tl, F', N', ?_, (HRel.cons (.raw hP) S.H : HRel C tl ((a, .raw P) :: st.ah) ([(a, o)] ++ mu)), S.nm, S.X, S.R, S.O⟩
  simp only [List.cons_append, List.map_cons]
  refine List.nodup_cons.mpr ⟨fun hm => ?_, S.nd⟩
  obtain ⟨p, hp, e⟩ := List.mem_map.mp hm
  exact ha p hp e
theorem HRel.pick {tl : Led} {a : Addr} {o : AObj} : ∀ {pre post : AH} {mu : Led}, HRel C tl (pre ++ (a, o) :: post) mu → ∃ m1 c m2, mu = m1 ++ (c ++ m2) ∧ HRel C tl (pre ++ post) (m1 ++ m2) ∧ ORel C tl a o c
  | [], post, _, .cons (c := c) (mu := mu) r s => ⟨[], c, mu, rfl, s, r⟩
  | p :: pre, post, _, .cons (c := c) (mu := mu) r s => by
    obtain ⟨m1, d, m2, rfl, b, rd⟩ := s.pick
    refine ⟨c ++ m1, d, m2, by simp [List.append_assoc], ?_, rd⟩
    rw [List.append_assoc]
    exact .cons r b
theorem Sim.pickRaw {h₀ : Heap} {h : HS} {L a : Addr} {locs : List Str} {loc : Loc} {pre post : AH} {hp : List PV} {hv : List Value} {P : Obj → Prop} (S : Sim C h₀ L locs ⟨loc, pre ++ (a, .raw P) :: post⟩ hp hv h) :
    ∃ o m mu tl, P o ∧ Sim0 C h₀ L locs ⟨loc, pre ++ post⟩ hp hv h m mu tl ∧ h.heap.get? a = some o ∧ a ≠ L ∧ h₀.get? a = none ∧ ∀ p ∈ mu ++ tl, p.1 ≠ a := by
  obtain ⟨m, mu, tl, S⟩ := S
  obtain ⟨m1, c, m2, rfl, H, r⟩ := S.H.pick
  cases r with
  | @raw _ o hP =>
    have nd := S.nd
    have z := S.N (a, o) (by simp)
    have nd2 : (((a, o) :: (m1 ++ m2 ++ tl)).map (·.1)).Nodup := by
      have pm : List.Perm (m1 ++ ([(a, o)] ++ m2) ++ tl) ((a, o) :: (m1 ++ m2 ++ tl)) := by
        simp only [List.append_assoc, List.cons_append, List.nil_append]
        exact List.perm_middle
      exact (pm.map (fun x => x.1)).nodup_iff.mp nd
    simp only [List.map_cons, List.nodup_cons] at nd2
    refine ⟨o, m, m1 ++ m2, tl, hP, ⟨S.F, fun p hp' => S.N p ?_, nd2.2, H, S.nm, S.X, S.R, S.O⟩, z.1, z.2.1, z.2.2, fun p hp' e => nd2.1 (e ▸ List.mem_map_of_mem (f := (·.1)) hp')⟩
    simp only [List.mem_append, List.mem_cons, List.nil_append, List.cons_append] at hp' ⊢
    rcases hp' with (h | h) | h
    · exact .inl (.inl h)
    · exact .inl (.inr (.inr h))
    · exact .inr h
theorem Sim0.but {h₀ h' : Heap} {h : HS} {L a : Addr} {locs : List Str} {st : St} {hp : List PV} {hv : List Value} {m : Str → Option Value} {mu tl : Led} (S : Sim0 C h₀ L locs st hp hv h m mu tl) (hL : a ≠ L) (hn : h₀.get? a = none)
    (ha : ∀ p ∈ mu ++ tl, p.1 ≠ a) (hs : Heap.ExtBut a h.heap h') : Sim0 C h₀ L locs st hp hv (h.to h') m mu tl :=
  ⟨⟨S.F.ns.extBut hs hL.symm, fun c x e => hs c x (fun q => by rw [q, hn] at e; cases e) (S.F.keep c x e), S.F.above⟩, fun p hp => ⟨hs _ _ (ha p hp) (S.N p hp).1, (S.N p hp).2⟩, S.nd, S.H, S.nm, S.X, S.R, S.O⟩

/-! ### for loops over a list or a tuple -/
noncomputable def ItIs (T : String) (a : Addr) (k : Nat) (o : Obj) : Prop := o.cls = .type T ∧ o.data = .fields #[.ref a, .int k 0]
theorem Sim.raws {h₀ : Heap} {h : HS} {L : Addr} {locs : List Str} {st : St} {hp : List PV} {hv : List Value} (S : Sim C h₀ L locs st hp hv h) {P : Obj → Prop} (o : Obj) (hP : P o) (hfree : o.isFreed = false) : Sim C h₀ L locs ⟨st.loc, (h.heap.objs.size, .raw P) :: st.ah⟩ hp hv (h.to (h.heap.push o)) ∧ h.heap.objs.size ∉ st.ah.map (·.1) := by
  obtain ⟨m, mu, tl, S⟩ := S
  exact ⟨S.pushRaw hP (fun p hp => Nat.ne_of_lt (lt_of_news S.N p hp)) (S.F.push _) (News.push S.F S.N _ hfree), S.fresh⟩
theorem Sim0.sim {h₀ : Heap} {h : HS} {L : Addr} {locs : List Str} {st : St} {hp : List PV} {hv : List Value} {m : Str → Option Value} {mu tl : Led} (S : Sim0 C h₀ L locs st hp hv h m mu tl) : Sim C h₀ L locs st hp hv h := ⟨m, mu, tl, S⟩
/-- what the next item of an iterator is: px is what it runs over -/
structure NextOk (V : Act C F) (n : Nat) (px : PV) (vx : Value) (it : Addr) (P : Nat → Obj → Prop) (all : List PV) (keep : AH → Prop) : Prop where
  h : ∀ k A s hp hv E loc ah (Q : Option Value → Shared → Prop), V.Ok A n → keep ah → V.Sim ⟨loc, (it, .raw (P k)) :: ah⟩ (px :: hp) (vx :: hv) (vw s) →
    (all[k]? = none → ∀ s', V.Sim ⟨loc, ah⟩ (px :: hp) (vx :: hv) (vw s') → Q none s') → (∀ p, all[k]? = some p → ∀ v s', V.Sim ⟨loc, (it, .raw (P (k + 1))) :: ah⟩ (p :: px :: hp) (v :: vx :: hv) (vw s') → Q (some v) s') →
    wpAny (M C) A (pyNext (.ref it)) Q E s
  mono : ∀ ah x, keep ah → keep (x :: ah)
  self : ∀ k A s hp hv (E : Value → Shared → Prop) (Q : Value → Shared → Prop) loc ah, V.Sim ⟨loc, (it, .raw (P k)) :: ah⟩ hp hv (vw s) → Q (.ref it) s → wpAny (M C) A (pyIter (.ref it)) Q E s
theorem Sim.reraw {h₀ h' : Heap} {h : HS} {L a : Addr} {locs : List Str} {loc : Loc} {ah : AH} {hp : List PV} {hv : List Value} {m : Str → Option Value} {mu tl : Led} {P : Obj → Prop} {o : Obj} (S : Sim0 C h₀ L locs ⟨loc, ah⟩ hp hv h m mu tl) (hL : a ≠ L) (hn : h₀.get? a = none) (ha : ∀ p ∈ mu ++ tl, p.1 ≠ a)
    (hs : Heap.ExtBut a h.heap h') (ho : h'.get? a = some o) (hP : P o) : Sim C h₀ L locs ⟨loc, (a, .raw P) :: ah⟩ hp hv (h.to h') := by
  have S3 := S.but hL hn ha hs
  refine S3.pushRaw (h := h.to h') hP ha S3.F fun q hq => ?_
  rcases List.mem_cons.mp hq with e | e
  · rw [e]; exact ⟨ho, hL, hn⟩
  · exact S3.N q e
theorem NextOk_list {a it : Addr} {all : List PV} (hsz : all.length ≤ 1000000) : NextOk V n (.ref a) (.ref a) it (ItIs "list_iterator" a) all (fun ah => (a, AObj.list all) ∈ ah) := by
  refine ⟨fun k A s hp hv E loc ah Q ok hkeep S h0 h1 => ?_, fun ah x h => .tail _ h, fun k A s hp hv E Q loc ah S h => ?_⟩
  · obtain ⟨o, m, mu, tl, hP, S2, hget, hL, hn, hap⟩ := Sim.pickRaw (pre := []) S
    have hit : s.heap.IsListIter it a k := ⟨o, hget, hP.1, hP.2⟩
    obtain ⟨c, rr, hc⟩ := S2.H.find hkeep
    cases rr with
    | @list _ vs kk rr =>
      have hl := S2.N.isList (List.mem_append_left _ (hc _ (.head _)))
      have hlen := rr.length
      cases ha : all[k]? with
      | none => exact wpAny_pyNext_list_end ok.hd hit hl (by simp at ha ⊢; lia) fun h' hs => h0 ha _ (S2.but hL hn hap hs).sim
      | some p =>
        obtain ⟨v, hv', rv⟩ := rr.get (i := k) (p := p) ha
        refine wpAny_pyNext_list_item (x := v) hit hl (by simpa using hv') fun h' hit' hs => ?_
        obtain ⟨o', g1, g2, g3⟩ := hit'
        exact h1 p ha v { s with heap := h' } (Sim.reraw (P := ItIs "list_iterator" a (k + 1)) (⟨S2.F, S2.N, S2.nd, S2.H, S2.nm, S2.X, S2.R, .cons rv S2.O⟩ : Sim0 C V.h₀ V.L F.locs ⟨loc, ah⟩ (p :: .ref a :: hp) (v :: .ref a :: hv) (vw s) m mu tl) hL hn hap hs.extBut g1 ⟨g2, g3⟩)
  · obtain ⟨o, m, mu, tl, hP, S2, hget, hL, hn, hap⟩ := Sim.pickRaw (pre := []) S
    exact wpAny_pyIter_listiter (l := a) (i := k) ⟨o, hget, hP.1, hP.2⟩ h
theorem NextOk_tuple {a it : Addr} {all : List PV} (hsz : all.length ≤ 1000000) : NextOk V n (.tuple all) (.ref a) it (ItIs "tuple_iterator" a) all (fun _ => True) := by
  refine ⟨fun k A s hp hv E loc ah Q ok hkeep S h0 h1 => ?_, fun ah x h => trivial, fun k A s hp hv E Q loc ah S h => ?_⟩
  · obtain ⟨o, m, mu, tl, hP, S2, hget, hL, hn, hap⟩ := Sim.pickRaw (pre := []) S
    have hit : s.heap.IsTupleIter it a k := ⟨o, hget, hP.1, hP.2⟩
    cases S2.O with
    | cons q1 q2 => cases q1 with
     | tuple _ _ vs hm rr =>
      have hl : s.heap.IsTuple a vs.toArray := S2.N.isTup (List.mem_append_right _ hm)
      have hlen := rr.length
      cases ha : all[k]? with
      | none => exact wpAny_pyNext_tuple_end ok.hd hit hl (by simp at ha ⊢; lia) fun h' hs => h0 ha _ (S2.but hL hn hap hs).sim
      | some p =>
        obtain ⟨v, hv', rv⟩ := rr.get (i := k) (p := p) ha
        refine wpAny_pyNext_tuple_item (x := v) hit hl (by simpa using hv') fun h' hit' hs => ?_
        obtain ⟨o', g1, g2, g3⟩ := hit'
        exact h1 p ha v { s with heap := h' } (Sim.reraw (P := ItIs "tuple_iterator" a (k + 1)) (⟨S2.F, S2.N, S2.nd, S2.H, S2.nm, S2.X, S2.R, .cons rv S2.O⟩ : Sim0 C V.h₀ V.L F.locs ⟨loc, ah⟩ (p :: .tuple all :: hp) (v :: .ref a :: hv) (vw s) m mu tl) hL hn hap hs.extBut g1 ⟨g2, g3⟩)
  · obtain ⟨o, m, mu, tl, hP, S2, hget, hL, hn, hap⟩ := Sim.pickRaw (pre := []) S
    exact wpAny_pyIter_tupleiter (t := a) (i := k) ⟨o, hget, hP.1, hP.2⟩ h
/-- iter(p), and what it gives -/
noncomputable def ItOf (V : Act C F) (n : Nat) (p : PV) (st : St) (all : List PV) (keep : AH → Prop) : Prop :=
  ∀ A s hp hv E v (Q : Value → Shared → Prop), V.Ok A n → V.Sim st (p :: hp) (v :: hv) (vw s) → (∀ it P s', it ∉ st.ah.map (·.1) → NextOk V n p v it P all keep → V.Sim ⟨st.loc, (it, .raw (P 0)) :: st.ah⟩ (p :: hp) (v :: hv) (vw s') → Q (.ref it) s') → wpAny (M C) A (pyIter v) Q E s
theorem ItOf_list {a : Addr} {all : List PV} {st : St} (hm : (a, AObj.list all) ∈ st.ah) (hsz : all.length ≤ 1000000) : ItOf V n (.ref a) st all (fun ah => (a, AObj.list all) ∈ ah) := by
  intro A s hp hv E v Q ok S1 h
  obtain rfl := S1.ref1
  obtain ⟨vs, k, m, mu, tl, S2, hmu, rr⟩ := Sim.list S1 hm
  refine wpAny_pyIter_list (S2.N.isList (List.mem_append_left _ hmu)) ?_
  obtain ⟨S3, hfr⟩ := Sim.raws S1 (P := ItIs "list_iterator" a 0) { cls := .type "list_iterator", data := .fields #[.ref a, .int 0 0] } ⟨rfl, rfl⟩ rfl
  exact h _ _ _ hfr (NextOk_list hsz) S3
theorem ItOf_tuple {all : List PV} {st : St} (hsz : all.length ≤ 1000000) : ItOf V n (.tuple all) st all (fun _ => True) := by
  intro A s hp hv E v Q ok S1 h
  obtain ⟨m, mu, tl, S2⟩ := id S1
  cases S2.O with
  | cons q1 q2 => cases q1 with
   | tuple a _ vs hm rr =>
    refine wpAny_pyIter_tuple (S2.N.isTup (List.mem_append_right _ hm)) ?_
    obtain ⟨S3, hfr⟩ := Sim.raws S1 (P := ItIs "tuple_iterator" a 0) { cls := .type "tuple_iterator", data := .fields #[.ref a, .int 0 0] } ⟨rfl, rfl⟩ rfl
    exact h _ _ _ hfr (NextOk_tuple hsz) S3
/-- the turns of a loop: what is still to come, at place k -/
noncomputable def Turns (V : Act C F) (n : Nat) (x : Expr) (body : List Stmt) (keep : AH → Prop) (P : Nat → Obj → Prop) (it : Addr) (Qn : St → Prop) (Qr : PV → St → Prop) : List PV → Nat → St → Prop
  | [], _, st => keep st.ah ∧ Qn st
  | p :: rest, k, st => keep st.ah ∧ As V n x p ⟨st.loc, (it, .raw (P (k + 1))) :: st.ah⟩ fun st1 => Ex V n body st1
        (fun st2 => ∃ pre post, st2.ah = pre ++ (it, .raw (P (k + 1))) :: post ∧ Turns V n x body keep P it Qn Qr rest (k + 1) ⟨st2.loc, pre ++ post⟩) Qr
        (fun st2 => ∃ pre post, st2.ah = pre ++ (it, .raw (P (k + 1))) :: post ∧ Turns V n x body keep P it Qn Qr rest (k + 1) ⟨st2.loc, pre ++ post⟩)
theorem Sim.drop2 {h₀ : Heap} {h : HS} {L : Addr} {locs : List Str} {st : St} {hp : List PV} {hv : List Value} {p q : PV} {v u : Value} (S : Sim C h₀ L locs st (p :: q :: hp) (v :: u :: hv) h) : Sim C h₀ L locs st (p :: hp) (v :: hv) h := by
  obtain ⟨m, mu, tl, S⟩ := S
  cases S.O with | cons a b => cases b with | cons b c => exact ⟨m, mu, tl, S.F, S.N, S.nd, S.H, S.nm, S.X, S.R, .cons a c⟩
theorem Sim.rawFront {h₀ : Heap} {h : HS} {L a : Addr} {locs : List Str} {loc : Loc} {pre post : AH} {hp : List PV} {hv : List Value} {P : Obj → Prop} (S : Sim C h₀ L locs ⟨loc, pre ++ (a, .raw P) :: post⟩ hp hv h) : Sim C h₀ L locs ⟨loc, (a, .raw P) :: (pre ++ post)⟩ hp hv h := by
  obtain ⟨o, m, mu, tl, hP, S2, hget, hL, hn, hap⟩ := Sim.pickRaw S
  exact Sim.reraw S2 hL hn hap (fun _ _ _ e => e) hget hP
/-- how a loop stands when j items are still to come -/
structure ForI (V : Act C F) (n : Nat) (x : Expr) (body : List Stmt) (keep : AH → Prop) (P : Nat → Obj → Prop) (it : Addr) (Qn : St → Prop) (Qr : PV → St → Prop) (all hp : List PV) (hv : List Value) (j : Nat) (s : Shared) : Prop where
  h : ∃ done rest st, all = done ++ rest ∧ j = rest.length ∧ Turns V n x body keep P it Qn Qr rest done.length st ∧ V.Sim ⟨st.loc, (it, .raw (P done.length)) :: st.ah⟩ hp hv (vw s)
theorem for_any {x : Expr} {body : List Stmt} {it : Addr} {P : Nat → Obj → Prop} {keep : AH → Prop} {all : List PV} {Qn : St → Prop} {Qr : PV → St → Prop} {Qc : St → Prop} {A : Around} {s : Shared} {px : PV} {vx : Value} {hp : List PV} {hv : List Value} {R : Result → Shared → Prop} {st : St} (ok : V.Ok A n)
    (N : NextOk V n px vx it P all keep) (ht : ∀ v, letOwnedTupleGo x (.ref it) v = pure ()) (h : Turns V n x body keep P it Qn Qr all 0 st) (S : V.Sim ⟨st.loc, (it, .raw (P 0)) :: st.ah⟩ (px :: hp) (vx :: hv) (vw s))
    (hR : ∀ f s', PstF V hp hv Qn Qr Qc f s' → R (.ok f) s') : codeAny (M C) A (.forLoop x (.ref it) body [] V.env) R s := by
  refine codeAny_forLoop (ForI V n x body keep P it Qn Qr all (px :: hp) (vx :: hv)) ?_ all.length ⟨[], all, st, rfl, rfl, h, S⟩ ht
  intro j s1 hI
  obtain ⟨done, rest, st1, e1, e2, h1, S1⟩ := hI.h
  have hkeep : keep st1.ah := by
    cases rest with
    | nil => exact h1.1
    | cons _ _ => exact h1.1
  refine N.h done.length A s1 hp hv _ st1.loc st1.ah _ ok hkeep S1 (fun ha s2 S2 => ?_) (fun p ha v s2 S2 => ?_)
  · cases rest with
    | nil => exact wpAny_pure (hR _ _ ⟨st1, h1.2, S2.drop1⟩)
    | cons p rest => rw [e1] at ha; simp at ha
  · cases rest with
    | nil => rw [e1] at ha; simp at ha
    | cons p' rest =>
      have ep : p = p' := by rw [e1] at ha; simpa using ha.symm
      subst ep
      refine wpAny_mono (h1.2 A s2 (px :: hp) (vx :: hv) _ v ok S2) (fun _ s3 h3 => ?_) fun _ _ e => e
      obtain ⟨st2, h2, S5⟩ := h3
      refine wpAny_mono (h2 A s3 (px :: hp) (vx :: hv) _ ok S5) (fun f s4 hf => ?_) fun _ _ e => e
      have step : (∃ st', (∃ pre post, st'.ah = pre ++ (it, .raw (P (done.length + 1))) :: post ∧ Turns V n x body keep P it Qn Qr rest (done.length + 1) ⟨st'.loc, pre ++ post⟩) ∧ V.Sim st' (px :: hp) (vx :: hv) (vw s4)) →
          ∃ m, m < j ∧ ForI V n x body keep P it Qn Qr all (px :: hp) (vx :: hv) m s4 := fun hx => by
        obtain ⟨⟨l', a'⟩, ⟨pre, post, ea, h3⟩, S6⟩ := hx
        rw [show a' = pre ++ (it, .raw (P (done.length + 1))) :: post from ea] at S6
        exact ⟨rest.length, by rw [e2]; simp, ⟨done ++ [p], rest, ⟨l', pre ++ post⟩, by rw [e1]; simp, rfl, by simpa using h3, by simpa using Sim.rawFront S6⟩⟩
      cases f with
      | next => exact step hf
      | cont => exact step hf
      | brk => exact hf.elim
      | ret v =>
        obtain ⟨pv, st', hq, S9⟩ := hf
        exact hR _ _ ⟨pv, st', hq, S9.drop2⟩
theorem Ex1_for {x iter : Expr} {body : List Stmt} {pos : Pos} {st : St} {Qn : St → Prop} {Qr : PV → St → Prop} {Qc : St → Prop} (ht : ∀ it v, letOwnedTupleGo x it v = pure ()) (hs : ∀ v, foldedSetIterable iter V.env v = pure v)
    (h : Ev V n iter st fun p st1 => ∃ all keep, ItOf V n p st1 all keep ∧ ∀ P it, it ∉ st1.ah.map (·.1) → Turns V n x body keep P it Qn Qr all 0 st1) : Ex1 V n (.For x iter body [] pos) st Qn Qr Qc := by
  intro A s hp hv E ok S
  refine wpAny_For (wpAny_mono (h A s hp hv E ok S) (fun v s1 hx => ?_) fun _ _ e => e) hs
  obtain ⟨p, st1, ⟨all, keep, hI, hT⟩, S1⟩ := hx
  exact hI A s1 hp hv E v _ ok S1 fun it P s2 hit N S2 => for_any (Qc := Qc) ok N (ht _) (hT P it hit) S2 fun f s' hf => hf
end Mine
end
section
open PySem PySem.W PyProof.Rows PySem.SeqAt
set_option Elab.async false
set_option genSizeOf false
set_option genInjectivity false
set_option maxRecDepth 100000
set_option maxHeartbeats 1000000
set_option linter.unusedVariables false
set_option linter.unusedSimpArgs false
namespace Mine
variable {C : Cx} {F : FnI} {V : Act C F} {n : Nat}

/-! ### lists and tuples compared -/
noncomputable def eqPV : PV → PV → Option Bool
  | .int a, .int b => some (a == b)
  | .bool a, .bool b => some (a == b)
  | .str a, .str b => some (decide (a = b))
  | _, _ => none
noncomputable def eqAll : List PV → List PV → Option Bool
  | [], [] => some true
  | p :: ps, q :: qs => (match eqPV p q, eqAll ps qs with
    | some a, some b => some (a && b)
    | _, _ => none)
  | _, _ => none
theorem eqPV_at {tl tl' : Led} {A : Around} {s : Shared} {p q : PV} {v u : Value} {b : Bool} (hv : VRel tl p v) (hu : VRel tl' q u) (e : eqPV p q = some b) : EqAt A s v u b := by
  cases p <;> cases q <;> first | (cases e; done) | skip
  · rw [hv.bool_inv, hu.bool_inv]; cases e; exact EqAt.bool_bool _ _
  · obtain ⟨t, rfl⟩ := hv.int_inv; obtain ⟨t', rfl⟩ := hu.int_inv; cases e; exact EqAt.int_int _ _ _ _
  · obtain ⟨x, t, rfl, rfl⟩ := hv.str_inv; obtain ⟨y, t', rfl, rfl⟩ := hu.str_inv
    cases e
    rw [show decide (x.cps.toList = y.cps.toList) = (x == y) from (str_beq x y).symm]
    exact EqAt.str_str _ _ _ _
theorem eqAll_at {tl tl' : Led} {A : Around} {s : Shared} {ps : List PV} : ∀ {qs : List PV} {vs us : List Value} {b : Bool}, VsRel tl ps vs → VsRel tl' qs us → eqAll ps qs = some b →
    vs.length = us.length ∧ ∃ e : Nat → Bool, (∀ j (h1 : j < vs.length) (h2 : j < us.length), EqAt A s vs[j] us[j] (e j)) ∧ (List.range vs.length).all e = b := by
  induction ps with
  | nil =>
    intro qs vs us b r1 r2 e
    cases qs with
    | nil => cases e; rw [r1.none, r2.none]; exact ⟨rfl, fun _ => true, fun j h => by simp at h, rfl⟩
    | cons _ _ => cases e
  | cons p ps ih =>
    intro qs vs us b r1 r2 e
    cases qs with
    | nil => cases e
    | cons q qs =>
      obtain ⟨v, vs, rfl, hv, rv⟩ := r1.open
      obtain ⟨u, us, rfl, hu, ru⟩ := r2.open
      cases h1 : eqPV p q with
      | none => simp only [eqAll, h1] at e; cases e
      | some a =>
        cases h2 : eqAll ps qs with
        | none => simp only [eqAll, h1, h2] at e; cases e
        | some c =>
          simp only [eqAll, h1, h2, Option.some.injEq] at e
          obtain ⟨hl, f, hf, ha⟩ := ih rv ru h2
          refine ⟨by simp [hl], fun j => match j with | 0 => a | j + 1 => f j, fun j g1 g2 => ?_, ?_⟩
          · cases j with
            | zero => exact eqPV_at hv hu h1
            | succ j => exact hf j (by simpa using g1) (by simpa using g2)
          · rw [List.length_cons, List.range_succ_eq_map, List.all_cons, List.all_map, ← e]
            dsimp only [Function.comp_def]
            rw [← ha]
theorem Co_eq_list {a c : Addr} {ps qs : List PV} {b : Bool} {st : St} {Q : Bool → St → Prop} (ha : (a, AObj.list ps) ∈ st.ah) (hc : (c, AObj.list qs) ∈ st.ah) (he : eqAll ps qs = some b) (h : Q b st) : Co V n .Eq (.ref a) (.ref c) st Q := by
  intro A s hp hv E vx vy ok S
  obtain rfl := S.ref1
  obtain rfl := S.drop1.ref1
  obtain ⟨m, mu, tl, S0⟩ := id S
  obtain ⟨c1, r1, hc1⟩ := S0.H.find ha
  obtain ⟨c2, r2, hc2⟩ := S0.H.find hc
  cases r1 with
  | @list _ vs k r1 =>
    cases r2 with
    | @list _ us k2 r2 =>
      obtain ⟨hl, e, hE, hb⟩ := eqAll_at (A := A.in1) (s := s) r1 r2 he
      refine eq_listAt (e := e) (S0.N.isList (List.mem_append_left _ (hc1 _ (.head _)))) (S0.N.isList (List.mem_append_left _ (hc2 _ (.head _)))) (by simpa using hl) ok.units (fun j h1 h2 => ?_) ?_
      · simpa using hE j (by simpa using h1) (by simpa using h2)
      · rw [List.size_toArray, hb]; exact cmpOp S h
theorem Co_eq_tup {ps qs : List PV} {b : Bool} {st : St} {Q : Bool → St → Prop} (he : eqAll ps qs = some b) (h : Q b st) : Co V n .Eq (.tuple ps) (.tuple qs) st Q := by
  intro A s hp hv E vx vy ok S
  obtain ⟨m, mu, tl, S0⟩ := id S
  cases S0.O with
  | cons r2 O => cases O with
    | cons r1 O =>
      cases r1 with
      | tuple a _ vs hm1 r1 => cases r2 with
        | tuple c _ us hm2 r2 =>
          obtain ⟨hl, e, hE, hb⟩ := eqAll_at (A := A.in1) (s := s) r1 r2 he
          refine eq_tupleAt (e := e) (S0.N.isTup (List.mem_append_right _ hm1)) (S0.N.isTup (List.mem_append_right _ hm2)) ok.units (fun j h1 h2 => ?_) ?_
          · simpa using hE j (by simpa using h1) (by simpa using h2)
          · have : ((List.range (min vs.toArray.size us.toArray.size)).all e && vs.toArray.size == us.toArray.size) = b := by
              simp only [List.size_toArray, ← hl, Nat.min_self, hb]; simp
            rw [this]; exact cmpOp S h
theorem Co_ne_bool {a c : Bool} {st : St} {Q : Bool → St → Prop} (h : Q (a != c) st) : Co V n .NotEq (.bool a) (.bool c) st Q := by
  intro A s hp hv E vx vy ok S
  obtain rfl := S.bool1
  obtain rfl := S.drop1.bool1
  exact PyProof.Rows.ne_bool (cmpOp S h)
/-- one sign in a text -/
theorem Co_in_one {c : Nat} {t : List Nat} {st : St} {Q : Bool → St → Prop} (h : Q (decide (c ∈ t)) st) : Co V n .In (.str [c]) (.str t) st Q := by
  intro A s hp hv E vx vy ok S
  obtain ⟨x, t1, rfl, rfl⟩ := S.str1
  obtain ⟨y, t2, rfl, hy⟩ := S.drop1.str1
  refine PyProof.Rows.in_str ?_
  have e : y = ⟨#[c]⟩ := by
    obtain ⟨y⟩ := y
    have : y = #[c] := Array.toList_inj.mp hy
    rw [this]
  subst e
  rw [StrLaws.found_one]
  exact cmpOp S h
/-- the places of the sign c among the k from i on -/
noncomputable def posIn (c : Nat) (l : List Nat) : Nat → Nat → List Nat
  | _, 0 => []
  | i, k + 1 => if l[i]? = some c then i :: posIn c l (i + 1) k else posIn c l (i + 1) k
theorem posIn_succ (c : Nat) (l : List Nat) (i k : Nat) : posIn c l i (k + 1) = if l[i]? = some c then i :: posIn c l (i + 1) k else posIn c l (i + 1) k := rfl
theorem occ_run (x : Str) (c lim : Nat) : ∀ (k i : Nat) (acc : Array Nat) (free : Nat), free ≤ i → (forIn (List.range' i k) (acc, free) (StrLaws.occBody x ⟨#[c]⟩ x.length lim)).run.fst.toList = acc.toList ++ (posIn c x.cps.toList i k).take (lim - acc.size)
  | 0, i, acc, free, h => by simp [posIn]
  | k + 1, i, acc, free, h => by
    rw [List.range'_succ, List.forIn_cons]
    unfold StrLaws.occBody
    have key := StrLaws.subAt_one x c i
    have len1 : (⟨#[c]⟩ : Str).length = 1 := rfl
    by_cases hc : x.cps.toList[i]? = some c
    · obtain ⟨h1, h2⟩ := key.mpr hc
      by_cases hl : acc.size < lim
      · rw [if_pos ⟨⟨⟨hl, h⟩, h1⟩, h2⟩]
        show (forIn (List.range' (i + 1) k) (acc.push i, i + 1) (StrLaws.occBody x ⟨#[c]⟩ x.length lim)).run.fst.toList = _
        rw [occ_run x c lim k (i + 1) (acc.push i) (i + 1) (Nat.le_refl _)]
        rw [posIn_succ, if_pos hc]
        obtain ⟨d, hd⟩ : ∃ d, lim - acc.size = d + 1 := ⟨lim - acc.size - 1, by lia⟩
        have hd2 : lim - (acc.push i).size = d := by rw [Array.size_push]; lia
        rw [hd, hd2, List.take_succ_cons]
        simp
      · rw [if_neg (fun q => hl q.1.1.1)]
        show (forIn (List.range' (i + 1) k) (acc, free) (StrLaws.occBody x ⟨#[c]⟩ x.length lim)).run.fst.toList = _
        rw [occ_run x c lim k (i + 1) acc free (by lia)]
        have : lim - acc.size = 0 := by lia
        rw [this]; simp
    · rw [if_neg (fun q => hc (key.mp ⟨q.1.2, q.2⟩))]
      show (forIn (List.range' (i + 1) k) (acc, free) (StrLaws.occBody x ⟨#[c]⟩ x.length lim)).run.fst.toList = _
      rw [occ_run x c lim k (i + 1) acc free (by lia)]
      rw [posIn_succ, if_neg hc]
theorem occ_one (x : Str) (c lim : Nat) : Builtin.Str.occurrences x ⟨#[c]⟩ 0 x.length lim = (posIn c x.cps.toList 0 (x.length + 1)).take lim := by
  rw [StrLaws.occ_eq, occ_run x c lim _ 0 #[] 0 (Nat.le_refl _)]
  simp
theorem posIn_len (c : Nat) (l : List Nat) : ∀ (k i : Nat), (posIn c l i k).length = ((l.drop i).take k).count c
  | 0, i => by simp [posIn]
  | k + 1, i => by
    rw [posIn_succ]
    cases hd : l[i]? with
    | none =>
      have : l.length ≤ i := by simpa using hd
      rw [if_neg (by simp), posIn_len c l k (i + 1), List.drop_of_length_le this, List.drop_of_length_le (by lia)]
      simp
    | some a =>
      obtain ⟨hlt, ha⟩ := List.getElem?_eq_some_iff.mp hd
      rw [List.drop_eq_getElem_cons hlt, List.take_succ_cons, List.count_cons, ha]
      by_cases q : a = c
      · subst q
        rw [if_pos rfl, List.length_cons, posIn_len a l k (i + 1)]
        simp
      · rw [if_neg (by simpa using q), posIn_len c l k (i + 1)]
        simp [q]
theorem count_one (x : Str) (c : Nat) : Txt.count x ⟨#[c]⟩ = (x.cps.toList.count c : Int) := by
  unfold Txt.count
  rw [occ_one, List.length_take, posIn_len]
  have hl : x.length = x.cps.toList.length := by simp [Str.length]
  rw [hl, List.drop_zero, List.take_of_length_le (by lia)]
  have := List.count_le_length (a := c) (l := x.cps.toList)
  rw [Nat.min_eq_right (by lia)]
theorem Ca_count {c : Nat} {t : List Nat} {st : St} {Q : PV → St → Prop} (h : Q (.int (t.count c)) st) : Ca V n (.builtin "str.count") [.str t, .str [c]] st Q := Ca_two fun A s hp hv E v u ok S => by
  obtain ⟨x, t1, rfl, rfl⟩ := S.str1
  obtain ⟨y, t2, rfl, hy⟩ := S.drop1.str1
  have e : y = ⟨#[c]⟩ := by
    obtain ⟨y⟩ := y
    have : y = #[c] := Array.toList_inj.mp hy
    rw [this]
  subst e
  refine SC.count ?_
  rw [count_one x c]
  exact ⟨_, st, h, S.drop1.drop1.push fun _ => .int _ _⟩
/-- without the sign c at its end -/
noncomputable def rstr (c : Nat) (l : List Nat) : List Nat := (l.reverse.dropWhile (· == c)).reverse
theorem rstr_eq (x : Str) (c : Nat) : (Txt.rstripChars x ⟨#[c]⟩).cps.toList = rstr c x.cps.toList := by
  unfold Txt.rstripChars
  rw [PyProof.Rows.stripBy_eq]
  have h0 : stripLo (#[c] : Array Nat).contains false x = 0 := rfl
  rw [h0]
  unfold stripHi Builtin.Str.strSub rstr
  simp only [if_true, List.drop_zero]
  have hf : (fun a => (#[c] : Array Nat).contains a) = (fun a => a == c) := by
    funext a
    by_cases q : a = c <;> simp [q]
  rw [show (#[c] : Array Nat).contains = (fun a => (#[c] : Array Nat).contains a) from rfl, hf]
  have hlen : x.length = x.cps.toList.length := by simp [Str.length]
  rw [hlen]
  have ht : ∀ l : List Nat, (l.dropWhile (fun a => a == c)).reverse = l.reverse.take (l.length - (l.takeWhile (fun a => a == c)).length) := by
    intro l
    have e : l = l.takeWhile (fun a => a == c) ++ l.dropWhile (fun a => a == c) := List.takeWhile_append_dropWhile.symm
    have hl : l.length = (l.takeWhile (fun a => a == c)).length + (l.dropWhile (fun a => a == c)).length := by
      conv => lhs; rw [e, List.length_append]
    conv => rhs; rw [show l.reverse = (l.dropWhile (fun a => a == c)).reverse ++ (l.takeWhile (fun a => a == c)).reverse from by conv => lhs; rw [e, List.reverse_append]]
    rw [List.take_append_of_le_length (by simp; lia), List.take_of_length_le (by simp; lia)]
  rw [ht]
  simp
theorem Ca_rstrip {c : Nat} {t : List Nat} {st : St} {Q : PV → St → Prop} (hs : Small t) (h : Q (.str (rstr c t)) st) : Ca V n (.builtin "str.rstrip") [.str t, .str [c]] st Q := Ca_two fun A s hp hv E v u ok S => by
  obtain ⟨x, t1, rfl, rfl⟩ := S.str1
  obtain ⟨y, t2, rfl, hy⟩ := S.drop1.str1
  have e : y = ⟨#[c]⟩ := by
    obtain ⟨y⟩ := y
    have : y = #[c] := Array.toList_inj.mp hy
    rw [this]
  subst e
  simp only [Small] at hs
  refine SC.rstripChars (fun t' k => ?_) (by rw [sizeLine_eq, len_eq]; lia)
  exact ⟨_, st, h, S.drop1.drop1.str_push (rstr_eq x c)⟩

/-! ### the class of the text -/
section
variable {ss : List Stmt} {fns bs fields : List Str}
noncomputable abbrev picA (C : Cx) : Addr := adr C.K "Picture"
theorem Good.cls (G : Good C ss fns bs fields) : makesIn C.K (picA C) = true ∧ findIn C.K (.ref (picA C)) "__init__" = some (some (.ref (initAt C.K (picA C)))) ∧ typeIn C.K (.ref (initAt C.K (picA C))) = some (.type "function") ∧ isIn C.K (.ref (picA C)) (picA C) = true := by
  have := G.checks.2.2.2
  simp only [clsOk, Bool.and_eq_true, beq_iff_eq] at this
  obtain ⟨⟨⟨⟨⟨⟨⟨a, b⟩, c⟩, d⟩, e⟩, f⟩, g⟩, i⟩ := this
  exact ⟨a, b, c, g⟩
theorem tc_weight (a : Addr) (r : List Value) (kw : List (Str × Value)) : (Code.builtin "type.__call__" ⟨.ref a :: r, kw⟩).weight = 1 := by kernel_rfl
theorem tc_units (a : Addr) (r : List Value) (kw : List (Str × Value)) : (Code.builtin "type.__call__" ⟨.ref a :: r, kw⟩).cUnits = 1 := by kernel_rfl
theorem tc_envs (a : Addr) (r : List Value) (kw : List (Str × Value)) : (Code.builtin "type.__call__" ⟨.ref a :: r, kw⟩).envs = [] := by kernel_rfl
theorem Act.Ok.under {V : Act C F} {A : Around} {n : Nat} (ok : V.Ok A (n + 1)) (a : Addr) (r : List Value) (kw : List (Str × Value)) : V.Ok (A.under (.builtin "type.__call__" ⟨.ref a :: r, kw⟩)) n := by
  have h1 := ok.fr
  have h2 := ok.dp
  have h3 := ok.un
  refine ⟨?_, ok.hd, ?_, ?_⟩
  · unfold Around.under; dsimp only; rw [tc_envs]; exact h1
  · unfold Around.under; dsimp only; rw [tc_weight]; lia
  · unfold Around.under; dsimp only; rw [tc_units]; lia
theorem Ev_make (G : Good C ss fns bs fields) {gp pos : Pos} {st : St} {Q : PV → St → Prop} (hg : Str.ofString "Picture" ∈ F.gls)
    (h : ∀ a, a ∉ st.ah.map (·.1) → Fn C n (initAt C.K (picA C)) [.ref a] ((a, .inst (picA C) []) :: st.ah) fun p ah' => p = .none ∧ Q (.ref a) ⟨st.loc, ah'⟩) : Ev V (n + 1) (.Call (.Name (Str.ofString "Picture") gp) [] [] pos) st Q := by
  intro A s hp hv E ok S
  obtain ⟨m, mu, tl, S₀⟩ := id S
  have GA := globAt_of G.checks.2.1
  refine Call_Name rfl (nameX_K S₀.F V.X (topRead_of V.T) GA.at_ ?_ F.hk (F.hg _ hg).1 (F.hg _ hg).2)
  obtain ⟨c1, c2, c3, c4⟩ := G.cls
  have X := V.X.keeps S₀.F.keep
  refine callWith_K0 X GA.keep (wpAny_call (make_K S₀.F S₀.N X c1 c2 c3 fun x dx h' F' N' hlt hxd => ?_))
  have hfr : x ∉ st.ah.map (·.1) := by
    intro hm
    obtain ⟨⟨a, o⟩, hp', e⟩ := List.mem_map.mp hm
    obtain ⟨y, hy⟩ := S₀.H.key hp'
    have := hlt _ (List.mem_append_left _ hy)
    have e : a = x := e
    have this : a < dx := this
    rw [e] at this
    exact absurd (Nat.lt_trans this hxd) (Nat.lt_irrefl _)
  have S1 : V.Sim ⟨st.loc, (x, .inst (picA C) []) :: st.ah⟩ (.ref x :: hp) (.ref x :: hv) ((vw s).to h') := by
    refine ⟨m, [(x, instObj (picA C) dx), (dx, dictOf [] 0)] ++ mu, tl, F', fun p hp => N' p hp, ?_, HRel.cons (.inst .nil .nil) S₀.H, S₀.nm, S₀.X, S₀.R, .cons (.ref x) S₀.O⟩
    have hd := S₀.nd
    have off : ∀ y, dx ≤ y → y ∉ (mu ++ tl).map (·.1) := fun y hy hm => by
      obtain ⟨p, hp', e⟩ := List.mem_map.mp hm
      have := hlt p hp'
      have e : p.1 = y := e
      rw [e] at this
      exact absurd this (Nat.not_lt.mpr hy)
    simp only [List.cons_append, List.nil_append, List.map_cons]
    refine List.nodup_cons.mpr ⟨fun hm => ?_, List.nodup_cons.mpr ⟨off dx (Nat.le_refl _), hd⟩⟩
    rcases List.mem_cons.mp hm with e | e
    · exact absurd e (Nat.ne_of_gt hxd)
    · exact off x (Nat.le_of_lt hxd) e
  refine codeAny_mono (h x hfr _ V _ { s with heap := h' } hp hv E [.ref x] st.loc (ok.under _ _ _) rfl S1) fun r s' z => ?_
  match r, z with
  | .ok (.ret v), ⟨p, ⟨l', a'⟩, ⟨e1, e2, e3⟩, S2⟩ =>
    cases e1
    subst e2
    obtain rfl := S2.none1
    exact ⟨rfl, .ref x, _, e3, S2.drop1.push fun _ => .ref _⟩
  | .error e, z => exact z
theorem cls_of_inst (G : Good C ss fns bs fields) {prog : Program} {w : World} {A : Around} {s : Shared} {E : Value → Shared → Prop} {x dx : Addr} {es : List DictEntry} {k : Nat} (X : C.K.In s.heap) (I : InstAt s.heap x (instObj (picA C) dx) (picA C) (some (dictOf es k))) {Q : Option Value → Shared → Prop}
    (h : Q (some (.ref (picA C))) { s with toks := s.toks + 1 }) : wpAny (model prog w) A (getAttr? (.ref x) "__class__") Q E s := by
  have hN := G.noTup
  simp only [noTup, Bool.and_eq_true, beq_iff_eq] at hN
  obtain ⟨⟨⟨⟨⟨n1, n2⟩, n3⟩, n4⟩, n5⟩, n6⟩ := hN
  obtain ⟨g1, g2⟩ := plainGet_of n1
  have hc : (clsIn C.K (picA C)).isSome = true := by
    have := G.checks.2.2.2
    simp only [clsOk, Bool.and_eq_true, beq_iff_eq] at this
    obtain ⟨cd, hcd, _⟩ := any_some this.1.1.2
    rw [hcd]; rfl
  have hf := findObj_data (od := dictOf es k) hc n2 n3 n4
  obtain ⟨hh, g, d, t, os⟩ := s
  have T0 := I.type (M := model prog w)
  have T1 := looks_findIn (M := model prog w) X g1
  have T2 := looks_find (M := model prog w) X I hf
  have T3 := looks_findIn (M := model prog w) X g2
  unfold getAttr? getAttrBy? getAttrBy
  refine wpAny_bind (wpAny_mkText (wpAny_bind (wpAny_attempt (wpAny_holding (wpAny_bind (T0.at (wpAny_bind (T1.at ?_))))))))
  show wpAny _ _ (getAttrEveryday _ _ _) _ _ _
  refine wpAny_bind (wpAny_onRaise (wpAny_runValue (codeAny_builtin F.plainObj_entry_getattr_hooked ?_)))
  refine wpAny_bind (wpAny_pure (wpAny_bind (T0.at (wpAny_bind (T2.at (wpAny_bind (T3.at ?_)))))))
  show wpAny _ _ (holding [.builtin "object.__class__"] (call (.builtin "getset_descriptor.__get__") [.builtin "object.__class__", .ref x, .ref (picA C)]) >>= ret) _ _ _
  refine wpAny_bind (wpAny_holding (wpAny_call (class_get (s := ⟨hh, g, d, t + 1, os⟩) (ox := instObj (picA C) dx) (od := some (dictOf es k)) X I n5 ?_)))
  refine wpAny_pure ?_
  exact handed_on rfl (wpAny_pure h)
theorem isi_nested_tup (G : Good C ss fns bs fields) {prog : Program} {w : World} {A : Around} {s : Shared} {E : Value → Shared → Prop} {x dx : Addr} {es : List DictEntry} {k : Nat} {dep : Int} {tk : Tok} (X : C.K.In s.heap) (I : InstAt s.heap x (instObj (picA C) dx) (picA C) (some (dictOf es k))) {Q : Fin → Shared → Prop}
    (h : Q (.done (.ret (.bool false))) { s with toks := s.toks + 1 }) : wpAny (model prog w) A (Builtin.«isinstance.nested» ⟨[.ref x, .type "tuple", .int dep tk], []⟩) Q E s := by
  have hN := G.noTup
  simp only [noTup, Bool.and_eq_true, beq_iff_eq] at hN
  obtain ⟨⟨⟨⟨⟨n1, n2⟩, n3⟩, n4⟩, n5⟩, n6⟩ := hN
  have hc : ∃ cd, clsIn C.K (picA C) = some cd := by
    have := G.checks.2.2.2
    simp only [clsOk, Bool.and_eq_true, beq_iff_eq] at this
    obtain ⟨cd, hcd, _⟩ := any_some this.1.1.2
    exact ⟨cd, hcd⟩
  obtain ⟨cd, hcd⟩ := hc
  have hisD : Looks (model prog w) s.heap (isType (.ref (picA C))) true := by
    unfold clsIn at hcd
    split at hcd
    · rename_i c' d' cd' sl' ho
      intro A' Q' E' s' kk q
      unfold isType loadHead
      exact wpAny_bind (wpAny_loadPart (kk _ _ (X _ _ ho)) (wpAny_pure q))
    · cases hcd
  have T0 := I.type (M := model prog w)
  have T1 : Looks (model prog w) s.heap (isSubtype (.ref (picA C)) (.type "tuple")) false := looks_subIn X n6
  have T2 : Looks (model prog w) s.heap (isInstance (.ref x) (.type "tuple")) false := T0.andThen T1
  obtain ⟨hh, g, d, t, os⟩ := s
  unfold Builtin.«isinstance.nested»
  refine wpAny_bind (T0.at ?_)
  rw [if_neg (fun q => by cases beq_iff_eq.mp q)]
  refine wpAny_bind (wpAny_of_eq (a := Value.type "type") rfl ?_)
  rw [if_pos (by decide)]
  k_delta "plainIsInstance"
  refine wpAny_bind (wpAny_bind (wpAny_of_eq (a := true) rfl ?_))
  simp only [Bool.not_true, Bool.false_eq_true, if_false]
  refine wpAny_bind (T2.at ?_)
  simp only [Bool.false_eq_true, if_false]
  refine wpAny_bind (cls_of_inst G X I ?_)
  refine wpAny_bind (hisD.at ?_)
  simp only [Bool.not_true, Bool.false_eq_true, if_false]
  refine wpAny_bind (wpAny_rule ?_)
  refine T1.at ?_
  first
    | exact wpAny_pure h
    | exact wpAny_pure (wpAny_pure h)
    | exact wpAny_bind (wpAny_pure (wpAny_pure h))
theorem Sim.inst {h₀ : Heap} {h : HS} {L a K : Addr} {locs : List Str} {st : St} {hp : List PV} {hv : List Value} {kvs : List (Str × PV)} (S : Sim C h₀ L locs st hp hv h) (hm : (a, AObj.inst K kvs) ∈ st.ah) :
    ∃ dx es k, InstAt h.heap a (instObj K dx) K (some (dictOf es k)) ∧ ∃ m, Fr h₀ L h.heap m := by
  obtain ⟨m, mu, tl, S⟩ := S
  obtain ⟨c, r, hc⟩ := S.H.find hm
  cases r with
  | inst r hn => exact ⟨_, _, _, InstAt.of_news S.N (List.mem_append_left _ (hc _ (.head _))) (List.mem_append_left _ (hc _ (.tail _ (.head _)))), m, S.F⟩
theorem isi_tup_inst (G : Good C ss fns bs fields) {a : Addr} {kvs : List (Str × PV)} {st : St} {Q : PV → St → Prop} (hm : (a, AObj.inst (picA C) kvs) ∈ st.ah) (h : Q (.bool false) st) :
    ∀ A s hp hv E v, V.Ok A n → V.Sim st (.ref a :: hp) (v :: hv) (vw s) → wpAny (M C) A (call (.builtin "isinstance") [v, .type "tuple"]) (Pst V hp hv Q) E s := by
  intro A s hp hv E v ok S
  obtain rfl := S.ref1
  obtain ⟨dx, es, k, I, m, F0⟩ := S.inst hm
  exact call_isinstance (S := fun _ R s => (C.K.In s.heap ∧ InstAt s.heap a (instObj (picA C) dx) (picA C) (some (dictOf es k))) ∧ R (.ok (.ret (.bool false))) { s with toks := s.toks + 1 })
    (fun _ _ _ _ _ hs => isinstance_outer (isi_nested_tup G hs.1.1 hs.1.2 hs.2) (by intro q; cases q)) ⟨⟨V.X.keeps F0.keep, I⟩, ⟨_, st, h, S.drop1.push fun _ => .bool _⟩⟩
theorem isi_pic (G : Good C ss fns bs fields) {a : Addr} {kvs : List (Str × PV)} {st : St} {Q : PV → St → Prop} (hm : (a, AObj.inst (picA C) kvs) ∈ st.ah) (h : Q (.bool true) st) :
    ∀ A s hp hv E v, V.Ok A n → V.Sim st (.ref a :: hp) (v :: hv) (vw s) → wpAny (M C) A (call (.builtin "isinstance") [v, .ref (picA C)]) (Pst V hp hv Q) E s := by
  intro A s hp hv E v ok S
  obtain rfl := S.ref1
  obtain ⟨dx, es, k, I, m, F0⟩ := S.inst hm
  exact isi_call (V.X.keeps F0.keep) (fun M' => I.type) G.cls.2.2.2 (by intro q; cases q) ⟨_, st, h, S.drop1.push fun _ => .bool _⟩
/-- isinstance(e, Picture) -/
theorem Ev_isi_pic (G : Good C ss fns bs fields) {gp tp pos : Pos} {e : Expr} {st : St} {Q : PV → St → Prop} (h1 : bs.contains (Str.ofString "isinstance") = true) (h2 : F.gls.contains (Str.ofString "isinstance") = true) (h4 : F.gls.contains (Str.ofString "Picture") = true)
    (he : starEach [e, .Name (Str.ofString "Picture") tp] V.env = [(false, eval e V.env), (false, eval (.Name (Str.ofString "Picture") tp) V.env)])
    (h : Ev V n e st fun p st1 => ∀ A s hp hv E v, V.Ok A n → V.Sim st1 (p :: hp) (v :: hv) (vw s) → wpAny (M C) A (call (.builtin "isinstance") [v, .ref (picA C)]) (Pst V hp hv Q) E s) :
    Ev V n (.Call (.Name (Str.ofString "isinstance") gp) [e, .Name (Str.ofString "Picture") tp] [] pos) st Q := by
  intro A s hp hv E ok S
  obtain ⟨m, mu, tl, S₀⟩ := id S
  have GI := G.bi h1 bo_isinstance (by decide +kernel)
  have GA := globAt_of G.checks.2.1
  refine Call_Name rfl (nameX_B S₀.F V.X (topRead_of V.T) GI.miss GI.boot GI.ne ?_ F.hk (F.hg _ (mem_of h2)).1 (F.hg _ (mem_of h2)).2)
  rw [he]
  refine Calls.callWith_builtin rfl (Calls.evalArgs_plain (Calls.spliced_cons (wpAny_mono (h A s hp hv E ok S) (fun v s1 hx => ?_) fun _ _ e => e)))
  obtain ⟨p, st1, h1, S1⟩ := hx
  obtain ⟨m1, mu1, tl1, S1'⟩ := id S1
  refine Calls.spliced_cons (nameX_K S1'.F V.X (topRead_of V.T) GA.at_ ?_ F.hk (F.hg _ (mem_of h4)).1 (F.hg _ (mem_of h4)).2)
  exact Calls.spliced_nil (h1 A s1 hp hv E v ok S1)
end
end Mine
end
section
open PySem PySem.W PyProof.Rows
set_option Elab.async false
set_option genSizeOf false
set_option genInjectivity false
set_option maxRecDepth 100000
set_option maxHeartbeats 1000000
set_option linter.unusedVariables false
set_option linter.unusedSimpArgs false
namespace Mine

/-! ### a compact form of the text: names of locals are places -/
inductive PE where
  | var (i : Nat) (x : String)
  | int (i : Int)
  | str (l : List Nat)
  | bool (b : Bool)
  | none
  | bin (op : Operator) (a b : PE)
  | neg (a : PE)
  | not (a : PE)
  | cmp (op : CmpOp) (a b : PE)
  | and (a b : PE)
  | or (a b : PE)
  | andS (a b : PE)
  | orS (a b : PE)
  | ife (t a b : PE)
  | ifj (t a b : PE)
  | attr (o : PE) (x : String)
  | idx (o i : PE)
  | slice (o lo hi : PE)
  | tup (l : PE)
  | call (g : String) (l : PE)
  | len (a : PE)
  | abs (a : PE)
  | max (a b : PE)
  | isStr (a : PE)
  | isTup (a : PE)
  | lst (l : PE)
  | cat (a b : PE)
  | isPic (a : PE)
  | newPic
  | cnt (a b : PE)
  | rst (a b : PE)
  | nil
  | cons (a b : PE)

noncomputable def nth {α : Type} : List α → Nat → Option α
  | [], _ => .none
  | a :: _, 0 => some a
  | _ :: l, i + 1 => nth l i
noncomputable def putAt (p : PV) : Loc → Nat → Loc
  | [], _ => []
  | (x, _) :: l, 0 => (x, some p) :: l
  | e :: l, i + 1 => e :: putAt p l i
theorem nth_mem {α : Type} {a : α} : ∀ {l : List α} {i : Nat}, nth l i = some a → a ∈ l
  | _ :: _, 0, h => by cases h; exact .head _
  | _ :: _, i + 1, h => .tail _ (nth_mem (i := i) h)
theorem putAt_put {p : PV} {x : Str} {o : Option PV} : ∀ {l : Loc} {i : Nat}, nth l i = some (x, o) → Put x p l (putAt p l i)
  | _ :: _, 0, h => by cases h; exact .here
  | _ :: _, i + 1, h => .next (putAt_put (i := i) h)

structure FnP (C : Cx) (n : Nat) (g : Str) (args : List PV) (ah : AH) (Q : PV → AH → Prop) : Prop where
  h : Fn C n (adr C.K g) args ah Q

noncomputable abbrev Kon := PV → St → Prop
noncomputable def mulSide (a b : Int) : Prop := a.natAbs < 2 ^ 62 ∨ b.natAbs < 2 ^ 62
theorem bits62 {a : Int} (h : a.natAbs < 2 ^ 62) : Builtin.Int.intBits a ≤ 64 := intBits_le_64 (by omega) (by omega)
theorem mulSide_ok {a b : Int} (h : mulSide a b) : IntMulOk a b := h.elim (fun h => IntMulOk.of_left (bits62 h)) fun h => IntMulOk.of_right (bits62 h)

/-- what stands between the walk and its end -/
structure Side (P R : Prop) : Prop where
  p : P
  r : R
/-- a list's item -/
structure ItL (a : Addr) (k : Int) (st : St) (Q : Kon) : Prop where
  h : ∃ ps p, (a, AObj.list ps) ∈ st.ah ∧ ps.length ≤ 1000000 ∧ pIx ps k = some p ∧ Q p st
/-- a list's length -/
structure LenL (a : Addr) (st : St) (Q : Kon) : Prop where
  h : ∃ ps, (a, AObj.list ps) ∈ st.ah ∧ ps.length ≤ 1000000 ∧ Q (.int ps.length) st
/-- two lists compared -/
structure EqL (a c : Addr) (st : St) (Q : Kon) : Prop where
  h : ∃ ps qs b, (a, AObj.list ps) ∈ st.ah ∧ (c, AObj.list qs) ∈ st.ah ∧ eqAll ps qs = some b ∧ Q (.bool b) st
/-- a new list -/
structure NewL (ps : List PV) (st : St) (Q : Kon) : Prop where
  len : ps.length ≤ 1000000
  r : ∀ a, a ∉ st.ah.map (·.1) → Q (.ref a) ⟨st.loc, (a, .list ps) :: st.ah⟩
/-- two lists, one after the other -/
structure CatL (a b : Addr) (st : St) (Q : Kon) : Prop where
  h : ∃ ps qs, (a, AObj.list ps) ∈ st.ah ∧ (b, AObj.list qs) ∈ st.ah ∧ ps.length + qs.length ≤ 1000000 ∧ NewL (ps ++ qs) st Q
/-- an instance of the class -/
structure PicI (C : Cx) (a : Addr) (st : St) (R : Prop) : Prop where
  h : ∃ kvs, (a, AObj.inst (picA C) kvs) ∈ st.ah
  r : R
structure MakeW (C : Cx) (n : Nat) (st : St) (Q : Kon) : Prop where
  h : ∀ a, a ∉ st.ah.map (·.1) → Fn C (n - 1) (initAt C.K (picA C)) [.ref a] ((a, .inst (picA C) []) :: st.ah) fun p ah' => p = .none ∧ Q (.ref a) ⟨st.loc, ah'⟩
  n : 1 ≤ n
/-! #### what kind of value it is -/
noncomputable def onInt (x : PV) (k : Int → Prop) : Prop := match x with | .int i => k i | _ => False
noncomputable def onBool (x : PV) (k : Bool → Prop) : Prop := match x with | .bool i => k i | _ => False
noncomputable def onStr (x : PV) (k : List Nat → Prop) : Prop := match x with | .str i => k i | _ => False
noncomputable def onRef (x : PV) (k : Addr → Prop) : Prop := match x with | .ref i => k i | _ => False
noncomputable def onTup (x : PV) (k : List PV → Prop) : Prop := match x with | .tuple i => k i | _ => False
noncomputable def onSome {α : Type} (x : Option α) (k : α → Prop) : Prop := match x with | some i => k i | _ => False
noncomputable def onSign (x : List Nat) (k : Nat → Prop) : Prop := match x with | [c] => k c | _ => False
noncomputable def onLoc (x : Option (Str × Option PV)) (k : PV → Prop) : Prop := match x with | some (_, some p) => k p | _ => False
theorem onInt_inv {x : PV} {k : Int → Prop} (h : onInt x k) : ∃ i, x = .int i ∧ k i := by cases x <;> first | exact ⟨_, rfl, h⟩ | exact h.elim
theorem onBool_inv {x : PV} {k : Bool → Prop} (h : onBool x k) : ∃ i, x = .bool i ∧ k i := by cases x <;> first | exact ⟨_, rfl, h⟩ | exact h.elim
theorem onStr_inv {x : PV} {k : List Nat → Prop} (h : onStr x k) : ∃ i, x = .str i ∧ k i := by cases x <;> first | exact ⟨_, rfl, h⟩ | exact h.elim
theorem onRef_inv {x : PV} {k : Addr → Prop} (h : onRef x k) : ∃ i, x = .ref i ∧ k i := by cases x <;> first | exact ⟨_, rfl, h⟩ | exact h.elim
theorem onTup_inv {x : PV} {k : List PV → Prop} (h : onTup x k) : ∃ i, x = .tuple i ∧ k i := by cases x <;> first | exact ⟨_, rfl, h⟩ | exact h.elim
theorem onSome_inv {α : Type} {x : Option α} {k : α → Prop} (h : onSome x k) : ∃ i, x = some i ∧ k i := by cases x <;> first | exact ⟨_, rfl, h⟩ | exact h.elim
theorem onSign_inv {x : List Nat} {k : Nat → Prop} (h : onSign x k) : ∃ i, x = [i] ∧ k i := match x, h with | [c], h => ⟨c, rfl, h⟩
theorem onLoc_inv {x : Option (Str × Option PV)} {k : PV → Prop} (h : onLoc x k) : ∃ y p, x = some (y, some p) ∧ k p := match x, h with | some (y, some p), h => ⟨y, p, rfl, h⟩
noncomputable def addW (x y : PV) (st : St) (Q : Kon) : Prop := match x with
  | .int a => onInt y fun b => Q (.int (a + b)) st
  | .str a => onStr y fun b => Side (a.length + b.length ≤ 1000000) (Q (.str (a ++ b)) st)
  | _ => False
noncomputable def mulW (x y : PV) (st : St) (Q : Kon) : Prop := match x with
  | .int a => onInt y fun b => Side (mulSide a b) (Q (.int (a * b)) st)
  | .str a => onInt y fun k => Side (-1000000 < k ∧ k < 1000000 ∧ a.length * k.toNat ≤ 1000000) (Q (.str (pyMul a k)) st)
  | _ => False
noncomputable def BoW (op : Operator) (x y : PV) (st : St) (Q : Kon) : Prop := match op with
  | .Add => addW x y st Q
  | .Sub => onInt x fun a => onInt y fun b => Q (.int (a - b)) st
  | .Mult => mulW x y st Q
  | .FloorDiv => onInt x fun a => onInt y fun b => Side (0 < b ∧ b.natAbs.log2 < 9000) (Q (.int (a / b)) st)
  | .Mod => onInt x fun a => onInt y fun b => Side (0 < b) (Q (.int (a % b)) st)
  | .Pow => onInt x fun a => onInt y fun b => Side (0 ≤ b ∧ (Builtin.Int.intBits a : Int) * b ≤ 2 ^ 27) (Q (.int (a ^ b.toNat)) st)
  | _ => False
noncomputable def eqW (x y : PV) (st : St) (Q : Kon) : Prop := match x with
  | .int a => onInt y fun b => Q (.bool (decide (a = b))) st
  | .str a => onStr y fun b => Q (.bool (decide (a = b))) st
  | .ref a => onRef y fun c => EqL a c st Q
  | .tuple ps => onTup y fun qs => onSome (eqAll ps qs) fun b => Q (.bool b) st
  | _ => False
noncomputable def neW (x y : PV) (st : St) (Q : Kon) : Prop := match x with
  | .int a => onInt y fun b => Q (.bool (!decide (a = b))) st
  | .str a => onStr y fun b => Q (.bool (!decide (a = b))) st
  | .bool a => onBool y fun c => Q (.bool (a != c)) st
  | _ => False
noncomputable def isW (p y : PV) (st : St) (Q : Kon) : Prop := match y with
  | .none => Q (.bool (match p with | .none => true | _ => false)) st
  | _ => False
noncomputable def inW (x y : PV) (st : St) (Q : Kon) : Prop := match y with
  | .tuple ps => onStr x fun a => onSome (allStr ps) fun ls => Q (.bool (ls.contains a)) st
  | .str t => onStr x fun a => onSign a fun c => Q (.bool (decide (c ∈ t))) st
  | _ => False
noncomputable def CoW (op : CmpOp) (x y : PV) (st : St) (Q : Kon) : Prop := match op with
  | .Eq => eqW x y st Q
  | .NotEq => neW x y st Q
  | .Lt => onInt x fun a => onInt y fun b => Q (.bool (decide (a < b))) st
  | .LtE => onInt x fun a => onInt y fun b => Q (.bool (decide (a ≤ b))) st
  | .Gt => onInt x fun a => onInt y fun b => Q (.bool (decide (b < a))) st
  | .GtE => onInt x fun a => onInt y fun b => Q (.bool (decide (b ≤ a))) st
  | .Is => isW x y st Q
  | .In => inW x y st Q
  | _ => False
noncomputable def IdW (x i : PV) (st : St) (Q : Kon) : Prop := match x with
  | .str t => onInt i fun k => Side (Small t ∧ -(t.length : Int) ≤ k ∧ k < t.length) (Q (.str [t.getD (pyIdx t.length k) 0]) st)
  | .ref a => onInt i fun k => ItL a k st Q
  | .tuple ps => onInt i fun k => onSome (pIx ps k) fun p => Side (ps.length ≤ 1000000) (Q p st)
  | _ => False
noncomputable def CatW (x y : PV) (st : St) (Q : Kon) : Prop := onRef x fun a => onRef y fun b => CatL a b st Q
noncomputable def SlW (x l u : PV) (st : St) (Q : Kon) : Prop := onStr x fun t => onSome (oi l) fun i => onSome (oi u) fun j => Side (Small t) (Q (.str (pySlice i j t)) st)
noncomputable def lenW (x : PV) (st : St) (Q : Kon) : Prop := match x with
  | .str t => Side (Small t) (Q (.int t.length) st)
  | .tuple t => Side (t.length ≤ 1000000) (Q (.int t.length) st)
  | .ref a => LenL a st Q
  | _ => False
noncomputable def tupW (C : Cx) (x : PV) (st : St) (Q : Kon) : Prop := match x with
  | .ref a => PicI C a st (Q (.bool false) st)
  | .tuple _ => Q (.bool true) st
  | .int _ => Q (.bool false) st
  | .str _ => Q (.bool false) st
  | _ => False
noncomputable def joinW (c : Bool) (x y : PV) (st : St) (Q : Kon) : Prop := match x with
  | .str p => onStr y fun q => Q (.str (if c then p else q)) st
  | .int p => onInt y fun q => Q (.int (if c then p else q)) st
  | _ => False
/-- a field, at its place -/
inductive FieldIs (C : Cx) (ah : AH) (x : Str) : PV → PV → Prop
  | mk {a K kvs p} : (a, AObj.inst K kvs) ∈ ah → (x, p) ∈ kvs → FieldAt C K x → FieldIs C ah x (.ref a) p
structure AttrW (C : Cx) (o : PV) (x : Str) (st : St) (Q : Kon) : Prop where
  h : ∃ p, FieldIs C st.ah x o p ∧ Q p st
noncomputable def pure1 : PE → Bool
  | .var _ _ | .int _ | .str _ | .bool _ | .none => true
  | .bin op a b => pure1 a && pure1 b
  | .cmp _ a b => pure1 a && pure1 b
  | .neg a | .not a => pure1 a
  | .and a b | .or a b => pure1 a && pure1 b
  | .idx a b => pure1 a && pure1 b
  | .slice a b c => pure1 a && (pure1 b && pure1 c)
  | .tup l => pure1 l
  | .len a => pure1 a
  | .nil => true
  | .cons a b => pure1 a && pure1 b
  | .attr o _ => pure1 o
  | .ifj t a b => pure1 t && (pure1 a && pure1 b)
  | _ => false

mutual
noncomputable def W (C : Cx) (n : Nat) : PE → St → Kon → Prop
  | .var i _, st, Q => onLoc (nth st.loc i) fun p => Q p st
  | .int i, st, Q => Q (.int i) st
  | .str l, st, Q => Q (.str l) st
  | .bool b, st, Q => Q (.bool b) st
  | .none, st, Q => Q .none st
  | .bin op a b, st, Q => W C n a st fun x st1 => W C n b st1 fun y st2 => BoW op x y st2 Q
  | .neg a, st, Q => W C n a st fun x st1 => onInt x fun i => Q (.int (-i)) st1
  | .not a, st, Q => W C n a st fun x st1 => onBool x fun i => Q (.bool (!i)) st1
  | .cmp op a b, st, Q => W C n a st fun x st1 => W C n b st1 fun y st2 => CoW op x y st2 Q
  | .and a b, st, Q => W C n a st fun x st1 => onBool x fun c => W C n b st1 fun y st2 => onBool y fun d => Q (.bool (c && d)) st2
  | .or a b, st, Q => W C n a st fun x st1 => onBool x fun c => W C n b st1 fun y st2 => onBool y fun d => Q (.bool (c || d)) st2
  | .andS a b, st, Q => W C n a st fun x st1 => onBool x fun c => (c = true → W C n b st1 Q) ∧ (c = false → Q (.bool false) st1)
  | .orS a b, st, Q => W C n a st fun x st1 => onBool x fun c => (c = true → Q (.bool true) st1) ∧ (c = false → W C n b st1 Q)
  | .ife t a b, st, Q => W C n t st fun x st1 => onBool x fun c => (c = true → W C n a st1 Q) ∧ (c = false → W C n b st1 Q)
  | .ifj t a b, st, Q => W C n t st fun v st1 => onBool v fun c => W C n a st1 fun x st2 => W C n b st2 fun y st3 => joinW c x y st3 Q
  | .attr o x, st, Q => W C n o st fun v st1 => AttrW C v x st1 Q
  | .idx o i, st, Q => W C n o st fun x st1 => W C n i st1 fun j st2 => IdW x j st2 Q
  | .slice o lo hi, st, Q => W C n o st fun x st1 => W C n lo st1 fun l st2 => W C n hi st2 fun u st3 => SlW x l u st3 Q
  | .tup l, st, Q => Wl C n l st fun ps st1 => Q (.tuple ps) st1
  | .call g l, st, Q => Wl C n l st fun ps st1 => FnP C n g ps st1.ah fun p ah' => Q p ⟨st1.loc, ah'⟩
  | .len a, st, Q => W C n a st fun x st1 => lenW x st1 Q
  | .abs a, st, Q => W C n a st fun x st1 => onInt x fun i => Q (.int (if i < 0 then -i else i)) st1
  | .max a b, st, Q => W C n a st fun x st1 => W C n b st1 fun y st2 => onInt x fun i => onInt y fun j => Q (.int (Max.max i j)) st2
  | .isStr a, st, Q => W C n a st fun x st1 => onSome (isStrPV x) fun b => Q (.bool b) st1
  | .isTup a, st, Q => W C n a st fun x st1 => tupW C x st1 Q
  | .lst l, st, Q => Wl C n l st fun ps st1 => NewL ps st1 Q
  | .cat a b, st, Q => W C n a st fun x st1 => W C n b st1 fun y st2 => CatW x y st2 Q
  | .isPic a, st, Q => W C n a st fun x st1 => onRef x fun a => PicI C a st1 (Q (.bool true) st1)
  | .newPic, st, Q => MakeW C n st Q
  | .cnt a b, st, Q => W C n a st fun x st1 => onStr x fun t => W C n b st1 fun y st2 => onStr y fun u => onSign u fun c => Q (.int (t.count c)) st2
  | .rst a b, st, Q => W C n a st fun x st1 => onStr x fun t => W C n b st1 fun y st2 => onStr y fun u => onSign u fun c => Side (Small t) (Q (.str (rstr c t)) st2)
  | .nil, _, _ => False
  | .cons _ _, _, _ => False
noncomputable def Wl (C : Cx) (n : Nat) : PE → St → (List PV → St → Prop) → Prop
  | .nil, st, Q => Q [] st
  | .cons a b, st, Q => W C n a st fun p st1 => Wl C n b st1 fun ps st2 => Q (p :: ps) st2
  | _, _, _ => False
end

/-! ### parts that change nothing -/
theorem and_l {a b : Bool} (h : (a && b) = true) : a = true := by cases a <;> first | rfl | exact h
theorem and_r {a b : Bool} (h : (a && b) = true) : b = true := by cases a <;> first | (cases h; done) | exact h
section
variable {C : Cx} {n : Nat}
theorem BoW_val {op : Operator} {x y : PV} {st : St} {Q : Kon} (h : BoW op x y st Q) : ∃ v, Q v st := by
  cases op with
  | Add =>
    cases x with
    | int a => obtain ⟨b, -, h⟩ := onInt_inv h; exact ⟨_, h⟩
    | str a => obtain ⟨b, -, h⟩ := onStr_inv h; exact ⟨_, h.r⟩
    | _ => exact h.elim
  | Mult =>
    cases x with
    | int a => obtain ⟨b, -, h⟩ := onInt_inv h; exact ⟨_, h.r⟩
    | str a => obtain ⟨b, -, h⟩ := onInt_inv h; exact ⟨_, h.r⟩
    | _ => exact h.elim
  | Sub => obtain ⟨a, -, h⟩ := onInt_inv h; obtain ⟨b, -, h⟩ := onInt_inv h; exact ⟨_, h⟩
  | FloorDiv => obtain ⟨a, -, h⟩ := onInt_inv h; obtain ⟨b, -, h⟩ := onInt_inv h; exact ⟨_, h.r⟩
  | Mod => obtain ⟨a, -, h⟩ := onInt_inv h; obtain ⟨b, -, h⟩ := onInt_inv h; exact ⟨_, h.r⟩
  | Pow => obtain ⟨a, -, h⟩ := onInt_inv h; obtain ⟨b, -, h⟩ := onInt_inv h; exact ⟨_, h.r⟩
  | _ => exact h.elim
theorem CoW_val {op : CmpOp} {x y : PV} {st : St} {Q : Kon} (h : CoW op x y st Q) : ∃ b, Q (.bool b) st := by
  cases op with
  | Eq =>
    cases x with
    | int a => obtain ⟨b, -, h⟩ := onInt_inv h; exact ⟨_, h⟩
    | str a => obtain ⟨b, -, h⟩ := onStr_inv h; exact ⟨_, h⟩
    | ref a => obtain ⟨b, -, h⟩ := onRef_inv h; obtain ⟨ps, qs, b, -, -, -, h⟩ := h.h; exact ⟨_, h⟩
    | tuple a => obtain ⟨b, -, h⟩ := onTup_inv h; obtain ⟨b, -, h⟩ := onSome_inv h; exact ⟨_, h⟩
    | _ => exact h.elim
  | NotEq =>
    cases x with
    | int a => obtain ⟨b, -, h⟩ := onInt_inv h; exact ⟨_, h⟩
    | str a => obtain ⟨b, -, h⟩ := onStr_inv h; exact ⟨_, h⟩
    | bool a => obtain ⟨b, -, h⟩ := onBool_inv h; exact ⟨_, h⟩
    | _ => exact h.elim
  | Is =>
    cases y with
    | none => exact ⟨_, h⟩
    | _ => exact h.elim
  | In =>
    cases y with
    | tuple ps => obtain ⟨b, -, h⟩ := onStr_inv h; obtain ⟨b, -, h⟩ := onSome_inv h; exact ⟨_, h⟩
    | str ps => obtain ⟨b, -, h⟩ := onStr_inv h; obtain ⟨b, -, h⟩ := onSign_inv h; exact ⟨_, h⟩
    | _ => exact h.elim
  | Lt => obtain ⟨a, -, h⟩ := onInt_inv h; obtain ⟨b, -, h⟩ := onInt_inv h; exact ⟨_, h⟩
  | LtE => obtain ⟨a, -, h⟩ := onInt_inv h; obtain ⟨b, -, h⟩ := onInt_inv h; exact ⟨_, h⟩
  | Gt => obtain ⟨a, -, h⟩ := onInt_inv h; obtain ⟨b, -, h⟩ := onInt_inv h; exact ⟨_, h⟩
  | GtE => obtain ⟨a, -, h⟩ := onInt_inv h; obtain ⟨b, -, h⟩ := onInt_inv h; exact ⟨_, h⟩
  | _ => exact h.elim
theorem IdW_val {x y : PV} {st : St} {Q : Kon} (h : IdW x y st Q) : ∃ v, Q v st := by
  cases x with
  | str t => obtain ⟨a, -, h⟩ := onInt_inv h; exact ⟨_, h.r⟩
  | ref t => obtain ⟨a, -, h⟩ := onInt_inv h; obtain ⟨ps, p, -, -, -, h⟩ := h.h; exact ⟨_, h⟩
  | tuple t => obtain ⟨a, -, h⟩ := onInt_inv h; obtain ⟨p, -, h⟩ := onSome_inv h; exact ⟨_, h.r⟩
  | _ => exact h.elim
theorem SlW_val {x y z : PV} {st : St} {Q : Kon} (h : SlW x y z st Q) : ∃ v, Q v st := by
  obtain ⟨a, -, h⟩ := onStr_inv h
  obtain ⟨b, -, h⟩ := onSome_inv h
  obtain ⟨c, -, h⟩ := onSome_inv h
  exact ⟨_, h.r⟩
theorem lenW_val {x : PV} {st : St} {Q : Kon} (h : lenW x st Q) : ∃ v, Q v st := by
  cases x with
  | str t => exact ⟨_, h.r⟩
  | tuple t => exact ⟨_, h.r⟩
  | ref t => obtain ⟨ps, -, -, h⟩ := h.h; exact ⟨_, h⟩
  | _ => exact h.elim
theorem joinW_val {c : Bool} {x y : PV} {st : St} {Q : Kon} (h : joinW c x y st Q) : ∃ v, Q v st := by
  cases x with
  | str t => obtain ⟨a, -, h⟩ := onStr_inv h; exact ⟨_, h⟩
  | int t => obtain ⟨a, -, h⟩ := onInt_inv h; exact ⟨_, h⟩
  | _ => exact h.elim
mutual
theorem W_pure : ∀ (e : PE), pure1 e = true → ∀ (st : St) (Q : Kon), W C n e st Q → ∃ v, Q v st
  | .var i _, _, st, Q, h => let ⟨_, _, _, h⟩ := onLoc_inv h; ⟨_, h⟩
  | .int _, _, st, Q, h => ⟨_, h⟩
  | .str _, _, st, Q, h => ⟨_, h⟩
  | .bool _, _, st, Q, h => ⟨_, h⟩
  | .none, _, st, Q, h => ⟨_, h⟩
  | .bin op a b, hp, st, Q, h => (W_pure a (and_l hp) st _ h).elim fun x h1 => (W_pure b (and_r hp) st _ h1).elim fun y h2 => BoW_val h2
  | .neg a, hp, st, Q, h => (W_pure a hp st _ h).elim fun x h1 => let ⟨_, _, h⟩ := onInt_inv h1; ⟨_, h⟩
  | .not a, hp, st, Q, h => (W_pure a hp st _ h).elim fun x h1 => let ⟨_, _, h⟩ := onBool_inv h1; ⟨_, h⟩
  | .cmp op a b, hp, st, Q, h => (W_pure a (and_l hp) st _ h).elim fun x h1 => (W_pure b (and_r hp) st _ h1).elim fun y h2 => (CoW_val h2).elim fun b h => ⟨_, h⟩
  | .and a b, hp, st, Q, h => (W_pure a (and_l hp) st _ h).elim fun x h1 => (onBool_inv h1).elim fun c h1 => (W_pure b (and_r hp) st _ h1.2).elim fun y h2 => (onBool_inv h2).elim fun d h => ⟨_, h.2⟩
  | .or a b, hp, st, Q, h => (W_pure a (and_l hp) st _ h).elim fun x h1 => (onBool_inv h1).elim fun c h1 => (W_pure b (and_r hp) st _ h1.2).elim fun y h2 => (onBool_inv h2).elim fun d h => ⟨_, h.2⟩
  | .ifj t a b, hp, st, Q, h => (W_pure t (and_l hp) st _ h).elim fun x h1 => (onBool_inv h1).elim fun c h1 => (W_pure a (and_l (and_r hp)) st _ h1.2).elim fun y h2 => (W_pure b (and_r (and_r hp)) st _ h2).elim fun z h3 => joinW_val h3
  | .attr o x, hp, st, Q, h => (W_pure o hp st _ h).elim fun v h1 => h1.h.elim fun p h => ⟨p, h.2⟩
  | .idx o i, hp, st, Q, h => (W_pure o (and_l hp) st _ h).elim fun x h1 => (W_pure i (and_r hp) st _ h1).elim fun y h2 => IdW_val h2
  | .slice o lo hi, hp, st, Q, h => (W_pure o (and_l hp) st _ h).elim fun x h1 => (W_pure lo (and_l (and_r hp)) st _ h1).elim fun y h2 => (W_pure hi (and_r (and_r hp)) st _ h2).elim fun z h3 => SlW_val h3
  | .tup l, hp, st, Q, h => (Wl_pure l hp st _ h).elim fun ps h => ⟨_, h⟩
  | .len a, hp, st, Q, h => (W_pure a hp st _ h).elim fun x h1 => lenW_val h1
theorem Wl_pure : ∀ (e : PE), pure1 e = true → ∀ (st : St) (Q : List PV → St → Prop), Wl C n e st Q → ∃ v, Q v st
  | .nil, _, st, Q, h => ⟨_, h⟩
  | .cons a b, hp, st, Q, h => (W_pure a (and_l hp) st _ h).elim fun x h1 => (Wl_pure b (and_r hp) st _ h1).elim fun y h2 => ⟨_, h2⟩
end
end
end Mine
end
section
open PySem PySem.W PyProof.Rows
set_option Elab.async false
set_option genSizeOf false
set_option genInjectivity false
set_option maxRecDepth 100000
set_option maxHeartbeats 4000000
set_option linter.unusedVariables false
set_option linter.unusedSimpArgs false
namespace Mine
/-! ### the text, built again from its compact form: places and kinds come from the text itself -/
/-- what names the check knows -/
structure Ck where
  locs : List Str
  gls : List Str
  fns : List Str
  bs : List Str
noncomputable def dflP : Pos := ⟨0, 0, 0, 0⟩
noncomputable def dflE : Expr := .Name (Str.ofString "") dflP
noncomputable def kids (x : Expr) : List Expr := match x with
  | .BinOp l _ r _ => [l, r]
  | .UnaryOp _ x _ => [x]
  | .Compare l _ rs _ => l :: rs
  | .BoolOp _ xs _ => xs
  | .IfExp t a b _ => [t, a, b]
  | .Attribute v _ _ => [v]
  | .Subscript v s _ => [v, s]
  | .Slice a b _ _ => [a.getD dflE, b.getD dflE]
  | .Tuple xs _ _ => xs
  | .List xs _ => xs
  | .Call f xs _ _ => f :: xs
  | _ => []
noncomputable def kid (x : Expr) (i : Nat) : Expr := (nth (kids x) i).getD dflE
noncomputable def knd (x : Expr) : Nat := match x with
  | .Constant _ k _ => k
  | .Tuple _ k _ => k
  | _ => 0
noncomputable def tlE (xs : List Expr) : List Expr := match xs with
  | _ :: r => r
  | _ => []
noncomputable def hdE (xs : List Expr) : Expr := match xs with
  | x :: _ => x
  | _ => dflE
/-- the parts behind the first of and | or -/
noncomputable def rstB (op : BoolOp) (x : Expr) : Expr := match kids x with
  | _ :: b :: c :: r => .BoolOp op (b :: c :: r) x.pos
  | _ => kid x 1
noncomputable def flat (op : BoolOp) (p : Pos) (e : Expr) : List Expr := match e with
  | .BoolOp op' (b :: c :: r) p' => if op' = op ∧ p' = p then b :: c :: r else [e]
  | _ => [e]
noncomputable def optE (e : PE) (x : Expr) : Option Expr := match e with
  | .none => none
  | _ => some x
noncomputable def isVar (e : PE) : Bool := match e with
  | .var _ _ => true
  | _ => false
noncomputable def isCons (e : PE) : Bool := match e with
  | .cons _ _ => true
  | _ => false
noncomputable def gName (g : String) (x : Expr) : Expr := .Name (Str.ofString g) (kid x 0).pos
mutual
noncomputable def reb : PE → Expr → Expr
  | .var _ s, x => .Name (Str.ofString s) x.pos
  | .int i, x => .Constant (.int i) (knd x) x.pos
  | .str l, x => .Constant (.str ⟨l.toArray⟩) (knd x) x.pos
  | .bool b, x => .Constant (.bool b) (knd x) x.pos
  | .none, x => .Constant .none (knd x) x.pos
  | .bin op a b, x => .BinOp (reb a (kid x 0)) op (reb b (kid x 1)) x.pos
  | .neg a, x => .UnaryOp .USub (reb a (kid x 0)) x.pos
  | .not a, x => .UnaryOp .Not (reb a (kid x 0)) x.pos
  | .cmp op a b, x => .Compare (reb a (kid x 0)) [op] [reb b (kid x 1)] x.pos
  | .and a b, x => .BoolOp .And (reb a (kid x 0) :: flat .And x.pos (reb b (rstB .And x))) x.pos
  | .or a b, x => .BoolOp .Or (reb a (kid x 0) :: flat .Or x.pos (reb b (rstB .Or x))) x.pos
  | .andS a b, x => .BoolOp .And (reb a (kid x 0) :: flat .And x.pos (reb b (rstB .And x))) x.pos
  | .orS a b, x => .BoolOp .Or (reb a (kid x 0) :: flat .Or x.pos (reb b (rstB .Or x))) x.pos
  | .ife t a b, x => .IfExp (reb t (kid x 0)) (reb a (kid x 1)) (reb b (kid x 2)) x.pos
  | .ifj t a b, x => .IfExp (reb t (kid x 0)) (reb a (kid x 1)) (reb b (kid x 2)) x.pos
  | .attr o s, x => .Attribute (reb o (kid x 0)) (Str.ofString s) x.pos
  | .idx o i, x => .Subscript (reb o (kid x 0)) (reb i (kid x 1)) x.pos
  | .slice o lo hi, x => .Subscript (reb o (kid x 0)) (.Slice (optE lo (reb lo (kid (kid x 1) 0))) (optE hi (reb hi (kid (kid x 1) 1))) none (kid x 1).pos) x.pos
  | .tup l, x => .Tuple (rebl l (kids x)) (knd x) x.pos
  | .call g l, x => .Call (gName g x) (rebl l (tlE (kids x))) [] x.pos
  | .len a, x => .Call (gName "len" x) [reb a (kid x 1)] [] x.pos
  | .abs a, x => .Call (gName "abs" x) [reb a (kid x 1)] [] x.pos
  | .max a b, x => .Call (gName "max" x) [reb a (kid x 1), reb b (kid x 2)] [] x.pos
  | .isStr a, x => .Call (gName "isinstance" x) [reb a (kid x 1), .Name (Str.ofString "str") (kid x 2).pos] [] x.pos
  | .isTup a, x => .Call (gName "isinstance" x) [reb a (kid x 1), .Name (Str.ofString "tuple") (kid x 2).pos] [] x.pos
  | .isPic a, x => .Call (gName "isinstance" x) [reb a (kid x 1), .Name (Str.ofString "Picture") (kid x 2).pos] [] x.pos
  | .lst l, x => .List (rebl l (kids x)) x.pos
  | .cat a b, x => .BinOp (reb a (kid x 0)) .Add (reb b (kid x 1)) x.pos
  | .newPic, x => .Call (gName "Picture" x) [] [] x.pos
  | .cnt a b, x => .Call (.Attribute (reb a (kid (kid x 0) 0)) (Str.ofString "count") (kid x 0).pos) [reb b (kid x 1)] [] x.pos
  | .rst a b, x => .Call (.Attribute (reb a (kid (kid x 0) 0)) (Str.ofString "rstrip") (kid x 0).pos) [reb b (kid x 1)] [] x.pos
  | .nil, _ => dflE
  | .cons _ _, _ => dflE
noncomputable def rebl : PE → List Expr → List Expr
  | .cons a b, xs => reb a (hdE xs) :: rebl b (tlE xs)
  | _, _ => []
end
mutual
/-- what is asked of the names -/
noncomputable def okE (k : Ck) : PE → Expr → Bool
  | .var i s, _ => nth k.locs i == some (Str.ofString s)
  | .int _, _ | .str _, _ | .bool _, _ | .none, _ => true
  | .bin _ a b, x => okE k a (kid x 0) && okE k b (kid x 1)
  | .neg a, x => okE k a (kid x 0)
  | .not a, x => okE k a (kid x 0)
  | .cmp _ a b, x => okE k a (kid x 0) && okE k b (kid x 1)
  | .and a b, x => pure1 b && (okE k a (kid x 0) && okE k b (rstB .And x))
  | .or a b, x => pure1 b && (okE k a (kid x 0) && okE k b (rstB .Or x))
  | .andS a b, x => okE k a (kid x 0) && okE k b (rstB .And x)
  | .orS a b, x => okE k a (kid x 0) && okE k b (rstB .Or x)
  | .ife t a b, x => okE k t (kid x 0) && (okE k a (kid x 1) && okE k b (kid x 2))
  | .ifj t a b, x => (pure1 a && pure1 b) && (okE k t (kid x 0) && (okE k a (kid x 1) && okE k b (kid x 2)))
  | .attr o _, x => isVar o && okE k o (kid x 0)
  | .idx o i, x => okE k o (kid x 0) && okE k i (kid x 1)
  | .slice o lo hi, x => okE k o (kid x 0) && (okE k lo (kid (kid x 1) 0) && okE k hi (kid (kid x 1) 1))
  | .tup l, x => decide (1000 ≥ (rebl l (kids x)).length) && okl k l (kids x)
  | .call g l, x => (k.gls.contains (Str.ofString g) && (k.fns.contains (Str.ofString g) && isCons l)) && okl k l (tlE (kids x))
  | .len a, x => (k.gls.contains (Str.ofString "len") && k.bs.contains (Str.ofString "len")) && okE k a (kid x 1)
  | .abs a, x => (k.gls.contains (Str.ofString "abs") && k.bs.contains (Str.ofString "abs")) && okE k a (kid x 1)
  | .max a b, x => (k.gls.contains (Str.ofString "max") && k.bs.contains (Str.ofString "max")) && (okE k a (kid x 1) && okE k b (kid x 2))
  | .isStr a, x => ((k.gls.contains (Str.ofString "isinstance") && k.bs.contains (Str.ofString "isinstance")) && (k.gls.contains (Str.ofString "str") && k.bs.contains (Str.ofString "str"))) && okE k a (kid x 1)
  | .isTup a, x => ((k.gls.contains (Str.ofString "isinstance") && k.bs.contains (Str.ofString "isinstance")) && (k.gls.contains (Str.ofString "tuple") && k.bs.contains (Str.ofString "tuple"))) && okE k a (kid x 1)
  | .isPic a, x => ((k.gls.contains (Str.ofString "isinstance") && k.bs.contains (Str.ofString "isinstance")) && k.gls.contains (Str.ofString "Picture")) && okE k a (kid x 1)
  | .lst l, x => okl k l (kids x)
  | .cat a b, x => okE k a (kid x 0) && okE k b (kid x 1)
  | .newPic, _ => k.gls.contains (Str.ofString "Picture")
  | .cnt a b, x => ((isVar a && pure1 b) && (kid x 0).pos.endLine == x.pos.line) && (okE k a (kid (kid x 0) 0) && okE k b (kid x 1))
  | .rst a b, x => ((isVar a && pure1 b) && (kid x 0).pos.endLine == x.pos.line) && (okE k a (kid (kid x 0) 0) && okE k b (kid x 1))
  | .nil, _ => false
  | .cons _ _, _ => false
noncomputable def okl (k : Ck) : PE → List Expr → Bool
  | .nil, _ => true
  | .cons a b, xs => okE k a (hdE xs) && okl k b (tlE xs)
  | _, _ => false
end
section
variable {C : Cx} {F : FnI} {V : Act C F} {n : Nat} {ss : List Stmt} {fns bs fields : List Str}
theorem reb_star (e : PE) (x : Expr) (env : Env) (r : List Expr) : starEach (reb e x :: r) env = (false, eval (reb e x) env) :: starEach r env := by cases e <;> rfl
theorem reb_behind (e : PE) (x : Expr) (op : CmpOp) : behindInMarks op (reb e x) = false := by cases e <;> rfl
theorem rebl_star {k : Ck} {env : Env} {pos : Pos} : ∀ (l : PE) (xs : List Expr), (backTo pos (starEach (rebl l xs) env)).any (·.1) = false
  | .cons a b, xs => by
    show (backTo pos (starEach (reb a (hdE xs) :: rebl b (tlE xs)) env)).any (·.1) = false
    rw [reb_star]
    show (false || (backTo pos (starEach (rebl b (tlE xs)) env)).any (·.1)) = false
    rw [rebl_star (k := k) b (tlE xs)]; rfl
  | .nil, _ | .var _ _, _ | .int _, _ | .str _, _ | .bool _, _ | .none, _ | .bin _ _ _, _ | .neg _, _ | .not _, _ | .cmp _ _ _, _ | .and _ _, _ | .or _ _, _ | .andS _ _, _ | .orS _ _, _ | .ife _ _ _, _ | .ifj _ _ _, _
  | .attr _ _, _ | .idx _ _, _ | .slice _ _ _, _ | .tup _, _ | .call _ _, _ | .len _, _ | .abs _, _ | .max _ _, _ | .isStr _, _ | .isTup _, _ | .lst _, _ | .cat _ _, _ | .isPic _, _ | .newPic, _ | .cnt _ _, _ | .rst _ _, _ => rfl
theorem flat_two (op : BoolOp) (p : Pos) (e : Expr) : (∃ b c r, e = .BoolOp op (b :: c :: r) p ∧ flat op p e = b :: c :: r) ∨ flat op p e = [e] := by
  cases e with
  | BoolOp op' xs p' =>
    cases xs with
    | nil => exact .inr rfl
    | cons b xs => cases xs with
      | nil => exact .inr rfl
      | cons c r =>
        by_cases h : op' = op ∧ p' = p
        · obtain ⟨rfl, rfl⟩ := h
          exact .inl ⟨b, c, r, rfl, if_pos ⟨rfl, rfl⟩⟩
        · exact .inr (if_neg h)
  | _ => exact .inr rfl
noncomputable abbrev FnI.ck (F : FnI) (fns bs : List Str) : Ck := ⟨F.locs, F.gls, fns, bs⟩
theorem nth_loc {loc : Loc} {x y : Str} {p : PV} {i : Nat} {locs : List Str} (hn : loc.map (·.1) = locs) (h1 : nth locs i = some x) (h2 : nth loc i = some (y, some p)) : (x, some p) ∈ loc := by
  have : nth (loc.map (·.1)) i = some y := by
    clear hn h1
    induction loc generalizing i with
    | nil => cases h2
    | cons a l ih =>
      cases i with
      | zero => cases h2; rfl
      | succ i => exact ih h2
  rw [hn, h1] at this
  cases this
  exact nth_mem h2
theorem Ev_var {i : Nat} {x : Str} {pos : Pos} {st : St} {Q : Kon} (h1 : nth F.locs i = some x) (h : onLoc (nth st.loc i) fun p => Q p st) : Ev V n (.Name x pos) st Q := by
  intro A s hp hv E ok S
  obtain ⟨y, p, hn, h⟩ := onLoc_inv h
  obtain ⟨m, mu, tl, S0⟩ := id S
  exact Ev_local (nth_loc S0.nm h1 hn) h A s hp hv E ok S
theorem BoW_ok {op : Operator} {x y : PV} {st : St} {Q : Kon} (h : BoW op x y st Q) : Bo V n op x y st Q := by
  cases op with
  | Add =>
    cases x with
    | int a => obtain ⟨b, rfl, h⟩ := onInt_inv h; exact Bo_add_int h
    | str a => obtain ⟨b, rfl, h⟩ := onStr_inv h; exact Bo_add_str h.p h.r
    | _ => exact h.elim
  | Mult =>
    cases x with
    | int a => obtain ⟨b, rfl, h⟩ := onInt_inv h; exact Bo_mul_int (mulSide_ok h.p) h.r
    | str a => obtain ⟨b, rfl, h⟩ := onInt_inv h; exact Bo_mul_str h.p.2.1 h.p.2.2 h.r h.p.1
    | _ => exact h.elim
  | Sub => obtain ⟨a, rfl, h⟩ := onInt_inv h; obtain ⟨b, rfl, h⟩ := onInt_inv h; exact Bo_sub_int h
  | FloorDiv => obtain ⟨a, rfl, h⟩ := onInt_inv h; obtain ⟨b, rfl, h⟩ := onInt_inv h; exact Bo_div_int h.p.1 h.p.2 h.r
  | Mod => obtain ⟨a, rfl, h⟩ := onInt_inv h; obtain ⟨b, rfl, h⟩ := onInt_inv h; exact Bo_mod_int h.p h.r
  | Pow => obtain ⟨a, rfl, h⟩ := onInt_inv h; obtain ⟨b, rfl, h⟩ := onInt_inv h; exact Bo_pow_int h.p.1 h.p.2 h.r
  | _ => exact h.elim
theorem CoW_ok {op : CmpOp} {x y : PV} {st : St} {Q : Kon} (h : CoW op x y st Q) : Co V n op x y st fun b => Q (.bool b) := by
  cases op with
  | Eq =>
    cases x with
    | int a => obtain ⟨b, rfl, h⟩ := onInt_inv h; exact Co_eq_int h
    | str a => obtain ⟨b, rfl, h⟩ := onStr_inv h; exact Co_eq_str h
    | ref a => obtain ⟨b, rfl, h⟩ := onRef_inv h; obtain ⟨ps, qs, b, h1, h2, h3, h⟩ := h.h; exact Co_eq_list h1 h2 h3 h
    | tuple a => obtain ⟨b, rfl, h⟩ := onTup_inv h; obtain ⟨b, e, h⟩ := onSome_inv h; exact Co_eq_tup e h
    | _ => exact h.elim
  | NotEq =>
    cases x with
    | int a => obtain ⟨b, rfl, h⟩ := onInt_inv h; exact Co_ne_int h
    | str a => obtain ⟨b, rfl, h⟩ := onStr_inv h; exact Co_ne_str h
    | bool a => obtain ⟨b, rfl, h⟩ := onBool_inv h; exact Co_ne_bool h
    | _ => exact h.elim
  | Is =>
    cases y with
    | none => exact Co_is_none _ rfl h
    | _ => exact h.elim
  | In =>
    cases y with
    | tuple ps => obtain ⟨b, rfl, h⟩ := onStr_inv h; obtain ⟨b, e, h⟩ := onSome_inv h; exact Co_in_tuple e h
    | str ps => obtain ⟨b, rfl, h⟩ := onStr_inv h; obtain ⟨b, rfl, h⟩ := onSign_inv h; exact Co_in_one h
    | _ => exact h.elim
  | Lt => obtain ⟨a, rfl, h⟩ := onInt_inv h; obtain ⟨b, rfl, h⟩ := onInt_inv h; exact Co_lt_int h
  | LtE => obtain ⟨a, rfl, h⟩ := onInt_inv h; obtain ⟨b, rfl, h⟩ := onInt_inv h; exact Co_le_int h
  | Gt => obtain ⟨a, rfl, h⟩ := onInt_inv h; obtain ⟨b, rfl, h⟩ := onInt_inv h; exact Co_gt_int h
  | GtE => obtain ⟨a, rfl, h⟩ := onInt_inv h; obtain ⟨b, rfl, h⟩ := onInt_inv h; exact Co_ge_int h
  | _ => exact h.elim
theorem IdW_ok {x y : PV} {st : St} {Q : Kon} (h : IdW x y st Q) : Gi V n x y st Q := by
  cases x with
  | str t => obtain ⟨a, rfl, h⟩ := onInt_inv h; exact Gi_str h.p.1 h.p.2.1 h.p.2.2 h.r
  | ref t => obtain ⟨a, rfl, h⟩ := onInt_inv h; obtain ⟨ps, p, h1, h2, h3, h⟩ := h.h; exact Gi_list h1 h2 h3 h
  | tuple t => obtain ⟨a, rfl, h⟩ := onInt_inv h; obtain ⟨p, e, h⟩ := onSome_inv h; exact Gi_tuple h.p e h.r
  | _ => exact h.elim
theorem SlW_ok {x l u : PV} {st : St} {Q : Kon} (h : SlW x l u st Q) : ∃ t a b, x = .str t ∧ oi l = some a ∧ oi u = some b ∧ Small t ∧ Q (.str (pySlice a b t)) st := by
  obtain ⟨t, rfl, h⟩ := onStr_inv h
  obtain ⟨a, e1, h⟩ := onSome_inv h
  obtain ⟨b, e2, h⟩ := onSome_inv h
  exact ⟨t, a, b, rfl, e1, e2, h.p, h.r⟩
theorem lenW_ok {x : PV} {st : St} {Q : Kon} (h : lenW x st Q) : Ca V n (.builtin "len") [x] st Q := by
  cases x with
  | str t => exact Ca_len_str h.p h.r
  | tuple t => exact Ca_len_tuple h.p h.r
  | ref t => obtain ⟨ps, h1, h2, h⟩ := h.h; exact Ca_len_list h1 h2 h
  | _ => exact h.elim
theorem Tt_of_Ev {x : Expr} {st : St} {Q : Kon} (h : Ev V n x st Q) (hq : ∀ p st, Q p st → ∃ b, p = .bool b) (he : ∀ whole, isTrue x V.env whole = (do let v ← whole; standAt x.pos; holding [v] (truthy v))) : Tt V n x st fun b st' => Q (.bool b) st' :=
  Tt_plain (h.mono fun p st' hp => by obtain ⟨b, rfl⟩ := hq p st' hp; exact ⟨b, rfl, hp⟩) he
theorem Es.mono {e : List Expr} {st : St} {Q Q' : List PV → St → Prop} (h : Es V n e st Q) (hq : ∀ p st', Q p st' → Q' p st') : Es V n e st Q' := fun A s hp hv E pos ok S => wpAny_mono (h A s hp hv E pos ok S) (fun v s1 h1 => h1.elim fun p h1 => h1.elim fun st1 h1 => ⟨p, st1, hq _ _ h1.1, h1.2⟩) fun _ _ e => e
noncomputable def Both (V : Act C F) (n : Nat) (e : PE) (x : Expr) : Prop := (∀ (st : St) (Q : Kon), W C n e st Q → Ev V n x st Q) ∧
  (∀ (st : St) (Q : Kon), W C n e st Q → (∀ p st, Q p st → ∃ b, p = .bool b) → Tt V n x st fun b st' => Q (.bool b) st')
theorem both {e : PE} {x : Expr} (h : ∀ (st : St) (Q : Kon), W C n e st Q → Ev V n x st Q) (he : ∀ whole, isTrue x V.env whole = (do let v ← whole; standAt x.pos; holding [v] (truthy v))) : Both V n e x := ⟨h, fun st Q hw hq => Tt_of_Ev (h st Q hw) hq he⟩
theorem Tt_one_and {x : Expr} {p : Pos} {st : St} {Q : Bool → St → Prop} (h : Tt V n x st Q) : Tt V n (.BoolOp .And [x] p) st Q :=
  Tt_and (h.mono fun b st1 hb => ⟨fun q => Tt_and0 (q ▸ hb), fun q => q ▸ hb⟩)
theorem Tt_one_or {x : Expr} {p : Pos} {st : St} {Q : Bool → St → Prop} (h : Tt V n x st Q) : Tt V n (.BoolOp .Or [x] p) st Q :=
  Tt_or (h.mono fun b st1 hb => ⟨fun q => q ▸ hb, fun q => Tt_or0 (q ▸ hb)⟩)
theorem flat_and {b : PE} {x : Expr} {p : Pos} (h : Both V n b x) : ∃ z r, flat .And p x = z :: r ∧ Both V n b (.BoolOp .And (z :: r) p) := by
  rcases flat_two .And p x with ⟨z, c, r, rfl, e⟩ | e
  · exact ⟨z, c :: r, e, h⟩
  · exact ⟨x, [], e, fun st Q hq => Ev_and1 (h.1 st Q hq), fun st Q hq h2 => Tt_one_and (h.2 st Q hq h2)⟩
theorem flat_or {b : PE} {x : Expr} {p : Pos} (h : Both V n b x) : ∃ z r, flat .Or p x = z :: r ∧ Both V n b (.BoolOp .Or (z :: r) p) := by
  rcases flat_two .Or p x with ⟨z, c, r, rfl, e⟩ | e
  · exact ⟨z, c :: r, e, h⟩
  · exact ⟨x, [], e, fun st Q hq => Ev_and1 (h.1 st Q hq), fun st Q hq h2 => Tt_one_or (h.2 st Q hq h2)⟩
theorem both_andS {a b : PE} {x z : Expr} {r : List Expr} {p : Pos} (ha : Both V n a x) (hb : Both V n b (.BoolOp .And (z :: r) p)) : Both V n (.andS a b) (.BoolOp .And (x :: z :: r) p) := by
  refine ⟨fun st Q h => Ev_and ((ha.1 st _ h).mono fun u st1 h1 => ?_), fun st Q h hq => Tt_and ((ha.2 st _ h fun p st hp => (onBool_inv hp).elim fun b h => ⟨b, h.1⟩).mono fun c st1 h1 => ?_)⟩
  · obtain ⟨c, rfl, h1⟩ := onBool_inv h1
    exact ⟨c, rfl, fun q => hb.1 st1 _ (h1.1 q), h1.2⟩
  · exact ⟨fun q => hb.2 st1 _ (h1.1 q) hq, h1.2⟩
theorem both_orS {a b : PE} {x z : Expr} {r : List Expr} {p : Pos} (ha : Both V n a x) (hb : Both V n b (.BoolOp .Or (z :: r) p)) : Both V n (.orS a b) (.BoolOp .Or (x :: z :: r) p) := by
  refine ⟨fun st Q h => Ev_or ((ha.1 st _ h).mono fun u st1 h1 => ?_), fun st Q h hq => Tt_or ((ha.2 st _ h fun p st hp => (onBool_inv hp).elim fun b h => ⟨b, h.1⟩).mono fun c st1 h1 => ?_)⟩
  · obtain ⟨c, rfl, h1⟩ := onBool_inv h1
    exact ⟨c, rfl, h1.1, fun q => hb.1 st1 _ (h1.2 q)⟩
  · exact ⟨h1.1, fun q => hb.2 st1 _ (h1.2 q) hq⟩
theorem both_and {a b : PE} {x z : Expr} {r : List Expr} {p : Pos} (hp : pure1 b = true) (ha : Both V n a x) (hb : Both V n b (.BoolOp .And (z :: r) p)) : Both V n (.and a b) (.BoolOp .And (x :: z :: r) p) := by
  have no : ∀ {c : Bool} {st1 : St} {Q : Kon}, (W C n b st1 fun y st2 => onBool y fun d => Q (.bool (c && d)) st2) → c = false → Q (.bool false) st1 := fun h q => by
    subst q
    obtain ⟨v, h2⟩ := W_pure b hp _ _ h
    obtain ⟨d, rfl, h2⟩ := onBool_inv h2
    exact h2
  refine ⟨fun st Q h => Ev_and ((ha.1 st _ h).mono fun u st1 h1 => ?_), fun st Q h hq => Tt_and ((ha.2 st _ h fun p st hp => (onBool_inv hp).elim fun b h => ⟨b, h.1⟩).mono fun c st1 h1 => ⟨fun q => ?_, no h1⟩)⟩
  · obtain ⟨c, rfl, h1⟩ := onBool_inv h1
    refine ⟨c, rfl, fun q => (hb.1 st1 _ h1).mono fun v st2 h2 => ?_, no h1⟩
    obtain ⟨d, rfl, h2⟩ := onBool_inv h2
    subst q; exact h2
  · subst q
    exact hb.2 st1 (fun y st2 => onBool y fun d => Q (.bool (true && d)) st2) h1 fun p st hp => (onBool_inv hp).elim fun b h => ⟨b, h.1⟩
theorem both_or {a b : PE} {x z : Expr} {r : List Expr} {p : Pos} (hp : pure1 b = true) (ha : Both V n a x) (hb : Both V n b (.BoolOp .Or (z :: r) p)) : Both V n (.or a b) (.BoolOp .Or (x :: z :: r) p) := by
  have no : ∀ {c : Bool} {st1 : St} {Q : Kon}, (W C n b st1 fun y st2 => onBool y fun d => Q (.bool (c || d)) st2) → c = true → Q (.bool true) st1 := fun h q => by
    subst q
    obtain ⟨v, h2⟩ := W_pure b hp _ _ h
    obtain ⟨d, rfl, h2⟩ := onBool_inv h2
    exact h2
  refine ⟨fun st Q h => Ev_or ((ha.1 st _ h).mono fun u st1 h1 => ?_), fun st Q h hq => Tt_or ((ha.2 st _ h fun p st hp => (onBool_inv hp).elim fun b h => ⟨b, h.1⟩).mono fun c st1 h1 => ⟨no h1, fun q => ?_⟩)⟩
  · obtain ⟨c, rfl, h1⟩ := onBool_inv h1
    refine ⟨c, rfl, no h1, fun q => (hb.1 st1 _ h1).mono fun v st2 h2 => ?_⟩
    obtain ⟨d, rfl, h2⟩ := onBool_inv h2
    subst q; exact h2
  · subst q
    exact hb.2 st1 (fun y st2 => onBool y fun d => Q (.bool (false || d)) st2) h1 fun p st hp => (onBool_inv hp).elim fun b h => ⟨b, h.1⟩
theorem both_ife {t a b : PE} {x y z : Expr} {p : Pos} (ht : Both V n t x) (ha : Both V n a y) (hb : Both V n b z) : Both V n (.ife t a b) (.IfExp x y z p) :=
  ⟨fun st Q h => Ev_ifexp ((ht.2 st _ h fun p st hp => (onBool_inv hp).elim fun b h => ⟨b, h.1⟩).mono fun c st1 h1 => ⟨fun q => ha.1 st1 _ (h1.1 q), fun q => hb.1 st1 _ (h1.2 q)⟩),
    fun st Q h hq => Tt_ifexp ((ht.2 st _ h fun p st hp => (onBool_inv hp).elim fun b h => ⟨b, h.1⟩).mono fun c st1 h1 => ⟨fun q => ha.2 st1 _ (h1.1 q) hq, fun q => hb.2 st1 _ (h1.2 q) hq⟩)⟩
theorem join_l {x y : PV} {st : St} {Q : Kon} (h : joinW true x y st Q) : Q x st := by
  cases x with
  | str t => obtain ⟨a, rfl, h⟩ := onStr_inv h; exact h
  | int t => obtain ⟨a, rfl, h⟩ := onInt_inv h; exact h
  | _ => exact h.elim
theorem join_r {x y : PV} {st : St} {Q : Kon} (h : joinW false x y st Q) : Q y st := by
  cases x with
  | str t => obtain ⟨a, rfl, h⟩ := onStr_inv h; exact h
  | int t => obtain ⟨a, rfl, h⟩ := onInt_inv h; exact h
  | _ => exact h.elim
theorem join_no {c : Bool} {x y : PV} {st : St} {Q : Kon} (h : joinW c x y st Q) (hq : ∀ p st, Q p st → ∃ b, p = .bool b) : False := by
  cases x with
  | str t => obtain ⟨a, rfl, h⟩ := onStr_inv h; obtain ⟨_, e⟩ := hq _ _ h; cases e
  | int t => obtain ⟨a, rfl, h⟩ := onInt_inv h; obtain ⟨_, e⟩ := hq _ _ h; cases e
  | _ => exact h.elim
theorem both_ifj {t a b : PE} {x y z : Expr} {p : Pos} (p1 : pure1 a = true) (p2 : pure1 b = true) (ht : Both V n t x) (ha : Both V n a y) (hb : Both V n b z) : Both V n (.ifj t a b) (.IfExp x y z p) := by
  refine ⟨fun st Q h => Ev_ifexp ((ht.2 st _ h fun p st hp => (onBool_inv hp).elim fun b h => ⟨b, h.1⟩).mono fun c st1 h1 => ⟨fun q => (ha.1 st1 _ h1).mono fun x st2 h5 => ?_, fun q => ?_⟩),
    fun st Q h hq => Tt_ifexp ((ht.2 st _ h fun p st hp => (onBool_inv hp).elim fun b h => ⟨b, h.1⟩).mono fun c st1 h1 => ?_)⟩
  · obtain ⟨y, h6⟩ := W_pure b p2 st2 _ h5
    subst q; exact join_l h6
  · obtain ⟨x, h5⟩ := W_pure a p1 st1 _ h1
    refine (hb.1 st1 _ h5).mono fun y st2 h6 => ?_
    subst q; exact join_r h6
  · obtain ⟨x, h5⟩ := W_pure a p1 _ _ h1
    obtain ⟨y, h6⟩ := W_pure b p2 _ _ h5
    exact (join_no h6 hq).elim
theorem Es_one {x : Expr} {st : St} {Q : List PV → St → Prop} (h : Ev V n x st fun p st1 => Q [p] st1) (he : starEach [x] V.env = (false, eval x V.env) :: starEach [] V.env) : Es V n [x] st Q := Es_cons (h.mono fun p st1 h1 => Es_nil h1) he
theorem cut_ok {o lo hi : PE} {x y z : Expr} {pp p : Pos} (ho : Both V n o x) (hl : Both V n lo y) (hh : Both V n hi z) : Both V n (.slice o lo hi) (.Subscript x (.Slice (optE lo y) (optE hi z) none pp) p) := by
  refine both (fun st Q h => Ev_slice ((ho.1 st _ h).mono fun x st1 h1 => ?_)) (fun _ => rfl)
  have l : ∀ (e : PE) (w : Expr) (st : St) (Q : Kon), Both V n e w → W C n e st Q → Eo V n (optE e w) st Q := fun e w st Q hb h => by
    cases e <;> first | exact h | exact hb.1 st Q h
  have up : ∀ (o : Option Expr) {st : St} {Q Q' : Kon}, Eo V n o st Q → (∀ p st, Q p st → Q' p st) → Eo V n o st Q' := fun o {st Q Q'} h hq => by
    cases o with
    | none => exact hq _ _ h
    | some e => exact Ev.mono h hq
  exact up _ (l lo y st1 _ hl h1) fun u st2 h2 => up _ (l hi z st2 _ hh h2) fun u st3 h3 => SlW_ok h3
theorem idx_plain (i : PE) (y : Expr) (o v : Value) : subscripted (reb i y) false o v = operate [o, v] (getItem o v) := by cases i <;> rfl
theorem var_name {e : PE} (h : isVar e = true) (x : Expr) : ∃ s p, reb e x = .Name s p := by
  cases e <;> first | exact ⟨_, _, rfl⟩ | cases h
theorem attr_ok {o : PE} {s : String} {x : Expr} {p : Pos} (hv : isVar o = true) (ho : Both V n o (reb o x)) : Both V n (.attr o s) (.Attribute (reb o x) (Str.ofString s) p) := by
  obtain ⟨a, q, e⟩ := var_name hv x
  rw [e] at ho ⊢
  refine both (fun st Q h => Ev_attr ((ho.1 st _ h).mono fun u st1 h1 => ?_) (by with_unfolding_all rfl)) (fun _ => rfl)
  obtain ⟨p, hf, hq⟩ := h1.h
  cases hf with
  | mk k1 k2 k3 => exact ⟨_, _, _, _, rfl, k1, k2, k3, hq⟩
theorem meth_ok {a b : PE} {name : Str} {id : String} {x y : Expr} {ap p : Pos} {st : St} {Q : Kon} {R : List Nat → PV → St → Kon → Prop} (M0 : MethAt name "str" id) (hv : isVar a = true) (hb : pure1 b = true) (hl : (ap.endLine == p.line) = true) (ha : Both V n a (reb a x)) (hb' : Both V n b (reb b y))
    (h : W C n a st fun u st1 => onStr u fun t => W C n b st1 fun v st2 => R t v st2 Q) (hR : ∀ t v st2, R t v st2 Q → Ca V n (.builtin id) [.str t, v] st2 Q) : Ev V n (.Call (.Attribute (reb a x) name ap) [reb b y] [] p) st Q := by
  obtain ⟨s, q, e⟩ := var_name hv x
  rw [e] at ha ⊢
  have st1 := reb_star b y V.env []
  refine Ev_meth M0 ((ha.1 st _ h).mono fun u st1' h4 => ?_) rfl hl st1 (fun _ => rfl) (by rw [st1]; rfl)
  obtain ⟨t, rfl, h4⟩ := onStr_inv h4
  exact ⟨.str, Es_one ((hb'.1 st1' _ h4).mono fun v st2 h6 => hR t v st2 h6) st1⟩
mutual
theorem W_ev (G : Good C ss fns bs fields) : ∀ (e : PE) (x : Expr), okE (F.ck fns bs) e x = true → Both V n e (reb e x)
  | .var i s, x, hc => both (fun st Q h => Ev_var (eq_of_beq hc) h) (fun _ => rfl)
  | .int i, x, hc => both (fun st Q h => Ev_int h) (fun _ => rfl)
  | .str l, x, hc => both (fun st Q h => fun A s hp hv E ok S => wpAny_Constant_str ⟨_, st, h, S.push fun _ => .str ⟨l.toArray⟩ _⟩) (fun _ => rfl)
  | .bool l, x, hc => both (fun st Q h => Ev_bool h) (fun _ => rfl)
  | .none, x, hc => both (fun st Q h => Ev_none h) (fun _ => rfl)
  | .bin op a b, x, hc => both (fun st Q h => Ev_bin (((W_ev G a _ (and_l hc)).1 st _ h).mono fun u st1 h1 => ((W_ev G b _ (and_r hc)).1 st1 _ h1).mono fun v st2 h2 => BoW_ok h2)) (fun _ => rfl)
  | .neg a, x, hc => both (fun st Q h => Ev_un (((W_ev G a _ hc).1 st _ h).mono fun u st1 h1 => by obtain ⟨i, rfl, h⟩ := onInt_inv h1; exact Uo_neg h)) (fun _ => rfl)
  | .not a, x, hc => ⟨fun st Q h => Ev_un (((W_ev G a _ hc).1 st _ h).mono fun u st1 h1 => by obtain ⟨i, rfl, h⟩ := onBool_inv h1; exact Uo_not h),
      fun st Q h hq => Tt_not (((W_ev G a _ hc).2 st _ h fun p st hp => (onBool_inv hp).elim fun b h => ⟨b, h.1⟩).mono fun b st1 h1 => h1)⟩
  | .cmp op a b, x, hc => ⟨fun st Q h => Ev_cmp (((W_ev G a _ (and_l hc)).1 st _ h).mono fun u st1 h1 => ((W_ev G b _ (and_r hc)).1 st1 _ h1).mono fun v st2 h2 => CoW_ok h2) (reb_behind b _ _),
      fun st Q h hq => Tt_cmp (((W_ev G a _ (and_l hc)).1 st _ h).mono fun u st1 h1 => ((W_ev G b _ (and_r hc)).1 st1 _ h1).mono fun v st2 h2 => CoW_ok h2) (reb_behind b _ _)⟩
  | .and a b, x, hc => by
    obtain ⟨z, r, e, hb⟩ := flat_and (p := x.pos) (W_ev G b (rstB .And x) (and_r (and_r hc)))
    show Both V n _ (.BoolOp .And (_ :: flat .And x.pos _) x.pos)
    rw [e]; exact both_and (and_l hc) (W_ev G a _ (and_l (and_r hc))) hb
  | .or a b, x, hc => by
    obtain ⟨z, r, e, hb⟩ := flat_or (p := x.pos) (W_ev G b (rstB .Or x) (and_r (and_r hc)))
    show Both V n _ (.BoolOp .Or (_ :: flat .Or x.pos _) x.pos)
    rw [e]; exact both_or (and_l hc) (W_ev G a _ (and_l (and_r hc))) hb
  | .andS a b, x, hc => by
    obtain ⟨z, r, e, hb⟩ := flat_and (p := x.pos) (W_ev G b (rstB .And x) (and_r hc))
    show Both V n _ (.BoolOp .And (_ :: flat .And x.pos _) x.pos)
    rw [e]; exact both_andS (W_ev G a _ (and_l hc)) hb
  | .orS a b, x, hc => by
    obtain ⟨z, r, e, hb⟩ := flat_or (p := x.pos) (W_ev G b (rstB .Or x) (and_r hc))
    show Both V n _ (.BoolOp .Or (_ :: flat .Or x.pos _) x.pos)
    rw [e]; exact both_orS (W_ev G a _ (and_l hc)) hb
  | .ife t a b, x, hc => both_ife (W_ev G t _ (and_l hc)) (W_ev G a _ (and_l (and_r hc))) (W_ev G b _ (and_r (and_r hc)))
  | .ifj t a b, x, hc => both_ifj (and_l (and_l hc)) (and_r (and_l hc)) (W_ev G t _ (and_l (and_r hc))) (W_ev G a _ (and_l (and_r (and_r hc)))) (W_ev G b _ (and_r (and_r (and_r hc))))
  | .attr o s, x, hc => attr_ok (and_l hc) (W_ev G o _ (and_r hc))
  | .idx o i, x, hc => both (fun st Q h => Ev_item (((W_ev G o _ (and_l hc)).1 st _ h).mono fun u st1 h1 => ((W_ev G i _ (and_r hc)).1 st1 _ h1).mono fun u2 st2 h2 => IdW_ok h2) (idx_plain i _)) (fun _ => rfl)
  | .slice o lo hi, x, hc => cut_ok (W_ev G o _ (and_l hc)) (W_ev G lo _ (and_l (and_r hc))) (W_ev G hi _ (and_r (and_r hc)))
  | .tup l, x, hc => both (fun st Q h => Ev_tuple ((Wl_es G l _ (and_r hc) st _ h).mono fun ps st1 h1 => ⟨by rw [h1.1]; exact of_decide_eq_true (and_l hc), h1.2⟩)) (fun _ => rfl)
  | .call g l, x, hc => both (fun st Q h => by
      cases l with
      | cons a b => exact Ev_fcall G (and_l (and_r (and_l hc))) (and_l (and_l hc)) (reb_star a _ _ _) (fun _ => rebl_star (k := F.ck fns bs) b _) ((Wl_es G (.cons a b) _ (and_r hc) st _ h).mono fun ps st1 h4 => h4.2.h)
      | _ => cases and_r (and_r (and_l hc))) (fun _ => rfl)
  | .len a, x, hc => both (fun st Q h => Ev_len G (and_r (and_l hc)) (and_l (and_l hc)) (reb_star a _ _ _) (((W_ev G a _ (and_r hc)).1 st _ h).mono fun u st1 h4 => lenW_ok h4)) (fun _ => rfl)
  | .abs a, x, hc => both (fun st Q h => Ev_abs G (and_r (and_l hc)) (and_l (and_l hc)) (reb_star a _ _ _) (((W_ev G a _ (and_r hc)).1 st _ h).mono fun u st1 h4 => by obtain ⟨i, rfl, h⟩ := onInt_inv h4; exact Ca_abs h)) (fun _ => rfl)
  | .max a b, x, hc => both (fun st Q h => Ev_max G (and_r (and_l hc)) (and_l (and_l hc)) (reb_star a _ _ _) (fun _ => by rw [reb_star]; rfl) (Es_cons (((W_ev G a _ (and_l (and_r hc))).1 st _ h).mono fun u st1 h5 => Es_one (((W_ev G b _ (and_r (and_r hc))).1 st1 _ h5).mono fun v st2 h6 => by
      obtain ⟨i, rfl, h⟩ := onInt_inv h6; obtain ⟨j, rfl, h⟩ := onInt_inv h; exact Ca_max h) (reb_star b _ _ _)) (reb_star a _ _ _))) (fun _ => rfl)
  | .isStr a, x, hc => both (fun st Q h => Ev_isi_str G (and_r (and_l (and_l hc))) (and_l (and_l (and_l hc))) (and_r (and_r (and_l hc))) (and_l (and_r (and_l hc))) (reb_star a _ _ _) (((W_ev G a _ (and_r hc)).1 st _ h).mono fun u st1 h6 => onSome_inv h6)) (fun _ => rfl)
  | .isTup a, x, hc => both (fun st Q h => Ev_isi (pos' := x.pos) (G.bi (and_r (and_l (and_l hc))) bo_isinstance (by decide +kernel)) (mem_of (and_l (and_l (and_l hc)))) (G.bi (and_r (and_r (and_l hc))) bo_tuple (by decide +kernel)) (mem_of (and_l (and_r (and_l hc)))) (((W_ev G a _ (and_r hc)).1 st _ h).mono fun u st1 h6 => by
      cases u with
      | ref a => exact h6.h.elim fun kvs hm => isi_tup_inst G hm h6.r
      | tuple _ => exact isi_tup rfl h6
      | int _ => exact isi_tup rfl h6
      | str _ => exact isi_tup rfl h6
      | _ => exact h6.elim) (reb_star a _ _ _)) (fun _ => rfl)
  | .isPic a, x, hc => both (fun st Q h => Ev_isi_pic G (and_r (and_l (and_l hc))) (and_l (and_l (and_l hc))) (and_r (and_l hc)) (reb_star a _ _ _) (((W_ev G a _ (and_r hc)).1 st _ h).mono fun u st1 h6 => by
      obtain ⟨a, rfl, h6⟩ := onRef_inv h6
      exact h6.h.elim fun kvs hm => isi_pic G hm h6.r)) (fun _ => rfl)
  | .lst l, x, hc => both (fun st Q h => Ev_list ((Wl_es G l _ hc st _ h).mono fun ps st1 h1 => ⟨h1.2.len, h1.2.r⟩)) (fun _ => rfl)
  | .cat a b, x, hc => both (fun st Q h => Ev_bin (((W_ev G a _ (and_l hc)).1 st _ h).mono fun u st1 h1 => ((W_ev G b _ (and_r hc)).1 st1 _ h1).mono fun v st2 h2 => by
      obtain ⟨a, rfl, h3⟩ := onRef_inv h2
      obtain ⟨b, rfl, h4⟩ := onRef_inv h3
      obtain ⟨ps, qs, g1, g2, g3, h5⟩ := h4.h
      exact Bo_add_list g1 g2 g3 h5.r)) (fun _ => rfl)
  | .newPic, x, hc => both (fun st Q h => by
      obtain ⟨h, hn⟩ := h
      obtain ⟨k, rfl⟩ : ∃ k, n = k + 1 := ⟨n - 1, by lia⟩
      exact Ev_make G (mem_of hc) h) (fun _ => rfl)
  | .cnt a b, x, hc => both (fun st Q h => meth_ok (R := fun t y st2 Q => onStr y fun u => onSign u fun c => Q (.int (t.count c)) st2) meth_count (and_l (and_l (and_l hc))) (and_r (and_l (and_l hc))) (and_r (and_l hc)) (W_ev G a _ (and_l (and_r hc))) (W_ev G b _ (and_r (and_r hc))) h fun t v st2 h => by
      obtain ⟨u, rfl, h⟩ := onStr_inv h
      obtain ⟨c, rfl, h⟩ := onSign_inv h
      exact Ca_count h) (fun _ => rfl)
  | .rst a b, x, hc => both (fun st Q h => meth_ok (R := fun t y st2 Q => onStr y fun u => onSign u fun c => Side (Small t) (Q (.str (rstr c t)) st2)) meth_rstrip (and_l (and_l (and_l hc))) (and_r (and_l (and_l hc))) (and_r (and_l hc)) (W_ev G a _ (and_l (and_r hc))) (W_ev G b _ (and_r (and_r hc))) h fun t v st2 h => by
      obtain ⟨u, rfl, h⟩ := onStr_inv h
      obtain ⟨c, rfl, h⟩ := onSign_inv h
      exact Ca_rstrip h.p h.r) (fun _ => rfl)
theorem Wl_es (G : Good C ss fns bs fields) : ∀ (e : PE) (xs : List Expr), okl (F.ck fns bs) e xs = true → ∀ (st : St) (Q : List PV → St → Prop), Wl C n e st Q → Es V n (rebl e xs) st fun ps st' => ps.length = (rebl e xs).length ∧ Q ps st'
  | .nil, xs, hc, st, Q, h => Es_nil ⟨rfl, h⟩
  | .cons a b, xs, hc, st, Q, h => Es_cons (((W_ev G a _ (and_l hc)).1 st _ h).mono fun p st1 h1 => (Wl_es G b _ (and_r hc) st1 _ h1).mono fun ps st2 h2 => ⟨congrArg (· + 1) h2.1, h2.2⟩) (reb_star a _ _ _)
end
/-- at a written text -/
theorem W_at (G : Good C ss fns bs fields) (e : PE) (x : Expr) (h : okE (F.ck fns bs) e x = true ∧ reb e x = x) : Both V n e x := by
  have := W_ev (V := V) (n := n) G e x h.1
  rw [h.2] at this
  exact this
end
end Mine
end
section
open PySem PySem.W PyProof.Rows
set_option Elab.async false
set_option genSizeOf false
set_option genInjectivity false
set_option maxRecDepth 100000
set_option maxHeartbeats 4000000
set_option linter.unusedVariables false
set_option linter.unusedSimpArgs false
namespace Mine

/-- targets of a tuple -/
inductive PT where
  | name (i : Nat) (x : String)
  | attr (o : PE) (x : String)
  | tup (l : PT)
  | nil
  | cons (a b : PT)
noncomputable def ptLen : PT → Nat
  | .cons _ b => ptLen b + 1
  | _ => 0
/-- a block of statements -/
inductive PB where
  | nil
  | asg (i : Nat) (x : String) (e : PE) (r : PB)
  | asgT (l : PT) (e : PE) (r : PB)
  | asg2 (i : Nat) (x : String) (j : Nat) (y : String) (e : PE) (r : PB)
  | asg3 (i : Nat) (x : String) (j : Nat) (y : String) (k : Nat) (z : String) (e : PE) (r : PB)
  | aug (i : Nat) (x : String) (op : Operator) (e : PE) (r : PB)
  | attr (o : PE) (x : String) (e : PE) (r : PB)
  | ret (e : PE) (r : PB)
  | ifs (t : PE) (a b : PB) (r : PB)
  | loop (t : PE) (b : PB) (r : PB)
  | cont (r : PB)
  | app (i : Nat) (x : String) (e : PE) (r : PB)
  | ext (i : Nat) (x : String) (e : PE) (r : PB)
  | augI (o k : PE) (op : Operator) (e : PE) (r : PB)
  | forin (i : Nat) (x : String) (e : PE) (b : PB) (r : PB)
  | raw (r : PB)

inductive FieldPut (C : Cx) (ah : AH) (x : Str) (p : PV) : PV → AH → Prop
  | mk {a K kvs kvs' ah'} : UpdH a (.inst K kvs) (.inst K kvs') ah ah' → PutK x p kvs kvs' → FieldAt C K x → kvs'.length ≤ 100 → FieldPut C ah x p (.ref a) ah'
  | new {a K kvs ah'} : UpdH a (.inst K kvs) (.inst K (kvs ++ [(x, p)])) ah ah' → x ∉ kvs.map (·.1) → FieldAt C K x → kvs.length + 1 ≤ 100 → FieldPut C ah x p (.ref a) ah'
structure PutW (C : Cx) (o : PV) (x : Str) (p : PV) (st : St) (Q : St → Prop) : Prop where
  h : ∃ ah', FieldPut C st.ah x p o ah' ∧ Q ⟨st.loc, ah'⟩
/-- a.append(p) -/
structure AppW (a : Addr) (p : PV) (st : St) (Q : St → Prop) : Prop where
  h : ∃ ps ah', UpdH a (.list ps) (.list (ps ++ [p])) st.ah ah' ∧ ps.length ≤ 1000000 ∧ Q ⟨st.loc, ah'⟩
structure ExtW (a b : Addr) (st : St) (Q : St → Prop) : Prop where
  h : ∃ ps qs ah', (b, AObj.list qs) ∈ st.ah ∧ UpdH a (.list ps) (.list (ps ++ qs)) st.ah ah' ∧ ps.length + qs.length ≤ 1000000 ∧ Q ⟨st.loc, ah'⟩
structure IsL (a : Addr) (ah : AH) (R : Prop) : Prop where
  h : ∃ ps, (a, AObj.list ps) ∈ ah
  r : R
/-- a[k] op= .. -/
structure AugL (a : Addr) (k : Int) (st : St) (R : PV → Prop) : Prop where
  h : ∃ ps q, (a, AObj.list ps) ∈ st.ah ∧ ps.length ≤ 1000000 ∧ pIx ps k = some q ∧ R q
structure SetL (a : Addr) (k : Int) (p : PV) (st : St) (Q : St → Prop) : Prop where
  h : ∃ ps ah', 0 ≤ k ∧ k < ps.length ∧ ps.length ≤ 1000000 ∧ UpdH a (.list ps) (.list (ps.set k.toNat p)) st.ah ah' ∧ Q ⟨st.loc, ah'⟩
/-- the turns of a loop -/
noncomputable def ForW (body : St → (St → Prop) → Prop) (i : Nat) (keep : AH → Prop) (P : Nat → Obj → Prop) (it : Addr) (Qn : St → Prop) : List PV → Nat → St → Prop
  | [], _, st => keep st.ah ∧ Qn st
  | p :: rest, k, st => keep st.ah ∧ body ⟨putAt p st.loc i, (it, .raw (P (k + 1))) :: st.ah⟩ fun st2 => ∃ pre post, st2.ah = pre ++ (it, .raw (P (k + 1))) :: post ∧ ForW body i keep P it Qn rest (k + 1) ⟨st2.loc, pre ++ post⟩
structure ForT (P : Prop) : Prop where
  h : P
section
variable {C : Cx} {F : FnI}
structure RawS (V : Act C F) (n : Nat) (x : Stmt) (st : St) (Qn : St → Prop) (Qr : Kon) (Qc : St → Prop) : Prop where
  h : Ex1 V n x st Qn Qr Qc
noncomputable def IoW (op : Operator) (x y : PV) (st : St) (Q : Kon) : Prop := match op with
  | .Add => onInt x fun a => onInt y fun b => Q (.int (a + b)) st
  | .Mult => onInt x fun a => onInt y fun b => Side (mulSide a b) (Q (.int (a * b)) st)
  | _ => False
noncomputable def on2 (x : PV) (k : PV → PV → Prop) : Prop := match x with | .tuple [a, b] => k a b | _ => False
noncomputable def on3 (x : PV) (k : PV → PV → PV → Prop) : Prop := match x with | .tuple [a, b, c] => k a b c | _ => False
noncomputable def onNil (x : List PV) (k : Prop) : Prop := match x with | [] => k | _ => False
noncomputable def onCons (x : List PV) (k : PV → List PV → Prop) : Prop := match x with | p :: r => k p r | _ => False
theorem on2_mk {a b : PV} {k : PV → PV → Prop} (h : k a b) : on2 (.tuple [a, b]) k := h
theorem on2_inv {x : PV} {k : PV → PV → Prop} (h : on2 x k) : ∃ a b, x = .tuple [a, b] ∧ k a b := by
  cases x with
  | tuple l => match l, h with | [a, b], h => exact ⟨a, b, rfl, h⟩
  | _ => exact h.elim
theorem on3_inv {x : PV} {k : PV → PV → PV → Prop} (h : on3 x k) : ∃ a b c, x = .tuple [a, b, c] ∧ k a b c := by
  cases x with
  | tuple l => match l, h with | [a, b, c], h => exact ⟨a, b, c, rfl, h⟩
  | _ => exact h.elim
theorem onNil_inv {x : List PV} {k : Prop} (h : onNil x k) : x = [] ∧ k := by cases x <;> first | exact ⟨rfl, h⟩ | exact h.elim
theorem onCons_inv {x : List PV} {k : PV → List PV → Prop} (h : onCons x k) : ∃ p r, x = p :: r ∧ k p r := by cases x <;> first | exact ⟨_, _, rfl, h⟩ | exact h.elim
mutual
noncomputable def WT (C : Cx) (n : Nat) : PT → PV → St → (St → Prop) → Prop
  | .name i _, p, st, Q => Q ⟨putAt p st.loc i, st.ah⟩
  | .attr o x, p, st, Q => W C n o st fun v st1 => PutW C v x p st1 Q
  | .tup l, p, st, Q => onTup p fun ps => Side (ps.length = ptLen l) (WTl C n l ps st Q)
  | .nil, _, _, _ => False
  | .cons _ _, _, _, _ => False
noncomputable def WTl (C : Cx) (n : Nat) : PT → List PV → St → (St → Prop) → Prop
  | .nil, ps, st, Q => onNil ps (Q st)
  | .cons a b, ps, st, Q => onCons ps fun p r => WT C n a p st fun st1 => WTl C n b r st1 Q
  | _, _, _, _ => False
end
noncomputable def hd (xs : List Stmt) : Stmt := match xs with
  | x :: _ => x
  | _ => .Pass ⟨0, 0, 0, 0⟩
noncomputable def tlS (xs : List Stmt) : List Stmt := match xs with
  | _ :: r => r
  | _ => []
noncomputable def blkS (x : Stmt) : List Stmt × List Stmt := match x with
  | .If _ a b _ => (a, b)
  | .While _ b _ _ => (b, [])
  | .For _ _ b _ _ => (b, [])
  | _ => ([], [])
noncomputable def ifA (x : Stmt) : List Stmt := (blkS x).1
noncomputable def ifB (x : Stmt) : List Stmt := (blkS x).2
noncomputable def whB (x : Stmt) : List Stmt := (blkS x).1
noncomputable def foB (x : Stmt) : List Stmt := (blkS x).1
structure LoopW (P : Prop) : Prop where
  h : P
noncomputable def Ws (V : Act C F) (n : Nat) : PB → List Stmt → St → (St → Prop) → Kon → (St → Prop) → Prop
  | .nil, _, st, Qn, _, _ => Qn st
  | .asg i _ e r, xs, st, Qn, Qr, Qc => W C n e st fun p st1 => Ws V n r (tlS xs) ⟨putAt p st1.loc i, st1.ah⟩ Qn Qr Qc
  | .asgT l e r, xs, st, Qn, Qr, Qc => W C n e st fun p st1 => WT C n (.tup l) p st1 fun st2 => Ws V n r (tlS xs) st2 Qn Qr Qc
  | .asg2 i _ j _ e r, xs, st, Qn, Qr, Qc => W C n e st fun p st1 => on2 p fun a b => Ws V n r (tlS xs) ⟨putAt b (putAt a st1.loc i) j, st1.ah⟩ Qn Qr Qc
  | .asg3 i _ j _ k _ e r, xs, st, Qn, Qr, Qc => W C n e st fun p st1 => on3 p fun a b c => Ws V n r (tlS xs) ⟨putAt c (putAt b (putAt a st1.loc i) j) k, st1.ah⟩ Qn Qr Qc
  | .aug i _ op e r, xs, st, Qn, Qr, Qc => onLoc (nth st.loc i) fun p => W C n e st fun q st1 => IoW op p q st1 fun v st2 => Ws V n r (tlS xs) ⟨putAt v st2.loc i, st2.ah⟩ Qn Qr Qc
  | .attr o x e r, xs, st, Qn, Qr, Qc => W C n e st fun p st1 => W C n o st1 fun v st2 => PutW C v x p st2 fun st3 => Ws V n r (tlS xs) st3 Qn Qr Qc
  | .ret e r, xs, st, Qn, Qr, Qc => W C n e st Qr
  | .ifs t a b r, xs, st, Qn, Qr, Qc => W C n t st fun v st1 => onBool v fun c => (c = true → Ws V n a (ifA (hd xs)) st1 (fun st2 => Ws V n r (tlS xs) st2 Qn Qr Qc) Qr Qc) ∧ (c = false → Ws V n b (ifB (hd xs)) st1 (fun st2 => Ws V n r (tlS xs) st2 Qn Qr Qc) Qr Qc)
  | .loop t b r, xs, st, Qn, Qr, Qc => LoopW (∃ (ι : Type) (S : ι → St) (P : ι → Prop) (μ : ι → Nat) (i : ι), (st = S i ∧ P i) ∧ ∀ i, P i → W C n t (S i) fun v st1 => onBool v fun c => (c = true → Ws V n b (whB (hd xs)) st1 (fun st2 => ∃ j, st2 = S j ∧ P j ∧ μ j < μ i) Qr (fun st2 => ∃ j, st2 = S j ∧ P j ∧ μ j < μ i)) ∧ (c = false → Ws V n r (tlS xs) st1 Qn Qr Qc))
  | .cont _, _, st, _, _, Qc => Qc st
  | .app i _ e r, xs, st, Qn, Qr, Qc => onLoc (nth st.loc i) fun p => onRef p fun a => IsL a st.ah (W C n e st fun p st1 => AppW a p st1 fun st2 => Ws V n r (tlS xs) st2 Qn Qr Qc)
  | .ext i _ e r, xs, st, Qn, Qr, Qc => onLoc (nth st.loc i) fun p => onRef p fun a => IsL a st.ah (W C n e st fun p st1 => onRef p fun b => ExtW a b st1 fun st2 => Ws V n r (tlS xs) st2 Qn Qr Qc)
  | .augI o k op e r, xs, st, Qn, Qr, Qc => W C n o st fun x st1 => W C n k st1 fun j st2 => onRef x fun a => onInt j fun k => AugL a k st2 fun q => W C n e st2 fun p st3 => IoW op q p st3 fun v st4 => SetL a k v st4 fun st5 => Ws V n r (tlS xs) st5 Qn Qr Qc
  | .forin i _ e b r, xs, st, Qn, Qr, Qc => W C n e st fun v st1 => (match v with
      | .tuple ps => ForT (ps.length ≤ 1000000 ∧ ∀ P it, it ∉ st1.ah.map (·.1) → ForW (fun st' Q => Ws V n b (foB (hd xs)) st' Q Qr Q) i (fun _ => True) P it (fun st2 => Ws V n r (tlS xs) st2 Qn Qr Qc) ps 0 st1)
      | .ref a => ForT (∃ all, (a, AObj.list all) ∈ st1.ah ∧ all.length ≤ 1000000 ∧ ∀ P it, it ∉ st1.ah.map (·.1) → ForW (fun st' Q => Ws V n b (foB (hd xs)) st' Q Qr Q) i (fun ah => (a, AObj.list all) ∈ ah) P it (fun st2 => Ws V n r (tlS xs) st2 Qn Qr Qc) all 0 st1)
      | _ => False)
  | .raw r, xs, st, Qn, Qr, Qc => RawS V n (hd xs) st (fun st1 => Ws V n r (tlS xs) st1 Qn Qr Qc) Qr Qc
end
/-! ### the block, built again -/
noncomputable def tgS (s : Stmt) : Expr := match s with
  | .Assign (t :: _) _ _ => t
  | .AugAssign t _ _ _ => t
  | .For t _ _ _ _ => t
  | _ => dflE
noncomputable def svS (s : Stmt) : Expr := match s with
  | .Assign _ v _ => v
  | .AugAssign _ _ v _ => v
  | .Return (some v) _ => v
  | .If v _ _ _ => v
  | .While v _ _ _ => v
  | .For _ v _ _ _ => v
  | .Expr v _ => v
  | _ => dflE
mutual
noncomputable def rebT : PT → Expr → Expr
  | .name _ s, x => .Name (Str.ofString s) x.pos
  | .attr o s, x => .Attribute (reb o (kid x 0)) (Str.ofString s) x.pos
  | .tup l, x => .Tuple (rebTl l (kids x)) (knd x) x.pos
  | .nil, _ => dflE
  | .cons _ _, _ => dflE
noncomputable def rebTl : PT → List Expr → List Expr
  | .cons a b, xs => rebT a (hdE xs) :: rebTl b (tlE xs)
  | _, _ => []
end
mutual
noncomputable def okT (k : Ck) : PT → Expr → Bool
  | .name i s, _ => nth k.locs i == some (Str.ofString s)
  | .attr o _, x => okE k o (kid x 0)
  | .tup l, x => okTl k l (kids x)
  | .nil, _ => false
  | .cons _ _, _ => false
noncomputable def okTl (k : Ck) : PT → List Expr → Bool
  | .nil, _ => true
  | .cons a b, xs => okT k a (hdE xs) && okTl k b (tlE xs)
  | _, _ => false
end
noncomputable def swOk (e : Expr) : Bool := match e with
  | .Tuple vs _ _ => vs.all (foldedForSure 8) || !(vs.all (constantsAlone 8))
  | _ => true
noncomputable def allNames : List Expr → Bool
  | [] => true
  | .Name _ _ :: r => allNames r
  | _ => false
noncomputable def nmS (s : String) (x : Expr) : Expr := .Name (Str.ofString s) x.pos
noncomputable def rebB : PB → List Stmt → List Stmt
  | .nil, _ => []
  | .asg _ s e r, xs => .Assign [nmS s (tgS (hd xs))] (reb e (svS (hd xs))) (hd xs).pos :: rebB r (tlS xs)
  | .asgT l e r, xs => .Assign [.Tuple (rebTl l (kids (tgS (hd xs)))) (knd (tgS (hd xs))) (tgS (hd xs)).pos] (reb e (svS (hd xs))) (hd xs).pos :: rebB r (tlS xs)
  | .asg2 _ s _ u e r, xs => .Assign [.Tuple [nmS s (kid (tgS (hd xs)) 0), nmS u (kid (tgS (hd xs)) 1)] (knd (tgS (hd xs))) (tgS (hd xs)).pos] (reb e (svS (hd xs))) (hd xs).pos :: rebB r (tlS xs)
  | .asg3 _ s _ u _ w e r, xs => .Assign [.Tuple [nmS s (kid (tgS (hd xs)) 0), nmS u (kid (tgS (hd xs)) 1), nmS w (kid (tgS (hd xs)) 2)] (knd (tgS (hd xs))) (tgS (hd xs)).pos] (reb e (svS (hd xs))) (hd xs).pos :: rebB r (tlS xs)
  | .aug _ s op e r, xs => .AugAssign (nmS s (tgS (hd xs))) op (reb e (svS (hd xs))) (hd xs).pos :: rebB r (tlS xs)
  | .attr o s e r, xs => .Assign [.Attribute (reb o (kid (tgS (hd xs)) 0)) (Str.ofString s) (tgS (hd xs)).pos] (reb e (svS (hd xs))) (hd xs).pos :: rebB r (tlS xs)
  | .ret e r, xs => .Return (some (reb e (svS (hd xs)))) (hd xs).pos :: tlS xs
  | .ifs t a b r, xs => .If (reb t (svS (hd xs))) (rebB a (ifA (hd xs))) (rebB b (ifB (hd xs))) (hd xs).pos :: rebB r (tlS xs)
  | .loop t b r, xs => .While (reb t (svS (hd xs))) (rebB b (whB (hd xs))) [] (hd xs).pos :: rebB r (tlS xs)
  | .cont r, xs => .Continue (hd xs).pos :: tlS xs
  | .app _ s e r, xs => .Expr (.Call (.Attribute (nmS s (kid (kid (svS (hd xs)) 0) 0)) (Str.ofString "append") (kid (svS (hd xs)) 0).pos) [reb e (kid (svS (hd xs)) 1)] [] (svS (hd xs)).pos) (hd xs).pos :: rebB r (tlS xs)
  | .ext _ s e r, xs => .Expr (.Call (.Attribute (nmS s (kid (kid (svS (hd xs)) 0) 0)) (Str.ofString "extend") (kid (svS (hd xs)) 0).pos) [reb e (kid (svS (hd xs)) 1)] [] (svS (hd xs)).pos) (hd xs).pos :: rebB r (tlS xs)
  | .augI o j op e r, xs => .AugAssign (.Subscript (reb o (kid (tgS (hd xs)) 0)) (reb j (kid (tgS (hd xs)) 1)) (tgS (hd xs)).pos) op (reb e (svS (hd xs))) (hd xs).pos :: rebB r (tlS xs)
  | .forin _ s e b r, xs => .For (nmS s (tgS (hd xs))) (reb e (svS (hd xs))) (rebB b (foB (hd xs))) [] (hd xs).pos :: rebB r (tlS xs)
  | .raw r, xs => hd xs :: rebB r (tlS xs)
noncomputable def locOk (k : Ck) (i : Nat) (s : String) : Bool := nth k.locs i == some (Str.ofString s)
noncomputable def lineOk (x : Expr) : Bool := (kid x 0).pos.endLine == x.pos.line
noncomputable def okB (k : Ck) : PB → List Stmt → Bool
  | .nil, _ => true
  | .asg i s e r, xs => (locOk k i s && okE k e (svS (hd xs))) && okB k r (tlS xs)
  | .asgT l e r, xs => ((!allNames (rebTl l (kids (tgS (hd xs)))) && okTl k l (kids (tgS (hd xs)))) && okE k e (svS (hd xs))) && okB k r (tlS xs)
  | .asg2 i s j u e r, xs => (((locOk k i s && locOk k j u) && decide (i ≠ j)) && (swOk (reb e (svS (hd xs))) && okE k e (svS (hd xs)))) && okB k r (tlS xs)
  | .asg3 i s j u l w e r, xs => (((locOk k i s && (locOk k j u && locOk k l w)) && decide (i ≠ j ∧ i ≠ l ∧ j ≠ l)) && (swOk (reb e (svS (hd xs))) && okE k e (svS (hd xs)))) && okB k r (tlS xs)
  | .aug i s _ e r, xs => (locOk k i s && okE k e (svS (hd xs))) && okB k r (tlS xs)
  | .attr o _ e r, xs => (okE k o (kid (tgS (hd xs)) 0) && okE k e (svS (hd xs))) && okB k r (tlS xs)
  | .ret e _, xs => okE k e (svS (hd xs))
  | .ifs t a b r, xs => (okE k t (svS (hd xs)) && (okB k a (ifA (hd xs)) && okB k b (ifB (hd xs)))) && okB k r (tlS xs)
  | .loop t b r, xs => (okE k t (svS (hd xs)) && okB k b (whB (hd xs))) && okB k r (tlS xs)
  | .cont _, _ => true
  | .app i s e r, xs => ((locOk k i s && lineOk (svS (hd xs))) && okE k e (kid (svS (hd xs)) 1)) && okB k r (tlS xs)
  | .ext i s e r, xs => ((locOk k i s && lineOk (svS (hd xs))) && okE k e (kid (svS (hd xs)) 1)) && okB k r (tlS xs)
  | .augI o j _ e r, xs => ((okE k o (kid (tgS (hd xs)) 0) && okE k j (kid (tgS (hd xs)) 1)) && okE k e (svS (hd xs))) && okB k r (tlS xs)
  | .forin i s e b r, xs => ((locOk k i s && okE k e (svS (hd xs))) && okB k b (foB (hd xs))) && okB k r (tlS xs)
  | .raw r, xs => okB k r (tlS xs)
end Mine
end
section
open PySem PySem.W PyProof.Rows
set_option Elab.async false
set_option genSizeOf false
set_option genInjectivity false
set_option maxRecDepth 100000
set_option maxHeartbeats 4000000
set_option linter.unusedVariables false
set_option linter.unusedSimpArgs false
namespace Mine
section
variable {C : Cx} {F : FnI} {V : Act C F} {n : Nat} {ss : List Stmt} {fns bs fields : List Str}
theorem nth_names {x : Str} : ∀ {loc : Loc} {i : Nat}, nth (loc.map (·.1)) i = some x → ∃ o, nth loc i = some (x, o)
  | (y, o) :: l, 0, h => by cases h; exact ⟨o, rfl⟩
  | _ :: l, i + 1, h => nth_names (loc := l) (i := i) h
theorem put_comm (p q : PV) : ∀ (loc : Loc) (i j : Nat), i ≠ j → putAt q (putAt p loc i) j = putAt p (putAt q loc j) i
  | [], _, _, _ => rfl
  | (_, _) :: _, 0, 0, h => absurd rfl h
  | (_, _) :: _, 0, _ + 1, _ => rfl
  | (_, _) :: _, _ + 1, 0, _ => rfl
  | (_, _) :: l, i + 1, j + 1, h => by simp only [putAt]; rw [put_comm p q l i j (by omega)]
theorem store_at {x : Str} {i : Nat} {p : PV} {v : Value} {st : St} {Q : Unit → Shared → Prop} {A : Around} {s : Shared} {hp : List PV} {hv : List Value} {E : Value → Shared → Prop}
    (hx : nth F.locs i = some x) (S : V.Sim st (p :: hp) (v :: hv) (vw s)) (h : ∀ s', V.Sim ⟨putAt p st.loc i, st.ah⟩ hp hv (vw s') → Q () s') : wpAny (M C) A (storeName V.env x v) Q E s := by
  obtain ⟨m, mu, tl, S0⟩ := id S
  obtain ⟨o, ho⟩ := nth_names (loc := st.loc) (i := i) (x := x) (by rw [S0.nm]; exact hx)
  exact store_local (putAt_put ho) S h
theorem Ex1_asgAt {x : Str} {i : Nat} {xp : Pos} {e : Expr} {pos : Pos} {st : St} {Qn : St → Prop} {Qr : Kon} {Qc : St → Prop} (hx : nth F.locs i = some x)
    (h : Ev V n e st fun p st1 => Qn ⟨putAt p st1.loc i, st1.ah⟩) (hs : swapsWith e (some (.Name x xp)) pos.line V.env = pure false) : Ex1 V n (.Assign [.Name x xp] e pos) st Qn Qr Qc := by
  intro A s hp hv E ok S
  refine wpAny_Assign_Name (wpAny_mono (h A s hp hv E ok S) (fun v s1 ⟨p, st1, h1, S1⟩ => ?_) fun _ _ e => e) hs
  exact store_at hx S1 fun s' S' => ⟨_, h1, S'⟩
theorem As_nameAt {x : Str} {i : Nat} {xp : Pos} {p : PV} {st : St} {Q : St → Prop} (hx : nth F.locs i = some x) (h : Q ⟨putAt p st.loc i, st.ah⟩) : As V n (.Name x xp) p st Q := by
  intro A s hp hv E v ok S
  exact PyProof.Rows.assign_Name (store_at hx S fun s' S' => ⟨_, h, S'⟩)
theorem Ex1_augAt {x : Str} {i : Nat} {xp pos : Pos} {op : Operator} {e : Expr} {st : St} {Qn : St → Prop} {Qr : Kon} {Qc : St → Prop} (hx : nth F.locs i = some x)
    (h : onLoc (nth st.loc i) fun p => Ev V n e st (fun q st1 => Io V n op p q st1 fun r st2 => Qn ⟨putAt r st2.loc i, st2.ah⟩)) : Ex1 V n (.AugAssign (.Name x xp) op e pos) st Qn Qr Qc := by
  intro A s hp hv E ok S
  obtain ⟨y, p, hn, h⟩ := onLoc_inv h
  · obtain ⟨m, mu, tl, S0⟩ := id S
    have hm := nth_loc S0.nm hx hn
    obtain ⟨v, hv', r⟩ := S0.R x p hm
    have hxl : x ∈ F.locs := nth_mem hx
    refine wpAny_AugAssign_Name (wpAny_loadName_local F.hk (F.hl x hxl).1 S0.F.ns hv' ?_)
    have S' : V.Sim st (p :: hp) (v :: hv) (vw s) := ⟨m, mu, tl, S0.F, S0.N, S0.nd, S0.H, S0.nm, S0.X, S0.R, .cons r S0.O⟩
    refine wpAny_mono (h A s _ _ E ok S') (fun u s1 hx => ?_) fun _ _ e => e
    obtain ⟨q, st1, h1, S1⟩ := hx
    refine wpAny_mono (h1 A s1 hp hv E v u ok S1) (fun u s2 hx => ?_) fun _ _ e => e
    obtain ⟨r, st2, h2, S2⟩ := hx
    exact store_at hx S2 fun s' S' => ⟨_, h2, S'⟩
theorem Io.mono {op : Operator} {x y : PV} {st : St} {Q Q' : Kon} (h : Io V n op x y st Q) (hq : ∀ p st', Q p st' → Q' p st') : Io V n op x y st Q' := fun A s hp hv E vx vy ok S => wpAny_mono (h A s hp hv E vx vy ok S) (fun v s1 ⟨p, st1, h1, S1⟩ => ⟨p, st1, hq _ _ h1, S1⟩) fun _ _ e => e
theorem As.mono {t : Expr} {p : PV} {st : St} {Q Q' : St → Prop} (h : As V n t p st Q) (hq : ∀ st', Q st' → Q' st') : As V n t p st Q' := fun A s hp hv E v ok S => wpAny_mono (h A s hp hv E v ok S) (fun _ s1 ⟨st1, h1, S1⟩ => ⟨st1, hq _ h1, S1⟩) fun _ _ e => e
theorem Ex.mono {x : List Stmt} {st : St} {Qn Qn' : St → Prop} {Qr Qr' : PV → St → Prop} {Qc Qc' : St → Prop} (h : Ex V n x st Qn Qr Qc) (h1 : ∀ st, Qn st → Qn' st) (h2 : ∀ p st, Qr p st → Qr' p st) (h3 : ∀ st, Qc st → Qc' st) : Ex V n x st Qn' Qr' Qc' :=
  fun A s hp hv E ok S => wpAny_mono (h A s hp hv E ok S) (fun f s1 hf => by
    cases f with
    | next => obtain ⟨st', q, S'⟩ := hf; exact ⟨st', h1 _ q, S'⟩
    | cont => obtain ⟨st', q, S'⟩ := hf; exact ⟨st', h3 _ q, S'⟩
    | brk => exact hf
    | ret v => obtain ⟨p, st', q, S'⟩ := hf; exact ⟨p, st', h2 _ _ q, S'⟩) fun _ _ e => e
theorem IoW_ok {op : Operator} {x y : PV} {st : St} {Q : Kon} (h : IoW op x y st Q) : Io V n op x y st Q := by
  cases op with
  | Add => obtain ⟨a, rfl, h⟩ := onInt_inv h; obtain ⟨b, rfl, h⟩ := onInt_inv h; exact Io_add_int h
  | Mult => obtain ⟨a, rfl, h⟩ := onInt_inv h; obtain ⟨b, rfl, h⟩ := onInt_inv h; exact Io_mul_int (mulSide_ok h.p) h.r
  | _ => exact h.elim

/-! ### which road a written pair takes -/
theorem swaps_of (e : PE) (v : Expr) (t : Option Expr) (l : Nat) (env : Env) : swapsWith (reb e v) t l env = pure false := by cases e <;> rfl
theorem swaps_sole (e : PE) (v : Expr) (ts : List Expr) (l : Nat) (env : Env) : swapsWithSole ts (reb e v) l env = pure false := by
  match ts with
  | [] => rfl
  | [t] => exact swaps_of e v _ _ _
  | _ :: _ :: _ => rfl
theorem swapped2 {x y : Str} {xp yp tp : Pos} {kk : Nat} {v : Expr} {env : Env} (h : swOk v = true) :
    swappedStores [.Tuple [.Name x xp, .Name y yp] kk tp] v env = pure none ∨ swappedStores [.Tuple [.Name x xp, .Name y yp] kk tp] v env = pure (some [x, y]) := by
  cases v with
  | Tuple vs k p =>
    simp only [swOk] at h
    unfold swappedStores
    dsimp only
    split
    · exact .inl rfl
    · split
      · exact .inl rfl
      · split
        · exact .inl rfl
        · rename_i hn
          split
          · exact .inl rfl
          · rename_i hf
            rw [if_neg]
            · right
              simp only [List.filterMap_cons, List.filterMap_nil] at hn ⊢
              split at hn <;> split at hn <;> simp_all
            · simp only [Bool.not_eq_true] at hf
              rw [hf] at h
              simpa using h
  | _ => exact .inl rfl
theorem swapped3 {x y z : Str} {xp yp zp tp : Pos} {kk : Nat} {v : Expr} {env : Env} (h : swOk v = true) :
    swappedStores [.Tuple [.Name x xp, .Name y yp, .Name z zp] kk tp] v env = pure none ∨ swappedStores [.Tuple [.Name x xp, .Name y yp, .Name z zp] kk tp] v env = pure (some [x, y, z]) := by
  cases v with
  | Tuple vs k p =>
    simp only [swOk] at h
    unfold swappedStores
    dsimp only
    split
    · exact .inl rfl
    · split
      · exact .inl rfl
      · split
        · exact .inl rfl
        · rename_i hn
          split
          · exact .inl rfl
          · rename_i hf
            rw [if_neg]
            · right
              simp only [List.filterMap_cons, List.filterMap_nil] at hn ⊢
              split at hn <;> split at hn <;> split at hn <;> simp_all
            · simp only [Bool.not_eq_true] at hf
              rw [hf] at h
              simpa using h
  | _ => exact .inl rfl
theorem names_few {env : Env} {l : Nat} : ∀ (ts : List Expr), (ts.filterMap fun | .Name id pos => if env.kindOf id == some .local && pos.line == l then some id else none | _ => none).length ≤ ts.length
  | ts => List.length_filterMap_le _ _
theorem names_less {env : Env} {l : Nat} : ∀ (ts : List Expr), allNames ts = false → (ts.filterMap fun | .Name id pos => if env.kindOf id == some .local && pos.line == l then some id else none | _ => none).length < ts.length
  | [], h => by simp [allNames] at h
  | t :: r, h => by
    cases t with
    | Name s p =>
      have ih := names_less (env := env) (l := l) r (by simpa [allNames] using h)
      rw [List.filterMap_cons]
      dsimp only
      split <;> simp only [List.length_cons] <;> omega
    | _ =>
      rw [List.filterMap_cons]
      exact Nat.lt_of_le_of_lt (names_few r) (by simp)
theorem swappedN {ts : List Expr} {tp : Pos} {kk : Nat} {v : Expr} {env : Env} (h : allNames ts = false) : swappedStores [.Tuple ts kk tp] v env = pure none := by
  cases v with
  | Tuple vs k p =>
    unfold swappedStores
    dsimp only
    split
    · rfl
    · split
      · rfl
      · rename_i hn
        split
        · rfl
        · rename_i h2
          exfalso
          have := names_less (env := env) (l := (ts.head?.map (·.pos.line)).getD 0) ts h
          simp only [Bool.or_eq_true, bne_iff_ne, ne_eq, not_or, Decidable.not_not] at h2
          exact Nat.ne_of_lt this h2.1
  | _ => rfl
theorem Ex1_pair {x y : Str} {i j : Nat} {xp yp tp pos : Pos} {kk : Nat} {v : Expr} {st : St} {Qn : St → Prop} {Qr : Kon} {Qc : St → Prop} (hx : nth F.locs i = some x) (hy : nth F.locs j = some y) (hij : i ≠ j) (hsw : swOk v = true)
    (hs : swapsWithSole [.Tuple [.Name x xp, .Name y yp] kk tp] v pos.line V.env = pure false)
    (h : Ev V n v st fun p st1 => on2 p fun a b => Qn ⟨putAt b (putAt a st1.loc i) j, st1.ah⟩) : Ex1 V n (.Assign [.Tuple [.Name x xp, .Name y yp] kk tp] v pos) st Qn Qr Qc := by
  rcases swapped2 (env := V.env) (x := x) (y := y) (xp := xp) (yp := yp) (tp := tp) (kk := kk) hsw with hw | hw
  · refine Ex1_tup hs hw (h.mono fun p st1 h1 => ?_)
    obtain ⟨a, b, rfl, h1⟩ := on2_inv h1
    exact As_tuple rfl rfl (AsL_cons (As_nameAt hx (AsL_cons (As_nameAt hy (AsL_nil h1)) rfl)) rfl)
  · intro A s hp hv E ok S
    refine Assign_Tuple_swapped (names := [x, y]) (wpAny_mono (h A s hp hv E ok S) (fun v s1 ⟨p, st1, h1, S1⟩ => ?_) fun _ _ e => e) hs hw
    obtain ⟨a, b, rfl, h1⟩ := on2_inv h1
    · obtain ⟨d, vs, m, N, rfl, hl, F', N', hm, back⟩ := S1.untup
      refine unpackItemsN_ F' N' (N'.isTup hm) ok.hd (by simp [hl]) fun h' F2 N2 => ?_
      have S2 := back h' F2 N2
      obtain ⟨va, vb, rfl⟩ := len2 hl
      ·
        show wpAny (M C) A (do holding [va] (bindName V.env y vb); assignInOrder [fun v => bindName V.env x v] [va]) _ E _
        have S2' : V.Sim st1 (b :: a :: hp) (vb :: va :: hv) ((vw s1).to h') := Sim.swap (by simpa using S2)
        refine wpAny_bind (wpAny_holding (wpAny_bindName (store_at (s := { s1 with heap := h' }) hy S2' fun s3 S3 => ?_)))
        show wpAny (M C) A (do holding [] (bindName V.env x va); assignInOrder [] []) _ E _
        refine wpAny_bind (wpAny_holding (wpAny_bindName (store_at hx S3 fun s4 S4 => ?_)))
        exact wpAny_pure ⟨_, h1, by rw [put_comm _ _ _ _ _ hij]; exact S4⟩
theorem Ex1_triple {x y z : Str} {i j l : Nat} {xp yp zp tp pos : Pos} {kk : Nat} {v : Expr} {st : St} {Qn : St → Prop} {Qr : Kon} {Qc : St → Prop} (hx : nth F.locs i = some x) (hy : nth F.locs j = some y) (hz : nth F.locs l = some z) (hij : i ≠ j ∧ i ≠ l ∧ j ≠ l) (hsw : swOk v = true)
    (hs : swapsWithSole [.Tuple [.Name x xp, .Name y yp, .Name z zp] kk tp] v pos.line V.env = pure false)
    (h : Ev V n v st fun p st1 => on3 p fun a b c => Qn ⟨putAt c (putAt b (putAt a st1.loc i) j) l, st1.ah⟩) : Ex1 V n (.Assign [.Tuple [.Name x xp, .Name y yp, .Name z zp] kk tp] v pos) st Qn Qr Qc := by
  rcases swapped3 (env := V.env) (x := x) (y := y) (z := z) (xp := xp) (yp := yp) (zp := zp) (tp := tp) (kk := kk) hsw with hw | hw
  · refine Ex1_tup hs hw (h.mono fun p st1 h1 => ?_)
    obtain ⟨a, b, c, rfl, h1⟩ := on3_inv h1
    exact As_tuple rfl rfl (AsL_cons (As_nameAt hx (AsL_cons (As_nameAt hy (AsL_cons (As_nameAt hz (AsL_nil h1)) rfl)) rfl)) rfl)
  · intro A s hp hv E ok S
    refine Assign_Tuple_swapped (names := [x, y, z]) (wpAny_mono (h A s hp hv E ok S) (fun v s1 ⟨p, st1, h1, S1⟩ => ?_) fun _ _ e => e) hs hw
    obtain ⟨a, b, c, rfl, h1⟩ := on3_inv h1
    · obtain ⟨d, vs, m, N, rfl, hl, F', N', hm, back⟩ := S1.untup
      refine unpackItemsN_ F' N' (N'.isTup hm) ok.hd (by simp [hl]) fun h' F2 N2 => ?_
      have S2 := back h' F2 N2
      obtain ⟨va, vb, vc, rfl⟩ := len3 hl
      ·
        have S2' : V.Sim st1 (c :: b :: a :: hp) (vc :: vb :: va :: hv) ((vw s1).to h') := by
          obtain ⟨m, mu, tl, S⟩ := S2
          cases S.O with | cons a b => cases b with | cons b c => cases c with | cons c d => exact ⟨m, mu, tl, S.F, S.N, S.nd, S.H, S.nm, S.X, S.R, .cons c (.cons b (.cons a d))⟩
        show wpAny (M C) A (do holding [vb, va] (bindName V.env z vc); assignInOrder [fun v => bindName V.env y v, fun v => bindName V.env x v] [vb, va]) _ E _
        refine wpAny_bind (wpAny_holding (wpAny_bindName (store_at (s := { s1 with heap := h' }) hz S2' fun s3 S3 => ?_)))
        show wpAny (M C) A (do holding [va] (bindName V.env y vb); assignInOrder [fun v => bindName V.env x v] [va]) _ E _
        refine wpAny_bind (wpAny_holding (wpAny_bindName (store_at hy S3 fun s4 S4 => ?_)))
        show wpAny (M C) A (do holding [] (bindName V.env x va); assignInOrder [] []) _ E _
        refine wpAny_bind (wpAny_holding (wpAny_bindName (store_at hx S4 fun s5 S5 => ?_)))
        refine wpAny_pure ⟨_, h1, ?_⟩
        have e : putAt c (putAt b (putAt a st1.loc i) j) l = putAt a (putAt b (putAt c st1.loc l) j) i := by
          rw [put_comm a b _ _ _ hij.1, put_comm a c _ _ _ hij.2.1, put_comm b c _ _ _ hij.2.2]
        rw [e]; exact S5

/-! ### targets, blocks -/
theorem rebT_each (t : PT) (x : Expr) (env : Env) (r : List Expr) : assignEach (rebT t x :: r) env = (false, assign (rebT t x) env) :: assignEach r env := by cases t <;> rfl
theorem rebTl_len {env : Env} : ∀ (l : PT) (xs : List Expr), (assignEach (rebTl l xs) env).length = ptLen l ∧ (assignEach (rebTl l xs) env).findIdx? (·.1) = none
  | .cons a b, xs => by
    obtain ⟨h1, h2⟩ := rebTl_len (env := env) b (tlE xs)
    show (assignEach (rebT a (hdE xs) :: rebTl b (tlE xs)) env).length = ptLen b + 1 ∧ (assignEach (rebT a (hdE xs) :: rebTl b (tlE xs)) env).findIdx? (·.1) = none
    rw [rebT_each]
    exact ⟨congrArg (· + 1) h1, by rw [List.findIdx?_cons]; simp [h2]⟩
  | .nil, _ => ⟨rfl, rfl⟩
  | .name _ _, _ => ⟨rfl, rfl⟩
  | .attr _ _, _ => ⟨rfl, rfl⟩
  | .tup _, _ => ⟨rfl, rfl⟩
mutual
theorem WT_as (G : Good C ss fns bs fields) : ∀ (t : PT) (x : Expr), okT (F.ck fns bs) t x = true → ∀ (p : PV) (st : St) (Q : St → Prop), WT C n t p st Q → As V n (rebT t x) p st Q
  | .name i y, x, hc, p, st, Q, h => As_nameAt (eq_of_beq hc) h
  | .attr o y, x, hc, p, st, Q, h => As_attr (((W_ev G o _ hc).1 st _ h).mono fun u st1 h1 => by
      obtain ⟨ah', hf, hq⟩ := h1.h
      cases hf with
      | mk k1 k2 k3 k4 => exact ⟨_, _, _, _, _, rfl, k3, .inl k2, k4, k1, hq⟩
      | new k1 k2 k3 k4 => exact ⟨_, _, _, _, _, rfl, k3, .inr ⟨k2, rfl⟩, by simpa using k4, k1, hq⟩)
  | .tup l, x, hc, p, st, Q, h => by
      obtain ⟨ps, rfl, h⟩ := onTup_inv h
      exact As_tuple ((rebTl_len l _).1.trans h.p.symm) (rebTl_len l _).2 (WTl_as G l _ hc _ st Q h.r)
theorem WTl_as (G : Good C ss fns bs fields) : ∀ (l : PT) (xs : List Expr), okTl (F.ck fns bs) l xs = true → ∀ (ps : List PV) (st : St) (Q : St → Prop), WTl C n l ps st Q → AsL V n (rebTl l xs) ps st Q
  | .nil, xs, hc, ps, st, Q, h => by
      obtain ⟨rfl, h⟩ := onNil_inv h
      exact AsL_nil h
  | .cons a b, xs, hc, ps, st, Q, h => by
      obtain ⟨p, r, rfl, h⟩ := onCons_inv h
      exact AsL_cons ((WT_as G a _ (and_l hc) _ st _ h).mono fun st1 h1 => WTl_as G b _ (and_r hc) _ st1 Q h1) (rebT_each a _ _ _)
end
theorem inter_no (V : Act C F) : interactive V.env = false := by
  unfold interactive
  show (F.scope.kind == _ && _) = false
  rw [F.hk]; rfl
theorem aug_plain (j : PE) (u : Expr) (ov iv new : Value) : augStore (reb j u) ov iv new = (do holding [new, ov, iv] (setItem ov iv new); release [new, ov, iv] []; pure .next) := by cases j <;> rfl
theorem set_plain (e : PE) (x : Expr) (env : Env) (v : Value) : foldedSetIterable (reb e x) env v = pure v := by cases e <;> rfl
theorem turns_of {x : Str} {xp : Pos} {i : Nat} {body : List Stmt} {keep : AH → Prop} {P : Nat → Obj → Prop} {it : Addr} {Qn Qn' : St → Prop} {Qr : Kon} {B : St → (St → Prop) → Prop} (hx : nth F.locs i = some x)
    (hB : ∀ st Q, B st Q → Ex V n body st Q Qr Q) (hq : ∀ st, Qn st → Qn' st) : ∀ (ps : List PV) (k : Nat) (st : St), ForW B i keep P it Qn ps k st → Turns V n (.Name x xp) body keep P it Qn' Qr ps k st
  | [], k, st, h => ⟨h.1, hq _ h.2⟩
  | p :: ps, k, st, h => by
    have up : ∀ st2 : St, (∃ pre post, st2.ah = pre ++ (it, .raw (P (k + 1))) :: post ∧ ForW B i keep P it Qn ps (k + 1) ⟨st2.loc, pre ++ post⟩) → ∃ pre post, st2.ah = pre ++ (it, .raw (P (k + 1))) :: post ∧ Turns V n (.Name x xp) body keep P it Qn' Qr ps (k + 1) ⟨st2.loc, pre ++ post⟩ :=
      fun st2 h => h.elim fun pre h => h.elim fun post h => ⟨pre, post, h.1, turns_of hx hB hq ps (k + 1) _ h.2⟩
    exact ⟨h.1, As_nameAt hx ((hB _ _ h.2).mono up (fun _ _ e => e) up)⟩
theorem Ws_ex (G : Good C ss fns bs fields) : ∀ (b : PB) (xs : List Stmt), okB (F.ck fns bs) b xs = true → ∀ (st : St) (Qn : St → Prop) (Qr : Kon) (Qc : St → Prop), Ws V n b xs st Qn Qr Qc → Ex V n (rebB b xs) st Qn Qr Qc
  | .nil, xs, hc, st, Qn, Qr, Qc, h => Ex_nil h
  | .asg i s e r, xs, hc, st, Qn, Qr, Qc, h => Ex_cons (Ex1_asgAt (eq_of_beq (and_l (and_l hc))) (((W_ev G e _ (and_r (and_l hc))).1 st _ h).mono fun p st1 h4 => Ws_ex G r _ (and_r hc) _ Qn Qr Qc h4) (swaps_of e _ _ _ _))
  | .asgT l e r, xs, hc, st, Qn, Qr, Qc, h =>
    Ex_cons (Ex1_tup (swaps_sole e _ _ _ _) (swappedN (by simpa using and_l (and_l (and_l hc)))) (((W_ev G e _ (and_r (and_l hc))).1 st _ h).mono fun p st1 h4 => (WT_as G (.tup l) (tgS (hd xs)) (and_r (and_l (and_l hc))) p st1 _ h4).mono fun st2 h5 => Ws_ex G r _ (and_r hc) _ Qn Qr Qc h5))
  | .asg2 i s j u e r, xs, hc, st, Qn, Qr, Qc, h =>
    Ex_cons (Ex1_pair (eq_of_beq (and_l (and_l (and_l (and_l hc))))) (eq_of_beq (and_r (and_l (and_l (and_l hc))))) (of_decide_eq_true (and_r (and_l (and_l hc)))) (and_l (and_r (and_l hc))) (swaps_sole e _ _ _ _) (((W_ev G e _ (and_r (and_r (and_l hc)))).1 st _ h).mono fun p st1 h7 => by
      obtain ⟨a, b, rfl, h8⟩ := on2_inv h7
      exact Ws_ex G r _ (and_r hc) _ Qn Qr Qc h8))
  | .asg3 i s j u k w e r, xs, hc, st, Qn, Qr, Qc, h =>
    Ex_cons (Ex1_triple (eq_of_beq (and_l (and_l (and_l (and_l hc))))) (eq_of_beq (and_l (and_r (and_l (and_l (and_l hc)))))) (eq_of_beq (and_r (and_r (and_l (and_l (and_l hc)))))) (of_decide_eq_true (and_r (and_l (and_l hc)))) (and_l (and_r (and_l hc))) (swaps_sole e _ _ _ _) (((W_ev G e _ (and_r (and_r (and_l hc)))).1 st _ h).mono fun p st1 h7 => by
      obtain ⟨a, b, c, rfl, h8⟩ := on3_inv h7
      exact Ws_ex G r _ (and_r hc) _ Qn Qr Qc h8))
  | .aug i s op e r, xs, hc, st, Qn, Qr, Qc, h => Ex_cons (Ex1_augAt (eq_of_beq (and_l (and_l hc))) (by
      obtain ⟨y, p, hn, h⟩ := onLoc_inv h
      rw [hn]
      exact ((W_ev G e _ (and_r (and_l hc))).1 st _ h).mono fun q st1 h5 => (IoW_ok (V := V) (n := n) h5).mono fun v st2 h6 => Ws_ex G r _ (and_r hc) _ Qn Qr Qc h6))
  | .attr o s e r, xs, hc, st, Qn, Qr, Qc, h => Ex_cons (Ex1_attr_run (((W_ev G e _ (and_r (and_l hc))).1 st _ h).mono fun p st1 h4 => ((W_ev G o _ (and_l (and_l hc))).1 st1 _ h4).mono fun v st2 h5 => by
      obtain ⟨ah', hf, hq⟩ := h5.h
      cases hf with
      | mk k1 k2 k3 k4 => exact ⟨_, _, _, _, _, rfl, k3, .inl k2, k4, k1, Ws_ex G r _ (and_r hc) _ Qn Qr Qc hq⟩
      | new k1 k2 k3 k4 => exact ⟨_, _, _, _, _, rfl, k3, .inr ⟨k2, rfl⟩, by simpa using k4, k1, Ws_ex G r _ (and_r hc) _ Qn Qr Qc hq⟩) (swaps_of e _ _ _ _))
  | .ret e r, xs, hc, st, Qn, Qr, Qc, h => Ex_cons (Ex1_ret ((W_ev G e _ hc).1 st _ h))
  | .ifs t a b r, xs, hc, st, Qn, Qr, Qc, h => Ex_cons (Ex1_if (((W_ev G t _ (and_l (and_l hc))).2 st _ h fun p st' hp => (onBool_inv hp).elim fun b h => ⟨b, h.1⟩).mono fun c st1 h5 =>
      ⟨fun q => (Ws_ex G a _ (and_l (and_r (and_l hc))) _ _ Qr Qc (h5.1 q)).mono (fun st2 h6 => Ws_ex G r _ (and_r hc) _ Qn Qr Qc h6) (fun _ _ e => e) (fun _ e => e),
        fun q => (Ws_ex G b _ (and_r (and_r (and_l hc))) _ _ Qr Qc (h5.2 q)).mono (fun st2 h6 => Ws_ex G r _ (and_r hc) _ Qn Qr Qc h6) (fun _ _ e => e) (fun _ e => e)⟩))
  | .loop t b r, xs, hc, st, Qn, Qr, Qc, h => by
    obtain ⟨ι, S, P, μ, i, h0, hs⟩ := h.h
    exact Ex_cons (Ex1_while S P μ i h0 fun i hi => ((W_ev G t _ (and_l (and_l hc))).2 _ _ (hs i hi) fun p st' hp => (onBool_inv hp).elim fun b h => ⟨b, h.1⟩).mono fun c st1 h5 =>
      ⟨fun q => Ws_ex G b _ (and_r (and_l hc)) _ _ Qr _ (h5.1 q), fun q => Ws_ex G r _ (and_r hc) _ Qn Qr Qc (h5.2 q)⟩)
  | .cont r, xs, hc, st, Qn, Qr, Qc, h => Ex_cons (Ex1_cont h)
  | .app i s e r, xs, hc, st, Qn, Qr, Qc, h =>
    Ex_cons (Ex1_expr (Ev_meth meth_append (Ev_var (eq_of_beq (and_l (and_l (and_l hc)))) (by
      obtain ⟨y, p, hn, h⟩ := onLoc_inv h
      obtain ⟨a, rfl, h⟩ := onRef_inv h
      rw [hn]
      obtain ⟨ps, hps⟩ := h.h
      refine ⟨.list hps, Es_one (((W_ev G e _ (and_r (and_l hc))).1 st _ h.r).mono fun p st1 h6 => ?_) (reb_star e _ _ _)⟩
      obtain ⟨qs, ah', g1, g2, g3⟩ := h6.h
      exact Ca_append g1 g2 (Ws_ex G r _ (and_r hc) _ Qn Qr Qc g3))) rfl (and_r (and_l (and_l hc))) (reb_star e _ _ _) (fun _ => rfl) (by rw [reb_star]; rfl)) (inter_no V) rfl)
  | .ext i s e r, xs, hc, st, Qn, Qr, Qc, h =>
    Ex_cons (Ex1_expr (Ev_meth meth_extend (Ev_var (eq_of_beq (and_l (and_l (and_l hc)))) (by
      obtain ⟨y, p, hn, h⟩ := onLoc_inv h
      obtain ⟨a, rfl, h⟩ := onRef_inv h
      rw [hn]
      obtain ⟨ps, hps⟩ := h.h
      refine ⟨.list hps, Es_one (((W_ev G e _ (and_r (and_l hc))).1 st _ h.r).mono fun p st1 h6 => ?_) (reb_star e _ _ _)⟩
      obtain ⟨b, rfl, h6⟩ := onRef_inv h6
      obtain ⟨qs, rs, ah', g0, g1, g2, g3⟩ := h6.h
      exact Ca_extend g0 g1 g2 (Ws_ex G r _ (and_r hc) _ Qn Qr Qc g3))) rfl (and_r (and_l (and_l hc))) (reb_star e _ _ _) (fun _ => rfl) (by rw [reb_star]; rfl)) (inter_no V) rfl)
  | .augI o j op e r, xs, hc, st, Qn, Qr, Qc, h =>
    Ex_cons (Ex1_augItem (((W_ev G o _ (and_l (and_l (and_l hc)))).1 st _ h).mono fun x st1 h5 => ((W_ev G j _ (and_r (and_l (and_l hc)))).1 st1 _ h5).mono fun k st2 h6 => by
      obtain ⟨a, rfl, h7⟩ := onRef_inv h6
      obtain ⟨k, rfl, h8⟩ := onInt_inv h7
      obtain ⟨ps, q, g1, g2, g3, h9⟩ := h8.h
      refine ⟨_, ps, _, q, rfl, rfl, g1, g2, g3, ((W_ev G e _ (and_r (and_l hc))).1 st2 _ h9).mono fun p st3 h8 => (IoW_ok h8).mono fun v st4 h9 => ?_⟩
      obtain ⟨ps', ah', e1, e2, e3, e4, e5⟩ := h9.h
      exact ⟨ps', ah', e1, e2, e3, e4, Ws_ex G r _ (and_r hc) _ Qn Qr Qc e5⟩) (aug_plain j _))
  | .forin i s e b r, xs, hc, st, Qn, Qr, Qc, h =>
    Ex_cons (Ex1_for (Qr := Qr) (fun _ _ => rfl) (fun v => set_plain e _ V.env v) (((W_ev (V := V) G e _ (and_r (and_l (and_l hc)))).1 st _ h).mono fun v st1 h5 => by
      cases v with
      | tuple ps => exact ⟨ps, _, ItOf_tuple h5.h.1, fun P it hit => turns_of (eq_of_beq (and_l (and_l (and_l hc)))) (fun st' Q hb => Ws_ex G b _ (and_r (and_l hc)) st' Q Qr Q hb) (fun st2 h6 => Ws_ex G r _ (and_r hc) _ Qn Qr Qc h6) ps 0 st1 (h5.h.2 P it hit)⟩
      | ref a =>
        obtain ⟨all, g1, g2, g3⟩ := h5.h
        exact ⟨all, _, ItOf_list g1 g2, fun P it hit => turns_of (eq_of_beq (and_l (and_l (and_l hc)))) (fun st' Q hb => Ws_ex G b _ (and_r (and_l hc)) st' Q Qr Q hb) (fun st2 h6 => Ws_ex G r _ (and_r hc) _ Qn Qr Qc h6) all 0 st1 (g3 P it hit)⟩
      | _ => exact h5.elim))
  | .raw r, xs, hc, st, Qn, Qr, Qc, h => Ex_cons (h.h.mono (fun st1 h1 => Ws_ex G r _ hc _ Qn Qr Qc h1) (fun _ _ e => e) (fun _ e => e))
end
end Mine
end
section
open PySem PySem.W PyProof.Rows PySem.Builtin PySem.Builtin.Str
set_option Elab.async false
set_option genSizeOf false
set_option genInjectivity false
set_option maxRecDepth 100000
set_option maxHeartbeats 1000000
set_option linter.unusedVariables false
set_option linter.unusedSimpArgs false
namespace Mine
/-- the text with its first c made to d -/
noncomputable def rep1 (c d : Nat) : List Nat → List Nat
  | [] => []
  | a :: r => if a = c then d :: r else a :: rep1 c d r
theorem gives_replace1 (x y z : Str) (t u v w : Tok) (h0 : (u == 0 || v == 0) = false) (huv : (u == v) = false) (hyz : (y == z) = false) (hy : (y.length == 0) = false) (hl : tooLong (x.length + (occurrences x y 0 x.length 1).length * z.length) = false) :
    Gives («str.replace» ⟨[.str x t, .str y u, .str z v, .int 1 w], []⟩) (if (occurrences x y 0 x.length 1).isEmpty = true then .val (.str x t) else .str (glued z (partsBetween x (occurrences x y 0 x.length 1) y.length))) := by
  have e : «str.replace» ⟨[.str x t, .str y u, .str z v, .int 1 w], []⟩ = (do
      let limit ← countLimit "str.replace" (some (.int 1 w)) (x.length + 1)
      if ((occurrences x y 0 x.length limit).isEmpty || (y.length == 0 && z.length == 0)) = true then (do rule "str.replace.nothing"; ret (.str x t)) else
          (do let same ← isSame (.str y u) (.str z v)
              if same = true then (do rule "str.replace.old-is-new"; ret (.str x t)) else
              if tooLong (x.length + (occurrences x y 0 x.length limit).length * z.length) = true then unsupported "str.replace:memory" else
              retStr (glued z (partsBetween x (occurrences x y 0 x.length limit) y.length)))) := by rfl
  rw [e, countLimit_int "str.replace" 1 w (x.length + 1) (by decide)]
  show Gives (if ((occurrences x y 0 x.length 1).isEmpty || (y.length == 0 && z.length == 0)) = true then (do rule "str.replace.nothing"; ret (.str x t)) else
          (do let same ← isSame (.str y u) (.str z v)
              if same = true then (do rule "str.replace.old-is-new"; ret (.str x t)) else
              if tooLong (x.length + (occurrences x y 0 x.length 1).length * z.length) = true then unsupported "str.replace:memory" else
              retStr (glued z (partsBetween x (occurrences x y 0 x.length 1) y.length)))) _
  rw [hy, Bool.false_and, Bool.or_false]
  cases hc : (occurrences x y 0 x.length 1).isEmpty
  · rw [isSame_str_other y z u v h0 huv hyz, hl]
    exact .of_eq rfl
  · exact .rule (.of_eq rfl)
theorem rep1_pos (c d : Nat) (l : List Nat) : ∀ (k i : Nat), l.length ≤ i + k → (posIn c l i k = [] → rep1 c d (l.drop i) = l.drop i) ∧ (∀ j r, posIn c l i k = j :: r → i ≤ j ∧ j < l.length ∧ rep1 c d (l.drop i) = (l.drop i).take (j - i) ++ d :: l.drop (j + 1))
  | 0, i, h => by
    refine ⟨fun _ => ?_, fun j r q => (by cases q)⟩
    rw [List.drop_of_length_le (by lia)]; rfl
  | k + 1, i, h => by
    obtain ⟨h1, h2⟩ := rep1_pos c d l k (i + 1) (by lia)
    rw [posIn_succ]
    by_cases hi : i < l.length
    · have hd : l.drop i = l[i] :: l.drop (i + 1) := List.drop_eq_getElem_cons hi
      have hg : l[i]? = some l[i] := List.getElem?_eq_getElem hi
      rw [hg, hd]
      by_cases q : l[i] = c
      · rw [if_pos (by rw [q])]
        refine ⟨fun z => (by cases z), fun j r z => ?_⟩
        cases z
        refine ⟨Nat.le_refl _, hi, ?_⟩
        rw [rep1, if_pos q]
        simp
      · rw [if_neg (by simpa using q)]
        refine ⟨fun z => (by rw [rep1, if_neg q, h1 z]), fun j r z => ?_⟩
        obtain ⟨g1, g2, g3⟩ := h2 j r z
        refine ⟨by lia, g2, ?_⟩
        rw [rep1, if_neg q, g3]
        obtain ⟨e, rfl⟩ : ∃ e, j = i + 1 + e := ⟨j - (i + 1), by lia⟩
        have e1 : i + 1 + e - (i + 1) = e := by lia
        have e2 : i + 1 + e - i = e + 1 := by lia
        rw [e1, e2, List.take_succ_cons]
        rfl
    · have hg : l[i]? = none := by simpa using hi
      rw [hg, if_neg (by simp), List.drop_of_length_le (by lia)]
      rw [List.drop_of_length_le (by lia)] at h1 h2
      exact ⟨h1, fun j r z => (by obtain ⟨g1, g2, g3⟩ := h2 j r z; lia)⟩
theorem glued_one (x : Str) (d i : Nat) (hi : i < x.length) : (glued ⟨#[d]⟩ (partsBetween x [i] 1)).cps.toList = x.cps.toList.take i ++ d :: x.cps.toList.drop (i + 1) := by
  have e : partsBetween x [i] 1 = [strSub x 0 i, strSub x (i + 1) x.length] := by
    rw [StrLaws.partsBetween_eq]; rfl
  rw [e]
  have hl : x.length = x.cps.toList.length := by simp [Str.length]
  show ((strSub x 0 i).cps ++ #[d] ++ (strSub x (i + 1) x.length).cps).toList = _
  unfold strSub
  simp only [Array.toList_append, Array.toList_extract]
  simp [List.extract, hl]
  exact List.take_of_length_le (by simp)
theorem replace1_codes (x : Str) (c d : Nat) : (if (occurrences x ⟨#[c]⟩ 0 x.length 1).isEmpty = true then x else glued ⟨#[d]⟩ (partsBetween x (occurrences x ⟨#[c]⟩ 0 x.length 1) 1)).cps.toList = rep1 c d x.cps.toList := by
  have hl : x.length = x.cps.toList.length := by simp [Str.length]
  obtain ⟨h1, h2⟩ := rep1_pos c d x.cps.toList (x.length + 1) 0 (by lia)
  rw [occ_one]
  cases hp : posIn c x.cps.toList 0 (x.length + 1) with
  | nil => rw [List.drop_zero] at h1; simp only [List.take_nil, List.isEmpty_nil, if_true]; exact (h1 hp).symm
  | cons j r =>
    obtain ⟨g1, g2, g3⟩ := h2 j r hp
    have e : List.take 1 (j :: r) = [j] := rfl
    rw [e, if_neg (by simp), glued_one x d j (by lia)]
    rw [List.drop_zero] at g3
    rw [g3]; rfl
end Mine
namespace Mine
variable {C : Cx} {F : FnI} {V : Act C F} {n : Nat}
/-- a block that starts when some token is spent -/
noncomputable def ExP (V : Act C F) (n : Nat) (x : List Stmt) (st : St) (Qn : St → Prop) (Qr : PV → St → Prop) (Qc : St → Prop) : Prop :=
  ∀ A s hp hv E, V.Ok A n → 0 < s.toks → V.Sim st hp hv (vw s) → wpAny (M C) A (execs x V.env) (PstF V hp hv Qn Qr Qc) E s
theorem Ex1_ifS {l : Expr} {x : Str} {kd : Nat} {p cpos pos : Pos} {a : List Stmt} {st : St} {Qn : St → Prop} {Qr : PV → St → Prop} {Qc : St → Prop}
    (h : Ev V n l st fun v st1 => ∃ t, v = .str t ∧ (t = x.cps.toList → ExP V n a st1 Qn Qr Qc) ∧ (¬ t = x.cps.toList → Qn st1)) :
    Ex1 V n (.If (.Compare l [.Eq] [.Constant (.str x) kd p] cpos) a [] pos) st Qn Qr Qc := by
  intro A s hp hv E ok S
  refine wpAny_If (wpAny_isTrue_Compare1 (wpAny_mono (h A s hp hv E ok S) (fun v s1 ⟨y, st1, ⟨t, e, h1, h2⟩, S1⟩ => ?_) fun _ _ e => e) rfl)
  subst e
  obtain ⟨z, u, rfl, rfl⟩ := S1.str1
  refine wpAny_Constant_str ?_
  refine PyProof.Rows.eq_str ?_
  refine wpAny_truthy_bool ?_
  have e : (z == x) = decide (z.cps.toList = x.cps.toList) := by
    rw [← str_beq]
  by_cases q : z.cps.toList = x.cps.toList
  · have : (z == x) = true := by rw [e]; simpa using q
    rw [this]
    exact h1 q A _ hp hv E ok (Nat.succ_pos _) S1.drop1
  · have : (z == x) = false := by rw [e]; simpa using q
    rw [this]
    exact wpAny_pure ⟨st1, h2 q, S1.drop1⟩

theorem fits_one {x z : Str} {c : Nat} (hx : x.length + z.length ≤ 16777216) : (glued z (partsBetween x (occurrences x ⟨#[c]⟩ 0 x.length 1) 1)).length ≤ sizeLine := by
  have hy : (glued ⟨#[c]⟩ (partsBetween x (occurrences x ⟨#[c]⟩ 0 x.length 1) 1)).length = x.length := by
    have := StrLaws.glued_between_self x ⟨#[c]⟩ 1
    exact congrArg Str.length this
  have h1 : (occurrences x ⟨#[c]⟩ 0 x.length 1).length ≤ 1 := by rw [occ_one, List.length_take]; lia
  rw [size_glued, length_partsBetween, Nat.add_sub_cancel] at hy
  rw [size_glued, length_partsBetween, Nat.add_sub_cancel, sizeLine_eq]
  have h2 : (occurrences x ⟨#[c]⟩ 0 x.length 1).length * z.length ≤ 1 * z.length := Nat.mul_le_mul_right _ h1
  lia
theorem call_replace1 {prog : Program} {w : World} {A : Around} {E : Value → Shared → Prop} {s : Shared} {x : Str} {c d : Nat} {t u v k : Tok} {Q : Value → Shared → Prop} (hx : x.length ≤ 1000000) (h0 : 0 < u) (h1 : 0 < v) (h2 : u ≠ v) (hcd : c ≠ d)
    (hq : ∀ y t' s', y.cps.toList = rep1 c d x.cps.toList → vw s' = vw s → Q (.str y t') s') : wpAny (model prog w) A (call (.builtin "str.replace") [.str x t, .str ⟨#[c]⟩ u, .str ⟨#[d]⟩ v, .int 1 k]) Q E s := by
  have l1 : (⟨#[d]⟩ : Str).length = 1 := rfl
  have l2 : (⟨#[c]⟩ : Str).length = 1 := rfl
  have hf := fits_one (x := x) (z := ⟨#[d]⟩) (c := c) (by rw [l1]; lia)
  have ho : (occurrences x ⟨#[c]⟩ 0 x.length 1).length ≤ 1 := by rw [occ_one, List.length_take]; lia
  have hl : tooLong (x.length + (occurrences x ⟨#[c]⟩ 0 x.length 1).length * (⟨#[d]⟩ : Str).length) = false := by
    unfold tooLong
    rw [sizeLine_eq, l1]
    exact decide_eq_false (by lia)
  refine call_gives F.slot_str_replace (typeIs_str _ _ _) F.entry_str_replace (F.args_str_replace_4 _ _ _ _)
    (gives_replace1 x ⟨#[c]⟩ ⟨#[d]⟩ t u v k (by simp; exact ⟨Nat.ne_of_gt h0, Nat.ne_of_gt h1⟩) (by simpa using h2) (by simpa using hcd) (by rw [l2]; rfl) hl) ?_
  have hc := replace1_codes x c d
  rw [l2]
  cases he : (occurrences x ⟨#[c]⟩ 0 x.length 1).isEmpty
  · rw [he] at hc
    simp only [Bool.false_eq_true, if_false] at hc ⊢
    exact ⟨hf, hq _ _ _ hc rfl⟩
  · rw [he] at hc
    simp only [if_true] at hc ⊢
    exact hq _ _ _ hc rfl
theorem ExP_rep {ax bx : Str} {ap bp atp p1 p2 p3 cp rp pp : Pos} {k1 k2 k3 : Nat} {a b : List Nat} {c d : Nat} {st : St} {Qn : St → Prop} {Qr : PV → St → Prop} {Qc : St → Prop} (hcd : c ≠ d) (ha : a.length ≤ 1000000) (hma : (ax, some (.str a)) ∈ st.loc) (hmb : (bx, some (.str b)) ∈ st.loc)
    (hline : (atp.endLine == cp.line) = true) (h : Qr (.bool (decide (b = rep1 c d a))) st) :
    ExP V n [.Return (some (.Compare (.Name bx bp) [.Eq] [.Call (.Attribute (.Name ax ap) "replace" atp) [.Constant (.str ⟨#[c]⟩) k1 p1, .Constant (.str ⟨#[d]⟩) k2 p2, .Constant (.int 1) k3 p3] [] cp] pp)) rp] st Qn Qr Qc := by
  intro A s hp hv E ok h0 S
  obtain ⟨m, mu, tl, S0⟩ := id S
  obtain ⟨va, hva, ra⟩ := S0.R _ _ hma
  obtain ⟨vb, hvb, rb⟩ := S0.R _ _ hmb
  have hla : ax ∈ F.locs := S0.nm ▸ List.mem_map_of_mem (f := (·.1)) hma
  have hlb : bx ∈ F.locs := S0.nm ▸ List.mem_map_of_mem (f := (·.1)) hmb
  generalize eb : PV.str b = pb at rb
  generalize ea : PV.str a = pa at ra
  cases rb <;> cases eb
  cases ra <;> cases ea
  rename_i y ty x tx
  refine wpAny_execs_cons (wpAny_Return_some (wpAny_Compare1 (nameX_L S0.F hvb ?_ F.hk (F.hl _ hlb).1 (F.hl _ hlb).2) rfl))
  refine wpAny_Call_method_lateS rfl rfl hline (nameX_L S0.F hva ?_ F.hk (F.hl _ hla).1 (F.hl _ hla).2)
  refine ⟨"str", "str.replace", meth_replace.pa, meth_replace.slot, meth_replace.ty, typeIs_str _ _ _, fun a e => (nomatch e), ?_⟩
  refine Calls.callWith_builtin rfl (Calls.evalArgs_plain (Calls.spliced_cons (wpAny_Constant_str (k := k1) (pos := p1) (Calls.spliced_cons (wpAny_Constant_str (k := k2) (pos := p2) (Calls.spliced_cons (wpAny_Constant_int (k := k3) (pos := p3) (Calls.spliced_nil ?_))))))))
  refine call_replace1 (by rw [len_eq]; lia) h0 (Nat.succ_pos _) (Nat.ne_of_lt (Nat.lt_succ_self _)) hcd fun z t' s' hz hs => ?_
  refine PyProof.Rows.eq_str ?_
  have e : (y == z) = decide (y.cps.toList = z.cps.toList) := by rw [← str_beq]
  rw [e, hz]
  exact ⟨_, st, h, by rw [hs]; exact S.push fun _ => .bool _⟩
end Mine
end
section
open PySem PySem.W PyProof.Rows
set_option Elab.async false
set_option genSizeOf false
set_option genInjectivity false
set_option maxRecDepth 100000
set_option maxHeartbeats 1000000
set_option linter.unusedVariables false
set_option linter.unusedSimpArgs false
namespace Mine
variable {C : Cx} {F : FnI} {V : Act C F} {n : Nat}

/-! ### comprehensions -/
noncomputable def NsIs (m : Str → Option Value) (o : Obj) : Prop := ∃ es ep, o.data = .dict es ep ∧ StrKeys es ∧ ∀ name, nsFind es name = m name
theorem Sim.front {h₀ : Heap} {h : HS} {L : Addr} {locs : List Str} {loc : Loc} {pre post : AH} {e : Addr × AObj} {hp : List PV} {hv : List Value} (S : Sim C h₀ L locs ⟨loc, pre ++ e :: post⟩ hp hv h) : Sim C h₀ L locs ⟨loc, e :: (pre ++ post)⟩ hp hv h := by
  obtain ⟨a, o⟩ := e
  obtain ⟨m, mu, tl, S⟩ := S
  obtain ⟨m1, c, m2, rfl, H, r⟩ := S.H.pick
  have pm : List.Perm (m1 ++ (c ++ m2) ++ tl) (c ++ (m1 ++ m2) ++ tl) := by
    refine List.Perm.append_right _ ?_
    rw [← List.append_assoc, ← List.append_assoc]
    exact List.Perm.append_right _ List.perm_append_comm
  refine ⟨m, c ++ (m1 ++ m2), tl, S.F, fun p hp => S.N p (pm.mem_iff.mpr hp), ?_, HRel.cons r H, S.nm, S.X, S.R, S.O⟩
  exact (pm.map (fun x => x.1)).nodup_iff.mp S.nd
theorem Sim.nsAt {h₀ : Heap} {h : HS} {L a : Addr} {locs : List Str} {loc : Loc} {post : AH} {hp : List PV} {hv : List Value} {mm : Str → Option Value} (S : Sim C h₀ L locs ⟨loc, (a, .raw (NsIs mm)) :: post⟩ hp hv h) :
    h.heap.Ns a mm ∧ (∀ h', Heap.SameBut a h.heap h' → Sim C h₀ L locs ⟨loc, post⟩ hp hv (h.to h')) ∧ ∀ h' mm', h'.Ns a mm' → Heap.SameBut a h.heap h' → Sim C h₀ L locs ⟨loc, (a, .raw (NsIs mm')) :: post⟩ hp hv (h.to h') := by
  obtain ⟨o, m, mu, tl, ⟨es, ep, hd, hk, hf⟩, S2, hget, hL, hn, hap⟩ := Sim.pickRaw (pre := []) S
  refine ⟨⟨o, es, ep, hget, hd, hk, hf⟩, fun h' hs => (S2.but hL hn hap hs.extBut).sim, fun h' mm' ⟨o', es', ep', g1, g2, g3, g4⟩ hs => ?_⟩
  have S3 := S2.but hL hn hap hs.extBut
  refine S3.pushRaw (h := h.to h') (o := o') ⟨es', ep', g2, g3, g4⟩ hap S3.F fun q hq => ?_
  rcases List.mem_cons.mp hq with e | e
  · subst e; exact ⟨g1, hL, hn⟩
  · exact S3.N q e
/-- a test, and an element, inside a comprehension: x is its name, p what it has -/
noncomputable def CTt (V : Act C F) (n : Nat) (sc : Scope) (x : Str) (e : Expr) (p : PV) (st : St) (Q : Bool → AH → Prop) : Prop :=
  ∀ A s hp hv E L v m, m x = some v → V.Ok A n → V.Sim ⟨st.loc, (L, .raw (NsIs m)) :: st.ah⟩ (p :: hp) (v :: hv) (vw s) →
    wpAny (M C) A (isTrue e (compEnv sc L V.env) (eval e (compEnv sc L V.env))) (fun b s' => ∃ ah', Q b ah' ∧ V.Sim ⟨st.loc, (L, .raw (NsIs m)) :: ah'⟩ (p :: hp) (v :: hv) (vw s')) E s
noncomputable def CEv (V : Act C F) (n : Nat) (sc : Scope) (x : Str) (e : Expr) (p : PV) (st : St) (Q : PV → AH → Prop) : Prop :=
  ∀ A s hp hv E L v m, m x = some v → V.Ok A n → V.Sim ⟨st.loc, (L, .raw (NsIs m)) :: st.ah⟩ (p :: hp) (v :: hv) (vw s) →
    wpAny (M C) A (eval e (compEnv sc L V.env)) (fun r s' => ∃ q ah', Q q ah' ∧ V.Sim ⟨st.loc, (L, .raw (NsIs m)) :: ah'⟩ (q :: p :: hp) (r :: v :: hv) (vw s')) E s
noncomputable def CTs (V : Act C F) (n : Nat) (sc : Scope) (x : Str) (ifs : List Expr) (p : PV) (st : St) (Q : Bool → AH → Prop) : Prop := match ifs with
  | [] => Q true st.ah
  | [e] => CTt V n sc x e p st Q
  | _ => False
/-- the turns of a comprehension -/
structure CBack (it acc : Addr) (P : Nat → Obj → Prop) (k : Nat) (out : List PV) (K : AH → Prop) (ah : AH) : Prop where
  h : ∃ pre post, ah = pre ++ (it, .raw (P k)) :: (acc, .list out) :: post ∧ K (pre ++ post)
noncomputable def CTurns (V : Act C F) (n : Nat) (sc : Scope) (x : Str) (elt : Expr) (ifs : List Expr) (it acc : Addr) (P : Nat → Obj → Prop) (keep : AH → Prop) (loc : Loc) (Qn : List PV → AH → Prop) : List PV → Nat → List PV → AH → Prop
  | [], k, out, ah => keep ah ∧ Qn out ah
  | p :: rest, k, out, ah => keep ah ∧ CTs V n sc x ifs p ⟨loc, (it, .raw (P (k + 1))) :: (acc, .list out) :: ah⟩ fun b ah1 =>
      if b then CEv V n sc x elt p ⟨loc, ah1⟩ fun q => CBack it acc P (k + 1) out fun ah2 => CTurns V n sc x elt ifs it acc P keep loc Qn rest (k + 1) (out ++ [q]) ah2
      else CBack it acc P (k + 1) out (fun ah2 => CTurns V n sc x elt ifs it acc P keep loc Qn rest (k + 1) out ah2) ah1
theorem UpdH.skip {a : Addr} {o o' : AObj} {l l' : AH} (h : UpdH a o o' l l') : ∀ p1 : AH, UpdH a o o' (p1 ++ l) (p1 ++ l')
  | [] => h
  | e :: p1 => .next (UpdH.skip h p1)
theorem Sim.tidy {h₀ : Heap} {h : HS} {L : Addr} {locs : List Str} {loc : Loc} {a b c : Addr × AObj} {pre post : AH} {hp : List PV} {hv : List Value} (S : Sim C h₀ L locs ⟨loc, a :: (pre ++ b :: c :: post)⟩ hp hv h) : Sim C h₀ L locs ⟨loc, a :: b :: c :: (pre ++ post)⟩ hp hv h := by
  have S1 := Sim.front (pre := a :: pre) (post := c :: post) S
  have S2 := Sim.front (pre := b :: a :: pre) (post := post) S1
  have S3 := Sim.front (pre := [c]) (post := a :: (pre ++ post)) S2
  exact Sim.front (pre := [b, c]) (post := pre ++ post) S3
/-- one turn of a comprehension, from its tests on -/
theorem comp_turn {T : List PV → AH → Prop} {elt : Expr} {x : Str} {ifs : List Expr} {sc : Scope} {it acc L : Addr} {P : Nat → Obj → Prop} {k : Nat} {p : PV} {v : Value} {out : List PV} {loc : Loc} {A : Around} {s : Shared} {hp : List PV} {hv : List Value} {R : Shared → Prop} {E : Value → Shared → Prop} {m : Str → Option Value} {ah : AH}
    (ok : V.Ok A n) (hm : m x = some v) (hlt : out.length ≤ 1000000)
    (h : CTs V n sc x ifs p ⟨loc, ah⟩ fun b ah1 => if b then CEv V n sc x elt p ⟨loc, ah1⟩ fun q => CBack it acc P k out fun ah2 => T (out ++ [q]) ah2 else CBack it acc P k out (fun ah2 => T out ah2) ah1)
    (S : V.Sim ⟨loc, (L, .raw (NsIs m)) :: ah⟩ (p :: hp) (v :: hv) (vw s))
    (hR : ∀ out' ah' s', out'.length ≤ out.length + 1 → T out' ah' → V.Sim ⟨loc, (it, .raw (P k)) :: (L, .raw (NsIs m)) :: (acc, .list out') :: ah'⟩ hp hv (vw s') → R s') :
    wpAny (M C) A (forIn ifs true fun c r => if r = true then do let ok ← isTrue c (compEnv sc L V.env) (eval c (compEnv sc L V.env)); pure (ForInStep.yield ok) else pure (ForInStep.yield r))
      (fun b s₃ => if b = true then wpAny (M C) A (eval elt (compEnv sc L V.env)) (fun y s₄ => wpAny (M C) A (call (.builtin "list.append") [.ref acc, y]) (fun _ s₅ => R s₅) E s₄) E s₃ else R s₃) E s := by
  have back : ∀ out' ah5 (s5 : Shared), out'.length ≤ out.length + 1 → CBack it acc P k out' (fun ah2 => T out' ah2) ah5 → V.Sim ⟨loc, (L, .raw (NsIs m)) :: ah5⟩ hp hv (vw s5) → R s5 := by
    intro out' ah5 s5 hl5 hB S5
    obtain ⟨pre, post, e5, h5⟩ := hB.h
    rw [e5] at S5
    exact hR out' (pre ++ post) s5 hl5 h5 (Sim.front (pre := [_]) (Sim.tidy S5))
  have go : ∀ b (s4 : Shared) ah4, (if b then CEv V n sc x elt p ⟨loc, ah4⟩ (fun q => CBack it acc P k out fun ah2 => T (out ++ [q]) ah2) else CBack it acc P k out (fun ah2 => T out ah2) ah4) →
      V.Sim ⟨loc, (L, .raw (NsIs m)) :: ah4⟩ (p :: hp) (v :: hv) (vw s4) →
      if b = true then wpAny (M C) A (eval elt (compEnv sc L V.env)) (fun y s₄ => wpAny (M C) A (call (.builtin "list.append") [.ref acc, y]) (fun _ s₅ => R s₅) E s₄) E s4 else R s4 := by
    intro b s4 ah4 h4 S4
    cases b with
    | false => exact back out ah4 s4 (Nat.le_succ _) h4 S4.drop1
    | true =>
      refine wpAny_mono (h4 A s4 hp hv E L v m hm ok S4) (fun y s5 hx => ?_) fun _ _ e => e
      obtain ⟨q, ah5, hB, S5⟩ := hx
      obtain ⟨pre, post, e5, h5⟩ := hB.h
      rw [e5] at S5
      refine wpAny_mono ((Ca_append (V := V) (n := n) (Q := fun r st' => st' = ⟨loc, (L, .raw (NsIs m)) :: (pre ++ (it, .raw (P k)) :: (acc, .list (out ++ [q])) :: post)⟩) (.next (UpdH.skip (.next .here) pre)) hlt rfl) A s5 (p :: hp) (v :: hv) E [.ref acc, y] ok rfl (S5.push fun _ => .ref acc)) (fun _ s6 hx => ?_) fun _ _ e => e
      obtain ⟨r6, st6, e6, S6⟩ := hx
      rw [e6] at S6
      exact back (out ++ [q]) _ s6 (by rw [List.length_append]; exact Nat.le_refl _) ⟨pre, post, rfl, h5⟩ S6.drop1.drop1
  match ifs, h with
  | [], h => exact wpAny_tests_nil (go true s _ h S)
  | [c], h =>
    refine wpAny_tests_one (wpAny_mono (h A s hp hv _ L v m hm ok S) (fun b s4 hx => ?_) fun _ _ e => e)
    obtain ⟨ah4, h4, S4⟩ := hx
    exact go b s4 ah4 h4 S4
theorem getn {α : Type} {l : List α} {k : Nat} (h : l[k]? = none) : l.drop k = [] := List.drop_of_length_le (List.getElem?_eq_none_iff.mp h)
theorem gets {α : Type} {l : List α} {k : Nat} {a : α} (h : l[k]? = some a) : k < l.length ∧ l.drop k = a :: l.drop (k + 1) := by
  obtain ⟨h1, rfl⟩ := List.getElem?_eq_some_iff.mp h
  exact ⟨h1, List.drop_eq_getElem_cons h1⟩
/-- how a comprehension stands when j items are still to come -/
structure CompI (V : Act C F) (T : List PV → Nat → List PV → AH → Prop) (it acc L : Addr) (P : Nat → Obj → Prop) (loc : Loc) (all hp : List PV) (hv : List Value) (j : Nat) (s : Shared) : Prop where
  h : ∃ k out ah m, j + k = all.length ∧ out.length ≤ k ∧ T (all.drop k) k out ah ∧ V.Sim ⟨loc, (it, .raw (P k)) :: (L, .raw (NsIs m)) :: (acc, .list out) :: ah⟩ hp hv (vw s)
theorem comp_loop {elt iter : Expr} {x : Str} {px : Pos} {ifs : List Expr} {sc : Scope} {pos : Pos} {it acc L : Addr} {P : Nat → Obj → Prop} {all : List PV} {keep : AH → Prop} {loc : Loc} {Qn : List PV → AH → Prop} {A : Around} {s : Shared} {py : PV} {vy : Value} {hp : List PV} {hv : List Value} {R : Result → Shared → Prop} {mm : Str → Option Value} {ah : AH}
    (ok : V.Ok A n) (hx : sc.names.lookup x = some .local) (hkind : sc.kind = .function) (N : NextOk V n py vy it P all keep) (hsz : all.length ≤ 1000000)
    (h : CTurns V n sc x elt ifs it acc P keep loc Qn all 0 [] ah)
    (S : V.Sim ⟨loc, (it, .raw (P 0)) :: (L, .raw (NsIs mm)) :: (acc, .list []) :: ah⟩ (py :: hp) (vy :: hv) (vw s))
    (hR : ∀ s' m out ah', Qn out ah' → V.Sim ⟨loc, (L, .raw (NsIs m)) :: (acc, .list out) :: ah'⟩ (py :: hp) (vy :: hv) (vw s') → R (.ok .next) s') :
    codeAny (M C) A (.compLoop (.ListComp elt [⟨.Name x px, iter, ifs, 0⟩] sc pos) 0 (.ref it) (.ref acc) (compEnv sc L V.env)) R s := by
  refine codeAny_compLoop_tests (CompI V (CTurns V n sc x elt ifs it acc P keep loc Qn) it acc L P loc all (py :: hp) (vy :: hv)) ?_ all.length ⟨0, [], ah, mm, rfl, Nat.le_refl _, h, S⟩
  intro j s1 hI
  obtain ⟨k, out, ah1, m1, e1, hout, h1, S1⟩ := hI.h
  have hkeep : keep ah1 := by
    generalize all.drop k = r at h1
    cases r with
    | nil => exact h1.1
    | cons _ _ => exact h1.1
  refine N.h k A s1 hp hv _ loc _ _ ok (N.mono _ _ (N.mono _ _ hkeep)) S1 (fun ha s2 S2 => ?_) (fun p ha v s2 S2 => ?_)
  · rw [getn ha] at h1
    exact hR s2 m1 out ah1 h1.2 S2
  · obtain ⟨hk, e⟩ := gets ha
    rw [e] at h1
    obtain ⟨hN, -, hset⟩ := Sim.nsAt (Sim.front (pre := [_]) S2)
    refine wpAny_assign_Name (wpAny_storeName_local (env := compEnv sc L V.env) hx hN (fun h2 hn2 hs2 => ?_) (by show (sc.kind == .class || (sc.kind == .module && L != mainGlobals)) = false; rw [hkind]; rfl))
    refine comp_turn ok (m := fun y => if y = x then some v else m1 y) (T := CTurns V n sc x elt ifs it acc P keep loc Qn (all.drop (k + 1)) (k + 1)) (if_pos rfl) (by lia) h1.2 (hset h2 _ hn2 hs2) fun out' ah' s' hl hT S' => ?_
    exact ⟨j - 1, by lia, ⟨k + 1, out', ah', _, by lia, by lia, hT, S'⟩⟩
theorem newNil_at {st : St} {hp : List PV} {hv : List Value} {A : Around} {s : Shared} {E : Value → Shared → Prop} {Q : Value → Shared → Prop} (S : V.Sim st hp hv (vw s)) (h : ∀ acc s', acc ∉ st.ah.map (·.1) → V.Sim ⟨st.loc, (acc, .list []) :: st.ah⟩ hp hv (vw s') → Q (.ref acc) s') : wpAny (M C) A (newList []) Q E s := by
  obtain ⟨m, mu, tl, S⟩ := S
  exact wpAny_newList (h s.heap.objs.size _ S.fresh (Sim0.newList (h' := s.heap.push { cls := .type "list", data := .seq ([] : List Value).toArray }) (k := 0) (ps := []) (vs := []) S rfl (fun p hp => Nat.ne_of_lt (lt_of_news S.N p hp)) (S.F.push _) (News.push S.F S.N _)).drop1) (by simp)
theorem Ev_comp {elt iter : Expr} {x : Str} {px : Pos} {ifs : List Expr} {sc : Scope} {pos : Pos} {st : St} {Q : Kon}
    (hfree : ∀ y ∈ sc.names, y.2 ≠ .free) (hcell : ∀ y ∈ sc.names, y.2 ≠ .cell) (hkind : sc.kind = .function) (hnames : ∀ y ∈ sc.names, y.2 = .local → sc.names.lookup y.1 = some .local) (hx : sc.names.lookup x = some .local)
    (hs : ∀ v, foldedSetIterable iter V.env v = pure v)
    (h : Ev V n iter st fun p st1 => ∃ all keep, all.length ≤ 1000000 ∧ ItOf V n p st1 all keep ∧ ∀ it P acc, acc ∉ st1.ah.map (·.1) → CTurns V n sc x elt ifs it acc P keep st1.loc (fun out ah' => Q (.ref acc) ⟨st1.loc, (acc, .list out) :: ah'⟩) all 0 [] st1.ah) :
    Ev V n (.ListComp elt [⟨.Name x px, iter, ifs, 0⟩] sc pos) st Q := by
  intro A s hp hv E ok S
  refine wpAny_ListComp hfree hkind hnames (wpAny_mono (h A s hp hv E ok S) (fun v s1 ⟨p, st1, ⟨all, keep, hsz, hI, hT⟩, S1⟩ => ?_) fun _ _ e => e) hs
  refine hI A s1 hp hv E v _ ok S1 fun it P s2 hit N S2 => newNil_at S2 fun acc s3 hacc S3 => ?_
  have hT1 := hT it P acc fun q => hacc (List.mem_cons_of_mem _ q)
  refine wpAny_newFunctionEnv hcell (by intro y hy; simp at hy) (fun h4 hn4 hs4 => ?_) hkind
  have SL := (Sim.raws S3 (P := fun _ => True) { cls := .type "dict", data := .dict #[] } trivial rfl).1
  obtain ⟨o, m, mu, tl, -, S4, hget, hL, hn, hap⟩ := Sim.pickRaw (pre := []) SL
  obtain ⟨o', es, ep, g1, g2, g3, g4⟩ := hn4
  have S6 := Sim.reraw (P := NsIs (fun _ => none)) S4 hL hn hap hs4.extBut g1 ⟨es, ep, g2, g3, by simpa using g4⟩
  have S7 := Sim.front (pre := [_, _]) S6
  have loop : ∀ tk, codeAny (M C) A (.compLoop (.ListComp elt [⟨.Name x px, iter, ifs, 0⟩] sc pos) 0 (.ref it) (.ref acc) (compEnv sc s3.heap.objs.size V.env))
        (fun r s' => ∃ m, s'.heap.Ns s3.heap.objs.size m ∧ ∀ h', Heap.SameBut s3.heap.objs.size s'.heap h' →
          match r with | .ok _ => Pst V hp hv Q (.ref acc) { s' with heap := h' } | .error x => wpAny (M C) A (passOn "comprehension.variables-let-go" x (compEnv sc s3.heap.objs.size V.env)) (Pst V hp hv Q) E { s' with heap := h' }) { s3 with heap := h4, toks := tk } := by
    intro tk
    refine comp_loop ok hx hkind N hsz hT1 S7 fun s' mm out ah' hq S8 => ?_
    obtain ⟨k1, k2, -⟩ := Sim.nsAt S8
    exact ⟨mm, k1, fun h' hs' => ⟨_, _, hq, ((k2 h' hs').drop1.push fun _ => .ref acc)⟩⟩
  exact codeAny_compStart_list (loop _) (N.self 0 A { s3 with heap := h4, toks := _ } (p :: hp) (v :: hv) _ _ _ _ S7 (loop _))

/-! ### inside a comprehension -/
theorem CEv_name {sc : Scope} {x : Str} {xp : Pos} {p : PV} {st : St} {Q : PV → AH → Prop} (hkind : sc.kind = .function) (hx : sc.names.lookup x = some .local) (hd : (x == ("__debug__" : Str)) = false) (h : Q p st.ah) : CEv V n sc x (.Name x xp) p st Q := by
  intro A s hp hv E L v m hm ok S
  obtain ⟨k1, -, -⟩ := Sim.nsAt S
  refine wpAny_Name (wpAny_loadName_local (env := compEnv sc L V.env) hkind hx k1 hm ⟨p, _, h, ?_⟩) hd
  obtain ⟨m2, mu, tl, S⟩ := S
  cases S.O with
  | cons a b => exact ⟨m2, mu, tl, S.F, S.N, S.nd, S.H, S.nm, S.X, S.R, .cons a (.cons a b)⟩
/-- a call of a def of the text on the comprehension's own name -/
theorem CEv_call1 {sc : Scope} {x g : Str} {f : Addr} {xp gp pos : Pos} {p : PV} {st : St} {Q : PV → AH → Prop} (G : GlobAt C g f) (hkind : sc.kind = .function) (hx : sc.names.lookup x = some .local) (hd : (x == ("__debug__" : Str)) = false)
    (hg : sc.names.lookup g = some .globalImplicit) (hgd : (g == ("__debug__" : Str)) = false)
    (h : ∀ L m, Fn C n f [p] ((L, .raw (NsIs m)) :: st.ah) fun r ah' => ∃ ah2, ah' = (L, .raw (NsIs m)) :: ah2 ∧ Q r ah2) : CEv V n sc x (.Call (.Name g gp) [.Name x xp] [] pos) p st Q := by
  intro A s hp hv E L v m hm ok S
  obtain ⟨m0, mu0, tl0, S0⟩ := id S
  refine Call_Name rfl (PySem.Calls.Name_function_global (env := compEnv sc L V.env) hkind hg (PySem.Calls.loadGlobal_global (env := compEnv sc L V.env) ((topRead_of V.T).g.keeps S0.F.keep) (mg_of V.X (topRead_of V.T).g G.at_) ?_) hgd)
  refine callWith_K (K := C.K) V.X G.keep (Calls.spliced_cons ?_) rfl rfl
  refine wpAny_mono (CEv_name (V := V) (n := n) (st := st) (Q := fun r ah' => r = p ∧ ah' = st.ah) hkind hx hd ⟨rfl, rfl⟩ A s hp hv E L v m hm ok S) (fun r s1 hx => ?_) fun _ _ e => e
  obtain ⟨q, ah1, ⟨eq, ea⟩, S1⟩ := hx
  subst eq ea
  refine Calls.spliced_nil ?_
  obtain ⟨m1, mu1, tl1, S1'⟩ := id S1
  refine ⟨V.X.keeps S1'.F.keep, ?_⟩
  refine wpAny_call (codeAny_mono (h L m _ V A s1 (q :: hp) (v :: hv) E [r] st.loc ok rfl S1) fun r2 s' y => ?_)
  match r2, y with
  | .ok (.ret u), ⟨q2, ⟨l', a'⟩, ⟨e1, ah2, e2, e3⟩, S'⟩ => cases e1; cases e2; exact ⟨q2, ah2, e3, S'⟩
  | .error e, y => exact y
theorem CTt_plain {sc : Scope} {x : Str} {e : Expr} {p : PV} {st : St} {Q : Bool → AH → Prop} (h : CEv V n sc x e p st fun r ah' => ∃ b, r = .bool b ∧ Q b ah')
    (he : ∀ env whole, isTrue e env whole = (do let v ← whole; standAt e.pos; holding [v] (truthy v))) : CTt V n sc x e p st Q := by
  intro A s hp hv E L v m hm ok S
  refine isTrue_plain (wpAny_mono (h A s hp hv E L v m hm ok S) (fun r s1 ⟨q, ah', ⟨b, e, h1⟩, S1⟩ => ?_) fun _ _ e => e) (he _ _)
  subst e
  obtain rfl := S1.bool1
  exact wpAny_truthy_bool ⟨ah', h1, S1.drop1⟩
theorem CTt_not {sc : Scope} {x : Str} {e : Expr} {pos : Pos} {p : PV} {st : St} {Q : Bool → AH → Prop} (h : CTt V n sc x e p st fun b ah' => Q (!b) ah') : CTt V n sc x (.UnaryOp .Not e pos) p st Q :=
  fun A s hp hv E L v m hm ok S => isTrue_not (h A s hp hv E L v m hm ok S)
end Mine
end
section
open PySem PySem.W PyProof.Rows
set_option Elab.async false
set_option maxRecDepth 100000
set_option linter.unusedVariables false
set_option linter.unusedSimpArgs false
namespace Mine
noncomputable def fns : List Str := ["figures_of", "rounded_by", "begins_number", "read_ahead", "read_places", "read_picture", "read_pieces", "piece_at", "padded_figures", "scaled", "grouped", "split_figures", "with_exponent", "lead_of", "tail_of", "number_by", "value_by", "is_plain", "using_text", "_law_draw", "_law_picture", "_law_number", "_law_turned", "_law_longer", "_law_read_right", "_law_made_right"]
noncomputable def bs : List Str := ["abs", "len", "isinstance", "max", "tuple", "str", "range", "enumerate", "super"]
noncomputable def fields : List Str := ["left", "right", "has_point", "has_star", "has_dollar", "has_comma", "has_exponent", "sign"]
noncomputable def ss : List Stmt := PySem.Challenge.pw_pq0175_02.main.body
noncomputable def prt (i : Nat) : Parts := match ss[i]? with
  | some (.FunctionDef name params body _ _ _ scope _ _ _) => ⟨name, params, body, scope, true⟩
  | _ => default
variable {C : Cx}

noncomputable def F_figures_of (K : Frag) : FnI where
  qual := "figures_of"
  scope := (prt 2).scope
  a := adr K "figures_of"
  cd := cdOf K (adr K "figures_of")
  locs := ["number", "many", "bound"]
  gls := []
  hk := by kernel_rfl
  hnd := by decide +kernel
  hl := by decide +kernel
  hg := by decide +kernel
theorem b_figures_of (name : Str) (doc pm : Value) (an : Option Addr) (ct code a : Value) : bindArgs (fnOf name (prt 2).qual (prt 2).params (prt 2).body (prt 2).scope .none .none doc pm an code ct) ⟨[a], []⟩ = pure (List.zip [Str.ofString "number"] [a]) := rfl
theorem D_figures_of (G : Good C ss fns bs fields) : DefAt C (F_figures_of C.K) ["number"] ["many", "bound"] (prt 2).body := by
  have e1 : defIn ss "figures_of" = some (prt 2) := by kernel_rfl
  have e2 : (prt 2).ok = true := by kernel_rfl
  have e3 : (prt 2).qual = "figures_of" := by kernel_rfl
  have e4 : ∀ x ∈ (prt 2).scope.names, x.2 ≠ .cell := by decide +kernel
  have e5 : (prt 2).scope.isCoroutine = false := by kernel_rfl
  have e6 : (prt 2).scope.isGenerator = false := by kernel_rfl
  refine defAt_of (P := prt 2) ((G.parts (g := "figures_of") (by decide +kernel)).trans e1) e2 rfl e3.symm rfl ?_ rfl e4 e5 e6
  intro name doc pm an ct code vs h
  obtain ⟨a, rfl⟩ := len1 h
  exact b_figures_of ..

noncomputable def F_rounded_by (K : Frag) : FnI where
  qual := "rounded_by"
  scope := (prt 3).scope
  a := adr K "rounded_by"
  cd := cdOf K (adr K "rounded_by")
  locs := ["number", "places", "unit", "found", "rest"]
  gls := ["figures_of"]
  hk := by kernel_rfl
  hnd := by decide +kernel
  hl := by decide +kernel
  hg := by decide +kernel
theorem b_rounded_by (name : Str) (doc pm : Value) (an : Option Addr) (ct code a b : Value) : bindArgs (fnOf name (prt 3).qual (prt 3).params (prt 3).body (prt 3).scope .none .none doc pm an code ct) ⟨[a, b], []⟩ = pure (List.zip [Str.ofString "number", Str.ofString "places"] [a, b]) := rfl
theorem D_rounded_by (G : Good C ss fns bs fields) : DefAt C (F_rounded_by C.K) ["number", "places"] ["unit", "found", "rest"] (prt 3).body := by
  have e1 : defIn ss "rounded_by" = some (prt 3) := by kernel_rfl
  have e2 : (prt 3).ok = true := by kernel_rfl
  have e3 : (prt 3).qual = "rounded_by" := by kernel_rfl
  have e4 : ∀ x ∈ (prt 3).scope.names, x.2 ≠ .cell := by decide +kernel
  have e5 : (prt 3).scope.isCoroutine = false := by kernel_rfl
  have e6 : (prt 3).scope.isGenerator = false := by kernel_rfl
  refine defAt_of (P := prt 3) ((G.parts (g := "rounded_by") (by decide +kernel)).trans e1) e2 rfl e3.symm rfl ?_ rfl e4 e5 e6
  intro name doc pm an ct code vs h
  obtain ⟨a, b, rfl⟩ := len2 h
  exact b_rounded_by ..

noncomputable def F_begins_number (K : Frag) : FnI where
  qual := "begins_number"
  scope := (prt 6).scope
  a := adr K "begins_number"
  cd := cdOf K (adr K "begins_number")
  locs := ["text", "at"]
  gls := []
  hk := by kernel_rfl
  hnd := by decide +kernel
  hl := by decide +kernel
  hg := by decide +kernel
theorem b_begins_number (name : Str) (doc pm : Value) (an : Option Addr) (ct code a b : Value) : bindArgs (fnOf name (prt 6).qual (prt 6).params (prt 6).body (prt 6).scope .none .none doc pm an code ct) ⟨[a, b], []⟩ = pure (List.zip [Str.ofString "text", Str.ofString "at"] [a, b]) := rfl
theorem D_begins_number (G : Good C ss fns bs fields) : DefAt C (F_begins_number C.K) ["text", "at"] [] (prt 6).body := by
  have e1 : defIn ss "begins_number" = some (prt 6) := by kernel_rfl
  have e2 : (prt 6).ok = true := by kernel_rfl
  have e3 : (prt 6).qual = "begins_number" := by kernel_rfl
  have e4 : ∀ x ∈ (prt 6).scope.names, x.2 ≠ .cell := by decide +kernel
  have e5 : (prt 6).scope.isCoroutine = false := by kernel_rfl
  have e6 : (prt 6).scope.isGenerator = false := by kernel_rfl
  refine defAt_of (P := prt 6) ((G.parts (g := "begins_number") (by decide +kernel)).trans e1) e2 rfl e3.symm rfl ?_ rfl e4 e5 e6
  intro name doc pm an ct code vs h
  obtain ⟨a, b, rfl⟩ := len2 h
  exact b_begins_number ..

noncomputable def F_read_ahead (K : Frag) : FnI where
  qual := "read_ahead"
  scope := (prt 7).scope
  a := adr K "read_ahead"
  cd := cdOf K (adr K "read_ahead")
  locs := ["picture", "text", "at"]
  gls := []
  hk := by kernel_rfl
  hnd := by decide +kernel
  hl := by decide +kernel
  hg := by decide +kernel
theorem b_read_ahead (name : Str) (doc pm : Value) (an : Option Addr) (ct code a b c : Value) : bindArgs (fnOf name (prt 7).qual (prt 7).params (prt 7).body (prt 7).scope .none .none doc pm an code ct) ⟨[a, b, c], []⟩ = pure (List.zip [Str.ofString "picture", Str.ofString "text", Str.ofString "at"] [a, b, c]) := rfl
theorem D_read_ahead (G : Good C ss fns bs fields) : DefAt C (F_read_ahead C.K) ["picture", "text", "at"] [] (prt 7).body := by
  have e1 : defIn ss "read_ahead" = some (prt 7) := by kernel_rfl
  have e2 : (prt 7).ok = true := by kernel_rfl
  have e3 : (prt 7).qual = "read_ahead" := by kernel_rfl
  have e4 : ∀ x ∈ (prt 7).scope.names, x.2 ≠ .cell := by decide +kernel
  have e5 : (prt 7).scope.isCoroutine = false := by kernel_rfl
  have e6 : (prt 7).scope.isGenerator = false := by kernel_rfl
  refine defAt_of (P := prt 7) ((G.parts (g := "read_ahead") (by decide +kernel)).trans e1) e2 rfl e3.symm rfl ?_ rfl e4 e5 e6
  intro name doc pm an ct code vs h
  obtain ⟨a, b, c, rfl⟩ := len3 h
  exact b_read_ahead ..

noncomputable def F_read_places (K : Frag) : FnI where
  qual := "read_places"
  scope := (prt 8).scope
  a := adr K "read_places"
  cd := cdOf K (adr K "read_places")
  locs := ["picture", "text", "at"]
  gls := ["len"]
  hk := by kernel_rfl
  hnd := by decide +kernel
  hl := by decide +kernel
  hg := by decide +kernel
theorem b_read_places (name : Str) (doc pm : Value) (an : Option Addr) (ct code a b c : Value) : bindArgs (fnOf name (prt 8).qual (prt 8).params (prt 8).body (prt 8).scope .none .none doc pm an code ct) ⟨[a, b, c], []⟩ = pure (List.zip [Str.ofString "picture", Str.ofString "text", Str.ofString "at"] [a, b, c]) := rfl
theorem D_read_places (G : Good C ss fns bs fields) : DefAt C (F_read_places C.K) ["picture", "text", "at"] [] (prt 8).body := by
  have e1 : defIn ss "read_places" = some (prt 8) := by kernel_rfl
  have e2 : (prt 8).ok = true := by kernel_rfl
  have e3 : (prt 8).qual = "read_places" := by kernel_rfl
  have e4 : ∀ x ∈ (prt 8).scope.names, x.2 ≠ .cell := by decide +kernel
  have e5 : (prt 8).scope.isCoroutine = false := by kernel_rfl
  have e6 : (prt 8).scope.isGenerator = false := by kernel_rfl
  refine defAt_of (P := prt 8) ((G.parts (g := "read_places") (by decide +kernel)).trans e1) e2 rfl e3.symm rfl ?_ rfl e4 e5 e6
  intro name doc pm an ct code vs h
  obtain ⟨a, b, c, rfl⟩ := len3 h
  exact b_read_places ..

noncomputable def F_read_picture (K : Frag) : FnI where
  qual := "read_picture"
  scope := (prt 9).scope
  a := adr K "read_picture"
  cd := cdOf K (adr K "read_picture")
  locs := ["text", "at", "picture"]
  gls := ["Picture", "read_places", "read_ahead", "len"]
  hk := by kernel_rfl
  hnd := by decide +kernel
  hl := by decide +kernel
  hg := by decide +kernel
theorem b_read_picture (name : Str) (doc pm : Value) (an : Option Addr) (ct code a b : Value) : bindArgs (fnOf name (prt 9).qual (prt 9).params (prt 9).body (prt 9).scope .none .none doc pm an code ct) ⟨[a, b], []⟩ = pure (List.zip [Str.ofString "text", Str.ofString "at"] [a, b]) := rfl
theorem D_read_picture (G : Good C ss fns bs fields) : DefAt C (F_read_picture C.K) ["text", "at"] ["picture"] (prt 9).body := by
  have e1 : defIn ss "read_picture" = some (prt 9) := by kernel_rfl
  have e2 : (prt 9).ok = true := by kernel_rfl
  have e3 : (prt 9).qual = "read_picture" := by kernel_rfl
  have e4 : ∀ x ∈ (prt 9).scope.names, x.2 ≠ .cell := by decide +kernel
  have e5 : (prt 9).scope.isCoroutine = false := by kernel_rfl
  have e6 : (prt 9).scope.isGenerator = false := by kernel_rfl
  refine defAt_of (P := prt 9) ((G.parts (g := "read_picture") (by decide +kernel)).trans e1) e2 rfl e3.symm rfl ?_ rfl e4 e5 e6
  intro name doc pm an ct code vs h
  obtain ⟨a, b, rfl⟩ := len2 h
  exact b_read_picture ..

noncomputable def F_read_pieces (K : Frag) : FnI where
  qual := "read_pieces"
  scope := (prt 10).scope
  a := adr K "read_pieces"
  cd := cdOf K (adr K "read_pieces")
  locs := ["text", "found", "plain", "at", "piece", "end"]
  gls := ["len", "piece_at"]
  hk := by kernel_rfl
  hnd := by decide +kernel
  hl := by decide +kernel
  hg := by decide +kernel
theorem b_read_pieces (name : Str) (doc pm : Value) (an : Option Addr) (ct code a : Value) : bindArgs (fnOf name (prt 10).qual (prt 10).params (prt 10).body (prt 10).scope .none .none doc pm an code ct) ⟨[a], []⟩ = pure (List.zip [Str.ofString "text"] [a]) := rfl
theorem D_read_pieces (G : Good C ss fns bs fields) : DefAt C (F_read_pieces C.K) ["text"] ["found", "plain", "at", "piece", "end"] (prt 10).body := by
  have e1 : defIn ss "read_pieces" = some (prt 10) := by kernel_rfl
  have e2 : (prt 10).ok = true := by kernel_rfl
  have e3 : (prt 10).qual = "read_pieces" := by kernel_rfl
  have e4 : ∀ x ∈ (prt 10).scope.names, x.2 ≠ .cell := by decide +kernel
  have e5 : (prt 10).scope.isCoroutine = false := by kernel_rfl
  have e6 : (prt 10).scope.isGenerator = false := by kernel_rfl
  refine defAt_of (P := prt 10) ((G.parts (g := "read_pieces") (by decide +kernel)).trans e1) e2 rfl e3.symm rfl ?_ rfl e4 e5 e6
  intro name doc pm an ct code vs h
  obtain ⟨a, rfl⟩ := len1 h
  exact b_read_pieces ..

noncomputable def F_piece_at (K : Frag) : FnI where
  qual := "piece_at"
  scope := (prt 11).scope
  a := adr K "piece_at"
  cd := cdOf K (adr K "piece_at")
  locs := ["text", "at", "sign", "end"]
  gls := ["begins_number", "read_picture", "len"]
  hk := by kernel_rfl
  hnd := by decide +kernel
  hl := by decide +kernel
  hg := by decide +kernel
theorem b_piece_at (name : Str) (doc pm : Value) (an : Option Addr) (ct code a b : Value) : bindArgs (fnOf name (prt 11).qual (prt 11).params (prt 11).body (prt 11).scope .none .none doc pm an code ct) ⟨[a, b], []⟩ = pure (List.zip [Str.ofString "text", Str.ofString "at"] [a, b]) := rfl
theorem D_piece_at (G : Good C ss fns bs fields) : DefAt C (F_piece_at C.K) ["text", "at"] ["sign", "end"] (prt 11).body := by
  have e1 : defIn ss "piece_at" = some (prt 11) := by kernel_rfl
  have e2 : (prt 11).ok = true := by kernel_rfl
  have e3 : (prt 11).qual = "piece_at" := by kernel_rfl
  have e4 : ∀ x ∈ (prt 11).scope.names, x.2 ≠ .cell := by decide +kernel
  have e5 : (prt 11).scope.isCoroutine = false := by kernel_rfl
  have e6 : (prt 11).scope.isGenerator = false := by kernel_rfl
  refine defAt_of (P := prt 11) ((G.parts (g := "piece_at") (by decide +kernel)).trans e1) e2 rfl e3.symm rfl ?_ rfl e4 e5 e6
  intro name doc pm an ct code vs h
  obtain ⟨a, b, rfl⟩ := len2 h
  exact b_piece_at ..

noncomputable def F_padded_figures (K : Frag) : FnI where
  qual := "padded_figures"
  scope := (prt 12).scope
  a := adr K "padded_figures"
  cd := cdOf K (adr K "padded_figures")
  locs := ["number", "many", "found"]
  gls := ["len"]
  hk := by kernel_rfl
  hnd := by decide +kernel
  hl := by decide +kernel
  hg := by decide +kernel
theorem b_padded_figures (name : Str) (doc pm : Value) (an : Option Addr) (ct code a b : Value) : bindArgs (fnOf name (prt 12).qual (prt 12).params (prt 12).body (prt 12).scope .none .none doc pm an code ct) ⟨[a, b], []⟩ = pure (List.zip [Str.ofString "number", Str.ofString "many"] [a, b]) := rfl
theorem D_padded_figures (G : Good C ss fns bs fields) : DefAt C (F_padded_figures C.K) ["number", "many"] ["found"] (prt 12).body := by
  have e1 : defIn ss "padded_figures" = some (prt 12) := by kernel_rfl
  have e2 : (prt 12).ok = true := by kernel_rfl
  have e3 : (prt 12).qual = "padded_figures" := by kernel_rfl
  have e4 : ∀ x ∈ (prt 12).scope.names, x.2 ≠ .cell := by decide +kernel
  have e5 : (prt 12).scope.isCoroutine = false := by kernel_rfl
  have e6 : (prt 12).scope.isGenerator = false := by kernel_rfl
  refine defAt_of (P := prt 12) ((G.parts (g := "padded_figures") (by decide +kernel)).trans e1) e2 rfl e3.symm rfl ?_ rfl e4 e5 e6
  intro name doc pm an ct code vs h
  obtain ⟨a, b, rfl⟩ := len2 h
  exact b_padded_figures ..

noncomputable def F_scaled (K : Frag) : FnI where
  qual := "scaled"
  scope := (prt 13).scope
  a := adr K "scaled"
  cd := cdOf K (adr K "scaled")
  locs := ["size", "exponent", "places"]
  gls := ["rounded_by"]
  hk := by kernel_rfl
  hnd := by decide +kernel
  hl := by decide +kernel
  hg := by decide +kernel
theorem b_scaled (name : Str) (doc pm : Value) (an : Option Addr) (ct code a b c : Value) : bindArgs (fnOf name (prt 13).qual (prt 13).params (prt 13).body (prt 13).scope .none .none doc pm an code ct) ⟨[a, b, c], []⟩ = pure (List.zip [Str.ofString "size", Str.ofString "exponent", Str.ofString "places"] [a, b, c]) := rfl
theorem D_scaled (G : Good C ss fns bs fields) : DefAt C (F_scaled C.K) ["size", "exponent", "places"] [] (prt 13).body := by
  have e1 : defIn ss "scaled" = some (prt 13) := by kernel_rfl
  have e2 : (prt 13).ok = true := by kernel_rfl
  have e3 : (prt 13).qual = "scaled" := by kernel_rfl
  have e4 : ∀ x ∈ (prt 13).scope.names, x.2 ≠ .cell := by decide +kernel
  have e5 : (prt 13).scope.isCoroutine = false := by kernel_rfl
  have e6 : (prt 13).scope.isGenerator = false := by kernel_rfl
  refine defAt_of (P := prt 13) ((G.parts (g := "scaled") (by decide +kernel)).trans e1) e2 rfl e3.symm rfl ?_ rfl e4 e5 e6
  intro name doc pm an ct code vs h
  obtain ⟨a, b, c, rfl⟩ := len3 h
  exact b_scaled ..

noncomputable def F_grouped (K : Frag) : FnI where
  qual := "grouped"
  scope := (prt 14).scope
  a := adr K "grouped"
  cd := cdOf K (adr K "grouped")
  locs := ["figures", "found"]
  gls := ["len"]
  hk := by kernel_rfl
  hnd := by decide +kernel
  hl := by decide +kernel
  hg := by decide +kernel
theorem b_grouped (name : Str) (doc pm : Value) (an : Option Addr) (ct code a : Value) : bindArgs (fnOf name (prt 14).qual (prt 14).params (prt 14).body (prt 14).scope .none .none doc pm an code ct) ⟨[a], []⟩ = pure (List.zip [Str.ofString "figures"] [a]) := rfl
theorem D_grouped (G : Good C ss fns bs fields) : DefAt C (F_grouped C.K) ["figures"] ["found"] (prt 14).body := by
  have e1 : defIn ss "grouped" = some (prt 14) := by kernel_rfl
  have e2 : (prt 14).ok = true := by kernel_rfl
  have e3 : (prt 14).qual = "grouped" := by kernel_rfl
  have e4 : ∀ x ∈ (prt 14).scope.names, x.2 ≠ .cell := by decide +kernel
  have e5 : (prt 14).scope.isCoroutine = false := by kernel_rfl
  have e6 : (prt 14).scope.isGenerator = false := by kernel_rfl
  refine defAt_of (P := prt 14) ((G.parts (g := "grouped") (by decide +kernel)).trans e1) e2 rfl e3.symm rfl ?_ rfl e4 e5 e6
  intro name doc pm an ct code vs h
  obtain ⟨a, rfl⟩ := len1 h
  exact b_grouped ..

noncomputable def F_split_figures (K : Frag) : FnI where
  qual := "split_figures"
  scope := (prt 15).scope
  a := adr K "split_figures"
  cd := cdOf K (adr K "split_figures")
  locs := ["units", "places", "figures"]
  gls := ["padded_figures", "len"]
  hk := by kernel_rfl
  hnd := by decide +kernel
  hl := by decide +kernel
  hg := by decide +kernel
theorem b_split_figures (name : Str) (doc pm : Value) (an : Option Addr) (ct code a b : Value) : bindArgs (fnOf name (prt 15).qual (prt 15).params (prt 15).body (prt 15).scope .none .none doc pm an code ct) ⟨[a, b], []⟩ = pure (List.zip [Str.ofString "units", Str.ofString "places"] [a, b]) := rfl
theorem D_split_figures (G : Good C ss fns bs fields) : DefAt C (F_split_figures C.K) ["units", "places"] ["figures"] (prt 15).body := by
  have e1 : defIn ss "split_figures" = some (prt 15) := by kernel_rfl
  have e2 : (prt 15).ok = true := by kernel_rfl
  have e3 : (prt 15).qual = "split_figures" := by kernel_rfl
  have e4 : ∀ x ∈ (prt 15).scope.names, x.2 ≠ .cell := by decide +kernel
  have e5 : (prt 15).scope.isCoroutine = false := by kernel_rfl
  have e6 : (prt 15).scope.isGenerator = false := by kernel_rfl
  refine defAt_of (P := prt 15) ((G.parts (g := "split_figures") (by decide +kernel)).trans e1) e2 rfl e3.symm rfl ?_ rfl e4 e5 e6
  intro name doc pm an ct code vs h
  obtain ⟨a, b, rfl⟩ := len2 h
  exact b_split_figures ..

noncomputable def F_with_exponent (K : Frag) : FnI where
  qual := "with_exponent"
  scope := (prt 16).scope
  a := adr K "with_exponent"
  cd := cdOf K (adr K "with_exponent")
  locs := ["picture", "size", "exponent", "places", "many", "lift", "units", "figures", "told"]
  gls := ["max", "figures_of", "scaled", "padded_figures", "abs"]
  hk := by kernel_rfl
  hnd := by decide +kernel
  hl := by decide +kernel
  hg := by decide +kernel
theorem b_with_exponent (name : Str) (doc pm : Value) (an : Option Addr) (ct code a b c : Value) : bindArgs (fnOf name (prt 16).qual (prt 16).params (prt 16).body (prt 16).scope .none .none doc pm an code ct) ⟨[a, b, c], []⟩ = pure (List.zip [Str.ofString "picture", Str.ofString "size", Str.ofString "exponent"] [a, b, c]) := rfl
theorem D_with_exponent (G : Good C ss fns bs fields) : DefAt C (F_with_exponent C.K) ["picture", "size", "exponent"] ["places", "many", "lift", "units", "figures", "told"] (prt 16).body := by
  have e1 : defIn ss "with_exponent" = some (prt 16) := by kernel_rfl
  have e2 : (prt 16).ok = true := by kernel_rfl
  have e3 : (prt 16).qual = "with_exponent" := by kernel_rfl
  have e4 : ∀ x ∈ (prt 16).scope.names, x.2 ≠ .cell := by decide +kernel
  have e5 : (prt 16).scope.isCoroutine = false := by kernel_rfl
  have e6 : (prt 16).scope.isGenerator = false := by kernel_rfl
  refine defAt_of (P := prt 16) ((G.parts (g := "with_exponent") (by decide +kernel)).trans e1) e2 rfl e3.symm rfl ?_ rfl e4 e5 e6
  intro name doc pm an ct code vs h
  obtain ⟨a, b, c, rfl⟩ := len3 h
  exact b_with_exponent ..

noncomputable def F_lead_of (K : Frag) : FnI where
  qual := "lead_of"
  scope := (prt 17).scope
  a := adr K "lead_of"
  cd := cdOf K (adr K "lead_of")
  locs := ["picture", "is_below"]
  gls := []
  hk := by kernel_rfl
  hnd := by decide +kernel
  hl := by decide +kernel
  hg := by decide +kernel
theorem b_lead_of (name : Str) (doc pm : Value) (an : Option Addr) (ct code a b : Value) : bindArgs (fnOf name (prt 17).qual (prt 17).params (prt 17).body (prt 17).scope .none .none doc pm an code ct) ⟨[a, b], []⟩ = pure (List.zip [Str.ofString "picture", Str.ofString "is_below"] [a, b]) := rfl
theorem D_lead_of (G : Good C ss fns bs fields) : DefAt C (F_lead_of C.K) ["picture", "is_below"] [] (prt 17).body := by
  have e1 : defIn ss "lead_of" = some (prt 17) := by kernel_rfl
  have e2 : (prt 17).ok = true := by kernel_rfl
  have e3 : (prt 17).qual = "lead_of" := by kernel_rfl
  have e4 : ∀ x ∈ (prt 17).scope.names, x.2 ≠ .cell := by decide +kernel
  have e5 : (prt 17).scope.isCoroutine = false := by kernel_rfl
  have e6 : (prt 17).scope.isGenerator = false := by kernel_rfl
  refine defAt_of (P := prt 17) ((G.parts (g := "lead_of") (by decide +kernel)).trans e1) e2 rfl e3.symm rfl ?_ rfl e4 e5 e6
  intro name doc pm an ct code vs h
  obtain ⟨a, b, rfl⟩ := len2 h
  exact b_lead_of ..

noncomputable def F_tail_of (K : Frag) : FnI where
  qual := "tail_of"
  scope := (prt 18).scope
  a := adr K "tail_of"
  cd := cdOf K (adr K "tail_of")
  locs := ["picture", "is_below"]
  gls := []
  hk := by kernel_rfl
  hnd := by decide +kernel
  hl := by decide +kernel
  hg := by decide +kernel
theorem b_tail_of (name : Str) (doc pm : Value) (an : Option Addr) (ct code a b : Value) : bindArgs (fnOf name (prt 18).qual (prt 18).params (prt 18).body (prt 18).scope .none .none doc pm an code ct) ⟨[a, b], []⟩ = pure (List.zip [Str.ofString "picture", Str.ofString "is_below"] [a, b]) := rfl
theorem D_tail_of (G : Good C ss fns bs fields) : DefAt C (F_tail_of C.K) ["picture", "is_below"] [] (prt 18).body := by
  have e1 : defIn ss "tail_of" = some (prt 18) := by kernel_rfl
  have e2 : (prt 18).ok = true := by kernel_rfl
  have e3 : (prt 18).qual = "tail_of" := by kernel_rfl
  have e4 : ∀ x ∈ (prt 18).scope.names, x.2 ≠ .cell := by decide +kernel
  have e5 : (prt 18).scope.isCoroutine = false := by kernel_rfl
  have e6 : (prt 18).scope.isGenerator = false := by kernel_rfl
  refine defAt_of (P := prt 18) ((G.parts (g := "tail_of") (by decide +kernel)).trans e1) e2 rfl e3.symm rfl ?_ rfl e4 e5 e6
  intro name doc pm an ct code vs h
  obtain ⟨a, b, rfl⟩ := len2 h
  exact b_tail_of ..

noncomputable def F_number_by (K : Frag) : FnI where
  qual := "number_by"
  scope := (prt 19).scope
  a := adr K "number_by"
  cd := cdOf K (adr K "number_by")
  locs := ["picture", "value", "coefficient", "exponent", "size", "is_below", "told", "ahead", "behind", "lead", "width", "room", "filled", "whole"]
  gls := ["isinstance", "tuple", "abs", "with_exponent", "split_figures", "scaled", "grouped", "lead_of", "len", "tail_of"]
  hk := by kernel_rfl
  hnd := by decide +kernel
  hl := by decide +kernel
  hg := by decide +kernel
theorem b_number_by (name : Str) (doc pm : Value) (an : Option Addr) (ct code a b : Value) : bindArgs (fnOf name (prt 19).qual (prt 19).params (prt 19).body (prt 19).scope .none .none doc pm an code ct) ⟨[a, b], []⟩ = pure (List.zip [Str.ofString "picture", Str.ofString "value"] [a, b]) := rfl
theorem D_number_by (G : Good C ss fns bs fields) : DefAt C (F_number_by C.K) ["picture", "value"] ["coefficient", "exponent", "size", "is_below", "told", "ahead", "behind", "lead", "width", "room", "filled", "whole"] (prt 19).body := by
  have e1 : defIn ss "number_by" = some (prt 19) := by kernel_rfl
  have e2 : (prt 19).ok = true := by kernel_rfl
  have e3 : (prt 19).qual = "number_by" := by kernel_rfl
  have e4 : ∀ x ∈ (prt 19).scope.names, x.2 ≠ .cell := by decide +kernel
  have e5 : (prt 19).scope.isCoroutine = false := by kernel_rfl
  have e6 : (prt 19).scope.isGenerator = false := by kernel_rfl
  refine defAt_of (P := prt 19) ((G.parts (g := "number_by") (by decide +kernel)).trans e1) e2 rfl e3.symm rfl ?_ rfl e4 e5 e6
  intro name doc pm an ct code vs h
  obtain ⟨a, b, rfl⟩ := len2 h
  exact b_number_by ..

noncomputable def F_value_by (K : Frag) : FnI where
  qual := "value_by"
  scope := (prt 20).scope
  a := adr K "value_by"
  cd := cdOf K (adr K "value_by")
  locs := ["piece", "value"]
  gls := ["isinstance", "Picture", "str", "BasicError", "number_by"]
  hk := by kernel_rfl
  hnd := by decide +kernel
  hl := by decide +kernel
  hg := by decide +kernel
theorem b_value_by (name : Str) (doc pm : Value) (an : Option Addr) (ct code a b : Value) : bindArgs (fnOf name (prt 20).qual (prt 20).params (prt 20).body (prt 20).scope .none .none doc pm an code ct) ⟨[a, b], []⟩ = pure (List.zip [Str.ofString "piece", Str.ofString "value"] [a, b]) := rfl
theorem D_value_by (G : Good C ss fns bs fields) : DefAt C (F_value_by C.K) ["piece", "value"] [] (prt 20).body := by
  have e1 : defIn ss "value_by" = some (prt 20) := by kernel_rfl
  have e2 : (prt 20).ok = true := by kernel_rfl
  have e3 : (prt 20).qual = "value_by" := by kernel_rfl
  have e4 : ∀ x ∈ (prt 20).scope.names, x.2 ≠ .cell := by decide +kernel
  have e5 : (prt 20).scope.isCoroutine = false := by kernel_rfl
  have e6 : (prt 20).scope.isGenerator = false := by kernel_rfl
  refine defAt_of (P := prt 20) ((G.parts (g := "value_by") (by decide +kernel)).trans e1) e2 rfl e3.symm rfl ?_ rfl e4 e5 e6
  intro name doc pm an ct code vs h
  obtain ⟨a, b, rfl⟩ := len2 h
  exact b_value_by ..

noncomputable def F_is_plain (K : Frag) : FnI where
  qual := "is_plain"
  scope := (prt 21).scope
  a := adr K "is_plain"
  cd := cdOf K (adr K "is_plain")
  locs := ["piece"]
  gls := ["isinstance", "tuple"]
  hk := by kernel_rfl
  hnd := by decide +kernel
  hl := by decide +kernel
  hg := by decide +kernel
theorem b_is_plain (name : Str) (doc pm : Value) (an : Option Addr) (ct code a : Value) : bindArgs (fnOf name (prt 21).qual (prt 21).params (prt 21).body (prt 21).scope .none .none doc pm an code ct) ⟨[a], []⟩ = pure (List.zip [Str.ofString "piece"] [a]) := rfl
theorem D_is_plain (G : Good C ss fns bs fields) : DefAt C (F_is_plain C.K) ["piece"] [] (prt 21).body := by
  have e1 : defIn ss "is_plain" = some (prt 21) := by kernel_rfl
  have e2 : (prt 21).ok = true := by kernel_rfl
  have e3 : (prt 21).qual = "is_plain" := by kernel_rfl
  have e4 : ∀ x ∈ (prt 21).scope.names, x.2 ≠ .cell := by decide +kernel
  have e5 : (prt 21).scope.isCoroutine = false := by kernel_rfl
  have e6 : (prt 21).scope.isGenerator = false := by kernel_rfl
  refine defAt_of (P := prt 21) ((G.parts (g := "is_plain") (by decide +kernel)).trans e1) e2 rfl e3.symm rfl ?_ rfl e4 e5 e6
  intro name doc pm an ct code vs h
  obtain ⟨a, rfl⟩ := len1 h
  exact b_is_plain ..

noncomputable def F_using_text (K : Frag) : FnI where
  qual := "using_text"
  scope := (prt 22).scope
  a := adr K "using_text"
  cd := cdOf K (adr K "using_text")
  locs := ["text", "values", "pieces", "found", "at", "piece"]
  gls := ["read_pieces", "len", "is_plain", "BasicError", "value_by"]
  hk := by kernel_rfl
  hnd := by decide +kernel
  hl := by decide +kernel
  hg := by decide +kernel
theorem b_using_text (name : Str) (doc pm : Value) (an : Option Addr) (ct code a b : Value) : bindArgs (fnOf name (prt 22).qual (prt 22).params (prt 22).body (prt 22).scope .none .none doc pm an code ct) ⟨[a, b], []⟩ = pure (List.zip [Str.ofString "text", Str.ofString "values"] [a, b]) := rfl
theorem D_using_text (G : Good C ss fns bs fields) : DefAt C (F_using_text C.K) ["text", "values"] ["pieces", "found", "at", "piece"] (prt 22).body := by
  have e1 : defIn ss "using_text" = some (prt 22) := by kernel_rfl
  have e2 : (prt 22).ok = true := by kernel_rfl
  have e3 : (prt 22).qual = "using_text" := by kernel_rfl
  have e4 : ∀ x ∈ (prt 22).scope.names, x.2 ≠ .cell := by decide +kernel
  have e5 : (prt 22).scope.isCoroutine = false := by kernel_rfl
  have e6 : (prt 22).scope.isGenerator = false := by kernel_rfl
  refine defAt_of (P := prt 22) ((G.parts (g := "using_text") (by decide +kernel)).trans e1) e2 rfl e3.symm rfl ?_ rfl e4 e5 e6
  intro name doc pm an ct code vs h
  obtain ⟨a, b, rfl⟩ := len2 h
  exact b_using_text ..

noncomputable def F_law_draw (K : Frag) : FnI where
  qual := "_law_draw"
  scope := (prt 24).scope
  a := adr K "_law_draw"
  cd := cdOf K (adr K "_law_draw")
  locs := ["drawer", "limit"]
  gls := ["len", "abs"]
  hk := by kernel_rfl
  hnd := by decide +kernel
  hl := by decide +kernel
  hg := by decide +kernel
theorem b_law_draw (name : Str) (doc pm : Value) (an : Option Addr) (ct code a b : Value) : bindArgs (fnOf name (prt 24).qual (prt 24).params (prt 24).body (prt 24).scope .none .none doc pm an code ct) ⟨[a, b], []⟩ = pure (List.zip [Str.ofString "drawer", Str.ofString "limit"] [a, b]) := rfl
theorem D_law_draw (G : Good C ss fns bs fields) : DefAt C (F_law_draw C.K) ["drawer", "limit"] [] (prt 24).body := by
  have e1 : defIn ss "_law_draw" = some (prt 24) := by kernel_rfl
  have e2 : (prt 24).ok = true := by kernel_rfl
  have e3 : (prt 24).qual = "_law_draw" := by kernel_rfl
  have e4 : ∀ x ∈ (prt 24).scope.names, x.2 ≠ .cell := by decide +kernel
  have e5 : (prt 24).scope.isCoroutine = false := by kernel_rfl
  have e6 : (prt 24).scope.isGenerator = false := by kernel_rfl
  refine defAt_of (P := prt 24) ((G.parts (g := "_law_draw") (by decide +kernel)).trans e1) e2 rfl e3.symm rfl ?_ rfl e4 e5 e6
  intro name doc pm an ct code vs h
  obtain ⟨a, b, rfl⟩ := len2 h
  exact b_law_draw ..

noncomputable def F_law_picture (K : Frag) : FnI where
  qual := "_law_picture"
  scope := (prt 25).scope
  a := adr K "_law_picture"
  cd := cdOf K (adr K "_law_picture")
  locs := ["drawer", "ahead", "places", "comma", "behind", "power", "tail", "text", "marks", "sign"]
  gls := ["_law_draw", "len"]
  hk := by kernel_rfl
  hnd := by decide +kernel
  hl := by decide +kernel
  hg := by decide +kernel
theorem b_law_picture (name : Str) (doc pm : Value) (an : Option Addr) (ct code a : Value) : bindArgs (fnOf name (prt 25).qual (prt 25).params (prt 25).body (prt 25).scope .none .none doc pm an code ct) ⟨[a], []⟩ = pure (List.zip [Str.ofString "drawer"] [a]) := rfl
theorem D_law_picture (G : Good C ss fns bs fields) : DefAt C (F_law_picture C.K) ["drawer"] ["ahead", "places", "comma", "behind", "power", "tail", "text", "marks", "sign"] (prt 25).body := by
  have e1 : defIn ss "_law_picture" = some (prt 25) := by kernel_rfl
  have e2 : (prt 25).ok = true := by kernel_rfl
  have e3 : (prt 25).qual = "_law_picture" := by kernel_rfl
  have e4 : ∀ x ∈ (prt 25).scope.names, x.2 ≠ .cell := by decide +kernel
  have e5 : (prt 25).scope.isCoroutine = false := by kernel_rfl
  have e6 : (prt 25).scope.isGenerator = false := by kernel_rfl
  refine defAt_of (P := prt 25) ((G.parts (g := "_law_picture") (by decide +kernel)).trans e1) e2 rfl e3.symm rfl ?_ rfl e4 e5 e6
  intro name doc pm an ct code vs h
  obtain ⟨a, rfl⟩ := len1 h
  exact b_law_picture ..

noncomputable def F_law_number (K : Frag) : FnI where
  qual := "_law_number"
  scope := (prt 26).scope
  a := adr K "_law_number"
  cd := cdOf K (adr K "_law_number")
  locs := ["drawer", "size"]
  gls := ["_law_draw"]
  hk := by kernel_rfl
  hnd := by decide +kernel
  hl := by decide +kernel
  hg := by decide +kernel
theorem b_law_number (name : Str) (doc pm : Value) (an : Option Addr) (ct code a : Value) : bindArgs (fnOf name (prt 26).qual (prt 26).params (prt 26).body (prt 26).scope .none .none doc pm an code ct) ⟨[a], []⟩ = pure (List.zip [Str.ofString "drawer"] [a]) := rfl
theorem D_law_number (G : Good C ss fns bs fields) : DefAt C (F_law_number C.K) ["drawer"] ["size"] (prt 26).body := by
  have e1 : defIn ss "_law_number" = some (prt 26) := by kernel_rfl
  have e2 : (prt 26).ok = true := by kernel_rfl
  have e3 : (prt 26).qual = "_law_number" := by kernel_rfl
  have e4 : ∀ x ∈ (prt 26).scope.names, x.2 ≠ .cell := by decide +kernel
  have e5 : (prt 26).scope.isCoroutine = false := by kernel_rfl
  have e6 : (prt 26).scope.isGenerator = false := by kernel_rfl
  refine defAt_of (P := prt 26) ((G.parts (g := "_law_number") (by decide +kernel)).trans e1) e2 rfl e3.symm rfl ?_ rfl e4 e5 e6
  intro name doc pm an ct code vs h
  obtain ⟨a, rfl⟩ := len1 h
  exact b_law_number ..

noncomputable def F_law_turned (K : Frag) : FnI where
  qual := "_law_turned"
  scope := (prt 27).scope
  a := adr K "_law_turned"
  cd := cdOf K (adr K "_law_turned")
  locs := ["value"]
  gls := ["isinstance", "tuple"]
  hk := by kernel_rfl
  hnd := by decide +kernel
  hl := by decide +kernel
  hg := by decide +kernel
theorem b_law_turned (name : Str) (doc pm : Value) (an : Option Addr) (ct code a : Value) : bindArgs (fnOf name (prt 27).qual (prt 27).params (prt 27).body (prt 27).scope .none .none doc pm an code ct) ⟨[a], []⟩ = pure (List.zip [Str.ofString "value"] [a]) := rfl
theorem D_law_turned (G : Good C ss fns bs fields) : DefAt C (F_law_turned C.K) ["value"] [] (prt 27).body := by
  have e1 : defIn ss "_law_turned" = some (prt 27) := by kernel_rfl
  have e2 : (prt 27).ok = true := by kernel_rfl
  have e3 : (prt 27).qual = "_law_turned" := by kernel_rfl
  have e4 : ∀ x ∈ (prt 27).scope.names, x.2 ≠ .cell := by decide +kernel
  have e5 : (prt 27).scope.isCoroutine = false := by kernel_rfl
  have e6 : (prt 27).scope.isGenerator = false := by kernel_rfl
  refine defAt_of (P := prt 27) ((G.parts (g := "_law_turned") (by decide +kernel)).trans e1) e2 rfl e3.symm rfl ?_ rfl e4 e5 e6
  intro name doc pm an ct code vs h
  obtain ⟨a, rfl⟩ := len1 h
  exact b_law_turned ..

noncomputable def F_law_longer (K : Frag) : FnI where
  qual := "_law_longer"
  scope := (prt 28).scope
  a := adr K "_law_longer"
  cd := cdOf K (adr K "_law_longer")
  locs := ["value"]
  gls := ["isinstance", "tuple"]
  hk := by kernel_rfl
  hnd := by decide +kernel
  hl := by decide +kernel
  hg := by decide +kernel
theorem b_law_longer (name : Str) (doc pm : Value) (an : Option Addr) (ct code a : Value) : bindArgs (fnOf name (prt 28).qual (prt 28).params (prt 28).body (prt 28).scope .none .none doc pm an code ct) ⟨[a], []⟩ = pure (List.zip [Str.ofString "value"] [a]) := rfl
theorem D_law_longer (G : Good C ss fns bs fields) : DefAt C (F_law_longer C.K) ["value"] [] (prt 28).body := by
  have e1 : defIn ss "_law_longer" = some (prt 28) := by kernel_rfl
  have e2 : (prt 28).ok = true := by kernel_rfl
  have e3 : (prt 28).qual = "_law_longer" := by kernel_rfl
  have e4 : ∀ x ∈ (prt 28).scope.names, x.2 ≠ .cell := by decide +kernel
  have e5 : (prt 28).scope.isCoroutine = false := by kernel_rfl
  have e6 : (prt 28).scope.isGenerator = false := by kernel_rfl
  refine defAt_of (P := prt 28) ((G.parts (g := "_law_longer") (by decide +kernel)).trans e1) e2 rfl e3.symm rfl ?_ rfl e4 e5 e6
  intro name doc pm an ct code vs h
  obtain ⟨a, rfl⟩ := len1 h
  exact b_law_longer ..

noncomputable def F_law_read_right (K : Frag) : FnI where
  qual := "_law_read_right"
  scope := (prt 29).scope
  a := adr K "_law_read_right"
  cd := cdOf K (adr K "_law_read_right")
  locs := ["text", "due", "pieces", "one", "found"]
  gls := ["read_pieces", "len", "read_picture"]
  hk := by kernel_rfl
  hnd := by decide +kernel
  hl := by decide +kernel
  hg := by decide +kernel
theorem b_law_read_right (name : Str) (doc pm : Value) (an : Option Addr) (ct code a b : Value) : bindArgs (fnOf name (prt 29).qual (prt 29).params (prt 29).body (prt 29).scope .none .none doc pm an code ct) ⟨[a, b], []⟩ = pure (List.zip [Str.ofString "text", Str.ofString "due"] [a, b]) := rfl
theorem D_law_read_right (G : Good C ss fns bs fields) : DefAt C (F_law_read_right C.K) ["text", "due"] ["pieces", "one", "found"] (prt 29).body := by
  have e1 : defIn ss "_law_read_right" = some (prt 29) := by kernel_rfl
  have e2 : (prt 29).ok = true := by kernel_rfl
  have e3 : (prt 29).qual = "_law_read_right" := by kernel_rfl
  have e4 : ∀ x ∈ (prt 29).scope.names, x.2 ≠ .cell := by decide +kernel
  have e5 : (prt 29).scope.isCoroutine = false := by kernel_rfl
  have e6 : (prt 29).scope.isGenerator = false := by kernel_rfl
  refine defAt_of (P := prt 29) ((G.parts (g := "_law_read_right") (by decide +kernel)).trans e1) e2 rfl e3.symm rfl ?_ rfl e4 e5 e6
  intro name doc pm an ct code vs h
  obtain ⟨a, b, rfl⟩ := len2 h
  exact b_law_read_right ..

noncomputable def F_law_made_right (K : Frag) : FnI where
  qual := "_law_made_right"
  scope := (prt 30).scope
  a := adr K "_law_made_right"
  cd := cdOf K (adr K "_law_made_right")
  locs := ["text", "due", "value", "picture", "above", "below", "made_text", "more", "ends"]
  gls := ["read_pieces", "number_by", "_law_turned", "len", "_law_longer"]
  hk := by kernel_rfl
  hnd := by decide +kernel
  hl := by decide +kernel
  hg := by decide +kernel
theorem b_law_made_right (name : Str) (doc pm : Value) (an : Option Addr) (ct code a b c : Value) : bindArgs (fnOf name (prt 30).qual (prt 30).params (prt 30).body (prt 30).scope .none .none doc pm an code ct) ⟨[a, b, c], []⟩ = pure (List.zip [Str.ofString "text", Str.ofString "due", Str.ofString "value"] [a, b, c]) := rfl
theorem D_law_made_right (G : Good C ss fns bs fields) : DefAt C (F_law_made_right C.K) ["text", "due", "value"] ["picture", "above", "below", "made_text", "more", "ends"] (prt 30).body := by
  have e1 : defIn ss "_law_made_right" = some (prt 30) := by kernel_rfl
  have e2 : (prt 30).ok = true := by kernel_rfl
  have e3 : (prt 30).qual = "_law_made_right" := by kernel_rfl
  have e4 : ∀ x ∈ (prt 30).scope.names, x.2 ≠ .cell := by decide +kernel
  have e5 : (prt 30).scope.isCoroutine = false := by kernel_rfl
  have e6 : (prt 30).scope.isGenerator = false := by kernel_rfl
  refine defAt_of (P := prt 30) ((G.parts (g := "_law_made_right") (by decide +kernel)).trans e1) e2 rfl e3.symm rfl ?_ rfl e4 e5 e6
  intro name doc pm an ct code vs h
  obtain ⟨a, b, c, rfl⟩ := len3 h
  exact b_law_made_right ..

noncomputable def prtI : Parts := ((defIn (clsBody ss "Picture") "__init__").map fun p => { p with qual := "Picture.__init__" }).getD default
noncomputable def F_init (K : Frag) : FnI where
  qual := "Picture.__init__"
  scope := prtI.scope
  a := initAt K (adr K "Picture")
  cd := cdOf K (initAt K (adr K "Picture"))
  locs := ["self"]
  gls := []
  hk := by kernel_rfl
  hnd := by decide +kernel
  hl := by decide +kernel
  hg := by decide +kernel
theorem b_init (name : Str) (doc pm : Value) (an : Option Addr) (ct code a : Value) : bindArgs (fnOf name prtI.qual prtI.params prtI.body prtI.scope .none .none doc pm an code ct) ⟨[a], []⟩ = pure (List.zip [Str.ofString "self"] [a]) := rfl
theorem D_init (G : Good C ss fns bs fields) : DefAt C (F_init C.K) ["self"] [] prtI.body := by
  have e0 : (defIn (clsBody ss "Picture") "__init__").map (fun p => { p with qual := ("Picture.__init__" : Str) }) = some prtI := by kernel_rfl
  have e2 : prtI.ok = true := by kernel_rfl
  have e3 : prtI.qual = "Picture.__init__" := by kernel_rfl
  have e4 : ∀ x ∈ prtI.scope.names, x.2 ≠ .cell := by decide +kernel
  have e5 : prtI.scope.isCoroutine = false := by kernel_rfl
  have e6 : prtI.scope.isGenerator = false := by kernel_rfl
  have e1 : partsAt C.K (initAt C.K (adr C.K "Picture")) = some prtI := (congrArg (fun x => x.2.2) G.obs).trans e0
  refine defAt_of (P := prtI) e1 e2 rfl e3.symm rfl ?_ rfl e4 e5 e6
  intro name doc pm an ct code vs h
  obtain ⟨a, rfl⟩ := len1 h
  exact b_init ..
end Mine
end
section
open PySem PySem.W PyProof.Rows
set_option Elab.async false
set_option maxRecDepth 100000
set_option linter.unusedVariables false
namespace Mine
noncomputable def B_figures_of_2 : PB :=
    (.ret (.var 1 "many") .nil)
noncomputable def B_figures_of_1 : PB :=
    (.loop (.cmp .LtE (.var 2 "bound") (.var 0 "number"))
      (.aug 2 "bound" .Mult (.int 10)
      (.aug 1 "many" .Add (.int 1)
      .nil))
    B_figures_of_2)
noncomputable def B_figures_of : PB :=
    (.asg2 1 "many" 2 "bound" (.tup (.cons (.int 1) (.cons (.int 10) .nil)))
    B_figures_of_1)
theorem C_figures_of : okB ⟨["number", "many", "bound"], [], fns, bs⟩ B_figures_of (prt 2).body = true ∧ rebB B_figures_of (prt 2).body = (prt 2).body := ⟨by kernel_rfl, by kernel_rfl⟩
noncomputable def B_rounded_by_5 : PB :=
    (.ret (.var 3 "found") .nil)
noncomputable def B_rounded_by_4 : PB :=
    (.ifs (.or (.cmp .Gt (.bin .Mult (.int 2) (.var 4 "rest")) (.var 2 "unit")) (.and (.cmp .Eq (.bin .Mult (.int 2) (.var 4 "rest")) (.var 2 "unit")) (.cmp .Eq (.bin .Mod (.var 3 "found") (.int 2)) (.int 1))))
      (.aug 3 "found" .Add (.int 1)
      .nil)
      .nil
    B_rounded_by_5)
noncomputable def B_rounded_by_3 : PB :=
    (.asg2 3 "found" 4 "rest" (.tup (.cons (.bin .FloorDiv (.var 0 "number") (.var 2 "unit")) (.cons (.bin .Mod (.var 0 "number") (.var 2 "unit")) .nil)))
    B_rounded_by_4)
noncomputable def B_rounded_by_2 : PB :=
    (.asg 2 "unit" (.bin .Pow (.int 10) (.var 1 "places"))
    B_rounded_by_3)
noncomputable def B_rounded_by_1 : PB :=
    (.ifs (.cmp .Gt (.var 1 "places") (.bin .Add (.call "figures_of" (.cons (.var 0 "number") .nil)) (.int 1)))
      (.ret (.int 0) .nil)
      .nil
    B_rounded_by_2)
noncomputable def B_rounded_by : PB :=
    (.ifs (.cmp .LtE (.var 1 "places") (.int 0))
      (.ret (.var 0 "number") .nil)
      .nil
    B_rounded_by_1)
theorem C_rounded_by : okB ⟨["number", "places", "unit", "found", "rest"], ["figures_of"], fns, bs⟩ B_rounded_by (prt 3).body = true ∧ rebB B_rounded_by (prt 3).body = (prt 3).body := ⟨by kernel_rfl, by kernel_rfl⟩
noncomputable def B_begins_number_1 : PB :=
    (.ret (.or (.cmp .Eq (.slice (.var 0 "text") (.var 1 "at") (.bin .Add (.var 1 "at") (.int 1))) (.str [35])) (.cmp .In (.slice (.var 0 "text") (.var 1 "at") (.bin .Add (.var 1 "at") (.int 2))) (.tup (.cons (.str [42, 42]) (.cons (.str [36, 36]) (.cons (.str [46, 35]) .nil)))))) .nil)
noncomputable def B_begins_number : PB :=
    (.ifs (.cmp .Eq (.slice (.var 0 "text") (.var 1 "at") (.bin .Add (.var 1 "at") (.int 1))) (.str [43]))
      (.asg 1 "at" (.bin .Add (.var 1 "at") (.int 1))
      .nil)
      .nil
    B_begins_number_1)
theorem C_begins_number : okB ⟨["text", "at"], [], fns, bs⟩ B_begins_number (prt 6).body = true ∧ rebB B_begins_number (prt 6).body = (prt 6).body := ⟨by kernel_rfl, by kernel_rfl⟩
noncomputable def B_read_ahead_2 : PB :=
    (.ret (.var 2 "at") .nil)
noncomputable def B_read_ahead_1 : PB :=
    (.ifs (.cmp .Eq (.slice (.var 1 "text") (.var 2 "at") (.bin .Add (.var 2 "at") (.int 2))) (.str [42, 42]))
      (.asgT (.cons (.attr (.var 0 "picture") "has_star") (.cons (.attr (.var 0 "picture") "left") (.cons (.name 2 "at") .nil))) (.tup (.cons (.bool true) (.cons (.int 2) (.cons (.bin .Add (.var 2 "at") (.int 2)) .nil))))
      (.ifs (.cmp .Eq (.slice (.var 1 "text") (.var 2 "at") (.bin .Add (.var 2 "at") (.int 1))) (.str [36]))
        (.asgT (.cons (.attr (.var 0 "picture") "has_dollar") (.cons (.attr (.var 0 "picture") "left") (.cons (.name 2 "at") .nil))) (.tup (.cons (.bool true) (.cons (.int 3) (.cons (.bin .Add (.var 2 "at") (.int 1)) .nil))))
        .nil)
        .nil
      .nil))
      (.ifs (.cmp .Eq (.slice (.var 1 "text") (.var 2 "at") (.bin .Add (.var 2 "at") (.int 2))) (.str [36, 36]))
        (.asgT (.cons (.attr (.var 0 "picture") "has_dollar") (.cons (.attr (.var 0 "picture") "left") (.cons (.name 2 "at") .nil))) (.tup (.cons (.bool true) (.cons (.int 2) (.cons (.bin .Add (.var 2 "at") (.int 2)) .nil))))
        .nil)
        .nil
      .nil)
    B_read_ahead_2)
noncomputable def B_read_ahead : PB :=
    (.ifs (.cmp .Eq (.slice (.var 1 "text") (.var 2 "at") (.bin .Add (.var 2 "at") (.int 1))) (.str [43]))
      (.asgT (.cons (.attr (.var 0 "picture") "sign") (.cons (.name 2 "at") .nil)) (.tup (.cons (.str [43, 97, 104, 101, 97, 100]) (.cons (.bin .Add (.var 2 "at") (.int 1)) .nil)))
      .nil)
      .nil
    B_read_ahead_1)
theorem C_read_ahead : okB ⟨["picture", "text", "at"], [], fns, bs⟩ B_read_ahead (prt 7).body = true ∧ rebB B_read_ahead (prt 7).body = (prt 7).body := ⟨by kernel_rfl, by kernel_rfl⟩
noncomputable def B_read_places_2 : PB :=
    (.ret (.var 2 "at") .nil)
noncomputable def B_read_places_1 : PB :=
    (.ifs (.cmp .Eq (.slice (.var 1 "text") (.var 2 "at") (.bin .Add (.var 2 "at") (.int 1))) (.str [46]))
      (.asgT (.cons (.attr (.var 0 "picture") "has_point") (.cons (.name 2 "at") .nil)) (.tup (.cons (.bool true) (.cons (.bin .Add (.var 2 "at") (.int 1)) .nil)))
      (.loop (.cmp .Eq (.slice (.var 1 "text") (.var 2 "at") (.bin .Add (.var 2 "at") (.int 1))) (.str [35]))
        (.asgT (.cons (.attr (.var 0 "picture") "right") (.cons (.name 2 "at") .nil)) (.tup (.cons (.bin .Add (.attr (.var 0 "picture") "right") (.int 1)) (.cons (.bin .Add (.var 2 "at") (.int 1)) .nil)))
        .nil)
      .nil))
      .nil
    B_read_places_2)
noncomputable def B_read_places : PB :=
    (.loop (.and (.cmp .In (.slice (.var 1 "text") (.var 2 "at") (.bin .Add (.var 2 "at") (.int 1))) (.tup (.cons (.str [35]) (.cons (.str [44]) .nil)))) (.cmp .Lt (.var 2 "at") (.len (.var 1 "text"))))
      (.attr (.var 0 "picture") "has_comma" (.or (.attr (.var 0 "picture") "has_comma") (.cmp .Eq (.idx (.var 1 "text") (.var 2 "at")) (.str [44])))
      (.asgT (.cons (.attr (.var 0 "picture") "left") (.cons (.name 2 "at") .nil)) (.tup (.cons (.bin .Add (.attr (.var 0 "picture") "left") (.int 1)) (.cons (.bin .Add (.var 2 "at") (.int 1)) .nil)))
      .nil))
    B_read_places_1)
theorem C_read_places : okB ⟨["picture", "text", "at"], ["len"], fns, bs⟩ B_read_places (prt 8).body = true ∧ rebB B_read_places (prt 8).body = (prt 8).body := ⟨by kernel_rfl, by kernel_rfl⟩
noncomputable def B_read_picture_4 : PB :=
    (.ret (.tup (.cons (.var 2 "picture") (.cons (.var 1 "at") .nil))) .nil)
noncomputable def B_read_picture_3 : PB :=
    (.ifs (.and (.cmp .Eq (.attr (.var 2 "picture") "sign") (.str [])) (.and (.cmp .In (.slice (.var 0 "text") (.var 1 "at") (.bin .Add (.var 1 "at") (.int 1))) (.tup (.cons (.str [43]) (.cons (.str [45]) .nil)))) (.cmp .Lt (.var 1 "at") (.len (.var 0 "text")))))
      (.asgT (.cons (.attr (.var 2 "picture") "sign") (.cons (.name 1 "at") .nil)) (.tup (.cons (.bin .Add (.idx (.var 0 "text") (.var 1 "at")) (.str [98, 101, 104, 105, 110, 100])) (.cons (.bin .Add (.var 1 "at") (.int 1)) .nil)))
      .nil)
      .nil
    B_read_picture_4)
noncomputable def B_read_picture_2 : PB :=
    (.ifs (.cmp .Eq (.slice (.var 0 "text") (.var 1 "at") (.bin .Add (.var 1 "at") (.int 4))) (.str [94, 94, 94, 94]))
      (.asgT (.cons (.attr (.var 2 "picture") "has_exponent") (.cons (.name 1 "at") .nil)) (.tup (.cons (.bool true) (.cons (.bin .Add (.var 1 "at") (.int 4)) .nil)))
      .nil)
      .nil
    B_read_picture_3)
noncomputable def B_read_picture_1 : PB :=
    (.asg 1 "at" (.call "read_places" (.cons (.var 2 "picture") (.cons (.var 0 "text") (.cons (.call "read_ahead" (.cons (.var 2 "picture") (.cons (.var 0 "text") (.cons (.var 1 "at") .nil)))) .nil))))
    B_read_picture_2)
noncomputable def B_read_picture : PB :=
    (.asg 2 "picture" .newPic
    B_read_picture_1)
theorem C_read_picture : okB ⟨["text", "at", "picture"], ["Picture", "read_places", "read_ahead", "len"], fns, bs⟩ B_read_picture (prt 9).body = true ∧ rebB B_read_picture (prt 9).body = (prt 9).body := ⟨by kernel_rfl, by kernel_rfl⟩
noncomputable def B_read_pieces_2 : PB :=
    (.ret (.cat (.var 1 "found") (.ife (.cmp .NotEq (.var 2 "plain") (.str [])) (.lst (.cons (.tup (.cons (.str [112, 108, 97, 105, 110]) (.cons (.var 2 "plain") .nil))) .nil)) (.lst .nil))) .nil)
noncomputable def B_read_pieces_1 : PB :=
    (.loop (.cmp .Lt (.var 3 "at") (.len (.var 0 "text")))
      (.asg2 4 "piece" 5 "end" (.call "piece_at" (.cons (.var 0 "text") (.cons (.var 3 "at") .nil)))
      (.ifs (.cmp .Is (.var 4 "piece") .none)
        (.asg 2 "plain" (.bin .Add (.var 2 "plain") (.idx (.var 0 "text") (.bin .Sub (.var 5 "end") (.int 1))))
        .nil)
        (.ext 1 "found" (.ife (.cmp .NotEq (.var 2 "plain") (.str [])) (.lst (.cons (.tup (.cons (.str [112, 108, 97, 105, 110]) (.cons (.var 2 "plain") .nil))) .nil)) (.lst .nil))
        (.app 1 "found" (.var 4 "piece")
        (.asg 2 "plain" (.str [])
        .nil)))
      (.asg 3 "at" (.var 5 "end")
      .nil)))
    B_read_pieces_2)
noncomputable def B_read_pieces : PB :=
    (.asg3 1 "found" 2 "plain" 3 "at" (.tup (.cons (.lst .nil) (.cons (.str []) (.cons (.int 0) .nil))))
    B_read_pieces_1)
theorem C_read_pieces : okB ⟨["text", "found", "plain", "at", "piece", "end"], ["len", "piece_at"], fns, bs⟩ B_read_pieces (prt 10).body = true ∧ rebB B_read_pieces (prt 10).body = (prt 10).body := ⟨by kernel_rfl, by kernel_rfl⟩
noncomputable def B_piece_at_8 : PB :=
    (.ret (.tup (.cons .none (.cons (.bin .Add (.var 1 "at") (.int 1)) .nil))) .nil)
noncomputable def B_piece_at_7 : PB :=
    (.ifs (.and (.cmp .Eq (.var 2 "sign") (.str [92])) (.cmp .Eq (.slice (.var 0 "text") (.var 3 "end") (.bin .Add (.var 3 "end") (.int 1))) (.str [92])))
      (.ret (.tup (.cons (.tup (.cons (.str [119, 105, 100, 101]) (.cons (.bin .Sub (.bin .Add (.var 3 "end") (.int 1)) (.var 1 "at")) .nil))) (.cons (.bin .Add (.var 3 "end") (.int 1)) .nil))) .nil)
      .nil
    B_piece_at_8)
noncomputable def B_piece_at_6 : PB :=
    (.loop (.and (.cmp .Eq (.var 2 "sign") (.str [92])) (.cmp .Eq (.slice (.var 0 "text") (.var 3 "end") (.bin .Add (.var 3 "end") (.int 1))) (.str [32])))
      (.asg 3 "end" (.bin .Add (.var 3 "end") (.int 1))
      .nil)
    B_piece_at_7)
noncomputable def B_piece_at_5 : PB :=
    (.asg 3 "end" (.bin .Add (.var 1 "at") (.int 1))
    B_piece_at_6)
noncomputable def B_piece_at_4 : PB :=
    (.ifs (.and (.cmp .Eq (.var 2 "sign") (.str [95])) (.cmp .Lt (.bin .Add (.var 1 "at") (.int 1)) (.len (.var 0 "text"))))
      (.ret (.tup (.cons .none (.cons (.bin .Add (.var 1 "at") (.int 2)) .nil))) .nil)
      .nil
    B_piece_at_5)
noncomputable def B_piece_at_3 : PB :=
    (.ifs (.cmp .Eq (.var 2 "sign") (.str [38]))
      (.ret (.tup (.cons (.tup (.cons (.str [119, 104, 111, 108, 101]) .nil)) (.cons (.bin .Add (.var 1 "at") (.int 1)) .nil))) .nil)
      .nil
    B_piece_at_4)
noncomputable def B_piece_at_2 : PB :=
    (.ifs (.cmp .Eq (.var 2 "sign") (.str [33]))
      (.ret (.tup (.cons (.tup (.cons (.str [102, 105, 114, 115, 116]) .nil)) (.cons (.bin .Add (.var 1 "at") (.int 1)) .nil))) .nil)
      .nil
    B_piece_at_3)
noncomputable def B_piece_at_1 : PB :=
    (.ifs (.call "begins_number" (.cons (.var 0 "text") (.cons (.var 1 "at") .nil)))
      (.ret (.call "read_picture" (.cons (.var 0 "text") (.cons (.var 1 "at") .nil))) .nil)
      .nil
    B_piece_at_2)
noncomputable def B_piece_at : PB :=
    (.asg 2 "sign" (.idx (.var 0 "text") (.var 1 "at"))
    B_piece_at_1)
theorem C_piece_at : okB ⟨["text", "at", "sign", "end"], ["begins_number", "read_picture", "len"], fns, bs⟩ B_piece_at (prt 11).body = true ∧ rebB B_piece_at (prt 11).body = (prt 11).body := ⟨by kernel_rfl, by kernel_rfl⟩
noncomputable def B_padded_figures_2 : PB :=
    (.ret (.var 2 "found") .nil)
noncomputable def B_padded_figures_1 : PB :=
    (.loop (.or (.cmp .Gt (.var 0 "number") (.int 0)) (.cmp .Lt (.len (.var 2 "found")) (.var 1 "many")))
      (.asg2 2 "found" 0 "number" (.tup (.cons (.bin .Add (.idx (.str [48, 49, 50, 51, 52, 53, 54, 55, 56, 57]) (.bin .Mod (.var 0 "number") (.int 10))) (.var 2 "found")) (.cons (.bin .FloorDiv (.var 0 "number") (.int 10)) .nil)))
      .nil)
    B_padded_figures_2)
noncomputable def B_padded_figures : PB :=
    (.asg 2 "found" (.str [])
    B_padded_figures_1)
theorem C_padded_figures : okB ⟨["number", "many", "found"], ["len"], fns, bs⟩ B_padded_figures (prt 12).body = true ∧ rebB B_padded_figures (prt 12).body = (prt 12).body := ⟨by kernel_rfl, by kernel_rfl⟩
noncomputable def B_scaled_1 : PB :=
    (.ret (.call "rounded_by" (.cons (.var 0 "size") (.cons (.bin .Sub (.neg (.var 1 "exponent")) (.var 2 "places")) .nil))) .nil)
noncomputable def B_scaled : PB :=
    (.ifs (.cmp .GtE (.bin .Add (.var 1 "exponent") (.var 2 "places")) (.int 0))
      (.ret (.bin .Mult (.var 0 "size") (.bin .Pow (.int 10) (.bin .Add (.var 1 "exponent") (.var 2 "places")))) .nil)
      .nil
    B_scaled_1)
theorem C_scaled : okB ⟨["size", "exponent", "places"], ["rounded_by"], fns, bs⟩ B_scaled (prt 13).body = true ∧ rebB B_scaled (prt 13).body = (prt 13).body := ⟨by kernel_rfl, by kernel_rfl⟩
noncomputable def B_grouped_2 : PB :=
    (.ret (.var 1 "found") .nil)
noncomputable def B_grouped_1 : PB :=
    (.loop (.cmp .Gt (.len (.var 0 "figures")) (.int 3))
      (.asg 0 "figures" (.slice (.var 0 "figures") .none (.neg (.int 3)))
      (.asg 1 "found" (.bin .Add (.bin .Add (.slice (.var 0 "figures") (.neg (.int 3)) .none) (.str [44])) (.var 1 "found"))
      .nil))
    B_grouped_2)
noncomputable def B_grouped : PB :=
    (.asg 1 "found" (.slice (.var 0 "figures") (.neg (.int 3)) .none)
    B_grouped_1)
theorem C_grouped : okB ⟨["figures", "found"], ["len"], fns, bs⟩ B_grouped (prt 14).body = true ∧ rebB B_grouped (prt 14).body = (prt 14).body := ⟨by kernel_rfl, by kernel_rfl⟩
noncomputable def B_split_figures_1 : PB :=
    (.ret (.tup (.cons (.slice (.var 2 "figures") .none (.bin .Sub (.len (.var 2 "figures")) (.var 1 "places"))) (.cons (.slice (.var 2 "figures") (.bin .Sub (.len (.var 2 "figures")) (.var 1 "places")) .none) .nil))) .nil)
noncomputable def B_split_figures : PB :=
    (.asg 2 "figures" (.call "padded_figures" (.cons (.var 0 "units") (.cons (.bin .Add (.var 1 "places") (.int 1)) .nil)))
    B_split_figures_1)
theorem C_split_figures : okB ⟨["units", "places", "figures"], ["padded_figures", "len"], fns, bs⟩ B_split_figures (prt 15).body = true ∧ rebB B_split_figures (prt 15).body = (prt 15).body := ⟨by kernel_rfl, by kernel_rfl⟩
noncomputable def B_with_exponent_8 : PB :=
    (.ret (.tup (.cons (.slice (.var 7 "figures") .none (.var 3 "places")) (.cons (.slice (.var 7 "figures") (.var 3 "places") .none) (.cons (.var 8 "told") .nil)))) .nil)
noncomputable def B_with_exponent_7 : PB :=
    (.asg 8 "told" (.bin .Add (.bin .Add (.str [69]) (.ifj (.cmp .Lt (.var 5 "lift") (.int 0)) (.str [45]) (.str [43]))) (.call "padded_figures" (.cons (.abs (.var 5 "lift")) (.cons (.int 2) .nil))))
    B_with_exponent_8)
noncomputable def B_with_exponent_6 : PB :=
    (.asg 7 "figures" (.call "padded_figures" (.cons (.var 6 "units") (.cons (.var 4 "many") .nil)))
    B_with_exponent_7)
noncomputable def B_with_exponent_5 : PB :=
    (.ifs (.cmp .GtE (.var 6 "units") (.bin .Pow (.int 10) (.var 4 "many")))
      (.asg 5 "lift" (.bin .Add (.var 5 "lift") (.int 1))
      (.asg 6 "units" (.call "scaled" (.cons (.var 1 "size") (.cons (.bin .Sub (.var 2 "exponent") (.var 5 "lift")) (.cons (.attr (.var 0 "picture") "right") .nil))))
      .nil))
      .nil
    B_with_exponent_6)
noncomputable def B_with_exponent_4 : PB :=
    (.asg 6 "units" (.call "scaled" (.cons (.var 1 "size") (.cons (.bin .Sub (.var 2 "exponent") (.var 5 "lift")) (.cons (.attr (.var 0 "picture") "right") .nil))))
    B_with_exponent_5)
noncomputable def B_with_exponent_3 : PB :=
    (.asg 5 "lift" (.bin .Sub (.bin .Add (.var 2 "exponent") (.call "figures_of" (.cons (.var 1 "size") .nil))) (.var 3 "places"))
    B_with_exponent_4)
noncomputable def B_with_exponent_2 : PB :=
    (.ifs (.cmp .Eq (.var 1 "size") (.int 0))
      (.ret (.tup (.cons (.bin .Mult (.str [48]) (.var 3 "places")) (.cons (.bin .Mult (.str [48]) (.attr (.var 0 "picture") "right")) (.cons (.str [69, 43, 48, 48]) .nil)))) .nil)
      .nil
    B_with_exponent_3)
noncomputable def B_with_exponent_1 : PB :=
    (.asg 4 "many" (.bin .Add (.var 3 "places") (.attr (.var 0 "picture") "right"))
    B_with_exponent_2)
noncomputable def B_with_exponent : PB :=
    (.asg 3 "places" (.max (.bin .Sub (.attr (.var 0 "picture") "left") (.ifj (.cmp .Eq (.attr (.var 0 "picture") "sign") (.str [])) (.int 1) (.int 0))) (.int 0))
    B_with_exponent_1)
theorem C_with_exponent : okB ⟨["picture", "size", "exponent", "places", "many", "lift", "units", "figures", "told"], ["max", "figures_of", "scaled", "padded_figures", "abs"], fns, bs⟩ B_with_exponent (prt 16).body = true ∧ rebB B_with_exponent (prt 16).body = (prt 16).body := ⟨by kernel_rfl, by kernel_rfl⟩
noncomputable def B_lead_of_1 : PB :=
    (.ret (.ifj (.and (.cmp .Eq (.attr (.var 0 "picture") "sign") (.str [])) (.var 1 "is_below")) (.str [45]) (.str [])) .nil)
noncomputable def B_lead_of : PB :=
    (.ifs (.cmp .Eq (.attr (.var 0 "picture") "sign") (.str [43, 97, 104, 101, 97, 100]))
      (.ret (.ifj (.var 1 "is_below") (.str [45]) (.str [43])) .nil)
      .nil
    B_lead_of_1)
theorem C_lead_of : okB ⟨["picture", "is_below"], [], fns, bs⟩ B_lead_of (prt 17).body = true ∧ rebB B_lead_of (prt 17).body = (prt 17).body := ⟨by kernel_rfl, by kernel_rfl⟩
noncomputable def B_tail_of_1 : PB :=
    (.ret (.str []) .nil)
noncomputable def B_tail_of : PB :=
    (.ifs (.cmp .In (.attr (.var 0 "picture") "sign") (.tup (.cons (.str [43, 98, 101, 104, 105, 110, 100]) (.cons (.str [45, 98, 101, 104, 105, 110, 100]) .nil))))
      (.ret (.ifj (.var 1 "is_below") (.str [45]) (.ifj (.cmp .Eq (.attr (.var 0 "picture") "sign") (.str [43, 98, 101, 104, 105, 110, 100])) (.str [43]) (.str [32]))) .nil)
      .nil
    B_tail_of_1)
theorem C_tail_of : okB ⟨["picture", "is_below"], [], fns, bs⟩ B_tail_of (prt 18).body = true ∧ rebB B_tail_of (prt 18).body = (prt 18).body := ⟨by kernel_rfl, by kernel_rfl⟩
noncomputable def B_number_by_10 : PB :=
    (.ret (.ife (.cmp .Lt (.var 11 "room") (.int 0)) (.bin .Add (.str [37]) (.var 13 "whole")) (.var 13 "whole")) .nil)
noncomputable def B_number_by_9 : PB :=
    (.asg 13 "whole" (.bin .Add (.bin .Add (.bin .Add (.bin .Add (.var 12 "filled") (.ifj (.attr (.var 0 "picture") "has_point") (.str [46]) (.str []))) (.var 8 "behind")) (.var 6 "told")) (.call "tail_of" (.cons (.var 0 "picture") (.cons (.var 5 "is_below") .nil))))
    B_number_by_10)
noncomputable def B_number_by_8 : PB :=
    (.asg 12 "filled" (.bin .Add (.bin .Add (.bin .Mult (.ifj (.attr (.var 0 "picture") "has_star") (.str [42]) (.str [32])) (.var 11 "room")) (.var 9 "lead")) (.var 7 "ahead"))
    B_number_by_9)
noncomputable def B_number_by_7 : PB :=
    (.asg 11 "room" (.bin .Sub (.var 10 "width") (.len (.bin .Add (.var 9 "lead") (.var 7 "ahead"))))
    B_number_by_8)
noncomputable def B_number_by_6 : PB :=
    (.ifs (.and (.cmp .Gt (.len (.bin .Add (.var 9 "lead") (.var 7 "ahead"))) (.var 10 "width")) (.and (.cmp .Eq (.var 7 "ahead") (.str [48])) (.cmp .NotEq (.var 8 "behind") (.str []))))
      (.asg 7 "ahead" (.str [])
      .nil)
      .nil
    B_number_by_7)
noncomputable def B_number_by_5 : PB :=
    (.asg 10 "width" (.bin .Add (.attr (.var 0 "picture") "left") (.ifj (.cmp .Eq (.attr (.var 0 "picture") "sign") (.str [43, 97, 104, 101, 97, 100])) (.int 1) (.int 0)))
    B_number_by_6)
noncomputable def B_number_by_4 : PB :=
    (.asg 9 "lead" (.bin .Add (.call "lead_of" (.cons (.var 0 "picture") (.cons (.var 5 "is_below") .nil))) (.ifj (.attr (.var 0 "picture") "has_dollar") (.str [36]) (.str [])))
    B_number_by_5)
noncomputable def B_number_by_3 : PB :=
    (.ifs (.and (.attr (.var 0 "picture") "has_comma") (.not (.attr (.var 0 "picture") "has_exponent")))
      (.asg 7 "ahead" (.call "grouped" (.cons (.var 7 "ahead") .nil))
      .nil)
      .nil
    B_number_by_4)
noncomputable def B_number_by_2 : PB :=
    (.ifs (.attr (.var 0 "picture") "has_exponent")
      (.asg3 7 "ahead" 8 "behind" 6 "told" (.call "with_exponent" (.cons (.var 0 "picture") (.cons (.var 4 "size") (.cons (.var 3 "exponent") .nil))))
      .nil)
      (.asg2 7 "ahead" 8 "behind" (.call "split_figures" (.cons (.call "scaled" (.cons (.var 4 "size") (.cons (.var 3 "exponent") (.cons (.attr (.var 0 "picture") "right") .nil)))) (.cons (.attr (.var 0 "picture") "right") .nil)))
      .nil)
    B_number_by_3)
noncomputable def B_number_by_1 : PB :=
    (.asg3 4 "size" 5 "is_below" 6 "told" (.tup (.cons (.abs (.var 2 "coefficient")) (.cons (.cmp .Lt (.var 2 "coefficient") (.int 0)) (.cons (.str []) .nil))))
    B_number_by_2)
noncomputable def B_number_by : PB :=
    (.asg2 2 "coefficient" 3 "exponent" (.ife (.isTup (.var 1 "value")) (.var 1 "value") (.tup (.cons (.var 1 "value") (.cons (.int 0) .nil))))
    B_number_by_1)
theorem C_number_by : okB ⟨["picture", "value", "coefficient", "exponent", "size", "is_below", "told", "ahead", "behind", "lead", "width", "room", "filled", "whole"], ["isinstance", "tuple", "abs", "with_exponent", "split_figures", "scaled", "grouped", "lead_of", "len", "tail_of"], fns, bs⟩ B_number_by (prt 19).body = true ∧ rebB B_number_by (prt 19).body = (prt 19).body := ⟨by kernel_rfl, by kernel_rfl⟩
noncomputable def B_value_by_4 : PB :=
    (.ret (.slice (.bin .Add (.var 1 "value") (.bin .Mult (.str [32]) (.idx (.var 0 "piece") (.int 1)))) .none (.idx (.var 0 "piece") (.int 1))) .nil)
noncomputable def B_value_by_3 : PB :=
    (.ifs (.cmp .Eq (.idx (.var 0 "piece") (.int 0)) (.str [119, 104, 111, 108, 101]))
      (.ret (.var 1 "value") .nil)
      .nil
    B_value_by_4)
noncomputable def B_value_by_2 : PB :=
    (.ifs (.cmp .Eq (.idx (.var 0 "piece") (.int 0)) (.str [102, 105, 114, 115, 116]))
      (.ret (.slice (.bin .Add (.var 1 "value") (.str [32])) .none (.int 1)) .nil)
      .nil
    B_value_by_3)
noncomputable def B_value_by_1 : PB :=
    (.ifs (.not (.isStr (.var 1 "value")))
      (.raw
      .nil)
      .nil
    B_value_by_2)
noncomputable def B_value_by : PB :=
    (.ifs (.isPic (.var 0 "piece"))
      (.ifs (.isStr (.var 1 "value"))
        (.raw
        .nil)
        .nil
      (.ret (.call "number_by" (.cons (.var 0 "piece") (.cons (.var 1 "value") .nil))) .nil))
      .nil
    B_value_by_1)
theorem C_value_by : okB ⟨["piece", "value"], ["isinstance", "Picture", "str", "BasicError", "number_by"], fns, bs⟩ B_value_by (prt 20).body = true ∧ rebB B_value_by (prt 20).body = (prt 20).body := ⟨by kernel_rfl, by kernel_rfl⟩
noncomputable def B_is_plain : PB :=
    (.ret (.andS (.isTup (.var 0 "piece")) (.cmp .Eq (.idx (.var 0 "piece") (.int 0)) (.str [112, 108, 97, 105, 110]))) .nil)
theorem C_is_plain : okB ⟨["piece"], ["isinstance", "tuple"], fns, bs⟩ B_is_plain (prt 21).body = true ∧ rebB B_is_plain (prt 21).body = (prt 21).body := ⟨by kernel_rfl, by kernel_rfl⟩
noncomputable def B_using_text_2 : PB :=
    (.loop (.bool true)
      (.forin 5 "piece" (.var 2 "pieces")
        (.ifs (.call "is_plain" (.cons (.var 5 "piece") .nil))
          (.asg 3 "found" (.bin .Add (.var 3 "found") (.idx (.var 5 "piece") (.int 1)))
          .nil)
          (.ifs (.cmp .Eq (.var 4 "at") (.len (.var 1 "values")))
            (.ret (.var 3 "found") .nil)
            (.asg2 3 "found" 4 "at" (.tup (.cons (.bin .Add (.var 3 "found") (.call "value_by" (.cons (.var 5 "piece") (.cons (.idx (.var 1 "values") (.var 4 "at")) .nil)))) (.cons (.bin .Add (.var 4 "at") (.int 1)) .nil)))
            .nil)
          .nil)
        .nil)
      (.ifs (.cmp .Eq (.var 4 "at") (.len (.var 1 "values")))
        (.ret (.var 3 "found") .nil)
        .nil
      .nil))
    .nil)
noncomputable def B_using_text_1 : PB :=
    (.raw
    B_using_text_2)
noncomputable def B_using_text : PB :=
    (.asg3 2 "pieces" 3 "found" 4 "at" (.tup (.cons (.call "read_pieces" (.cons (.var 0 "text") .nil)) (.cons (.str []) (.cons (.int 0) .nil))))
    B_using_text_1)
theorem C_using_text : okB ⟨["text", "values", "pieces", "found", "at", "piece"], ["read_pieces", "len", "is_plain", "BasicError", "value_by"], fns, bs⟩ B_using_text (prt 22).body = true ∧ rebB B_using_text (prt 22).body = (prt 22).body := ⟨by kernel_rfl, by kernel_rfl⟩
noncomputable def B_law_draw_2 : PB :=
    (.ret (.bin .Mod (.bin .Add (.bin .Mult (.int 7) (.idx (.var 0 "drawer") (.int 0))) (.bin .FloorDiv (.idx (.var 0 "drawer") (.int 0)) (.int 4))) (.var 1 "limit")) .nil)
noncomputable def B_law_draw_1 : PB :=
    (.ifs (.cmp .LtE (.idx (.var 0 "drawer") (.int 0)) (.len (.idx (.var 0 "drawer") (.int 1))))
      (.ret (.bin .Mod (.abs (.idx (.idx (.var 0 "drawer") (.int 1)) (.bin .Sub (.idx (.var 0 "drawer") (.int 0)) (.int 1)))) (.var 1 "limit")) .nil)
      .nil
    B_law_draw_2)
noncomputable def B_law_draw : PB :=
    (.augI (.var 0 "drawer") (.int 0) .Add (.int 1)
    B_law_draw_1)
theorem C_law_draw : okB ⟨["drawer", "limit"], ["len", "abs"], fns, bs⟩ B_law_draw (prt 24).body = true ∧ rebB B_law_draw (prt 24).body = (prt 24).body := ⟨by kernel_rfl, by kernel_rfl⟩
noncomputable def B_law_picture_8 : PB :=
    (.ret (.tup (.cons (.var 7 "text") (.cons (.lst (.cons (.bin .Add (.bin .Add (.var 8 "marks") (.var 2 "places")) (.var 3 "comma")) (.cons (.var 4 "behind") (.cons (.cmp .Gt (.var 4 "behind") (.int 0)) (.cons (.cmp .In (.str [42]) (.var 1 "ahead")) (.cons (.cmp .In (.str [36]) (.var 1 "ahead")) (.cons (.cmp .Eq (.var 3 "comma") (.int 1)) (.cons (.var 5 "power") (.cons (.var 9 "sign") .nil))))))))) .nil))) .nil)
noncomputable def B_law_picture_7 : PB :=
    (.asg 9 "sign" (.ife (.cmp .Eq (.var 1 "ahead") (.str [43])) (.str [43, 97, 104, 101, 97, 100]) (.ife (.cmp .NotEq (.var 6 "tail") (.str [])) (.bin .Add (.var 6 "tail") (.str [98, 101, 104, 105, 110, 100])) (.str [])))
    B_law_picture_8)
noncomputable def B_law_picture_6 : PB :=
    (.asg 8 "marks" (.ife (.cmp .NotEq (.var 1 "ahead") (.str [43])) (.len (.var 1 "ahead")) (.int 0))
    B_law_picture_7)
noncomputable def B_law_picture_5 : PB :=
    (.asg 7 "text" (.bin .Add (.bin .Add (.var 7 "text") (.ifj (.var 5 "power") (.str [94, 94, 94, 94]) (.str []))) (.var 6 "tail"))
    B_law_picture_6)
noncomputable def B_law_picture_4 : PB :=
    (.asg 7 "text" (.bin .Add (.bin .Add (.bin .Add (.var 1 "ahead") (.bin .Mult (.str [35]) (.var 2 "places"))) (.bin .Mult (.str [44]) (.var 3 "comma"))) (.ife (.cmp .Gt (.var 4 "behind") (.int 0)) (.bin .Add (.str [46]) (.bin .Mult (.str [35]) (.var 4 "behind"))) (.str [])))
    B_law_picture_5)
noncomputable def B_law_picture_3 : PB :=
    (.asg 6 "tail" (.ife (.cmp .NotEq (.var 1 "ahead") (.str [43])) (.idx (.lst (.cons (.str []) (.cons (.str [43]) (.cons (.str [45]) .nil)))) (.call "_law_draw" (.cons (.var 0 "drawer") (.cons (.int 3) .nil)))) (.str []))
    B_law_picture_4)
noncomputable def B_law_picture_2 : PB :=
    (.asg 5 "power" (.cmp .Eq (.call "_law_draw" (.cons (.var 0 "drawer") (.cons (.int 4) .nil))) (.int 3))
    B_law_picture_3)
noncomputable def B_law_picture_1 : PB :=
    (.asg3 2 "places" 3 "comma" 4 "behind" (.tup (.cons (.bin .Add (.int 1) (.call "_law_draw" (.cons (.var 0 "drawer") (.cons (.int 5) .nil)))) (.cons (.call "_law_draw" (.cons (.var 0 "drawer") (.cons (.int 2) .nil))) (.cons (.call "_law_draw" (.cons (.var 0 "drawer") (.cons (.int 4) .nil))) .nil))))
    B_law_picture_2)
noncomputable def B_law_picture : PB :=
    (.asg 1 "ahead" (.idx (.lst (.cons (.str []) (.cons (.str [43]) (.cons (.str [42, 42]) (.cons (.str [36, 36]) (.cons (.str [42, 42, 36]) .nil)))))) (.call "_law_draw" (.cons (.var 0 "drawer") (.cons (.int 5) .nil))))
    B_law_picture_1)
theorem C_law_picture : okB ⟨["drawer", "ahead", "places", "comma", "behind", "power", "tail", "text", "marks", "sign"], ["_law_draw", "len"], fns, bs⟩ B_law_picture (prt 25).body = true ∧ rebB B_law_picture (prt 25).body = (prt 25).body := ⟨by kernel_rfl, by kernel_rfl⟩
noncomputable def B_law_number_1 : PB :=
    (.ret (.ife (.cmp .Eq (.call "_law_draw" (.cons (.var 0 "drawer") (.cons (.int 3) .nil))) (.int 0)) (.var 1 "size") (.tup (.cons (.var 1 "size") (.cons (.bin .Sub (.call "_law_draw" (.cons (.var 0 "drawer") (.cons (.int 8) .nil))) (.int 5)) .nil)))) .nil)
noncomputable def B_law_number : PB :=
    (.asg 1 "size" (.bin .Add (.int 1) (.call "_law_draw" (.cons (.var 0 "drawer") (.cons (.int 30000) .nil))))
    B_law_number_1)
theorem C_law_number : okB ⟨["drawer", "size"], ["_law_draw"], fns, bs⟩ B_law_number (prt 26).body = true ∧ rebB B_law_number (prt 26).body = (prt 26).body := ⟨by kernel_rfl, by kernel_rfl⟩
noncomputable def B_law_turned : PB :=
    (.ret (.ife (.isTup (.var 0 "value")) (.tup (.cons (.bin .Sub (.int 0) (.idx (.var 0 "value") (.int 0))) (.cons (.idx (.var 0 "value") (.int 1)) .nil))) (.bin .Sub (.int 0) (.var 0 "value"))) .nil)
theorem C_law_turned : okB ⟨["value"], ["isinstance", "tuple"], fns, bs⟩ B_law_turned (prt 27).body = true ∧ rebB B_law_turned (prt 27).body = (prt 27).body := ⟨by kernel_rfl, by kernel_rfl⟩
noncomputable def B_law_longer : PB :=
    (.ret (.ife (.isTup (.var 0 "value")) (.tup (.cons (.bin .Mult (.int 10) (.idx (.var 0 "value") (.int 0))) (.cons (.bin .Sub (.idx (.var 0 "value") (.int 1)) (.int 1)) .nil))) (.tup (.cons (.bin .Mult (.int 10) (.var 0 "value")) (.cons (.bin .Sub (.int 0) (.int 1)) .nil)))) .nil)
theorem C_law_longer : okB ⟨["value"], ["isinstance", "tuple"], fns, bs⟩ B_law_longer (prt 28).body = true ∧ rebB B_law_longer (prt 28).body = (prt 28).body := ⟨by kernel_rfl, by kernel_rfl⟩
noncomputable def B_law_read_right_4 : PB :=
    (.ret (.cmp .Eq (.cat (.var 4 "found") (.lst (.cons (.attr (.var 3 "one") "has_exponent") (.cons (.attr (.var 3 "one") "sign") .nil)))) (.var 1 "due")) .nil)
noncomputable def B_law_read_right_3 : PB :=
    (.asg 4 "found" (.lst (.cons (.attr (.var 3 "one") "left") (.cons (.attr (.var 3 "one") "right") (.cons (.attr (.var 3 "one") "has_point") (.cons (.attr (.var 3 "one") "has_star") (.cons (.attr (.var 3 "one") "has_dollar") (.cons (.attr (.var 3 "one") "has_comma") .nil)))))))
    B_law_read_right_4)
noncomputable def B_law_read_right_2 : PB :=
    (.asg 3 "one" (.idx (.var 2 "pieces") (.int 0))
    B_law_read_right_3)
noncomputable def B_law_read_right_1 : PB :=
    (.ifs (.orS (.cmp .NotEq (.len (.var 2 "pieces")) (.int 1)) (.cmp .NotEq (.idx (.call "read_picture" (.cons (.bin .Add (.var 0 "text") (.str [32, 35])) (.cons (.int 0) .nil))) (.int 1)) (.len (.var 0 "text"))))
      (.ret (.bool false) .nil)
      .nil
    B_law_read_right_2)
noncomputable def B_law_read_right : PB :=
    (.asg 2 "pieces" (.call "read_pieces" (.cons (.var 0 "text") .nil))
    B_law_read_right_1)
theorem C_law_read_right : okB ⟨["text", "due", "pieces", "one", "found"], ["read_pieces", "len", "read_picture"], fns, bs⟩ B_law_read_right (prt 29).body = true ∧ rebB B_law_read_right (prt 29).body = (prt 29).body := ⟨by kernel_rfl, by kernel_rfl⟩
noncomputable def B_law_made_right_7 : PB :=
    (.ret (.and (.cmp .Eq (.tup (.cons (.idx (.var 4 "above") (.neg (.int 1))) (.cons (.idx (.var 5 "below") (.neg (.int 1))) .nil))) (.var 8 "ends")) (.cmp .Eq (.slice (.var 4 "above") .none (.neg (.int 1))) (.slice (.var 5 "below") .none (.neg (.int 1))))) .nil)
noncomputable def B_law_made_right_6 : PB :=
    (.asg 8 "ends" (.tup (.cons (.ifj (.cmp .Eq (.idx (.var 1 "due") (.int 7)) (.str [43, 98, 101, 104, 105, 110, 100])) (.str [43]) (.str [32])) (.cons (.str [45]) .nil)))
    B_law_made_right_7)
noncomputable def B_law_made_right_5 : PB :=
    (.raw
    B_law_made_right_6)
noncomputable def B_law_made_right_4 : PB :=
    (.ifs (.cmp .Eq (.idx (.var 1 "due") (.int 7)) (.str []))
      (.ret (.cmp .Eq (.cnt (.var 5 "below") (.str [45])) (.bin .Add (.cnt (.var 4 "above") (.str [45])) (.int 1))) .nil)
      .nil
    B_law_made_right_5)
noncomputable def B_law_made_right_3 : PB :=
    (.ifs (.cmp .NotEq (.call "number_by" (.cons (.var 3 "picture") (.cons (.call "_law_longer" (.cons (.var 2 "value") .nil)) .nil))) (.var 4 "above"))
      (.ret (.bool false) .nil)
      .nil
    B_law_made_right_4)
noncomputable def B_law_made_right_2 : PB :=
    (.forin 6 "made_text" (.tup (.cons (.var 4 "above") (.cons (.var 5 "below") .nil)))
      (.asg 7 "more" (.bin .Sub (.len (.var 6 "made_text")) (.len (.var 0 "text")))
      (.ifs (.or (.and (.cmp .NotEq (.idx (.var 6 "made_text") (.int 0)) (.str [37])) (.cmp .NotEq (.var 7 "more") (.int 0))) (.and (.cmp .Eq (.idx (.var 6 "made_text") (.int 0)) (.str [37])) (.cmp .Lt (.var 7 "more") (.int 2))))
        (.ret (.bool false) .nil)
        .nil
      (.ifs (.cmp .In (.ifj (.idx (.var 1 "due") (.int 3)) (.str [32]) (.str [42])) (.rst (.var 6 "made_text") (.str [32])))
        (.ret (.bool false) .nil)
        .nil
      .nil)))
    B_law_made_right_3)
noncomputable def B_law_made_right_1 : PB :=
    (.asg2 4 "above" 5 "below" (.tup (.cons (.call "number_by" (.cons (.var 3 "picture") (.cons (.var 2 "value") .nil))) (.cons (.call "number_by" (.cons (.var 3 "picture") (.cons (.call "_law_turned" (.cons (.var 2 "value") .nil)) .nil))) .nil)))
    B_law_made_right_2)
noncomputable def B_law_made_right : PB :=
    (.asg 3 "picture" (.idx (.call "read_pieces" (.cons (.var 0 "text") .nil)) (.int 0))
    B_law_made_right_1)
theorem C_law_made_right : okB ⟨["text", "due", "value", "picture", "above", "below", "made_text", "more", "ends"], ["read_pieces", "number_by", "_law_turned", "len", "_law_longer"], fns, bs⟩ B_law_made_right (prt 30).body = true ∧ rebB B_law_made_right (prt 30).body = (prt 30).body := ⟨by kernel_rfl, by kernel_rfl⟩
noncomputable def B_law_10 : PB :=
    (.ret (.cmp .Eq (.call "using_text" (.cons (.var 2 "one") (.cons (.lst (.cons (.var 6 "a") (.cons (.var 7 "b") .nil))) .nil))) (.bin .Add (.var 10 "single") (.call "using_text" (.cons (.var 2 "one") (.cons (.lst (.cons (.var 7 "b") .nil)) .nil))))) .nil)
noncomputable def B_law_9 : PB :=
    (.ifs (.cmp .NotEq (.call "using_text" (.cons (.var 9 "whole") (.cons (.lst (.cons (.var 6 "a") (.cons (.var 7 "b") (.cons (.var 6 "a") .nil)))) .nil))) (.bin .Add (.bin .Add (.var 11 "both") (.var 10 "single")) (.var 8 "between")))
      (.ret (.bool false) .nil)
      .nil
    B_law_10)
noncomputable def B_law_8 : PB :=
    (.ifs (.orS (.cmp .NotEq (.call "using_text" (.cons (.var 9 "whole") (.cons (.lst (.cons (.var 6 "a") (.cons (.var 7 "b") .nil))) .nil))) (.var 11 "both")) (.cmp .NotEq (.call "using_text" (.cons (.var 9 "whole") (.cons (.lst (.cons (.var 6 "a") .nil)) .nil))) (.bin .Add (.var 10 "single") (.var 8 "between"))))
      (.ret (.bool false) .nil)
      .nil
    B_law_9)
noncomputable def B_law_7 : PB :=
    (.asg 11 "both" (.bin .Add (.bin .Add (.var 10 "single") (.var 8 "between")) (.call "using_text" (.cons (.var 4 "two") (.cons (.lst (.cons (.var 7 "b") .nil)) .nil))))
    B_law_8)
noncomputable def B_law_6 : PB :=
    (.asg2 9 "whole" 10 "single" (.tup (.cons (.bin .Add (.bin .Add (.var 2 "one") (.var 8 "between")) (.var 4 "two")) (.cons (.call "using_text" (.cons (.var 2 "one") (.cons (.lst (.cons (.var 6 "a") .nil)) .nil))) .nil)))
    B_law_7)
noncomputable def B_law_5 : PB :=
    (.asg 8 "between" (.idx (.lst (.cons (.str [32]) (.cons (.str [32, 120]) (.cons (.str [32, 105, 115, 58, 32]) .nil)))) (.call "_law_draw" (.cons (.var 1 "drawer") (.cons (.int 3) .nil))))
    B_law_6)
noncomputable def B_law_4 : PB :=
    (.ifs (.orS (.not (.call "_law_made_right" (.cons (.var 2 "one") (.cons (.var 3 "first") (.cons (.var 6 "a") .nil))))) (.not (.call "_law_made_right" (.cons (.var 4 "two") (.cons (.var 5 "second") (.cons (.var 7 "b") .nil))))))
      (.ret (.bool false) .nil)
      .nil
    B_law_5)
noncomputable def B_law_3 : PB :=
    (.ifs (.orS (.not (.call "_law_read_right" (.cons (.var 2 "one") (.cons (.var 3 "first") .nil)))) (.not (.call "_law_read_right" (.cons (.var 4 "two") (.cons (.var 5 "second") .nil)))))
      (.ret (.bool false) .nil)
      .nil
    B_law_4)
noncomputable def B_law_2 : PB :=
    (.asg2 6 "a" 7 "b" (.tup (.cons (.call "_law_number" (.cons (.var 1 "drawer") .nil)) (.cons (.call "_law_number" (.cons (.var 1 "drawer") .nil)) .nil)))
    B_law_3)
noncomputable def B_law_1 : PB :=
    (.asgT (.cons (.tup (.cons (.name 2 "one") (.cons (.name 3 "first") .nil))) (.cons (.tup (.cons (.name 4 "two") (.cons (.name 5 "second") .nil))) .nil)) (.tup (.cons (.call "_law_picture" (.cons (.var 1 "drawer") .nil)) (.cons (.call "_law_picture" (.cons (.var 1 "drawer") .nil)) .nil)))
    B_law_2)
noncomputable def B_law : PB :=
    (.raw
    B_law_1)
theorem C_law : okB ⟨["script", "drawer", "one", "first", "two", "second", "a", "b", "between", "whole", "single", "both"], ["_law_picture", "_law_number", "_law_read_right", "_law_made_right", "_law_draw", "using_text"], fns, bs⟩ B_law (prt 31).body = true ∧ rebB B_law (prt 31).body = (prt 31).body := ⟨by kernel_rfl, by kernel_rfl⟩
noncomputable def B_init_7 : PB :=
    (.attr (.var 0 "self") "sign" (.str [])
    .nil)
noncomputable def B_init_6 : PB :=
    (.attr (.var 0 "self") "has_exponent" (.bool false)
    B_init_7)
noncomputable def B_init_5 : PB :=
    (.attr (.var 0 "self") "has_comma" (.bool false)
    B_init_6)
noncomputable def B_init_4 : PB :=
    (.attr (.var 0 "self") "has_dollar" (.bool false)
    B_init_5)
noncomputable def B_init_3 : PB :=
    (.attr (.var 0 "self") "has_star" (.bool false)
    B_init_4)
noncomputable def B_init_2 : PB :=
    (.attr (.var 0 "self") "has_point" (.bool false)
    B_init_3)
noncomputable def B_init_1 : PB :=
    (.attr (.var 0 "self") "right" (.int 0)
    B_init_2)
noncomputable def B_init : PB :=
    (.attr (.var 0 "self") "left" (.int 0)
    B_init_1)
theorem C_init : okB ⟨["self"], [], fns, bs⟩ B_init prtI.body = true ∧ rebB B_init prtI.body = prtI.body := ⟨by kernel_rfl, by kernel_rfl⟩
section
variable {C : Cx} {F : FnI} {n : Nat}
theorem Fn_W {f : Addr} {k : Ck} (hf : F.a = f) (G : Good C ss fns bs fields) {ps rest : List Str} {body : List Stmt} (D : DefAt C F ps rest body) {b : PB} (hc : okB k b body = true ∧ rebB b body = body) (hk : F.ck fns bs = k) {args : List PV} {ah : AH} {Q : PV → AH → Prop} (hl : args.length = ps.length)
    (h : ∀ V : Act C F, Ws V n b body ⟨loc0 ps rest args, ah⟩ (fun st => Q .none st.ah) (fun p st => Q p st.ah) (fun _ => False)) : Fn C (n + 1) f args ah Q :=
  Fn_of_body hf D hl fun V => hc.2 ▸ Ws_ex G b body (by rw [hk]; exact hc.1) _ _ _ _ (h V)
theorem FnP.eq {k : Nat} {g : Str} {args : List PV} {ah a : AH} {p : PV} {Q : PV → AH → Prop} (h : Fn C n (adr C.K g) args ah fun r ah' => r = p ∧ ah' = a) (hk : n ≤ k) (hq : Q p a) : FnP C k g args ah Q :=
  ⟨h.mono hk fun r ah' e => by obtain ⟨rfl, rfl⟩ := e; exact hq⟩
theorem FnP.ex {k : Nat} {g : Str} {args : List PV} {ah a : AH} {p : PV} {Q : PV → AH → Prop} (h : Fn C n (adr C.K g) args ah fun r ah' => r = p ∧ ∃ N, ah' = N ++ a) (hk : n ≤ k) (hq : ∀ N, Q p (N ++ a)) : FnP C k g args ah Q :=
  ⟨h.mono hk fun r ah' e => by obtain ⟨rfl, N, rfl⟩ := e; exact hq N⟩
theorem FnP.dr {α : Type} {k : Nat} {g : Str} {args : List PV} {ah : AH} {av : α → AH} {pv : α → PV} {A : α → Prop} {Q : PV → AH → Prop} (h : Fn C n (adr C.K g) args ah fun r ah' => ∃ v : α, A v ∧ r = pv v ∧ ah' = av v) (hk : n ≤ k) (hq : ∀ v : α, A v → Q (pv v) (av v)) : FnP C k g args ah Q :=
  ⟨h.mono hk fun r ah' e => by obtain ⟨v, hv, rfl, rfl⟩ := e; exact hq v hv⟩
theorem FnP.un {k : Nat} {g : Str} {args : List PV} {ah a : AH} {A : PV → Prop} {Q : PV → AH → Prop} (h : Fn C n (adr C.K g) args ah fun r ah' => A r ∧ ah' = a) (hk : n ≤ k) (hq : ∀ v, A v → Q v a) : FnP C k g args ah Q :=
  ⟨h.mono hk fun r ah' e => by obtain ⟨hv, rfl⟩ := e; exact hq r hv⟩
end
end Mine
end
section
open PySem PySem.W PyProof.Rows
set_option Elab.async false
set_option genSizeOf false
set_option genInjectivity false
set_option maxRecDepth 100000
set_option maxHeartbeats 1000000
set_option linter.unusedVariables false
set_option linter.unusedSimpArgs false
namespace Mine
variable {C : Cx}
/-! ### what the number's defs reckon -/
noncomputable def nd (n : Nat) : Nat := if n < 10 then 1 else nd (n / 10) + 1
theorem nd_eq : ∀ {k N : Nat}, 1 ≤ k → (k = 1 ∨ 10 ^ (k - 1) ≤ N) → N < 10 ^ k → nd N = k
  | 0, _, h, _, _ => by lia
  | 1, N, _, _, h => by unfold nd; rw [if_pos (by lia)]
  | k + 2, N, _, h2, h3 => by
    have h2' : 10 ^ (k + 1) ≤ N := by
      rcases h2 with h | h
      · lia
      · exact h
    have e1 : 10 ^ (k + 1) = 10 ^ k * 10 := Nat.pow_succ ..
    have e2 : 10 ^ (k + 2) = 10 ^ (k + 1) * 10 := Nat.pow_succ ..
    have hp : 1 ≤ 10 ^ k := Nat.one_le_pow _ _ (by decide)
    unfold nd
    rw [if_neg (by lia), nd_eq (k := k + 1) (by lia) (.inr (by show 10 ^ k ≤ N / 10; lia)) (by lia)]
theorem nd_pos (N : Nat) : 1 ≤ nd N := by unfold nd; split <;> lia
theorem nd_lt : ∀ N : Nat, N < 10 ^ nd N := by
  intro N
  induction N using Nat.strongRecOn with
  | ind N ih =>
    unfold nd
    split
    · lia
    · have := ih (N / 10) (by lia)
      rw [Nat.pow_succ]; lia
theorem nd_le {N k : Nat} (hk : 1 ≤ k) (h : N < 10 ^ k) : nd N ≤ k := by
  induction k generalizing N with
  | zero => lia
  | succ k ih =>
    unfold nd
    split
    · lia
    · cases k with
      | zero => simp at h; lia
      | succ k =>
        have := ih (N := N / 10) (by lia) (by rw [Nat.pow_succ] at h; lia)
        lia
/-- half to even -/
noncomputable def halfEven (a u : Nat) : Nat := if 2 * (a % u) > u ∨ (2 * (a % u) = u ∧ a / u % 2 = 1) then a / u + 1 else a / u
noncomputable def roundedBy (N : Nat) (p : Int) : Nat := if p ≤ 0 then N else if p > nd N + 1 then 0 else halfEven N (10 ^ p.toNat)
noncomputable def low : Nat → Nat → List Nat
  | 0, _ => []
  | j + 1, N => low j (N / 10) ++ [48 + N % 10]
/-- how many figures without noughts ahead; none of nought -/
noncomputable def nz (N : Nat) : Nat := if N = 0 then 0 else nz (N / 10) + 1
noncomputable def padded (N : Nat) (m : Nat) : List Nat := low (max (nz N) m) N
theorem low_succ : ∀ (j N : Nat), low (j + 1) N = (48 + N / 10 ^ j % 10) :: low j N
  | 0, N => by simp [low]
  | j + 1, N => by
    have ih := low_succ j (N / 10)
    rw [low, ih, low, Nat.div_div_eq_div_mul, Nat.pow_succ, Nat.mul_comm 10]
    rfl
theorem low_len : ∀ (j N : Nat), (low j N).length = j
  | 0, _ => rfl
  | j + 1, N => by rw [low_succ, List.length_cons, low_len j N]
theorem nz_pos : ∀ (j N : Nat), 0 < N / 10 ^ j ↔ j < nz N := by
  intro j
  induction j with
  | zero => intro N; unfold nz; split <;> simp_all; lia
  | succ j ih =>
    intro N
    unfold nz
    split
    · rename_i h; subst h; simp
    · rw [Nat.pow_succ, Nat.mul_comm, ← Nat.div_div_eq_div_mul, ih]; lia
theorem nz_le {N k : Nat} (h : N < 10 ^ k) : nz N ≤ k := by
  rcases Nat.lt_or_ge k (nz N) with h' | h'
  · have := (nz_pos k N).mpr h'
    rw [Nat.div_eq_of_lt h] at this; lia
  · exact h'
noncomputable def sc (N : Nat) (k : Int) : Nat := if 0 ≤ k then N * 10 ^ k.toNat else roundedBy N (-k)
noncomputable def grp (l : List Nat) : List Nat := if h : l.length ≤ 3 then l else grp (l.take (l.length - 3)) ++ 44 :: l.drop (l.length - 3)
termination_by l.length
decreasing_by simp; lia
theorem clip_nat (n k d : Nat) : clip n (some (k : Int)) d = min k n := by
  unfold clip
  dsimp only
  rw [if_neg (by omega)]
  omega
theorem clip_neg (n k d : Nat) (hk : 0 < k) : clip n (some (-(k : Int))) d = n - k := by
  unfold clip
  dsimp only
  rw [if_pos (by omega)]
  omega
theorem take_min {α : Type} (l : List α) (k : Nat) : l.take (min k l.length) = l.take k := by
  rcases Nat.le_total k l.length with h | h
  · rw [Nat.min_eq_left h]
  · rw [Nat.min_eq_right h, List.take_length, List.take_of_length_le h]
theorem drop_min {α : Type} (l : List α) (k : Nat) : l.drop (min k l.length) = l.drop k := by
  rcases Nat.le_total k l.length with h | h
  · rw [Nat.min_eq_left h]
  · rw [Nat.min_eq_right h, List.drop_length, List.drop_of_length_le h]
theorem pySlice_tail {α : Type} (l : List α) (k : Nat) (hk : 0 < k) : pySlice (some (-(k : Int))) none l = l.drop (l.length - k) := by
  unfold pySlice
  rw [clip_neg _ _ _ hk, show clip l.length none l.length = l.length from rfl, List.take_length]
theorem pySlice_init {α : Type} (l : List α) (k : Nat) (hk : 0 < k) : pySlice none (some (-(k : Int))) l = l.take (l.length - k) := by
  unfold pySlice
  rw [clip_neg _ _ _ hk]; rfl
theorem pySlice_to {α : Type} (l : List α) (k : Nat) : pySlice none (some (k : Int)) l = l.take k := by
  unfold pySlice
  rw [clip_nat, take_min]; rfl
theorem pySlice_from {α : Type} (l : List α) (k : Nat) : pySlice (some (k : Int)) none l = l.drop k := by
  unfold pySlice
  rw [clip_nat, show clip l.length none l.length = l.length from rfl, List.take_length, drop_min]
theorem pySlice_len {α : Type} (a b : Option Int) (l : List α) : (pySlice a b l).length ≤ l.length := by
  unfold pySlice; simp only [List.length_drop, List.length_take]; lia
theorem roundedBy_le (N : Nat) (p : Int) : roundedBy N p ≤ N + 1 := by
  unfold roundedBy
  split
  · lia
  · split
    · lia
    · unfold halfEven
      have := Nat.div_le_self N (10 ^ p.toNat)
      split <;> lia
theorem figures_of_ok (G : Good C ss fns bs fields) {N : Nat} {ah : AH} : Fn C 10 (adr C.K "figures_of") [.int N] ah fun p ah' => p = .int (nd N) ∧ ah' = ah := by
  refine Fn_W (F := F_figures_of C.K) (n := 9) rfl G (D_figures_of G) C_figures_of rfl rfl fun V => ?_
  (conv => whnf)
  refine ⟨Nat, fun k => ⟨[(Str.ofString "number", some (.int N)), (Str.ofString "many", some (.int k)), (Str.ofString "bound", some (.int ((10 ^ k : Nat) : Int)))], ah⟩, fun k => 1 ≤ k ∧ (k = 1 ∨ 10 ^ (k - 1) ≤ N), fun k => N + 1 - k, 1, ⟨rfl, by simp⟩, fun k hk => ?_⟩
  (conv => whnf)
  constructor
  · intro hc
    have hc' : 10 ^ k ≤ N := Int.ofNat_le.mp (of_decide_eq_true hc)
    (conv => whnf)
    refine ⟨.inr (by decide), ?_⟩
    (conv => whnf)
    have hlt : k < 10 ^ k := Nat.lt_pow_self (by decide)
    refine ⟨k + 1, ?_, ⟨by lia, .inr (by simpa using hc')⟩, by dsimp only; lia⟩
    have e : ((10 ^ (k + 1) : Nat) : Int) = ((10 ^ k : Nat) : Int) * 10 := by rw [Nat.pow_succ, Int.natCast_mul]; rfl
    dsimp only
    rw [e]
    rfl
  · intro hc
    have hc' : N < 10 ^ k := Nat.lt_of_not_le fun q => of_decide_eq_false hc (Int.ofNat_le.mpr q)
    (conv => whnf)
    refine ⟨?_, rfl⟩
    rw [nd_eq hk.1 hk.2 hc']
theorem log10 {k : Nat} (h : k ≤ 1000) : ((10 : Int) ^ k).natAbs.log2 < 9000 := by
  have e : ((10 : Int) ^ k).natAbs = 10 ^ k := by
    rw [Int.natAbs_pow]; rfl
  rw [e]
  have hp : 10 ^ k ≠ 0 := Nat.ne_of_gt (Nat.pow_pos (by decide))
  refine (Nat.log2_lt hp).mpr ?_
  have h1 : 10 ^ k ≤ 16 ^ k := Nat.pow_le_pow_left (by decide) k
  have h2 : 16 ^ k = 2 ^ (4 * k) := by rw [show 16 = 2 ^ 4 from rfl, ← Nat.pow_mul]
  have h3 : 2 ^ (4 * k) < 2 ^ 9000 := Nat.pow_lt_pow_right (by decide) (by lia)
  lia
theorem powSide {k : Int} (h0 : 0 ≤ k) (h : k ≤ 1000) : 0 ≤ k ∧ (Builtin.Int.intBits 10 : Int) * k ≤ 2 ^ 27 := by
  have : (Builtin.Int.intBits 10 : Int) = 4 := by decide
  rw [this]; lia
theorem rounded_by_ok (G : Good C ss fns bs fields) {N : Nat} {p : Int} {ah : AH} (hp : p ≤ 1000) : Fn C 20 (adr C.K "rounded_by") [.int N, .int p] ah fun r ah' => r = .int (roundedBy N p) ∧ ah' = ah := by
  refine Fn_W (F := F_rounded_by C.K) (n := 19) rfl G (D_rounded_by G) C_rounded_by rfl rfl fun V => ?_
  (conv => whnf)
  refine ⟨fun hc => ?_, fun hc => ?_⟩
  · have hc := of_decide_eq_true hc
    (conv => whnf)
    exact ⟨by rw [roundedBy, if_pos hc], rfl⟩
  have hc := of_decide_eq_false hc
  (conv => whnf)
  refine FnP.eq (figures_of_ok G) (by decide) ?_
  (conv => whnf)
  refine ⟨fun hd => ?_, fun hd => ?_⟩
  · have hd := of_decide_eq_true hd
    (conv => whnf)
    refine ⟨?_, rfl⟩
    rw [roundedBy, if_neg hc, if_pos (by lia)]
    rfl
  have hd := of_decide_eq_false hd
  (conv => whnf)
  refine ⟨powSide (by lia) hp, ?_⟩
  have hu : (0 : Int) < 10 ^ p.toNat := Int.pow_pos (by decide)
  (conv => whnf)
  refine ⟨⟨hu, log10 (by lia)⟩, ?_⟩
  (conv => whnf)
  refine ⟨hu, ?_⟩
  (conv => whnf)
  refine ⟨.inl (by decide), ?_⟩
  (conv => whnf)
  refine ⟨.inl (by decide), ?_⟩
  (conv => whnf)
  refine ⟨by decide, ?_⟩
  (conv => whnf)
  have e1 : (N : Int) / 10 ^ p.toNat = ((N / 10 ^ p.toNat : Nat) : Int) := by simp
  have e2 : (N : Int) % 10 ^ p.toNat = ((N % 10 ^ p.toNat : Nat) : Int) := by simp
  have e3 : (10 : Int) ^ p.toNat = ((10 ^ p.toNat : Nat) : Int) := by simp
  have fin : roundedBy N p = halfEven N (10 ^ p.toNat) := by rw [roundedBy, if_neg hc, if_neg (by lia)]
  rw [fin]
  rw [e1, e2, e3]
  generalize 10 ^ p.toNat = u
  refine ⟨fun h1 => ?_, fun h1 => ?_⟩ <;> simp only [Bool.or_eq_true, Bool.and_eq_true, Bool.or_eq_false_iff, Bool.and_eq_false_iff, decide_eq_true_eq, decide_eq_false_iff_not] at h1
  · (conv => whnf)
    refine ⟨?_, rfl⟩
    rw [halfEven, if_pos (by lia)]; rfl
  · (conv => whnf)
    refine ⟨?_, rfl⟩
    rw [halfEven, if_neg (by lia)]
theorem padded_figures_ok (G : Good C ss fns bs fields) {N m : Nat} {ah : AH} (hN : N < 10 ^ 1000) (hm : m ≤ 1000) : Fn C 20 (adr C.K "padded_figures") [.int N, .int m] ah fun r ah' => r = .str (padded N m) ∧ ah' = ah := by
  refine Fn_W (F := F_padded_figures C.K) (n := 19) rfl G (D_padded_figures G) C_padded_figures rfl rfl fun V => ?_
  have hz := nz_le hN
  clear hN
  (conv => whnf)
  refine ⟨Nat, fun j => ⟨[(Str.ofString "number", some (.int ((N / 10 ^ j : Nat) : Int))), (Str.ofString "many", some (.int m)), (Str.ofString "found", some (.str (low j N)))], ah⟩, fun j => j ≤ max (nz N) m, fun j => max (nz N) m - j, 0, ⟨by simp [low, putAt, loc0], by lia⟩, fun j hj => ?_⟩
  have hj : j ≤ 1000 := by lia
  (conv => whnf)
  refine ⟨by (first | assumption | exact len_small (by assumption) | exact len_small (by simp only [List.length_append, List.length_cons, List.length_nil, low_len]; omega) | omega | (simp only [List.length_append, List.length_cons, List.length_nil, low_len]; omega)), ?_⟩
  (conv => whnf)
  rw [low_len]
  refine ⟨fun h1 => ?_, fun h1 => ?_⟩ <;> simp only [Bool.or_eq_true, Bool.or_eq_false_iff, decide_eq_true_eq, decide_eq_false_iff_not] at h1
  · have hj' : j < max (nz N) m := by
      rcases h1 with h | h
      · have := (nz_pos j N).mp (by lia); lia
      · lia
    (conv => whnf)
    refine ⟨by decide, ?_⟩
    have hd : ((N / 10 ^ j : Nat) : Int) % 10 = ((N / 10 ^ j % 10 : Nat) : Int) := by lia
    (conv => whnf)
    rw [hd]
    have hlt : N / 10 ^ j % 10 < 10 := Nat.mod_lt _ (by decide)
    refine ⟨⟨by decide, by simp only [List.length_cons, List.length_nil]; lia, by simp only [List.length_cons, List.length_nil]; lia⟩, ?_⟩
    have hdig : ∀ d : Nat, d < 10 → [48, 49, 50, 51, 52, 53, 54, 55, 56, 57].getD (pyIdx [48, 49, 50, 51, 52, 53, 54, 55, 56, 57].length (d : Int)) 0 = 48 + d := by decide
    rw [hdig _ hlt]
    (conv => whnf)
    refine ⟨by (first | assumption | exact len_small (by assumption) | exact len_small (by simp only [List.length_append, List.length_cons, List.length_nil, low_len]; omega) | omega | (simp only [List.length_append, List.length_cons, List.length_nil, low_len]; omega)), ?_⟩
    (conv => whnf)
    refine ⟨by decide, ?_⟩
    (conv => whnf)
    refine ⟨j + 1, ?_, by dsimp only; lia, by dsimp only; lia⟩
    dsimp only
    have e1 : ((N / 10 ^ j : Nat) : Int) / 10 = ((N / 10 ^ (j + 1) : Nat) : Int) := by rw [Nat.pow_succ, ← Nat.div_div_eq_div_mul]; lia
    rw [low_succ, ← e1]
    rfl
  · (conv => whnf)
    have h2 : ¬ j < nz N := fun q => h1.1 (by have := (nz_pos j N).mpr q; lia)
    have : j = max (nz N) m := by lia
    exact ⟨by rw [padded, ← this], rfl⟩
theorem scaled_ok (G : Good C ss fns bs fields) {N : Nat} {e p : Int} {ah : AH} (hN : N < 2 ^ 62) (h1 : e + p ≤ 1000) (h2 : -1000 ≤ e + p) : Fn C 30 (adr C.K "scaled") [.int N, .int e, .int p] ah fun r ah' => r = .int (sc N (e + p)) ∧ ah' = ah := by
  refine Fn_W (F := F_scaled C.K) (n := 29) rfl G (D_scaled G) C_scaled rfl rfl fun V => ?_
  (conv => whnf)
  refine ⟨fun hc => ?_, fun hc => ?_⟩
  · have hc := of_decide_eq_true hc
    (conv => whnf)
    refine ⟨powSide hc h1, ?_⟩
    (conv => whnf)
    refine ⟨.inl (by simpa using hN), ?_⟩
    (conv => whnf)
    refine ⟨?_, rfl⟩
    rw [sc, if_pos hc]
    simp
  · have hc := of_decide_eq_false hc
    (conv => whnf)
    refine ⟨?_⟩
    have e0 : -e - p = -(e + p) := by lia
    rw [e0]
    refine Fn.mono (rounded_by_ok G (by lia)) (by decide) ?_
    rintro _ _ ⟨rfl, rfl⟩
    (conv => whnf)
    exact ⟨by rw [sc, if_neg hc], rfl⟩
theorem grp_long {l : List Nat} (h : 3 < l.length) : grp l = grp (l.take (l.length - 3)) ++ 44 :: l.drop (l.length - 3) := by
  conv => lhs; unfold grp
  rw [dif_neg (Nat.not_le.mpr h)]
theorem grp_short {l : List Nat} (h : l.length ≤ 3) : grp l = l := by
  conv => lhs; unfold grp
  rw [dif_pos h]
theorem tail3 (l : List Nat) : pySlice (some (-3)) none l = l.drop (l.length - 3) := pySlice_tail l 3 (by decide)
theorem init3 (l : List Nat) : pySlice none (some (-3)) l = l.take (l.length - 3) := pySlice_init l 3 (by decide)
theorem grouped_ok (G : Good C ss fns bs fields) {l : List Nat} {ah : AH} (hl : l.length ≤ 10000) : Fn C 10 (adr C.K "grouped") [.str l] ah fun r ah' => r = .str (grp l) ∧ ah' = ah := by
  refine Fn_W (F := F_grouped C.K) (n := 9) rfl G (D_grouped G) C_grouped rfl rfl fun V => ?_
  have ld : ∀ u : List Nat, (u.drop (u.length - 3)).length ≤ 3 := fun u => by rw [List.length_drop]; omega
  (conv => whnf)
  refine ⟨by (first | assumption | exact len_small (by assumption) | exact len_small (by simp only [List.length_append, List.length_cons, List.length_nil, low_len]; omega) | omega | (simp only [List.length_append, List.length_cons, List.length_nil, low_len]; omega)), ?_⟩
  rw [tail3]
  (conv => whnf)
  refine ⟨List Nat × List Nat, fun q => ⟨[(Str.ofString "figures", some (.str q.1)), (Str.ofString "found", some (.str q.2))], ah⟩,
    fun q => q.1.length ≤ 10000 ∧ 2 * q.1.length + q.2.length ≤ 20003 ∧ (if q.1.length ≤ 3 then q.2 else grp (q.1.take (q.1.length - 3)) ++ 44 :: q.2) = grp l, fun q => q.1.length, (l, l.drop (l.length - 3)), ⟨rfl, hl, ?_, ?_⟩, fun q hq => ?_⟩
  · have := ld l
    exact Nat.add_le_add (Nat.mul_le_mul_left 2 hl) this
  · dsimp only
    by_cases h : l.length ≤ 3
    · rw [if_pos h, grp_short h, Nat.sub_eq_zero_of_le h]; rfl
    · rw [if_neg h, grp_long (Nat.not_le.mp h)]
  obtain ⟨f, g⟩ := q
  obtain ⟨h1, h2, h3⟩ := hq
  dsimp only at h1 h2 h3
  (conv => whnf)
  refine ⟨by (first | assumption | exact len_small (by assumption) | exact len_small (by simp only [List.length_append, List.length_cons, List.length_nil, low_len]; omega) | omega | (simp only [List.length_append, List.length_cons, List.length_nil, low_len]; omega)), ?_⟩
  (conv => whnf)
  refine ⟨fun hc => ?_, fun hc => ?_⟩
  · have hc : 3 < f.length := Int.ofNat_lt.mp (of_decide_eq_true hc)
    rw [if_neg (Nat.not_le.mpr hc)] at h3
    have hu : (f.take (f.length - 3)).length = f.length - 3 := List.length_take_of_le (Nat.sub_le _ _)
    generalize hg : f.take (f.length - 3) = u at hu h3
    have hu : u.length + 3 = f.length := by rw [hu]; exact Nat.sub_add_cancel (Nat.le_of_lt hc)
    have hw := ld u
    (conv => whnf)
    refine ⟨by (first | assumption | exact len_small (by assumption) | exact len_small (by simp only [List.length_append, List.length_cons, List.length_nil, low_len]; omega) | omega | (simp only [List.length_append, List.length_cons, List.length_nil, low_len]; omega)), ?_⟩
    rw [init3, hg]
    (conv => whnf)
    refine ⟨by unfold Small; omega, ?_⟩
    rw [tail3]
    have hn : (if u.length ≤ 3 then u.drop (u.length - 3) ++ [44] ++ g else grp (u.take (u.length - 3)) ++ 44 :: (u.drop (u.length - 3) ++ [44] ++ g)) = grp l := by
      rw [← h3]
      by_cases h : u.length ≤ 3
      · rw [if_pos h, grp_short h, Nat.sub_eq_zero_of_le h, List.append_assoc]; rfl
      · rw [if_neg h, grp_long (Nat.not_le.mp h)]; simp
    generalize u.drop (u.length - 3) = w at hw hn
    (conv => whnf)
    refine ⟨by simp only [List.length_cons, List.length_nil]; omega, ?_⟩
    (conv => whnf)
    refine ⟨by simp only [List.length_append, List.length_cons, List.length_nil]; omega, ?_⟩
    (conv => whnf)
    refine ⟨(u, w ++ [44] ++ g), rfl, ⟨?_, ?_, hn⟩, ?_⟩ <;> dsimp only
    · omega
    · simp only [List.length_append, List.length_cons, List.length_nil]; omega
    · omega
  · have hc : f.length ≤ 3 := Nat.not_lt.mp fun q => of_decide_eq_false hc (Int.ofNat_lt.mpr q)
    rw [if_pos hc] at h3
    (conv => whnf)
    rw [h3]
    exact ⟨rfl, rfl⟩
theorem split_figures_ok (G : Good C ss fns bs fields) {N p : Nat} {ah : AH} (hN : N < 10 ^ 1000) (hp : p ≤ 900) : Fn C 30 (adr C.K "split_figures") [.int N, .int p] ah fun r ah' =>
    r = .tuple [.str ((padded N (p + 1)).take ((padded N (p + 1)).length - p)), .str ((padded N (p + 1)).drop ((padded N (p + 1)).length - p))] ∧ ah' = ah := by
  refine Fn_W (F := F_split_figures C.K) (n := 29) rfl G (D_split_figures G) C_split_figures rfl rfl fun V => ?_
  have hz := nz_le hN
  have hlen : (padded N (p + 1)).length ≤ 1000 ∧ p < (padded N (p + 1)).length := by rw [padded, low_len]; lia
  (conv => whnf)
  refine ⟨?_⟩
  refine Fn.mono (padded_figures_ok G hN (m := p + 1) (by lia)) (by decide) ?_
  clear hN
  rintro _ _ ⟨rfl, rfl⟩
  generalize padded N (p + 1) = l at hlen
  (conv => whnf)
  refine ⟨by (first | assumption | exact len_small (by assumption) | exact len_small (by simp only [List.length_append, List.length_cons, List.length_nil, low_len]; omega) | omega | (simp only [List.length_append, List.length_cons, List.length_nil, low_len]; omega)), ?_⟩
  (conv => whnf)
  refine ⟨by (first | assumption | exact len_small (by assumption) | exact len_small (by simp only [List.length_append, List.length_cons, List.length_nil, low_len]; omega) | omega | (simp only [List.length_append, List.length_cons, List.length_nil, low_len]; omega)), ?_⟩
  have e : (l.length : Int) - p = ((l.length - p : Nat) : Int) := by lia
  rw [e, pySlice_to]
  (conv => whnf)
  refine ⟨by (first | assumption | exact len_small (by assumption) | exact len_small (by simp only [List.length_append, List.length_cons, List.length_nil, low_len]; omega) | omega | (simp only [List.length_append, List.length_cons, List.length_nil, low_len]; omega)), ?_⟩
  (conv => whnf)
  refine ⟨by (first | assumption | exact len_small (by assumption) | exact len_small (by simp only [List.length_append, List.length_cons, List.length_nil, low_len]; omega) | omega | (simp only [List.length_append, List.length_cons, List.length_nil, low_len]; omega)), ?_⟩
  rw [e, pySlice_from]
  (conv => whnf)
  exact ⟨rfl, rfl⟩

/-! ### a picture, as the defs see it -/
structure Pic where
  left : Nat
  right : Nat
  point : Bool
  star : Bool
  dollar : Bool
  comma : Bool
  power : Bool
  sign : List Nat
noncomputable abbrev picF (P : Pic) : List (Str × PV) := [(Str.ofString "left", .int P.left), (Str.ofString "right", .int P.right), (Str.ofString "has_point", .bool P.point), (Str.ofString "has_star", .bool P.star), (Str.ofString "has_dollar", .bool P.dollar),
  (Str.ofString "has_comma", .bool P.comma), (Str.ofString "has_exponent", .bool P.power), (Str.ofString "sign", .str P.sign)]
noncomputable abbrev picO (C : Cx) (P : Pic) : AObj := .inst (adr C.K "Picture") (picF P)
theorem f_left (G : Good C ss fns bs fields) {ah : AH} {a : Addr} {P : Pic} (h : (a, picO C P) ∈ ah) : FieldIs C ah "left" (.ref a) (.int P.left) := .mk h (by simp) (G.field (mem_of (by kernel_rfl)))
theorem f_right (G : Good C ss fns bs fields) {ah : AH} {a : Addr} {P : Pic} (h : (a, picO C P) ∈ ah) : FieldIs C ah "right" (.ref a) (.int P.right) := .mk h (by simp) (G.field (mem_of (by kernel_rfl)))
theorem f_point (G : Good C ss fns bs fields) {ah : AH} {a : Addr} {P : Pic} (h : (a, picO C P) ∈ ah) : FieldIs C ah "has_point" (.ref a) (.bool P.point) := .mk h (by simp) (G.field (mem_of (by kernel_rfl)))
theorem f_star (G : Good C ss fns bs fields) {ah : AH} {a : Addr} {P : Pic} (h : (a, picO C P) ∈ ah) : FieldIs C ah "has_star" (.ref a) (.bool P.star) := .mk h (by simp) (G.field (mem_of (by kernel_rfl)))
theorem f_dollar (G : Good C ss fns bs fields) {ah : AH} {a : Addr} {P : Pic} (h : (a, picO C P) ∈ ah) : FieldIs C ah "has_dollar" (.ref a) (.bool P.dollar) := .mk h (by simp) (G.field (mem_of (by kernel_rfl)))
theorem f_comma (G : Good C ss fns bs fields) {ah : AH} {a : Addr} {P : Pic} (h : (a, picO C P) ∈ ah) : FieldIs C ah "has_comma" (.ref a) (.bool P.comma) := .mk h (by simp) (G.field (mem_of (by kernel_rfl)))
theorem f_power (G : Good C ss fns bs fields) {ah : AH} {a : Addr} {P : Pic} (h : (a, picO C P) ∈ ah) : FieldIs C ah "has_exponent" (.ref a) (.bool P.power) := .mk h (by simp) (G.field (mem_of (by kernel_rfl)))
theorem f_sign (G : Good C ss fns bs fields) {ah : AH} {a : Addr} {P : Pic} (h : (a, picO C P) ∈ ah) : FieldIs C ah "sign" (.ref a) (.str P.sign) := .mk h (by simp) (G.field (mem_of (by kernel_rfl)))
noncomputable def leadOf (P : Pic) (neg : Bool) : List Nat := if P.sign = [43, 97, 104, 101, 97, 100] then (if neg then [45] else [43]) else if P.sign = [] ∧ neg = true then [45] else []
noncomputable def tailOf (P : Pic) (neg : Bool) : List Nat := if P.sign = [43, 98, 101, 104, 105, 110, 100] then (if neg then [45] else [43]) else if P.sign = [45, 98, 101, 104, 105, 110, 100] then (if neg then [45] else [32]) else []
theorem lead_of_ok (G : Good C ss fns bs fields) {P : Pic} {a : Addr} {neg : Bool} {ah : AH} (hP : (a, picO C P) ∈ ah) : Fn C 10 (adr C.K "lead_of") [.ref a, .bool neg] ah fun r ah' => r = .str (leadOf P neg) ∧ ah' = ah := by
  refine Fn_W (F := F_lead_of C.K) (n := 9) rfl G (D_lead_of G) C_lead_of rfl rfl fun V => ?_
  (conv => whnf)
  refine ⟨_, f_sign G hP, ?_⟩
  (conv => whnf)
  refine ⟨fun hc => ?_, fun hc => ?_⟩
  · have hc := of_decide_eq_true hc
    (conv => whnf)
    exact ⟨by rw [leadOf, if_pos hc], rfl⟩
  · have hc := of_decide_eq_false hc
    (conv => whnf)
    refine ⟨_, f_sign G hP, ?_⟩
    (conv => whnf)
    refine ⟨?_, rfl⟩
    rw [leadOf, if_neg hc]
    simp [Bool.and_eq_true, decide_eq_true_eq]
theorem tail_of_ok (G : Good C ss fns bs fields) {P : Pic} {a : Addr} {neg : Bool} {ah : AH} (hP : (a, picO C P) ∈ ah) : Fn C 10 (adr C.K "tail_of") [.ref a, .bool neg] ah fun r ah' => r = .str (tailOf P neg) ∧ ah' = ah := by
  refine Fn_W (F := F_tail_of C.K) (n := 9) rfl G (D_tail_of G) C_tail_of rfl rfl fun V => ?_
  (conv => whnf)
  refine ⟨_, f_sign G hP, ?_⟩
  (conv => whnf)
  refine ⟨fun hc => ?_, fun hc => ?_⟩
  · (conv => whnf)
    refine ⟨_, f_sign G hP, ?_⟩
    (conv => whnf)
    refine ⟨?_, rfl⟩
    have hc : P.sign = [43, 98, 101, 104, 105, 110, 100] ∨ P.sign = [45, 98, 101, 104, 105, 110, 100] := by
      simpa using hc
    rcases hc with h | h <;> simp [tailOf, h]
  · (conv => whnf)
    refine ⟨?_, rfl⟩
    have hc : ¬ P.sign = [43, 98, 101, 104, 105, 110, 100] ∧ ¬ P.sign = [45, 98, 101, 104, 105, 110, 100] := by
      simpa using hc
    simp [tailOf, hc]
noncomputable def exPl (P : Pic) : Nat := P.left - (if P.sign = [] then 1 else 0)
noncomputable def liftOf (P : Pic) (N : Nat) (e : Int) : Int :=
  if 10 ^ (exPl P + P.right) ≤ sc N (e - (e + nd N - exPl P) + P.right) then e + nd N - exPl P + 1 else e + nd N - exPl P
noncomputable def expFig (P : Pic) (N : Nat) (e : Int) : List Nat := padded (sc N (e - liftOf P N e + P.right)) (exPl P + P.right)
noncomputable def expTold (l : Int) : List Nat := 69 :: (if l < 0 then 45 else 43) :: padded l.natAbs 2
noncomputable def withExp (P : Pic) (N : Nat) (e : Int) : List Nat × List Nat × List Nat :=
  if N = 0 then (List.replicate (exPl P) 48, List.replicate P.right 48, [69, 43, 48, 48])
  else ((expFig P N e).take (exPl P), (expFig P N e).drop (exPl P), expTold (liftOf P N e))
theorem sc_lt {N : Nat} {k : Int} (hN : N < 2 ^ 62) (hk : k ≤ 900) : sc N k < 10 ^ 1000 := by
  have h1 : (2 : Nat) ^ 62 ≤ 10 ^ 19 := by decide
  unfold sc
  split
  · have h2 : 10 ^ k.toNat ≤ 10 ^ 900 := Nat.pow_le_pow_right (by decide) (by lia)
    have h3 : N * 10 ^ k.toNat < 10 ^ 19 * 10 ^ 900 := Nat.lt_of_lt_of_le (Nat.mul_lt_mul_of_pos_right (by lia) (Nat.pow_pos (by decide))) (Nat.mul_le_mul_left _ h2)
    have h4 : 10 ^ 19 * 10 ^ 900 ≤ 10 ^ 1000 := by rw [← Nat.pow_add]; exact Nat.pow_le_pow_right (by decide) (by lia)
    lia
  · have := roundedBy_le N (-k)
    have h5 : 10 ^ 20 ≤ 10 ^ 1000 := Nat.pow_le_pow_right (by decide) (by lia)
    have h6 : (10 : Nat) ^ 19 + 1 ≤ 10 ^ 20 := by decide
    lia
theorem pyMul_one (c : Nat) (k : Int) : pyMul [c] k = List.replicate k.toNat c := by
  unfold pyMul
  generalize k.toNat = n
  induction n with
  | zero => rfl
  | succ n ih => simp [List.replicate_succ] at ih ⊢; try exact ih
/-- a picture of the common size -/
structure PicOk (P : Pic) : Prop where
  l : P.left ≤ 100
  r : P.right ≤ 100
  s : P.sign.length ≤ 10
theorem with_exponent_ok (G : Good C ss fns bs fields) {P : Pic} {a : Addr} {N : Nat} {e : Int} {ah : AH} (hP : (a, picO C P) ∈ ah) (ok : PicOk P) (hN : N < 2 ^ 62) (h1 : e ≤ 100) (h2 : -100 ≤ e) :
    Fn C 50 (adr C.K "with_exponent") [.ref a, .int N, .int e] ah fun r ah' => r = .tuple [.str (withExp P N e).1, .str (withExp P N e).2.1, .str (withExp P N e).2.2] ∧ ah' = ah := by
  refine Fn_W (F := F_with_exponent C.K) (n := 49) rfl G (D_with_exponent G) C_with_exponent rfl rfl fun V => ?_
  obtain ⟨okl, okr, -⟩ := ok
  (conv => whnf)
  refine ⟨_, f_left G hP, ?_⟩
  (conv => whnf)
  refine ⟨_, f_sign G hP, ?_⟩
  (conv => whnf)
  refine ⟨_, f_right G hP, ?_⟩
  (conv => whnf)
  have ep : max ((P.left : Int) - if decide (P.sign = []) = true then 1 else 0) 0 = ((exPl P : Nat) : Int) := by
    unfold exPl; by_cases h : P.sign = [] <;> simp [h] <;> lia
  have hpl : exPl P ≤ 100 := by unfold exPl; lia
  rw [ep]
  refine ⟨fun hc => ?_, fun hc => ?_⟩
  · have hc := of_decide_eq_true hc
    (conv => whnf)
    refine ⟨⟨by lia, by lia, by simp only [List.length_cons, List.length_nil]; lia⟩, ?_⟩
    (conv => whnf)
    refine ⟨_, f_right G hP, ?_⟩
    (conv => whnf)
    refine ⟨⟨by lia, by lia, by simp only [List.length_cons, List.length_nil]; lia⟩, ?_⟩
    (conv => whnf)
    refine ⟨?_, rfl⟩
    rw [pyMul_one, pyMul_one, withExp, if_pos (by lia)]
    rfl
  have hc : ¬ N = 0 := fun q => of_decide_eq_false hc (by lia)
  have hnd : nd N ≤ 20 := nd_le (by decide) (Nat.lt_trans hN (by decide))
  have tl : withExp P N e = ((expFig P N e).take (exPl P), (expFig P N e).drop (exPl P), expTold (liftOf P N e)) := by rw [withExp, if_neg hc]
  have fin : ∀ (l : Int) (u : Nat), l = liftOf P N e → u = sc N (e - liftOf P N e + P.right) →
      Ws V 49 B_with_exponent_6 ((prt 16).body.drop 6) ⟨[(Str.ofString "picture", some (.ref a)), (Str.ofString "size", some (.int N)), (Str.ofString "exponent", some (.int e)), (Str.ofString "places", some (.int (exPl P))), (Str.ofString "many", some (.int ((exPl P + P.right : Nat) : Int))), (Str.ofString "lift", some (.int l)), (Str.ofString "units", some (.int u)), (Str.ofString "figures", none), (Str.ofString "told", none)], ah⟩ (fun _ => False) (fun r st => r = .tuple [.str (withExp P N e).1, .str (withExp P N e).2.1, .str (withExp P N e).2.2] ∧ st.ah = ah) (fun _ => False) := by
    intro l u hl hu
    have hu1 : u < 10 ^ 1000 := by
      rw [hu]; refine sc_lt hN ?_
      unfold liftOf; split <;> lia
    have hl1 : l.natAbs ≤ 300 := by
      rw [hl]; unfold liftOf; split <;> lia
    clear ep
    (conv => whnf)
    refine FnP.eq (padded_figures_ok G hu1 (m := exPl P + P.right) (by lia)) (by decide) ?_
    (conv => whnf)
    have ea : (if l < 0 then -l else l) = ((l.natAbs : Nat) : Int) := by split <;> lia
    refine ⟨by split <;> simp, ?_⟩
    (conv => whnf)
    rw [ea]
    have hl2 : l.natAbs < 10 ^ 3 := by lia
    refine FnP.eq (padded_figures_ok G (N := l.natAbs) (m := 2) (Nat.lt_of_lt_of_le hl2 (Nat.pow_le_pow_right (by decide) (by decide))) (by decide)) (by decide) ?_
    have hz := nz_le hl2
    have hlen : (padded u (exPl P + P.right)).length ≤ 1000 := by
      have := nz_le hu1
      rw [padded, low_len]; lia
    have ht : (padded l.natAbs 2).length ≤ 3 := by rw [padded, low_len]; lia
    clear hu1
    (conv => whnf)
    refine ⟨by split <;> simp only [List.length_append, List.length_cons, List.length_nil] <;> lia, ?_⟩
    (conv => whnf)
    refine ⟨by (first | assumption | exact len_small (by assumption) | exact len_small (by simp only [List.length_append, List.length_cons, List.length_nil, low_len]; omega) | omega | (simp only [List.length_append, List.length_cons, List.length_nil, low_len]; omega)), ?_⟩
    (conv => whnf)
    refine ⟨by (first | assumption | exact len_small (by assumption) | exact len_small (by simp only [List.length_append, List.length_cons, List.length_nil, low_len]; omega) | omega | (simp only [List.length_append, List.length_cons, List.length_nil, low_len]; omega)), ?_⟩
    (conv => whnf)
    refine ⟨?_, rfl⟩
    rw [pySlice_to, pySlice_from, tl]
    simp only [expFig, expTold]
    rw [← hl] at hu ⊢
    rw [← hu]
    by_cases h0 : l < 0 <;> simp [h0]
  (conv => whnf)
  refine FnP.eq (figures_of_ok G) (by decide) ?_
  (conv => whnf)
  refine ⟨_, f_right G hP, ?_⟩
  (conv => whnf)
  refine FnP.eq (scaled_ok G hN (by lia) (by lia)) (by decide) ?_
  (conv => whnf)
  refine ⟨powSide (by lia) (by lia), ?_⟩
  (conv => whnf)
  have e1 : ((exPl P : Nat) : Int) + (P.right : Int) = ((exPl P + P.right : Nat) : Int) := by lia
  rw [e1]
  have e2 : ((10 : Int) ^ ((exPl P + P.right : Nat) : Int).toNat) = ((10 ^ (exPl P + P.right) : Nat) : Int) := by rw [Int.toNat_natCast, Int.natCast_pow]; rfl
  rw [e2]
  refine ⟨fun hd => ?_, fun hd => ?_⟩
  · have hd : 10 ^ (exPl P + P.right) ≤ sc N (e - (e + nd N - exPl P) + P.right) := Int.ofNat_le.mp (of_decide_eq_true hd)
    have hl : e + nd N - exPl P + 1 = liftOf P N e := by rw [liftOf, if_pos hd]
    (conv => whnf)
    refine ⟨_, f_right G hP, ?_⟩
    (conv => whnf)
    refine FnP.eq (scaled_ok G hN (by lia) (by lia)) (by decide) ?_
    refine fin _ _ hl ?_
    rw [← hl]
  · have hd : ¬ 10 ^ (exPl P + P.right) ≤ sc N (e - (e + nd N - exPl P) + P.right) := fun q => of_decide_eq_false hd (Int.ofNat_le.mpr q)
    have hl : e + nd N - exPl P = liftOf P N e := by rw [liftOf, if_neg hd]
    refine fin _ _ hl ?_
    rw [← hl]
theorem grp_len : ∀ (n : Nat) (l : List Nat), l.length ≤ n → (grp l).length ≤ 2 * l.length
  | 0, l, h => by unfold grp; rw [dif_pos (by lia)]; lia
  | n + 1, l, h => by
    unfold grp
    split
    · lia
    · have := grp_len n (l.take (l.length - 3)) (by simp only [List.length_take]; lia)
      simp only [List.length_append, List.length_cons, List.length_drop, List.length_take] at this ⊢
      lia
noncomputable def plus : List Nat := [43, 97, 104, 101, 97, 100]
noncomputable def widthOf (P : Pic) : Nat := P.left + (if P.sign = [43, 97, 104, 101, 97, 100] then 1 else 0)
noncomputable def grpA (P : Pic) (A : List Nat) : List Nat := if P.comma && !P.power then grp A else A
noncomputable def leadD (P : Pic) (neg : Bool) : List Nat := leadOf P neg ++ (if P.dollar then [36] else [])
noncomputable def cutA (P : Pic) (neg : Bool) (A B : List Nat) : List Nat := if (leadD P neg ++ A).length > widthOf P ∧ A = [48] ∧ ¬ B = [] then [] else A
noncomputable def roomOf (P : Pic) (neg : Bool) (A : List Nat) : Int := widthOf P - ((leadD P neg ++ A).length : Int)
noncomputable def wholeOf (P : Pic) (neg : Bool) (A B T : List Nat) : List Nat :=
  List.replicate (roomOf P neg A).toNat (if P.star then 42 else 32) ++ leadD P neg ++ A ++ (if P.point then [46] else []) ++ B ++ T ++ tailOf P neg
noncomputable def numOf' (P : Pic) (neg : Bool) (A B T : List Nat) : List Nat := if roomOf P neg A < 0 then 37 :: wholeOf P neg A B T else wholeOf P neg A B T
noncomputable def numOf (P : Pic) (neg : Bool) (A B T : List Nat) : List Nat := numOf' P neg (cutA P neg (grpA P A) B) B T
noncomputable def partsOf (P : Pic) (N : Nat) (e : Int) : List Nat × List Nat × List Nat :=
  if P.power then withExp P N e else ((padded (sc N (e + P.right)) (P.right + 1)).take ((padded (sc N (e + P.right)) (P.right + 1)).length - P.right),
    (padded (sc N (e + P.right)) (P.right + 1)).drop ((padded (sc N (e + P.right)) (P.right + 1)).length - P.right), [])
noncomputable def numBy (P : Pic) (c e : Int) : List Nat := numOf P (decide (c < 0)) (partsOf P c.natAbs e).1 (partsOf P c.natAbs e).2.1 (partsOf P c.natAbs e).2.2
theorem leadOf_len (P : Pic) (neg : Bool) : (leadOf P neg).length ≤ 1 := by unfold leadOf; (repeat' split) <;> simp
theorem tailOf_len (P : Pic) (neg : Bool) : (tailOf P neg).length ≤ 1 := by unfold tailOf; (repeat' split) <;> simp
theorem padded_len {u m : Nat} (hu : u < 10 ^ 1000) (hm : m ≤ 1000) : (padded u m).length ≤ 1000 := by
  have := nz_le hu
  rw [padded, low_len]; lia
theorem nd20 {N : Nat} (hN : N < 2 ^ 62) : nd N ≤ 20 := nd_le (by decide) (Nat.lt_trans hN (by decide))
theorem partsOf_len {P : Pic} {N : Nat} {e : Int} (ok : PicOk P) (hN : N < 2 ^ 62) (h1 : e ≤ 100) (h2 : -100 ≤ e) : (partsOf P N e).1.length ≤ 1000 ∧ (partsOf P N e).2.1.length ≤ 1000 ∧ (partsOf P N e).2.2.length ≤ 1010 := by
  obtain ⟨l, r, s⟩ := ok
  have hpl : exPl P ≤ 100 := by unfold exPl; lia
  have hnd := nd20 hN
  have hl : (liftOf P N e).natAbs ≤ 300 ∧ -300 ≤ liftOf P N e := by unfold liftOf; split <;> lia
  unfold partsOf
  split
  · unfold withExp
    split
    · simp only [List.length_replicate, List.length_cons, List.length_nil]; lia
    · have p1 : (expFig P N e).length ≤ 1000 := padded_len (sc_lt hN (by unfold liftOf; split <;> lia)) (by lia)
      have p2 : (padded (liftOf P N e).natAbs 2).length ≤ 1000 := padded_len (Nat.lt_of_lt_of_le (show (liftOf P N e).natAbs < 10 ^ 3 by lia) (Nat.pow_le_pow_right (by decide) (by decide))) (by lia)
      simp only [List.length_take, List.length_drop, expTold, List.length_cons]; lia
  · have p1 : (padded (sc N (e + P.right)) (P.right + 1)).length ≤ 1000 := padded_len (sc_lt hN (by lia)) (by lia)
    simp only [List.length_take, List.length_drop, List.length_nil]; lia
theorem ite_str {c : Bool} {a b : List Nat} {k : Nat} (h1 : a.length ≤ k) (h2 : b.length ≤ k) : (if c then a else b).length ≤ k := by split <;> assumption
section
set_option hygiene false in
theorem number_by_3 (G : Good C ss fns bs fields) {V : Act C (F_number_by C.K)} {P : Pic} {a : Addr} {ah : AH} (hP : (a, picO C P) ∈ ah) (ok : PicOk P) {val co ex sz : PV} {neg : Bool} {A B T : List Nat} (hA : A.length ≤ 1000) (hB : B.length ≤ 1000) (hT : T.length ≤ 1010) :
    Ws V 59 B_number_by_3 ((prt 19).body.drop 3) ⟨[(Str.ofString "picture", some (.ref a)), (Str.ofString "value", some val), (Str.ofString "coefficient", some co), (Str.ofString "exponent", some ex), (Str.ofString "size", some sz), (Str.ofString "is_below", some (.bool neg)), (Str.ofString "told", some (.str T)), (Str.ofString "ahead", some (.str A)), (Str.ofString "behind", some (.str B)),
      (Str.ofString "lead", none), (Str.ofString "width", none), (Str.ofString "room", none), (Str.ofString "filled", none), (Str.ofString "whole", none)], ah⟩ (fun _ => False) (fun r st => r = .str (numOf P neg A B T) ∧ st.ah = ah) (fun _ => False) := by
  have hl1 := leadOf_len P neg
  have ht1 := tailOf_len P neg
  obtain ⟨okl, okr, oks⟩ := ok
  have hw : widthOf P ≤ 101 := by unfold widthOf; split <;> lia
  have fin7 : ∀ (A : List Nat), A.length ≤ 2000 → Ws V 59 B_number_by_7 ((prt 19).body.drop 7) ⟨[(Str.ofString "picture", some (.ref a)), (Str.ofString "value", some val), (Str.ofString "coefficient", some co), (Str.ofString "exponent", some ex), (Str.ofString "size", some sz), (Str.ofString "is_below", some (.bool neg)), (Str.ofString "told", some (.str T)), (Str.ofString "ahead", some (.str A)), (Str.ofString "behind", some (.str B)),
      (Str.ofString "lead", some (.str (leadD P neg))), (Str.ofString "width", some (.int (widthOf P))), (Str.ofString "room", none), (Str.ofString "filled", none), (Str.ofString "whole", none)], ah⟩ (fun _ => False) (fun r st => r = .str (numOf' P neg A B T) ∧ st.ah = ah) (fun _ => False) := by
    intro A hA
    have hld : (leadD P neg).length ≤ 2 := by
      unfold leadD
      rw [List.length_append]
      have := ite_str (c := P.dollar) (a := [36]) (b := []) (k := 1) (by decide) (by decide)
      lia
    (conv => whnf)
    refine ⟨by lia, ?_⟩
    (conv => whnf)
    refine ⟨by simp only [Small, List.length_append]; lia, ?_⟩
    (conv => whnf)
    refine ⟨_, f_star G hP, ?_⟩
    (conv => whnf)
    have er : (widthOf P : Int) - ((leadD P neg ++ A).length : Int) = roomOf P neg A := rfl
    rw [er]
    have hr1 : -3000 ≤ roomOf P neg A ∧ roomOf P neg A ≤ 101 := by unfold roomOf; rw [List.length_append]; lia
    have es : (if P.star = true then [42] else [32]) = [if P.star then 42 else 32] := by split <;> rfl
    rw [es]
    refine ⟨⟨by lia, by lia, by simp only [List.length_cons, List.length_nil]; lia⟩, ?_⟩
    rw [pyMul_one]
    have hrp : (List.replicate (roomOf P neg A).toNat (if P.star then 42 else 32 : Nat)).length ≤ 101 := by rw [List.length_replicate]; lia
    clear es
    generalize hrd : List.replicate (roomOf P neg A).toNat (if P.star then 42 else 32 : Nat) = rp at hrp
    (conv => whnf)
    refine ⟨by lia, ?_⟩
    (conv => whnf)
    refine ⟨by simp only [List.length_append]; lia, ?_⟩
    (conv => whnf)
    refine ⟨_, f_point G hP, ?_⟩
    (conv => whnf)
    have hpt := ite_str (c := P.point) (a := [46]) (b := []) (k := 1) (by decide) (by decide)
    refine ⟨by simp only [List.length_append]; lia, ?_⟩
    (conv => whnf)
    refine ⟨by simp only [List.length_append]; lia, ?_⟩
    (conv => whnf)
    refine ⟨by simp only [List.length_append]; lia, ?_⟩
    (conv => whnf)
    refine FnP.eq (tail_of_ok G hP) (by decide) ?_
    (conv => whnf)
    refine ⟨by simp only [List.length_append]; lia, ?_⟩
    (conv => whnf)
    have fw : rp ++ leadD P neg ++ A ++ (if P.point = true then [46] else []) ++ B ++ T ++ tailOf P neg = wholeOf P neg A B T := by rw [wholeOf, hrd]
    refine ⟨fun hc => ?_, fun hc => ?_⟩
    · have hc := of_decide_eq_true hc
      (conv => whnf)
      refine ⟨by simp only [List.length_append, List.length_cons, List.length_nil]; lia, ?_⟩
      (conv => whnf)
      refine ⟨?_, rfl⟩
      rw [numOf', if_pos hc, ← fw]; rfl
    · have hc := of_decide_eq_false hc
      (conv => whnf)
      refine ⟨?_, rfl⟩
      rw [numOf', if_neg hc, ← fw]
  have fin4 : ∀ (A : List Nat), A.length ≤ 2000 → Ws V 59 B_number_by_4 ((prt 19).body.drop 4) ⟨[(Str.ofString "picture", some (.ref a)), (Str.ofString "value", some val), (Str.ofString "coefficient", some co), (Str.ofString "exponent", some ex), (Str.ofString "size", some sz), (Str.ofString "is_below", some (.bool neg)), (Str.ofString "told", some (.str T)), (Str.ofString "ahead", some (.str A)), (Str.ofString "behind", some (.str B)),
      (Str.ofString "lead", none), (Str.ofString "width", none), (Str.ofString "room", none), (Str.ofString "filled", none), (Str.ofString "whole", none)], ah⟩ (fun _ => False) (fun r st => r = .str (numOf' P neg (cutA P neg A B) B T) ∧ st.ah = ah) (fun _ => False) := by
    intro A hA
    (conv => whnf)
    refine FnP.eq (lead_of_ok G hP) (by decide) ?_
    (conv => whnf)
    refine ⟨_, f_dollar G hP, ?_⟩
    (conv => whnf)
    have hdl := ite_str (c := P.dollar) (a := [36]) (b := []) (k := 1) (by decide) (by decide)
    refine ⟨by lia, ?_⟩
    (conv => whnf)
    refine ⟨_, f_left G hP, ?_⟩
    (conv => whnf)
    refine ⟨_, f_sign G hP, ?_⟩
    (conv => whnf)
    have ew : ((P.left : Int) + if decide (P.sign = [43, 97, 104, 101, 97, 100]) = true then 1 else 0) = ((widthOf P : Nat) : Int) := by
      unfold widthOf; by_cases h : P.sign = [43, 97, 104, 101, 97, 100] <;> simp [h]
    rw [ew]
    have el : leadOf P neg ++ (if P.dollar = true then [36] else []) = leadD P neg := rfl
    rw [el]
    have hld : (leadD P neg).length ≤ 2 := by
      rw [← el, List.length_append]; lia
    refine ⟨by lia, ?_⟩
    (conv => whnf)
    refine ⟨by simp only [Small, List.length_append]; lia, ?_⟩
    (conv => whnf)
    refine ⟨fun hc => ?_, fun hc => ?_⟩ <;> simp only [Bool.and_eq_true, Bool.and_eq_false_iff, decide_eq_true_eq, decide_eq_false_iff_not, Bool.not_eq_true', Bool.not_eq_false', Int.ofNat_lt] at hc
    · have e : cutA P neg A B = [] := by rw [cutA, if_pos hc]
      rw [e]
      exact fin7 [] (by simp)
    · have e : cutA P neg A B = A := by
        rw [cutA, if_neg]
        intro q
        rcases hc with h | h | h
        · exact h q.1
        · exact h q.2.1
        · exact q.2.2 h
      rw [e]
      exact fin7 A hA
  (conv => whnf)
  refine ⟨_, f_comma G hP, ?_⟩
  (conv => whnf)
  refine ⟨_, f_power G hP, ?_⟩
  (conv => whnf)
  refine ⟨fun hc => ?_, fun hc => ?_⟩
  · (conv => whnf)
    refine FnP.eq (grouped_ok G (by lia)) (by decide) ?_
    have e : grpA P A = grp A := by rw [grpA, if_pos hc]
    have := grp_len _ A (Nat.le_refl _)
    have f := fin4 (grp A) (by lia)
    rw [numOf, e]
    exact f
  · have e : grpA P A = A := by rw [grpA, if_neg (by rw [hc]; decide)]
    have f := fin4 A (by lia)
    rw [numOf, e]
    exact f
end

theorem number_by_1 (G : Good C ss fns bs fields) {V : Act C (F_number_by C.K)} {P : Pic} {a : Addr} {ah : AH} (hP : (a, picO C P) ∈ ah) (ok : PicOk P) {val : PV} {c e : Int} (hc : c.natAbs < 2 ^ 62) (h1 : e ≤ 100) (h2 : -100 ≤ e) :
    Ws V 59 B_number_by_1 ((prt 19).body.drop 1) ⟨[(Str.ofString "picture", some (.ref a)), (Str.ofString "value", some val), (Str.ofString "coefficient", some (.int c)), (Str.ofString "exponent", some (.int e)), (Str.ofString "size", none), (Str.ofString "is_below", none), (Str.ofString "told", none), (Str.ofString "ahead", none), (Str.ofString "behind", none),
      (Str.ofString "lead", none), (Str.ofString "width", none), (Str.ofString "room", none), (Str.ofString "filled", none), (Str.ofString "whole", none)], ah⟩ (fun _ => False) (fun r st => r = .str (numBy P c e) ∧ st.ah = ah) (fun _ => False) := by
  have hpl := partsOf_len ok hc h1 h2
  have ea : (if c < 0 then -c else c) = ((c.natAbs : Nat) : Int) := by split <;> lia
  have okr := ok.r
  (conv => whnf)
  refine ⟨_, f_power G hP, ?_⟩
  (conv => whnf)
  rw [ea]
  refine ⟨fun hp => ?_, fun hp => ?_⟩
  · have ep : partsOf P c.natAbs e = withExp P c.natAbs e := by rw [partsOf, if_pos hp]
    (conv => whnf)
    refine FnP.eq (with_exponent_ok G hP ok hc h1 h2) (by decide) ?_
    rw [ep] at hpl
    have f := number_by_3 (V := V) G hP ok (val := val) (co := .int c) (ex := .int e) (sz := .int c.natAbs) (neg := decide (c < 0)) hpl.1 hpl.2.1 hpl.2.2
    rw [numBy, ep]
    exact f
  · have ep : partsOf P c.natAbs e = ((padded (sc c.natAbs (e + P.right)) (P.right + 1)).take ((padded (sc c.natAbs (e + P.right)) (P.right + 1)).length - P.right),
      (padded (sc c.natAbs (e + P.right)) (P.right + 1)).drop ((padded (sc c.natAbs (e + P.right)) (P.right + 1)).length - P.right), []) := by rw [partsOf, if_neg (by rw [hp]; decide)]
    (conv => whnf)
    refine ⟨_, f_right G hP, ?_⟩
    (conv => whnf)
    refine FnP.eq (scaled_ok G hc (by lia) (by lia)) (by decide) ?_
    (conv => whnf)
    refine ⟨_, f_right G hP, ?_⟩
    (conv => whnf)
    refine FnP.eq (split_figures_ok G (sc_lt hc (by lia)) (by lia)) (by decide) ?_
    rw [ep] at hpl
    have f := number_by_3 (V := V) G hP ok (val := val) (co := .int c) (ex := .int e) (sz := .int c.natAbs) (neg := decide (c < 0)) hpl.1 hpl.2.1 hpl.2.2
    rw [numBy, ep]
    exact f
/-- a number's value -/
inductive NumV (c e : Int) : PV → Prop
  | int : e = 0 → NumV c e (.int c)
  | dec : NumV c e (.tuple [.int c, .int e])
theorem number_by_ok (G : Good C ss fns bs fields) {P : Pic} {a : Addr} {c e : Int} {v : PV} {ah : AH} (hP : (a, picO C P) ∈ ah) (ok : PicOk P) (hv : NumV c e v) (hc : c.natAbs < 2 ^ 62) (h1 : e ≤ 100) (h2 : -100 ≤ e) :
    Fn C 60 (adr C.K "number_by") [.ref a, v] ah fun r ah' => r = .str (numBy P c e) ∧ ah' = ah := by
  refine Fn_W (F := F_number_by C.K) (n := 59) rfl G (D_number_by G) C_number_by rfl rfl fun V => ?_
  cases hv with
  | int h0 =>
    subst h0
    (conv => whnf)
    refine ⟨fun hh => ?_, fun _ => ?_⟩
    · cases hh
    (conv => whnf)
    exact number_by_1 G hP ok hc (by decide) (by decide)
  | dec =>
    (conv => whnf)
    refine ⟨fun _ => ?_, fun hh => ?_⟩
    · (conv => whnf)
      exact number_by_1 G hP ok hc h1 h2
    · cases hh
end Mine
end
section
open PySem PySem.W PyProof.Rows
set_option Elab.async false
set_option genSizeOf false
set_option genInjectivity false
set_option maxRecDepth 100000
set_option maxHeartbeats 1000000
set_option linter.unusedVariables false
set_option linter.unusedSimpArgs false
namespace Mine
variable {C : Cx}
/-! ### reading a picture -/
theorem slA {t l : List Nat} {i j : Int} (a k : Nat) (hi : i = a) (hj : j = a + k) (hd : t.drop a = l) : pySlice (some i) (some j) t = l.take k := by
  have hj : j = ((a + k : Nat) : Int) := by rw [hj]; rfl
  subst hi hj hd
  unfold pySlice
  rw [clip_nat, clip_nat, take_min]
  rcases Nat.le_total a t.length with h | h
  · rw [Nat.min_eq_left h, List.drop_take, Nat.add_sub_cancel_left]
  · rw [Nat.min_eq_right h, List.drop_of_length_le h, List.take_nil]
    exact List.drop_of_length_le (List.length_take_le' _ _)
theorem sl1 {t l : List Nat} {a : Nat} (hd : t.drop a = l) : pySlice (some (a : Int)) (some ((a : Int) + 1)) t = l.take 1 := slA a 1 rfl rfl hd
theorem sl2 {t l : List Nat} {a : Nat} (hd : t.drop a = l) : pySlice (some (a : Int)) (some ((a : Int) + 2)) t = l.take 2 := slA a 2 rfl rfl hd
theorem sl4 {t l : List Nat} {a : Nat} (hd : t.drop a = l) : pySlice (some (a : Int)) (some ((a : Int) + 4)) t = l.take 4 := slA a 4 rfl rfl hd
theorem up1 (a : Nat) : (a : Int) + 1 = ((a + 1 : Nat) : Int) := by omega
theorem up2 (a : Nat) : (a : Int) + 2 = ((a + 2 : Nat) : Int) := by omega
theorem up4 (a : Nat) : (a : Int) + 4 = ((a + 4 : Nat) : Int) := by omega
theorem dropUp {t l : List Nat} {a : Nat} (hd : t.drop a = l) (k : Nat) : t.drop (a + k) = l.drop k := by rw [← List.drop_drop, hd]
noncomputable def begins (l : List Nat) : Bool := (fun m : List Nat => decide (m.take 1 = [35]) || [[42, 42], [36, 36], [46, 35]].contains (m.take 2)) (if l.take 1 = [43] then l.drop 1 else l)
theorem begins_number_ok (G : Good C ss fns bs fields) {t l : List Nat} {a : Nat} {ah : AH} (hd : t.drop a = l) (hs : t.length ≤ 100000) : Fn C 10 (adr C.K "begins_number") [.str t, .int a] ah fun r ah' => r = .bool (begins l) ∧ ah' = ah := by
  refine Fn_W (F := F_begins_number C.K) (n := 9) rfl G (D_begins_number G) C_begins_number rfl rfl fun V => ?_
  (conv => whnf)
  refine ⟨by (first | assumption | exact len_small (by assumption) | exact len_small (by simp only [List.length_append, List.length_cons, List.length_nil, low_len]; omega) | omega | (simp only [List.length_append, List.length_cons, List.length_nil, low_len]; omega)), ?_⟩
  rw [sl1 hd]
  (conv => whnf)
  refine ⟨fun hc => ?_, fun hc => ?_⟩
  · have hc := of_decide_eq_true hc
    have hd1 := dropUp hd 1
    (conv => whnf)
    refine ⟨by (first | assumption | exact len_small (by assumption) | exact len_small (by simp only [List.length_append, List.length_cons, List.length_nil, low_len]; omega) | omega | (simp only [List.length_append, List.length_cons, List.length_nil, low_len]; omega)), ?_⟩
    rw [up1, sl1 hd1]
    (conv => whnf)
    refine ⟨by (first | assumption | exact len_small (by assumption) | exact len_small (by simp only [List.length_append, List.length_cons, List.length_nil, low_len]; omega) | omega | (simp only [List.length_append, List.length_cons, List.length_nil, low_len]; omega)), ?_⟩
    rw [sl2 hd1]
    (conv => whnf)
    exact ⟨by rw [begins, if_pos hc], rfl⟩
  · have hc := of_decide_eq_false hc
    (conv => whnf)
    refine ⟨by (first | assumption | exact len_small (by assumption) | exact len_small (by simp only [List.length_append, List.length_cons, List.length_nil, low_len]; omega) | omega | (simp only [List.length_append, List.length_cons, List.length_nil, low_len]; omega)), ?_⟩
    rw [sl1 hd]
    (conv => whnf)
    refine ⟨by (first | assumption | exact len_small (by assumption) | exact len_small (by simp only [List.length_append, List.length_cons, List.length_nil, low_len]; omega) | omega | (simp only [List.length_append, List.length_cons, List.length_nil, low_len]; omega)), ?_⟩
    rw [sl2 hd]
    (conv => whnf)
    exact ⟨by rw [begins, if_neg hc], rfl⟩

noncomputable def pic0 : Pic := ⟨0, 0, false, false, false, false, false, []⟩
theorem init_ok (G : Good C ss fns bs fields) {a : Addr} {ah : AH} : Fn C 10 (initAt C.K (picA C)) [.ref a] ((a, .inst (picA C) []) :: ah) fun r ah' => r = .none ∧ ah' = (a, picO C pic0) :: ah := by
  refine Fn_W (F := F_init C.K) (n := 9) rfl G (D_init G) C_init rfl rfl fun V => ?_
  (conv => whnf)
  refine ⟨_, .new .here (by decide +kernel) (G.field (mem_of (by kernel_rfl))) (by decide), ?_⟩
  (conv => whnf)
  refine ⟨_, .new .here (by decide +kernel) (G.field (mem_of (by kernel_rfl))) (by decide), ?_⟩
  (conv => whnf)
  refine ⟨_, .new .here (by decide +kernel) (G.field (mem_of (by kernel_rfl))) (by decide), ?_⟩
  (conv => whnf)
  refine ⟨_, .new .here (by decide +kernel) (G.field (mem_of (by kernel_rfl))) (by decide), ?_⟩
  (conv => whnf)
  refine ⟨_, .new .here (by decide +kernel) (G.field (mem_of (by kernel_rfl))) (by decide), ?_⟩
  (conv => whnf)
  refine ⟨_, .new .here (by decide +kernel) (G.field (mem_of (by kernel_rfl))) (by decide), ?_⟩
  (conv => whnf)
  refine ⟨_, .new .here (by decide +kernel) (G.field (mem_of (by kernel_rfl))) (by decide), ?_⟩
  (conv => whnf)
  refine ⟨_, .new .here (by decide +kernel) (G.field (mem_of (by kernel_rfl))) (by decide), ?_⟩
  (conv => whnf)
  exact ⟨rfl, rfl⟩
/-! setting a field of a picture -/
section
variable {a : Addr} {ah : AH} {P : Pic}
theorem s_left (G : Good C ss fns bs fields) (n : Nat) : FieldPut C ((a, picO C P) :: ah) "left" (.int n) (.ref a) ((a, picO C { P with left := n }) :: ah) := .mk .here .here (G.field (mem_of (by kernel_rfl))) (by simp)
theorem s_right (G : Good C ss fns bs fields) (n : Nat) : FieldPut C ((a, picO C P) :: ah) "right" (.int n) (.ref a) ((a, picO C { P with right := n }) :: ah) := .mk .here (.next .here) (G.field (mem_of (by kernel_rfl))) (by simp)
theorem s_point (G : Good C ss fns bs fields) (b : Bool) : FieldPut C ((a, picO C P) :: ah) "has_point" (.bool b) (.ref a) ((a, picO C { P with point := b }) :: ah) := .mk .here (.next (.next .here)) (G.field (mem_of (by kernel_rfl))) (by simp)
theorem s_star (G : Good C ss fns bs fields) (b : Bool) : FieldPut C ((a, picO C P) :: ah) "has_star" (.bool b) (.ref a) ((a, picO C { P with star := b }) :: ah) := .mk .here (.next (.next (.next .here))) (G.field (mem_of (by kernel_rfl))) (by simp)
theorem s_dollar (G : Good C ss fns bs fields) (b : Bool) : FieldPut C ((a, picO C P) :: ah) "has_dollar" (.bool b) (.ref a) ((a, picO C { P with dollar := b }) :: ah) := .mk .here (.next (.next (.next (.next .here)))) (G.field (mem_of (by kernel_rfl))) (by simp)
theorem s_comma (G : Good C ss fns bs fields) (b : Bool) : FieldPut C ((a, picO C P) :: ah) "has_comma" (.bool b) (.ref a) ((a, picO C { P with comma := b }) :: ah) := .mk .here (.next (.next (.next (.next (.next .here))))) (G.field (mem_of (by kernel_rfl))) (by simp)
theorem s_power (G : Good C ss fns bs fields) (b : Bool) : FieldPut C ((a, picO C P) :: ah) "has_exponent" (.bool b) (.ref a) ((a, picO C { P with power := b }) :: ah) := .mk .here (.next (.next (.next (.next (.next (.next .here)))))) (G.field (mem_of (by kernel_rfl))) (by simp)
theorem s_sign (G : Good C ss fns bs fields) (l : List Nat) : FieldPut C ((a, picO C P) :: ah) "sign" (.str l) (.ref a) ((a, picO C { P with sign := l }) :: ah) := .mk .here (.next (.next (.next (.next (.next (.next (.next .here))))))) (G.field (mem_of (by kernel_rfl))) (by simp)
end
/-- the marks ahead: what they make of the picture, and how many signs they are -/
noncomputable def rdA (P : Pic) (l : List Nat) : Pic × Nat :=
  if l.take 2 = [42, 42] then (if (l.drop 2).take 1 = [36] then ({ P with star := true, dollar := true, left := 3 }, 3) else ({ P with star := true, left := 2 }, 2))
  else if l.take 2 = [36, 36] then ({ P with dollar := true, left := 2 }, 2) else (P, 0)
noncomputable def rdA1 (P : Pic) (l : List Nat) : Pic × Nat := if l.take 1 = [43] then ((rdA { P with sign := [43, 97, 104, 101, 97, 100] } (l.drop 1)).1, (rdA { P with sign := [43, 97, 104, 101, 97, 100] } (l.drop 1)).2 + 1) else rdA P l
theorem read_ahead_1 (G : Good C ss fns bs fields) {V : Act C (F_read_ahead C.K)} {t l : List Nat} {i : Nat} {a : Addr} {P : Pic} {ah : AH} (hd : t.drop i = l) (hs : t.length ≤ 100000) :
    Ws V 9 B_read_ahead_1 ((prt 7).body.drop 1) ⟨[(Str.ofString "picture", some (.ref a)), (Str.ofString "text", some (.str t)), (Str.ofString "at", some (.int i))], (a, picO C P) :: ah⟩ (fun _ => False)
      (fun r st => r = .int ((i + (rdA P l).2 : Nat) : Int) ∧ st.ah = (a, picO C (rdA P l).1) :: ah) (fun _ => False) := by
  (conv => whnf)
  refine ⟨by (first | assumption | exact len_small (by assumption) | exact len_small (by simp only [List.length_append, List.length_cons, List.length_nil, low_len]; omega) | omega | (simp only [List.length_append, List.length_cons, List.length_nil, low_len]; omega)), ?_⟩
  rw [sl2 hd]
  (conv => whnf)
  refine ⟨fun hc => ?_, fun hc => ?_⟩
  · have hc := of_decide_eq_true hc
    have hd2 := dropUp hd 2
    (conv => whnf)
    refine ⟨rfl, ?_⟩
    (conv => whnf)
    refine ⟨_, s_star G true, ?_⟩
    (conv => whnf)
    refine ⟨_, s_left G 2, ?_⟩
    (conv => whnf)
    refine ⟨by (first | assumption | exact len_small (by assumption) | exact len_small (by simp only [List.length_append, List.length_cons, List.length_nil, low_len]; omega) | omega | (simp only [List.length_append, List.length_cons, List.length_nil, low_len]; omega)), ?_⟩
    rw [up2, sl1 hd2]
    (conv => whnf)
    refine ⟨fun he => ?_, fun he => ?_⟩
    · have he := of_decide_eq_true he
      (conv => whnf)
      refine ⟨rfl, ?_⟩
      (conv => whnf)
      refine ⟨_, s_dollar G true, ?_⟩
      (conv => whnf)
      refine ⟨_, s_left G 3, ?_⟩
      (conv => whnf)
      rw [rdA, if_pos hc, if_pos he]
      exact ⟨rfl, rfl⟩
    · have he := of_decide_eq_false he
      (conv => whnf)
      rw [rdA, if_pos hc, if_neg he]
      exact ⟨rfl, rfl⟩
  · have hc := of_decide_eq_false hc
    (conv => whnf)
    refine ⟨by (first | assumption | exact len_small (by assumption) | exact len_small (by simp only [List.length_append, List.length_cons, List.length_nil, low_len]; omega) | omega | (simp only [List.length_append, List.length_cons, List.length_nil, low_len]; omega)), ?_⟩
    rw [sl2 hd]
    (conv => whnf)
    refine ⟨fun he => ?_, fun he => ?_⟩
    · have he := of_decide_eq_true he
      (conv => whnf)
      refine ⟨rfl, ?_⟩
      (conv => whnf)
      refine ⟨_, s_dollar G true, ?_⟩
      (conv => whnf)
      refine ⟨_, s_left G 2, ?_⟩
      (conv => whnf)
      rw [rdA, if_neg hc, if_pos he]
      exact ⟨rfl, rfl⟩
    · have he := of_decide_eq_false he
      (conv => whnf)
      rw [rdA, if_neg hc, if_neg he]
      exact ⟨rfl, rfl⟩
theorem read_ahead_ok (G : Good C ss fns bs fields) {t l : List Nat} {i : Nat} {a : Addr} {P : Pic} {ah : AH} (hd : t.drop i = l) (hs : t.length ≤ 100000) :
    Fn C 10 (adr C.K "read_ahead") [.ref a, .str t, .int i] ((a, picO C P) :: ah) fun r ah' => r = .int ((i + (rdA1 P l).2 : Nat) : Int) ∧ ah' = (a, picO C (rdA1 P l).1) :: ah := by
  refine Fn_W (F := F_read_ahead C.K) (n := 9) rfl G (D_read_ahead G) C_read_ahead rfl rfl fun V => ?_
  (conv => whnf)
  refine ⟨by (first | assumption | exact len_small (by assumption) | exact len_small (by simp only [List.length_append, List.length_cons, List.length_nil, low_len]; omega) | omega | (simp only [List.length_append, List.length_cons, List.length_nil, low_len]; omega)), ?_⟩
  rw [sl1 hd]
  (conv => whnf)
  refine ⟨fun hc => ?_, fun hc => ?_⟩
  · have hc := of_decide_eq_true hc
    (conv => whnf)
    refine ⟨rfl, ?_⟩
    (conv => whnf)
    refine ⟨_, s_sign G [43, 97, 104, 101, 97, 100], ?_⟩
    (conv => whnf)
    have f := read_ahead_1 (V := V) G (a := a) (P := { P with sign := [43, 97, 104, 101, 97, 100] }) (ah := ah) (dropUp hd 1) hs
    rw [rdA1, if_pos hc]
    rw [up1]
    have e : i + ((rdA { P with sign := [43, 97, 104, 101, 97, 100] } (l.drop 1)).2 + 1) = i + 1 + (rdA { P with sign := [43, 97, 104, 101, 97, 100] } (l.drop 1)).2 := by omega
    dsimp only
    rw [e]
    exact f
  · have hc := of_decide_eq_false hc
    have f := read_ahead_1 (V := V) G (a := a) (P := P) (ah := ah) hd hs
    rw [rdA1, if_neg hc]
    exact f
/-- the places before the point -/
noncomputable def rdL : Pic → List Nat → Pic × Nat
  | P, [] => (P, 0)
  | P, c :: r => if c = 35 ∨ c = 44 then ((rdL { P with comma := P.comma || decide (c = 44), left := P.left + 1 } r).1, (rdL { P with comma := P.comma || decide (c = 44), left := P.left + 1 } r).2 + 1) else (P, 0)
/-- those behind it -/
noncomputable def rdR : Pic → List Nat → Pic × Nat
  | P, [] => (P, 0)
  | P, c :: r => if c = 35 then ((rdR { P with right := P.right + 1 } r).1, (rdR { P with right := P.right + 1 } r).2 + 1) else (P, 0)
noncomputable def rdQ (P : Pic) (l : List Nat) : Pic × Nat := if l.take 1 = [46] then ((rdR { P with point := true } (l.drop 1)).1, (rdR { P with point := true } (l.drop 1)).2 + 1) else (P, 0)
noncomputable def rdP (P : Pic) (l : List Nat) : Pic × Nat := ((rdQ (rdL P l).1 (l.drop (rdL P l).2)).1, (rdL P l).2 + (rdQ (rdL P l).1 (l.drop (rdL P l).2)).2)
theorem drop_cons {t r : List Nat} {i c : Nat} (hd : t.drop i = c :: r) : i < t.length ∧ t.getD (pyIdx t.length (i : Int)) 0 = c ∧ t.drop (i + 1) = r := by
  have h1 : i < t.length := by
    rcases Nat.lt_or_ge i t.length with h | h
    · exact h
    · rw [List.drop_of_length_le h] at hd; cases hd
  refine ⟨h1, ?_, ?_⟩
  · rw [List.drop_eq_getElem_cons h1] at hd
    have : t[i] = c := by cases hd; rfl
    unfold pyIdx
    rw [if_neg (by omega)]
    simp [List.getD, h1, this]
  · rw [← List.drop_drop, hd]; rfl
theorem rdL_some {c : Nat} {r : List Nat} {P : Pic} (h : c = 35 ∨ c = 44) : rdL P (c :: r) = ((rdL { P with comma := P.comma || decide (c = 44), left := P.left + 1 } r).1, (rdL { P with comma := P.comma || decide (c = 44), left := P.left + 1 } r).2 + 1) := by rw [rdL, if_pos h]
theorem rdR_some {r : List Nat} {P : Pic} : rdR P (35 :: r) = ((rdR { P with right := P.right + 1 } r).1, (rdR { P with right := P.right + 1 } r).2 + 1) := by rw [rdR, if_pos rfl]
theorem in_marks (c : Nat) (r : List Nat) : [[35], [44]].contains ((c :: r).take 1) = true ↔ c = 35 ∨ c = 44 := by
  simp
theorem read_places_1 (G : Good C ss fns bs fields) {V : Act C (F_read_places C.K)} {t l : List Nat} {i : Nat} {a : Addr} {P : Pic} {ah : AH} (hd : t.drop i = l) (hs : t.length ≤ 100000) :
    Ws V 9 B_read_places_1 ((prt 8).body.drop 1) ⟨[(Str.ofString "picture", some (.ref a)), (Str.ofString "text", some (.str t)), (Str.ofString "at", some (.int i))], (a, picO C P) :: ah⟩ (fun _ => False)
      (fun r st => r = .int ((i + (rdQ P l).2 : Nat) : Int) ∧ st.ah = (a, picO C (rdQ P l).1) :: ah) (fun _ => False) := by
  (conv => whnf)
  refine ⟨by (first | assumption | exact len_small (by assumption) | exact len_small (by simp only [List.length_append, List.length_cons, List.length_nil, low_len]; omega) | omega | (simp only [List.length_append, List.length_cons, List.length_nil, low_len]; omega)), ?_⟩
  rw [sl1 hd]
  (conv => whnf)
  refine ⟨fun hc => ?_, fun hc => ?_⟩
  · have hc := of_decide_eq_true hc
    have hd1 := dropUp hd 1
    rw [rdQ, if_pos hc]
    (conv => whnf)
    refine ⟨rfl, ?_⟩
    (conv => whnf)
    refine ⟨_, s_point G true, ?_⟩
    (conv => whnf)
    rw [up1]
    generalize hP1 : ({ P with point := true } : Pic) = P1
    refine ⟨List Nat × Nat × Pic, fun q => ⟨[(Str.ofString "picture", some (.ref a)), (Str.ofString "text", some (.str t)), (Str.ofString "at", some (.int q.2.1))], (a, picO C q.2.2) :: ah⟩,
      fun q => t.drop q.2.1 = q.1 ∧ (rdR q.2.2 q.1).1 = (rdR P1 (l.drop 1)).1 ∧ q.2.1 + (rdR q.2.2 q.1).2 = i + 1 + (rdR P1 (l.drop 1)).2, fun q => q.1.length, (l.drop 1, i + 1, P1), ⟨rfl, hd1, rfl, rfl⟩, fun q hq => ?_⟩
    obtain ⟨m, j, P2⟩ := q
    obtain ⟨q1, q2, q3⟩ := hq
    dsimp only at q1 q2 q3
    (conv => whnf)
    refine ⟨by (first | assumption | exact len_small (by assumption) | exact len_small (by simp only [List.length_append, List.length_cons, List.length_nil, low_len]; omega) | omega | (simp only [List.length_append, List.length_cons, List.length_nil, low_len]; omega)), ?_⟩
    rw [sl1 q1]
    (conv => whnf)
    refine ⟨fun he => ?_, fun he => ?_⟩
    · have he := of_decide_eq_true he
      cases m with
      | nil => cases he
      | cons c r =>
        have : c = 35 := by simpa using he
        subst this
        obtain ⟨g1, g2, g3⟩ := drop_cons q1
        rw [rdR_some] at q2 q3
        dsimp only at q2 q3
        (conv => whnf)
        refine ⟨_, f_right G (.head _), ?_⟩
        (conv => whnf)
        refine ⟨rfl, ?_⟩
        (conv => whnf)
        refine ⟨_, s_right G (P2.right + 1), ?_⟩
        (conv => whnf)
        refine ⟨(r, j + 1, { P2 with right := P2.right + 1 }), rfl, ⟨g3, q2, ?_⟩, ?_⟩
        · dsimp only; omega
        · dsimp only; simp
    · have he := of_decide_eq_false he
      have e0 : rdR P2 m = (P2, 0) := by
        cases m with
        | nil => rfl
        | cons c r =>
          have : ¬ c = 35 := fun q => he (by simp [q])
          rw [rdR, if_neg this]
      rw [e0] at q2 q3
      dsimp only at q2 q3
      (conv => whnf)
      refine ⟨?_, by rw [← q2]⟩
      have : j = i + ((rdR P1 (l.drop 1)).2 + 1) := by omega
      rw [this]
  · have hc := of_decide_eq_false hc
    (conv => whnf)
    rw [rdQ, if_neg hc]
    exact ⟨rfl, rfl⟩
theorem read_places_ok (G : Good C ss fns bs fields) {t l : List Nat} {i : Nat} {a : Addr} {P : Pic} {ah : AH} (hd : t.drop i = l) (hs : t.length ≤ 100000) :
    Fn C 10 (adr C.K "read_places") [.ref a, .str t, .int i] ((a, picO C P) :: ah) fun r ah' => r = .int ((i + (rdP P l).2 : Nat) : Int) ∧ ah' = (a, picO C (rdP P l).1) :: ah := by
  refine Fn_W (F := F_read_places C.K) (n := 9) rfl G (D_read_places G) C_read_places rfl rfl fun V => ?_
  (conv => whnf)
  refine ⟨List Nat × Nat × Pic, fun q => ⟨[(Str.ofString "picture", some (.ref a)), (Str.ofString "text", some (.str t)), (Str.ofString "at", some (.int q.2.1))], (a, picO C q.2.2) :: ah⟩,
    fun q => t.drop q.2.1 = q.1 ∧ (rdL q.2.2 q.1).1 = (rdL P l).1 ∧ q.2.1 + (rdL q.2.2 q.1).2 = i + (rdL P l).2, fun q => q.1.length, (l, i, P), ⟨rfl, hd, rfl, rfl⟩, fun q hq => ?_⟩
  obtain ⟨m, j, P2⟩ := q
  obtain ⟨q1, q2, q3⟩ := hq
  dsimp only at q1 q2 q3
  (conv => whnf)
  refine ⟨by (first | assumption | exact len_small (by assumption) | exact len_small (by simp only [List.length_append, List.length_cons, List.length_nil, low_len]; omega) | omega | (simp only [List.length_append, List.length_cons, List.length_nil, low_len]; omega)), ?_⟩
  rw [sl1 q1]
  (conv => whnf)
  refine ⟨by (first | assumption | exact len_small (by assumption) | exact len_small (by simp only [List.length_append, List.length_cons, List.length_nil, low_len]; omega) | omega | (simp only [List.length_append, List.length_cons, List.length_nil, low_len]; omega)), ?_⟩
  (conv => whnf)
  refine ⟨fun hc => ?_, fun hc => ?_⟩
  · simp only [Bool.and_eq_true, decide_eq_true_eq] at hc
    cases m with
    | nil => exact absurd hc.1 (by decide)
    | cons c r =>
      have hcc := (in_marks c r).mp hc.1
      obtain ⟨g1, g2, g3⟩ := drop_cons q1
      rw [rdL_some hcc] at q2 q3
      dsimp only at q2 q3
      (conv => whnf)
      refine ⟨_, f_comma G (.head _), ?_⟩
      (conv => whnf)
      refine ⟨⟨by (first | assumption | exact len_small (by assumption) | exact len_small (by simp only [List.length_append, List.length_cons, List.length_nil, low_len]; omega) | omega | (simp only [List.length_append, List.length_cons, List.length_nil, low_len]; omega)), by dsimp only; omega, by dsimp only; omega⟩, ?_⟩
      dsimp only
      rw [g2]
      (conv => whnf)
      have ec : decide ([c] = [44]) = decide (c = 44) := by simp
      rw [ec]
      refine ⟨_, s_comma G (P2.comma || decide (c = 44)), ?_⟩
      (conv => whnf)
      refine ⟨_, f_left G (.head _), ?_⟩
      (conv => whnf)
      refine ⟨rfl, ?_⟩
      (conv => whnf)
      refine ⟨_, s_left G (P2.left + 1), ?_⟩
      (conv => whnf)
      refine ⟨(r, j + 1, { P2 with comma := P2.comma || decide (c = 44), left := P2.left + 1 }), rfl, ⟨g3, q2, ?_⟩, ?_⟩
      · dsimp only; omega
      · dsimp only; simp
  · have e0 : rdL P2 m = (P2, 0) := by
      cases m with
      | nil => rfl
      | cons c r =>
        obtain ⟨g1, g2, g3⟩ := drop_cons q1
        have : ¬ (c = 35 ∨ c = 44) := fun q => by
          rw [(in_marks c r).mpr q] at hc
          have : decide ((j : Int) < t.length) = true := by simpa using g1
          rw [this] at hc; cases hc
        rw [rdL, if_neg this]
    rw [e0] at q2 q3
    dsimp only at q2 q3
    have hj : j = i + (rdL P l).2 := by omega
    subst hj
    have f := read_places_1 (V := V) G (a := a) (P := P2) (ah := ah) (l := l.drop (rdL P l).2) (by rw [← dropUp hd]) hs
    rw [rdP, ← q2]
    dsimp only
    rw [← Nat.add_assoc]
    exact f
noncomputable def rdPow (P : Pic) (l : List Nat) : Pic × Nat := if l.take 4 = [94, 94, 94, 94] then ({ P with power := true }, 4) else (P, 0)
noncomputable def rdS (P : Pic) : List Nat → Pic × Nat
  | [] => (P, 0)
  | c :: _ => if P.sign = [] ∧ (c = 43 ∨ c = 45) then ({ P with sign := [c] ++ [98, 101, 104, 105, 110, 100] }, 1) else (P, 0)
/-- two steps of the reading, one after the other -/
noncomputable def seqR (f g : Pic → List Nat → Pic × Nat) (P : Pic) (l : List Nat) : Pic × Nat := ((g (f P l).1 (l.drop (f P l).2)).1, (f P l).2 + (g (f P l).1 (l.drop (f P l).2)).2)
noncomputable def rdPic (l : List Nat) : Pic × Nat := seqR (seqR (seqR rdA1 rdP) rdPow) rdS pic0 l
theorem read_picture_3 (G : Good C ss fns bs fields) {V : Act C (F_read_picture C.K)} {t l : List Nat} {i : Nat} {a : Addr} {P : Pic} {ah : AH} (hd : t.drop i = l) (hs : t.length ≤ 100000) {Qr : Kon} (hQ : ∀ loc, Qr (.tuple [.ref a, .int ((i + (rdS P l).2 : Nat) : Int)]) ⟨loc, (a, picO C (rdS P l).1) :: ah⟩) :
    Ws V 19 B_read_picture_3 ((prt 9).body.drop 3) ⟨[(Str.ofString "text", some (.str t)), (Str.ofString "at", some (.int i)), (Str.ofString "picture", some (.ref a))], (a, picO C P) :: ah⟩ (fun _ => False)
      Qr (fun _ => False) := by
  (conv => whnf)
  refine ⟨_, f_sign G (.head _), ?_⟩
  (conv => whnf)
  refine ⟨by (first | assumption | exact len_small (by assumption) | exact len_small (by simp only [List.length_append, List.length_cons, List.length_nil, low_len]; omega) | omega | (simp only [List.length_append, List.length_cons, List.length_nil, low_len]; omega)), ?_⟩
  rw [sl1 hd]
  (conv => whnf)
  refine ⟨by (first | assumption | exact len_small (by assumption) | exact len_small (by simp only [List.length_append, List.length_cons, List.length_nil, low_len]; omega) | omega | (simp only [List.length_append, List.length_cons, List.length_nil, low_len]; omega)), ?_⟩
  (conv => whnf)
  refine ⟨fun hc => ?_, fun hc => ?_⟩
  · simp only [Bool.and_eq_true, decide_eq_true_eq] at hc
    obtain ⟨h1, h2, h3⟩ := hc
    cases l with
    | nil => exact absurd h2 (by decide)
    | cons c r =>
      obtain ⟨g1, g2, g3⟩ := drop_cons hd
      have hcc : c = 43 ∨ c = 45 := by simpa using h2
      (conv => whnf)
      refine ⟨⟨by (first | assumption | exact len_small (by assumption) | exact len_small (by simp only [List.length_append, List.length_cons, List.length_nil, low_len]; omega) | omega | (simp only [List.length_append, List.length_cons, List.length_nil, low_len]; omega)), by omega, by omega⟩, ?_⟩
      rw [g2]
      (conv => whnf)
      refine ⟨by simp, ?_⟩
      (conv => whnf)
      refine ⟨rfl, ?_⟩
      (conv => whnf)
      refine ⟨_, s_sign G ([c] ++ [98, 101, 104, 105, 110, 100]), ?_⟩
      (conv => whnf)
      rw [rdS, if_pos ⟨h1, hcc⟩] at hQ
      exact hQ _
  · have e0 : rdS P l = (P, 0) := by
      cases l with
      | nil => rfl
      | cons c r =>
        obtain ⟨g1, g2, g3⟩ := drop_cons hd
        rw [rdS, if_neg]
        rintro ⟨q1, q2⟩
        have h2 : [[43], [45]].contains ((c :: r).take 1) = true := by simpa using q2
        have h3 : decide ((i : Int) < t.length) = true := by simpa using g1
        rw [h2, h3, decide_eq_true q1] at hc
        cases hc
    (conv => whnf)
    rw [e0] at hQ
    exact hQ _
theorem read_picture_2 (G : Good C ss fns bs fields) {V : Act C (F_read_picture C.K)} {t l : List Nat} {i : Nat} {a : Addr} {P : Pic} {ah : AH} (hd : t.drop i = l) (hs : t.length ≤ 100000) {Qr : Kon} (hQ : ∀ loc, Qr (.tuple [.ref a, .int ((i + (seqR rdPow rdS P l).2 : Nat) : Int)]) ⟨loc, (a, picO C (seqR rdPow rdS P l).1) :: ah⟩) :
    Ws V 19 B_read_picture_2 ((prt 9).body.drop 2) ⟨[(Str.ofString "text", some (.str t)), (Str.ofString "at", some (.int i)), (Str.ofString "picture", some (.ref a))], (a, picO C P) :: ah⟩ (fun _ => False)
      Qr (fun _ => False) := by
  (conv => whnf)
  refine ⟨by (first | assumption | exact len_small (by assumption) | exact len_small (by simp only [List.length_append, List.length_cons, List.length_nil, low_len]; omega) | omega | (simp only [List.length_append, List.length_cons, List.length_nil, low_len]; omega)), ?_⟩
  rw [sl4 hd]
  (conv => whnf)
  refine ⟨fun hc => ?_, fun hc => ?_⟩
  · have hc := of_decide_eq_true hc
    (conv => whnf)
    refine ⟨rfl, ?_⟩
    (conv => whnf)
    refine ⟨_, s_power G true, ?_⟩
    (conv => whnf)
    rw [seqR, rdPow, if_pos hc] at hQ
    dsimp only at hQ
    simp only [← Nat.add_assoc] at hQ
    rw [up4]
    exact read_picture_3 (V := V) G (a := a) (P := { P with power := true }) (ah := ah) (dropUp hd 4) hs hQ
  · have hc := of_decide_eq_false hc
    rw [seqR, rdPow, if_neg hc] at hQ
    dsimp only at hQ
    simp only [Nat.zero_add] at hQ
    exact read_picture_3 (V := V) G (a := a) (P := P) (ah := ah) hd hs hQ
theorem seqR_assoc (f g h : Pic → List Nat → Pic × Nat) (P : Pic) (l : List Nat) : seqR (seqR f g) h P l = seqR f (seqR g h) P l := by
  simp only [seqR, List.drop_drop, Nat.add_assoc]
theorem read_picture_ok (G : Good C ss fns bs fields) {t l : List Nat} {i : Nat} {ah : AH} (hd : t.drop i = l) (hs : t.length ≤ 100000) :
    Fn C 20 (adr C.K "read_picture") [.str t, .int i] ah fun r ah' => ∃ a, a ∉ ah.map (·.1) ∧ r = .tuple [.ref a, .int ((i + (rdPic l).2 : Nat) : Int)] ∧ ah' = (a, picO C (rdPic l).1) :: ah := by
  refine Fn_W (F := F_read_picture C.K) (n := 19) rfl G (D_read_picture G) C_read_picture rfl rfl fun V => ?_
  (conv => whnf)
  refine ⟨fun a hfr => Fn.mono (init_ok G) (by decide) ?_, by decide⟩
  rintro _ _ ⟨rfl, rfl⟩
  refine ⟨rfl, ?_⟩
  (conv => whnf)
  refine FnP.eq (read_ahead_ok G hd hs) (by decide) ?_
  (conv => whnf)
  refine FnP.eq (read_places_ok G (dropUp hd (rdA1 pic0 l).2) hs) (by decide) ?_
  have e : rdPic l = ((seqR rdPow rdS (seqR rdA1 rdP pic0 l).1 (l.drop (seqR rdA1 rdP pic0 l).2)).1, (seqR rdA1 rdP pic0 l).2 + (seqR rdPow rdS (seqR rdA1 rdP pic0 l).1 (l.drop (seqR rdA1 rdP pic0 l).2)).2) := by
    rw [rdPic, seqR_assoc]; rfl
  have hq : ∀ loc : Loc, (fun (p : PV) (st : St) => ∃ a, a ∉ ah.map (·.1) ∧ p = .tuple [.ref a, .int ((i + (rdPic l).2 : Nat) : Int)] ∧ st.ah = (a, picO C (rdPic l).1) :: ah)
      (.tuple [.ref a, .int ((i + (seqR rdA1 rdP pic0 l).2 + (seqR rdPow rdS (seqR rdA1 rdP pic0 l).1 (l.drop (seqR rdA1 rdP pic0 l).2)).2 : Nat) : Int)]) ⟨loc, (a, picO C (seqR rdPow rdS (seqR rdA1 rdP pic0 l).1 (l.drop (seqR rdA1 rdP pic0 l).2)).1) :: ah⟩ := by
    intro loc
    refine ⟨a, hfr, ?_, ?_⟩
    · rw [e]; dsimp only; rw [Nat.add_assoc]
    · rw [e]
  have f := read_picture_2 (V := V) G (a := a) (P := (seqR rdA1 rdP pic0 l).1) (ah := ah) (dropUp hd (seqR rdA1 rdP pic0 l).2) hs (Qr := fun (p : PV) (st : St) => ∃ a, a ∉ ah.map (·.1) ∧ p = .tuple [.ref a, .int ((i + (rdPic l).2 : Nat) : Int)] ∧ st.ah = (a, picO C (rdPic l).1) :: ah) hq
  have e2 : i + (seqR rdA1 rdP pic0 l).2 = i + (rdA1 pic0 l).2 + (rdP (rdA1 pic0 l).1 (l.drop (rdA1 pic0 l).2)).2 := by
    rw [seqR, Nat.add_assoc]
  rw [e2] at f
  exact f
end Mine
end
section
open PySem PySem.W PyProof.Rows
set_option Elab.async false
set_option genSizeOf false
set_option genInjectivity false
set_option maxRecDepth 100000
set_option maxHeartbeats 1000000
set_option linter.unusedVariables false
set_option linter.unusedSimpArgs false
namespace Mine
variable {C : Cx}
/-! ### the pieces of a picture -/
inductive Piece where
  | pic (P : Pic)
  | first
  | whole
  | wide (n : Nat)
  | none
noncomputable def spaces (l : List Nat) : Nat := (l.takeWhile (· == 32)).length
noncomputable def pcAt : List Nat → Piece × Nat
  | [] => (.none, 0)
  | c :: r => if begins (c :: r) = true then (.pic (rdPic (c :: r)).1, (rdPic (c :: r)).2) else if c = 33 then (.first, 1) else if c = 38 then (.whole, 1) else if c = 95 ∧ ¬ r = [] then (.none, 2)
    else if c = 92 ∧ (r.drop (spaces r)).take 1 = [92] then (.wide (spaces r + 2), spaces r + 2) else (.none, 1)
noncomputable def PieceR (C : Cx) (i : Nat) (ah : AH) (r : PV) (ah' : AH) : Piece × Nat → Prop
  | (.pic P, n) => ∃ a, a ∉ ah.map (·.1) ∧ r = .tuple [.ref a, .int ((i + n : Nat) : Int)] ∧ ah' = (a, picO C P) :: ah
  | (.first, n) => r = .tuple [.tuple [.str [102, 105, 114, 115, 116]], .int ((i + n : Nat) : Int)] ∧ ah' = ah
  | (.whole, n) => r = .tuple [.tuple [.str [119, 104, 111, 108, 101]], .int ((i + n : Nat) : Int)] ∧ ah' = ah
  | (.wide k, n) => r = .tuple [.tuple [.str [119, 105, 100, 101], .int k], .int ((i + n : Nat) : Int)] ∧ ah' = ah
  | (.none, n) => r = .tuple [.none, .int ((i + n : Nat) : Int)] ∧ ah' = ah
theorem spaces_at : ∀ (r : List Nat) (k : Nat), k ≤ spaces r → ((r.drop k).take 1 = [32] ↔ k < spaces r)
  | [], k, h => by simp [spaces] at h ⊢
  | c :: r, 0, h => by
    by_cases q : c = 32
    · subst q; simp [spaces]
    · simp [spaces, q]
  | c :: r, k + 1, h => by
    by_cases q : c = 32
    · subst q
      have ih := spaces_at r k (by simpa [spaces] using h)
      simpa [spaces] using ih
    · simp [spaces, q] at h
theorem piece_at_4 (G : Good C ss fns bs fields) {V : Act C (F_piece_at C.K)} {t r : List Nat} {i c : Nat} {ah : AH} (hd : t.drop i = c :: r) (hs : t.length ≤ 100000) (hb : ¬ begins (c :: r) = true) (h1 : ¬ c = 33) (h2 : ¬ c = 38) {Qr : Kon} (hQ : ∀ r' st, PieceR C i ah r' st.ah (pcAt (c :: r)) → Qr r' st) :
    Ws V 29 B_piece_at_4 ((prt 11).body.drop 4) ⟨[(Str.ofString "text", some (.str t)), (Str.ofString "at", some (.int i)), (Str.ofString "sign", some (.str [c])), (Str.ofString "end", none)], ah⟩ (fun _ => False) Qr (fun _ => False) := by
  obtain ⟨g1, g2, g3⟩ := drop_cons hd
  have hlen : t.length = i + (r.length + 1) := by
    have := congrArg List.length hd
    rw [List.length_drop, List.length_cons] at this
    lia
  (conv => whnf)
  refine ⟨by (first | assumption | exact len_small (by assumption) | exact len_small (by simp only [List.length_append, List.length_cons, List.length_nil, low_len]; omega) | omega | (simp only [List.length_append, List.length_cons, List.length_nil, low_len]; omega)), ?_⟩
  (conv => whnf)
  refine ⟨fun hc => ?_, fun hc => ?_⟩
  · simp only [Bool.and_eq_true, decide_eq_true_eq] at hc
    have hc1 : c = 95 := by simpa using hc.1
    have hc2 : ¬ r = [] := by
      intro q; subst q; simp at hlen; lia
    (conv => whnf)
    refine hQ _ _ ?_
    rw [pcAt, if_neg hb, if_neg h1, if_neg h2, if_pos ⟨hc1, hc2⟩]
    exact ⟨rfl, rfl⟩
  · have hno : ¬ (c = 95 ∧ ¬ r = []) := by
      rintro ⟨q1, q2⟩
      have : 1 ≤ r.length := by cases r with | nil => exact absurd rfl q2 | cons _ _ => simp
      have e1 : decide ([c] = [95]) = true := by simp [q1]
      have e2 : decide ((i : Int) + 1 < (t.length : Int)) = true := by simp only [decide_eq_true_eq]; lia
      rw [e1, e2] at hc
      cases hc
    (conv => whnf)
    refine ⟨Nat, fun k => ⟨[(Str.ofString "text", some (.str t)), (Str.ofString "at", some (.int i)), (Str.ofString "sign", some (.str [c])), (Str.ofString "end", some (.int ((i + 1 + k : Nat) : Int)))], ah⟩,
      fun k => k ≤ spaces r ∧ (¬ c = 92 → k = 0), fun k => spaces r - k, 0, ⟨rfl, by lia, fun _ => rfl⟩, fun k hk => ?_⟩
    have hdk : t.drop (i + 1 + k) = r.drop k := dropUp g3 k
    (conv => whnf)
    refine ⟨by (first | assumption | exact len_small (by assumption) | exact len_small (by simp only [List.length_append, List.length_cons, List.length_nil, low_len]; omega) | omega | (simp only [List.length_append, List.length_cons, List.length_nil, low_len]; omega)), ?_⟩
    rw [sl1 hdk]
    (conv => whnf)
    refine ⟨fun he => ?_, fun he => ?_⟩
    · simp only [Bool.and_eq_true, decide_eq_true_eq] at he
      have hlt := (spaces_at r k hk.1).mp he.2
      (conv => whnf)
      have : c = 92 := by simpa using he.1
      exact ⟨k + 1, rfl, ⟨by lia, fun q => absurd this q⟩, by dsimp only; lia⟩
    · (conv => whnf)
      refine ⟨by (first | assumption | exact len_small (by assumption) | exact len_small (by simp only [List.length_append, List.length_cons, List.length_nil, low_len]; omega) | omega | (simp only [List.length_append, List.length_cons, List.length_nil, low_len]; omega)), ?_⟩
      rw [sl1 hdk]
      (conv => whnf)
      refine ⟨fun hf => ?_, fun hf => ?_⟩
      · simp only [Bool.and_eq_true, decide_eq_true_eq] at hf
        have hc92 : c = 92 := by simpa using hf.1
        have hk2 : k = spaces r := by
          rcases Nat.lt_or_ge k (spaces r) with q | q
          · have := (spaces_at r k hk.1).mpr q
            rw [this] at hf; cases hf.2
          · lia
        (conv => whnf)
        refine hQ _ _ ?_
        rw [pcAt, if_neg hb, if_neg h1, if_neg h2, if_neg hno, if_pos ⟨hc92, hk2 ▸ hf.2⟩]
        refine ⟨?_, rfl⟩
        have e1 : ((i + 1 + k : Nat) : Int) + 1 - i = ((spaces r + 2 : Nat) : Int) := by lia
        have e2 : ((i + 1 + k : Nat) : Int) + 1 = ((i + (spaces r + 2) : Nat) : Int) := by lia
        rw [← e1, ← e2]
      · (conv => whnf)
        refine hQ _ _ ?_
        rw [pcAt, if_neg hb, if_neg h1, if_neg h2, if_neg hno, if_neg]
        · exact ⟨rfl, rfl⟩
        · rintro ⟨q1, q2⟩
          have hk2 : k = spaces r := by
            rcases Nat.lt_or_ge k (spaces r) with q | q
            · have := (spaces_at r k hk.1).mpr q
              rw [this, q1] at he; cases he
            · lia
          rw [hk2, q2, q1] at hf
          cases hf
theorem piece_at_ok (G : Good C ss fns bs fields) {t r : List Nat} {i c : Nat} {ah : AH} (hd : t.drop i = c :: r) (hs : t.length ≤ 100000) :
    Fn C 30 (adr C.K "piece_at") [.str t, .int i] ah fun r' ah' => PieceR C i ah r' ah' (pcAt (c :: r)) := by
  refine Fn_W (F := F_piece_at C.K) (n := 29) rfl G (D_piece_at G) C_piece_at rfl rfl fun V => ?_
  obtain ⟨g1, g2, g3⟩ := drop_cons hd
  (conv => whnf)
  refine ⟨⟨by (first | assumption | exact len_small (by assumption) | exact len_small (by simp only [List.length_append, List.length_cons, List.length_nil, low_len]; omega) | omega | (simp only [List.length_append, List.length_cons, List.length_nil, low_len]; omega)), by lia, by lia⟩, ?_⟩
  rw [g2]
  (conv => whnf)
  refine FnP.eq (begins_number_ok G hd hs) (by decide) ?_
  (conv => whnf)
  refine ⟨fun hb => ?_, fun hb => ?_⟩
  · (conv => whnf)
    refine FnP.dr (read_picture_ok G hd hs) (by decide) fun a hfr => ?_
    rw [pcAt, if_pos hb]
    exact ⟨a, hfr, rfl, rfl⟩
  have hb : ¬ begins (c :: r) = true := by rw [hb]; decide
  (conv => whnf)
  refine ⟨fun hc => ?_, fun hc => ?_⟩
  · have hc : c = 33 := by simpa using hc
    (conv => whnf)
    rw [pcAt, if_neg hb, if_pos hc]
    exact ⟨rfl, rfl⟩
  have h1 : ¬ c = 33 := by simpa using hc
  (conv => whnf)
  refine ⟨fun hc => ?_, fun hc => ?_⟩
  · have hc : c = 38 := by simpa using hc
    (conv => whnf)
    rw [pcAt, if_neg hb, if_neg h1, if_pos hc]
    exact ⟨rfl, rfl⟩
  have h2 : ¬ c = 38 := by simpa using hc
  exact piece_at_4 (V := V) G hd hs hb h1 h2 (Qr := fun p st => PieceR C i _ p st.ah (pcAt (c :: r))) fun _ _ h => h
inductive Item where
  | pl (s : List Nat)
  | pc (p : Piece)
noncomputable def plainI (s : List Nat) : List Item := if s = [] then [] else [.pl s]
noncomputable def itStep (k : List Nat → List Nat → List Item) (l s : List Nat) : Piece × Nat → List Item
  | (.none, n) => k (l.drop n) (s ++ [(l.drop (n - 1)).headD 0])
  | (p, n) => plainI s ++ .pc p :: k (l.drop n) []
noncomputable def itF : Nat → List Nat → List Nat → List Item
  | 0, _, s => plainI s
  | _ + 1, [], s => plainI s
  | k + 1, c :: r, s => itStep (itF k) (c :: r) s (pcAt (c :: r))
noncomputable def itemsOf (l : List Nat) : List Item := itF l.length l []
theorem rdA_pos {P : Pic} {l : List Nat} (h : l.take 2 = [42, 42] ∨ l.take 2 = [36, 36]) : 1 ≤ (rdA P l).2 := by
  unfold rdA
  split
  · split <;> simp
  · rw [if_pos (h.resolve_left ‹_›)]; simp
theorem seqR_le {f g : Pic → List Nat → Pic × Nat} {P : Pic} {l : List Nat} (h : 1 ≤ (f P l).2) : 1 ≤ (seqR f g P l).2 := by
  unfold seqR; dsimp only; lia
theorem rdPic_pos {l : List Nat} (h : begins l = true) : 1 ≤ (rdPic l).2 := by
  refine seqR_le (seqR_le ?_)
  unfold begins at h
  by_cases h43 : l.take 1 = [43]
  · refine seqR_le ?_
    rw [rdA1, if_pos h43]; dsimp only; lia
  · rw [if_neg h43] at h
    have e0 : ∀ P, rdA1 P l = rdA P l := fun P => by rw [rdA1, if_neg h43]
    by_cases h2 : l.take 2 = [42, 42] ∨ l.take 2 = [36, 36]
    · refine seqR_le ?_
      rw [e0]; exact rdA_pos h2
    · have e1 : rdA1 pic0 l = (pic0, 0) := by
        rw [e0, rdA, if_neg (fun q => h2 (.inl q)), if_neg (fun q => h2 (.inr q))]
      unfold seqR
      rw [e1]
      dsimp only
      rw [List.drop_zero]
      simp only [Bool.or_eq_true, decide_eq_true_eq, List.contains_cons, List.contains_nil, Bool.or_false, beq_iff_eq] at h
      rcases h with h | h | h | h
      · cases l with
        | nil => cases h
        | cons c r =>
          have : c = 35 := by simpa using h
          subst this
          have : (rdL pic0 (35 :: r)).2 = (rdL { pic0 with comma := pic0.comma || decide (35 = 44), left := pic0.left + 1 } r).2 + 1 := by rw [rdL_some (.inl rfl)]
          unfold rdP; dsimp only; lia
      · exact absurd (.inl h) h2
      · exact absurd (.inr h) h2
      · cases l with
        | nil => cases h
        | cons c r =>
          have : c = 46 := by
            have := congrArg List.head? h
            simpa using this
          subst this
          have e2 : rdL pic0 (46 :: r) = (pic0, 0) := by rw [rdL, if_neg (by decide)]
          unfold rdP
          rw [e2]
          dsimp only
          rw [List.drop_zero, rdQ, if_pos (by simp)]
          dsimp only; lia
theorem pcAt_pos (c : Nat) (r : List Nat) : 1 ≤ (pcAt (c :: r)).2 := by
  rw [pcAt]
  split
  · exact rdPic_pos ‹_›
  · (repeat' split) <;> simp
theorem itF_fuel : ∀ (k : Nat) (l s : List Nat), l.length ≤ k → itF k l s = itF l.length l s
  | 0, l, s, h => by
    have : l = [] := List.length_eq_zero_iff.mp (by lia)
    subst this; rfl
  | k + 1, [], s, h => rfl
  | k + 1, c :: r, s, h => by
    have hp := pcAt_pos c r
    have hl : ∀ n, 1 ≤ n → ((c :: r).drop n).length ≤ r.length := fun n hn => by rw [List.length_drop, List.length_cons]; lia
    have hk : r.length ≤ k := by simpa using h
    show itStep (itF k) (c :: r) s (pcAt (c :: r)) = itStep (itF r.length) (c :: r) s (pcAt (c :: r))
    have go : ∀ (n : Nat) (s' : List Nat), 1 ≤ n → itF k ((c :: r).drop n) s' = itF r.length ((c :: r).drop n) s' := fun n s' hn => by
      rw [itF_fuel k _ s' (Nat.le_trans (hl n hn) hk), itF_fuel r.length _ s' (hl n hn)]
    generalize pcAt (c :: r) = q at hp
    obtain ⟨p, n⟩ := q
    cases p <;> simp only [itStep] <;> rw [go n _ hp]
termination_by k => k
theorem itF_step (c : Nat) (r s : List Nat) : itF (c :: r).length (c :: r) s = itStep (fun l s => itF l.length l s) (c :: r) s (pcAt (c :: r)) := by
  have hp := pcAt_pos c r
  show itStep (itF r.length) (c :: r) s (pcAt (c :: r)) = _
  have go : ∀ (n : Nat) (s' : List Nat), 1 ≤ n → itF r.length ((c :: r).drop n) s' = itF ((c :: r).drop n).length ((c :: r).drop n) s' := fun n s' hn =>
    itF_fuel r.length _ s' (by rw [List.length_drop, List.length_cons]; lia)
  generalize pcAt (c :: r) = q at hp
  obtain ⟨p, n⟩ := q
  cases p <;> simp only [itStep] <;> rw [go n _ hp]
/-- an item, as the heap has it -/
inductive PcV (C : Cx) (ah : AH) : Item → PV → Prop
  | pl {s} : PcV C ah (.pl s) (.tuple [.str [112, 108, 97, 105, 110], .str s])
  | pic {a P} : (a, picO C P) ∈ ah → PcV C ah (.pc (.pic P)) (.ref a)
  | first : PcV C ah (.pc .first) (.tuple [.str [102, 105, 114, 115, 116]])
  | whole : PcV C ah (.pc .whole) (.tuple [.str [119, 104, 111, 108, 101]])
  | wide {k : Nat} : PcV C ah (.pc (.wide k)) (.tuple [.str [119, 105, 100, 101], .int k])
inductive PcsV (C : Cx) (ah : AH) : List Item → List PV → Prop
  | nil : PcsV C ah [] []
  | cons {x p xs ps} : PcV C ah x p → PcsV C ah xs ps → PcsV C ah (x :: xs) (p :: ps)
theorem PcV.mono {ah ah' : AH} (h : ∀ x ∈ ah, x ∈ ah') {x : Item} {p : PV} (r : PcV C ah x p) : PcV C ah' x p := by
  cases r with
  | pl => exact .pl
  | pic m => exact .pic (h _ m)
  | first => exact .first
  | whole => exact .whole
  | wide => exact .wide
theorem PcsV.mono {ah ah' : AH} (h : ∀ x ∈ ah, x ∈ ah') {xs : List Item} {ps : List PV} (r : PcsV C ah xs ps) : PcsV C ah' xs ps := by
  induction r with
  | nil => exact .nil
  | cons a b ih => exact .cons (a.mono h) ih
theorem PcsV.append {ah : AH} {xs ys : List Item} {ps qs : List PV} (r : PcsV C ah xs ps) (r' : PcsV C ah ys qs) : PcsV C ah (xs ++ ys) (ps ++ qs) := by
  induction r with
  | nil => exact r'
  | cons a b ih => exact .cons a ih
theorem UpdH.mid {a : Addr} {o o' : AObj} : ∀ (p1 p2 : AH), UpdH a o o' (p1 ++ (a, o) :: p2) (p1 ++ (a, o') :: p2)
  | [], p2 => .here
  | e :: p1, p2 => .next (UpdH.mid p1 p2)
noncomputable def plainPV (s : List Nat) : List PV := if s = [] then [] else [.tuple [.str [112, 108, 97, 105, 110], .str s]]
theorem plainI_V {ah : AH} (s : List Nat) : PcsV C ah (plainI s) (plainPV s) := by
  unfold plainI plainPV
  split
  · exact .nil
  · exact .cons .pl .nil

/-- the list with the plain text in it, if there is any -/
theorem ife_plain {n : Nat} {e1 e2 : PE} {st : St} {K : Kon} {s : List Nat} {c : Bool} (h1 : ∀ K : Kon, (∀ b, K (.ref b) ⟨st.loc, (b, .list [.tuple [.str [112, 108, 97, 105, 110], .str s]]) :: st.ah⟩) → W C n e1 st K) (h2 : ∀ K : Kon, (∀ b, K (.ref b) ⟨st.loc, (b, .list []) :: st.ah⟩) → W C n e2 st K)
    (hc : c = decide (¬ s = [])) (h : ∀ b, K (.ref b) ⟨st.loc, (b, .list (plainPV s)) :: st.ah⟩) : (c = true → W C n e1 st K) ∧ (c = false → W C n e2 st K) := by
  subst hc
  unfold plainPV at h
  refine ⟨fun q => h1 K ?_, fun q => h2 K ?_⟩
  · rw [if_neg (of_decide_eq_true q)] at h; exact h
  · rw [if_pos (Decidable.not_not.mp (of_decide_eq_false q))] at h; exact h
theorem plain_len (s : List Nat) : (plainPV s).length ≤ 1 := by unfold plainPV; split <;> simp
theorem pcAt_none {c n : Nat} {r : List Nat} (h : pcAt (c :: r) = (.none, n)) : n ≤ r.length + 1 := by
  rw [pcAt] at h
  repeat' split at h
  all_goals first | (cases h; done) | skip
  · rename_i hh
    cases h
    have : 1 ≤ r.length := by cases r with | nil => exact absurd rfl hh.2 | cons _ _ => simp
    lia
  · cases h; lia
theorem head_at {t : List Nat} {j : Nat} (h : j < t.length) : t.getD (pyIdx t.length (j : Int)) 0 = (t.drop j).headD 0 := by
  unfold pyIdx
  rw [if_neg (by lia), List.drop_eq_getElem_cons h]
  simp [List.getD, h]
structure RS where
  m : List Nat
  i : Nat
  s : List Nat
  D : List Item
  ps : List PV
  p1 : AH
  pc : Option PV
  en : Option PV
theorem piece_turn (G : Good C ss fns bs fields) {t m s : List Nat} {i : Nat} {f : Addr} {ps : List PV} {p1 ah : AH} {D I : List Item} {Q : PV → AH → Prop} (hd : t.drop i = m) (hi : i < t.length) (hs : t.length ≤ 100000) (hI : D ++ itF m.length m s = I)
    (h0 : ∀ n, 1 ≤ n → i + n ≤ t.length → D ++ itF (t.drop (i + n)).length (t.drop (i + n)) (s ++ [(t.drop (i + (n - 1))).headD 0]) = I → Q (.tuple [.none, .int ((i + n : Nat) : Int)]) (p1 ++ (f, .list ps) :: ah))
    (h1 : ∀ n p pv p1', 1 ≤ n → PcV C p1' (.pc p) pv → (∀ x ∈ p1, x ∈ p1') → pv ≠ .none → D ++ (plainI s ++ .pc p :: itF (t.drop (i + n)).length (t.drop (i + n)) []) = I → Q (.tuple [pv, .int ((i + n : Nat) : Int)]) (p1' ++ (f, .list ps) :: ah)) :
    Fn C 30 (adr C.K "piece_at") [.str t, .int i] (p1 ++ (f, .list ps) :: ah) Q := by
  cases m with
  | nil => exact absurd (List.drop_eq_nil_iff.mp hd) (by lia)
  | cons c r =>
    refine Fn.mono (piece_at_ok G hd hs) (Nat.le_refl _) fun r' ah' hP => ?_
    rw [itF_step] at hI
    have hpos := pcAt_pos c r
    generalize hq : pcAt (c :: r) = q at hP hI hpos
    obtain ⟨p, n⟩ := q
    cases p with
    | pic P =>
      obtain ⟨a, ha, rfl, rfl⟩ := hP
      exact h1 n _ _ ((a, picO C P) :: p1) hpos (.pic (.head _)) (fun x hx => .tail _ hx) PV.noConfusion (by rw [dropUp hd]; exact hI)
    | first => obtain ⟨rfl, rfl⟩ := hP; exact h1 n _ _ p1 hpos .first (fun x hx => hx) PV.noConfusion (by rw [dropUp hd]; exact hI)
    | whole => obtain ⟨rfl, rfl⟩ := hP; exact h1 n _ _ p1 hpos .whole (fun x hx => hx) PV.noConfusion (by rw [dropUp hd]; exact hI)
    | wide k => obtain ⟨rfl, rfl⟩ := hP; exact h1 n _ _ p1 hpos .wide (fun x hx => hx) PV.noConfusion (by rw [dropUp hd]; exact hI)
    | none =>
      obtain ⟨rfl, rfl⟩ := hP
      have := congrArg List.length hd
      rw [List.length_drop, List.length_cons] at this
      have := pcAt_none hq
      exact h0 n hpos (by lia) (by rw [dropUp hd, dropUp hd]; exact hI)
theorem read_pieces_ok (G : Good C ss fns bs fields) {t : List Nat} {ah : AH} (hs : t.length ≤ 50000) :
    Fn C 40 (adr C.K "read_pieces") [.str t] ah fun r ah' => ∃ f ps N, r = .ref f ∧ ah' = N ++ ah ∧ (f, AObj.list ps) ∈ ah' ∧ PcsV C ah' (itemsOf t) ps ∧ ps.length ≤ 2 * t.length + 1 := by
  refine Fn_W (F := F_read_pieces C.K) (n := 39) rfl G (D_read_pieces G) C_read_pieces rfl rfl fun V => ?_
  (conv => whnf)
  refine ⟨by decide, fun f hf => ?_⟩
  (conv => whnf)
  refine ⟨RS, fun q => ⟨[(Str.ofString "text", some (.str t)), (Str.ofString "found", some (.ref f)), (Str.ofString "plain", some (.str q.s)), (Str.ofString "at", some (.int q.i)), (Str.ofString "piece", q.pc), (Str.ofString "end", q.en)], q.p1 ++ (f, .list q.ps) :: ah⟩,
    fun q => t.drop q.i = q.m ∧ q.D ++ itF q.m.length q.m q.s = itemsOf t ∧ PcsV C q.p1 q.D q.ps ∧ q.ps.length + 2 * q.m.length ≤ 2 * t.length ∧ q.s.length + q.m.length ≤ t.length, fun q => q.m.length,
    ⟨t, 0, [], [], [], [], none, none⟩, ⟨rfl, rfl, rfl, .nil, by simp, by simp⟩, fun q hq => ?_⟩
  obtain ⟨m, i, s, D, ps, p1, pc, en⟩ := q
  obtain ⟨hd, hI, hV, hl1, hl2⟩ := hq
  dsimp only at hd hI hV hl1 hl2
  (conv => whnf)
  refine ⟨by (first | assumption | exact len_small (by assumption) | exact len_small (by simp only [List.length_append, List.length_cons, List.length_nil, low_len]; omega) | omega | (simp only [List.length_append, List.length_cons, List.length_nil, low_len]; omega)), ?_⟩
  (conv => whnf)
  refine ⟨fun hc => ?_, fun hc => ?_⟩
  · have hc : i < t.length := by have := of_decide_eq_true hc; dsimp only at this; lia
    have hml : m.length = t.length - i := by rw [← hd, List.length_drop]
    have hnl : ∀ n, (t.drop (i + n)).length = t.length - (i + n) := fun n => List.length_drop
    (conv => whnf)
    refine ⟨Fn.mono (piece_turn G hd hc (by lia) hI (fun n hn hle hI' => ?_) fun n p pv p1' hn hpv hsub hnn hI' => ?_) (by decide) fun _ _ h => h⟩
    · (conv => whnf)
      refine ⟨fun _ => ?_, fun q => by cases q⟩
      (conv => whnf)
      have e1 : ((i + n : Nat) : Int) - 1 = ((i + (n - 1) : Nat) : Int) := by lia
      rw [e1]
      refine ⟨⟨by (first | assumption | exact len_small (by assumption) | exact len_small (by simp only [List.length_append, List.length_cons, List.length_nil, low_len]; omega) | omega | (simp only [List.length_append, List.length_cons, List.length_nil, low_len]; omega)), by lia, by lia⟩, ?_⟩
      rw [head_at (by lia)]
      (conv => whnf)
      refine ⟨by simp only [List.length_cons, List.length_nil]; first | lia | (dsimp only; lia), ?_⟩
      (conv => whnf)
      refine ⟨⟨t.drop (i + n), i + n, _, D, ps, p1, some .none, some (.int ((i + n : Nat) : Int))⟩, rfl, ⟨rfl, hI', hV, ?_, ?_⟩, ?_⟩ <;> dsimp only
      · rw [hnl]; lia
      · rw [List.length_append, hnl]; simp only [List.length_cons, List.length_nil]; lia
      · rw [hnl]; lia
    · (conv => whnf)
      refine ⟨fun q => ?_, fun _ => ?_⟩
      · exfalso; cases pv <;> first | (cases q; done) | exact hnn rfl
      (conv => whnf)
      refine ⟨⟨ps, by simp⟩, ?_⟩
      (conv => whnf)
      refine ife_plain (s := s) (fun K hK => by (conv => whnf); exact ⟨by simp, fun b _ => hK b⟩) (fun K hK => by (conv => whnf); exact ⟨by simp, fun b _ => hK b⟩) (by simp) fun b => ?_
      have hpl := plain_len s
      have v := (hV.mono (ah' := (b, .list (plainPV s)) :: p1') fun x hx => .tail _ (hsub x hx)).append ((plainI_V s).append (.cons (hpv.mono fun x hx => .tail _ hx) .nil))
      rw [← List.append_assoc ps] at v
      (conv => whnf)
      refine ⟨ps, plainPV s, _, .head _, .next (UpdH.mid p1' ah), by lia, ?_⟩
      (conv => whnf)
      refine ⟨⟨_, .tail _ (List.mem_append_right _ (.head _))⟩, ?_⟩
      (conv => whnf)
      refine ⟨_, _, .next (UpdH.mid p1' ah), by rw [List.length_append]; lia, ?_⟩
      (conv => whnf)
      refine ⟨⟨t.drop (i + n), i + n, [], D ++ (plainI s ++ [.pc p]), ps ++ plainPV s ++ [pv], (b, .list (plainPV s)) :: p1', some pv, some (.int ((i + n : Nat) : Int))⟩, rfl, ⟨rfl, ?_, v, ?_, ?_⟩, ?_⟩ <;> dsimp only
      · rw [← hI', List.append_assoc, List.append_assoc]; rfl
      · rw [hnl]; simp only [List.length_append, List.length_cons, List.length_nil]; lia
      · rw [hnl]; simp only [List.length_nil]; lia
      · rw [hnl]; lia
  · have hc : ¬ i < t.length := by have := of_decide_eq_false hc; dsimp only at this; lia
    have hm : m = [] := by rw [← hd]; exact List.drop_of_length_le (by lia)
    rw [hm] at hI
    have hI : D ++ plainI s = itemsOf t := hI
    (conv => whnf)
    refine ife_plain (s := s) (fun K hK => by (conv => whnf); exact ⟨by simp, fun b _ => hK b⟩) (fun K hK => by (conv => whnf); exact ⟨by simp, fun b _ => hK b⟩) (by simp) fun b => ?_
    have hpl := plain_len s
    have v := hV.append (plainI_V s)
    rw [hI] at v
    (conv => whnf)
    refine ⟨ps, plainPV s, .tail _ (List.mem_append_right _ (.head _)), .head _, by lia, by rw [List.length_append]; lia, fun d hd' => ?_⟩
    exact ⟨d, _, (d, .list (ps ++ plainPV s)) :: (b, .list (plainPV s)) :: (p1 ++ [(f, .list ps)]), rfl, by simp, .head _, v.mono fun x hx => .tail _ (.tail _ (List.mem_append_left _ hx)), by rw [List.length_append]; lia⟩
end Mine
end
section
open PySem PySem.W PyProof.Rows
set_option Elab.async false
set_option genSizeOf false
set_option genInjectivity false
set_option maxRecDepth 100000
set_option maxHeartbeats 1000000
set_option linter.unusedVariables false
set_option linter.unusedSimpArgs false
namespace Mine
variable {C : Cx}
/-! ### what the law draws -/
noncomputable def intsPV (ns : List Int) : List PV := ns.map .int
/-- the drawer: how often it was asked, and the script -/
structure Drawer (d L : Addr) (ns : List Int) (ah2 : AH) : Prop where
  mem : (L, AObj.list (intsPV ns)) ∈ ah2
  len : ns.length ≤ 100000
theorem pIx_ints {ns : List Int} {k : Nat} (h : k < ns.length) : ∃ i, pIx (intsPV ns) (k : Int) = some (.int i) := by
  refine ⟨ns[k], ?_⟩
  unfold pIx
  rw [if_pos (by lia)]
  simp [intsPV, h]
theorem law_draw_ok (G : Good C ss fns bs fields) {d L : Addr} {ns : List Int} {p1 ah2 : AH} {k lim : Nat} (hD : Drawer d L ns ah2) (hl : 0 < lim) :
    Fn C 10 (adr C.K "_law_draw") [.ref d, .int lim] (p1 ++ (d, .list [.int k, .ref L]) :: ah2) fun r ah' => ∃ v : Nat, v < lim ∧ r = .int v ∧ ah' = p1 ++ (d, .list [.int ((k + 1 : Nat) : Int), .ref L]) :: ah2 := by
  refine Fn_W (F := F_law_draw C.K) (n := 9) rfl G (D_law_draw G) C_law_draw rfl rfl fun V => ?_
  have md : ∀ {j : Int}, (d, AObj.list [.int j, .ref L]) ∈ p1 ++ (d, .list [.int j, .ref L]) :: ah2 := List.mem_append_right _ (.head _)
  have mL : ∀ {j : Int}, (L, AObj.list (intsPV ns)) ∈ p1 ++ (d, .list [.int j, .ref L]) :: ah2 := List.mem_append_right _ (.tail _ hD.mem)
  have hn := hD.len
  (conv => whnf)
  refine ⟨_, .int k, md, by simp, rfl, ?_⟩
  (conv => whnf)
  refine ⟨_, _, by decide, by simp, by simp, UpdH.mid p1 ah2, ?_⟩
  rw [up1]
  (conv => whnf)
  refine ⟨_, _, md, by simp, rfl, ?_⟩
  (conv => whnf)
  refine ⟨_, _, md, by simp, rfl, ?_⟩
  (conv => whnf)
  refine ⟨_, mL, by rw [intsPV, List.length_map]; lia, ?_⟩
  (conv => whnf)
  refine ⟨fun hc => ?_, fun hc => ?_⟩
  · have hc : k < ns.length := by have := of_decide_eq_true hc; rw [intsPV, List.length_map] at this; lia
    (conv => whnf)
    refine ⟨_, _, md, by simp, rfl, ?_⟩
    (conv => whnf)
    refine ⟨_, _, md, by simp, rfl, ?_⟩
    (conv => whnf)
    have ek : ((k + 1 : Nat) : Int) - 1 = (k : Int) := by lia
    rw [ek]
    obtain ⟨i, hi⟩ := pIx_ints hc
    refine ⟨_, _, mL, by rw [intsPV, List.length_map]; lia, hi, ?_⟩
    (conv => whnf)
    refine ⟨by lia, ?_⟩
    have ev : (if i < 0 then -i else i) % (lim : Int) = ((i.natAbs % lim : Nat) : Int) := by
      have : (if i < 0 then -i else i) = ((i.natAbs : Nat) : Int) := by split <;> lia
      rw [this]; lia
    exact ⟨i.natAbs % lim, Nat.mod_lt _ hl, by rw [ev], rfl⟩
  · (conv => whnf)
    refine ⟨_, _, md, by simp, rfl, ?_⟩
    (conv => whnf)
    refine ⟨.inl (by decide), ?_⟩
    (conv => whnf)
    refine ⟨_, _, md, by simp, rfl, ?_⟩
    (conv => whnf)
    refine ⟨by decide, ?_⟩
    (conv => whnf)
    refine ⟨by lia, ?_⟩
    have ev : (7 * ((k + 1 : Nat) : Int) + ((k + 1 : Nat) : Int) / 4) % (lim : Int) = (((7 * (k + 1) + (k + 1) / 4) % lim : Nat) : Int) := by
      have h : 7 * ((k + 1 : Nat) : Int) + ((k + 1 : Nat) : Int) / 4 = ((7 * (k + 1) + (k + 1) / 4 : Nat) : Int) := by lia
      rw [h]; exact (Int.natCast_emod ..).symm
    exact ⟨(7 * (k + 1) + (k + 1) / 4) % lim, Nat.mod_lt _ hl, by rw [ev], rfl⟩
theorem law_turned_ok (G : Good C ss fns bs fields) {v : PV} {c e : Int} {ah : AH} (hv : NumV c e v) : Fn C 10 (adr C.K "_law_turned") [v] ah fun r ah' => NumV (-c) e r ∧ ah' = ah := by
  refine Fn_W (F := F_law_turned C.K) (n := 9) rfl G (D_law_turned G) C_law_turned rfl rfl fun V => ?_
  have e0 : 0 - c = -c := by lia
  cases hv with
  | int h0 =>
    (conv => whnf)
    refine ⟨fun q => (by cases q), fun _ => ?_⟩
    (conv => whnf)
    rw [e0]
    exact ⟨.int h0, rfl⟩
  | dec =>
    (conv => whnf)
    refine ⟨fun _ => ?_, fun q => (by cases q)⟩
    (conv => whnf)
    refine ⟨by simp, ?_⟩
    (conv => whnf)
    refine ⟨by simp, ?_⟩
    (conv => whnf)
    rw [e0]
    exact ⟨.dec, rfl⟩
theorem law_longer_ok (G : Good C ss fns bs fields) {v : PV} {c e : Int} {ah : AH} (hv : NumV c e v) : Fn C 10 (adr C.K "_law_longer") [v] ah fun r ah' => NumV (10 * c) (e - 1) r ∧ ah' = ah := by
  refine Fn_W (F := F_law_longer C.K) (n := 9) rfl G (D_law_longer G) C_law_longer rfl rfl fun V => ?_
  cases hv with
  | int h0 =>
    (conv => whnf)
    refine ⟨fun q => (by cases q), fun _ => ?_⟩
    (conv => whnf)
    refine ⟨.inl (by decide), ?_⟩
    subst h0
    (conv => whnf)
    exact ⟨.dec, rfl⟩
  | dec =>
    (conv => whnf)
    refine ⟨fun _ => ?_, fun q => (by cases q)⟩
    (conv => whnf)
    refine ⟨by simp, ?_⟩
    (conv => whnf)
    refine ⟨.inl (by decide), ?_⟩
    (conv => whnf)
    refine ⟨by simp, ?_⟩
    (conv => whnf)
    exact ⟨.dec, rfl⟩
theorem law_number_ok (G : Good C ss fns bs fields) {d L : Addr} {ns : List Int} {p1 ah2 : AH} {k : Nat} (hD : Drawer d L ns ah2) :
    Fn C 20 (adr C.K "_law_number") [.ref d] (p1 ++ (d, .list [.int k, .ref L]) :: ah2) fun r ah' => ∃ (c : Nat) (e : Int) (k' : Nat), 1 ≤ c ∧ c ≤ 30000 ∧ -5 ≤ e ∧ e ≤ 2 ∧ NumV c e r ∧ ah' = p1 ++ (d, .list [.int k', .ref L]) :: ah2 := by
  refine Fn_W (F := F_law_number C.K) (n := 19) rfl G (D_law_number G) C_law_number rfl rfl fun V => ?_
  (conv => whnf)
  refine FnP.dr (law_draw_ok G hD (lim := 30000) (by decide)) (by decide) fun v hv => ?_
  (conv => whnf)
  refine FnP.dr (law_draw_ok G hD (lim := 3) (by decide)) (by decide) fun u hu => ?_
  (conv => whnf)
  have e1 : 1 + (v : Int) = ((v + 1 : Nat) : Int) := by lia
  rw [e1]
  refine ⟨fun hc => ?_, fun hc => ?_⟩
  · (conv => whnf)
    exact ⟨v + 1, 0, k + 1 + 1, by lia, by lia, by decide, by decide, .int rfl, rfl⟩
  · (conv => whnf)
    refine FnP.dr (law_draw_ok G hD (lim := 8) (by decide)) (by decide) fun x hx => ?_
    (conv => whnf)
    exact ⟨v + 1, (x : Int) - 5, k + 1 + 1 + 1, by lia, by lia, by lia, by lia, .dec, rfl⟩
noncomputable def marksOf (A : List Nat) : Nat := if A = [43] then 0 else A.length
noncomputable def signOf (A Tl : List Nat) : List Nat := if A = [43] then [43, 97, 104, 101, 97, 100] else if Tl = [] then [] else Tl ++ [98, 101, 104, 105, 110, 100]
noncomputable def dueOf (A Tl : List Nat) (p c b : Nat) (pw : Bool) : List PV := [.int ((marksOf A + p + c : Nat) : Int), .int b, .bool (decide (0 < b)), .bool (decide (42 ∈ A)), .bool (decide (36 ∈ A)), .bool (decide (c = 1)), .bool pw, .str (signOf A Tl)]
theorem law_picture_5 (G : Good C ss fns bs fields) {V : Act C (F_law_picture C.K)} {d : Addr} {A Tl T : List Nat} {p c b : Nat} {pw : Bool} {ah : AH} (hA : A.length ≤ 10) (hTl : Tl.length ≤ 10) (hT : T.length ≤ 1000) {Qr : Kon}
    (hQ : ∀ u loc, u ∉ ah.map (·.1) → Qr (.tuple [.str (T ++ (if pw then [94, 94, 94, 94] else []) ++ Tl), .ref u]) ⟨loc, (u, .list (dueOf A Tl p c b pw)) :: ah⟩) :
    Ws V 29 B_law_picture_5 ((prt 25).body.drop 5) ⟨[(Str.ofString "drawer", some (.ref d)), (Str.ofString "ahead", some (.str A)), (Str.ofString "places", some (.int p)), (Str.ofString "comma", some (.int c)), (Str.ofString "behind", some (.int b)), (Str.ofString "power", some (.bool pw)), (Str.ofString "tail", some (.str Tl)), (Str.ofString "text", some (.str T)), (Str.ofString "marks", none), (Str.ofString "sign", none)], ah⟩ (fun _ => False) Qr (fun _ => False) := by
  have h4 : (if pw then [94, 94, 94, 94] else [] : List Nat).length ≤ 4 := ite_str (by decide) (by decide)
  -- what comes last
  have fin : ∀ (mk : Nat) (sg : List Nat), mk = marksOf A → sg = signOf A Tl → ∀ (T' : List Nat), T' = T ++ (if pw then [94, 94, 94, 94] else []) ++ Tl →
      Ws V 29 B_law_picture_8 ((prt 25).body.drop 8) ⟨[(Str.ofString "drawer", some (.ref d)), (Str.ofString "ahead", some (.str A)), (Str.ofString "places", some (.int p)), (Str.ofString "comma", some (.int c)), (Str.ofString "behind", some (.int b)), (Str.ofString "power", some (.bool pw)), (Str.ofString "tail", some (.str Tl)), (Str.ofString "text", some (.str T')), (Str.ofString "marks", some (.int mk)), (Str.ofString "sign", some (.str sg))], ah⟩ (fun _ => False) Qr (fun _ => False) := by
    rintro mk sg rfl rfl T' rfl
    (conv => whnf)
    refine ⟨by simp, fun u hu => ?_⟩
    have hq := hQ u
    have ed : dueOf A Tl p c b pw = [.int ((marksOf A : Int) + p + c), .int b, .bool (decide ((0 : Int) < b)), .bool (decide (42 ∈ A)), .bool (decide (36 ∈ A)), .bool (decide ((c : Int) = 1)), .bool pw, .str (signOf A Tl)] := by
      unfold dueOf
      have e1 : ((marksOf A + p + c : Nat) : Int) = (marksOf A : Int) + p + c := by lia
      have e2 : decide (0 < b) = decide ((0 : Int) < b) := by congr 1; apply propext; lia
      have e3 : decide (c = 1) = decide ((c : Int) = 1) := by congr 1; apply propext; lia
      rw [e1, e2, e3]
    rw [ed] at hq
    exact hq _ hu
  (conv => whnf)
  refine ⟨by lia, ?_⟩
  (conv => whnf)
  refine ⟨by simp only [List.length_append]; lia, ?_⟩
  (conv => whnf)
  refine ⟨fun hc => ?_, fun hc => ?_⟩
  · have hc : ¬ A = [43] := by simpa using hc
    have em : A.length = marksOf A := by rw [marksOf, if_neg hc]
    (conv => whnf)
    refine ⟨by (first | assumption | exact len_small (by assumption) | exact len_small (by simp only [List.length_append, List.length_cons, List.length_nil, low_len]; omega) | omega | (simp only [List.length_append, List.length_cons, List.length_nil, low_len]; omega)), ?_⟩
    (conv => whnf)
    refine ⟨fun q => absurd (of_decide_eq_true q) hc, fun _ => ?_⟩
    (conv => whnf)
    refine ⟨fun q => ?_, fun q => ?_⟩
    · have q : ¬ Tl = [] := by simpa using q
      (conv => whnf)
      refine ⟨by simp; lia, ?_⟩
      exact fin _ _ em (by rw [signOf, if_neg hc, if_neg q]) _ rfl
    · have q : Tl = [] := by simpa using q
      exact fin _ _ em (by rw [signOf, if_neg hc, if_pos q]) _ rfl
  · have hc : A = [43] := by simpa using hc
    (conv => whnf)
    refine ⟨fun _ => ?_, fun q => absurd hc (of_decide_eq_false q)⟩
    exact fin 0 _ (by rw [marksOf, if_pos hc]) (by rw [signOf, if_pos hc]) _ rfl
/-- a drawn picture -/
structure DP where
  A : List Nat
  Tl : List Nat
  p : Nat
  c : Nat
  b : Nat
  pw : Bool
noncomputable def DP.text (D : DP) : List Nat := D.A ++ List.replicate D.p 35 ++ List.replicate D.c 44 ++ (if 0 < D.b then [46] ++ List.replicate D.b 35 else []) ++ (if D.pw then [94, 94, 94, 94] else []) ++ D.Tl
noncomputable def aheads : List (List Nat) := [[], [43], [42, 42], [36, 36], [42, 42, 36]]
noncomputable def tails : List (List Nat) := [[], [43], [45]]
structure DP.Ok (D : DP) : Prop where
  a : D.A ∈ aheads
  t : D.Tl ∈ tails
  at_ : D.A = [43] → D.Tl = []
  p1 : 1 ≤ D.p
  p5 : D.p ≤ 5
  c : D.c ≤ 1
  b : D.b ≤ 3
noncomputable def DP.due (D : DP) : List PV := dueOf D.A D.Tl D.p D.c D.b D.pw
theorem pIx_strs {ls : List (List Nat)} {k : Nat} (h : k < ls.length) : pIx (ls.map .str) (k : Int) = some (.str (ls[k])) := by
  unfold pIx
  rw [if_pos (by lia)]
  simp [h]
theorem law_picture_4 (G : Good C ss fns bs fields) {V : Act C (F_law_picture C.K)} {d : Addr} {D : DP} {ah : AH} (ok : D.Ok) {Qr : Kon}
    (hQ : ∀ u loc, u ∉ ah.map (·.1) → Qr (.tuple [.str D.text, .ref u]) ⟨loc, (u, .list D.due) :: ah⟩) :
    Ws V 29 B_law_picture_4 ((prt 25).body.drop 4) ⟨[(Str.ofString "drawer", some (.ref d)), (Str.ofString "ahead", some (.str D.A)), (Str.ofString "places", some (.int D.p)), (Str.ofString "comma", some (.int D.c)), (Str.ofString "behind", some (.int D.b)), (Str.ofString "power", some (.bool D.pw)), (Str.ofString "tail", some (.str D.Tl)), (Str.ofString "text", none), (Str.ofString "marks", none), (Str.ofString "sign", none)], ah⟩ (fun _ => False) Qr (fun _ => False) := by
  obtain ⟨A, Tl, p, c, b, pw⟩ := D
  obtain ⟨ha, ht, -, hp1, hp5, hc, hb⟩ := ok
  dsimp only at *
  have hA : A.length ≤ 10 := by
    simp only [aheads, List.mem_cons, List.not_mem_nil, or_false] at ha
    rcases ha with rfl | rfl | rfl | rfl | rfl <;> decide
  have hTl : Tl.length ≤ 10 := by
    simp only [tails, List.mem_cons, List.not_mem_nil, or_false] at ht
    rcases ht with rfl | rfl | rfl <;> decide
  (conv => whnf)
  refine ⟨⟨by lia, by lia, by simp; lia⟩, ?_⟩
  rw [pyMul_one, Int.toNat_natCast]
  (conv => whnf)
  refine ⟨by rw [List.length_replicate]; lia, ?_⟩
  (conv => whnf)
  refine ⟨⟨by lia, by lia, by simp; lia⟩, ?_⟩
  rw [pyMul_one, Int.toNat_natCast]
  (conv => whnf)
  refine ⟨by simp only [List.length_append, List.length_replicate]; lia, ?_⟩
  (conv => whnf)
  refine ⟨fun h => ?_, fun h => ?_⟩
  · have h : 0 < b := by have := of_decide_eq_true h; lia
    (conv => whnf)
    refine ⟨⟨by lia, by lia, by simp; lia⟩, ?_⟩
    rw [pyMul_one, Int.toNat_natCast]
    (conv => whnf)
    refine ⟨by simp only [List.length_cons, List.length_nil, List.length_replicate]; lia, ?_⟩
    (conv => whnf)
    refine ⟨by simp only [List.length_append, List.length_cons, List.length_nil, List.length_replicate]; lia, ?_⟩
    refine law_picture_5 G hA hTl (by simp only [List.length_append, List.length_cons, List.length_nil, List.length_replicate]; lia) fun u loc hu => ?_
    have := hQ u loc hu
    simp only [DP.text, if_pos h] at this
    exact this
  · have h : ¬ 0 < b := by have := of_decide_eq_false h; lia
    (conv => whnf)
    refine ⟨by simp only [List.length_append, List.length_nil, List.length_replicate]; lia, ?_⟩
    refine law_picture_5 G hA hTl (by simp only [List.length_append, List.length_nil, List.length_replicate]; lia) fun u loc hu => ?_
    have := hQ u loc hu
    simp only [DP.text, if_neg h] at this
    exact this
theorem getElem_mem' {ls : List (List Nat)} {k : Nat} (h : k < ls.length) : ls[k] ∈ ls := List.getElem_mem h
theorem law_picture_ok (G : Good C ss fns bs fields) {d L : Addr} {ns : List Int} {p1 ah2 : AH} {k : Nat} (hD : Drawer d L ns ah2) :
    Fn C 30 (adr C.K "_law_picture") [.ref d] (p1 ++ (d, .list [.int k, .ref L]) :: ah2) fun r ah' => ∃ (D : DP) (k' : Nat) (u : Addr) (N : AH), D.Ok ∧ r = .tuple [.str D.text, .ref u] ∧ ah' = (u, .list D.due) :: (N ++ (d, .list [.int k', .ref L]) :: ah2) ∧ ∀ x ∈ p1, x ∈ N := by
  refine Fn_W (F := F_law_picture C.K) (n := 29) rfl G (D_law_picture G) C_law_picture rfl rfl fun V => ?_
  (conv => whnf)
  refine ⟨by simp, fun u1 hu1 => ?_⟩
  (conv => whnf)
  refine FnP.dr (law_draw_ok (p1 := (u1, .list (aheads.map .str)) :: p1) G hD (lim := 5) (by decide)) (by decide) fun v1 hv1 => ?_
  (conv => whnf)
  refine ⟨_, _, .head _, by decide, pIx_strs (ls := aheads) (k := v1) hv1, ?_⟩
  (conv => whnf)
  refine FnP.dr (law_draw_ok (p1 := (u1, .list (aheads.map .str)) :: p1) G hD (lim := 5) (by decide)) (by decide) fun v2 hv2 => ?_
  (conv => whnf)
  refine FnP.dr (law_draw_ok (p1 := (u1, .list (aheads.map .str)) :: p1) G hD (lim := 2) (by decide)) (by decide) fun v3 hv3 => ?_
  (conv => whnf)
  refine FnP.dr (law_draw_ok (p1 := (u1, .list (aheads.map .str)) :: p1) G hD (lim := 4) (by decide)) (by decide) fun v4 hv4 => ?_
  (conv => whnf)
  refine FnP.dr (law_draw_ok (p1 := (u1, .list (aheads.map .str)) :: p1) G hD (lim := 4) (by decide)) (by decide) fun v5 hv5 => ?_
  have e1 : 1 + (v2 : Int) = ((v2 + 1 : Nat) : Int) := by lia
  (conv => whnf)
  rw [e1]
  refine ⟨fun h => ?_, fun h => ?_⟩
  · have h : ¬ aheads[v1] = [43] := by simpa using h
    (conv => whnf)
    refine ⟨by simp, fun u2 hu2 => ?_⟩
    (conv => whnf)
    refine FnP.dr (law_draw_ok (p1 := (u2, .list (tails.map .str)) :: (u1, .list (aheads.map .str)) :: p1) G hD (lim := 3) (by decide)) (by decide) fun v6 hv6 => ?_
    (conv => whnf)
    refine ⟨_, _, .head _, by decide, pIx_strs (ls := tails) (k := v6) hv6, ?_⟩
    refine law_picture_4 (V := V) (D := ⟨aheads[v1], tails[v6], v2 + 1, v3, v4, decide ((v5 : Int) = 3)⟩) G ⟨getElem_mem' _, getElem_mem' _, fun q => absurd q h, by dsimp only; lia, by dsimp only; lia, by dsimp only; lia, by dsimp only; lia⟩ fun u loc hu => ?_
    exact ⟨_, _, u, (u2, .list (tails.map .str)) :: (u1, .list (aheads.map .str)) :: p1, ⟨getElem_mem' _, getElem_mem' _, fun q => absurd q h, by dsimp only; lia, by dsimp only; lia, by dsimp only; lia, by dsimp only; lia⟩, rfl, rfl, fun x hx => .tail _ (.tail _ hx)⟩
  · have h : aheads[v1] = [43] := by simpa using h
    (conv => whnf)
    refine law_picture_4 (V := V) (D := ⟨aheads[v1], [], v2 + 1, v3, v4, decide ((v5 : Int) = 3)⟩) G ⟨getElem_mem' _, List.mem_of_getElem? (i := 0) rfl, fun q => rfl, by dsimp only; lia, by dsimp only; lia, by dsimp only; lia, by dsimp only; lia⟩ fun u loc hu => ?_
    exact ⟨_, _, u, (u1, .list (aheads.map .str)) :: p1, ⟨getElem_mem' _, List.mem_of_getElem? (i := 0) rfl, fun q => rfl, by dsimp only; lia, by dsimp only; lia, by dsimp only; lia, by dsimp only; lia⟩, rfl, rfl, fun x hx => .tail _ hx⟩
end Mine
end
section
open PySem PySem.W PyProof.Rows
set_option Elab.async false
set_option genSizeOf false
set_option genInjectivity false
set_option maxRecDepth 100000
set_option maxHeartbeats 1000000
set_option linter.unusedVariables false
set_option linter.unusedSimpArgs false
namespace Mine
variable {C : Cx}
/-! ### the reading of a drawn picture -/
theorem seqR_eats {f g : Pic → List Nat → Pic × Nat} {P P1 P2 : Pic} {x y l : List Nat} (h1 : f P (x ++ (y ++ l)) = (P1, x.length)) (h2 : g P1 (y ++ l) = (P2, y.length)) : seqR f g P (x ++ (y ++ l)) = (P2, (x ++ y).length) := by
  unfold seqR
  rw [h1]
  dsimp only
  rw [List.drop_left, h2, List.length_append]
theorem rdL_marks : ∀ (k : Nat) (P : Pic) (y : List Nat), rdL P (List.replicate k 35 ++ y) = ((rdL { P with left := P.left + k } y).1, (rdL { P with left := P.left + k } y).2 + k)
  | 0, P, y => by cases P; simp
  | k + 1, P, y => by
    rw [List.replicate_succ, List.cons_append, rdL_some (.inl rfl), rdL_marks k]
    have e : ({ left := P.left + 1 + k, right := P.right, point := P.point, star := P.star, dollar := P.dollar, comma := P.comma || decide (35 = 44), power := P.power, sign := P.sign } : Pic) = { P with left := P.left + (k + 1) } := by
      cases P; simp; lia
    dsimp only
    rw [e]
    simp only [Prod.mk.injEq, true_and]
    lia
theorem rdR_marks : ∀ (k : Nat) (P : Pic) (y : List Nat), rdR P (List.replicate k 35 ++ y) = ((rdR { P with right := P.right + k } y).1, (rdR { P with right := P.right + k } y).2 + k)
  | 0, P, y => by cases P; simp
  | k + 1, P, y => by
    rw [List.replicate_succ, List.cons_append, rdR_some, rdR_marks k]
    have e : ({ left := P.left, right := P.right + 1 + k, point := P.point, star := P.star, dollar := P.dollar, comma := P.comma, power := P.power, sign := P.sign } : Pic) = { P with right := P.right + (k + 1) } := by
      cases P; simp; lia
    dsimp only
    rw [e]
    simp only [Prod.mk.injEq, true_and]
    lia
/-- no mark of a number's places comes next -/
noncomputable def Ends (l : List Nat) : Prop := l = [] ∨ ∃ c r, l = c :: r ∧ c ≠ 35 ∧ c ≠ 44 ∧ c ≠ 46
theorem rdL_ends {P : Pic} {l : List Nat} (h : Ends l) : rdL P l = (P, 0) := by
  rcases h with rfl | ⟨c, r, rfl, h1, h2, h3⟩
  · rfl
  · rw [rdL, if_neg (by lia)]
theorem rdR_ends {P : Pic} {l : List Nat} (h : Ends l) : rdR P l = (P, 0) := by
  rcases h with rfl | ⟨c, r, rfl, h1, h2, h3⟩
  · rfl
  · rw [rdR, if_neg h1]
theorem rdQ_ends {P : Pic} {l : List Nat} (h : Ends l) : rdQ P l = (P, 0) := by
  rcases h with rfl | ⟨c, r, rfl, h1, h2, h3⟩
  · rfl
  · rw [rdQ, if_neg (by simpa using h3)]
noncomputable def ptOf (b : Nat) : List Nat := if 0 < b then [46] ++ List.replicate b 35 else []
theorem rdQ_pt {P : Pic} {l : List Nat} (b : Nat) (hP : P.right = 0 ∧ P.point = false) (h : Ends l) : rdQ P (ptOf b ++ l) = ({ P with right := b, point := decide (0 < b) }, (ptOf b).length) := by
  unfold ptOf
  obtain ⟨left, right, point, star, dollar, comma, power, sign⟩ := P
  obtain ⟨rfl, rfl⟩ := hP
  split
  · rename_i hb
    rw [List.append_assoc]
    rw [rdQ, if_pos (by simp)]
    have : List.drop 1 ([46] ++ (List.replicate b 35 ++ l)) = List.replicate b 35 ++ l := rfl
    rw [this, rdR_marks, rdR_ends h]
    simp [hb]
  · rename_i hb
    have : b = 0 := by lia
    subst this
    rw [List.nil_append, rdQ_ends h]
    simp
theorem rdP_dp {P : Pic} {l : List Nat} {p c b : Nat} (hc : c ≤ 1) (hP : P.right = 0 ∧ P.point = false ∧ P.comma = false) (h : Ends l) :
    rdP P ((List.replicate p 35 ++ List.replicate c 44 ++ ptOf b) ++ l) = ({ P with left := P.left + p + c, right := b, point := decide (0 < b), comma := decide (c = 1) }, (List.replicate p 35 ++ List.replicate c 44 ++ ptOf b).length) := by
  have hL : rdL P ((List.replicate p 35 ++ List.replicate c 44) ++ (ptOf b ++ l)) = ({ P with left := P.left + p + c, comma := decide (c = 1) }, (List.replicate p 35 ++ List.replicate c 44).length) := by
    rw [List.append_assoc, rdL_marks]
    have stop : ∀ P, rdL P (ptOf b ++ l) = (P, 0) := fun P => by
      unfold ptOf
      split
      · rw [List.append_assoc]; rfl
      · exact rdL_ends h
    obtain ⟨left, right, point, star, dollar, comma, power, sign⟩ := P
    obtain ⟨rfl, rfl, rfl⟩ := hP
    rcases Nat.lt_or_ge c 1 with h0 | h0
    · have : c = 0 := by lia
      subst this
      rw [List.replicate_zero, List.nil_append, stop]
      simp
    · have : c = 1 := by lia
      subst this
      rw [show List.replicate 1 44 ++ (ptOf b ++ l) = 44 :: (ptOf b ++ l) from rfl, rdL_some (.inr rfl), stop]
      simp
      lia
  have hQ := rdQ_pt (P := { P with left := P.left + p + c, comma := decide (c = 1) }) (l := l) b ⟨hP.1, hP.2.1⟩ h
  have := seqR_eats (f := rdL) (g := rdQ) hL hQ
  rw [← List.append_assoc] at this
  exact this
noncomputable def DP.pic (D : DP) : Pic := ⟨marksOf D.A + D.p + D.c, D.b, decide (0 < D.b), decide (42 ∈ D.A), decide (36 ∈ D.A), decide (D.c = 1), D.pw, signOf D.A D.Tl⟩
/-- what may stand behind a picture: nothing, or a blank -/
noncomputable def Blank (l : List Nat) : Prop := l = [] ∨ ∃ r, l = 32 :: r
theorem rdS_dp {P : Pic} {l Tl : List Nat} (ht : Tl ∈ tails) (hP : P.sign ≠ [] → Tl = []) (h : Blank l) : rdS P (Tl ++ l) = ({ P with sign := if Tl = [] then P.sign else Tl ++ [98, 101, 104, 105, 110, 100] }, Tl.length) := by
  simp only [tails, List.mem_cons, List.not_mem_nil, or_false] at ht
  have key : Tl ≠ [] → P.sign = [] := fun q => Classical.byContradiction fun z => q (hP z)
  rcases ht with rfl | rfl | rfl
  · rcases h with rfl | ⟨r, rfl⟩
    · simp [rdS]
    · simp [rdS]
  · have k := key (by decide)
    simp [rdS, k]
  · have k := key (by decide)
    simp [rdS, k]
theorem ends_tail {l Tl : List Nat} (ht : Tl ∈ tails) (h : Blank l) : Ends (Tl ++ l) ∧ (Tl ++ l).take 4 ≠ [94, 94, 94, 94] := by
  simp only [tails, List.mem_cons, List.not_mem_nil, or_false] at ht
  rcases ht with rfl | rfl | rfl
  · rcases h with rfl | ⟨r, rfl⟩
    · exact ⟨.inl rfl, by decide⟩
    · exact ⟨.inr ⟨32, r, rfl, by decide, by decide, by decide⟩, by simp⟩
  · exact ⟨.inr ⟨43, l, rfl, by decide, by decide, by decide⟩, by simp⟩
  · exact ⟨.inr ⟨45, l, rfl, by decide, by decide, by decide⟩, by simp⟩
theorem rdA1_dp {A l : List Nat} (ha : A ∈ aheads) : rdA1 pic0 (A ++ (35 :: l)) = ({ pic0 with left := marksOf A, star := decide (42 ∈ A), dollar := decide (36 ∈ A), sign := if A = [43] then [43, 97, 104, 101, 97, 100] else [] }, A.length) := by
  simp only [aheads, List.mem_cons, List.not_mem_nil, or_false] at ha
  rcases ha with rfl | rfl | rfl | rfl | rfl <;> simp [rdA1, rdA, pic0, marksOf]
theorem rdPic_dp {D : DP} (ok : D.Ok) {l : List Nat} (h : Blank l) : rdPic (D.text ++ l) = (D.pic, D.text.length) := by
  obtain ⟨A, Tl, p, c, b, pw⟩ := D
  obtain ⟨ha, ht, hat, hp1, hp5, hc, hb⟩ := ok
  dsimp only at *
  have et : DP.text ⟨A, Tl, p, c, b, pw⟩ = (((A ++ (List.replicate p 35 ++ List.replicate c 44 ++ ptOf b)) ++ (if pw then [94, 94, 94, 94] else [])) ++ Tl) := by
    simp only [DP.text, ptOf, List.append_assoc]
  generalize hpw : (if pw then [94, 94, 94, 94] else [] : List Nat) = W at et
  obtain ⟨q, rfl⟩ : ∃ q, p = q + 1 := ⟨p - 1, by lia⟩
  obtain ⟨e1, e2⟩ := ends_tail ht h
  have eW : Ends (W ++ (Tl ++ l)) := by
    subst hpw
    cases pw
    · exact e1
    · exact .inr ⟨94, _, rfl, by decide, by decide, by decide⟩
  have s1 : rdA1 pic0 (A ++ ((List.replicate (q + 1) 35 ++ List.replicate c 44 ++ ptOf b) ++ (W ++ (Tl ++ l)))) = ({ pic0 with left := marksOf A, star := decide (42 ∈ A), dollar := decide (36 ∈ A), sign := if A = [43] then [43, 97, 104, 101, 97, 100] else [] }, A.length) := by
    have := rdA1_dp (A := A) (l := (List.replicate q 35 ++ List.replicate c 44 ++ ptOf b) ++ (W ++ (Tl ++ l))) ha
    rw [← this]; rfl
  have s2 := seqR_eats s1 (rdP_dp (P := { pic0 with left := marksOf A, star := decide (42 ∈ A), dollar := decide (36 ∈ A), sign := if A = [43] then [43, 97, 104, 101, 97, 100] else [] }) (p := q + 1) (b := b) hc ⟨rfl, rfl, rfl⟩ eW)
  have s3 : ∀ P : Pic, P.power = false → rdPow P (W ++ (Tl ++ l)) = ({ P with power := pw }, W.length) := fun P hP => by
    subst hpw
    obtain ⟨left, right, point, star, dollar, comma, power, sign⟩ := P
    dsimp only at hP
    subst hP
    cases pw
    · rw [rdPow, if_neg (by simpa using e2)]; simp
    · rw [rdPow, if_pos (by simp)]; simp
  rw [← List.append_assoc] at s2
  have s4 := seqR_eats s2 (s3 _ rfl)
  rw [← List.append_assoc] at s4
  have s5 := seqR_eats s4 (rdS_dp ht (l := l) (fun q => ?_) h)
  · rw [rdPic, et]
    rw [← List.append_assoc] at s5
    rw [s5]
    simp only [DP.pic, signOf, Prod.mk.injEq, and_true]
    by_cases hA : A = [43]
    · have := hat hA
      simp [hA, this, pic0]
    · simp [hA, pic0]
  · dsimp only at q
    by_cases hA : A = [43]
    · exact hat hA
    · rw [if_neg hA] at q; exact absurd rfl q
theorem begins_dp {D : DP} (ok : D.Ok) (l : List Nat) : begins (D.text ++ l) = true := by
  obtain ⟨A, Tl, p, c, b, pw⟩ := D
  obtain ⟨ha, ht, hat, hp1, hp5, hc, hb⟩ := ok
  dsimp only at *
  obtain ⟨q, rfl⟩ : ∃ q, p = q + 1 := ⟨p - 1, by lia⟩
  have et : DP.text ⟨A, Tl, q + 1, c, b, pw⟩ ++ l = A ++ 35 :: (List.replicate q 35 ++ (List.replicate c 44 ++ ((if 0 < b then [46] ++ List.replicate b 35 else []) ++ ((if pw then [94, 94, 94, 94] else []) ++ (Tl ++ l))))) := by
    simp only [DP.text, List.append_assoc, List.replicate_succ, List.cons_append]
  rw [et]
  generalize List.replicate q 35 ++ (List.replicate c 44 ++ ((if 0 < b then [46] ++ List.replicate b 35 else []) ++ ((if pw then [94, 94, 94, 94] else []) ++ (Tl ++ l)))) = r
  simp only [aheads, List.mem_cons, List.not_mem_nil, or_false] at ha
  rcases ha with rfl | rfl | rfl | rfl | rfl <;> simp [begins]
theorem dp_pos {D : DP} (ok : D.Ok) : 1 ≤ D.text.length := by
  have := ok.p1
  simp only [DP.text, List.length_append, List.length_replicate]
  lia
theorem dp_len {D : DP} (ok : D.Ok) : D.text.length ≤ 30 := by
  have h1 := ok.p5
  have h2 := ok.c
  have h3 := ok.b
  have hA : D.A.length ≤ 3 := by
    have ha := ok.a
    simp only [aheads, List.mem_cons, List.not_mem_nil, or_false] at ha
    rcases ha with h | h | h | h | h <;> rw [h] <;> decide
  have hT : D.Tl.length ≤ 1 := by
    have ht := ok.t
    simp only [tails, List.mem_cons, List.not_mem_nil, or_false] at ht
    rcases ht with h | h | h <;> rw [h] <;> decide
  have h4 : (if D.pw then [94, 94, 94, 94] else [] : List Nat).length ≤ 4 := ite_str (by decide) (by decide)
  have h5 : (if 0 < D.b then [46] ++ List.replicate D.b 35 else [] : List Nat).length ≤ 4 := by
    split
    · simp; lia
    · simp
  simp only [DP.text, List.length_append, List.length_replicate]
  lia
theorem itF_dp {D : DP} (ok : D.Ok) {l s : List Nat} (h : Blank l) : itF (D.text ++ l).length (D.text ++ l) s = plainI s ++ .pc (.pic D.pic) :: itF l.length l [] := by
  have hp := dp_pos ok
  have hb := begins_dp ok l
  have hr := rdPic_dp ok h
  have hd : (D.text ++ l).drop D.text.length = l := List.drop_left
  generalize ht : D.text ++ l = t at *
  cases t with
  | nil => 
    have := congrArg List.length ht
    rw [List.length_append, List.length_nil] at this
    lia
  | cons c r =>
    rw [itF_step, pcAt, if_pos hb, hr]
    show plainI s ++ .pc (.pic D.pic) :: itF ((c :: r).drop D.text.length).length ((c :: r).drop D.text.length) [] = _
    rw [hd]
theorem itF_sign {c : Nat} {r s : List Nat} (h : c ∈ [32, 120, 105, 115, 58]) : itF (c :: r).length (c :: r) s = itF r.length r (s ++ [c]) := by
  have hb : ¬ begins (c :: r) = true := by
    simp only [List.mem_cons, List.not_mem_nil, or_false] at h
    rcases h with rfl | rfl | rfl | rfl | rfl <;> simp [begins]
  have hp : pcAt (c :: r) = (.none, 1) := by
    rw [pcAt, if_neg hb]
    simp only [List.mem_cons, List.not_mem_nil, or_false] at h
    rcases h with rfl | rfl | rfl | rfl | rfl <;> simp
  rw [itF_step, hp]
  simp [itStep]
noncomputable def betweens : List (List Nat) := [[32], [32, 120], [32, 105, 115, 58, 32]]
theorem items_one {D : DP} (ok : D.Ok) : itemsOf D.text = [.pc (.pic D.pic)] := by
  have := itF_dp ok (l := []) (s := []) (.inl rfl)
  rw [List.append_nil] at this
  exact this
theorem items_two {D1 D2 : DP} (ok1 : D1.Ok) (ok2 : D2.Ok) {m : List Nat} (hm : m ∈ betweens) : itemsOf (D1.text ++ m ++ D2.text) = [.pc (.pic D1.pic), .pl m, .pc (.pic D2.pic)] := by
  have two : ∀ s, s ≠ [] → itF D2.text.length D2.text s = [.pl s, .pc (.pic D2.pic)] := fun s hs => by
    have := itF_dp ok2 (l := []) (s := s) (.inl rfl)
    rw [List.append_nil] at this
    rw [this, plainI, if_neg hs]; rfl
  rw [List.append_assoc]
  unfold itemsOf
  simp only [betweens, List.mem_cons, List.not_mem_nil, or_false] at hm
  rcases hm with rfl | rfl | rfl
  · have hbl : Blank ([32] ++ D2.text) := .inr ⟨_, rfl⟩
    rw [itF_dp ok1 hbl]
    show plainI [] ++ _ :: itF (32 :: D2.text).length (32 :: D2.text) [] = _
    rw [itF_sign (by decide), two _ (by simp)]
    rfl
  · have hbl : Blank ([32, 120] ++ D2.text) := .inr ⟨_, rfl⟩
    rw [itF_dp ok1 hbl]
    show plainI [] ++ _ :: itF (32 :: 120 :: D2.text).length (32 :: 120 :: D2.text) [] = _
    rw [itF_sign (by decide), itF_sign (by decide), two _ (by simp)]
    rfl
  · have hbl : Blank ([32, 105, 115, 58, 32] ++ D2.text) := .inr ⟨_, rfl⟩
    rw [itF_dp ok1 hbl]
    show plainI [] ++ _ :: itF (32 :: 105 :: 115 :: 58 :: 32 :: D2.text).length (32 :: 105 :: 115 :: 58 :: 32 :: D2.text) [] = _
    rw [itF_sign (by decide), itF_sign (by decide), itF_sign (by decide), itF_sign (by decide), itF_sign (by decide), two _ (by simp)]
    rfl
end Mine
end
section
open PySem PySem.W PyProof.Rows
set_option Elab.async false
set_option genSizeOf false
set_option genInjectivity false
set_option maxRecDepth 100000
set_option maxHeartbeats 1000000
set_option linter.unusedVariables false
set_option linter.unusedSimpArgs false
namespace Mine
variable {C : Cx}
/-! ### laws of the number's text -/
theorem nd_ten {N : Nat} (h : 1 ≤ N) : nd (10 * N) = nd N + 1 := by
  conv => lhs; unfold nd
  rw [if_neg (by lia)]
  congr 2
  lia
theorem halfEven_ten (N u : Nat) (hu : 0 < u) : halfEven (10 * N) (10 * u) = halfEven N u := by
  unfold halfEven
  have h1 : 10 * N % (10 * u) = 10 * (N % u) := Nat.mul_mod_mul_left ..
  have h2 : 10 * N / (10 * u) = N / u := Nat.mul_div_mul_left _ _ (by decide)
  rw [h1, h2]
  by_cases q : 2 * (N % u) > u ∨ (2 * (N % u) = u ∧ N / u % 2 = 1)
  · rw [if_pos q, if_pos (by lia)]
  · rw [if_neg q, if_neg (by lia)]
theorem sc_ten {N : Nat} (h : 1 ≤ N) (k : Int) : sc (10 * N) (k - 1) = sc N k := by
  unfold sc
  by_cases h1 : 1 ≤ k
  · rw [if_pos (by lia), if_pos (by lia)]
    obtain ⟨j, rfl⟩ : ∃ j : Nat, k = (j : Int) + 1 := ⟨(k - 1).toNat, by lia⟩
    have e1 : ((j : Int) + 1 - 1).toNat = j := by lia
    have e2 : ((j : Int) + 1).toNat = j + 1 := by lia
    rw [e1, e2, Nat.pow_succ, Nat.mul_comm 10 N, Nat.mul_assoc, Nat.mul_comm 10]
  · rw [if_neg (by lia)]
    by_cases h0 : k = 0
    · subst h0
      rw [if_pos (by lia)]
      have e : (-((0 : Int) - 1)) = 1 := by lia
      rw [e, roundedBy, if_neg (by lia), if_neg (by lia)]
      show halfEven (10 * N) (10 ^ 1) = N * 10 ^ 0
      unfold halfEven
      have e1 : 10 * N % 10 ^ 1 = 0 := by lia
      have e2 : 10 * N / 10 ^ 1 = N := by lia
      rw [e1, e2, if_neg (by lia)]
      simp
    · rw [if_neg (by lia)]
      obtain ⟨p, rfl⟩ : ∃ p : Nat, k = -((p : Int) + 1) := ⟨(-k - 1).toNat, by lia⟩
      have e1 : (-(-((p : Int) + 1) - 1)) = ((p + 2 : Nat) : Int) := by lia
      have e2 : (- -((p : Int) + 1)) = ((p + 1 : Nat) : Int) := by lia
      rw [e1, e2]
      unfold roundedBy
      rw [if_neg (show ¬ ((p + 2 : Nat) : Int) ≤ 0 by lia), if_neg (show ¬ ((p + 1 : Nat) : Int) ≤ 0 by lia), nd_ten h]
      by_cases hb : ((p + 1 : Nat) : Int) > nd N + 1
      · rw [if_pos (by lia), if_pos hb]
      · rw [if_neg (by lia), if_neg hb, Int.toNat_natCast, Int.toNat_natCast, Nat.pow_succ, Nat.mul_comm _ 10]
        exact halfEven_ten N _ (Nat.pow_pos (by decide))
theorem lift_ten {P : Pic} {N : Nat} (h : 1 ≤ N) (e : Int) : liftOf P (10 * N) (e - 1) = liftOf P N e := by
  unfold liftOf
  rw [nd_ten h]
  have e1 : e - 1 + ((nd N + 1 : Nat) : Int) - exPl P = e + nd N - exPl P := by lia
  rw [e1]
  have e2 : e - 1 - (e + nd N - exPl P) + P.right = (e - (e + nd N - exPl P) + P.right) - 1 := by lia
  rw [e2, sc_ten h]
theorem parts_ten {P : Pic} {N : Nat} (h : 1 ≤ N) (e : Int) : partsOf P (10 * N) (e - 1) = partsOf P N e := by
  unfold partsOf
  have e1 : e - 1 + (P.right : Int) = (e + P.right) - 1 := by lia
  rw [e1, sc_ten h]
  split
  · unfold withExp
    rw [if_neg (by lia), if_neg (by lia)]
    unfold expFig
    rw [lift_ten h]
    have e2 : e - 1 - liftOf P N e + P.right = (e - liftOf P N e + P.right) - 1 := by lia
    rw [e2, sc_ten h]
  · rfl
theorem num_longer {P : Pic} {c e : Int} (h : c ≠ 0) : numBy P (10 * c) (e - 1) = numBy P c e := by
  unfold numBy
  have e1 : (10 * c).natAbs = 10 * c.natAbs := by lia
  have e2 : decide (10 * c < 0) = decide (c < 0) := by congr 1; apply propext; lia
  rw [e1, e2, parts_ten (by lia)]
/-! #### how long the parts are -/
theorem low_lt {N j : Nat} : (low j N).length = j := low_len j N
theorem nz_lt (N : Nat) : N < 10 ^ nz N := by
  rcases Nat.lt_or_ge N (10 ^ nz N) with h | h
  · exact h
  · have : 0 < N / 10 ^ nz N := Nat.div_pos h (Nat.pow_pos (by decide))
    exact absurd ((nz_pos (nz N) N).mp this) (by lia)
theorem padded_exact {u m : Nat} (h : u < 10 ^ m) : (padded u m).length = m := by
  have := nz_le h
  rw [padded, low_len]; lia
theorem halfEven_le {a u k : Nat} (hu : 0 < u) (h : a < 10 ^ k * u) : halfEven a u ≤ 10 ^ k := by
  have : a / u < 10 ^ k := (Nat.div_lt_iff_lt_mul hu).mpr h
  unfold halfEven
  split <;> lia
theorem sc_rounded {N p : Nat} (hp : 1 ≤ p) (hn : p ≤ nd N + 1) : sc N (-(p : Int)) = halfEven N (10 ^ p) := by
  unfold sc
  rw [if_neg (by lia)]
  have e : (- -(p : Int)) = (p : Int) := by lia
  rw [e, roundedBy, if_neg (by lia), if_neg (by lia), Int.toNat_natCast]
theorem exp_lt (P : Pic) (N : Nat) (e : Int) : sc N (e - liftOf P N e + P.right) < 10 ^ (exPl P + P.right) := by
  have hN := nd_lt N
  generalize hm : exPl P + P.right = m
  have ex : e - (e + nd N - exPl P) + P.right = (m : Int) - nd N := by lia
  unfold liftOf
  rw [ex, hm]
  split
  · rename_i hge
    have e2 : e - (e + nd N - exPl P + 1) + P.right = (m : Int) - nd N - 1 := by lia
    rw [e2]
    -- the figures were too many by one
    have hlt : m < nd N := by
      rcases Nat.lt_or_ge m (nd N) with h | h
      · exact h
      · exfalso
        obtain ⟨j, rfl⟩ : ∃ j, m = nd N + j := ⟨m - nd N, by lia⟩
        have : ((nd N + j : Nat) : Int) - nd N = (j : Int) := by lia
        rw [this, sc, if_pos (by lia), Int.toNat_natCast] at hge
        have : N * 10 ^ j < 10 ^ nd N * 10 ^ j := Nat.mul_lt_mul_of_pos_right hN (Nat.pow_pos (by decide))
        rw [← Nat.pow_add] at this
        lia
    obtain ⟨p, hp⟩ : ∃ p, nd N = m + p := ⟨nd N - m, by lia⟩
    have e3 : (m : Int) - nd N - 1 = -((p + 1 : Nat) : Int) := by lia
    rw [e3, sc_rounded (by lia) (by lia)]
    have hN' : N < 10 ^ m * 10 ^ p := by rw [← Nat.pow_add, ← hp]; exact hN
    cases m with
    | zero =>
      have h1 : N < 10 ^ (p + 1) := by rw [Nat.pow_succ]; simp at hN'; lia
      have h2 : 2 * N < 10 ^ (p + 1) := by rw [Nat.pow_succ]; simp at hN'; lia
      unfold halfEven
      rw [Nat.div_eq_of_lt h1, Nat.mod_eq_of_lt h1, if_neg (by lia)]
      decide
    | succ m =>
      have h1 : N < 10 ^ m * 10 ^ (p + 1) := by
        rw [Nat.pow_succ, Nat.mul_assoc, Nat.mul_comm 10, ← Nat.pow_succ] at hN'
        exact hN'
      have := halfEven_le (Nat.pow_pos (by decide)) h1
      have h2 : 10 ^ m < 10 ^ (m + 1) := Nat.pow_lt_pow_right (by decide) (by lia)
      lia
  · rename_i hlt
    rw [ex]
    lia
theorem expFig_len (P : Pic) (N : Nat) (e : Int) : (expFig P N e).length = exPl P + P.right := padded_exact (exp_lt P N e)
theorem lift_small {P : Pic} {N : Nat} {e : Int} (hl : P.left ≤ 20) (hN : N < 10 ^ 10) (h1 : e ≤ 20) (h2 : -20 ≤ e) : (liftOf P N e).natAbs < 100 := by
  have h3 : nd N ≤ 10 := nd_le (by decide) hN
  have h4 : exPl P ≤ 20 := by unfold exPl; lia
  unfold liftOf
  split <;> lia
theorem told_len {l : Int} (h : l.natAbs < 100) : (expTold l).length = 4 := by
  have : (padded l.natAbs 2).length = 2 := padded_exact (by simpa using h)
  simp [expTold, this]
/-- the lengths of a number's parts -/
theorem parts_len {P : Pic} {N : Nat} {e : Int} (hl : P.left ≤ 20) (h0 : 1 ≤ N) (hN : N < 10 ^ 10) (h1 : e ≤ 20) (h2 : -20 ≤ e) :
    (partsOf P N e).2.1.length = P.right ∧ (partsOf P N e).2.2.length = (if P.power then 4 else 0) ∧ (P.power = true → (partsOf P N e).1.length = exPl P) := by
  unfold partsOf
  split
  · rename_i hp
    unfold withExp
    rw [if_neg (by lia)]
    have hf := expFig_len P N e
    refine ⟨?_, told_len (lift_small hl hN h1 h2), fun _ => ?_⟩
    · simp only [List.length_drop]; lia
    · simp only [List.length_take]; lia
  · rename_i hp
    refine ⟨?_, by simp, fun q => absurd q hp⟩
    have : P.right + 1 ≤ (padded (sc N (e + P.right)) (P.right + 1)).length := by rw [padded, low_len]; lia
    simp only [List.length_drop]; lia
/-! #### which signs stand where -/
noncomputable def Fig (l : List Nat) : Prop := ∀ c ∈ l, 48 ≤ c ∧ c ≤ 57
noncomputable def FigC (l : List Nat) : Prop := ∀ c ∈ l, c = 44 ∨ (48 ≤ c ∧ c ≤ 57)
theorem low_fig : ∀ (j N : Nat), Fig (low j N)
  | 0, N => fun c h => by cases h
  | j + 1, N => fun c h => by
    rw [low_succ] at h
    rcases List.mem_cons.mp h with rfl | h
    · have := Nat.mod_lt (N / 10 ^ j) (show 10 > 0 by decide); lia
    · exact low_fig j N c h
theorem padded_fig (N m : Nat) : Fig (padded N m) := low_fig _ _
theorem Fig.take {l : List Nat} (h : Fig l) (n : Nat) : Fig (l.take n) := fun c hc => h c (List.mem_of_mem_take hc)
theorem Fig.drop {l : List Nat} (h : Fig l) (n : Nat) : Fig (l.drop n) := fun c hc => h c (List.mem_of_mem_drop hc)
theorem Fig.c {l : List Nat} (h : Fig l) : FigC l := fun c hc => .inr (h c hc)
theorem grp_fig : ∀ (n : Nat) (l : List Nat), l.length ≤ n → Fig l → FigC (grp l)
  | 0, l, h, hf => by unfold grp; rw [dif_pos (by lia)]; exact hf.c
  | n + 1, l, h, hf => by
    unfold grp
    split
    · exact hf.c
    · intro c hc
      rcases List.mem_append.mp hc with h1 | h1
      · exact grp_fig n (l.take (l.length - 3)) (by simp only [List.length_take]; lia) (hf.take _) c h1
      · rcases List.mem_cons.mp h1 with rfl | h1
        · exact .inl rfl
        · exact .inr (hf.drop _ c h1)
/-- the signs of what an exponent tells -/
noncomputable def TolC (l : List Nat) : Prop := ∀ c ∈ l, c = 69 ∨ c = 43 ∨ c = 45 ∨ (48 ≤ c ∧ c ≤ 57)
theorem told_sig (l : Int) : TolC (expTold l) := by
  intro c hc
  unfold expTold at hc
  rcases List.mem_cons.mp hc with rfl | hc
  · exact .inl rfl
  · rcases List.mem_cons.mp hc with rfl | hc
    · split <;> simp
    · exact .inr (.inr (.inr (padded_fig _ _ c hc)))
theorem parts_sig (P : Pic) (N : Nat) (e : Int) (h0 : 1 ≤ N) : Fig (partsOf P N e).1 ∧ Fig (partsOf P N e).2.1 ∧ TolC (partsOf P N e).2.2 := by
  unfold partsOf
  split
  · unfold withExp
    rw [if_neg (by lia)]
    exact ⟨(padded_fig _ _).take _, (padded_fig _ _).drop _, told_sig _⟩
  · exact ⟨(padded_fig _ _).take _, (padded_fig _ _).drop _, fun c hc => by cases hc⟩
theorem grpA_fig {P : Pic} {A : List Nat} (h : Fig A) : FigC (grpA P A) := by
  unfold grpA
  split
  · exact grp_fig _ A (Nat.le_refl _) h
  · exact h.c
theorem cutA_fig {P : Pic} {neg : Bool} {A B : List Nat} (h : FigC A) : FigC (cutA P neg A B) := by
  unfold cutA
  split
  · intro c hc; cases hc
  · exact h
/-- the signs of a whole text, but the fill and the tail -/
theorem lead_sig (P : Pic) (neg : Bool) : ∀ c ∈ leadD P neg, c = 43 ∨ c = 45 ∨ c = 36 := by
  intro c hc
  unfold leadD leadOf at hc
  rcases List.mem_append.mp hc with h | h
  · repeat' split at h
    all_goals simp_all
  · split at h
    · simp_all
    · cases h
theorem tail_sig (P : Pic) (neg : Bool) : ∀ c ∈ tailOf P neg, c = 43 ∨ c = 45 ∨ c = 32 := by
  intro c hc
  unfold tailOf at hc
  repeat' split at hc
  all_goals simp_all
/-! #### a drawn picture's numbers -/
theorem dp_sign {D : DP} (ok : D.Ok) : (D.A = [43] ∧ D.Tl = [] ∧ D.pic.sign = [43, 97, 104, 101, 97, 100]) ∨ (D.A ≠ [43] ∧ D.Tl = [] ∧ D.pic.sign = []) ∨ (D.A ≠ [43] ∧ D.Tl = [43] ∧ D.pic.sign = [43, 98, 101, 104, 105, 110, 100]) ∨ (D.A ≠ [43] ∧ D.Tl = [45] ∧ D.pic.sign = [45, 98, 101, 104, 105, 110, 100]) := by
  have hs : D.pic.sign = signOf D.A D.Tl := rfl
  by_cases h : D.A = [43]
  · have ht := ok.at_ h
    exact .inl ⟨h, ht, by rw [hs, signOf, if_pos h]⟩
  · have ht := ok.t
    simp only [tails, List.mem_cons, List.not_mem_nil, or_false] at ht
    rcases ht with q | q | q
    · exact .inr (.inl ⟨h, q, by rw [hs, signOf, if_neg h, if_pos q]⟩)
    · exact .inr (.inr (.inl ⟨h, q, by rw [hs, signOf, if_neg h, q]; rfl⟩))
    · exact .inr (.inr (.inr ⟨h, q, by rw [hs, signOf, if_neg h, q]; rfl⟩))
theorem dp_tail {D : DP} (ok : D.Ok) (neg : Bool) : (tailOf D.pic neg).length = D.Tl.length := by
  rcases dp_sign ok with ⟨_, h2, h3⟩ | ⟨_, h2, h3⟩ | ⟨_, h2, h3⟩ | ⟨_, h2, h3⟩ <;> unfold tailOf <;> rw [h2, h3] <;> cases neg <;> decide
theorem dp_width {D : DP} (ok : D.Ok) : widthOf D.pic = D.A.length + D.p + D.c := by
  have hl : D.pic.left = marksOf D.A + D.p + D.c := rfl
  rcases dp_sign ok with ⟨h1, h2, h3⟩ | ⟨h1, h2, h3⟩ | ⟨h1, h2, h3⟩ | ⟨h1, h2, h3⟩ <;> unfold widthOf <;> rw [hl, h3] <;> unfold marksOf
  · rw [if_pos h1, if_pos rfl, h1]; simp; lia
  all_goals (rw [if_neg h1, if_neg (by decide)]; lia)
theorem dp_text_len (D : DP) : D.text.length = D.A.length + D.p + D.c + (if 0 < D.b then 1 + D.b else 0) + (if D.pw then 4 else 0) + D.Tl.length := by
  simp only [DP.text, List.length_append, List.length_replicate]
  have h4 : (if D.pw then [94, 94, 94, 94] else [] : List Nat).length = if D.pw then 4 else 0 := by split <;> rfl
  have h5 : (if 0 < D.b then [46] ++ List.replicate D.b 35 else [] : List Nat).length = if 0 < D.b then 1 + D.b else 0 := by split <;> simp; lia
  rw [h4, h5]
theorem whole_len {D : DP} (ok : D.Ok) {neg : Bool} {A B T : List Nat} (hB : B.length = D.b) (hT : T.length = if D.pw then 4 else 0) :
    ((wholeOf D.pic neg A B T).length : Int) = D.text.length + (if roomOf D.pic neg A < 0 then - roomOf D.pic neg A else 0) := by
  have h1 := dp_tail ok neg
  have h2 := dp_width ok
  have h3 := dp_text_len D
  have hpt : (if D.pic.point then [46] else [] : List Nat).length = if 0 < D.b then 1 else 0 := by
    have : D.pic.point = decide (0 < D.b) := rfl
    rw [this]; by_cases q : 0 < D.b <;> simp [q]
  have hr : roomOf D.pic neg A = (D.A.length + D.p + D.c : Nat) - ((leadD D.pic neg).length + A.length : Nat) := by
    unfold roomOf; rw [h2, List.length_append]
  unfold wholeOf
  simp only [List.length_append, List.length_replicate, hpt, h1, hB, hT]
  rw [h3]
  generalize (leadD D.pic neg).length = ld at *
  generalize (if D.pw = true then 4 else 0 : Nat) = w
  by_cases q : 0 < D.b
  · rw [if_pos q, if_pos q]; split <;> lia
  · rw [if_neg q, if_neg q]; split <;> lia
theorem whole_sig {P : Pic} {neg : Bool} {A B T : List Nat} (hA : FigC A) (hB : Fig B) (hT : TolC T) : ∀ c ∈ wholeOf P neg A B T, c ≠ 37 := by
  intro c hc
  unfold wholeOf at hc
  simp only [List.mem_append] at hc
  rcases hc with (((((h | h) | h) | h) | h) | h) | h
  · have := List.eq_of_mem_replicate h
    split at this <;> lia
  · have := lead_sig P neg c h; lia
  · have := hA c h; lia
  · split at h
    · simp at h; lia
    · cases h
  · have := hB c h; lia
  · have := hT c h; lia
  · have := tail_sig P neg c h; lia
/-- what is made is as long as its picture, or a % stands ahead and it is longer by two -/
theorem made_len {D : DP} (ok : D.Ok) {neg : Bool} {A B T : List Nat} (hB : B.length = D.b) (hT : T.length = if D.pw then 4 else 0) (sA : FigC A) (sB : Fig B) (sT : TolC T) :
    (∃ c r, numOf' D.pic neg A B T = c :: r ∧ c ≠ 37 ∧ (c :: r).length = D.text.length) ∨ (∃ r, numOf' D.pic neg A B T = 37 :: r ∧ D.text.length + 2 ≤ r.length + 1) := by
  have hl := whole_len ok (neg := neg) (A := A) hB hT
  have hp := dp_pos ok
  have hs := whole_sig (P := D.pic) (neg := neg) sA sB sT
  unfold numOf'
  split
  · rename_i hr
    refine .inr ⟨_, rfl, ?_⟩
    rw [if_pos hr] at hl
    lia
  · rename_i hr
    rw [if_neg hr] at hl
    cases hw : wholeOf D.pic neg A B T with
    | nil => rw [hw] at hl; simp at hl; lia
    | cons c r =>
      rw [hw] at hl hs
      exact .inl ⟨c, r, rfl, hs c (.head _), by lia⟩
theorem rstr_sub {c a : Nat} {l : List Nat} (h : a ∈ rstr c l) : a ∈ l := by
  unfold rstr at h
  have := (List.dropWhile_sublist (· == c)).subset (List.mem_reverse.mp h)
  exact List.mem_reverse.mp this
theorem rstr_snoc (c : Nat) (l : List Nat) : rstr c (l ++ [c]) = rstr c l := by
  unfold rstr
  rw [List.reverse_append]
  simp
noncomputable def bodyOf (P : Pic) (neg : Bool) (A B T : List Nat) : List Nat := List.replicate (roomOf P neg A).toNat (if P.star then 42 else 32) ++ leadD P neg ++ A ++ (if P.point then [46] else []) ++ B ++ T
theorem whole_body (P : Pic) (neg : Bool) (A B T : List Nat) : wholeOf P neg A B T = bodyOf P neg A B T ++ tailOf P neg := rfl
theorem body_sig {P : Pic} {neg : Bool} {A B T : List Nat} (hA : FigC A) (hB : Fig B) (hT : TolC T) : ∀ c ∈ bodyOf P neg A B T, c = (if P.star then 42 else 32) ∨ (c ≠ 42 ∧ c ≠ 32) := by
  intro c hc
  unfold bodyOf at hc
  simp only [List.mem_append] at hc
  rcases hc with ((((h | h) | h) | h) | h) | h
  · exact .inl (List.eq_of_mem_replicate h)
  · have := lead_sig P neg c h; exact .inr (by lia)
  · have := hA c h; exact .inr (by lia)
  · split at h
    · simp at h; exact .inr (by lia)
    · cases h
  · have := hB c h; exact .inr (by lia)
  · have := hT c h; exact .inr (by lia)
theorem made_fill {P : Pic} {neg : Bool} {A B T : List Nat} (hA : FigC A) (hB : Fig B) (hT : TolC T) : (if P.star then 32 else 42) ∉ rstr 32 (numOf' P neg A B T) := by
  have hb := body_sig (P := P) (neg := neg) hA hB hT
  have ht := tail_sig P neg
  -- the text is x ++ tail, no sign of x is the wrong one
  have key : ∀ x : List Nat, (∀ c ∈ x, c = 37 ∨ c = (if P.star then 42 else 32) ∨ (c ≠ 42 ∧ c ≠ 32)) → (if P.star then 32 else 42) ∉ rstr 32 (x ++ tailOf P neg) := by
    intro x hx hm
    have hx' : (if P.star then 32 else 42) ∉ x := fun q => by
      have := hx _ q
      cases hs : P.star <;> rw [hs] at this <;> simp at this
    by_cases h32 : tailOf P neg = [32]
    · rw [h32, rstr_snoc] at hm
      exact hx' (rstr_sub hm)
    · have := rstr_sub hm
      rcases List.mem_append.mp this with q | q
      · exact hx' q
      · have h1 := ht _ q
        cases hs : P.star
        · rw [hs] at h1; simp at h1
        · rw [hs] at q
          simp only [if_true] at q
          -- a blank at the end, and not the only sign there
          have hlen := tailOf_len P neg
          cases htl : tailOf P neg with
          | nil => rw [htl] at q; cases q
          | cons a r =>
            rw [htl] at q hlen h32
            have hr : r = [] := List.length_eq_zero_iff.mp (by simpa using hlen)
            subst hr
            simp at q
            exact h32 (by rw [q])
  unfold numOf'
  rw [whole_body]
  split
  · rw [← List.cons_append]
    refine key _ fun c hc => ?_
    rcases List.mem_cons.mp hc with rfl | hc
    · exact .inl rfl
    · exact .inr (hb c hc)
  · exact key _ fun c hc => .inr (hb c hc)
/-! #### the same number below nought -/
theorem count_no {c : Nat} {l : List Nat} (h : c ∉ l) : l.count c = 0 := List.count_eq_zero.mpr h
theorem turned_none {P : Pic} {A B T : List Nat} (hs : P.sign = []) (hA : FigC (grpA P A)) (hB : Fig B) (hT : TolC T) :
    (numOf P true A B T).count 45 = (numOf P false A B T).count 45 + 1 := by
  have one : ∀ neg A', FigC A' → (numOf' P neg A' B T).count 45 = (if neg then 1 else 0) + T.count 45 := by
    intro neg A' hA'
    have hw : (wholeOf P neg A' B T).count 45 = (if neg then 1 else 0) + T.count 45 := by
      have e1 : tailOf P neg = [] := by rw [tailOf, if_neg (by rw [hs]; decide), if_neg (by rw [hs]; decide)]
      have e2 : (leadD P neg).count 45 = if neg then 1 else 0 := by
        unfold leadD leadOf
        rw [if_neg (by rw [hs]; decide), hs]
        cases neg <;> cases P.dollar <;> decide
      have e3 : (List.replicate (roomOf P neg A').toNat (if P.star then 42 else 32 : Nat)).count 45 = 0 := count_no fun q => by
        have := List.eq_of_mem_replicate q
        split at this <;> lia
      have e4 : A'.count 45 = 0 := count_no fun q => by have := hA' 45 q; lia
      have e5 : B.count 45 = 0 := count_no fun q => by have := hB 45 q; lia
      have e6 : (if P.point then [46] else [] : List Nat).count 45 = 0 := by split <;> decide
      unfold wholeOf
      simp only [List.count_append, e1, e2, e3, e4, e5, e6, List.count_nil]
      lia
    unfold numOf'
    split
    · rw [List.count_cons, hw]; simp
    · exact hw
  unfold numOf
  rw [one true _ (cutA_fig (by assumption)), one false _ (cutA_fig (by assumption))]
  simp; lia
theorem rep1_at {c d : Nat} : ∀ {x : List Nat} (y : List Nat), c ∉ x → rep1 c d (x ++ c :: y) = x ++ d :: y
  | [], y, _ => by simp [rep1]
  | a :: x, y, h => by
    rw [List.cons_append, rep1, if_neg (fun q => h (by rw [q]; exact .head _)), rep1_at y fun q => h (.tail _ q)]
    rfl
theorem turned_ahead {P : Pic} {A B T : List Nat} (hs : P.sign = [43, 97, 104, 101, 97, 100]) : numOf P true A B T = rep1 43 45 (numOf P false A B T) := by
  have e1 : ∀ neg, leadD P neg = (if neg then 45 else 43) :: (if P.dollar then [36] else []) := fun neg => by
    unfold leadD leadOf; rw [if_pos hs]; cases neg <;> rfl
  have e2 : ∀ neg, tailOf P neg = [] := fun neg => by rw [tailOf, if_neg (by rw [hs]; decide), if_neg (by rw [hs]; decide)]
  have el : (leadD P true).length = (leadD P false).length := by rw [e1, e1]; rfl
  have er : ∀ A, roomOf P true A = roomOf P false A := fun A => by unfold roomOf; rw [List.length_append, List.length_append, el]
  have ec : cutA P true (grpA P A) B = cutA P false (grpA P A) B := by unfold cutA; rw [List.length_append, List.length_append, el]
  unfold numOf
  rw [ec]
  generalize cutA P false (grpA P A) B = A'
  have hw : ∀ neg, wholeOf P neg A' B T = List.replicate (roomOf P false A').toNat (if P.star then 42 else 32) ++ (if neg then 45 else 43) :: ((if P.dollar then [36] else []) ++ A' ++ (if P.point then [46] else []) ++ B ++ T) := fun neg => by
    have e3 : roomOf P neg A' = roomOf P false A' := by cases neg; rfl; exact er A'
    unfold wholeOf
    rw [e3, e1, e2]
    simp
  have hno : 43 ∉ List.replicate (roomOf P false A').toNat (if P.star then 42 else 32 : Nat) := fun q => by
    have := List.eq_of_mem_replicate q
    split at this <;> lia
  unfold numOf'
  rw [er, hw true, hw false]
  split
  · have h37 : 43 ∉ 37 :: List.replicate (roomOf P false A').toNat (if P.star then 42 else 32 : Nat) := fun q => by
      rcases List.mem_cons.mp q with q | q
      · lia
      · exact hno q
    exact (rep1_at (c := 43) (d := 45) _ h37).symm
  · exact (rep1_at (c := 43) (d := 45) _ hno).symm
theorem turned_behind {P : Pic} {A B T : List Nat} {t : Nat} (hs : (P.sign = [43, 98, 101, 104, 105, 110, 100] ∧ t = 43) ∨ (P.sign = [45, 98, 101, 104, 105, 110, 100] ∧ t = 32)) :
    ∃ x, numOf P false A B T = x ++ [t] ∧ numOf P true A B T = x ++ [45] := by
  have e1 : ∀ neg, leadD P neg = leadD P false := fun neg => by
    unfold leadD leadOf
    rcases hs with ⟨h, _⟩ | ⟨h, _⟩ <;> rw [h] <;> cases neg <;> rfl
  have e2 : tailOf P false = [t] ∧ tailOf P true = [45] := by
    unfold tailOf
    rcases hs with ⟨h, rfl⟩ | ⟨h, rfl⟩ <;> rw [h] <;> exact ⟨rfl, rfl⟩
  have er : ∀ A, roomOf P true A = roomOf P false A := fun A => by unfold roomOf; rw [e1 true]
  have ec : cutA P true (grpA P A) B = cutA P false (grpA P A) B := by unfold cutA; rw [e1 true]
  unfold numOf
  rw [ec]
  generalize cutA P false (grpA P A) B = A'
  have hb : bodyOf P true A' B T = bodyOf P false A' B T := by unfold bodyOf; rw [er, e1 true]
  unfold numOf'
  rw [er, whole_body, whole_body, hb, e2.1, e2.2]
  split
  · exact ⟨37 :: bodyOf P false A' B T, rfl, rfl⟩
  · exact ⟨bodyOf P false A' B T, rfl, rfl⟩
end Mine
end
section
open PySem PySem.W PyProof.Rows
set_option Elab.async false
set_option genSizeOf false
set_option genInjectivity false
set_option maxRecDepth 100000
set_option maxHeartbeats 1000000
set_option linter.unusedVariables false
set_option linter.unusedSimpArgs false
namespace Mine
variable {C : Cx}
/-! ### the law's own questions -/
theorem dp_picOk {D : DP} (ok : D.Ok) : PicOk D.pic := by
  have h1 := ok.p5
  have h2 := ok.c
  have h3 := ok.b
  have hA : D.A.length ≤ 3 := by
    have ha := ok.a
    simp only [aheads, List.mem_cons, List.not_mem_nil, or_false] at ha
    rcases ha with h | h | h | h | h <;> rw [h] <;> decide
  have hm : marksOf D.A ≤ 3 := by unfold marksOf; split <;> lia
  refine ⟨?_, ?_, ?_⟩
  · show marksOf D.A + D.p + D.c ≤ 100; lia
  · show D.b ≤ 100; lia
  · rcases dp_sign ok with ⟨_, _, h⟩ | ⟨_, _, h⟩ | ⟨_, _, h⟩ | ⟨_, _, h⟩ <;> rw [h] <;> decide
theorem pcs_one {ah : AH} {P : Pic} {ps : List PV} (h : PcsV C ah [.pc (.pic P)] ps) : ∃ a, ps = [.ref a] ∧ (a, picO C P) ∈ ah := by
  cases h with
  | cons h1 h2 =>
    cases h2
    cases h1 with
    | pic hm => exact ⟨_, rfl, hm⟩
theorem eqAll_refl : ∀ (ps : List PV), (∀ p ∈ ps, (∃ i, p = .int i) ∨ (∃ b, p = .bool b) ∨ ∃ l, p = .str l) → eqAll ps ps = some true
  | [], _ => rfl
  | p :: ps, h => by
    have e : eqPV p p = some true := by
      rcases h p (.head _) with ⟨i, rfl⟩ | ⟨b, rfl⟩ | ⟨l, rfl⟩ <;> simp [eqPV]
    rw [eqAll, e, eqAll_refl ps fun q hq => h q (.tail _ hq)]
    rfl
theorem due_prim (D : DP) : ∀ p ∈ D.due, (∃ i, p = .int i) ∨ (∃ b, p = .bool b) ∨ ∃ l, p = .str l := by
  intro p hp
  simp only [DP.due, dueOf, List.mem_cons, List.not_mem_nil, or_false] at hp
  rcases hp with rfl | rfl | rfl | rfl | rfl | rfl | rfl | rfl
  · exact .inl ⟨_, rfl⟩
  · exact .inl ⟨_, rfl⟩
  · exact .inr (.inl ⟨_, rfl⟩)
  · exact .inr (.inl ⟨_, rfl⟩)
  · exact .inr (.inl ⟨_, rfl⟩)
  · exact .inr (.inl ⟨_, rfl⟩)
  · exact .inr (.inl ⟨_, rfl⟩)
  · exact .inr (.inr ⟨_, rfl⟩)
theorem law_read_right_ok (G : Good C ss fns bs fields) {D : DP} {u : Addr} {ah : AH} (ok : D.Ok) (hu : (u, AObj.list D.due) ∈ ah) :
    Fn C 50 (adr C.K "_law_read_right") [.str D.text, .ref u] ah fun r ah' => r = .bool true ∧ ∃ N, ah' = N ++ ah := by
  refine Fn_W (F := F_law_read_right C.K) (n := 49) rfl G (D_law_read_right G) C_law_read_right rfl rfl fun V => ?_
  have hlen := dp_len ok
  (conv => whnf)
  refine ⟨Fn.mono (read_pieces_ok G (by lia)) (by decide) ?_⟩
  rintro _ _ ⟨f, ps, N, rfl, rfl, hf, hps, -⟩
  rw [items_one ok] at hps
  obtain ⟨a, rfl, ha⟩ := pcs_one hps
  (conv => whnf)
  refine ⟨_, hf, by simp, ?_⟩
  (conv => whnf)
  refine ⟨fun q => (by cases q), fun _ => ?_⟩
  (conv => whnf)
  refine ⟨by simp only [List.length_cons, List.length_nil]; lia, ?_⟩
  (conv => whnf)
  refine FnP.dr (read_picture_ok G (i := 0) (l := D.text ++ [32, 35]) rfl (by simp; lia)) (by decide) fun a2 ha2 => ?_
  rw [rdPic_dp ok (.inr ⟨_, rfl⟩)]
  dsimp only
  (conv => whnf)
  refine ⟨by simp, ?_⟩
  (conv => whnf)
  refine ⟨by (first | assumption | exact len_small (by assumption) | exact len_small (by simp only [List.length_append, List.length_cons, List.length_nil, low_len]; omega) | omega | (simp only [List.length_append, List.length_cons, List.length_nil, low_len]; omega)), ?_⟩
  (conv => whnf)
  have e0 : (!decide (((0 + D.text.length : Nat) : Int) = (D.text.length : Int))) = false := by simp
  rw [e0]
  refine ⟨fun q => (by cases q), fun _ => ?_⟩
  have ha' : (a, picO C D.pic) ∈ (a2, picO C D.pic) :: (N ++ ah) := .tail _ ha
  (conv => whnf)
  refine ⟨_, _, .tail _ hf, by simp, rfl, ?_⟩
  (conv => whnf)
  refine ⟨_, f_left G ha', ?_⟩
  (conv => whnf)
  refine ⟨_, f_right G ha', ?_⟩
  (conv => whnf)
  refine ⟨_, f_point G ha', ?_⟩
  (conv => whnf)
  refine ⟨_, f_star G ha', ?_⟩
  (conv => whnf)
  refine ⟨_, f_dollar G ha', ?_⟩
  (conv => whnf)
  refine ⟨_, f_comma G ha', ?_⟩
  (conv => whnf)
  refine ⟨by simp, fun b1 hb1 => ?_⟩
  (conv => whnf)
  refine ⟨_, f_power G (.tail _ ha'), ?_⟩
  (conv => whnf)
  refine ⟨_, f_sign G (.tail _ ha'), ?_⟩
  (conv => whnf)
  refine ⟨by simp, fun b2 hb2 => ?_⟩
  (conv => whnf)
  refine ⟨_, _, .tail _ (.head _), .head _, by simp, by simp, fun b3 hb3 => ?_⟩
  (conv => whnf)
  refine ⟨_, _, true, .head _, .tail _ (.tail _ (.tail _ (.tail _ (List.mem_append_right _ hu)))), eqAll_refl D.due (due_prim D), ?_⟩
  exact ⟨rfl, [_, _, _, _] ++ N, rfl⟩
theorem is_plain_ok (G : Good C ss fns bs fields) {x : Item} {p : PV} {ah : AH} (h : PcV C ah x p) : Fn C 10 (adr C.K "is_plain") [p] ah fun r ah' => r = .bool (match x with | .pl _ => true | _ => false) ∧ ah' = ah := by
  refine Fn_W (F := F_is_plain C.K) (n := 9) rfl G (D_is_plain G) C_is_plain rfl rfl fun V => ?_
  cases h with
  | pl =>
    (conv => whnf)
    refine ⟨fun _ => ?_, fun q => (by cases q)⟩
    (conv => whnf)
    refine ⟨by simp, ?_⟩
    (conv => whnf)
    exact ⟨rfl, rfl⟩
  | pic hm =>
    (conv => whnf)
    refine ⟨⟨_, hm⟩, ?_⟩
    (conv => whnf)
    refine ⟨fun q => (by cases q), fun _ => ?_⟩
    exact ⟨rfl, rfl⟩
  | first =>
    (conv => whnf)
    refine ⟨fun _ => ?_, fun q => (by cases q)⟩
    (conv => whnf)
    refine ⟨by simp, ?_⟩
    (conv => whnf)
    exact ⟨rfl, rfl⟩
  | whole =>
    (conv => whnf)
    refine ⟨fun _ => ?_, fun q => (by cases q)⟩
    (conv => whnf)
    refine ⟨by simp, ?_⟩
    (conv => whnf)
    exact ⟨rfl, rfl⟩
  | wide =>
    (conv => whnf)
    refine ⟨fun _ => ?_, fun q => (by cases q)⟩
    (conv => whnf)
    refine ⟨by simp, ?_⟩
    (conv => whnf)
    exact ⟨rfl, rfl⟩
theorem value_by_ok (G : Good C ss fns bs fields) {P : Pic} {a : Addr} {c e : Int} {v : PV} {ah : AH} (hP : (a, picO C P) ∈ ah) (ok : PicOk P) (hv : NumV c e v) (hc : c.natAbs < 2 ^ 62) (h1 : e ≤ 100) (h2 : -100 ≤ e) :
    Fn C 70 (adr C.K "value_by") [.ref a, v] ah fun r ah' => r = .str (numBy P c e) ∧ ah' = ah := by
  refine Fn_W (F := F_value_by C.K) (n := 69) rfl G (D_value_by G) C_value_by rfl rfl fun V => ?_
  cases hv with
  | int h0 =>
    (conv => whnf)
    refine ⟨⟨_, hP⟩, ?_⟩
    (conv => whnf)
    refine ⟨fun _ => ?_, fun q => (by cases q)⟩
    (conv => whnf)
    refine ⟨fun q => (by cases q), fun _ => ?_⟩
    (conv => whnf)
    refine FnP.eq (number_by_ok G hP ok (.int h0) hc h1 h2) (by decide) ?_
    exact ⟨rfl, rfl⟩
  | dec =>
    (conv => whnf)
    refine ⟨⟨_, hP⟩, ?_⟩
    (conv => whnf)
    refine ⟨fun _ => ?_, fun q => (by cases q)⟩
    (conv => whnf)
    refine ⟨fun q => (by cases q), fun _ => ?_⟩
    (conv => whnf)
    refine FnP.eq (number_by_ok G hP ok .dec hc h1 h2) (by decide) ?_
    exact ⟨rfl, rfl⟩
end Mine
end
section
open PySem PySem.W PyProof.Rows
set_option Elab.async false
set_option genSizeOf false
set_option genInjectivity false
set_option maxRecDepth 100000
set_option maxHeartbeats 1000000
set_option linter.unusedVariables false
set_option linter.unusedSimpArgs false
namespace Mine
variable {C : Cx}
/-! ### the law's question about what is made -/
theorem num_len {P : Pic} {c e : Int} (ok : PicOk P) (hc : c.natAbs < 2 ^ 62) (h1 : e ≤ 100) (h2 : -100 ≤ e) : (numBy P c e).length ≤ 10000 := by
  obtain ⟨g1, g2, g3⟩ := partsOf_len ok hc h1 h2
  unfold numBy
  generalize (partsOf P c.natAbs e).1 = A at *
  generalize (partsOf P c.natAbs e).2.1 = B at *
  generalize (partsOf P c.natAbs e).2.2 = T at *
  generalize decide (c < 0) = neg
  have hA : (cutA P neg (grpA P A) B).length ≤ 2000 := by
    have h3 : (grpA P A).length ≤ 2000 := by
      unfold grpA
      split
      · have := grp_len _ A (Nat.le_refl _); lia
      · lia
    unfold cutA
    split
    · simp
    · exact h3
  unfold numOf numOf' wholeOf
  generalize cutA P neg (grpA P A) B = A' at *
  have hl := ok.l
  have hw : widthOf P ≤ 101 := by unfold widthOf; split <;> lia
  have hr : (roomOf P neg A').toNat ≤ 101 := by unfold roomOf; lia
  have hd : (leadD P neg).length ≤ 2 := by
    have := leadOf_len P neg
    unfold leadD
    rw [List.length_append]
    have : (if P.dollar then [36] else [] : List Nat).length ≤ 1 := ite_str (by decide) (by decide)
    lia
  have ht := tailOf_len P neg
  have hp : (if P.point then [46] else [] : List Nat).length ≤ 1 := ite_str (by decide) (by decide)
  split <;> simp only [List.length_cons, List.length_append, List.length_replicate] <;> lia
/-- all that the law asks of one number and of the other sign -/
structure MadeOk (D : DP) (x : List Nat) : Prop where
  len : (∃ c r, x = c :: r ∧ c ≠ 37 ∧ (c :: r).length = D.text.length) ∨ (∃ r, x = 37 :: r ∧ D.text.length + 2 ≤ r.length + 1)
  fill : (if D.pic.star then 32 else 42) ∉ rstr 32 x
  small : x.length ≤ 10000
theorem made_ok {D : DP} (ok : D.Ok) {c e : Int} (h0 : 1 ≤ c.natAbs) (hc : c.natAbs ≤ 30000) (h1 : e ≤ 2) (h2 : -5 ≤ e) : MadeOk D (numBy D.pic c e) := by
  have hl : D.pic.left ≤ 20 := by
    have h5 := ok.p5
    have h6 := ok.c
    have ha := ok.a
    have hA : D.A.length ≤ 3 := by
      simp only [aheads, List.mem_cons, List.not_mem_nil, or_false] at ha
      rcases ha with h | h | h | h | h <;> rw [h] <;> decide
    have hm : marksOf D.A ≤ 3 := by unfold marksOf; split <;> lia
    show marksOf D.A + D.p + D.c ≤ 20; lia
  obtain ⟨g1, g2, g3⟩ := parts_len (P := D.pic) (N := c.natAbs) (e := e) hl h0 (by lia) (by lia) (by lia)
  obtain ⟨s1, s2, s3⟩ := parts_sig D.pic c.natAbs e h0
  refine ⟨?_, ?_, num_len (dp_picOk ok) (by lia) (by lia) (by lia)⟩
  · exact made_len ok g1 g2 (cutA_fig (grpA_fig s1)) s2 s3
  · exact made_fill (cutA_fig (grpA_fig s1)) s2 s3
noncomputable def forB : PB → PB
  | .forin _ _ _ b _ => b
  | _ => .nil
theorem head0 (c : Nat) (r : List Nat) : (c :: r).getD (pyIdx (c :: r).length 0) 0 = c := rfl
theorem made_turn (G : Good C ss fns bs fields) {V : Act C (F_law_made_right C.K)} {D : DP} {u : Addr} {v pic ab be o2 o3 : Option PV} {x : List Nat} {ah : AH} {Q : St → Prop} {Qr : Kon} (ok : D.Ok) (hu : (u, AObj.list D.due) ∈ ah) (hm : MadeOk D x)
    (hQ : ∀ y, Q ⟨[(Str.ofString "text", some (.str D.text)), (Str.ofString "due", some (.ref u)), (Str.ofString "value", v), (Str.ofString "picture", pic), (Str.ofString "above", ab), (Str.ofString "below", be), (Str.ofString "made_text", some (.str x)), (Str.ofString "more", some y), (Str.ofString "ends", o3)], ah⟩) :
    Ws V 89 (forB B_law_made_right_2) (foB (hd (tlS (tlS (prt 30).body)))) ⟨[(Str.ofString "text", some (.str D.text)), (Str.ofString "due", some (.ref u)), (Str.ofString "value", v), (Str.ofString "picture", pic), (Str.ofString "above", ab), (Str.ofString "below", be), (Str.ofString "made_text", some (.str x)), (Str.ofString "more", o2), (Str.ofString "ends", o3)], ah⟩ Q Qr Q := by
  have hlen := dp_len ok
  have hs := hm.small
  have hf := hm.fill
  have fin : ∀ y, Ws V 89 (.ifs (.cmp .In (.ifj (.idx (.var 1 "due") (.int 3)) (.str [32]) (.str [42])) (.rst (.var 6 "made_text") (.str [32]))) (.ret (.bool false) .nil) .nil .nil) ((foB (hd (tlS (tlS (prt 30).body)))).drop 2) ⟨[(Str.ofString "text", some (.str D.text)), (Str.ofString "due", some (.ref u)), (Str.ofString "value", v), (Str.ofString "picture", pic), (Str.ofString "above", ab), (Str.ofString "below", be), (Str.ofString "made_text", some (.str x)), (Str.ofString "more", some y), (Str.ofString "ends", o3)], ah⟩ Q Qr Q := by
    intro y
    (conv => whnf)
    refine ⟨_, _, hu, by simp [DP.due, dueOf], rfl, ?_⟩
    have hst : D.pic.star = decide (42 ∈ D.A) := rfl
    rw [hst] at hf
    generalize decide (42 ∈ D.A) = q at hf ⊢
    (conv => whnf)
    refine ⟨by (first | assumption | exact len_small (by assumption) | exact len_small (by simp only [List.length_append, List.length_cons, List.length_nil, low_len]; omega) | omega | (simp only [List.length_append, List.length_cons, List.length_nil, low_len]; omega)), ?_⟩
    cases q with
    | true =>
      (conv => whnf)
      refine ⟨fun q => absurd (of_decide_eq_true q) (by simpa using hf), fun _ => ?_⟩
      exact hQ y
    | false =>
      (conv => whnf)
      refine ⟨fun q => absurd (of_decide_eq_true q) (by simpa using hf), fun _ => ?_⟩
      exact hQ y
  rcases hm.len with ⟨c, r, rfl, hc, hl⟩ | ⟨r, rfl, hl⟩
  · (conv => whnf)
    refine ⟨by (first | assumption | exact len_small (by assumption) | exact len_small (by simp only [List.length_append, List.length_cons, List.length_nil, low_len]; omega) | omega | (simp only [List.length_append, List.length_cons, List.length_nil, low_len]; omega)), ?_⟩
    (conv => whnf)
    refine ⟨by (first | assumption | exact len_small (by assumption) | exact len_small (by simp only [List.length_append, List.length_cons, List.length_nil, low_len]; omega) | omega | (simp only [List.length_append, List.length_cons, List.length_nil, low_len]; omega)), ?_⟩
    (conv => whnf)
    refine ⟨⟨by (first | assumption | exact len_small (by assumption) | exact len_small (by simp only [List.length_append, List.length_cons, List.length_nil, low_len]; omega) | omega | (simp only [List.length_append, List.length_cons, List.length_nil, low_len]; omega)), by lia, by simp only [List.length_cons]; lia⟩, ?_⟩
    rw [head0]
    (conv => whnf)
    refine ⟨⟨by (first | assumption | exact len_small (by assumption) | exact len_small (by simp only [List.length_append, List.length_cons, List.length_nil, low_len]; omega) | omega | (simp only [List.length_append, List.length_cons, List.length_nil, low_len]; omega)), by lia, by simp only [List.length_cons]; lia⟩, ?_⟩
    rw [head0]
    (conv => whnf)
    have e1 : decide ([c] = [37]) = false := by simpa using hc
    have e2 : decide (((c :: r).length : Int) - (D.text.length : Int) = 0) = true := by simp only [decide_eq_true_eq]; lia
    refine ⟨fun q => ?_, fun _ => fin _⟩
    rw [e1, e2] at q
    cases q
  · (conv => whnf)
    refine ⟨by (first | assumption | exact len_small (by assumption) | exact len_small (by simp only [List.length_append, List.length_cons, List.length_nil, low_len]; omega) | omega | (simp only [List.length_append, List.length_cons, List.length_nil, low_len]; omega)), ?_⟩
    (conv => whnf)
    refine ⟨by (first | assumption | exact len_small (by assumption) | exact len_small (by simp only [List.length_append, List.length_cons, List.length_nil, low_len]; omega) | omega | (simp only [List.length_append, List.length_cons, List.length_nil, low_len]; omega)), ?_⟩
    (conv => whnf)
    refine ⟨⟨by (first | assumption | exact len_small (by assumption) | exact len_small (by simp only [List.length_append, List.length_cons, List.length_nil, low_len]; omega) | omega | (simp only [List.length_append, List.length_cons, List.length_nil, low_len]; omega)), by lia, by simp only [List.length_cons]; lia⟩, ?_⟩
    rw [head0]
    (conv => whnf)
    refine ⟨⟨by (first | assumption | exact len_small (by assumption) | exact len_small (by simp only [List.length_append, List.length_cons, List.length_nil, low_len]; omega) | omega | (simp only [List.length_append, List.length_cons, List.length_nil, low_len]; omega)), by lia, by simp only [List.length_cons]; lia⟩, ?_⟩
    rw [head0]
    (conv => whnf)
    have e2 : decide (((37 :: r).length : Int) - (D.text.length : Int) < 2) = false := by simp only [decide_eq_false_iff_not, List.length_cons]; lia
    refine ⟨fun q => ?_, fun _ => fin _⟩
    rw [e2] at q
    simp at q
theorem num_pos (P : Pic) (c : Nat) (e : Int) : numBy P c e = numOf P false (partsOf P c e).1 (partsOf P c e).2.1 (partsOf P c e).2.2 := by
  unfold numBy
  rw [decide_eq_false (by lia), Int.natAbs_natCast]
theorem num_neg {P : Pic} {c : Nat} {e : Int} (h : 1 ≤ c) : numBy P (-(c : Int)) e = numOf P true (partsOf P c e).1 (partsOf P c e).2.1 (partsOf P c e).2.2 := by
  unfold numBy
  rw [decide_eq_true (by lia), Int.natAbs_neg, Int.natAbs_natCast]
theorem lastI (x : List Nat) (t : Nat) : (x ++ [t]).getD (pyIdx (x ++ [t]).length (-1)) 0 = t := by
  have : pyIdx (x ++ [t]).length (-1) = x.length := by
    unfold pyIdx
    rw [if_pos (by decide), List.length_append, List.length_cons, List.length_nil]
    lia
  rw [this]
  simp [List.getD]
theorem initI (x : List Nat) (t : Nat) : pySlice none (some (-1)) (x ++ [t]) = x := by
  have := pySlice_init (x ++ [t]) 1 (by decide)
  rw [show (-1 : Int) = -((1 : Nat) : Int) from rfl, this]
  simp
noncomputable abbrev mloc (u : Addr) (tx v pc mt mo en : Option PV) (xa xb : List Nat) : Loc := [(Str.ofString "text", tx), (Str.ofString "due", some (.ref u)), (Str.ofString "value", v), (Str.ofString "picture", pc), (Str.ofString "above", some (.str xa)), (Str.ofString "below", some (.str xb)), (Str.ofString "made_text", mt), (Str.ofString "more", mo), (Str.ofString "ends", en)]
/-- what the law asks of the two signs -/
structure Turned (D : DP) (xa xb : List Nat) : Prop where
  none : D.pic.sign = [] → xb.count 45 = xa.count 45 + 1
  ahead : D.pic.sign = [43, 97, 104, 101, 97, 100] → xb = rep1 43 45 xa
  behind : ¬ D.pic.sign = [] → ¬ D.pic.sign = [43, 97, 104, 101, 97, 100] → ∃ x t, xa = x ++ [t] ∧ xb = x ++ [45] ∧ (if decide (D.pic.sign = [43, 98, 101, 104, 105, 110, 100]) = true then [43] else [32] : List Nat) = [t]
theorem turned_ok {D : DP} (ok : D.Ok) {c : Nat} {e : Int} (h1 : 1 ≤ c) : Turned D (numBy D.pic c e) (numBy D.pic (-(c : Int)) e) := by
  rw [num_pos, num_neg h1]
  obtain ⟨s1, s2, s3⟩ := parts_sig D.pic c e h1
  refine ⟨fun h => turned_none h (grpA_fig s1) s2 s3, fun h => turned_ahead h, fun h0 h2 => ?_⟩
  have key : ∃ t, ((D.pic.sign = [43, 98, 101, 104, 105, 110, 100] ∧ t = 43) ∨ (D.pic.sign = [45, 98, 101, 104, 105, 110, 100] ∧ t = 32)) := by
    rcases dp_sign ok with h | h | h | h
    · exact absurd h.2.2 h2
    · exact absurd h.2.2 h0
    · exact ⟨43, .inl ⟨h.2.2, rfl⟩⟩
    · exact ⟨32, .inr ⟨h.2.2, rfl⟩⟩
  obtain ⟨t, ht⟩ := key
  obtain ⟨x, x1, x2⟩ := turned_behind (A := (partsOf D.pic c e).1) (B := (partsOf D.pic c e).2.1) (T := (partsOf D.pic c e).2.2) ht
  exact ⟨x, t, x1, x2, by rcases ht with ⟨h, rfl⟩ | ⟨h, rfl⟩ <;> rw [h] <;> rfl⟩
theorem made_6 (G : Good C ss fns bs fields) {V : Act C (F_law_made_right C.K)} {D : DP} {u : Addr} {tx v pc mt mo en : Option PV} {x : List Nat} {t : Nat} {A : AH} {Qn : St → Prop} {Qr : Kon} {Qc : St → Prop} (hu : (u, AObj.list D.due) ∈ A) (et : (if decide (D.pic.sign = [43, 98, 101, 104, 105, 110, 100]) = true then [43] else [32] : List Nat) = [t]) (m1 : x.length ≤ 10000)
    (hQ : ∀ loc, Qr (.bool true) ⟨loc, A⟩) : Ws V 89 B_law_made_right_6 ((prt 30).body.drop 6) ⟨mloc u tx v pc mt mo en (x ++ [t]) (x ++ [45]), A⟩ Qn Qr Qc := by
  have sm : ∀ k : Nat, (x ++ [k]).length = x.length + 1 := fun k => by rw [List.length_append]; rfl
  have side : ∀ k : Nat, Small (x ++ [k]) ∧ -((x ++ [k]).length : Int) ≤ -1 ∧ -1 < ((x ++ [k]).length : Int) := fun k => by unfold Small; rw [sm]; exact ⟨by lia, by lia, by lia⟩
  (conv => whnf)
  refine ⟨_, .str D.pic.sign, hu, by simp [DP.due, dueOf], rfl, ?_⟩
  (conv => whnf)
  refine ⟨side t, ?_⟩
  rw [lastI]
  (conv => whnf)
  refine ⟨side 45, ?_⟩
  rw [lastI, et]
  (conv => whnf)
  refine ⟨(side t).1, ?_⟩
  rw [initI]
  (conv => whnf)
  refine ⟨(side 45).1, ?_⟩
  rw [initI]
  (conv => whnf)
  rw [show (decide ([t] = [t]) && (decide ([45] = [45]) && true) && decide (x = x)) = true by simp]
  exact hQ _
theorem made_4 (G : Good C ss fns bs fields) {V : Act C (F_law_made_right C.K)} {D : DP} {u : Addr} {tx v pc mt mo en : Option PV} {xa xb : List Nat} {A : AH} {Qn : St → Prop} {Qr : Kon} {Qc : St → Prop} (hu : (u, AObj.list D.due) ∈ A) (ht : Turned D xa xb) (m1 : xa.length ≤ 10000)
    (hQ : ∀ loc, Qr (.bool true) ⟨loc, A⟩) : Ws V 89 B_law_made_right_4 ((prt 30).body.drop 4) ⟨mloc u tx v pc mt mo en xa xb, A⟩ Qn Qr Qc := by
  (conv => whnf)
  refine ⟨_, .str D.pic.sign, hu, by simp [DP.due, dueOf], rfl, ?_⟩
  (conv => whnf)
  refine ⟨fun q => ?_, fun q => ?_⟩
  · (conv => whnf)
    have := ht.none (of_decide_eq_true q)
    have e : decide ((xb.count 45 : Int) = (xa.count 45 : Int) + 1) = true := by rw [this]; simp
    rw [e]
    exact hQ _
  have hsn := of_decide_eq_false q
  (conv => whnf)
  refine ⟨Ex1_ifS ((W_at G (.idx (.var 1 "due") (.int 7)) _ ⟨by kernel_rfl, by kernel_rfl⟩).1 _ _ ?_)⟩
  (conv => whnf)
  refine ⟨_, .str D.pic.sign, hu, by simp [DP.due, dueOf], rfl, D.pic.sign, rfl, fun q => ?_, fun q => ?_⟩
  · refine ExP_rep (c := 43) (d := 45) (ax := Str.ofString "above") (bx := Str.ofString "below") (a := xa) (b := xb) (by decide) (by lia) (.tail _ (.tail _ (.tail _ (.tail _ (.head _))))) (.tail _ (.tail _ (.tail _ (.tail _ (.tail _ (.head _)))))) (by kernel_rfl) ?_
    rw [decide_eq_true (ht.ahead q)]
    exact hQ _
  · obtain ⟨x, t, rfl, rfl, et⟩ := ht.behind hsn q
    exact made_6 G hu et (Nat.le_trans (by rw [List.length_append]; exact Nat.le_add_right _ _) m1) hQ
theorem made_2 (G : Good C ss fns bs fields) {V : Act C (F_law_made_right C.K)} {D : DP} {u a : Addr} {c : Nat} {e : Int} {v : PV} {xa xb : List Nat} {A : AH} {Qn : St → Prop} {Qr : Kon} {Qc : St → Prop} (ok : D.Ok) (hu : (u, AObj.list D.due) ∈ A) (ha : (a, picO C D.pic) ∈ A) (hv : NumV c e v) (h1 : 1 ≤ c) (h2 : c ≤ 30000) (h3 : -5 ≤ e) (h4 : e ≤ 2) (hx : numBy D.pic c e = xa) (ht : Turned D xa xb) (ma : MadeOk D xa) (mb : MadeOk D xb)
    (hQ : ∀ loc, Qr (.bool true) ⟨loc, A⟩) : Ws V 89 B_law_made_right_2 (tlS (tlS (prt 30).body)) ⟨mloc u (some (.str D.text)) (some v) (some (.ref a)) none none none xa xb, A⟩ Qn Qr Qc := by
  have hb : ∀ {lv : PV}, NumV (10 * c) (e - 1) lv → ∀ {ah}, (a, picO C D.pic) ∈ ah → Fn C 60 (adr C.K "number_by") [.ref a, lv] ah fun r ah' => r = .str xa ∧ ah' = ah := fun hlv ah hm => by
    have := number_by_ok G hm (dp_picOk ok) hlv (by lia) (by lia) (by lia)
    rw [num_longer (by lia), hx] at this
    exact this
  clear hx
  (conv => whnf)
  refine ⟨by simp, fun PI it hit => ?_⟩
  (conv => whnf)
  refine ⟨trivial, made_turn G ok (.tail _ hu) ma fun y1 => ⟨[], A, rfl, ?_⟩⟩
  (conv => whnf)
  refine ⟨trivial, made_turn G ok (.tail _ hu) mb fun y2 => ⟨[], A, rfl, ?_⟩⟩
  (conv => whnf)
  refine ⟨trivial, ?_⟩
  (conv => whnf)
  refine FnP.un (law_longer_ok G hv) (by decide) fun lv hlv => ?_
  (conv => whnf)
  refine FnP.eq (hb hlv ha) (by decide) ?_
  (conv => whnf)
  exact ⟨fun q => by simp at q, fun _ => made_4 G hu ht ma.small hQ⟩
theorem Wl_nil_mk {C : Cx} {n : Nat} {st : St} {k : List PV → St → Prop} (h : k [] st) : Wl C n .nil st k := h
theorem law_made_right_ok (G : Good C ss fns bs fields) {D : DP} {u : Addr} {c : Nat} {e : Int} {v : PV} {ah : AH} (ok : D.Ok) (hu : (u, AObj.list D.due) ∈ ah) (hv : NumV c e v) (h1 : 1 ≤ c) (h2 : c ≤ 30000) (h3 : -5 ≤ e) (h4 : e ≤ 2) :
    Fn C 90 (adr C.K "_law_made_right") [.str D.text, .ref u, v] ah fun r ah' => r = .bool true ∧ ∃ N, ah' = N ++ ah := by
  refine Fn_W (F := F_law_made_right C.K) (n := 89) rfl G (D_law_made_right G) C_law_made_right rfl rfl fun V => ?_
  have hlen := dp_len ok
  have u1 := made_ok ok (c := (c : Int)) (e := e) (by lia) (by lia) h4 h3
  have u2 := made_ok ok (c := -(c : Int)) (e := e) (by lia) (by lia) h4 h3
  have tn := turned_ok ok (e := e) h1
  (conv => whnf)
  refine ⟨Fn.mono (read_pieces_ok G (by lia)) (by decide) ?_⟩
  rintro _ _ ⟨f, ps, N, rfl, rfl, hf, hps, -⟩
  rw [items_one ok] at hps
  obtain ⟨a, rfl, ha⟩ := pcs_one hps
  (conv => whnf)
  refine ⟨_, _, hf, by simp, rfl, ?_⟩
  (conv => whnf)
  have na := number_by_ok G ha (dp_picOk ok) hv (by lia) (by lia) (by lia)
  have nb := fun {tv : PV} (htv : NumV (-(c : Int)) e tv) => number_by_ok G ha (dp_picOk ok) htv (by lia) (by lia) (by lia)
  generalize hxa : numBy D.pic (c : Int) e = xa at u1 tn na
  generalize numBy D.pic (-(c : Int)) e = xb at u2 tn nb
  refine FnP.eq na (by decide) ?_
  (conv => whnf)
  refine FnP.un (law_turned_ok G hv) (by decide) fun tv htv => ?_
  (conv => whnf)
  refine FnP.eq (nb htv) (by decide) ?_
  have kk := made_2 (V := V) G ok (List.mem_append_right N hu) ha hv h1 h2 h3 h4 hxa tn u1 u2 (Qn := fun _ => False) (Qc := fun _ => False) (Qr := fun r h => r = .bool true ∧ ∃ N, h.ah = N ++ ah) fun loc => ⟨rfl, N, rfl⟩
  refine Wl_nil_mk (on2_mk ?_)
  exact kk
end Mine
end
section
open PySem PySem.W PyProof.Rows
set_option Elab.async false
set_option genSizeOf false
set_option genInjectivity false
set_option maxRecDepth 100000
set_option maxHeartbeats 1000000
set_option linter.unusedVariables false
set_option linter.unusedSimpArgs false
namespace Mine
variable {C : Cx}
/-! ### USING's text -/
noncomputable abbrev Num := Int × Int
/-- one time over the pieces: what was found, how many values it took, whether it ended for want of one -/
noncomputable def useRound : List Item → List Num → List Nat → List Nat × Nat × Bool
  | [], _, f => (f, 0, false)
  | .pl s :: r, vs, f => useRound r vs (f ++ s)
  | .pc (.pic _) :: _, [], f => (f, 0, true)
  | .pc (.pic P) :: r, v :: vs, f => ((useRound r vs (f ++ numBy P v.1 v.2)).1, (useRound r vs (f ++ numBy P v.1 v.2)).2.1 + 1, (useRound r vs (f ++ numBy P v.1 v.2)).2.2)
  | .pc _ :: _, _, f => (f, 0, true)
noncomputable def useF : Nat → List Item → List Num → List Nat → List Nat
  | 0, _, _, f => f
  | n + 1, its, vs, f => if (useRound its vs f).2.2 = true ∨ vs.length ≤ (useRound its vs f).2.1 then (useRound its vs f).1 else useF n its (vs.drop (useRound its vs f).2.1) (useRound its vs f).1
inductive NumsV : List Num → List PV → Prop
  | nil : NumsV [] []
  | cons {c e v vs ps} : NumV c e v → NumsV vs ps → NumsV ((c, e) :: vs) (v :: ps)
theorem NumsV.length : ∀ {vs ps}, NumsV vs ps → ps.length = vs.length
  | _, _, .nil => rfl
  | _, _, .cons _ h => by simp [h.length]
theorem NumsV.get : ∀ {vs ps} {k : Nat}, NumsV vs ps → k < vs.length → ∃ c e v, vs.drop k = (c, e) :: vs.drop (k + 1) ∧ ps[k]? = some v ∧ NumV c e v
  | _, _, k, .nil, h => by simp at h
  | _, _, 0, .cons a _, _ => ⟨_, _, _, rfl, rfl, a⟩
  | _, _, k + 1, .cons _ b, h => by
    obtain ⟨c, e, v, h1, h2, h3⟩ := b.get (k := k) (by simpa using h)
    exact ⟨c, e, v, by simpa using h1, by simpa using h2, h3⟩
structure NumOk (v : Num) : Prop where
  c : v.1.natAbs < 2 ^ 62
  e1 : v.2 ≤ 100
  e2 : -100 ≤ v.2
/-- a piece that is plain or a picture of a number -/
noncomputable def ItemOk : Item → Prop
  | .pl _ => True
  | .pc (.pic P) => PicOk P
  | .pc _ => False
noncomputable def isPl : Item → Bool
  | .pl _ => true
  | _ => false
noncomputable def plLen : List Item → Nat
  | [] => 0
  | .pl s :: r => s.length + plLen r
  | .pc _ :: r => plLen r
noncomputable abbrev uloc (t : List Nat) (w f : Addr) (fd : List Nat) (k : Nat) (pc : Option PV) : Loc := [(Str.ofString "text", some (.str t)), (Str.ofString "values", some (.ref w)), (Str.ofString "pieces", some (.ref f)), (Str.ofString "found", some (.str fd)), (Str.ofString "at", some (.int (k : Int))), (Str.ofString "piece", pc)]
noncomputable def loB : PB → PB
  | .loop _ b _ => b
  | _ => .nil
theorem use_round (G : Good C ss fns bs fields) {V : Act C (F_using_text C.K)} {t : List Nat} {w f it : Addr} {PI : Nat → Obj → Prop} {vals : List Num} {ps all : List PV} {A0 : AH} {Qn : St → Prop} {Qr : Kon} (hw : (w, AObj.list ps) ∈ A0) (hf : (f, AObj.list all) ∈ A0) (hv : NumsV vals ps) (hb : ∀ v ∈ vals, NumOk v) (hl : vals.length ≤ 20) :
    ∀ (xs : List Item) (qs : List PV) (i k : Nat) (fd : List Nat) (pc : Option PV), PcsV C A0 xs qs → (∀ x ∈ xs, ItemOk x) → k ≤ vals.length → fd.length + plLen xs + 10000 * (vals.length - k) ≤ 500000 →
      (∀ pc', (useRound xs (vals.drop k) fd).2.2 = false → Qn ⟨uloc t w f (useRound xs (vals.drop k) fd).1 (k + (useRound xs (vals.drop k) fd).2.1) pc', A0⟩) →
      ((useRound xs (vals.drop k) fd).2.2 = true → ∀ loc N, Qr (.str (useRound xs (vals.drop k) fd).1) ⟨loc, N :: A0⟩) →
      ForW (fun st' Q => Ws V 129 (forB (loB B_using_text_2)) (foB (hd (whB (hd ((prt 22).body.drop 2))))) st' Q Qr Q) 5 (fun ah => (f, AObj.list all) ∈ ah) PI it Qn qs i ⟨uloc t w f fd k pc, A0⟩
  | [], _, i, k, fd, pc, .nil, _, _, _, h1, _ => ⟨hf, h1 pc rfl⟩
  | x :: xs, q :: qs, i, k, fd, pc, .cons hx hxs, hok, hk, hfl, h1, h2 => by
    refine ⟨hf, ?_⟩
    have hlen := hv.length
    (conv => whnf)
    refine FnP.eq (is_plain_ok G (hx.mono (ah' := (it, .raw (PI (i + 1))) :: A0) fun z hz => .tail _ hz)) (by decide) ?_
    have ih := use_round G (V := V) (t := t) (it := it) (PI := PI) (Qn := Qn) (Qr := Qr) hw hf hv hb hl xs qs (i + 1)
    cases hx with
    | pl =>
      rename_i s
      (conv => whnf)
      refine ⟨fun _ => ?_, fun q => by cases q⟩
      (conv => whnf)
      refine ⟨by simp, ?_⟩
      (conv => whnf)
      have e1 : plLen (.pl s :: xs) = s.length + plLen xs := rfl
      rw [e1] at hfl
      refine ⟨by lia, ?_⟩
      (conv => whnf)
      refine ⟨[], A0, rfl, ?_⟩
      exact ih k (fd ++ s) _ hxs (fun x hx => hok x (.tail _ hx)) hk (by rw [List.length_append]; lia) h1 h2
    | pic hm =>
      rename_i a P
      have hP : PicOk P := hok _ (.head _)
      have e1 : plLen (.pc (.pic P) :: xs) = plLen xs := rfl
      rw [e1] at hfl
      (conv => whnf)
      refine ⟨fun q => (by cases q), fun _ => ?_⟩
      (conv => whnf)
      refine ⟨ps, .tail _ hw, by lia, ?_⟩
      (conv => whnf)
      refine ⟨fun hc => ?_, fun hc => ?_⟩
      · have hc : k = ps.length := by have := of_decide_eq_true hc; lia
        have hd : vals.drop k = [] := List.drop_of_length_le (by lia)
        (conv => whnf)
        rw [hd] at h2
        exact h2 rfl _ _
      · have hc : k < vals.length := by have := of_decide_eq_false hc; lia
        obtain ⟨c, e, v, g1, g2, g3⟩ := hv.get hc
        have hm1 : (c, e) ∈ vals := List.mem_of_mem_drop (i := k) (by rw [g1]; exact .head _)
        have hn := hb _ hm1
        (conv => whnf)
        refine ⟨_, v, .tail _ hw, by lia, by unfold pIx; rw [if_pos (by lia), Int.toNat_natCast]; exact g2, ?_⟩
        (conv => whnf)
        refine FnP.eq (value_by_ok G (.tail _ hm) hP g3 hn.c hn.e1 hn.e2) (by decide) ?_
        have hnl := num_len hP hn.c hn.e1 hn.e2
        (conv => whnf)
        refine ⟨by dsimp only at hnl ⊢; lia, ?_⟩
        (conv => whnf)
        refine ⟨[], A0, rfl, ?_⟩
        rw [g1] at h1 h2
        refine ih (k + 1) (fd ++ numBy P c e) _ hxs (fun x hx => hok x (.tail _ hx)) hc (by rw [List.length_append]; dsimp only at hnl; lia) (fun pc' hq => ?_) h2
        have := h1 pc' hq
        have e2 : k + 1 + (useRound xs (vals.drop (k + 1)) (fd ++ numBy P c e)).2.1 = k + ((useRound xs (vals.drop (k + 1)) (fd ++ numBy P c e)).2.1 + 1) := by lia
        rw [e2]
        exact this
    | first => exact (hok _ (.head _)).elim
    | whole => exact (hok _ (.head _)).elim
    | wide => exact (hok _ (.head _)).elim
theorem useRound_le : ∀ (xs : List Item) (vs : List Num) (f : List Nat), (∀ x ∈ xs, ItemOk x) → (∀ v ∈ vs, NumOk v) → (useRound xs vs f).2.1 ≤ vs.length ∧ (useRound xs vs f).1.length ≤ f.length + plLen xs + 10000 * (useRound xs vs f).2.1
  | [], vs, f, _, _ => ⟨Nat.zero_le _, by simp [useRound, plLen]⟩
  | .pl s :: r, vs, f, h1, h2 => by
    obtain ⟨a, b⟩ := useRound_le r vs (f ++ s) (fun x hx => h1 x (.tail _ hx)) h2
    rw [useRound, plLen]
    rw [List.length_append] at b
    exact ⟨a, by lia⟩
  | .pc (.pic P) :: r, [], f, h1, h2 => ⟨Nat.zero_le _, by simp [useRound, plLen]⟩
  | .pc (.pic P) :: r, v :: vs, f, h1, h2 => by
    obtain ⟨a, b⟩ := useRound_le r vs (f ++ numBy P v.1 v.2) (fun x hx => h1 x (.tail _ hx)) (fun x hx => h2 x (.tail _ hx))
    have hn := h2 v (.head _)
    have hl := num_len (h1 _ (.head _)) hn.c hn.e1 hn.e2
    rw [useRound, plLen]
    rw [List.length_append] at b
    dsimp only
    exact ⟨by simp; lia, by lia⟩
  | .pc .first :: r, vs, f, h1, _ => (h1 _ (.head _)).elim
  | .pc .whole :: r, vs, f, h1, _ => (h1 _ (.head _)).elim
  | .pc (.wide _) :: r, vs, f, h1, _ => (h1 _ (.head _)).elim
  | .pc .none :: r, vs, f, h1, _ => (h1 _ (.head _)).elim
theorem useRound_pos : ∀ (xs : List Item) (vs : List Num) (f : List Nat), (∃ P, .pc (.pic P) ∈ xs) → (∀ x ∈ xs, ItemOk x) → (useRound xs vs f).2.2 = false → 1 ≤ (useRound xs vs f).2.1
  | [], vs, f, ⟨_, h⟩, _, _ => by cases h
  | .pl s :: r, vs, f, ⟨P, h⟩, h1, h2 => by
    have h : .pc (.pic P) ∈ r := by
      rcases List.mem_cons.mp h with q | q
      · cases q
      · exact q
    exact useRound_pos r vs (f ++ s) ⟨P, h⟩ (fun x hx => h1 x (.tail _ hx)) h2
  | .pc (.pic P) :: r, [], f, _, _, h2 => by simp [useRound] at h2
  | .pc (.pic P) :: r, v :: vs, f, _, _, h2 => by rw [useRound]; dsimp only; lia
  | .pc .first :: r, vs, f, _, h1, _ => (h1 _ (.head _)).elim
  | .pc .whole :: r, vs, f, _, h1, _ => (h1 _ (.head _)).elim
  | .pc (.wide _) :: r, vs, f, _, h1, _ => (h1 _ (.head _)).elim
  | .pc .none :: r, vs, f, _, h1, _ => (h1 _ (.head _)).elim
/-- what the comprehension leaves -/
theorem comp_turns (G : Good C ss fns bs fields) {V : Act C (F_using_text C.K)} {n : Nat} {sc : Scope} {xp yp gp cp np : Pos} {it acc : Addr} {P : Nat → Obj → Prop} {keep : AH → Prop} {loc : Loc} {Qn : List PV → AH → Prop} (hn : 10 ≤ n)
    (hkind : sc.kind = .function) (hx : sc.names.lookup (Str.ofString "piece") = some .local) (hg : sc.names.lookup (Str.ofString "is_plain") = some .globalImplicit) {ah : AH} (hkeep : keep ah) :
    ∀ (xs : List Item) (qs : List PV) (k : Nat) (out : List PV), PcsV C ah xs qs → (∀ out', out'.length = out.length + (xs.filter (fun x => !isPl x)).length → Qn out' ah) →
      CTurns V n sc (Str.ofString "piece") (.Name (Str.ofString "piece") yp) [.UnaryOp .Not (.Call (.Name (Str.ofString "is_plain") gp) [.Name (Str.ofString "piece") xp] [] cp) np] it acc P keep loc Qn qs k out ah
  | [], _, k, out, .nil, h => ⟨hkeep, h out (by simp)⟩
  | x :: xs, q :: qs, k, out, .cons hx1 hxs, h => by
    have ih := comp_turns G (V := V) (n := n) (sc := sc) (xp := xp) (yp := yp) (gp := gp) (cp := cp) (np := np) (it := it) (acc := acc) (P := P) (keep := keep) (loc := loc) (Qn := Qn) hn hkind hx hg hkeep xs qs (k + 1)
    refine ⟨hkeep, CTt_not (CTt_plain (CEv_call1 (G.glob (g := Str.ofString "is_plain") (by decide +kernel)) hkind hx (by decide +kernel) hg (by decide +kernel) fun L m => ?_) fun _ _ => rfl)⟩
    refine Fn.mono (is_plain_ok G (hx1.mono (ah' := (L, .raw (NsIs m)) :: (it, .raw (P (k + 1))) :: (acc, .list out) :: ah) fun z hz => .tail _ (.tail _ (.tail _ hz)))) hn ?_
    rintro _ _ ⟨rfl, rfl⟩
    refine ⟨_, rfl, isPl x, by cases x <;> rfl, ?_⟩
    cases hp : isPl x with
    | true =>
      refine ⟨[], ah, rfl, ih out hxs fun out' ho => h out' ?_⟩
      rw [List.filter_cons, hp]; simpa using ho
    | false =>
      refine CEv_name hkind hx (by decide +kernel) ⟨[], ah, rfl, ih (out ++ [q]) hxs fun out' ho => h out' ?_⟩
      rw [List.filter_cons, hp]; simp at ho ⊢; lia
theorem PcsV.length {ah : AH} {xs : List Item} {qs : List PV} (h : PcsV C ah xs qs) : qs.length = xs.length := by
  induction h with
  | nil => rfl
  | cons _ _ ih => simp [ih]
structure US where
  k : Nat
  fd : List Nat
  pc : Option PV
  n : Nat
theorem using_text_ok (G : Good C ss fns bs fields) {t : List Nat} {w : Addr} {vals : List Num} {ps : List PV} {ah : AH} {its : List Item} (hi : itemsOf t = its) (hok : ∀ x ∈ its, ItemOk x) (hpic : ∃ P, .pc (.pic P) ∈ its) (hpl : plLen its ≤ 1000) (ht : t.length ≤ 1000)
    (hw : (w, AObj.list ps) ∈ ah) (hv : NumsV vals ps) (hb : ∀ v ∈ vals, NumOk v) (hl : vals.length ≤ 20) :
    Fn C 130 (adr C.K "using_text") [.str t, .ref w] ah fun r ah' => r = .str (useF (vals.length + 1) its vals []) ∧ ∃ N, ah' = N ++ ah := by
  refine Fn_W (F := F_using_text C.K) (n := 129) rfl G (D_using_text G) C_using_text rfl rfl fun V => ?_
  (conv => whnf)
  refine ⟨Fn.mono (read_pieces_ok G (by lia)) (by decide) ?_⟩
  rintro _ _ ⟨f, all, N, rfl, rfl, hf, hps, hpl2⟩
  rw [hi] at hps
  (conv => whnf)
  have hall : 1 ≤ all.length ∧ 1 ≤ (its.filter (fun x => !isPl x)).length := by
    obtain ⟨P, hP⟩ := hpic
    have h1 : Item.pc (.pic P) ∈ its.filter (fun x => !isPl x) := List.mem_filter.mpr ⟨hP, rfl⟩
    have h2 := List.length_pos_of_mem h1
    have h3 := List.length_pos_of_mem hP
    have h4 := PcsV.length hps
    exact ⟨by lia, h2⟩
  have hfl : (its.filter (fun x => !isPl x)).length ≤ 1000000 := by
    have h1 := List.length_filter_le (fun x => !isPl x) its
    have h4 := PcsV.length hps
    lia
  refine ⟨Ex1_if (Tt_or (Tt.mono ((W_at G (.cmp .Eq (.len (.var 2 "pieces")) (.int 0)) _ ⟨by kernel_rfl, by kernel_rfl⟩).2 _ (fun p st' => p = .bool false ∧ st' = ⟨uloc t w f [] 0 none, N ++ ah⟩) ?_ ?_) fun b st1 hb1 => ?_))⟩
  · (conv => whnf)
    refine ⟨all, hf, by lia, ?_⟩
    (conv => whnf)
    exact ⟨by rw [decide_eq_false (by lia)], rfl⟩
  · rintro p st ⟨rfl, _⟩; exact ⟨_, rfl⟩
  obtain ⟨e1, rfl⟩ := hb1
  cases e1
  refine ⟨fun q => (by cases q), fun _ => ?_⟩
  have fin : ∀ acc out, acc ∉ (N ++ ah).map (·.1) → out.length = (its.filter (fun x => !isPl x)).length → Ws V 129 B_using_text_2 ((prt 22).body.drop 2) ⟨uloc t w f [] 0 none, (acc, .list out) :: (N ++ ah)⟩
      (fun st => PV.none = PV.str (useF (vals.length + 1) its vals []) ∧ ∃ N, st.ah = N ++ ah) (fun p st => p = PV.str (useF (vals.length + 1) its vals []) ∧ ∃ N, st.ah = N ++ ah) fun x => False := by
    intro acc out hacc hout
    have hf' : (f, AObj.list all) ∈ (acc, AObj.list out) :: (N ++ ah) := .tail _ hf
    have hw' : (w, AObj.list ps) ∈ (acc, AObj.list out) :: (N ++ ah) := .tail _ (List.mem_append_right _ hw)
    have hps' := hps.mono (ah' := (acc, AObj.list out) :: (N ++ ah)) fun z hz => .tail _ hz
    generalize hA : (acc, AObj.list out) :: (N ++ ah) = A0 at hf' hw' hps' ⊢
    have hA0 : ∃ N, A0 = N ++ ah := ⟨(acc, AObj.list out) :: N, by rw [← hA]; rfl⟩
    obtain ⟨N0, hN0⟩ := hA0
    have hlen := hv.length
    (conv => whnf)
    refine ⟨US, fun q => ⟨uloc t w f q.fd q.k q.pc, A0⟩, fun q => q.k ≤ vals.length ∧ (q.k = 0 ∨ q.k < vals.length) ∧ q.fd.length ≤ q.k * 11000 ∧ vals.length - q.k ≤ q.n ∧ useF (q.n + 1) its (vals.drop q.k) q.fd = useF (vals.length + 1) its vals [],
      fun q => vals.length - q.k, ⟨0, [], none, vals.length⟩, ⟨rfl, Nat.zero_le _, .inl rfl, by simp, by simp, by simp⟩, fun q hq => ?_⟩
    obtain ⟨k, fd, pc, n⟩ := q
    obtain ⟨q1, q2, q3, q4, q5⟩ := hq
    dsimp only at q1 q2 q3 q4 q5
    obtain ⟨r1, r2⟩ := useRound_le its (vals.drop k) fd hok fun v hv => hb v (List.mem_of_mem_drop hv)
    have r3 := useRound_pos its (vals.drop k) fd hpic hok
    rw [List.length_drop] at r1
    rw [useF, List.length_drop] at q5
    (conv => whnf)
    refine ⟨fun _ => ?_, fun q => (by cases q)⟩
    (conv => whnf)
    refine ⟨all, hf', by lia, fun PI it hit => ?_⟩
    refine use_round G hw' hf' hv hb hl its all 0 k fd pc hps' hok q1 (by lia) (fun pc' hnr => ?_) (fun hr loc M => ?_)
    · have r4 := r3 hnr
      rw [hnr] at q5
      generalize useRound its (vals.drop k) fd = u at *
      obtain ⟨fd', c, b⟩ := u
      dsimp only at *
      (conv => whnf)
      refine ⟨ps, hw', by lia, ?_⟩
      (conv => whnf)
      refine ⟨fun hc => ?_, fun hc => ?_⟩
      · have hc : k + c = ps.length := by have := of_decide_eq_true hc; lia
        (conv => whnf)
        rw [if_pos (.inr (by lia))] at q5
        exact ⟨by rw [q5], N0, hN0⟩
      · have hc : ¬ k + c = ps.length := by have := of_decide_eq_false hc; lia
        rw [if_neg (by intro q; rcases q with q | q; (· cases q); lia)] at q5
        cases n with
        | zero => lia
        | succ n =>
          (conv => whnf)
          refine ⟨⟨k + c, fd', pc', n⟩, rfl, ⟨by dsimp only; lia, .inr (by dsimp only; lia), ?_, by dsimp only; lia, ?_⟩, by dsimp only; lia⟩
          · dsimp only; lia
          · rw [List.drop_drop] at q5; exact q5
    · rw [if_pos (.inl hr)] at q5
      exact ⟨by rw [q5], M :: N0, by rw [hN0]; rfl⟩
  refine Tt_or (Tt_and (Tt_cmp (Ev_len G (by decide +kernel) (by kernel_rfl) rfl (Ev_comp (by decide +kernel) (by decide +kernel) rfl (by decide +kernel) rfl (fun _ => rfl) ?_)) (by with_unfolding_all rfl)))
  refine Ev.mono ((W_at G (.var 2 "pieces") _ ⟨by kernel_rfl, by kernel_rfl⟩).1 _ (fun p st' => p = .ref f ∧ st' = ⟨uloc t w f [] 0 none, N ++ ah⟩) ?_) fun p st' hp => ?_
  · exact ⟨rfl, rfl⟩
  obtain ⟨rfl, rfl⟩ := hp
  refine ⟨all, _, by lia, ItOf_list hf (by lia), fun it P acc hacc => ?_⟩
  refine comp_turns G (by decide) rfl rfl rfl hf its all 0 [] hps fun out hout => ?_
  have hout : out.length = (its.filter (fun x => !isPl x)).length := by simpa using hout
  refine Ca_len_list (ps := out) (.head _) (by rw [hout]; exact hfl) ?_
  refine Ev.mono ((W_at G (.int 0) _ ⟨by kernel_rfl, by kernel_rfl⟩).1 _ (fun p st' => p = .int 0 ∧ st' = ⟨uloc t w f [] 0 none, (acc, .list out) :: (N ++ ah)⟩) ?_) fun p st' hp => ?_
  · exact ⟨rfl, rfl⟩
  obtain ⟨rfl, rfl⟩ := hp
  refine Co_eq_int ?_
  rw [decide_eq_false (by lia)]
  refine ⟨fun q => (by cases q), fun _ => ⟨fun q => (by cases q), fun _ => Tt_or0 ⟨fun q => (by cases q), fun _ => Ex_nil (fin acc out hacc hout)⟩⟩⟩
end Mine
end
section
open PySem PySem.W PyProof.Rows
set_option Elab.async false
set_option genSizeOf false
set_option genInjectivity false
set_option maxRecDepth 100000
set_option maxHeartbeats 1000000
set_option linter.unusedVariables false
set_option linter.unusedSimpArgs false
namespace Mine
variable {C : Cx}
/-! ### the law -/
noncomputable def F_law (fa : Addr) (cd : Value) : FnI where
  qual := "law"
  scope := (prt 31).scope
  a := fa
  cd := cd
  locs := ["script", "drawer", "one", "first", "two", "second", "a", "b", "between", "whole", "single", "both"]
  gls := ["_law_picture", "_law_number", "_law_read_right", "_law_made_right", "_law_draw", "using_text"]
  hk := by kernel_rfl
  hnd := by decide +kernel
  hl := by decide +kernel
  hg := by decide +kernel
theorem ints_rel {tl : Led} : ∀ {vs : List Value} {ns : List Int}, IntsAre vs ns → VsRel tl (intsPV ns) vs
  | _, _, .nil => .nil
  | _, _, .cons n t h => .cons (.int n t) (ints_rel h)
/-- a slice of the list that came with the call -/
theorem Ev_cut {F : FnI} {V : Act C F} {n : Nat} {value : Expr} {k : Nat} {kd : Nat} {cp p pos : Pos} {Ls : Addr} {vs : List Value} {ns : List Int} {st : St} {Q : PV → St → Prop} (hL : V.h₀.IsList Ls vs.toArray) (hi : IntsAre vs ns) (hn : ns.length ≤ 100000)
    (hv : Ev V n value st fun x st1 => x = .ref Ls ∧ st1 = st) (htemp : ∀ v r, letTemporaryGo value v r = pure ()) (h : ∀ L, L ∉ st.ah.map (·.1) → Q (.ref L) ⟨st.loc, (L, .list (intsPV (ns.take k))) :: st.ah⟩) :
    Ev V n (.Subscript value (.Slice none (some (.Constant (.int k) kd cp)) none p) pos) st Q := by
  intro A s hp hv' E ok S
  refine Subscript_ (wpAny_mono (hv A s hp hv' E ok S) (fun vx s1 ⟨x, st1, ⟨e1, e2⟩, S1⟩ => ?_) fun _ _ e => e)
  subst e1 e2
  obtain rfl := S1.ref1
  refine wpAny_Slice (evalPart_none_step (evalPart_some_step (wpAny_Constant_int (evalPart_none_step ?_))))
  obtain ⟨m, mu, tl, S2⟩ := S1.drop1
  have hl : s1.heap.IsList Ls vs.toArray := S2.F.lst hL
  have hlen := hi.length
  refine PyProof.Rows.slice_list (s := { s1 with toks := s1.toks + 1 }) (lo := none) (hi := some (k : Int)) S2.F S2.N hl .none (.int _ _) (fun h' F' N' => ?_) rfl (fun r => htemp _ _) (by rw [sizeLine_eq]; simp; lia)
  have hk : IntsAre (slicePick vs.toArray none (some (k : Int)) none).toList (ns.take k) := by
    have := slice_ints_uptoW hi (y := (k : Int)) (by lia)
    simpa using this
  generalize (slicePick vs.toArray none (some (k : Int)) none) = pk at hk N'
  have hfr : ∀ p ∈ mu ++ tl, p.1 ≠ s1.heap.objs.size + 1 := fun p hp e => by
    have := lt_of_news S2.N p hp
    dsimp only at this
    rw [e] at this
    exact absurd this (by simp)
  have hfr2 : s1.heap.objs.size + 1 ∉ st1.ah.map (·.1) := by
    intro hm
    obtain ⟨⟨a, o⟩, hp', e⟩ := List.mem_map.mp hm
    obtain ⟨x, hx⟩ := S2.H.key hp'
    exact hfr _ (List.mem_append_left _ hx) e
  have S3 : Sim0 C V.h₀ V.L F.locs st1 (intsPV (ns.take k) ++ hp) (pk.toList ++ hv') (vw s1) m mu tl := ⟨S2.F, S2.N, S2.nd, S2.H, S2.nm, S2.X, S2.R, (ints_rel hk).append S2.O⟩
  have S4 := Sim0.newList (h' := h') (k := 0) S3 (by have := hk.length; simp [intsPV] at this ⊢; lia) hfr F' (by simpa using N')
  exact ⟨_, _, h _ hfr2, S4⟩
theorem use1 (P : Pic) (a : Num) : useF 2 [.pc (.pic P)] [a] [] = numBy P a.1 a.2 := by simp [useF, useRound]
theorem use2 (P : Pic) (a b : Num) : useF 3 [.pc (.pic P)] [a, b] [] = numBy P a.1 a.2 ++ numBy P b.1 b.2 := by simp [useF, useRound]
theorem useW1 (P R : Pic) (m : List Nat) (a : Num) : useF 2 [.pc (.pic P), .pl m, .pc (.pic R)] [a] [] = numBy P a.1 a.2 ++ m := by simp [useF, useRound]
theorem useW2 (P R : Pic) (m : List Nat) (a b : Num) : useF 3 [.pc (.pic P), .pl m, .pc (.pic R)] [a, b] [] = numBy P a.1 a.2 ++ m ++ numBy R b.1 b.2 := by simp [useF, useRound]
theorem useW3 (P R : Pic) (m : List Nat) (a b : Num) : useF 4 [.pc (.pic P), .pl m, .pc (.pic R)] [a, b, a] [] = numBy P a.1 a.2 ++ m ++ numBy R b.1 b.2 ++ numBy P a.1 a.2 ++ m := by simp [useF, useRound]
noncomputable abbrev lloc (Ls : Addr) (dr on fi tw se a b be wh si bo : Option PV) : Loc := [(Str.ofString "script", some (.ref Ls)), (Str.ofString "drawer", dr), (Str.ofString "one", on), (Str.ofString "first", fi), (Str.ofString "two", tw), (Str.ofString "second", se), (Str.ofString "a", a), (Str.ofString "b", b), (Str.ofString "between", be), (Str.ofString "whole", wh), (Str.ofString "single", si), (Str.ofString "both", bo)]
theorem law_6 (G : Good C ss fns bs fields) {fa : Addr} {cd : Value} {V : Act C (F_law fa cd)} {Ls d : Addr} {D1 D2 : DP} {o1 o2 : Option PV} {m : List Nat} {c1 c2 : Nat} {e1 e2 : Int} {v1 v2 : PV} {A : AH} (ok1 : D1.Ok) (ok2 : D2.Ok) (hm : m ∈ betweens)
    (hv1 : NumV c1 e1 v1) (hv2 : NumV c2 e2 v2) (b1 : c1 ≤ 30000) (b2 : c2 ≤ 30000) (h1 : -5 ≤ e1 ∧ e1 ≤ 2) (h2 : -5 ≤ e2 ∧ e2 ≤ 2) :
    Ws V 200 B_law_6 ((prt 31).body.drop 6) ⟨lloc Ls (some (.ref d)) (some (.str D1.text)) o1 (some (.str D2.text)) o2 (some v1) (some v2) (some (.str m)) none none none, A⟩ (fun _ => False) (fun p _ => p = .bool true) (fun _ => False) := by
  have l1 := dp_len ok1
  have l2 := dp_len ok2
  have lm : m.length ≤ 5 := by
    simp only [betweens, List.mem_cons, List.not_mem_nil, or_false] at hm
    rcases hm with rfl | rfl | rfl <;> decide
  have n1 : NumOk ((c1 : Int), e1) := ⟨by dsimp only; lia, by dsimp only; lia, by dsimp only; lia⟩
  have n2 : NumOk ((c2 : Int), e2) := ⟨by dsimp only; lia, by dsimp only; lia, by dsimp only; lia⟩
  have z11 := num_len (dp_picOk ok1) n1.c n1.e1 n1.e2
  have z12 := num_len (dp_picOk ok1) n2.c n2.e1 n2.e2
  have z22 := num_len (dp_picOk ok2) n2.c n2.e1 n2.e2
  have its1 := items_one ok1
  have its2 := items_one ok2
  have itsW := items_two ok1 ok2 hm
  have K1 : ∀ x ∈ [Item.pc (.pic D1.pic)], ItemOk x := fun x hx => by
    rcases List.mem_cons.mp hx with rfl | hx
    · exact dp_picOk ok1
    · cases hx
  have K2 : ∀ x ∈ [Item.pc (.pic D2.pic)], ItemOk x := fun x hx => by
    rcases List.mem_cons.mp hx with rfl | hx
    · exact dp_picOk ok2
    · cases hx
  have KW : ∀ x ∈ [Item.pc (.pic D1.pic), .pl m, .pc (.pic D2.pic)], ItemOk x := fun x hx => by
    simp only [List.mem_cons, List.not_mem_nil, or_false] at hx
    rcases hx with rfl | rfl | rfl
    · exact dp_picOk ok1
    · trivial
    · exact dp_picOk ok2
  have P1 : ∃ P, Item.pc (.pic P) ∈ [Item.pc (.pic D1.pic)] := ⟨_, .head _⟩
  have P2 : ∃ P, Item.pc (.pic P) ∈ [Item.pc (.pic D2.pic)] := ⟨_, .head _⟩
  have PW : ∃ P, Item.pc (.pic P) ∈ [Item.pc (.pic D1.pic), .pl m, .pc (.pic D2.pic)] := ⟨_, .head _⟩
  have one : ∀ {x : Num} {v : PV}, NumV x.1 x.2 v → NumOk x → NumsV [x] [v] ∧ ∀ y ∈ [x], NumOk y := fun {x v} h k => ⟨.cons h .nil, fun y hy => by
    rcases List.mem_cons.mp hy with rfl | hy
    · exact k
    · cases hy⟩
  have cons : ∀ {x : Num} {v : PV} {xs vs}, NumV x.1 x.2 v → NumOk x → (NumsV xs vs ∧ ∀ y ∈ xs, NumOk y) → NumsV (x :: xs) (v :: vs) ∧ ∀ y ∈ x :: xs, NumOk y := fun {x v xs vs} h k q => ⟨.cons h q.1, fun y hy => by
    rcases List.mem_cons.mp hy with rfl | hy
    · exact k
    · exact q.2 y hy⟩
  have va := one (x := ((c1 : Int), e1)) hv1 n1
  have vb := one (x := ((c2 : Int), e2)) hv2 n2
  have vab := cons (x := ((c1 : Int), e1)) hv1 n1 vb
  have vaba := cons (x := ((c1 : Int), e1)) hv1 n1 (cons (x := ((c2 : Int), e2)) hv2 n2 va)
  have Ut : (D1.text ++ m ++ D2.text).length ≤ 1000 := by simp only [List.length_append]; lia
  have U1a : ∀ {w ah}, (w, AObj.list [v1]) ∈ ah → Fn C 200 (adr C.K "using_text") [.str D1.text, .ref w] ah fun r ah' => r = .str (numBy D1.pic c1 e1) ∧ ∃ N, ah' = N ++ ah := fun {w ah} hw =>
    Fn.mono (using_text_ok G its1 K1 P1 (by simp [plLen]) (by lia) hw va.1 va.2 (by simp)) (by decide) fun _ _ h => ⟨h.1.trans (congrArg PV.str (use1 ..)), h.2⟩
  have U1b : ∀ {w ah}, (w, AObj.list [v2]) ∈ ah → Fn C 200 (adr C.K "using_text") [.str D1.text, .ref w] ah fun r ah' => r = .str (numBy D1.pic c2 e2) ∧ ∃ N, ah' = N ++ ah := fun {w ah} hw =>
    Fn.mono (using_text_ok G its1 K1 P1 (by simp [plLen]) (by lia) hw vb.1 vb.2 (by simp)) (by decide) fun _ _ h => ⟨h.1.trans (congrArg PV.str (use1 ..)), h.2⟩
  have U2b : ∀ {w ah}, (w, AObj.list [v2]) ∈ ah → Fn C 200 (adr C.K "using_text") [.str D2.text, .ref w] ah fun r ah' => r = .str (numBy D2.pic c2 e2) ∧ ∃ N, ah' = N ++ ah := fun {w ah} hw =>
    Fn.mono (using_text_ok G its2 K2 P2 (by simp [plLen]) (by lia) hw vb.1 vb.2 (by simp)) (by decide) fun _ _ h => ⟨h.1.trans (congrArg PV.str (use1 ..)), h.2⟩
  have U1ab : ∀ {w ah}, (w, AObj.list [v1, v2]) ∈ ah → Fn C 200 (adr C.K "using_text") [.str D1.text, .ref w] ah fun r ah' => r = .str (numBy D1.pic c1 e1 ++ numBy D1.pic c2 e2) ∧ ∃ N, ah' = N ++ ah := fun {w ah} hw =>
    Fn.mono (using_text_ok G its1 K1 P1 (by simp [plLen]) (by lia) hw vab.1 vab.2 (by simp)) (by decide) fun _ _ h => ⟨h.1.trans (congrArg PV.str (use2 ..)), h.2⟩
  have UWa : ∀ {w ah}, (w, AObj.list [v1]) ∈ ah → Fn C 200 (adr C.K "using_text") [.str (D1.text ++ m ++ D2.text), .ref w] ah fun r ah' => r = .str (numBy D1.pic c1 e1 ++ m) ∧ ∃ N, ah' = N ++ ah := fun {w ah} hw =>
    Fn.mono (using_text_ok G itsW KW PW (by simp [plLen]; lia) Ut hw va.1 va.2 (by simp)) (by decide) fun _ _ h => ⟨h.1.trans (congrArg PV.str (useW1 ..)), h.2⟩
  have UWab : ∀ {w ah}, (w, AObj.list [v1, v2]) ∈ ah → Fn C 200 (adr C.K "using_text") [.str (D1.text ++ m ++ D2.text), .ref w] ah fun r ah' => r = .str (numBy D1.pic c1 e1 ++ m ++ numBy D2.pic c2 e2) ∧ ∃ N, ah' = N ++ ah := fun {w ah} hw =>
    Fn.mono (using_text_ok G itsW KW PW (by simp [plLen]; lia) Ut hw vab.1 vab.2 (by simp)) (by decide) fun _ _ h => ⟨h.1.trans (congrArg PV.str (useW2 ..)), h.2⟩
  have UWaba : ∀ {w ah}, (w, AObj.list [v1, v2, v1]) ∈ ah → Fn C 200 (adr C.K "using_text") [.str (D1.text ++ m ++ D2.text), .ref w] ah fun r ah' => r = .str (numBy D1.pic c1 e1 ++ m ++ numBy D2.pic c2 e2 ++ numBy D1.pic c1 e1 ++ m) ∧ ∃ N, ah' = N ++ ah := fun {w ah} hw =>
    Fn.mono (using_text_ok G itsW KW PW (by simp [plLen]; lia) Ut hw vaba.1 vaba.2 (by simp)) (by decide) fun _ _ h => ⟨h.1.trans (congrArg PV.str (useW3 ..)), h.2⟩
  dsimp only at z11 z12 z22
  generalize numBy D1.pic c1 e1 = x11 at *
  generalize numBy D1.pic c2 e2 = x12 at *
  generalize numBy D2.pic c2 e2 = x22 at *
  clear va vb vab vaba cons one K1 K2 KW P1 P2 PW its1 its2 itsW
  generalize D1.text = t1 at *
  generalize D2.text = t2 at *
  (conv => whnf)
  refine ⟨by lia, ?_⟩
  (conv => whnf)
  refine ⟨by rw [List.length_append]; lia, ?_⟩
  (conv => whnf)
  refine ⟨by simp, fun w1 hw1 => ?_⟩
  (conv => whnf)
  refine FnP.ex (U1a (.head _)) (by decide) fun M1 => ?_
  (conv => whnf)
  refine ⟨by lia, ?_⟩
  (conv => whnf)
  refine ⟨by simp, fun w2 hw2 => ?_⟩
  (conv => whnf)
  refine FnP.ex (U2b (.head _)) (by decide) fun M2 => ?_
  (conv => whnf)
  refine ⟨by rw [List.length_append]; lia, ?_⟩
  (conv => whnf)
  refine ⟨by simp, fun w3 hw3 => ?_⟩
  (conv => whnf)
  refine FnP.ex (UWab (.head _)) (by decide) fun M3 => ?_
  (conv => whnf)
  refine ⟨fun q => (by simp at q), fun _ => ?_⟩
  (conv => whnf)
  refine ⟨by simp, fun w4 hw4 => ?_⟩
  (conv => whnf)
  refine FnP.ex (UWa (.head _)) (by decide) fun M4 => ?_
  (conv => whnf)
  refine ⟨by lia, ?_⟩
  (conv => whnf)
  refine ⟨fun q => (by simp at q), fun _ => ?_⟩
  (conv => whnf)
  refine ⟨by simp, fun w5 hw5 => ?_⟩
  (conv => whnf)
  refine FnP.ex (UWaba (.head _)) (by decide) fun M5 => ?_
  (conv => whnf)
  refine ⟨by simp only [List.length_append]; lia, ?_⟩
  (conv => whnf)
  refine ⟨by simp only [List.length_append]; lia, ?_⟩
  (conv => whnf)
  refine ⟨fun q => (by simp at q), fun _ => ?_⟩
  (conv => whnf)
  refine ⟨by simp, fun w6 hw6 => ?_⟩
  (conv => whnf)
  refine FnP.ex (U1ab (.head _)) (by decide) fun M6 => ?_
  (conv => whnf)
  refine ⟨by simp, fun w7 hw7 => ?_⟩
  (conv => whnf)
  refine FnP.ex (U1b (.head _)) (by decide) fun M7 => ?_
  (conv => whnf)
  refine ⟨by lia, ?_⟩
  (conv => whnf)
  simp
theorem law_1 (G : Good C ss fns bs fields) {fa : Addr} {cd : Value} {V : Act C (F_law fa cd)} {Ls d L : Addr} {ns : List Int} (hn : ns.length ≤ 100000) :
    Ws V 200 B_law_1 ((prt 31).body.drop 1) ⟨lloc Ls (some (.ref d)) none none none none none none none none none none, [(d, .list [.int 0, .ref L]), (L, .list (intsPV ns))]⟩ (fun _ => False) (fun p _ => p = .bool true) (fun _ => False) := by
  have hD : Drawer d L ns [(L, .list (intsPV ns))] := ⟨.head _, hn⟩
  (conv => whnf)
  refine ⟨Fn.mono (law_picture_ok (p1 := []) (k := 0) G hD) (by decide) ?_⟩
  rintro _ _ ⟨D1, k1, u1, N1, ok1, rfl, rfl, -⟩
  (conv => whnf)
  refine ⟨Fn.mono (law_picture_ok (p1 := (u1, .list D1.due) :: N1) (k := k1) G hD) (by decide) ?_⟩
  rintro _ _ ⟨D2, k2, u2, N2, ok2, rfl, rfl, hN⟩
  (conv => whnf)
  refine ⟨rfl, ?_⟩
  (conv => whnf)
  refine ⟨rfl, ?_⟩
  (conv => whnf)
  refine ⟨rfl, ?_⟩
  (conv => whnf)
  refine ⟨Fn.mono (law_number_ok (p1 := (u2, .list D2.due) :: N2) (k := k2) G hD) (by decide) ?_⟩
  rintro v1 _ ⟨c1, e1, k3, c1a, c1b, e1a, e1b, hv1, rfl⟩
  (conv => whnf)
  refine ⟨Fn.mono (law_number_ok (p1 := (u2, .list D2.due) :: N2) (k := k3) G hD) (by decide) ?_⟩
  rintro v2 _ ⟨c2, e2, k4, c2a, c2b, e2a, e2b, hv2, rfl⟩
  (conv => whnf)
  refine FnP.ex (law_read_right_ok G ok1 (List.mem_append_left _ (.tail _ (hN _ (.head _))))) (by decide) fun M1 => ?_
  (conv => whnf)
  refine ⟨fun q => (by cases q), fun _ => ?_⟩
  (conv => whnf)
  refine FnP.ex (law_read_right_ok G ok2 (List.mem_append_right _ (List.mem_append_left _ (.head _)))) (by decide) fun M2 => ?_
  (conv => whnf)
  refine ⟨fun q => (by cases q), fun _ => ?_⟩
  (conv => whnf)
  refine FnP.ex (law_made_right_ok G ok1 (List.mem_append_right _ (List.mem_append_right _ (List.mem_append_left _ (.tail _ (hN _ (.head _)))))) hv1 c1a c1b e1a e1b) (by decide) fun M3 => ?_
  (conv => whnf)
  refine ⟨fun q => (by cases q), fun _ => ?_⟩
  (conv => whnf)
  refine FnP.ex (law_made_right_ok G ok2 (List.mem_append_right _ (List.mem_append_right _ (List.mem_append_right _ (List.mem_append_left _ (.head _))))) hv2 c2a c2b e2a e2b) (by decide) fun M4 => ?_
  (conv => whnf)
  refine ⟨fun q => (by cases q), fun _ => ?_⟩
  (conv => whnf)
  refine ⟨by simp, fun w hw => ?_⟩
  (conv => whnf)
  have ea : (w, AObj.list [PV.str [32], PV.str [32, 120], PV.str [32, 105, 115, 58, 32]]) :: (M4 ++ (M3 ++ (M2 ++ (M1 ++ (((u2, AObj.list D2.due) :: N2) ++ (d, .list [.int k4, .ref L]) :: [(L, .list (intsPV ns))])))))
      = ((w, AObj.list [PV.str [32], PV.str [32, 120], PV.str [32, 105, 115, 58, 32]]) :: (M4 ++ (M3 ++ (M2 ++ (M1 ++ ((u2, AObj.list D2.due) :: N2)))))) ++ (d, .list [.int k4, .ref L]) :: [(L, .list (intsPV ns))] := by simp
  refine FnP.dr (ea ▸ law_draw_ok (p1 := (w, AObj.list [PV.str [32], PV.str [32, 120], PV.str [32, 105, 115, 58, 32]]) :: (M4 ++ (M3 ++ (M2 ++ (M1 ++ ((u2, AObj.list D2.due) :: N2)))))) (k := k4) G hD (lim := 3) (by decide)) (by decide) fun x hx => ?_
  (conv => whnf)
  refine ⟨_, _, .head _, by decide, pIx_strs (ls := betweens) (k := x) hx, ?_⟩
  exact law_6 G ok1 ok2 (getElem_mem' hx) hv1 hv2 c1b c2b ⟨e1a, e1b⟩ ⟨e2a, e2b⟩
theorem law_0 (G : Good C ss fns bs fields) {fa : Addr} {cd : Value} {V : Act C (F_law fa cd)} {Ls : Addr} {vs : List Value} {ns : List Int} (hL : V.h₀.IsList Ls vs.toArray) (hi : IntsAre vs ns) (hn : ns.length ≤ 100000) :
    Ex V 200 (prt 31).body ⟨lloc Ls none none none none none none none none none none none, []⟩ (fun _ => False) (fun p _ => p = .bool true) (fun _ => False) := by
  refine C_law.2 ▸ Ws_ex G B_law _ C_law.1 _ _ _ _ ?_
  (conv => whnf)
  refine ⟨Ex1_asgAt (i := 1) rfl (Ev_list (Es_cons (Ev_int ?_) rfl)) rfl⟩
  refine Es_cons (Ev_cut (k := 40) hL hi hn ?_ (fun _ _ => rfl) fun L hL' => Es_nil ?_) rfl
  · refine Ev.mono ((W_at G (.var 0 "script") _ ⟨by kernel_rfl, by kernel_rfl⟩).1 _ (fun p st' => p = .ref Ls ∧ st' = ⟨lloc Ls none none none none none none none none none none none, []⟩) ?_) fun p st' hp => hp
    exact ⟨rfl, rfl⟩
  · refine ⟨by simp, fun d hd => ?_⟩
    refine law_1 G (ns := ns.take 40) (by rw [List.length_take]; lia)
end Mine
end
section
open PySem PySem.W PyProof.Rows
set_option Elab.async false
set_option maxRecDepth 100000
namespace Mine
noncomputable def lawD : DefRec := ⟨(prt 31).qual, (prt 31).params, (prt 31).body, (prt 31).scope, ⟨226, 0, 241, 67⟩⟩
set_option maxHeartbeats 4000000 in
theorem walk02 (q : Program) (loose : List Str) (XP : (Str → Option Value) → Heap → Prop) : WalkO q loose XP (hook ss fns bs fields).says PySem.Challenge.rw_pq0175_02.row.toRowW lawD [] fun f vs => PySem.call f vs := by
  w_on
  intro w s₀ s₁ mg mb G Y fa o pm cd doc dV kV ho hd hcd hD hmg hg args vals as hpre hlay hrd hwl hlo
  refine Ground.open G ?_
  intro T B D TE TW
  wrow_args hpre hlay hrd hwl hlo
  refine enter_call ?_
  w_shadow S
  refine codeAny_mono ?_ (fun _ _ g => Shadow.good S rfl g)
  w_call ret ho hd hcd hD T F
  rename_i ns _ _ _ _ _ _ _ Ls vs _ hL _ _ _ hI _ hlen _ h₁ N0
  obtain ⟨K, hX, hobs⟩ := Y
  let C : Cx := ⟨PySem.Challenge.rw_pq0175_02.row.prog, w, K, q, looseW q loose, ExcName.means s₀.heap, mg, mb, s₁.gens, s₁.os⟩
  have GC : Good C ss fns bs fields := ⟨hobs⟩
  let V : Act C (F_law fa cd) := ⟨s₁.heap.objs.size, callerA, s₁.heap, s₁.heap, [], below_caller _, hX, T⟩
  have ok : V.Ok (callerA.deeper V.env) 200 := ⟨rfl, rfl, by show callerA.depth + 1 + 200 < 1000; decide, by show callerA.units + 3 + 10 * 200 < 9900; decide⟩
  have S0 : V.Sim ⟨lloc Ls none none none none none none none none none none none, []⟩ [] [] ((vw s₁).to h₁) := by
    refine ⟨_, [], [], F, N0, List.nodup_nil, .nil, rfl, ⟨rfl, rfl⟩, fun x pv hm => ?_, .nil⟩
    simp only [List.mem_cons, Prod.mk.injEq, reduceCtorEq, and_false, List.not_mem_nil, or_false, Option.some.injEq] at hm
    obtain ⟨rfl, rfl⟩ := hm
    exact ⟨_, rfl, .ref Ls⟩
  refine wpAny_mono (law_0 GC (V := V) hL hI (by omega) _ { s₁ with heap := h₁, toks := _ } [] [] _ ok S0) (fun f s' hf => ?_) fun _ _ e => e
  match f, hf with
  | .ret v, ⟨p, st', ep, S1⟩ =>
    subst ep
    obtain rfl := S1.bool1
    obtain ⟨m, mu, tl, S1⟩ := S1
    exact good_bool S1.F (S1.X.1.trans hg) (by rfl) S1.X.2
end Mine
end
set_option Elab.async false
set_option maxRecDepth 100000
theorem Mine.said : PySem.W.OpenLaw.wellSaid PySem.Challenge.rw_pq0175_02 = true := by kernel_rfl
open PySem PySem.W PyProof.Rows
set_option Elab.async false
set_option maxRecDepth 100000
set_option maxHeartbeats 8000000 in
theorem PySem.Challenge.cw_pq0175_02_holds : PySem.Challenge.rw_pq0175_02.Holds := by
  w_on; refine PySem.W.holds_law Mine.said fun said => ?_; o_head (Mine.hook Mine.ss Mine.fns Mine.bs Mine.fields)
  (case hw => w_witness2)
  exact Mine.walk02 _ _ _
