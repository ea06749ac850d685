import PyProof.Rows.All
import Wide.All
import OpenK.AllK
import Wide.FinOn
import PyProof.ExcArgsOwn
import PyProof.ExcInit
import PyProof.InstStoreFacts
import PyProof.ExcAttrAll.Exception
import PyProof.ExcBaseAll.Exception
import PySem.Challenge.RW_nt0396_01
set_option Elab.async false
set_option maxRecDepth 100000
set_option linter.all false
open PySem PySem.W PyProof.Rows PySem.Calls
namespace Mine
-- sums: the one procedure whose proofs come out smaller goes first
local macro_rules | `(tactic| walk_at "om") => `(tactic| first | lia | omega)
section
/-! ## the written part of the heap, as a constant: the head's own tactic writes it; the goal itself is at hand -/
section
local macro_rules | `(tactic| o_head $H) => `(tactic| (have _h := $H; assumption))
theorem k0 : PySem.Challenge.rw_nt0396_01.row.Holds → PySem.Challenge.rw_nt0396_01.row.Holds := by
  intro x
  k_head
end
end
section
/-- the data that the walk speaks of -/
inductive D where
  | none | bool (b : Bool) | int (i : Int) | str (s : Str) | tup (l : List D) | lst (l : List D) | ref (a : Addr) | bi (id : String) | ty (n : String)

inductive Rv (h : Heap) : Value → D → Prop
  | none : Rv h .none .none
  | bool (b : Bool) : Rv h (.bool b) (.bool b)
  | int (i : Int) (t : Tok) : Rv h (.int i t) (.int i)
  | str (s : Str) (t : Tok) : Rv h (.str s t) (.str s)
  | ref (a : Addr) : Rv h (.ref a) (.ref a)
  | bi (n : String) : Rv h (.builtin n) (.bi n)
  | ty (n : String) : Rv h (.type n) (.ty n)
  | tup (a : Addr) (vs : List Value) (l : List D) (ho : IsTup h a vs.toArray) (hl : vs.length = l.length)
      (hr : ∀ (i : Nat) (v : Value) (d : D), vs[i]? = some v → l[i]? = some d → Rv h v d) : Rv h (.ref a) (.tup l)
  | lst (a : Addr) (vs : List Value) (l : List D) (ho : h.IsList a vs.toArray) (hl : vs.length = l.length)
      (hr : ∀ (i : Nat) (v : Value) (d : D), vs[i]? = some v → l[i]? = some d → Rv h v d) : Rv h (.ref a) (.lst l)

/-- the objects that hold items stay (up to their slots) -/
noncomputable def Kq (h h' : Heap) : Prop := ∀ b o, (∃ items n, o.data = .seq items n) → h.get? b = some o → ∃ sl, h'.get? b = some { o with slots := sl }
/-- all objects stay, up to their slots -/
noncomputable def SubU (h h' : Heap) : Prop := ∀ b o, h.get? b = some o → ∃ sl, h'.get? b = some { o with slots := sl }

theorem Rv.kq {h h' : Heap} {v : Value} {d : D} (r : Rv h v d) (k : Kq h h') : Rv h' v d := by
  induction r with
  | none => exact .none
  | bool b => exact .bool b
  | int i t => exact .int i t
  | str s t => exact .str s t
  | ref a => exact .ref a
  | bi a => exact .bi a
  | ty a => exact .ty a
  | tup a vs l ho hl _ ih =>
    obtain ⟨o, h1, h2, n, h3⟩ := ho
    obtain ⟨sl, h1'⟩ := k a o ⟨_, n, h3⟩ h1
    exact .tup a vs l ⟨_, h1', h2, n, h3⟩ hl ih
  | lst a vs l ho hl _ ih =>
    obtain ⟨o, h1, h2, n, h3⟩ := ho
    obtain ⟨sl, h1'⟩ := k a o ⟨_, n, h3⟩ h1
    exact .lst a vs l ⟨_, h1', h2, n, h3⟩ hl ih

noncomputable def Sub (h h' : Heap) : Prop := ∀ b o, h.get? b = some o → h'.get? b = some o
theorem Sub.refl (h : Heap) : Sub h h := fun _ _ e => e
theorem Sub.trans {a b c : Heap} (x : Sub a b) (y : Sub b c) : Sub a c := fun p o e => y p o (x p o e)
theorem Sub.kq {h h' : Heap} (x : Sub h h') : Kq h h' := fun b o _ e => ⟨o.slots, x b o e⟩
theorem Sub.u {h h' : Heap} (x : Sub h h') : SubU h h' := fun b o e => ⟨o.slots, x b o e⟩
theorem SubU.refl (h : Heap) : SubU h h := fun _ o e => ⟨o.slots, e⟩
theorem SubU.trans {a b c : Heap} (x : SubU a b) (y : SubU b c) : SubU a c := fun p o e => let ⟨_, e1⟩ := x p o e; let ⟨sl, e2⟩ := y p _ e1; ⟨sl, e2⟩
theorem SubU.kq {h h' : Heap} (x : SubU h h') : Kq h h' := fun b o _ e => x b o e
theorem Rv.sub {h h' : Heap} {v : Value} {d : D} (r : Rv h v d) (k : Sub h h') : Rv h' v d := r.kq k.kq

noncomputable def Rvs (h : Heap) (vs : List Value) (ds : List D) : Prop := vs.length = ds.length ∧ ∀ (i : Nat) (v : Value) (d : D), vs[i]? = some v → ds[i]? = some d → Rv h v d
theorem Rvs.nil (h : Heap) : Rvs h [] [] := ⟨rfl, fun i v d e => by simp at e⟩
theorem Rvs.cons {h : Heap} {v d vs ds} (r : Rv h v d) (rs : Rvs h vs ds) : Rvs h (v :: vs) (d :: ds) :=
  ⟨by simp [rs.1], fun i v' d' e1 e2 => by
    cases i with
    | zero => simp at e1 e2; subst e1; subst e2; exact r
    | succ i => simp at e1 e2; exact rs.2 i v' d' e1 e2⟩
theorem Rvs.kq {h h' : Heap} {vs ds} (r : Rvs h vs ds) (k : Kq h h') : Rvs h' vs ds := ⟨r.1, fun i v d e1 e2 => (r.2 i v d e1 e2).kq k⟩

/-- the part that stands through the whole run -/
structure Gx where
  prog : Program
  w : World
  K : Frag
  mg : Str → Option Value
  mb : Str → Option Value

structure Hp (G : Gx) (h : Heap) : Prop where
  k : G.K.In h
  g : h.Ns mainGlobals G.mg
  b : h.Ns builtinsNs G.mb
  bi : ∀ x : Str, x ≠ "__name__" → G.mb x = bootBuiltins x
  nolimit : h.NoLimit
  digits : ∃ mc, h.Ns cStatics mc ∧ mc "sys.int_max_str_digits" = none
  seer : h.NoSeer
theorem Hp.sub {G : Gx} {h h' : Heap} (x : Hp G h) (k : Sub h h') : Hp G h' :=
  ⟨x.k.keeps k, x.g.keeps k, x.b.keeps k, x.bi, x.nolimit.keeps k, (let ⟨mc, h1, h2⟩ := x.digits; ⟨mc, h1.keeps k, h2⟩), x.seer.keeps k⟩

abbrev Gx.M (G : Gx) : Model := model G.prog G.w

/-- a frame -/
structure Cx where
  g : Gx
  A : Around
  env : Env
  names : List Str
  cells : List (Str × Option D)
  n : Nat
  L : Addr
  h₀ : Heap
  hs : Heap

structure Cx.Ok (X : Cx) : Prop where
  hp : Hp X.g X.h₀
  ah : X.A.handled = none
  dep : X.A.depth + X.n < recursionLimit
  un : X.A.units + 8 * X.n + 20 < cLine
  el : X.env.locals = X.L
  eg : X.env.globals = mainGlobals
  eb : X.env.builtins = builtinsNs
  fn : X.env.scope.kind = .function
  loc : ∀ x ∈ X.names, X.env.kindOf x = some .local
  nd : X.names.Nodup
  cel : ∀ p ∈ X.cells, (X.env.kindOf p.1 = some .cell ∨ (X.env.kindOf p.1 = some .free ∧ (p.1 == ("__classdict__" : Str)) = false))
  hsL : X.hs.get? X.L = none
  dom : ∀ b, X.hs.get? b = none → X.h₀.get? b = none

abbrev Lo := List (Option D)
abbrev Mu := List (Addr × List D)

/-- the names' data -/
noncomputable def Sv (X : Cx) (σ : Lo) (h : Heap) (m : Str → Option Value) : Prop :=
  ∀ (i : Nat) (x : Str) (d : D), X.names[i]? = some x → σ[i]? = some (some d) → ∃ v, m x = some v ∧ Rv h v d

/-- data without objects that hold items -/
noncomputable def D.flat : D → Bool
  | .tup _ | .lst _ => false
  | _ => true

/-- a plain list -/
noncomputable def LO (vs : List Value) (n : Nat) : Obj := { cls := .type "list", data := .seq vs.toArray n }

/-- the lists that the frame owns: made here, changed in place, of flat items -/
noncomputable def Ow (X : Cx) (μ : Mu) (h : Heap) : Prop :=
  ∀ p ∈ μ, p.1 ≠ X.L ∧ X.hs.get? p.1 = none ∧ (∀ d ∈ p.2, d.flat = true) ∧ ∃ vs n, h.get? p.1 = some (LO vs n) ∧ Rvs h vs p.2

/-- a cell's content -/
noncomputable def CeD (X : Cx) (h : Heap) (c : Addr) (o : Obj) : Option D → Prop
  | some d => ∃ v, o.data = .cell (some v) ∧ Rv h v d
  | none => o.data = .cell none ∧ X.hs.get? c = none
/-- the frame's cells: bound once, held -/
noncomputable def Ce (X : Cx) (h : Heap) : Prop :=
  ∀ p ∈ X.cells, ∃ c o, X.env.cells.lookup p.1 = some c ∧ h.get? c = some o ∧ CeD X h c o p.2
theorem CeD.up {X : Cx} {h h' : Heap} {c : Addr} {o : Obj} {d : Option D} {sl : Array (Option Value)} (x : CeD X h c o d) (k : Kq h h') : CeD X h' c { o with slots := sl } d := by
  cases d with
  | none => exact x
  | some d => obtain ⟨v, h1, h2⟩ := x; exact ⟨v, h1, h2.kq k⟩
theorem CeD.notDict {X : Cx} {h : Heap} {c : Addr} {o : Obj} {d : Option D} (x : CeD X h c o d) : ∃ v, o.data = .cell v := by
  cases d with
  | none => exact ⟨_, x.1⟩
  | some d => obtain ⟨v, h1, _⟩ := x; exact ⟨_, h1⟩

structure St (X : Cx) (σ : Lo) (μ : Mu) (h : Heap) : Prop where
  ok : X.Ok
  fr : ∃ m, Fr X.h₀ X.L h m ∧ Sv X σ h m
  ow : Ow X μ h
  ce : Ce X h
  us : SubU X.hs h

/-- what an expression leaves as it stood -/
noncomputable def Ke (X : Cx) (h h' : Heap) : Prop := ∀ b o, b ≠ X.L → h.get? b = some o → ∃ sl, h'.get? b = some { o with slots := sl }
noncomputable def Ks (X : Cx) (μ : Mu) (h h' : Heap) : Prop := ∀ b o, b ≠ X.L → (∀ p ∈ μ, p.1 ≠ b) → h.get? b = some o → ∃ sl, h'.get? b = some { o with slots := sl }

theorem Ke.refl (X : Cx) (h : Heap) : Ke X h h := fun _ o _ e => ⟨o.slots, e⟩
theorem Ke.trans {X : Cx} {a b c : Heap} (x : Ke X a b) (y : Ke X b c) : Ke X a c := fun p o n e => let ⟨_, e1⟩ := x p o n e; let ⟨sl, e2⟩ := y p _ n e1; ⟨sl, e2⟩
theorem Ke.of_u {X : Cx} {h h' : Heap} (k : SubU h h') : Ke X h h' := fun b o _ e => k b o e
theorem Ke.of_sub {X : Cx} {h h' : Heap} (k : Sub h h') : Ke X h h' := Ke.of_u k.u
theorem Ke.ks {X : Cx} {μ : Mu} {h h' : Heap} (k : Ke X h h') : Ks X μ h h' := fun b o n _ e => k b o n e
theorem Ks.trans {X : Cx} {μ : Mu} {a b c : Heap} (x : Ks X μ a b) (y : Ks X μ b c) : Ks X μ a c := fun p o n q e => let ⟨_, e1⟩ := x p o n q e; let ⟨sl, e2⟩ := y p _ n q e1; ⟨sl, e2⟩

theorem Fr.notSeq {h₀ h : Heap} {L : Addr} {m} (F : Fr h₀ L h m) {b : Addr} {o : Obj} (hs : ∃ items n, o.data = .seq items n) (e : h.get? b = some o) : b ≠ L := by
  rintro rfl
  obtain ⟨o', es, ep, h1, h2, _⟩ := F.ns
  rw [h1] at e; cases e
  obtain ⟨items, n, h3⟩ := hs
  rw [h2] at h3; cases h3
theorem St.kq {X : Cx} {σ μ h h'} (s : St X σ μ h) (k : Ke X h h') : Kq h h' := fun b o hs e => by
  obtain ⟨m, F, _⟩ := s.fr
  exact k b o (Fr.notSeq F hs e) e
theorem St.hp {X : Cx} {σ μ h} (s : St X σ μ h) : Hp X.g h := by
  obtain ⟨m, F, _⟩ := s.fr
  exact s.ok.hp.sub F.keep

/-- a frame's state over a heap with more in it -/
theorem St.sub {X : Cx} {σ μ h h'} (s : St X σ μ h) (k : Sub h h') : St X σ μ h' := by
  obtain ⟨m, F, S⟩ := s.fr
  refine ⟨s.ok, ⟨m, F.after k, fun i x d e1 e2 => ?_⟩, fun p hp => ?_, fun p hp => ?_, s.us.trans k.u⟩
  · obtain ⟨v, hv, r⟩ := S i x d e1 e2
    exact ⟨v, hv, r.sub k⟩
  · obtain ⟨n1, n2, n3, vs, n, h1, h2⟩ := s.ow p hp
    exact ⟨n1, n2, n3, vs, n, k _ _ h1, h2.kq k.kq⟩
  · obtain ⟨c, o, h1, h2, h3⟩ := s.ce p hp
    exact ⟨c, o, h1, k _ _ h2, h3.up (sl := o.slots) k.kq⟩
/-- the same, up to slots, where the frame owns no list -/
theorem St.subU {X : Cx} {σ h h'} (s : St X σ [] h) (k : SubU h h') (k₀ : Sub X.h₀ h') : St X σ [] h' := by
  obtain ⟨m, F, S⟩ := s.fr
  refine ⟨s.ok, ⟨m, ⟨?_, k₀, F.above⟩, fun i x d e1 e2 => ?_⟩, fun p hp => (by cases hp), fun p hp => ?_, s.us.trans k⟩
  · obtain ⟨o, es, ep, h1, r⟩ := F.ns
    obtain ⟨sl, h2⟩ := k _ _ h1
    exact ⟨_, es, ep, h2, r⟩
  · obtain ⟨v, hv, r⟩ := S i x d e1 e2
    exact ⟨v, hv, r.kq k.kq⟩
  · obtain ⟨c, o, h1, h2, h3⟩ := s.ce p hp
    obtain ⟨sl, h4⟩ := k _ _ h2
    exact ⟨c, _, h1, h4, h3.up k.kq⟩

/-- an expression's datum -/
structure EE (X : Cx) (σ : Lo) (μ : Mu) (e : Expr) (d : D) : Prop where
  run : ∀ (s : Shared) (Q : Value → Shared → Prop) (E : Value → Shared → Prop), St X σ μ s.heap →
    (∀ v h' tk, St X σ μ h' → Ke X s.heap h' → Rv h' v d → Q v { s with heap := h', toks := tk }) → wpAny X.g.M X.A (eval e X.env) Q E s
/-- a test's answer -/
structure EBw (X : Cx) (σ : Lo) (μ : Mu) (e : Expr) (whole : Sem Value) (b : Bool) : Prop where
  run : ∀ (s : Shared) (Q : Bool → Shared → Prop) (E : Value → Shared → Prop), St X σ μ s.heap →
    (∀ h' tk, St X σ μ h' → Ke X s.heap h' → Q b { s with heap := h', toks := tk }) → wpAny X.g.M X.A (isTrue e X.env whole) Q E s
abbrev EB (X : Cx) (σ : Lo) (μ : Mu) (e : Expr) (b : Bool) : Prop := EBw X σ μ e (eval e X.env) b

inductive Out where
  | next (σ : Lo) (μ : Mu) | cont (σ : Lo) (μ : Mu) | brk (σ : Lo) (μ : Mu) | ret (d : D)

noncomputable def Post (X : Cx) (μ : Mu) (s : Shared) (Q : Flow → Shared → Prop) : Out → Prop
  | .next σ' μ' => ∀ h' tk, St X σ' μ' h' → Ks X μ s.heap h' → Q .next { s with heap := h', toks := tk }
  | .cont σ' μ' => ∀ h' tk, St X σ' μ' h' → Ks X μ s.heap h' → Q .cont { s with heap := h', toks := tk }
  | .brk σ' μ' => ∀ h' tk, St X σ' μ' h' → Ks X μ s.heap h' → Q .brk { s with heap := h', toks := tk }
  | .ret d => ∀ v h' tk, Sub X.h₀ h' → SubU X.hs h' → Rv h' v d → Q (.ret v) { s with heap := h', toks := tk }

structure ES (X : Cx) (σ : Lo) (μ : Mu) (ss : List Stmt) (o : Out) : Prop where
  run : ∀ (s : Shared) (Q : Flow → Shared → Prop) (E : Value → Shared → Prop), St X σ μ s.heap → Post X μ s Q o → wpAny X.g.M X.A (execs ss X.env) Q E s
structure E1 (X : Cx) (σ : Lo) (μ : Mu) (ss : Stmt) (o : Out) : Prop where
  run : ∀ (s : Shared) (Q : Flow → Shared → Prop) (E : Value → Shared → Prop), St X σ μ s.heap → Post X μ s Q o → wpAny X.g.M X.A (exec ss X.env) Q E s

/-- a call of a def (or of a built-in) upon data -/
structure Fn (G : Gx) (n : Nat) (f : Value) (ds : List D) (d : D) : Prop where
  run : ∀ (A : Around) (s : Shared) (Q : Value → Shared → Prop) (E : Value → Shared → Prop) (vs : List Value),
    A.handled = none → A.depth + n < recursionLimit → A.units + 8 * n + 20 < cLine → Hp G s.heap → Rvs s.heap vs ds →
    (∀ v h' tk, Sub s.heap h' → Rv h' v d → Q v { s with heap := h', toks := tk }) → wpAny G.M A (call f vs) Q E s

theorem Fn.le {G : Gx} {n k : Nat} {f ds d} (x : Fn G n f ds d) (h : n ≤ k) : Fn G k f ds d :=
  ⟨fun A s Q E vs h1 h2 h3 h4 h5 h6 => x.run A s Q E vs h1 (by walk_at "om") (by walk_at "om") h4 h5 h6⟩

/-! ## leaves -/
section
variable {X : Cx} {σ : Lo} {μ : Mu}

theorem ev_loc {x : Str} {p : Pos} {d : D} (i : Nat) (hn : X.names[i]? = some x) (hd : σ[i]? = some (some d)) (hdb : (x == ("__debug__" : Str)) = false) : EE X σ μ (.Name x p) d := by
  refine ⟨fun s Q E S k => ?_⟩
  obtain ⟨m, F, V⟩ := S.fr
  obtain ⟨v, hv, r⟩ := V i x d hn hd
  refine wpAny_Name (wpAny_loadName_local S.ok.fn (S.ok.loc x (List.mem_of_getElem? hn)) (by rw [S.ok.el]; exact F.ns) hv ?_) hdb
  exact k v s.heap s.toks S (Ke.refl _ _) r

/-- a name in a cell -/
theorem ev_cell {x : Str} {p : Pos} {d : D} (i : Nat) (hn : X.cells[i]? = some (x, some d)) (hdb : (x == ("__debug__" : Str)) = false) : EE X σ μ (.Name x p) d := by
  refine ⟨fun s Q E S k => ?_⟩
  have hm := List.mem_of_getElem? hn
  obtain ⟨c, o, h1, h2, v, h3, r⟩ := S.ce _ hm
  refine wpAny_Name ?_ hdb
  rcases S.ok.cel _ hm with hk | ⟨hk, hcd⟩
  · exact wpAny_loadName_cell S.ok.fn hk h1 ⟨o, h2, h3⟩ (k v s.heap s.toks S (Ke.refl _ _) r)
  · exact wpAny_loadName_free S.ok.fn hk h1 ⟨o, h2, h3⟩ (k v s.heap s.toks S (Ke.refl _ _) r) hcd

theorem ev_int {i : Int} {k : Nat} {p : Pos} : EE X σ μ (.Constant (.int i) k p) (.int i) := by
  refine ⟨fun s Q E S h => ?_⟩
  exact wpAny_Constant_int (h _ _ _ S (Ke.refl _ _) (.int ..))
theorem ev_str {i : Str} {k : Nat} {p : Pos} : EE X σ μ (.Constant (.str i) k p) (.str i) := by
  refine ⟨fun s Q E S h => ?_⟩
  exact Constant_str (h _ _ _ S (Ke.refl _ _) (.str ..))
theorem ev_bool {i : Bool} {k : Nat} {p : Pos} : EE X σ μ (.Constant (.bool i) k p) (.bool i) := by
  refine ⟨fun s Q E S h => ?_⟩
  exact Constant_bool (h _ _ s.toks S (Ke.refl _ _) (.bool ..))
theorem ev_none {k : Nat} {p : Pos} : EE X σ μ (.Constant .none k p) .none := by
  refine ⟨fun s Q E S h => ?_⟩
  exact Constant_none (h _ _ s.toks S (Ke.refl _ _) .none)

/-- a name of the top's -/
theorem ev_glob {x : Str} {p : Pos} {v : Value} {d : D} (hv : nsIn X.g.K mainGlobals x = some (some v)) (hr : ∀ h, Rv h v d) (hk : X.env.kindOf x = some .globalImplicit) (hdb : (x == ("__debug__" : Str)) = false) : EE X σ μ (.Name x p) d := by
  refine ⟨fun s Q E S k => ?_⟩
  have H := S.hp
  exact Name_function_global S.ok.fn hk (loadGlobal_global (env := X.env) (by rw [S.ok.eg]; exact H.g) (mg_of H.k H.g hv) (k v s.heap s.toks S (Ke.refl _ _) (hr _))) hdb

/-- a name of the built-ins -/
theorem ev_built {x : Str} {p : Pos} {v : Value} {d : D} (hv : nsIn X.g.K mainGlobals x = some none) (hb : bootBuiltins x = some v) (hr : ∀ h, Rv h v d) (hk : X.env.kindOf x = some .globalImplicit)
    (hn : (x == ("__name__" : Str)) = false) (hdb : (x == ("__debug__" : Str)) = false) : EE X σ μ (.Name x p) d := by
  refine ⟨fun s Q E S k => ?_⟩
  have H := S.hp
  have hn' : x ≠ ("__name__" : Str) := by rintro rfl; simp at hn
  exact Name_function_global S.ok.fn hk (loadGlobal_builtin (env := X.env) (by rw [S.ok.eg]; exact H.g) (mg_none_of H.k H.g hv) (by rw [S.ok.eb]; exact H.b) ((H.bi x hn').trans hb) (k v s.heap s.toks S (Ke.refl _ _) (hr _))) hdb

/-! ## operators -/
structure Bin (G : Gx) (op : Operator) (a b c : D) : Prop where
  run : ∀ (A : Around) (s : Shared) (Q : Value → Shared → Prop) (E : Value → Shared → Prop) (v w : Value),
    A.handled = none → A.depth < recursionLimit → A.units + 20 < cLine → Hp G s.heap → Rv s.heap v a → Rv s.heap w b →
    (∀ u h' tk, Sub s.heap h' → Rv h' u c → Q u { s with heap := h', toks := tk }) → wpAny G.M A (binaryOp op v w) Q E s

theorem ev_bin {l r : Expr} {op : Operator} {p : Pos} {a b c : D} (hl : EE X σ μ l a) (hr : EE X σ μ r b) (ho : Bin X.g op a b c) : EE X σ μ (.BinOp l op r p) c := by
  refine ⟨fun s Q E S k => ?_⟩
  refine wpAny_BinOp (hl.run s _ E S fun v h₁ tk₁ S₁ k₁ r₁ => hr.run _ _ E S₁ fun w h₂ tk₂ S₂ k₂ r₂ => ?_)
  refine ho.run X.A _ Q E v w S.ok.ah (by have := S.ok.dep; walk_at "om") (by have := S.ok.un; walk_at "om") S₂.hp (r₁.kq (S₁.kq k₂)) r₂ fun u h₃ tk₃ k₃ r₃ => ?_
  exact k u h₃ tk₃ (S₂.sub k₃) ((k₁.trans k₂).trans (Ke.of_sub k₃)) r₃

theorem Rv.int_inv {h v i} (r : Rv h v (.int i)) : ∃ t, v = .int i t := by cases r; exact ⟨_, rfl⟩
theorem Rv.str_inv {h v i} (r : Rv h v (.str i)) : ∃ t, v = .str i t := by cases r; exact ⟨_, rfl⟩
theorem Rv.bool_inv {h v i} (r : Rv h v (.bool i)) : v = .bool i := by cases r; rfl
theorem Rv.none_inv {h v} (r : Rv h v .none) : v = .none := by cases r; rfl

section
variable {G : Gx} {a b : Int}
theorem bin_add : Bin G .Add (.int a) (.int b) (.int (a + b)) := by
  constructor; intro A s Q E v w _ _ _ _ r1 r2 k; obtain ⟨_, rfl⟩ := r1.int_inv; obtain ⟨_, rfl⟩ := r2.int_inv
  exact PyProof.Rows.add_int (k _ _ _ (Sub.refl _) (.int ..))
theorem bin_sub : Bin G .Sub (.int a) (.int b) (.int (a - b)) := by
  constructor; intro A s Q E v w _ _ _ _ r1 r2 k; obtain ⟨_, rfl⟩ := r1.int_inv; obtain ⟨_, rfl⟩ := r2.int_inv
  exact PyProof.Rows.sub_int (k _ _ _ (Sub.refl _) (.int ..))
theorem bin_mul (hm : IntMulOk a b) : Bin G .Mult (.int a) (.int b) (.int (a * b)) := by
  constructor; intro A s Q E v w _ _ _ _ r1 r2 k; obtain ⟨_, rfl⟩ := r1.int_inv; obtain ⟨_, rfl⟩ := r2.int_inv
  exact PyProof.Rows.mul_int (k _ _ _ (Sub.refl _) (.int ..)) hm
theorem bin_div (hb : 0 < b) (hz : b.natAbs.log2 < 9000) : Bin G .FloorDiv (.int a) (.int b) (.int (a / b)) := by
  constructor; intro A s Q E v w _ hd _ H r1 r2 k; obtain ⟨_, rfl⟩ := r1.int_inv; obtain ⟨_, rfl⟩ := r2.int_inv
  rw [← Int.fdiv_eq_ediv_of_nonneg a (by walk_at "om")] at k
  exact PyProof.Rows.floordiv_int (by walk_at "om") (k _ _ _ (Sub.refl _) (.int ..)) (Or.inl (PyProof.noPylong_of_log2 hz))
theorem bin_mod (hb : 0 < b) : Bin G .Mod (.int a) (.int b) (.int (a % b)) := by
  constructor; intro A s Q E v w _ hd _ H r1 r2 k; obtain ⟨_, rfl⟩ := r1.int_inv; obtain ⟨_, rfl⟩ := r2.int_inv
  rw [← Int.fmod_eq_emod_of_nonneg a (by walk_at "om")] at k
  exact PyProof.Rows.mod_int' (by walk_at "om") (k _ _ _ (Sub.refl _) (.int ..))
theorem bin_shr (hb : 0 ≤ b) : Bin G .RShift (.int a) (.int b) (.int (a / 2 ^ b.toNat)) := by
  constructor; intro A s Q E v w _ hd _ H r1 r2 k; obtain ⟨_, rfl⟩ := r1.int_inv; obtain ⟨_, rfl⟩ := r2.int_inv
  rw [← Int.fdiv_eq_ediv_of_nonneg a (Int.pow_nonneg (by decide))] at k
  exact PyProof.Rows.rshift_int hb (k _ _ _ (Sub.refl _) (.int ..))
theorem bin_shl (hb : 0 ≤ b) (hs : (Builtin.Int.intBits a : Int) + b ≤ 2 ^ 27) : Bin G .LShift (.int a) (.int b) (.int (a * 2 ^ b.toNat)) := by
  constructor; intro A s Q E v w _ hd _ H r1 r2 k; obtain ⟨_, rfl⟩ := r1.int_inv; obtain ⟨_, rfl⟩ := r2.int_inv
  exact PyProof.Rows.lshift_int hb hs (k _ _ _ (Sub.refl _) (.int ..))
theorem bin_pow (hb : 0 ≤ b) (hs : (Builtin.Int.intBits a : Int) * b ≤ 2 ^ 27) : Bin G .Pow (.int a) (.int b) (.int (a ^ b.toNat)) := by
  constructor; intro A s Q E v w _ hd _ H r1 r2 k; obtain ⟨_, rfl⟩ := r1.int_inv; obtain ⟨_, rfl⟩ := r2.int_inv
  exact PyProof.Rows.pow_int hb hs (k _ _ _ (Sub.refl _) (.int ..))
theorem bin_and : Bin G .BitAnd (.int a) (.int b) (.int (Builtin.bitAnd a b)) := by
  constructor; intro A s Q E v w _ hd _ H r1 r2 k; obtain ⟨_, rfl⟩ := r1.int_inv; obtain ⟨_, rfl⟩ := r2.int_inv
  exact PyProof.Rows.and_int (k _ _ _ (Sub.refl _) (.int ..))
theorem bin_or : Bin G .BitOr (.int a) (.int b) (.int (Builtin.bitOr a b)) := by
  constructor; intro A s Q E v w _ hd _ H r1 r2 k; obtain ⟨_, rfl⟩ := r1.int_inv; obtain ⟨_, rfl⟩ := r2.int_inv
  exact PyProof.Rows.or_int (k _ _ _ (Sub.refl _) (.int ..))
theorem bin_xor : Bin G .BitXor (.int a) (.int b) (.int (Builtin.bitXor a b)) := by
  constructor; intro A s Q E v w _ hd _ H r1 r2 k; obtain ⟨_, rfl⟩ := r1.int_inv; obtain ⟨_, rfl⟩ := r2.int_inv
  exact PyProof.Rows.xor_int (k _ _ _ (Sub.refl _) (.int ..))
theorem bin_cat {x y : Str} (hs : x.length + y.length ≤ sizeLine) : Bin G .Add (.str x) (.str y) (.str (x ++ y)) := by
  constructor; intro A s Q E v w _ hd _ H r1 r2 k; obtain ⟨_, rfl⟩ := r1.str_inv; obtain ⟨_, rfl⟩ := r2.str_inv
  exact PyProof.Rows.add_str (fun _ _ => k _ _ _ (Sub.refl _) (.str ..)) hs
end

theorem ev_neg {e : Expr} {p : Pos} {a : Int} (h : EE X σ μ e (.int a)) : EE X σ μ (.UnaryOp .USub e p) (.int (-a)) := by
  refine ⟨fun s Q E S k => ?_⟩
  refine UnaryOp_ (h.run s _ E S fun v h₁ tk₁ S₁ k₁ r₁ => ?_)
  obtain ⟨_, rfl⟩ := r₁.int_inv
  exact PyProof.Rows.neg_int (k _ _ _ S₁ k₁ (.int ..))
end
end
section
/-! ## comparisons -/
structure Cmp (G : Gx) (op : CmpOp) (a b : D) (r : Bool) : Prop where
  run : ∀ (A : Around) (s : Shared) (Q : Value → Shared → Prop) (E : Value → Shared → Prop) (v w : Value),
    A.handled = none → A.depth < recursionLimit → A.units + 20 < cLine → Rv s.heap v a → Rv s.heap w b → Q (.bool r) s → wpAny G.M A (compareOp op v w) Q E s

section
variable {X : Cx} {σ : Lo} {μ : Mu}

theorem ev_cmp {l r : Expr} {op : CmpOp} {p : Pos} {a b : D} {c : Bool} (hl : EE X σ μ l a) (hr : EE X σ μ r b) (ho : Cmp X.g op a b c) (hm : behindInMarks op r = false) :
    EE X σ μ (.Compare l [op] [r] p) (.bool c) := by
  refine ⟨fun s Q E S k => ?_⟩
  refine wpAny_Compare1 (hl.run s _ E S fun v h₁ tk₁ S₁ k₁ r₁ => hr.run _ _ E S₁ fun w h₂ tk₂ S₂ k₂ r₂ => ?_) hm
  exact ho.run X.A _ Q E v w S.ok.ah (by have := S.ok.dep; walk_at "om") (by have := S.ok.un; walk_at "om") (r₁.kq (S₁.kq k₂)) r₂ (k _ _ _ S₂ (k₁.trans k₂) (.bool _))

noncomputable def EBa (X : Cx) (σ : Lo) (μ : Mu) (e : Expr) (b : Bool) : Prop := ∀ whole, EBw X σ μ e whole b
theorem EBa.eb {e : Expr} {b : Bool} (h : EBa X σ μ e b) : EB X σ μ e b := h _

theorem eb_cmp {l r : Expr} {op : CmpOp} {p : Pos} {a b : D} {c : Bool} (hl : EE X σ μ l a) (hr : EE X σ μ r b) (ho : Cmp X.g op a b c) (hm : behindInMarks op r = false) :
    EBa X σ μ (.Compare l [op] [r] p) c := by
  refine fun whole => ⟨fun s Q E S k => ?_⟩
  refine wpAny_isTrue_Compare1 (hl.run s _ E S fun v h₁ tk₁ S₁ k₁ r₁ => hr.run _ _ E S₁ fun w h₂ tk₂ S₂ k₂ r₂ => ?_) hm
  exact ho.run X.A _ _ E v w S.ok.ah (by have := S.ok.dep; walk_at "om") (by have := S.ok.un; walk_at "om") (r₁.kq (S₁.kq k₂)) r₂ (wpAny_truthy_bool (k _ _ S₂ (k₁.trans k₂)))

theorem ev_chain {l r₁ r₂ : Expr} {o₁ o₂ : CmpOp} {p : Pos} {a b c : D} {x y : Bool} (hl : EE X σ μ l a) (h1 : EE X σ μ r₁ b) (h2 : EE X σ μ r₂ c) (c1 : Cmp X.g o₁ a b x) (c2 : Cmp X.g o₂ b c y)
    (hm : lastMarks [o₁, o₂] [r₁, r₂] = false) : EE X σ μ (.Compare l [o₁, o₂] [r₁, r₂] p) (.bool (x && y)) := by
  refine ⟨fun s Q E S k => ?_⟩
  refine Compare_chain (hl.run s _ E S fun v h₁ tk₁ S₁ k₁ q₁ => chain_link (h1.run _ _ E S₁ fun w h₂ tk₂ S₂ k₂ q₂ => ?_)) hm
  refine c1.run X.A _ _ E v w S.ok.ah (by have := S.ok.dep; walk_at "om") (by have := S.ok.un; walk_at "om") (q₁.kq (S₁.kq k₂)) q₂ (wpAny_truthy_bool ?_)
  cases x with
  | false => exact k _ _ _ S₂ (k₁.trans k₂) (.bool _)
  | true =>
    refine chain_last (h2.run _ _ E S₂ fun u h₃ tk₃ S₃ k₃ q₃ => ?_)
    exact c2.run X.A _ _ E w u S.ok.ah (by have := S.ok.dep; walk_at "om") (by have := S.ok.un; walk_at "om") (q₂.kq (S₂.kq k₃)) q₃ (k _ _ _ S₃ ((k₁.trans k₂).trans k₃) (.bool _))
theorem eb_chain {l r₁ r₂ : Expr} {o₁ o₂ : CmpOp} {p : Pos} {a b c : D} {x y : Bool} (hl : EE X σ μ l a) (h1 : EE X σ μ r₁ b) (h2 : EE X σ μ r₂ c) (c1 : Cmp X.g o₁ a b x) (c2 : Cmp X.g o₂ b c y)
    (hm : lastMarks [o₁, o₂] [r₁, r₂] = false) : EBa X σ μ (.Compare l [o₁, o₂] [r₁, r₂] p) (x && y) := by
  refine fun whole => ⟨fun s Q E S k => ?_⟩
  refine isTrue_chain (hl.run s _ E S fun v h₁ tk₁ S₁ k₁ q₁ => test_link (h1.run _ _ E S₁ fun w h₂ tk₂ S₂ k₂ q₂ => ?_)) hm
  refine c1.run X.A _ _ E v w S.ok.ah (by have := S.ok.dep; walk_at "om") (by have := S.ok.un; walk_at "om") (q₁.kq (S₁.kq k₂)) q₂ (wpAny_truthy_bool ?_)
  cases x with
  | false => exact k _ _ S₂ (k₁.trans k₂)
  | true =>
    refine test_last (h2.run _ _ E S₂ fun u h₃ tk₃ S₃ k₃ q₃ => ?_)
    exact c2.run X.A _ _ E w u S.ok.ah (by have := S.ok.dep; walk_at "om") (by have := S.ok.un; walk_at "om") (q₂.kq (S₂.kq k₃)) q₃ (wpAny_truthy_bool (k _ _ S₃ ((k₁.trans k₂).trans k₃)))

theorem eb_of {e : Expr} {b : Bool} (h : EE X σ μ e (.bool b)) (he : isTrue e X.env (eval e X.env) = (do let v ← eval e X.env; standAt e.pos; holding [v] (truthy v))) : EB X σ μ e b := by
  refine ⟨fun s Q E S k => ?_⟩
  refine isTrue_plain (h.run s _ E S fun v h₁ tk₁ S₁ k₁ r₁ => ?_) he
  rw [r₁.bool_inv]
  exact wpAny_truthy_bool (k _ _ S₁ k₁)
theorem eb_call {f : Expr} {as : List Expr} {ks : List Keyword} {p : Pos} {b : Bool} (h : EE X σ μ (.Call f as ks p) (.bool b)) : EB X σ μ (.Call f as ks p) b := eb_of h rfl
theorem eb_name {x : Str} {p : Pos} {b : Bool} (h : EE X σ μ (.Name x p) (.bool b)) : EB X σ μ (.Name x p) b := eb_of h rfl
theorem eb_const {c : Const} {k : Nat} {p : Pos} {b : Bool} (h : EE X σ μ (.Constant c k p) (.bool b)) : EB X σ μ (.Constant c k p) b := eb_of h rfl

theorem eb_not {e : Expr} {p : Pos} {b : Bool} (h : EB X σ μ e b) : EBa X σ μ (.UnaryOp .Not e p) (!b) := by
  refine fun whole => ⟨fun s Q E S k => ?_⟩
  exact isTrue_not (h.run s _ E S fun h' tk S' k' => k h' tk S' k')
theorem eb_and_nil {p : Pos} : EBa X σ μ (.BoolOp .And [] p) true := by
  refine fun whole => ⟨fun s Q E S k => ?_⟩; exact isTrue_and_nil (k _ s.toks S (Ke.refl _ _))
theorem eb_or_nil {p : Pos} : EBa X σ μ (.BoolOp .Or [] p) false := by
  refine fun whole => ⟨fun s Q E S k => ?_⟩; exact isTrue_or_nil (k _ s.toks S (Ke.refl _ _))
theorem eb_and {e : Expr} {rest : List Expr} {p : Pos} {a b : Bool} (h : EB X σ μ e a) (h2 : a = true → EBa X σ μ (.BoolOp .And rest p) b) : EBa X σ μ (.BoolOp .And (e :: rest) p) (a && b) := by
  refine fun whole => ⟨fun s Q E S k => ?_⟩
  refine isTrue_and (h.run s _ E S fun h₁ tk₁ S₁ k₁ => ?_)
  cases a with
  | false => exact k _ _ S₁ k₁
  | true => exact (h2 rfl whole).run _ _ E S₁ fun h₂ tk₂ S₂ k₂ => k _ _ S₂ (k₁.trans k₂)
theorem eb_or {e : Expr} {rest : List Expr} {p : Pos} {a b : Bool} (h : EB X σ μ e a) (h2 : a = false → EBa X σ μ (.BoolOp .Or rest p) b) : EBa X σ μ (.BoolOp .Or (e :: rest) p) (a || b) := by
  refine fun whole => ⟨fun s Q E S k => ?_⟩
  refine isTrue_or (h.run s _ E S fun h₁ tk₁ S₁ k₁ => ?_)
  cases a with
  | true => exact k _ _ S₁ k₁
  | false => exact (h2 rfl whole).run _ _ E S₁ fun h₂ tk₂ S₂ k₂ => k _ _ S₂ (k₁.trans k₂)

theorem ev_not {e : Expr} {p : Pos} {b : Bool} (h : EE X σ μ e (.bool b)) : EE X σ μ (.UnaryOp .Not e p) (.bool !b) := by
  refine ⟨fun s Q E S k => ?_⟩
  refine UnaryOp_ (h.run s _ E S fun v h₁ tk₁ S₁ k₁ r₁ => not_of ?_)
  rw [r₁.bool_inv]
  exact wpAny_truthy_bool (k _ _ _ S₁ k₁ (.bool _))
theorem ev_bone {op : BoolOp} {e : Expr} {p : Pos} {d : D} (h : EE X σ μ e d) : EE X σ μ (.BoolOp op [e] p) d := ⟨fun s Q E S k => BoolOp_one (h.run s Q E S k)⟩
theorem ev_and {e e₂ : Expr} {rest : List Expr} {p : Pos} {a b : Bool} (h : EE X σ μ e (.bool a)) (h2 : a = true → EE X σ μ (.BoolOp .And (e₂ :: rest) p) (.bool b)) : EE X σ μ (.BoolOp .And (e :: e₂ :: rest) p) (.bool (a && b)) := by
  refine ⟨fun s Q E S k => ?_⟩
  refine BoolOp_and (h.run s _ E S fun v h₁ tk₁ S₁ k₁ r₁ => ?_)
  rw [r₁.bool_inv]
  refine wpAny_truthy_bool ?_
  cases a with
  | false => exact k _ _ _ S₁ k₁ (.bool _)
  | true => exact (h2 rfl).run _ _ E S₁ fun v h₂ tk₂ S₂ k₂ r₂ => k _ _ _ S₂ (k₁.trans k₂) r₂
theorem ev_or {e e₂ : Expr} {rest : List Expr} {p : Pos} {a b : Bool} (h : EE X σ μ e (.bool a)) (h2 : a = false → EE X σ μ (.BoolOp .Or (e₂ :: rest) p) (.bool b)) : EE X σ μ (.BoolOp .Or (e :: e₂ :: rest) p) (.bool (a || b)) := by
  refine ⟨fun s Q E S k => ?_⟩
  refine BoolOp_or (h.run s _ E S fun v h₁ tk₁ S₁ k₁ r₁ => ?_)
  rw [r₁.bool_inv]
  refine wpAny_truthy_bool ?_
  cases a with
  | true => exact k _ _ _ S₁ k₁ (.bool _)
  | false => exact (h2 rfl).run _ _ E S₁ fun v h₂ tk₂ S₂ k₂ r₂ => k _ _ _ S₂ (k₁.trans k₂) r₂

theorem ev_if {t a b : Expr} {p : Pos} {c : Bool} {d : D} (ht : EB X σ μ t c) (h1 : c = true → EE X σ μ a d) (h2 : c = false → EE X σ μ b d) : EE X σ μ (.IfExp t a b p) d := by
  refine ⟨fun s Q E S k => ?_⟩
  refine IfExp_ (ht.run s _ E S fun h₁ tk₁ S₁ k₁ => ?_)
  cases c with
  | true => exact (h1 rfl).run _ _ E S₁ fun v h₂ tk₂ S₂ k₂ r₂ => k _ _ _ S₂ (k₁.trans k₂) r₂
  | false => exact (h2 rfl).run _ _ E S₁ fun v h₂ tk₂ S₂ k₂ r₂ => k _ _ _ S₂ (k₁.trans k₂) r₂
theorem ev_ifI {t a b : Expr} {p : Pos} {c : Bool} {x y : Int} (ht : EB X σ μ t c) (h1 : c = true → EE X σ μ a (.int x)) (h2 : c = false → EE X σ μ b (.int y)) : EE X σ μ (.IfExp t a b p) (.int (if c = true then x else y)) :=
  ev_if ht (fun h => by rw [if_pos h]; exact h1 h) (fun h => by rw [if_neg (by rw [h]; decide)]; exact h2 h)
theorem ev_ifS {t a b : Expr} {p : Pos} {c : Bool} {x y : Str} (ht : EB X σ μ t c) (h1 : c = true → EE X σ μ a (.str x)) (h2 : c = false → EE X σ μ b (.str y)) : EE X σ μ (.IfExp t a b p) (.str (if c = true then x else y)) :=
  ev_if ht (fun h => by rw [if_pos h]; exact h1 h) (fun h => by rw [if_neg (by rw [h]; decide)]; exact h2 h)

/-! ## arguments and displays -/
noncomputable def notStar : Expr → Bool
  | .Starred .. => false
  | _ => true
theorem star_plain {e : Expr} {rest : List Expr} {env : Env} (h : notStar e = true) : starEach (e :: rest) env = (false, eval e env) :: starEach rest env := by
  cases e <;> first | rfl | cases h

structure EA (X : Cx) (σ : Lo) (μ : Mu) (es : List Expr) (ds : List D) : Prop where
  run : ∀ (p : Pos) (s : Shared) (Q : List Value → Shared → Prop) (E : Value → Shared → Prop), St X σ μ s.heap →
    (∀ vs h' tk, St X σ μ h' → Ke X s.heap h' → Rvs h' vs ds → Q vs { s with heap := h', toks := tk }) → wpAny X.g.M X.A (spliced (backTo p (starEach es X.env))) Q E s
theorem ea_nil : EA X σ μ [] [] := by
  refine ⟨fun p s Q E S k => ?_⟩; exact args_nil (k _ _ s.toks S (Ke.refl _ _) (Rvs.nil _))
theorem ea_cons {e : Expr} {es : List Expr} {d : D} {ds : List D} (h : EE X σ μ e d) (hs : EA X σ μ es ds) (hn : notStar e = true := by rfl) : EA X σ μ (e :: es) (d :: ds) := by
  refine ⟨fun p s Q E S k => ?_⟩
  refine args_cons (h.run s _ E S fun v h₁ tk₁ S₁ k₁ r₁ => hs.run p _ _ E S₁ fun vs h₂ tk₂ S₂ k₂ r₂ => ?_) (star_plain hn)
  exact k _ _ _ S₂ (k₁.trans k₂) (Rvs.cons (r₁.kq (S₁.kq k₂)) r₂)

theorem Rvs.len {h vs ds} (r : Rvs h vs ds) : vs.length = ds.length := r.1
theorem St.push {h : Heap} (S : St X σ μ h) (o : Obj) : St X σ μ (h.push o) := S.sub fun b o' e => Heap.get?_push_of_some o e
theorem Ke.push {h : Heap} (o : Obj) : Ke X h (h.push o) := Ke.of_sub fun b o' e => Heap.get?_push_of_some o e
theorem Sub.push {h : Heap} (o : Obj) : Sub h (h.push o) := fun b o' e => Heap.get?_push_of_some o e
theorem Rvs.tup {h : Heap} {vs ds} (r : Rvs h vs ds) : Rv (h.push { cls := .type "tuple", data := .seq vs.toArray }) (.ref h.objs.size) (.tup ds) :=
  let r' := r.kq (Sub.push (h := h) { cls := .type "tuple", data := .seq vs.toArray }).kq
  .tup _ vs ds (IsTup.new h _) r'.1 r'.2
theorem IsList.new (h : Heap) (items : Array Value) : (h.push { cls := .type "list", data := .seq items }).IsList h.objs.size items := ⟨_, Heap.get?_push_size _ rfl, rfl, _, rfl⟩
theorem Rvs.lst {h : Heap} {vs ds} (r : Rvs h vs ds) : Rv (h.push { cls := .type "list", data := .seq vs.toArray }) (.ref h.objs.size) (.lst ds) :=
  let r' := r.kq (Sub.push (h := h) { cls := .type "list", data := .seq vs.toArray }).kq
  .lst _ vs ds (IsList.new h _) r'.1 r'.2

theorem ev_tup {es : List Expr} {k : Nat} {p : Pos} {ds : List D} (h : EA X σ μ es ds) (hb : Nat.ble ds.length sizeLine = true := by rfl) : EE X σ μ (.Tuple es k p) (.tup ds) := by
  refine ⟨fun s Q E S kk => ?_⟩
  refine Tuple_ (h.run p s _ E S fun vs h₁ tk₁ S₁ k₁ r₁ => ?_)
  refine wpAny_newObj_type (kk _ _ _ (S₁.push _) (k₁.trans (Ke.push _)) r₁.tup) ?_
  show vs.toArray.size ≤ sizeLine
  rw [List.size_toArray, r₁.len]; exact Nat.le_of_ble_eq_true hb
theorem ev_lst {es : List Expr} {p : Pos} {ds : List D} (h : EA X σ μ es ds) (hb : Nat.ble ds.length sizeLine = true := by rfl) : EE X σ μ (.List es p) (.lst ds) := by
  refine ⟨fun s Q E S kk => ?_⟩
  refine List_ (h.run p s _ E S fun vs h₁ tk₁ S₁ k₁ r₁ => ?_)
  refine wpAny_newObj_type (kk _ _ _ (S₁.push _) (k₁.trans (Ke.push _)) r₁.lst) ?_
  show vs.toArray.size ≤ sizeLine
  rw [List.size_toArray, r₁.len]; exact Nat.le_of_ble_eq_true hb

/-! ## calls -/
noncomputable def isFn (K : Frag) (a : Addr) : Bool := match K.lookup a with
  | some ⟨_, _, .func _, _⟩ => true
  | _ => false
theorem isFn_obj {K : Frag} {a : Addr} (e : isFn K a = true) : ∃ o fd, K.lookup a = some o ∧ o.data = .func fd := by
  unfold isFn at e
  split at e
  · rename_i c d fd sl ho
    exact ⟨_, _, ho, rfl⟩
  · cases e

theorem ev_call {f : Expr} {e : Expr} {es : List Expr} {p : Pos} {a : Addr} {ds : List D} {d : D} {n : Nat} (hf : EE X σ μ f (.ref a)) (ha : EA X σ μ (e :: es) ds) (hfn : Fn X.g n (.ref a) ds d)
    (hk : isFn X.g.K a = true) (hn : n ≤ X.n) (he : notStar e = true) (hc : ∀ env, eval (.Call f (e :: es) [] p) env = (do callWith p (← eval f env) [] (backTo p (starEach (e :: es) env)) (backToKw p (keywordEach [] env)))) :
    EE X σ μ (.Call f (e :: es) [] p) d := by
  refine ⟨fun s Q E S k => ?_⟩
  refine Call_ (hf.run s _ E S fun v h₁ tk₁ S₁ k₁ r₁ => ?_) (hc _)
  cases r₁
  obtain ⟨o, fd, hK, hd⟩ := isFn_obj hk
  refine callWith_def hd (ha.run p _ _ E S₁ fun vs h₂ tk₂ S₂ k₂ r₂ => ?_) (star_plain he)
  refine ⟨S₂.hp.k _ _ hK, ?_⟩
  refine (hfn.le hn).run X.A _ Q E vs S.ok.ah S.ok.dep S.ok.un S₂.hp r₂ fun v h₃ tk₃ k₃ r₃ => ?_
  exact k _ _ _ (S₂.sub k₃) ((k₁.trans k₂).trans (Ke.of_sub k₃)) r₃

/-- a call of a built-in function upon data -/
structure Bi (G : Gx) (f : Value) (ds : List D) (d : D) : Prop where
  run : ∀ (A : Around) (s : Shared) (Q : Value → Shared → Prop) (E : Value → Shared → Prop) (vs : List Value),
    A.handled = none → A.depth < recursionLimit → A.units + 20 < cLine → Hp G s.heap → Rvs s.heap vs ds →
    (∀ v h' tk, Sub s.heap h' → Rv h' v d → Q v { s with heap := h', toks := tk }) → wpAny G.M A (call f vs) Q E s

theorem plain_args {env : Env} {p : Pos} : ∀ {es : List Expr}, (es.all notStar) = true → (backTo p (starEach es env)).any (·.1) = false
  | [], _ => rfl
  | e :: es, h => by
    rw [List.all_cons, Bool.and_eq_true] at h
    rw [star_plain h.1]
    exact (show (false || (backTo p (starEach es env)).any (·.1)) = false from by rw [plain_args h.2]; rfl)

theorem ev_callB {f : Expr} {e : Expr} {es : List Expr} {p : Pos} {id : String} {ds : List D} {d : D} (hf : EE X σ μ f (.bi id)) (ha : EA X σ μ (e :: es) ds) (hfn : Bi X.g (.builtin id) ds d)
    (he : ((e :: es).all notStar) = true) (hc : ∀ env, eval (.Call f (e :: es) [] p) env = (do callWith p (← eval f env) [] (backTo p (starEach (e :: es) env)) (backToKw p (keywordEach [] env)))) :
    EE X σ μ (.Call f (e :: es) [] p) d := by
  refine ⟨fun s Q E S k => ?_⟩
  refine Call_ (hf.run s _ E S fun v h₁ tk₁ S₁ k₁ r₁ => ?_) (hc _)
  cases r₁
  have he' := he
  rw [List.all_cons, Bool.and_eq_true] at he'
  refine PyProof.Rows.callWith_builtin1 (ha.run p _ _ E S₁ fun vs h₂ tk₂ S₂ k₂ r₂ => ?_) (star_plain he'.1) (plain_args he'.2)
  refine hfn.run X.A _ Q E vs S.ok.ah (by have := S.ok.dep; walk_at "om") (by have := S.ok.un; walk_at "om") S₂.hp r₂ fun v h₃ tk₃ k₃ r₃ => ?_
  exact k _ _ _ (S₂.sub k₃) ((k₁.trans k₂).trans (Ke.of_sub k₃)) r₃
theorem ev_callT {f : Expr} {e : Expr} {es : List Expr} {p : Pos} {id : String} {ds : List D} {d : D} (hf : EE X σ μ f (.ty id)) (ha : EA X σ μ (e :: es) ds) (hfn : Bi X.g (.type id) ds d)
    (he : ((e :: es).all notStar) = true) (hc : ∀ env, eval (.Call f (e :: es) [] p) env = (do callWith p (← eval f env) [] (backTo p (starEach (e :: es) env)) (backToKw p (keywordEach [] env)))) :
    EE X σ μ (.Call f (e :: es) [] p) d := by
  refine ⟨fun s Q E S k => ?_⟩
  refine Call_ (hf.run s _ E S fun v h₁ tk₁ S₁ k₁ r₁ => ?_) (hc _)
  cases r₁
  have he' := he
  rw [List.all_cons, Bool.and_eq_true] at he'
  refine PyProof.Rows.callWith_type1 (ha.run p _ _ E S₁ fun vs h₂ tk₂ S₂ k₂ r₂ => ?_) (star_plain he'.1) (plain_args he'.2)
  refine hfn.run X.A _ Q E vs S.ok.ah (by have := S.ok.dep; walk_at "om") (by have := S.ok.un; walk_at "om") S₂.hp r₂ fun v h₃ tk₃ k₃ r₃ => ?_
  exact k _ _ _ (S₂.sub k₃) ((k₁.trans k₂).trans (Ke.of_sub k₃)) r₃
end

/-! ## comparisons of ints, bools, None -/
section
variable {G : Gx} {a b : Int}
theorem cmp_lt : Cmp G .Lt (.int a) (.int b) (decide (a < b)) := by
  constructor; intro A s Q E v w _ _ _ r1 r2 k; obtain ⟨_, rfl⟩ := r1.int_inv; obtain ⟨_, rfl⟩ := r2.int_inv; exact PyProof.Rows.lt_int k
theorem cmp_le : Cmp G .LtE (.int a) (.int b) (decide (a ≤ b)) := by
  constructor; intro A s Q E v w _ _ _ r1 r2 k; obtain ⟨_, rfl⟩ := r1.int_inv; obtain ⟨_, rfl⟩ := r2.int_inv; exact PyProof.Rows.le_int k
theorem cmp_gt : Cmp G .Gt (.int a) (.int b) (decide (b < a)) := by
  constructor; intro A s Q E v w _ _ _ r1 r2 k; obtain ⟨_, rfl⟩ := r1.int_inv; obtain ⟨_, rfl⟩ := r2.int_inv; exact PyProof.Rows.gt_int k
theorem cmp_ge : Cmp G .GtE (.int a) (.int b) (decide (b ≤ a)) := by
  constructor; intro A s Q E v w _ _ _ r1 r2 k; obtain ⟨_, rfl⟩ := r1.int_inv; obtain ⟨_, rfl⟩ := r2.int_inv; exact PyProof.Rows.ge_int k
theorem cmp_eq : Cmp G .Eq (.int a) (.int b) (decide (a = b)) := by
  constructor; intro A s Q E v w _ _ _ r1 r2 k; obtain ⟨_, rfl⟩ := r1.int_inv; obtain ⟨_, rfl⟩ := r2.int_inv
  exact PyProof.Rows.eq_int (by rw [show (a == b) = decide (a = b) from rfl]; exact k)
theorem cmp_ne : Cmp G .NotEq (.int a) (.int b) (decide (a ≠ b)) := by
  constructor; intro A s Q E v w _ _ _ r1 r2 k; obtain ⟨_, rfl⟩ := r1.int_inv; obtain ⟨_, rfl⟩ := r2.int_inv
  exact PyProof.Rows.ne_int (by rw [show (a != b) = decide (a ≠ b) from by by_cases h : a = b <;> simp [h, bne]]; exact k)
theorem cmp_neB {x y : Bool} : Cmp G .NotEq (.bool x) (.bool y) (x != y) := by
  constructor; intro A s Q E v w _ _ _ r1 r2 k; rw [r1.bool_inv, r2.bool_inv]; exact PyProof.Rows.ne_bool k
noncomputable def D.isNone : D → Bool
  | .none => true
  | _ => false
theorem cmp_is {d : D} : Cmp G .Is d .none d.isNone := by
  constructor; intro A s Q E v w _ _ _ r1 r2 k
  rw [r2.none_inv]
  cases r1 with
  | none => exact is_none_none k
  | _ => exact is_none_ne (by intro x; cases x) k
theorem cmp_isnot {d : D} : Cmp G .IsNot d .none (!d.isNone) := by
  constructor; intro A s Q E v w _ _ _ r1 r2 k
  rw [r2.none_inv]
  cases r1 with
  | none => exact isnot_none_none k
  | _ => exact isnot_none_ne (by intro x; cases x) k
end
end
section
/-! ## statements -/
section
variable {X : Cx} {σ : Lo} {μ : Mu}

theorem Post.mono_ks {μ₀ : Mu} {s s₁ : Shared} {Q : Flow → Shared → Prop} {o : Out} {h₁ : Heap} {tk₁ : Nat} (e : s₁ = { s with heap := h₁, toks := tk₁ }) (k : Ks X μ s.heap h₁) (p : Post X μ s Q o)
    (hm : ∀ q ∈ μ₀, q.1 ∈ μ.map (·.1) ∨ s.heap.get? q.1 = none) : Post X μ₀ s₁ Q o := by
  subst e
  have kk : ∀ {h'}, Ks X μ₀ h₁ h' → Ks X μ s.heap h' := fun k' b o hb hq e => by
    obtain ⟨sl, e1⟩ := k b o hb hq e
    refine (fun ⟨sl', e2⟩ => ⟨sl', e2⟩) (k' b _ hb (fun q hq' => ?_) e1)
    rcases hm q hq' with h | h
    · obtain ⟨q', h1, h2⟩ := List.mem_map.mp h
      rw [← h2]; exact hq q' h1
    · rintro rfl; rw [h] at e; cases e
  cases o with
  | next σ' μ' => exact fun h' tk S' k' => p h' tk S' (kk k')
  | cont σ' μ' => exact fun h' tk S' k' => p h' tk S' (kk k')
  | brk σ' μ' => exact fun h' tk S' k' => p h' tk S' (kk k')
  | ret d => exact p

theorem Post.same {s : Shared} {Q : Flow → Shared → Prop} {o : Out} {h₁ : Heap} {tk₁ : Nat} (k : Ks X μ s.heap h₁) (p : Post X μ s Q o) : Post X μ { s with heap := h₁, toks := tk₁ } Q o :=
  Post.mono_ks rfl k p fun q hq => .inl (List.mem_map.mpr ⟨q, hq, rfl⟩)

theorem Ks.refl (X : Cx) (μ : Mu) (h : Heap) : Ks X μ h h := fun _ o _ _ e => ⟨o.slots, e⟩

theorem es_nil : ES X σ μ [] (.next σ μ) := by
  refine ⟨fun s Q E S p => ?_⟩
  exact wpAny_execs_nil (p s.heap s.toks S (Ks.refl _ _ _))

/-- one statement and the rest, the owned lists as they are -/
theorem es_cons {st : Stmt} {rest : List Stmt} {σ' : Lo} {o : Out} (h : E1 X σ μ st (.next σ' μ)) (hr : ES X σ' μ rest o) : ES X σ μ (st :: rest) o := by
  refine ⟨fun s Q E S p => ?_⟩
  refine wpAny_execs_cons (h.run s _ E S ?_)
  intro h₁ tk₁ S₁ k₁
  exact hr.run _ Q E S₁ (p.same k₁)
theorem es_ret {e : Expr} {pos : Pos} {rest : List Stmt} {d : D} (h : EE X σ μ e d) : ES X σ μ (.Return (some e) pos :: rest) (.ret d) := by
  refine ⟨fun s Q E S p => ?_⟩
  refine wpAny_execs_cons (wpAny_Return_some (h.run s _ E S fun v h₁ tk₁ S₁ k₁ r₁ => ?_))
  obtain ⟨m, F, _⟩ := S₁.fr
  exact p v h₁ tk₁ F.keep S₁.us r₁
theorem es_pass {pos : Pos} : E1 X σ μ (.Pass pos) (.next σ μ) := by
  refine ⟨fun s Q E S p => ?_⟩
  exact wpAny_Pass (p s.heap s.toks S (Ks.refl _ _ _))

theorem St.ce_ke {h h' : Heap} (S : St X σ μ h) (k : Ke X h h') : Ce X h' := fun p hp => by
  obtain ⟨c, o, h1, h2, h3⟩ := S.ce p hp
  obtain ⟨sl, h4⟩ := k c o (by
    rintro rfl
    obtain ⟨m, F, _⟩ := S.fr
    obtain ⟨o', es, ep, q1, q2, _⟩ := F.ns
    obtain ⟨v, q3⟩ := h3.notDict
    rw [q1] at h2; cases h2; rw [q2] at q3; cases q3) h2
  exact ⟨c, _, h1, h4, h3.up (S.kq k)⟩
theorem St.us_ke {h h' : Heap} (S : St X σ μ h) (k : Ke X h h') : SubU X.hs h' := fun b o e => by
  obtain ⟨sl, e1⟩ := S.us b o e
  obtain ⟨sl', e2⟩ := k b _ (fun q => by rw [q, S.ok.hsL] at e; cases e) e1
  exact ⟨sl', e2⟩

theorem getElem?_set_ne {σ : Lo} {i j : Nat} {d : Option D} (h : i ≠ j) : (σ.set i d)[j]? = σ[j]? := List.getElem?_set_ne h

/-- a name stored -/
theorem store_ {x : Str} {v : Value} {d : D} {s : Shared} {Q : Unit → Shared → Prop} {E : Value → Shared → Prop} (i : Nat) (hn : X.names[i]? = some x) (S : St X σ μ s.heap) (r : Rv s.heap v d)
    (k : ∀ h' tk, St X (σ.set i (some d)) μ h' → Ke X s.heap h' → Q () { s with heap := h', toks := tk }) : wpAny X.g.M X.A (storeName X.env x v) Q E s := by
  obtain ⟨m, F, V⟩ := S.fr
  have hl : X.env.kindOf x = some .local := S.ok.loc x (List.mem_of_getElem? hn)
  refine wpAny_storeName_local hl (by rw [S.ok.el]; exact F.ns) (fun h' hns hs => ?_) (by rw [S.ok.fn]; rfl)
  rw [S.ok.el] at hns hs
  have ke : Ke X s.heap h' := fun b o hb e => ⟨o.slots, (hs.2 b hb).trans e⟩
  have kq := S.kq ke
  refine k h' _ ⟨S.ok, ⟨_, F.set hns hs, fun j y d' e1 e2 => ?_⟩, fun p hp => ?_, S.ce_ke ke, S.us_ke ke⟩ ke
  · by_cases hij : i = j
    · subst hij
      rw [hn] at e1; cases e1
      have : (σ.set i (some d))[i]? = some (some d) := by
        rw [List.getElem?_set_self']
        cases hc : σ[i]? with
        | none => rw [List.getElem?_set_self', hc] at e2; cases e2
        | some _ => rfl
      rw [this] at e2
      have e3 : d = d' := Option.some.inj (Option.some.inj e2)
      subst e3
      exact ⟨v, if_pos rfl, r.kq kq⟩
    · rw [getElem?_set_ne hij] at e2
      obtain ⟨u, hu, ru⟩ := V j y d' e1 e2
      have hne : y ≠ x := by
        rintro rfl
        have h1 := (List.getElem?_eq_some_iff.mp hn)
        have h2 := (List.getElem?_eq_some_iff.mp e1)
        obtain ⟨l1, q1⟩ := h1
        obtain ⟨l2, q2⟩ := h2
        exact hij ((List.getElem_inj S.ok.nd).mp (q1.trans q2.symm))
      exact ⟨u, by rw [if_neg hne]; exact hu, ru.kq kq⟩
  · obtain ⟨n1, n2, n3, vs, n, q1, q2⟩ := S.ow p hp
    exact ⟨n1, n2, n3, vs, n, (hs.2 _ n1).trans q1, q2.kq kq⟩

theorem es_set {x : Str} {e : Expr} {p pos : Pos} {d : D} (i : Nat) (hn : X.names[i]? = some x) (h : EE X σ μ e d) (hs : ∀ env, swapsWith e (some (.Name x p)) pos.line env = pure false) :
    E1 X σ μ (.Assign [.Name x p] e pos) (.next (σ.set i (some d)) μ) := by
  refine ⟨fun s Q E S k => ?_⟩
  refine wpAny_Assign_Name (h.run s _ E S fun v h₁ tk₁ S₁ k₁ r₁ => ?_) (hs _)
  refine store_ i hn S₁ r₁ fun h₂ tk₂ S₂ k₂ => ?_
  exact k _ _ S₂ (k₁.trans k₂).ks

/-! ### a tuple taken apart -/
noncomputable def setAll (σ : Lo) : List Nat → List D → Lo
  | i :: is, d :: ds => setAll (σ.set i (some d)) is ds
  | _, _ => σ

theorem setAll_length : ∀ (is : List Nat) (ds : List D) (σ : Lo), (setAll σ is ds).length = σ.length
  | [], _, _ => rfl
  | _ :: _, [], _ => rfl
  | i :: is, d :: ds, σ => by rw [setAll, setAll_length is ds, List.length_set]

theorem Rvs.head {h v vs d ds} (r : Rvs h (v :: vs) (d :: ds)) : Rv h v d := r.2 0 v d rfl rfl
theorem Rvs.tail {h v vs d ds} (r : Rvs h (v :: vs) (d :: ds)) : Rvs h vs ds := ⟨by have := r.1; simpa using this, fun i v' d' e1 e2 => r.2 (i + 1) v' d' (by simpa using e1) (by simpa using e2)⟩

theorem storeAll_ : ∀ (xs : List Str) (is : List Nat) (vs : List Value) (ds : List D) (σ : Lo) (s : Shared) (Q : Unit → Shared → Prop) (E : Value → Shared → Prop),
    (∀ (j : Nat) (x : Str) (i : Nat), xs[j]? = some x → is[j]? = some i → X.names[i]? = some x) → xs.length = is.length → is.length = ds.length → St X σ μ s.heap → Rvs s.heap vs ds →
    (∀ h' tk, St X (setAll σ is ds) μ h' → Ke X s.heap h' → Q () { s with heap := h', toks := tk }) →
    ∀ ts : List (Value → Sem Unit), ts.length = xs.length → (∀ (j : Nat) t x, ts[j]? = some t → xs[j]? = some x → ∀ v s Q E, wpAny X.g.M X.A (storeName X.env x v) Q E s → wpAny X.g.M X.A (t v) Q E s) →
    wpAny X.g.M X.A (assignInOrder ts vs) Q E s
  | [], [], _, [], σ, s, Q, E, _, _, _, S, _, k, [], _, _ => assignInOrder_nil (k _ s.toks S (Ke.refl _ _))
  | x :: xs, i :: is, [], d :: ds, _, _, _, _, _, _, _, _, r, _, _, _, _ => by have := r.1; simp at this
  | x :: xs, i :: is, v :: vs, d :: ds, σ, s, Q, E, hn, l1, l2, S, r, k, t :: ts, lt, ht => by
    refine assignInOrder_cons (ht 0 t x rfl rfl v s _ E (store_ i (hn 0 x i rfl rfl) S r.head fun h₁ tk₁ S₁ k₁ => ?_))
    refine storeAll_ xs is vs ds _ _ Q E (fun j y i' e1 e2 => hn (j + 1) y i' (by simpa using e1) (by simpa using e2)) (by simpa using l1) (by simpa using l2) S₁ (r.tail.kq (S.kq k₁)) (fun h₂ tk₂ S₂ k₂ => ?_) ts (by simpa using lt) (fun j t' y e1 e2 => ht (j + 1) t' y (by simpa using e1) (by simpa using e2))
    exact k _ _ S₂ (k₁.trans k₂)
  | [], [], _, [], _, _, _, _, _, _, _, _, _, _, _ :: _, lt, _ => by simp at lt
  | x :: xs, i :: is, v :: vs, d :: ds, _, _, _, _, _, _, _, _, _, _, [], lt, _ => by simp at lt
  | [], _ :: _, _, _, _, _, _, _, _, l, _, _, _, _, _, _, _ => by simp at l
  | _ :: _, [], _, _, _, _, _, _, _, l, _, _, _, _, _, _, _ => by simp at l
  | [], [], _, _ :: _, _, _, _, _, _, _, l, _, _, _, _, _, _ => by simp at l
  | _ :: _, _ :: _, _, [], _, _, _, _, _, _, l, _, _, _, _, _, _ => by simp at l

noncomputable def namesOf' : List Expr → Option (List Str)
  | [] => some []
  | .Name x _ :: r => (namesOf' r).map (x :: ·)
  | _ :: _ => none
theorem names_cons {e : Expr} {r : List Expr} {xs : List Str} (h : namesOf' (e :: r) = some xs) : ∃ x p ys, e = .Name x p ∧ namesOf' r = some ys ∧ xs = x :: ys := by
  unfold namesOf' at h
  split at h
  · rename_i q; cases q
  · rename_i x p r' q
    cases q
    cases hr : namesOf' r with
    | none => rw [hr] at h; cases h
    | some ys => rw [hr] at h; cases h; exact ⟨x, p, ys, rfl, rfl, rfl⟩
  · cases h
theorem names_each {env : Env} : ∀ {elts : List Expr} {xs : List Str}, namesOf' elts = some xs →
    (assignEach elts env).length = xs.length ∧ (assignEach elts env).findIdx? (·.1) = none ∧ elts.length = xs.length ∧
      ∀ (j : Nat) t x, ((assignEach elts env).map (·.2))[j]? = some t → xs[j]? = some x → ∃ p, t = assign (.Name x p) env
  | [], xs, h => by cases h; exact ⟨rfl, rfl, rfl, fun j t x e => by simp [assignEach] at e⟩
  | e :: r, xs, h => by
    obtain ⟨x, p, ys, rfl, hr, rfl⟩ := names_cons h
    obtain ⟨h1, h2, h3, h4⟩ := names_each (env := env) hr
    have e : assignEach (.Name x p :: r) env = (false, assign (.Name x p) env) :: assignEach r env := rfl
    rw [e]
    refine ⟨by simp [h1], ?_, by simp [h3], fun j t y e1 e2 => ?_⟩
    · rw [List.findIdx?_cons]; simp [h2]
    · cases j with
      | zero => simp at e1 e2; subst e1; subst e2; exact ⟨p, rfl⟩
      | succ j => simp at e1 e2; exact h4 j t y (by simpa using e1) e2

theorem Rv.tup_inv {h v ds} (r : Rv h v (.tup ds)) : ∃ a vs, v = .ref a ∧ IsTup h a vs.toArray ∧ Rvs h vs ds := by cases r with | tup a vs l ho hl hr => exact ⟨a, vs, rfl, ho, hl, hr⟩
theorem Rv.lst_inv {h v ds} (r : Rv h v (.lst ds)) : ∃ a vs, v = .ref a ∧ h.IsList a vs.toArray ∧ Rvs h vs ds := by cases r with | lst a vs l ho hl hr => exact ⟨a, vs, rfl, ho, hl, hr⟩

theorem es_unpack {elts : List Expr} {k : Nat} {tp pos : Pos} {e : Expr} {ds : List D} {xs : List Str} (is : List Nat) (hx : namesOf' elts = some xs)
    (hn : is.map (fun i => X.names[i]?) = xs.map some) (hd : is.length = ds.length) (h : EE X σ μ e (.tup ds))
    (hs : ∀ env, swapsWithSole [.Tuple elts k tp] e pos.line env = pure false) (hw : ∀ env, swappedStores [.Tuple elts k tp] e env = pure none) :
    E1 X σ μ (.Assign [.Tuple elts k tp] e pos) (.next (setAll σ is ds) μ) := by
  refine ⟨fun s Q E S kk => ?_⟩
  refine PyProof.Rows.Assign_Tuple (h.run s _ E S fun v h₁ tk₁ S₁ k₁ r₁ => ?_) (hs _) (hw _)
  obtain ⟨a, vs, rfl, ht, rs⟩ := r₁.tup_inv
  obtain ⟨n1, n2, n3, n4⟩ := names_each (env := X.env) hx
  have hl : xs.length = is.length := by have := congrArg List.length hn; simpa using this.symm
  refine assign_Tuple_tuple S₁.ok.ah ht (by rw [n1, List.size_toArray, rs.len, ← hd, hl]) n2 fun h₂ he => ?_
  have sub : Sub h₁ h₂ := fun b o e => he b o (Nat.ne_of_lt (Heap.lt_size e)) e
  refine storeAll_ (μ := μ) xs is vs ds σ _ _ E (fun j x i e1 e2 => ?_) hl hd (S₁.sub sub) (rs.kq sub.kq) (fun h₃ tk₃ S₃ k₃ => ?_) _ (by rw [List.length_map]; exact n1) (fun j t x e1 e2 v s' Q' E' h' => ?_)
  · have := congrArg (·[j]?) hn
    simp only [List.getElem?_map, e1, e2, Option.map_some] at this
    exact Option.some.inj this
  · exact kk _ _ S₃ ((k₁.trans (Ke.of_sub sub)).trans k₃).ks
  · obtain ⟨p, rfl⟩ := n4 j t x e1 e2
    exact PyProof.Rows.assign_Name h'

/-- the same, where the machine stores from the right -/
theorem es_unpackS {elts : List Expr} {k : Nat} {tp pos : Pos} {e : Expr} {ds : List D} {xs : List Str} (is : List Nat) (_hx : namesOf' elts = some xs)
    (hn : is.map (fun i => X.names[i]?) = xs.map some) (hd : is.length = ds.length) (h : EE X σ μ e (.tup ds))
    (hs : ∀ env, swapsWithSole [.Tuple elts k tp] e pos.line env = pure false) (hw : swappedStores [.Tuple elts k tp] e X.env = pure (some xs)) :
    E1 X σ μ (.Assign [.Tuple elts k tp] e pos) (.next (setAll σ is.reverse ds.reverse) μ) := by
  refine ⟨fun s Q E S kk => ?_⟩
  have hl : xs.length = is.length := by have := congrArg List.length hn; simpa using this.symm
  refine PyProof.Rows.Assign_Tuple_swapped (names := xs) (h.run s _ E S fun v h₁ tk₁ S₁ k₁ r₁ => ?_) (hs _) hw
  obtain ⟨a, vs, rfl, ht, rs⟩ := r₁.tup_inv
  have hvl : xs.length = vs.toArray.size := by rw [List.size_toArray, rs.len, ← hd, hl]
  rw [hvl]
  refine unpackItems_tuple S₁.ok.ah ht fun h₂ he => ?_
  have sub : Sub h₁ h₂ := fun b o e => he b o (Nat.ne_of_lt (Heap.lt_size e)) e
  have rs' : Rvs h₂ vs.reverse ds.reverse := by
    have r' := rs.kq sub.kq
    refine ⟨by simp [r'.1], fun i v d e1 e2 => ?_⟩
    have hi : i < vs.length := by have := (List.getElem?_eq_some_iff.mp e1).1; simpa using this
    have hi2 : i < ds.length := by rw [← r'.1]; exact hi
    rw [List.getElem?_reverse hi] at e1
    rw [List.getElem?_reverse hi2, ← r'.1] at e2
    exact r'.2 _ v d e1 e2
  have hnr : is.reverse.map (fun i => X.names[i]?) = xs.reverse.map some := by rw [List.map_reverse, hn, List.map_reverse]
  show wpAny _ _ (assignInOrder (xs.reverse.map fun n => bindName X.env n) vs.reverse) _ _ _
  refine storeAll_ (μ := μ) xs.reverse is.reverse vs.reverse ds.reverse σ _ _ E (fun j x i e1 e2 => ?_) (by simp [hl]) (by simp [hd]) (S₁.sub sub) rs' (fun h₃ tk₃ S₃ k₃ => ?_) _ (by simp) (fun j t x e1 e2 v s' Q' E' h' => ?_)
  · have := congrArg (·[j]?) hnr
    simp only [List.getElem?_map, e1, e2, Option.map_some] at this
    exact Option.some.inj this
  · exact kk _ _ S₃ ((k₁.trans (Ke.of_sub sub)).trans k₃).ks
  · rw [List.getElem?_map, e2] at e1
    have := Option.some.inj e1
    subst this
    exact wpAny_bindName h'

/-! ### if -/
theorem execs_app {env : Env} : ∀ (a b : List Stmt), execs (a ++ b) env = (do match ← execs a env with | .next => execs b env | f => pure f)
  | [], b => by show execs b env = (pure Flow.next >>= _); rfl
  | st :: a, b => by
    rw [List.cons_append, execs_cons, execs_cons, execs_app a b]
    rw [bind_assoc]
    congr 1
    funext f
    cases f <;> rfl

theorem execs_if {env : Env} {t : Expr} {a b rest : List Stmt} {pos : Pos} : execs (.If t a b pos :: rest) env = (do standAt pos; let c ← isTrue t env (eval t env); if c then execs (a ++ rest) env else execs (b ++ rest) env) := by
  rw [execs_cons, exec_If, execs_app, execs_app]
  simp only [bind_assoc]
  congr 1
  funext _
  congr 1
  funext c
  cases c <;> rfl

theorem es_if {t : Expr} {a b rest : List Stmt} {pos : Pos} {c : Bool} {o : Out} (ht : EB X σ μ t c) (h1 : c = true → ES X σ μ (a ++ rest) o) (h2 : c = false → ES X σ μ (b ++ rest) o) : ES X σ μ (.If t a b pos :: rest) o := by
  refine ⟨fun s Q E S p => ?_⟩
  rw [execs_if]
  refine wpAny_bind (wpAny_standAt (wpAny_bind (ht.run s _ E S fun h₁ tk₁ S₁ k₁ => ?_)))
  cases c with
  | true => exact (h1 rfl).run _ Q E S₁ (p.same k₁.ks)
  | false => exact (h2 rfl).run _ Q E S₁ (p.same k₁.ks)

/-- a call made for what it does not give back -/
theorem es_expr {e : Expr} {pos : Pos} (h : EE X σ μ e .none) (hs : ∀ env, swapsWith e none pos.line env = pure false) (hi : interactive X.env = false) : E1 X σ μ (.Expr e pos) (.next σ μ) := by
  refine ⟨fun s Q E S k => ?_⟩
  refine wpAny_Expr (h.run s _ E S fun v h₁ tk₁ S₁ k₁ r₁ => ?_) hi (hs _)
  rw [r₁.none_inv]
  exact k _ _ S₁ k₁.ks

/-! ### while -/
/-- the loop's own run -/
structure EW (X : Cx) (σ : Lo) (μ : Mu) (t : Expr) (b : List Stmt) (o : Out) : Prop where
  run : ∀ (s : Shared) (R : Result → Shared → Prop), St X σ μ s.heap → Post X μ s (fun f s' => R (.ok f) s') o → codeAny X.g.M X.A (.whileLoop t b [] X.env) R s

theorem ew_step {t : Expr} {b : List Stmt} {R : Result → Shared → Prop} {s : Shared} (h : wpAny X.g.M X.A (isTrue t X.env (eval t X.env)) (fun c s₂ =>
        if c then wpAny X.g.M X.A (execs b X.env) (fun f s₃ => match f with
            | .next | .cont => codeAny X.g.M X.A (.whileLoop t b [] X.env) R s₃
            | .brk => R (.ok .next) s₃
            | .ret v => R (.ok (.ret v)) s₃) (notedBy X.g.M X.A X.env fun e s' => R (.error e) s') s₂
        else R (.ok .next) s₂) (notedBy X.g.M X.A X.env fun e s' => R (.error e) s') s) : codeAny X.g.M X.A (.whileLoop t b [] X.env) R s := by
  refine codeAny_of_tree ?_
  show wpAny _ X.A ((whileTurn t b [] X.env).onRaise (fun x => do noteFrame x X.env; theTreesLotGoes x)) _ _ s
  refine wpAny_noted ?_
  simp only [whileTurn]
  refine wpAny_bind (wpAny_mono h (fun c s₂ h₂ => ?_) fun _ _ h' => h')
  cases c with
  | false =>
    simp only [Bool.false_eq_true, if_false] at h₂ ⊢
    exact wpAny_bind (wpAny_execs_nil (wpAny_pure h₂))
  | true =>
    simp only [if_true] at h₂ ⊢
    refine wpAny_bind (wpAny_mono h₂ (fun f s₃ h₃ => ?_) fun _ _ h' => h')
    cases f with
    | next => exact wpAny_pure ⟨rfl, h₃⟩
    | cont => exact wpAny_pure ⟨rfl, h₃⟩
    | brk => exact wpAny_pure h₃
    | ret v => exact wpAny_pure h₃

theorem ew_false {t : Expr} {b : List Stmt} (h : EB X σ μ t false) : EW X σ μ t b (.next σ μ) := by
  refine ⟨fun s R S p => ?_⟩
  refine ew_step (h.run s _ _ S fun h₁ tk₁ S₁ k₁ => ?_)
  simp only [Bool.false_eq_true, if_false]
  exact p _ _ S₁ k₁.ks
/-- a turn, and on -/
theorem ew_next {t : Expr} {b : List Stmt} {σ' : Lo} {o : Out} (h : EB X σ μ t true) (hb : ES X σ μ b (.next σ' μ)) (hw : EW X σ' μ t b o) : EW X σ μ t b o := by
  refine ⟨fun s R S p => ?_⟩
  refine ew_step (h.run s _ _ S fun h₁ tk₁ S₁ k₁ => ?_)
  simp only [if_true]
  refine hb.run _ _ _ S₁ fun h₂ tk₂ S₂ k₂ => ?_
  exact hw.run _ R S₂ (Post.same k₂ (p.same k₁.ks))
theorem ew_ret {t : Expr} {b : List Stmt} {d : D} (h : EB X σ μ t true) (hb : ES X σ μ b (.ret d)) : EW X σ μ t b (.ret d) := by
  refine ⟨fun s R S p => ?_⟩
  refine ew_step (h.run s _ _ S fun h₁ tk₁ S₁ k₁ => ?_)
  simp only [if_true]
  exact hb.run _ _ _ S₁ fun v h₂ tk₂ k₂ u₂ r₂ => p v h₂ tk₂ k₂ u₂ r₂

theorem es_while {t : Expr} {b rest : List Stmt} {pos : Pos} {σ' : Lo} {o : Out} (hw : EW X σ μ t b (.next σ' μ)) (hr : ES X σ' μ rest o) : ES X σ μ (.While t b [] pos :: rest) o := by
  refine ⟨fun s Q E S p => ?_⟩
  refine wpAny_execs_cons (wpAny_While (hw.run s _ S ?_))
  intro h₁ tk₁ S₁ k₁
  exact hr.run _ Q E S₁ (p.same k₁)
theorem es_while_ret {t : Expr} {b rest : List Stmt} {pos : Pos} {d : D} (hw : EW X σ μ t b (.ret d)) : ES X σ μ (.While t b [] pos :: rest) (.ret d) := by
  refine ⟨fun s Q E S p => ?_⟩
  refine wpAny_execs_cons (wpAny_While (hw.run s _ S ?_))
  intro v h₁ tk₁ k₁ u₁ r₁
  exact p v h₁ tk₁ k₁ u₁ r₁

/-! ### for, over items -/
inductive FC (X : Cx) (i : Nat) (b : List Stmt) : List D → Lo → Out → Prop
  | nil (σ : Lo) : FC X i b [] σ (.next σ [])
  | step {d : D} {ds : List D} {σ σ' : Lo} {o : Out} (h : ES X (σ.set i (some d)) [] b (.next σ' [])) (r : FC X i b ds σ' o) : FC X i b (d :: ds) σ o
  | ret {d r : D} {ds : List D} {σ : Lo} (h : ES X (σ.set i (some d)) [] b (.ret r)) : FC X i b (d :: ds) σ (.ret r)

/-- an iterator that hands out the values vs in turn -/
structure Hands (X : Cx) (it : Addr) (vs : List Value) (st : Nat → Heap → Prop) : Prop where
  keep : ∀ j h h', Ke X h h' → st j h → st j h'
  more : ∀ (A : Around) (j : Nat) (s : Shared) (Q : Option Value → Shared → Prop) (E : Value → Shared → Prop) (v : Value), A.handled = none → st j s.heap → vs[j]? = some v →
    (∀ h' tk, st (j + 1) h' → Heap.ExtBut it s.heap h' → Q (some v) { s with heap := h', toks := tk }) → wpAny X.g.M A (pyNext (.ref it)) Q E s
  done : ∀ (A : Around) (j : Nat) (s : Shared) (Q : Option Value → Shared → Prop) (E : Value → Shared → Prop), A.handled = none → st j s.heap → vs[j]? = none →
    (∀ h' tk, Heap.ExtBut it s.heap h' → Q none { s with heap := h', toks := tk }) → wpAny X.g.M A (pyNext (.ref it)) Q E s

theorem ef_step {x : Str} {px : Pos} {it : Value} {b : List Stmt} {R : Result → Shared → Prop} {s : Shared} (h : wpAny X.g.M X.A (pyNext it) (fun r s₁ => match r with
      | none => R (.ok .next) s₁
      | some v => wpAny X.g.M X.A (storeName X.env x v) (fun _ s₂ => wpAny X.g.M X.A (execs b X.env) (fun f s₃ => match f with
          | .next | .cont => codeAny X.g.M X.A (.forLoop (.Name x px) it b [] X.env) R s₃
          | .brk => R (.ok .next) s₃
          | .ret v => R (.ok (.ret v)) s₃) (notedBy X.g.M X.A X.env fun e s' => R (.error e) s') s₂) (notedBy X.g.M X.A X.env fun e s' => R (.error e) s') s₁) (notedBy X.g.M X.A X.env fun e s' => R (.error e) s') s) :
    codeAny X.g.M X.A (.forLoop (.Name x px) it b [] X.env) R s := by
  refine codeAny_of_tree ?_
  show wpAny _ X.A ((forTurn (.Name x px) it b [] X.env).onRaise (fun x => do noteFrame x X.env; theTreesLotGoes x)) _ _ s
  refine wpAny_noted ?_
  simp only [forTurn]
  refine wpAny_bind (wpAny_standAt (wpAny_bind (wpAny_onRaise (wpAny_mono h (fun r s₁ h₁ => ?_) fun _ _ h' => wpAny_standAt h'))))
  cases r with
  | none => exact wpAny_pure ⟨rfl, codeAny_block (wpAny_execs_nil h₁)⟩
  | some v =>
    refine wpAny_bind (wpAny_of_eq rfl ?_)
    refine wpAny_bind (wpAny_mono (PyProof.Rows.assign_Name h₁) (fun _ s₂ h₂ => wpAny_bind (wpAny_mono h₂ (fun f s₃ h₃ => ?_) fun _ _ h' => h')) fun _ _ h' => h')
    cases f with
    | next => exact wpAny_pure ⟨rfl, h₃⟩
    | cont => exact wpAny_pure ⟨rfl, h₃⟩
    | brk => exact wpAny_pure h₃
    | ret v => exact wpAny_pure h₃

theorem Post.nil {σ' : Lo} {s : Shared} {Q : Flow → Shared → Prop} {o : Out} {h₁ : Heap} {tk₁ : Nat} (k : Ke X s.heap h₁) (p : Post X [] s Q o) : Post X [] { s with heap := h₁, toks := tk₁ } Q o := p.same k.ks

/-- what a loop's body may rely on: the iterator is another object -/
noncomputable def PostI (X : Cx) (it : Addr) (s : Shared) (Q : Flow → Shared → Prop) : Out → Prop
  | .next σ' μ' => ∀ h' tk, St X σ' μ' h' → (∀ b o, b ≠ X.L → b ≠ it → s.heap.get? b = some o → ∃ sl, h'.get? b = some { o with slots := sl }) → Q .next { s with heap := h', toks := tk }
  | .cont σ' μ' => ∀ h' tk, St X σ' μ' h' → (∀ b o, b ≠ X.L → b ≠ it → s.heap.get? b = some o → ∃ sl, h'.get? b = some { o with slots := sl }) → Q .cont { s with heap := h', toks := tk }
  | .brk σ' μ' => ∀ h' tk, St X σ' μ' h' → (∀ b o, b ≠ X.L → b ≠ it → s.heap.get? b = some o → ∃ sl, h'.get? b = some { o with slots := sl }) → Q .brk { s with heap := h', toks := tk }
  | .ret d => ∀ v h' tk, Sub X.h₀ h' → SubU X.hs h' → Rv h' v d → Q (.ret v) { s with heap := h', toks := tk }

/-- the frame's state does not hang on an object that it does not speak of -/
theorem St.but {h h' : Heap} {it : Addr} (S : St X σ [] h) (hL : it ≠ X.L) (h0 : X.hs.get? it = none) (hit : ∃ o, h.get? it = some o ∧ ∃ vs, o.data = .fields vs) (k : Heap.ExtBut it h h') : St X σ [] h' := by
  obtain ⟨m, F, V⟩ := S.fr
  obtain ⟨oi, hoi, fvs, hfs⟩ := hit
  have hns : ¬ ∃ items n, oi.data = .seq items n := by rintro ⟨_, _, q⟩; rw [hfs] at q; cases q
  have kq : Kq h h' := fun b o hs e => ⟨o.slots, k b o (fun q => by rw [q, hoi] at e; cases e; exact hns hs) e⟩
  have h00 := S.ok.dom _ h0
  refine ⟨S.ok, ⟨m, ⟨F.ns.extBut k hL.symm, fun b o e => k b o (fun q => by rw [q, h00] at e; cases e) (F.keep b o e), F.above⟩, fun i x d e1 e2 => ?_⟩, fun p hp => (by cases hp), fun p hp => ?_, fun b o e => ?_⟩
  · obtain ⟨v, hv, r⟩ := V i x d e1 e2
    exact ⟨v, hv, r.kq kq⟩
  · obtain ⟨c, o, h1, h2, h3⟩ := S.ce p hp
    obtain ⟨v, q3⟩ := h3.notDict
    exact ⟨c, o, h1, k c o (fun q => by rw [q, hoi] at h2; cases h2; rw [hfs] at q3; cases q3) h2, h3.up (sl := o.slots) kq⟩
  · obtain ⟨sl, e1⟩ := S.us b o e
    exact ⟨sl, k b _ (fun q => by rw [q, h0] at e; cases e) e1⟩

theorem ef_run {x : Str} {px : Pos} {it : Addr} {b : List Stmt} {st : Nat → Heap → Prop} {vs : List Value} (i : Nat) (hn : X.names[i]? = some x) (H : Hands X it vs st) (hL : it ≠ X.L) (h0 : X.hs.get? it = none)
    (hit : ∀ j h, st j h → ∃ o, h.get? it = some o ∧ ∃ vs, o.data = .fields vs) :
    ∀ (ds : List D) (j : Nat) (σ : Lo) (o : Out) (s : Shared) (R : Result → Shared → Prop), FC X i b ds σ o → St X σ [] s.heap → st j s.heap → Rvs s.heap (vs.drop j) ds → PostI X it s (fun f s' => R (.ok f) s') o →
      codeAny X.g.M X.A (.forLoop (.Name x px) (.ref it) b [] X.env) R s := by
  intro ds
  induction ds with
  | nil =>
    intro j σ o s R hc S hj r p
    cases hc
    refine ef_step (H.done X.A j s _ _ S.ok.ah hj ?_ fun h₁ tk₁ k₁ => ?_)
    · have := r.1
      simp only [List.length_nil, List.length_drop] at this
      exact List.getElem?_eq_none_iff.mpr (by walk_at "om")
    · exact p _ _ (S.but hL h0 (hit j _ hj) k₁) fun b o hb hi e => ⟨o.slots, k₁ b o hi e⟩
  | cons d ds ih =>
    intro j σ o s R hc S hj r p
    have hlen : j < vs.length := by have := r.1; simp only [List.length_drop, List.length_cons] at this; walk_at "om"
    obtain ⟨v, hv⟩ : ∃ v, vs[j]? = some v := ⟨_, List.getElem?_eq_getElem hlen⟩
    have hdrop : vs.drop j = v :: vs.drop (j + 1) := by
      rw [List.drop_eq_getElem_cons hlen]
      congr 1
      rw [List.getElem?_eq_getElem hlen] at hv
      exact Option.some.inj hv
    rw [hdrop] at r
    refine ef_step (H.more X.A j s _ _ v S.ok.ah hj hv fun h₁ tk₁ j₁ k₁ => ?_)
    have hnot := hit j _ hj
    have S₁ := S.but hL h0 hnot k₁
    have kq₁ : Kq s.heap h₁ := fun b o hs e => ⟨o.slots, k₁ b o (fun q => by
      obtain ⟨oi, hoi, fvs, hfs⟩ := hnot
      obtain ⟨its, en, hse⟩ := hs
      rw [q, hoi] at e; cases e; rw [hfs] at hse; cases hse) e⟩
    have r₁ := r.kq kq₁
    refine store_ (s := { s with heap := h₁, toks := tk₁ }) i hn S₁ r₁.head fun h₂ tk₂ S₂ k₂ => ?_
    have r₂ := r₁.tail.kq (S₁.kq k₂)
    have keepI : ∀ {h'}, Ke X h₂ h' → ∀ b o, b ≠ X.L → b ≠ it → s.heap.get? b = some o → ∃ sl, h'.get? b = some { o with slots := sl } := fun k' b o hb hi e => by
      obtain ⟨sl, e2⟩ := k₂ b o hb (k₁ b o hi e)
      obtain ⟨sl', e3⟩ := k' b _ hb e2
      exact ⟨sl', e3⟩
    have two : ∀ {h₃ h' : Heap}, Ke X h₂ h₃ → (∀ b o, b ≠ X.L → b ≠ it → h₃.get? b = some o → ∃ sl, h'.get? b = some { o with slots := sl }) → ∀ b o, b ≠ X.L → b ≠ it → s.heap.get? b = some o → ∃ sl, h'.get? b = some { o with slots := sl } := fun k' k'' b o hb hi e => by
      obtain ⟨sl, e2⟩ := keepI k' b o hb hi e
      obtain ⟨sl', e3⟩ := k'' b _ hb hi e2
      exact ⟨sl', e3⟩
    cases hc with
    | step hb hr =>
      refine hb.run _ _ _ S₂ fun h₃ tk₃ S₃ k₃ => ?_
      have k₃' : Ke X h₂ h₃ := fun b o hb e => k₃ b o hb (fun _ hq => by cases hq) e
      refine ih (j + 1) _ _ _ R hr S₃ (H.keep _ _ _ k₃' (H.keep _ _ _ k₂ j₁)) (r₂.kq (S₂.kq k₃')) ?_
      cases o with
      | next σ' μ' => exact fun h' tk S' k' => p h' tk S' (two k₃' k')
      | cont σ' μ' => exact fun h' tk S' k' => p h' tk S' (two k₃' k')
      | brk σ' μ' => exact fun h' tk S' k' => p h' tk S' (two k₃' k')
      | ret d => exact p
    | ret hb => exact hb.run _ _ _ S₂ fun v h₃ tk₃ k₃ u₃ r₃ => p v h₃ tk₃ k₃ u₃ r₃

/-! the three kinds of iterators -/
theorem hands_tup {it t : Addr} {vs : List Value} (h1 : it ≠ X.L) (h2 : t ≠ X.L) (h3 : t ≠ it) : Hands X it vs (fun j h => IsTupIter h it t j ∧ IsTup h t vs.toArray) where
  keep := fun j h h' k ⟨a, b⟩ => ⟨(let ⟨o, ho, r⟩ := a; let ⟨_, e⟩ := k _ _ h1 ho; ⟨_, e, r⟩), (let ⟨o, ho, r⟩ := b; let ⟨_, e⟩ := k _ _ h2 ho; ⟨_, e, r⟩)⟩
  more := fun A j s Q E v _ ⟨a, b⟩ hv k => next_tuple_item a b (by simpa using hv) fun h' a' hs => k h' s.toks ⟨a', b.extBut hs.extBut h3⟩ hs.extBut
  done := fun A j s Q E hh ⟨a, b⟩ hv k => next_tuple_end hh a b (by simpa using hv) fun h' he => k h' s.toks he
theorem hands_lst {it t : Addr} {vs : List Value} (h1 : it ≠ X.L) (h2 : t ≠ X.L) (h3 : t ≠ it) : Hands X it vs (fun j h => h.IsListIter it t j ∧ h.IsList t vs.toArray) where
  keep := fun j h h' k ⟨a, b⟩ => ⟨(let ⟨o, ho, r⟩ := a; let ⟨_, e⟩ := k _ _ h1 ho; ⟨_, e, r⟩), (let ⟨o, ho, r⟩ := b; let ⟨_, e⟩ := k _ _ h2 ho; ⟨_, e, r⟩)⟩
  more := fun A j s Q E v _ ⟨a, b⟩ hv k => wpAny_pyNext_list_item a b (by simpa using hv) fun h' a' hs => k h' s.toks ⟨a', b.extBut hs.extBut h3⟩ hs.extBut
  done := fun A j s Q E hh ⟨a, b⟩ hv k => wpAny_pyNext_list_end hh a b (by simpa using hv) fun h' he => k h' s.toks he

theorem St.L_lt {h : Heap} (S : St X σ μ h) : X.L < h.objs.size := by obtain ⟨m, F, _⟩ := S.fr; exact F.ns.lt
theorem St.fresh0 {h : Heap} (S : St X σ μ h) : X.hs.get? h.objs.size = none := by
  cases e : X.hs.get? h.objs.size with
  | none => rfl
  | some o =>
    obtain ⟨sl, e1⟩ := S.us _ _ e
    exact absurd (Heap.lt_size e1) (Nat.lt_irrefl _)
theorem St.tupL {h : Heap} (S : St X σ μ h) {t : Addr} {vs : Array Value} (x : IsTup h t vs) : t ≠ X.L := by
  obtain ⟨m, F, _⟩ := S.fr
  obtain ⟨o, ho, _, n, hd⟩ := x
  exact Fr.notSeq F ⟨_, n, hd⟩ ho
theorem St.lstL {h : Heap} (S : St X σ μ h) {t : Addr} {vs : Array Value} (x : h.IsList t vs) : t ≠ X.L := by
  obtain ⟨m, F, _⟩ := S.fr
  obtain ⟨o, ho, _, n, hd⟩ := x
  exact Fr.notSeq F ⟨_, n, hd⟩ ho

theorem es_for_tup {x : Str} {px pos : Pos} {e : Expr} {b rest : List Stmt} {ds : List D} {σ' : Lo} {o : Out} (i : Nat) (hn : X.names[i]? = some x) (h : EE X σ [] e (.tup ds)) (hc : FC X i b ds σ (.next σ' []))
    (hr : ES X σ' [] rest o) (hs : ∀ env x, foldedSetIterable e env x = pure x) : ES X σ [] (.For (.Name x px) e b [] pos :: rest) o := by
  refine ⟨fun s Q E S p => ?_⟩
  refine wpAny_execs_cons (wpAny_For (h.run s _ E S fun v h₁ tk₁ S₁ k₁ r₁ => ?_) (hs _))
  obtain ⟨t, vs, rfl, ht, rs⟩ := r₁.tup_inv
  refine iter_tuple ht ?_
  have htl := ht.lt
  have sub := Sub.push (h := h₁) { cls := .type "tuple_iterator", data := .fields #[.ref t, .int 0 0] }
  refine ef_run i hn (hands_tup (t := t) (vs := vs) (Nat.ne_of_gt S₁.L_lt) (S₁.tupL ht) (Nat.ne_of_lt htl)) (Nat.ne_of_gt S₁.L_lt) S₁.fresh0 ?_ ds 0 σ _ _ _ hc (S₁.sub sub) ⟨⟨_, Heap.get?_push_size _ rfl, rfl, rfl⟩, ht.push _⟩ (rs.kq sub.kq) ?_
  · rintro j h ⟨⟨o', ho, _, hd⟩, _⟩
    exact ⟨o', ho, _, hd⟩
  · intro h₃ tk₃ S₃ k₃
    refine hr.run _ Q E S₃ ?_
    refine Post.same (X := X) (μ := []) (s := s) (h₁ := h₃) (tk₁ := tk₃) ?_ p
    intro b' o' hb _ e'
    obtain ⟨sl, e1⟩ := k₁ b' o' hb e'
    obtain ⟨sl', e2⟩ := k₃ b' _ hb (Nat.ne_of_lt (Heap.lt_size e1)) (sub _ _ e1)
    exact ⟨sl', e2⟩
theorem es_for_lst {x : Str} {px pos : Pos} {e : Expr} {b rest : List Stmt} {ds : List D} {σ' : Lo} {o : Out} (i : Nat) (hn : X.names[i]? = some x) (h : EE X σ [] e (.lst ds)) (hc : FC X i b ds σ (.next σ' []))
    (hr : ES X σ' [] rest o) (hs : ∀ env x, foldedSetIterable e env x = pure x) : ES X σ [] (.For (.Name x px) e b [] pos :: rest) o := by
  refine ⟨fun s Q E S p => ?_⟩
  refine wpAny_execs_cons (wpAny_For (h.run s _ E S fun v h₁ tk₁ S₁ k₁ r₁ => ?_) (hs _))
  obtain ⟨t, vs, rfl, ht, rs⟩ := r₁.lst_inv
  refine wpAny_pyIter_list ht ?_
  have htl : t < h₁.objs.size := by obtain ⟨o', ho, _⟩ := ht; exact Heap.lt_size ho
  have sub := Sub.push (h := h₁) { cls := .type "list_iterator", data := .fields #[.ref t, .int 0 0] }
  refine ef_run i hn (hands_lst (t := t) (vs := vs) (Nat.ne_of_gt S₁.L_lt) (S₁.lstL ht) (Nat.ne_of_lt htl)) (Nat.ne_of_gt S₁.L_lt) S₁.fresh0 ?_ ds 0 σ _ _ _ hc (S₁.sub sub) ⟨⟨_, Heap.get?_push_size _ rfl, rfl, rfl⟩, ht.push _⟩ (rs.kq sub.kq) ?_
  · rintro j h ⟨⟨o', ho, _, hd⟩, _⟩
    exact ⟨o', ho, _, hd⟩
  · intro h₃ tk₃ S₃ k₃
    refine hr.run _ Q E S₃ ?_
    refine Post.same (X := X) (μ := []) (s := s) (h₁ := h₃) (tk₁ := tk₃) ?_ p
    intro b' o' hb _ e'
    obtain ⟨sl, e1⟩ := k₁ b' o' hb e'
    obtain ⟨sl', e2⟩ := k₃ b' _ hb (Nat.ne_of_lt (Heap.lt_size e1)) (sub _ _ e1)
    exact ⟨sl', e2⟩

theorem es_for_tup_ex {x : Str} {px pos : Pos} {e : Expr} {b rest : List Stmt} {ds : List D} {o : Out} (i : Nat) (hn : X.names[i]? = some x) (h : EE X σ [] e (.tup ds))
    (hc : ∃ σ', FC X i b ds σ (.next σ' []) ∧ ES X σ' [] rest o) (hs : ∀ env x, foldedSetIterable e env x = pure x) : ES X σ [] (.For (.Name x px) e b [] pos :: rest) o :=
  let ⟨_, h1, h2⟩ := hc; es_for_tup i hn h h1 h2 hs
theorem es_for_lst_ex {x : Str} {px pos : Pos} {e : Expr} {b rest : List Stmt} {ds : List D} {o : Out} (i : Nat) (hn : X.names[i]? = some x) (h : EE X σ [] e (.lst ds))
    (hc : ∃ σ', FC X i b ds σ (.next σ' []) ∧ ES X σ' [] rest o) (hs : ∀ env x, foldedSetIterable e env x = pure x) : ES X σ [] (.For (.Name x px) e b [] pos :: rest) o :=
  let ⟨_, h1, h2⟩ := hc; es_for_lst i hn h h1 h2 hs
theorem es_while_ex {t : Expr} {b rest : List Stmt} {pos : Pos} {o : Out} (hw : ∃ σ', EW X σ μ t b (.next σ' μ) ∧ ES X σ' μ rest o) : ES X σ μ (.While t b [] pos :: rest) o :=
  let ⟨_, h1, h2⟩ := hw; es_while h1 h2
end
end
section
/-! ## a def is called -/
noncomputable def fdOf (K : Frag) (a : Addr) : FuncData := match K.lookup a with
  | some ⟨_, _, .func fd, _⟩ => fd
  | _ => default
noncomputable def bodyOf (fd : FuncData) : List Stmt := match fd.body with
  | .stmts b => b
  | _ => []
noncomputable def isBody (fd : FuncData) : Bool := match fd.body with
  | .stmts _ => true
  | _ => false
theorem fd_at {K : Frag} {h : Heap} (x : K.In h) {a : Addr} (e : isFn K a = true) : ∃ o, h.get? a = some o ∧ o.data = .func (fdOf K a) := by
  unfold isFn at e
  unfold fdOf
  cases ho : K.lookup a with
  | none => rw [ho] at e; cases e
  | some o =>
    rw [ho] at e
    obtain ⟨c, d, dt, sl⟩ := o
    cases dt <;> first | exact ⟨_, x _ _ ho, rfl⟩ | cases e
theorem body_is {fd : FuncData} (e : isBody fd = true) : fd.body = .stmts (bodyOf fd) := by
  unfold isBody at e
  unfold bodyOf
  split at e
  · rename_i b hb; rw [hb]
  · cases e

noncomputable def start (k : Nat) (ds : List D) : Lo := ds.map some ++ List.replicate (k - ds.length) none

theorem vs1 {P : List Value → Prop} (h : ∀ a, P [a]) (vs : List Value) (l : vs.length = 1) : P vs := by
  obtain ⟨a, rfl⟩ := List.length_eq_one_iff.mp l; exact h a
theorem vs_cons {P : List Value → Prop} {n : Nat} (h : ∀ a (vs : List Value), vs.length = n → P (a :: vs)) (vs : List Value) (l : vs.length = n + 1) : P vs := by
  cases vs with
  | nil => cases l
  | cons a vs => exact h a vs (Nat.succ.inj l)
theorem vs2 {P : List Value → Prop} (h : ∀ a b, P [a, b]) : ∀ vs : List Value, vs.length = 2 → P vs := vs_cons fun a => vs1 (P := fun l => P (a :: l)) (h a)
theorem vs3 {P : List Value → Prop} (h : ∀ a b c, P [a, b, c]) : ∀ vs : List Value, vs.length = 3 → P vs := vs_cons fun a => vs2 (P := fun l => P (a :: l)) (h a)
theorem vs4 {P : List Value → Prop} (h : ∀ a b c d, P [a, b, c, d]) : ∀ vs : List Value, vs.length = 4 → P vs := vs_cons fun a => vs3 (P := fun l => P (a :: l)) (h a)
theorem vs5 {P : List Value → Prop} (h : ∀ a b c d e, P [a, b, c, d, e]) : ∀ vs : List Value, vs.length = 5 → P vs := vs_cons fun a => vs4 (P := fun l => P (a :: l)) (h a)
structure FnOk (G : Gx) (a : Addr) (ps names : List Str) : Prop where
  isfn : isFn G.K a = true
  code : codeIn G.K (fdOf G.K a).code (fdOf G.K a).qualname = true
  glob : (fdOf G.K a).globals = mainGlobals
  bui : (fdOf G.K a).builtins = builtinsNs
  clo : (fdOf G.K a).closure = []
  body : isBody (fdOf G.K a) = true
  co : (fdOf G.K a).scope.isCoroutine = false
  gen : (fdOf G.K a).scope.isGenerator = false
  kind : (fdOf G.K a).scope.kind = .function
  cell : ((fdOf G.K a).scope.names.all fun x => decide (x.2 ≠ .cell)) = true
  loc : (names.all fun x => decide ((fdOf G.K a).scope.names.lookup x = some .local)) = true
  nd : names.Nodup
  bind : ∀ vs : List Value, vs.length = ps.length → bindArgs (fdOf G.K a) ⟨vs, []⟩ = pure (ps.zip vs)
  pre : ps = names.take ps.length

theorem zip_lookup : ∀ (ps : List Str) (vs : List Value), ps.Nodup → ps.length = vs.length → ∀ (i : Nat) (x : Str), ps[i]? = some x → ((ps.zip vs).reverse.lookup x) = vs[i]? := by
  intro ps vs nd hl i x hx
  have hmem : ∀ {l : List (Str × Value)} {x : Str} {v : Value}, (l.map (·.1)).Nodup → (x, v) ∈ l → l.lookup x = some v := by
    intro l
    induction l with
    | nil => intro x v _ h; cases h
    | cons p l ih =>
      intro x v hn h
      obtain ⟨y, u⟩ := p
      rw [List.map_cons, List.nodup_cons] at hn
      rcases List.mem_cons.mp h with h | h
      · cases h; simp [List.lookup_cons]
      · have hne : x ≠ y := by
          intro q
          exact hn.1 (List.mem_map.mpr ⟨_, h, q⟩)
        rw [List.lookup_cons, beq_eq_false_iff_ne.mpr hne]
        exact ih hn.2 h
  have hi : i < ps.length := (List.getElem?_eq_some_iff.mp hx).1
  have hv : vs[i]? = some vs[i] := List.getElem?_eq_getElem (by walk_at "om")
  rw [hv]
  refine hmem ?_ ?_
  · rw [List.map_reverse, List.map_fst_zip (by walk_at "om")]
    exact (List.reverse_perm _).nodup_iff.mpr nd
  · rw [List.mem_reverse]
    refine List.mem_of_getElem? (i := i) ?_
    rw [List.getElem?_zip_eq_some]
    exact ⟨hx, hv⟩

theorem dom_of_sub {hb h : Heap} (sub : Sub hb h) (b : Addr) (e : h.get? b = none) : hb.get? b = none := by
  cases q : hb.get? b with
  | none => rfl
  | some o => have := sub b o q; rw [e] at this; cases this
/-- a def is entered: over a base hb that stays to the sign -/
theorem enter {G : Gx} {n : Nat} {a : Addr} {ds : List D} {ps names : List Str} (K : FnOk G a ps names) (hl : ps.length = ds.length) {hb : Heap} {A : Around} {s : Shared} {vs : List Value} {Q E : Value → Shared → Prop}
    (hh : A.handled = none) (hd : A.depth + (n + 1) < recursionLimit) (hu : A.units + 8 * (n + 1) + 20 < cLine) (H : Hp G hb) (sub : Sub hb s.heap) (hbsz : hb.objs.size ≤ s.heap.objs.size) (r : Rvs s.heap vs ds)
    (h : ∀ X : Cx, X = ⟨G, A.deeper (envOf (fdOf G.K a).qualname (fdOf G.K a).scope s.heap.objs.size a (fdOf G.K a).code), envOf (fdOf G.K a).qualname (fdOf G.K a).scope s.heap.objs.size a (fdOf G.K a).code, names, [], n, s.heap.objs.size, hb, s.heap⟩ →
      ∀ h₁ tk, St X (start names.length ds) [] h₁ → wpAny G.M X.A (execs (bodyOf (fdOf G.K a)) X.env) (fun f s' => Q (match f with | .ret v => v | _ => .none) s')
        (fun e s' => wpAny G.M X.A (leaving X.env e) (fun _ s'' => E e s'') (fun e' s'' => E e' s'') s') { s with heap := h₁, toks := tk }) : wpAny G.M A (call (.ref a) vs) Q E s := by
  have Hs := H.sub sub
  obtain ⟨ob, hob, hdat⟩ := fd_at Hs.k K.isfn
  have hlen : vs.length = ps.length := r.1.trans hl.symm
  have ndp : ps.Nodup := by rw [K.pre]; exact K.nd.sublist (List.take_sublist _ _)
  have hlocs : ∀ x ∈ names, (fdOf G.K a).scope.names.lookup x = some .local := fun x hx => of_decide_eq_true (List.all_eq_true.mp K.loc x hx)
  refine wpAny_call (codeAny_call_function (by walk_at "om") hob hdat K.co K.gen (body_is K.body) (codeRec_of Hs.k K.code) ?_)
  rw [K.bind vs hlen]
  refine wpAny_pure (wpAny_newFunctionEnv (fun x hx => of_decide_eq_true (List.all_eq_true.mp K.cell x hx)) (fun x hx => ?_) (fun h₁ hns hsb => ⟨Hs.nolimit.fresh _ hsb, ?_⟩) K.kind)
  · have : x.1 ∈ ps := by
      obtain ⟨y, v⟩ := x
      exact (List.of_mem_zip hx).1
    exact hlocs _ (by rw [K.pre] at this; exact List.mem_of_mem_take this)
  · rw [K.glob, K.clo, K.bui]
    show codeAny _ _ (.func (bodyOf (fdOf G.K a)) (envOf (fdOf G.K a).qualname (fdOf G.K a).scope s.heap.objs.size a (fdOf G.K a).code)) _ _
    have F₁ : Fr s.heap s.heap.objs.size h₁ (fun x => (ps.zip vs).reverse.lookup x) := ⟨hns, fun b o e => hsb.extBut b o (Nat.ne_of_lt (Heap.lt_size e)) (Heap.get?_push_of_some _ e), Nat.le_refl _⟩
    refine codeAny_func ?_
    have ok : Cx.Ok ⟨G, A.deeper (envOf (fdOf G.K a).qualname (fdOf G.K a).scope s.heap.objs.size a (fdOf G.K a).code), envOf (fdOf G.K a).qualname (fdOf G.K a).scope s.heap.objs.size a (fdOf G.K a).code, names, [], n, s.heap.objs.size, hb, s.heap⟩ :=
      ⟨H, hh, by show A.depth + 1 + n < _; walk_at "om", by show A.units + 3 + 8 * n + 20 < _; walk_at "om", rfl, rfl, rfl, K.kind, hlocs, K.nd, (fun p hp => by cases hp), Heap.get?_none_of_le (Nat.le_refl _), dom_of_sub sub⟩
    refine h _ rfl h₁ _ ⟨ok, ⟨_, ⟨hns, fun b o e => F₁.keep b o (sub b o e), hbsz⟩, fun i x d' e1 e2 => ?_⟩, fun p hp => (by cases hp), fun p hp => (by cases hp), Sub.u F₁.keep⟩
    have hi : i < ds.length := by
      rcases Nat.lt_or_ge i ds.length with q | q
      · exact q
      · unfold start at e2
        rw [List.getElem?_append_right (by simpa using q)] at e2
        rw [List.getElem?_replicate] at e2
        split at e2 <;> cases e2
    have e3 : ds[i]? = some d' := by
      unfold start at e2
      rw [List.getElem?_append_left (by simpa using hi), List.getElem?_map] at e2
      cases hq : ds[i]? with
      | none => rw [hq] at e2; cases e2
      | some z => rw [hq] at e2; exact congrArg some (Option.some.inj (Option.some.inj e2))
    have hpx : ps[i]? = some x := by
      rw [K.pre, List.getElem?_take, if_pos (by walk_at "om")]
      exact e1
    have hvi : vs[i]? = some vs[i] := List.getElem?_eq_getElem (by walk_at "om")
    refine ⟨vs[i], ?_, (r.2 i _ d' hvi e3).kq (Sub.kq F₁.keep)⟩
    rw [zip_lookup ps vs ndp hlen.symm i x hpx, hvi]

noncomputable def FnPost (o : Out) (d : D) : Prop := match o with
  | .ret r => r = d
  | .next _ _ => d = .none
  | _ => False

theorem fn_intro {G : Gx} {n : Nat} {a : Addr} {ds : List D} {d : D} {ps names : List Str} (K : FnOk G a ps names) (hl : ps.length = ds.length) (o : Out) (ho : FnPost o d)
    (h : ∀ (A : Around) (L : Addr) (h₀ : Heap), ES ⟨G, A, envOf (fdOf G.K a).qualname (fdOf G.K a).scope L a (fdOf G.K a).code, names, [], n, L, h₀, h₀⟩ (start names.length ds) [] (bodyOf (fdOf G.K a)) o) : Fn G (n + 1) (.ref a) ds d := by
  refine ⟨fun A s Q E vs hh hd hu H r k => enter K hl hh hd hu H (Sub.refl _) (Nat.le_refl _) r fun X hX h₁ tk S => ?_⟩
  subst hX
  refine (h _ _ _).run _ _ _ S ?_
  cases o with
  | ret r' =>
    cases ho
    intro v h' tk' k' _ rv
    exact k v h' tk' k' rv
  | next σ' μ' =>
    cases ho
    intro h' tk' S' k'
    obtain ⟨m, F, _⟩ := S'.fr
    exact k .none h' tk' F.keep .none
  | _ => exact ho.elim
end
section
/-! ## names of the top; defs as facts -/
structure Gl (G : Gx) (x : Str) (d : D) : Prop where
  v : ∃ v, nsIn G.K mainGlobals x = some (some v) ∧ ∀ h, Rv h v d
  nd : (x == ("__debug__" : Str)) = false
structure Bl (G : Gx) (x : Str) (d : D) : Prop where
  m : nsIn G.K mainGlobals x = some none
  v : ∃ v, bootBuiltins x = some v ∧ ∀ h, Rv h v d
  nn : (x == ("__name__" : Str)) = false
  nd : (x == ("__debug__" : Str)) = false

/-- a def upon data, its place in the part -/
structure Fd (G : Gx) (n : Nat) (a : Addr) (ds : List D) (d : D) : Prop where
  fn : Fn G n (.ref a) ds d
  isf : isFn G.K a = true

section
variable {X : Cx} {σ : Lo} {μ : Mu}
theorem gv {x : Str} {p : Pos} {d : D} (g : Gl X.g x d) (hk : X.env.kindOf x = some .globalImplicit := by kernel_rfl) : EE X σ μ (.Name x p) d := by
  obtain ⟨v, hv, hr⟩ := g.v
  exact ev_glob hv hr hk g.nd
theorem bv {x : Str} {p : Pos} {d : D} (g : Bl X.g x d) (hk : X.env.kindOf x = some .globalImplicit := by kernel_rfl) : EE X σ μ (.Name x p) d := by
  obtain ⟨v, hv, hr⟩ := g.v
  exact ev_built g.m hv hr hk g.nn g.nd
theorem cl {x : Str} {p' : Pos} {e : Expr} {es : List Expr} {p : Pos} {a : Addr} {ds : List D} {d : D} {n : Nat} (hf : EE X σ μ (.Name x p') (.ref a)) (ha : EA X σ μ (e :: es) ds) (hfn : Fd X.g n a ds d)
    (hn : Nat.ble n X.n = true := by rfl) (he : notStar e = true := by rfl) : EE X σ μ (.Call (.Name x p') (e :: es) [] p) d := ev_call hf ha hfn.fn hfn.isf (Nat.le_of_ble_eq_true hn) he (fun _ => rfl)
theorem clB {x : Str} {p' : Pos} {e : Expr} {es : List Expr} {p : Pos} {id : String} {ds : List D} {d : D} (hf : EE X σ μ (.Name x p') (.bi id)) (ha : EA X σ μ (e :: es) ds) (hfn : Bi X.g (.builtin id) ds d)
    (he : ((e :: es).all notStar) = true := by rfl) : EE X σ μ (.Call (.Name x p') (e :: es) [] p) d := ev_callB hf ha hfn he (fun _ => rfl)
theorem clT {x : Str} {p' : Pos} {e : Expr} {es : List Expr} {p : Pos} {id : String} {ds : List D} {d : D} (hf : EE X σ μ (.Name x p') (.ty id)) (ha : EA X σ μ (e :: es) ds) (hfn : Bi X.g (.type id) ds d)
    (he : ((e :: es).all notStar) = true := by rfl) : EE X σ μ (.Call (.Name x p') (e :: es) [] p) d := ev_callT hf ha hfn he (fun _ => rfl)
/-- a local name -/
theorem lv {x : Str} {p : Pos} {d : D} (i : Nat) (hn : X.names[i]? = some x := by rfl) (hd : σ[i]? = some (some d) := by rfl) (hdb : (x == ("__debug__" : Str)) = false := by kernel_rfl) : EE X σ μ (.Name x p) d := ev_loc i hn hd hdb
theorem es_ret' {e : Expr} {pos : Pos} {rest : List Stmt} {d d' : D} (h : EE X σ μ e d) (hd : d = d') : ES X σ μ (.Return (some e) pos :: rest) (.ret d') := hd ▸ es_ret h
theorem es_ifd {t : Expr} {a b rest : List Stmt} {pos : Pos} {c : Prop} [Decidable c] {o : Out} (ht : EB X σ μ t (decide c)) (h1 : c → ES X σ μ (a ++ rest) o) (h2 : ¬ c → ES X σ μ (b ++ rest) o) : ES X σ μ (.If t a b pos :: rest) o :=
  es_if ht (fun h => h1 (of_decide_eq_true h)) (fun h => h2 (of_decide_eq_false h))
theorem es_ifp {t : Expr} {a b rest : List Stmt} {pos : Pos} {c : Prop} [Decidable c] {o : Out} (c' : Prop) (ht : EB X σ μ t (decide c)) (e : c ↔ c') (h1 : c' → ES X σ μ (a ++ rest) o) (h2 : ¬ c' → ES X σ μ (b ++ rest) o) : ES X σ μ (.If t a b pos :: rest) o :=
  es_if ht (fun h => h1 (e.mp (of_decide_eq_true h))) (fun h => h2 fun q => of_decide_eq_false h (e.mpr q))
end

theorem fd_ret {G : Gx} {n : Nat} {a : Addr} {ds : List D} {d : D} {ps names : List Str} (K : FnOk G a ps names) (hl : ps.length = ds.length)
    (h : ∀ (A : Around) (L : Addr) (h₀ : Heap), ES ⟨G, A, envOf (fdOf G.K a).qualname (fdOf G.K a).scope L a (fdOf G.K a).code, names, [], n, L, h₀, h₀⟩ (start names.length ds) [] (bodyOf (fdOf G.K a)) (.ret d)) : Fd G (n + 1) a ds d :=
  ⟨fn_intro K hl (.ret d) (show d = d from rfl) h, K.isfn⟩
theorem fd_intro {G : Gx} {n : Nat} {a : Addr} {ds : List D} {d : D} {ps names : List Str} (K : FnOk G a ps names) (hl : ps.length = ds.length) (o : Out) (ho : FnPost o d)
    (h : ∀ (A : Around) (L : Addr) (h₀ : Heap), ES ⟨G, A, envOf (fdOf G.K a).qualname (fdOf G.K a).scope L a (fdOf G.K a).code, names, [], n, L, h₀, h₀⟩ (start names.length ds) [] (bodyOf (fdOf G.K a)) o) : Fd G (n + 1) a ds d :=
  ⟨fn_intro K hl o ho h, K.isfn⟩

/-! ## built-ins -/
section
variable {G : Gx}
theorem Rvs.inv1 {h vs d} (r : Rvs h vs [d]) : ∃ v, vs = [v] ∧ Rv h v d := by
  match vs, r with
  | [v], r => exact ⟨v, rfl, r.head⟩
  | [], r => have := r.1; simp at this
  | _ :: _ :: _, r => have := r.1; simp at this
theorem Rvs.inv2 {h vs d e} (r : Rvs h vs [d, e]) : ∃ v w, vs = [v, w] ∧ Rv h v d ∧ Rv h w e := by
  match vs, r with
  | [v, w], r => exact ⟨v, w, rfl, r.head, r.tail.head⟩
  | [], r => have := r.1; simp at this
  | [_], r => have := r.1; simp at this
  | _ :: _ :: _ :: _, r => have := r.1; simp at this

theorem bi_abs {a : Int} : Bi G (.builtin "abs") [.int a] (.int (a.natAbs : Int)) := by
  refine ⟨fun A s Q E vs _ _ _ _ r k => ?_⟩
  obtain ⟨v, rfl, r1⟩ := r.inv1
  obtain ⟨t, rfl⟩ := r1.int_inv
  refine call_abs_int fun u tk => ?_
  rw [ite_abs']
  exact k _ _ _ (Sub.refl _) (.int ..)
theorem bi_max {a b : Int} : Bi G (.builtin "max") [.int a, .int b] (.int (max a b)) := by
  refine ⟨fun A s Q E vs hh _ _ _ r k => ?_⟩
  obtain ⟨v, w, rfl, r1, r2⟩ := r.inv2
  obtain ⟨t, rfl⟩ := r1.int_inv
  obtain ⟨u, rfl⟩ := r2.int_inv
  refine max_two_ints hh fun h' tk hk => ?_
  by_cases c : b > a
  · have e : max a b = b := by walk_at "om"
    rw [if_pos c]; rw [e] at k
    exact k _ _ _ hk (.int ..)
  · have e : max a b = a := by walk_at "om"
    rw [if_neg c]; rw [e] at k
    exact k _ _ _ hk (.int ..)
theorem bi_min {a b : Int} : Bi G (.builtin "min") [.int a, .int b] (.int (min a b)) := by
  refine ⟨fun A s Q E vs hh _ _ _ r k => ?_⟩
  obtain ⟨v, w, rfl, r1, r2⟩ := r.inv2
  obtain ⟨t, rfl⟩ := r1.int_inv
  obtain ⟨u, rfl⟩ := r2.int_inv
  refine min_two_ints hh fun h' tk hk => ?_
  by_cases c : b < a
  · have e : min a b = b := by walk_at "om"
    rw [if_pos c]; rw [e] at k
    exact k _ _ _ hk (.int ..)
  · have e : min a b = a := by walk_at "om"
    rw [if_neg c]; rw [e] at k
    exact k _ _ _ hk (.int ..)
theorem bi_int {b : Bool} : Bi G (.type "int") [.bool b] (.int (if b = true then 1 else 0)) := by
  refine ⟨fun A s Q E vs hh _ _ _ r k => ?_⟩
  obtain ⟨v, rfl, r1⟩ := r.inv1
  rw [r1.bool_inv]
  exact call_int_bool (k _ _ _ (Sub.refl _) (.int ..))
theorem bi_str {a : Int} (ha : a.natAbs.log2 < 1920) : Bi G (.type "str") [.int a] (.str (Str.ofString (toString a))) := by
  refine ⟨fun A s Q E vs hh _ _ _ r k => ?_⟩
  obtain ⟨v, rfl, r1⟩ := r.inv1
  obtain ⟨t, rfl⟩ := r1.int_inv
  exact P.str_of_int ha (k _ _ _ (Sub.refl _) (.str ..))
theorem bi_lenS {x : Str} (hx : x.length < 2 ^ 62) : Bi G (.builtin "len") [.str x] (.int x.length) := by
  refine ⟨fun A s Q E vs hh _ _ _ r k => ?_⟩
  obtain ⟨v, rfl, r1⟩ := r.inv1
  obtain ⟨t, rfl⟩ := r1.str_inv
  exact P.len_str (by walk_at "om") (k _ _ _ (Sub.refl _) (.int ..))
theorem bi_lenL {l : List D} (hx : l.length < 2 ^ 62) : Bi G (.builtin "len") [.lst l] (.int l.length) := by
  refine ⟨fun A s Q E vs hh _ _ _ r k => ?_⟩
  obtain ⟨v, rfl, r1⟩ := r.inv1
  obtain ⟨a, us, rfl, hl, rs⟩ := r1.lst_inv
  have e : us.toArray.size = l.length := by rw [List.size_toArray, rs.len]
  refine PyProof.Rows.len_list hl (by rw [e]; walk_at "om") ?_
  rw [e]
  exact k _ _ _ (Sub.refl _) (.int ..)
theorem bi_isi {a : D} {T : String} {b : Bool} (h : ∀ (A : Around) (s : Shared) (Q : Value → Shared → Prop) (E : Value → Shared → Prop) (v : Value), Rv s.heap v a → (∀ tk, Q (.bool b) { s with toks := tk }) → wpAny G.M A (call (.builtin "isinstance") [v, .type T]) Q E s) :
    Bi G (.builtin "isinstance") [a, .ty T] (.bool b) := by
  refine ⟨fun A s Q E vs hh _ _ _ r k => ?_⟩
  obtain ⟨v, w, rfl, r1, r2⟩ := r.inv2
  cases r2
  exact h A s Q E v r1 fun tk => k _ _ _ (Sub.refl _) (.bool _)
theorem isi_int_int {a : Int} : Bi G (.builtin "isinstance") [.int a, .ty "int"] (.bool true) := bi_isi fun A s Q E v r k => by
  obtain ⟨t, rfl⟩ := r.int_inv; exact IsiPair.int_int (k _)
theorem isi_int_bool {a : Int} : Bi G (.builtin "isinstance") [.int a, .ty "bool"] (.bool false) := bi_isi fun A s Q E v r k => by
  obtain ⟨t, rfl⟩ := r.int_inv; exact IsiPair.int_bool (k _)
theorem isi_str_int {a : Str} : Bi G (.builtin "isinstance") [.str a, .ty "int"] (.bool false) := bi_isi fun A s Q E v r k => by
  obtain ⟨t, rfl⟩ := r.str_inv; exact IsiPair.str_int (k _)
theorem isi_none_int : Bi G (.builtin "isinstance") [.none, .ty "int"] (.bool false) := bi_isi fun A s Q E v r k => by
  rw [r.none_inv]; exact IsiPair.NoneType_int (k _)
theorem isi_bool_int {a : Bool} : Bi G (.builtin "isinstance") [.bool a, .ty "int"] (.bool true) := bi_isi fun A s Q E v r k => by
  rw [r.bool_inv]; exact IsiPair.bool_int (k _)
theorem isi_bool_bool {a : Bool} : Bi G (.builtin "isinstance") [.bool a, .ty "bool"] (.bool true) := bi_isi fun A s Q E v r k => by
  rw [r.bool_inv]; exact IsiPair.bool_bool (k _)
end
end
section
noncomputable def Kk (P : Params) : Frag := k0.heap_1 P
noncomputable def Gw (w : World) (mg mb : Str → Option Value) : Gx := ⟨PySem.Challenge.rw_nt0396_01.row.prog, w, Kk w.params, mg, mb⟩
variable {w : World} {mg mb : Str → Option Value}
theorem gtab  : (List.map Str.ofString ["arg", "is_null", "is_number", "is_object", "width", "pack", "is_negative", "is_nan", "is_inf", "is_finite", "is_zero", "signed", "parts", "exact", "quotient", "round_ratio", "assembled", "round_scaled", "from_int", "to_int", "is_whole", "absolute", "order_key", "compare", "is_odd", "power_of_edge", "power", "whole_power", "raised", "trimmed_darith", "split", "made_whole", "is_settled", "to_integer", "floor", "ceil", "round_half_up", "whole_root", "sqrt", "min_of", "max_of", "number_of", "to_primitive", "to_number", "to_whole", "greatest_of", "least_of", "first_number", "math_abs", "math_ceil", "math_floor", "math_round", "math_sqrt", "math_pow", "math_max", "math_min", "whole_figures", "rest_figures", "carried", "to_radix", "scaled", "decimal_place", "first_place", "shortest", "last_figure", "signed_exponent", "with_exponent", "laid_out", "without_figures", "show", "sign_and_ratio", "half_up", "to_fixed", "rounded", "to_exponential", "to_precision", "this_number", "check_within", "in_radix", "with_exponent_of", "with_precision", "count_of", "number_text", "number_fixed", "number_exponential", "number_precision", "_law_cell", "_law_bits", "_law_tried", "_law_count", "_law_texts_right", "_law_signed", "_law_wholes_right", "_law_bounds_right", "law", "ALL", "SIGN_BIT", "FRACTION_BITS", "FRACTION_MASK", "HIDDEN_BIT_dbits", "EXPONENT_MASK", "EXPONENT_SHIFT", "LEAST_POWER_dbits", "ZERO", "NEG_ZERO", "ONE", "INF", "NEG_INF", "NAN", "KEPT_BITS", "MOST_EXACT", "ROOT_BITS", "FARTHEST", "LEAST_POWER_numshow", "HIDDEN_BIT_numshow", "LEAST_RADIX", "MOST_RADIX", "MOST_BEHIND", "MOST_FIGURES", "FIGURES", "Null", "JSValue", "JSFail", "PrimitiveObject", "abs", "max", "min", "len", "isinstance", "str", "int", "bool", "list", "range"]).map (nsIn (Gw w mg mb).K mainGlobals) = [some (some (.ref 83)), some (some (.ref 90)), some (some (.ref 97)), some (some (.ref 104)), some (some (.ref 215)), some (some (.ref 222)), some (some (.ref 229)), some (some (.ref 236)), some (some (.ref 243)), some (some (.ref 250)), some (some (.ref 257)), some (some (.ref 264)), some (some (.ref 271)), some (some (.ref 278)), some (some (.ref 285)), some (some (.ref 292)), some (some (.ref 299)), some (some (.ref 306)), some (some (.ref 313)), some (some (.ref 320)), some (some (.ref 327)), some (some (.ref 334)), some (some (.ref 341)), some (some (.ref 348)), some (some (.ref 355)), some (some (.ref 362)), some (some (.ref 369)), some (some (.ref 376)), some (some (.ref 383)), some (some (.ref 390)), some (some (.ref 397)), some (some (.ref 404)), some (some (.ref 411)), some (some (.ref 418)), some (some (.ref 425)), some (some (.ref 432)), some (some (.ref 439)), some (some (.ref 446)), some (some (.ref 453)), some (some (.ref 460)), some (some (.ref 467)), some (some (.ref 558)), some (some (.ref 565)), some (some (.ref 572)), some (some (.ref 579)), some (some (.ref 586)), some (some (.ref 593)), some (some (.ref 600)), some (some (.ref 607)), some (some (.ref 614)), some (some (.ref 621)), some (some (.ref 628)), some (some (.ref 635)), some (some (.ref 642)), some (some (.ref 647)), some (some (.ref 652)), some (some (.ref 659)), some (some (.ref 666)), some (some (.ref 673)), some (some (.ref 678)), some (some (.ref 685)), some (some (.ref 692)), some (some (.ref 699)), some (some (.ref 706)), some (some (.ref 713)), some (some (.ref 720)), some (some (.ref 727)), some (some (.ref 734)), some (some (.ref 741)), some (some (.ref 748)), some (some (.ref 755)), some (some (.ref 762)), some (some (.ref 769)), some (some (.ref 776)), some (some (.ref 783)), some (some (.ref 790)), some (some (.ref 816)), some (some (.ref 823)), some (some (.ref 830)), some (some (.ref 837)), some (some (.ref 844)), some (some (.ref 851)), some (some (.ref 858)), some (some (.ref 865)), some (some (.ref 872)), some (some (.ref 879)), some (some (.ref 886)), some (some (.ref 893)), some (some (.ref 900)), some (some (.ref 907)), some (some (.ref 912)), some (some (.ref 919)), some (some (.ref 926)), some (some (.ref 931)), some (some (.ref 938)), some (some (.int 7 307)), some (some (.int 9223372036854775808 452)), some (some (.int 52 454)), some (some (.int 4503599627370495 460)), some (some (.int 4503599627370496 464)), some (some (.int 2047 466)), some (some (.int 1075 468)), some (some (.int (-1074) 471)), some (some (.int 0 473)), some (some (.int 9223372036854775808 477)), some (some (.int 4607182418800017408 481)), some (some (.int 9218868437227405312 485)), some (some (.int 18442240474082181120 489)), some (some (.int 9221120237041090560 493)), some (some (.int 200 649)), some (some (.int 64 651)), some (some (.int 56 743)), some (some (.int 400 850)), some (some (.int (-1074) 1147)), some (some (.int 4503599627370496 1151)), some (some (.int 2 1362)), some (some (.int 36 1364)), some (some (.int 20 1366)), some (some (.int 21 1368)), some (some (.str (Str.ofString "0123456789abcdefghijklmnopqrstuvwxyz") 1105)), some (some (.ref 31)), some (some (.ref 52)), some (some (.ref 73)), some (some (.ref 807)), some none, some none, some none, some none, some none, some none, some none, some none, some none, some none] := by kernel_rfl
theorem g_arg  : Gl (Gw w mg mb) "arg" (.ref 83) := ⟨⟨_, Option.some.inj (congrArg (fun l => l[0]?) gtab), fun _ => .ref _⟩, by kernel_rfl⟩
theorem g_is_null  : Gl (Gw w mg mb) "is_null" (.ref 90) := ⟨⟨_, Option.some.inj (congrArg (fun l => l[1]?) gtab), fun _ => .ref _⟩, by kernel_rfl⟩
theorem g_is_number  : Gl (Gw w mg mb) "is_number" (.ref 97) := ⟨⟨_, Option.some.inj (congrArg (fun l => l[2]?) gtab), fun _ => .ref _⟩, by kernel_rfl⟩
theorem g_is_object  : Gl (Gw w mg mb) "is_object" (.ref 104) := ⟨⟨_, Option.some.inj (congrArg (fun l => l[3]?) gtab), fun _ => .ref _⟩, by kernel_rfl⟩
theorem g_width  : Gl (Gw w mg mb) "width" (.ref 215) := ⟨⟨_, Option.some.inj (congrArg (fun l => l[4]?) gtab), fun _ => .ref _⟩, by kernel_rfl⟩
theorem g_pack  : Gl (Gw w mg mb) "pack" (.ref 222) := ⟨⟨_, Option.some.inj (congrArg (fun l => l[5]?) gtab), fun _ => .ref _⟩, by kernel_rfl⟩
theorem g_is_negative  : Gl (Gw w mg mb) "is_negative" (.ref 229) := ⟨⟨_, Option.some.inj (congrArg (fun l => l[6]?) gtab), fun _ => .ref _⟩, by kernel_rfl⟩
theorem g_is_nan  : Gl (Gw w mg mb) "is_nan" (.ref 236) := ⟨⟨_, Option.some.inj (congrArg (fun l => l[7]?) gtab), fun _ => .ref _⟩, by kernel_rfl⟩
theorem g_is_inf  : Gl (Gw w mg mb) "is_inf" (.ref 243) := ⟨⟨_, Option.some.inj (congrArg (fun l => l[8]?) gtab), fun _ => .ref _⟩, by kernel_rfl⟩
theorem g_is_finite  : Gl (Gw w mg mb) "is_finite" (.ref 250) := ⟨⟨_, Option.some.inj (congrArg (fun l => l[9]?) gtab), fun _ => .ref _⟩, by kernel_rfl⟩
theorem g_is_zero  : Gl (Gw w mg mb) "is_zero" (.ref 257) := ⟨⟨_, Option.some.inj (congrArg (fun l => l[10]?) gtab), fun _ => .ref _⟩, by kernel_rfl⟩
theorem g_signed  : Gl (Gw w mg mb) "signed" (.ref 264) := ⟨⟨_, Option.some.inj (congrArg (fun l => l[11]?) gtab), fun _ => .ref _⟩, by kernel_rfl⟩
theorem g_parts  : Gl (Gw w mg mb) "parts" (.ref 271) := ⟨⟨_, Option.some.inj (congrArg (fun l => l[12]?) gtab), fun _ => .ref _⟩, by kernel_rfl⟩
theorem g_exact  : Gl (Gw w mg mb) "exact" (.ref 278) := ⟨⟨_, Option.some.inj (congrArg (fun l => l[13]?) gtab), fun _ => .ref _⟩, by kernel_rfl⟩
theorem g_quotient  : Gl (Gw w mg mb) "quotient" (.ref 285) := ⟨⟨_, Option.some.inj (congrArg (fun l => l[14]?) gtab), fun _ => .ref _⟩, by kernel_rfl⟩
theorem g_round_ratio  : Gl (Gw w mg mb) "round_ratio" (.ref 292) := ⟨⟨_, Option.some.inj (congrArg (fun l => l[15]?) gtab), fun _ => .ref _⟩, by kernel_rfl⟩
theorem g_assembled  : Gl (Gw w mg mb) "assembled" (.ref 299) := ⟨⟨_, Option.some.inj (congrArg (fun l => l[16]?) gtab), fun _ => .ref _⟩, by kernel_rfl⟩
theorem g_round_scaled  : Gl (Gw w mg mb) "round_scaled" (.ref 306) := ⟨⟨_, Option.some.inj (congrArg (fun l => l[17]?) gtab), fun _ => .ref _⟩, by kernel_rfl⟩
theorem g_from_int  : Gl (Gw w mg mb) "from_int" (.ref 313) := ⟨⟨_, Option.some.inj (congrArg (fun l => l[18]?) gtab), fun _ => .ref _⟩, by kernel_rfl⟩
theorem g_to_int  : Gl (Gw w mg mb) "to_int" (.ref 320) := ⟨⟨_, Option.some.inj (congrArg (fun l => l[19]?) gtab), fun _ => .ref _⟩, by kernel_rfl⟩
theorem g_is_whole  : Gl (Gw w mg mb) "is_whole" (.ref 327) := ⟨⟨_, Option.some.inj (congrArg (fun l => l[20]?) gtab), fun _ => .ref _⟩, by kernel_rfl⟩
theorem g_absolute  : Gl (Gw w mg mb) "absolute" (.ref 334) := ⟨⟨_, Option.some.inj (congrArg (fun l => l[21]?) gtab), fun _ => .ref _⟩, by kernel_rfl⟩
theorem g_order_key  : Gl (Gw w mg mb) "order_key" (.ref 341) := ⟨⟨_, Option.some.inj (congrArg (fun l => l[22]?) gtab), fun _ => .ref _⟩, by kernel_rfl⟩
theorem g_compare  : Gl (Gw w mg mb) "compare" (.ref 348) := ⟨⟨_, Option.some.inj (congrArg (fun l => l[23]?) gtab), fun _ => .ref _⟩, by kernel_rfl⟩
theorem g_is_odd  : Gl (Gw w mg mb) "is_odd" (.ref 355) := ⟨⟨_, Option.some.inj (congrArg (fun l => l[24]?) gtab), fun _ => .ref _⟩, by kernel_rfl⟩
theorem g_power_of_edge  : Gl (Gw w mg mb) "power_of_edge" (.ref 362) := ⟨⟨_, Option.some.inj (congrArg (fun l => l[25]?) gtab), fun _ => .ref _⟩, by kernel_rfl⟩
theorem g_power  : Gl (Gw w mg mb) "power" (.ref 369) := ⟨⟨_, Option.some.inj (congrArg (fun l => l[26]?) gtab), fun _ => .ref _⟩, by kernel_rfl⟩
theorem g_whole_power  : Gl (Gw w mg mb) "whole_power" (.ref 376) := ⟨⟨_, Option.some.inj (congrArg (fun l => l[27]?) gtab), fun _ => .ref _⟩, by kernel_rfl⟩
theorem g_raised  : Gl (Gw w mg mb) "raised" (.ref 383) := ⟨⟨_, Option.some.inj (congrArg (fun l => l[28]?) gtab), fun _ => .ref _⟩, by kernel_rfl⟩
theorem g_trimmed_darith  : Gl (Gw w mg mb) "trimmed_darith" (.ref 390) := ⟨⟨_, Option.some.inj (congrArg (fun l => l[29]?) gtab), fun _ => .ref _⟩, by kernel_rfl⟩
theorem g_split  : Gl (Gw w mg mb) "split" (.ref 397) := ⟨⟨_, Option.some.inj (congrArg (fun l => l[30]?) gtab), fun _ => .ref _⟩, by kernel_rfl⟩
theorem g_made_whole  : Gl (Gw w mg mb) "made_whole" (.ref 404) := ⟨⟨_, Option.some.inj (congrArg (fun l => l[31]?) gtab), fun _ => .ref _⟩, by kernel_rfl⟩
theorem g_is_settled  : Gl (Gw w mg mb) "is_settled" (.ref 411) := ⟨⟨_, Option.some.inj (congrArg (fun l => l[32]?) gtab), fun _ => .ref _⟩, by kernel_rfl⟩
theorem g_to_integer  : Gl (Gw w mg mb) "to_integer" (.ref 418) := ⟨⟨_, Option.some.inj (congrArg (fun l => l[33]?) gtab), fun _ => .ref _⟩, by kernel_rfl⟩
theorem g_floor  : Gl (Gw w mg mb) "floor" (.ref 425) := ⟨⟨_, Option.some.inj (congrArg (fun l => l[34]?) gtab), fun _ => .ref _⟩, by kernel_rfl⟩
theorem g_ceil  : Gl (Gw w mg mb) "ceil" (.ref 432) := ⟨⟨_, Option.some.inj (congrArg (fun l => l[35]?) gtab), fun _ => .ref _⟩, by kernel_rfl⟩
theorem g_round_half_up  : Gl (Gw w mg mb) "round_half_up" (.ref 439) := ⟨⟨_, Option.some.inj (congrArg (fun l => l[36]?) gtab), fun _ => .ref _⟩, by kernel_rfl⟩
theorem g_whole_root  : Gl (Gw w mg mb) "whole_root" (.ref 446) := ⟨⟨_, Option.some.inj (congrArg (fun l => l[37]?) gtab), fun _ => .ref _⟩, by kernel_rfl⟩
theorem g_sqrt  : Gl (Gw w mg mb) "sqrt" (.ref 453) := ⟨⟨_, Option.some.inj (congrArg (fun l => l[38]?) gtab), fun _ => .ref _⟩, by kernel_rfl⟩
theorem g_min_of  : Gl (Gw w mg mb) "min_of" (.ref 460) := ⟨⟨_, Option.some.inj (congrArg (fun l => l[39]?) gtab), fun _ => .ref _⟩, by kernel_rfl⟩
theorem g_max_of  : Gl (Gw w mg mb) "max_of" (.ref 467) := ⟨⟨_, Option.some.inj (congrArg (fun l => l[40]?) gtab), fun _ => .ref _⟩, by kernel_rfl⟩
theorem g_number_of  : Gl (Gw w mg mb) "number_of" (.ref 558) := ⟨⟨_, Option.some.inj (congrArg (fun l => l[41]?) gtab), fun _ => .ref _⟩, by kernel_rfl⟩
theorem g_to_primitive  : Gl (Gw w mg mb) "to_primitive" (.ref 565) := ⟨⟨_, Option.some.inj (congrArg (fun l => l[42]?) gtab), fun _ => .ref _⟩, by kernel_rfl⟩
theorem g_to_number  : Gl (Gw w mg mb) "to_number" (.ref 572) := ⟨⟨_, Option.some.inj (congrArg (fun l => l[43]?) gtab), fun _ => .ref _⟩, by kernel_rfl⟩
theorem g_to_whole  : Gl (Gw w mg mb) "to_whole" (.ref 579) := ⟨⟨_, Option.some.inj (congrArg (fun l => l[44]?) gtab), fun _ => .ref _⟩, by kernel_rfl⟩
theorem g_greatest_of  : Gl (Gw w mg mb) "greatest_of" (.ref 586) := ⟨⟨_, Option.some.inj (congrArg (fun l => l[45]?) gtab), fun _ => .ref _⟩, by kernel_rfl⟩
theorem g_least_of  : Gl (Gw w mg mb) "least_of" (.ref 593) := ⟨⟨_, Option.some.inj (congrArg (fun l => l[46]?) gtab), fun _ => .ref _⟩, by kernel_rfl⟩
theorem g_first_number  : Gl (Gw w mg mb) "first_number" (.ref 600) := ⟨⟨_, Option.some.inj (congrArg (fun l => l[47]?) gtab), fun _ => .ref _⟩, by kernel_rfl⟩
theorem g_math_abs  : Gl (Gw w mg mb) "math_abs" (.ref 607) := ⟨⟨_, Option.some.inj (congrArg (fun l => l[48]?) gtab), fun _ => .ref _⟩, by kernel_rfl⟩
theorem g_math_ceil  : Gl (Gw w mg mb) "math_ceil" (.ref 614) := ⟨⟨_, Option.some.inj (congrArg (fun l => l[49]?) gtab), fun _ => .ref _⟩, by kernel_rfl⟩
theorem g_math_floor  : Gl (Gw w mg mb) "math_floor" (.ref 621) := ⟨⟨_, Option.some.inj (congrArg (fun l => l[50]?) gtab), fun _ => .ref _⟩, by kernel_rfl⟩
theorem g_math_round  : Gl (Gw w mg mb) "math_round" (.ref 628) := ⟨⟨_, Option.some.inj (congrArg (fun l => l[51]?) gtab), fun _ => .ref _⟩, by kernel_rfl⟩
theorem g_math_sqrt  : Gl (Gw w mg mb) "math_sqrt" (.ref 635) := ⟨⟨_, Option.some.inj (congrArg (fun l => l[52]?) gtab), fun _ => .ref _⟩, by kernel_rfl⟩
theorem g_math_pow  : Gl (Gw w mg mb) "math_pow" (.ref 642) := ⟨⟨_, Option.some.inj (congrArg (fun l => l[53]?) gtab), fun _ => .ref _⟩, by kernel_rfl⟩
theorem g_math_max  : Gl (Gw w mg mb) "math_max" (.ref 647) := ⟨⟨_, Option.some.inj (congrArg (fun l => l[54]?) gtab), fun _ => .ref _⟩, by kernel_rfl⟩
theorem g_math_min  : Gl (Gw w mg mb) "math_min" (.ref 652) := ⟨⟨_, Option.some.inj (congrArg (fun l => l[55]?) gtab), fun _ => .ref _⟩, by kernel_rfl⟩
theorem g_whole_figures  : Gl (Gw w mg mb) "whole_figures" (.ref 659) := ⟨⟨_, Option.some.inj (congrArg (fun l => l[56]?) gtab), fun _ => .ref _⟩, by kernel_rfl⟩
theorem g_rest_figures  : Gl (Gw w mg mb) "rest_figures" (.ref 666) := ⟨⟨_, Option.some.inj (congrArg (fun l => l[57]?) gtab), fun _ => .ref _⟩, by kernel_rfl⟩
theorem g_carried  : Gl (Gw w mg mb) "carried" (.ref 673) := ⟨⟨_, Option.some.inj (congrArg (fun l => l[58]?) gtab), fun _ => .ref _⟩, by kernel_rfl⟩
theorem g_to_radix  : Gl (Gw w mg mb) "to_radix" (.ref 678) := ⟨⟨_, Option.some.inj (congrArg (fun l => l[59]?) gtab), fun _ => .ref _⟩, by kernel_rfl⟩
theorem g_scaled  : Gl (Gw w mg mb) "scaled" (.ref 685) := ⟨⟨_, Option.some.inj (congrArg (fun l => l[60]?) gtab), fun _ => .ref _⟩, by kernel_rfl⟩
theorem g_decimal_place  : Gl (Gw w mg mb) "decimal_place" (.ref 692) := ⟨⟨_, Option.some.inj (congrArg (fun l => l[61]?) gtab), fun _ => .ref _⟩, by kernel_rfl⟩
theorem g_first_place  : Gl (Gw w mg mb) "first_place" (.ref 699) := ⟨⟨_, Option.some.inj (congrArg (fun l => l[62]?) gtab), fun _ => .ref _⟩, by kernel_rfl⟩
theorem g_shortest  : Gl (Gw w mg mb) "shortest" (.ref 706) := ⟨⟨_, Option.some.inj (congrArg (fun l => l[63]?) gtab), fun _ => .ref _⟩, by kernel_rfl⟩
theorem g_last_figure  : Gl (Gw w mg mb) "last_figure" (.ref 713) := ⟨⟨_, Option.some.inj (congrArg (fun l => l[64]?) gtab), fun _ => .ref _⟩, by kernel_rfl⟩
theorem g_signed_exponent  : Gl (Gw w mg mb) "signed_exponent" (.ref 720) := ⟨⟨_, Option.some.inj (congrArg (fun l => l[65]?) gtab), fun _ => .ref _⟩, by kernel_rfl⟩
theorem g_with_exponent  : Gl (Gw w mg mb) "with_exponent" (.ref 727) := ⟨⟨_, Option.some.inj (congrArg (fun l => l[66]?) gtab), fun _ => .ref _⟩, by kernel_rfl⟩
theorem g_laid_out  : Gl (Gw w mg mb) "laid_out" (.ref 734) := ⟨⟨_, Option.some.inj (congrArg (fun l => l[67]?) gtab), fun _ => .ref _⟩, by kernel_rfl⟩
theorem g_without_figures  : Gl (Gw w mg mb) "without_figures" (.ref 741) := ⟨⟨_, Option.some.inj (congrArg (fun l => l[68]?) gtab), fun _ => .ref _⟩, by kernel_rfl⟩
theorem g_show  : Gl (Gw w mg mb) "show" (.ref 748) := ⟨⟨_, Option.some.inj (congrArg (fun l => l[69]?) gtab), fun _ => .ref _⟩, by kernel_rfl⟩
theorem g_sign_and_ratio  : Gl (Gw w mg mb) "sign_and_ratio" (.ref 755) := ⟨⟨_, Option.some.inj (congrArg (fun l => l[70]?) gtab), fun _ => .ref _⟩, by kernel_rfl⟩
theorem g_half_up  : Gl (Gw w mg mb) "half_up" (.ref 762) := ⟨⟨_, Option.some.inj (congrArg (fun l => l[71]?) gtab), fun _ => .ref _⟩, by kernel_rfl⟩
theorem g_to_fixed  : Gl (Gw w mg mb) "to_fixed" (.ref 769) := ⟨⟨_, Option.some.inj (congrArg (fun l => l[72]?) gtab), fun _ => .ref _⟩, by kernel_rfl⟩
theorem g_rounded  : Gl (Gw w mg mb) "rounded" (.ref 776) := ⟨⟨_, Option.some.inj (congrArg (fun l => l[73]?) gtab), fun _ => .ref _⟩, by kernel_rfl⟩
theorem g_to_exponential  : Gl (Gw w mg mb) "to_exponential" (.ref 783) := ⟨⟨_, Option.some.inj (congrArg (fun l => l[74]?) gtab), fun _ => .ref _⟩, by kernel_rfl⟩
theorem g_to_precision  : Gl (Gw w mg mb) "to_precision" (.ref 790) := ⟨⟨_, Option.some.inj (congrArg (fun l => l[75]?) gtab), fun _ => .ref _⟩, by kernel_rfl⟩
theorem g_this_number  : Gl (Gw w mg mb) "this_number" (.ref 816) := ⟨⟨_, Option.some.inj (congrArg (fun l => l[76]?) gtab), fun _ => .ref _⟩, by kernel_rfl⟩
theorem g_check_within  : Gl (Gw w mg mb) "check_within" (.ref 823) := ⟨⟨_, Option.some.inj (congrArg (fun l => l[77]?) gtab), fun _ => .ref _⟩, by kernel_rfl⟩
theorem g_in_radix  : Gl (Gw w mg mb) "in_radix" (.ref 830) := ⟨⟨_, Option.some.inj (congrArg (fun l => l[78]?) gtab), fun _ => .ref _⟩, by kernel_rfl⟩
theorem g_with_exponent_of  : Gl (Gw w mg mb) "with_exponent_of" (.ref 837) := ⟨⟨_, Option.some.inj (congrArg (fun l => l[79]?) gtab), fun _ => .ref _⟩, by kernel_rfl⟩
theorem g_with_precision  : Gl (Gw w mg mb) "with_precision" (.ref 844) := ⟨⟨_, Option.some.inj (congrArg (fun l => l[80]?) gtab), fun _ => .ref _⟩, by kernel_rfl⟩
theorem g_count_of  : Gl (Gw w mg mb) "count_of" (.ref 851) := ⟨⟨_, Option.some.inj (congrArg (fun l => l[81]?) gtab), fun _ => .ref _⟩, by kernel_rfl⟩
theorem g_number_text  : Gl (Gw w mg mb) "number_text" (.ref 858) := ⟨⟨_, Option.some.inj (congrArg (fun l => l[82]?) gtab), fun _ => .ref _⟩, by kernel_rfl⟩
theorem g_number_fixed  : Gl (Gw w mg mb) "number_fixed" (.ref 865) := ⟨⟨_, Option.some.inj (congrArg (fun l => l[83]?) gtab), fun _ => .ref _⟩, by kernel_rfl⟩
theorem g_number_exponential  : Gl (Gw w mg mb) "number_exponential" (.ref 872) := ⟨⟨_, Option.some.inj (congrArg (fun l => l[84]?) gtab), fun _ => .ref _⟩, by kernel_rfl⟩
theorem g_number_precision  : Gl (Gw w mg mb) "number_precision" (.ref 879) := ⟨⟨_, Option.some.inj (congrArg (fun l => l[85]?) gtab), fun _ => .ref _⟩, by kernel_rfl⟩
theorem g_law_cell  : Gl (Gw w mg mb) "_law_cell" (.ref 886) := ⟨⟨_, Option.some.inj (congrArg (fun l => l[86]?) gtab), fun _ => .ref _⟩, by kernel_rfl⟩
theorem g_law_bits  : Gl (Gw w mg mb) "_law_bits" (.ref 893) := ⟨⟨_, Option.some.inj (congrArg (fun l => l[87]?) gtab), fun _ => .ref _⟩, by kernel_rfl⟩
theorem g_law_tried  : Gl (Gw w mg mb) "_law_tried" (.ref 900) := ⟨⟨_, Option.some.inj (congrArg (fun l => l[88]?) gtab), fun _ => .ref _⟩, by kernel_rfl⟩
theorem g_law_count  : Gl (Gw w mg mb) "_law_count" (.ref 907) := ⟨⟨_, Option.some.inj (congrArg (fun l => l[89]?) gtab), fun _ => .ref _⟩, by kernel_rfl⟩
theorem g_law_texts_right  : Gl (Gw w mg mb) "_law_texts_right" (.ref 912) := ⟨⟨_, Option.some.inj (congrArg (fun l => l[90]?) gtab), fun _ => .ref _⟩, by kernel_rfl⟩
theorem g_law_signed  : Gl (Gw w mg mb) "_law_signed" (.ref 919) := ⟨⟨_, Option.some.inj (congrArg (fun l => l[91]?) gtab), fun _ => .ref _⟩, by kernel_rfl⟩
theorem g_law_wholes_right  : Gl (Gw w mg mb) "_law_wholes_right" (.ref 926) := ⟨⟨_, Option.some.inj (congrArg (fun l => l[92]?) gtab), fun _ => .ref _⟩, by kernel_rfl⟩
theorem g_law_bounds_right  : Gl (Gw w mg mb) "_law_bounds_right" (.ref 931) := ⟨⟨_, Option.some.inj (congrArg (fun l => l[93]?) gtab), fun _ => .ref _⟩, by kernel_rfl⟩
theorem g_law  : Gl (Gw w mg mb) "law" (.ref 938) := ⟨⟨_, Option.some.inj (congrArg (fun l => l[94]?) gtab), fun _ => .ref _⟩, by kernel_rfl⟩
theorem g_ALL  : Gl (Gw w mg mb) "ALL" (.int 7) := ⟨⟨_, Option.some.inj (congrArg (fun l => l[95]?) gtab), fun _ => .int ..⟩, by kernel_rfl⟩
theorem g_SIGN_BIT  : Gl (Gw w mg mb) "SIGN_BIT" (.int 9223372036854775808) := ⟨⟨_, Option.some.inj (congrArg (fun l => l[96]?) gtab), fun _ => .int ..⟩, by kernel_rfl⟩
theorem g_FRACTION_BITS  : Gl (Gw w mg mb) "FRACTION_BITS" (.int 52) := ⟨⟨_, Option.some.inj (congrArg (fun l => l[97]?) gtab), fun _ => .int ..⟩, by kernel_rfl⟩
theorem g_FRACTION_MASK  : Gl (Gw w mg mb) "FRACTION_MASK" (.int 4503599627370495) := ⟨⟨_, Option.some.inj (congrArg (fun l => l[98]?) gtab), fun _ => .int ..⟩, by kernel_rfl⟩
theorem g_HIDDEN_BIT_dbits  : Gl (Gw w mg mb) "HIDDEN_BIT_dbits" (.int 4503599627370496) := ⟨⟨_, Option.some.inj (congrArg (fun l => l[99]?) gtab), fun _ => .int ..⟩, by kernel_rfl⟩
theorem g_EXPONENT_MASK  : Gl (Gw w mg mb) "EXPONENT_MASK" (.int 2047) := ⟨⟨_, Option.some.inj (congrArg (fun l => l[100]?) gtab), fun _ => .int ..⟩, by kernel_rfl⟩
theorem g_EXPONENT_SHIFT  : Gl (Gw w mg mb) "EXPONENT_SHIFT" (.int 1075) := ⟨⟨_, Option.some.inj (congrArg (fun l => l[101]?) gtab), fun _ => .int ..⟩, by kernel_rfl⟩
theorem g_LEAST_POWER_dbits  : Gl (Gw w mg mb) "LEAST_POWER_dbits" (.int (-1074)) := ⟨⟨_, Option.some.inj (congrArg (fun l => l[102]?) gtab), fun _ => .int ..⟩, by kernel_rfl⟩
theorem g_ZERO  : Gl (Gw w mg mb) "ZERO" (.int 0) := ⟨⟨_, Option.some.inj (congrArg (fun l => l[103]?) gtab), fun _ => .int ..⟩, by kernel_rfl⟩
theorem g_NEG_ZERO  : Gl (Gw w mg mb) "NEG_ZERO" (.int 9223372036854775808) := ⟨⟨_, Option.some.inj (congrArg (fun l => l[104]?) gtab), fun _ => .int ..⟩, by kernel_rfl⟩
theorem g_ONE  : Gl (Gw w mg mb) "ONE" (.int 4607182418800017408) := ⟨⟨_, Option.some.inj (congrArg (fun l => l[105]?) gtab), fun _ => .int ..⟩, by kernel_rfl⟩
theorem g_INF  : Gl (Gw w mg mb) "INF" (.int 9218868437227405312) := ⟨⟨_, Option.some.inj (congrArg (fun l => l[106]?) gtab), fun _ => .int ..⟩, by kernel_rfl⟩
theorem g_NEG_INF  : Gl (Gw w mg mb) "NEG_INF" (.int 18442240474082181120) := ⟨⟨_, Option.some.inj (congrArg (fun l => l[107]?) gtab), fun _ => .int ..⟩, by kernel_rfl⟩
theorem g_NAN  : Gl (Gw w mg mb) "NAN" (.int 9221120237041090560) := ⟨⟨_, Option.some.inj (congrArg (fun l => l[108]?) gtab), fun _ => .int ..⟩, by kernel_rfl⟩
theorem g_KEPT_BITS  : Gl (Gw w mg mb) "KEPT_BITS" (.int 200) := ⟨⟨_, Option.some.inj (congrArg (fun l => l[109]?) gtab), fun _ => .int ..⟩, by kernel_rfl⟩
theorem g_MOST_EXACT  : Gl (Gw w mg mb) "MOST_EXACT" (.int 64) := ⟨⟨_, Option.some.inj (congrArg (fun l => l[110]?) gtab), fun _ => .int ..⟩, by kernel_rfl⟩
theorem g_ROOT_BITS  : Gl (Gw w mg mb) "ROOT_BITS" (.int 56) := ⟨⟨_, Option.some.inj (congrArg (fun l => l[111]?) gtab), fun _ => .int ..⟩, by kernel_rfl⟩
theorem g_FARTHEST  : Gl (Gw w mg mb) "FARTHEST" (.int 400) := ⟨⟨_, Option.some.inj (congrArg (fun l => l[112]?) gtab), fun _ => .int ..⟩, by kernel_rfl⟩
theorem g_LEAST_POWER_numshow  : Gl (Gw w mg mb) "LEAST_POWER_numshow" (.int (-1074)) := ⟨⟨_, Option.some.inj (congrArg (fun l => l[113]?) gtab), fun _ => .int ..⟩, by kernel_rfl⟩
theorem g_HIDDEN_BIT_numshow  : Gl (Gw w mg mb) "HIDDEN_BIT_numshow" (.int 4503599627370496) := ⟨⟨_, Option.some.inj (congrArg (fun l => l[114]?) gtab), fun _ => .int ..⟩, by kernel_rfl⟩
theorem g_LEAST_RADIX  : Gl (Gw w mg mb) "LEAST_RADIX" (.int 2) := ⟨⟨_, Option.some.inj (congrArg (fun l => l[115]?) gtab), fun _ => .int ..⟩, by kernel_rfl⟩
theorem g_MOST_RADIX  : Gl (Gw w mg mb) "MOST_RADIX" (.int 36) := ⟨⟨_, Option.some.inj (congrArg (fun l => l[116]?) gtab), fun _ => .int ..⟩, by kernel_rfl⟩
theorem g_MOST_BEHIND  : Gl (Gw w mg mb) "MOST_BEHIND" (.int 20) := ⟨⟨_, Option.some.inj (congrArg (fun l => l[117]?) gtab), fun _ => .int ..⟩, by kernel_rfl⟩
theorem g_MOST_FIGURES  : Gl (Gw w mg mb) "MOST_FIGURES" (.int 21) := ⟨⟨_, Option.some.inj (congrArg (fun l => l[118]?) gtab), fun _ => .int ..⟩, by kernel_rfl⟩
theorem g_FIGURES  : Gl (Gw w mg mb) "FIGURES" (.str (Str.ofString "0123456789abcdefghijklmnopqrstuvwxyz")) := ⟨⟨_, Option.some.inj (congrArg (fun l => l[119]?) gtab), fun _ => .str ..⟩, by kernel_rfl⟩
theorem g_Null  : Gl (Gw w mg mb) "Null" (.ref 31) := ⟨⟨_, Option.some.inj (congrArg (fun l => l[120]?) gtab), fun _ => .ref _⟩, by kernel_rfl⟩
theorem g_JSValue  : Gl (Gw w mg mb) "JSValue" (.ref 52) := ⟨⟨_, Option.some.inj (congrArg (fun l => l[121]?) gtab), fun _ => .ref _⟩, by kernel_rfl⟩
theorem g_JSFail  : Gl (Gw w mg mb) "JSFail" (.ref 73) := ⟨⟨_, Option.some.inj (congrArg (fun l => l[122]?) gtab), fun _ => .ref _⟩, by kernel_rfl⟩
theorem g_PrimitiveObject  : Gl (Gw w mg mb) "PrimitiveObject" (.ref 807) := ⟨⟨_, Option.some.inj (congrArg (fun l => l[123]?) gtab), fun _ => .ref _⟩, by kernel_rfl⟩
theorem b_abs  : Bl (Gw w mg mb) "abs" (.bi "abs") := ⟨Option.some.inj (congrArg (fun l => l[124]?) gtab), ⟨.builtin "abs", by kernel_rfl, fun _ => .bi _⟩, by kernel_rfl, by kernel_rfl⟩
theorem b_max  : Bl (Gw w mg mb) "max" (.bi "max") := ⟨Option.some.inj (congrArg (fun l => l[125]?) gtab), ⟨.builtin "max", by kernel_rfl, fun _ => .bi _⟩, by kernel_rfl, by kernel_rfl⟩
theorem b_min  : Bl (Gw w mg mb) "min" (.bi "min") := ⟨Option.some.inj (congrArg (fun l => l[126]?) gtab), ⟨.builtin "min", by kernel_rfl, fun _ => .bi _⟩, by kernel_rfl, by kernel_rfl⟩
theorem b_len  : Bl (Gw w mg mb) "len" (.bi "len") := ⟨Option.some.inj (congrArg (fun l => l[127]?) gtab), ⟨.builtin "len", by kernel_rfl, fun _ => .bi _⟩, by kernel_rfl, by kernel_rfl⟩
theorem b_isinstance  : Bl (Gw w mg mb) "isinstance" (.bi "isinstance") := ⟨Option.some.inj (congrArg (fun l => l[128]?) gtab), ⟨.builtin "isinstance", by kernel_rfl, fun _ => .bi _⟩, by kernel_rfl, by kernel_rfl⟩
theorem b_str  : Bl (Gw w mg mb) "str" (.ty "str") := ⟨Option.some.inj (congrArg (fun l => l[129]?) gtab), ⟨.type "str", by kernel_rfl, fun _ => .ty _⟩, by kernel_rfl, by kernel_rfl⟩
theorem b_int  : Bl (Gw w mg mb) "int" (.ty "int") := ⟨Option.some.inj (congrArg (fun l => l[130]?) gtab), ⟨.type "int", by kernel_rfl, fun _ => .ty _⟩, by kernel_rfl, by kernel_rfl⟩
theorem b_bool  : Bl (Gw w mg mb) "bool" (.ty "bool") := ⟨Option.some.inj (congrArg (fun l => l[131]?) gtab), ⟨.type "bool", by kernel_rfl, fun _ => .ty _⟩, by kernel_rfl, by kernel_rfl⟩
theorem b_list  : Bl (Gw w mg mb) "list" (.ty "list") := ⟨Option.some.inj (congrArg (fun l => l[132]?) gtab), ⟨.type "list", by kernel_rfl, fun _ => .ty _⟩, by kernel_rfl, by kernel_rfl⟩
theorem b_range  : Bl (Gw w mg mb) "range" (.ty "range") := ⟨Option.some.inj (congrArg (fun l => l[133]?) gtab), ⟨.type "range", by kernel_rfl, fun _ => .ty _⟩, by kernel_rfl, by kernel_rfl⟩
theorem ok_arg  : FnOk (Gw w mg mb) 83 ["args", "at"] ["args", "at"] := ⟨by kernel_rfl, by kernel_rfl, by kernel_rfl, by kernel_rfl, by kernel_rfl, by kernel_rfl, by kernel_rfl, by kernel_rfl, by kernel_rfl, by kernel_rfl, by kernel_rfl, by decide +kernel, vs2 fun a0 a1 => by kernel_rfl, by kernel_rfl⟩
theorem ok_is_null  : FnOk (Gw w mg mb) 90 ["value"] ["value"] := ⟨by kernel_rfl, by kernel_rfl, by kernel_rfl, by kernel_rfl, by kernel_rfl, by kernel_rfl, by kernel_rfl, by kernel_rfl, by kernel_rfl, by kernel_rfl, by kernel_rfl, by decide +kernel, vs1 fun a0 => by kernel_rfl, by kernel_rfl⟩
theorem ok_is_number  : FnOk (Gw w mg mb) 97 ["value"] ["value"] := ⟨by kernel_rfl, by kernel_rfl, by kernel_rfl, by kernel_rfl, by kernel_rfl, by kernel_rfl, by kernel_rfl, by kernel_rfl, by kernel_rfl, by kernel_rfl, by kernel_rfl, by decide +kernel, vs1 fun a0 => by kernel_rfl, by kernel_rfl⟩
theorem ok_is_object  : FnOk (Gw w mg mb) 104 ["value"] ["value"] := ⟨by kernel_rfl, by kernel_rfl, by kernel_rfl, by kernel_rfl, by kernel_rfl, by kernel_rfl, by kernel_rfl, by kernel_rfl, by kernel_rfl, by kernel_rfl, by kernel_rfl, by decide +kernel, vs1 fun a0 => by kernel_rfl, by kernel_rfl⟩
theorem ok_width  : FnOk (Gw w mg mb) 215 ["n"] ["n", "many", "step"] := ⟨by kernel_rfl, by kernel_rfl, by kernel_rfl, by kernel_rfl, by kernel_rfl, by kernel_rfl, by kernel_rfl, by kernel_rfl, by kernel_rfl, by kernel_rfl, by kernel_rfl, by decide +kernel, vs1 fun a0 => by kernel_rfl, by kernel_rfl⟩
theorem ok_pack  : FnOk (Gw w mg mb) 222 ["sign", "exponent", "fraction"] ["sign", "exponent", "fraction"] := ⟨by kernel_rfl, by kernel_rfl, by kernel_rfl, by kernel_rfl, by kernel_rfl, by kernel_rfl, by kernel_rfl, by kernel_rfl, by kernel_rfl, by kernel_rfl, by kernel_rfl, by decide +kernel, vs3 fun a0 a1 a2 => by kernel_rfl, by kernel_rfl⟩
theorem ok_is_negative  : FnOk (Gw w mg mb) 229 ["bits"] ["bits"] := ⟨by kernel_rfl, by kernel_rfl, by kernel_rfl, by kernel_rfl, by kernel_rfl, by kernel_rfl, by kernel_rfl, by kernel_rfl, by kernel_rfl, by kernel_rfl, by kernel_rfl, by decide +kernel, vs1 fun a0 => by kernel_rfl, by kernel_rfl⟩
theorem ok_is_nan  : FnOk (Gw w mg mb) 236 ["bits"] ["bits"] := ⟨by kernel_rfl, by kernel_rfl, by kernel_rfl, by kernel_rfl, by kernel_rfl, by kernel_rfl, by kernel_rfl, by kernel_rfl, by kernel_rfl, by kernel_rfl, by kernel_rfl, by decide +kernel, vs1 fun a0 => by kernel_rfl, by kernel_rfl⟩
theorem ok_is_inf  : FnOk (Gw w mg mb) 243 ["bits"] ["bits"] := ⟨by kernel_rfl, by kernel_rfl, by kernel_rfl, by kernel_rfl, by kernel_rfl, by kernel_rfl, by kernel_rfl, by kernel_rfl, by kernel_rfl, by kernel_rfl, by kernel_rfl, by decide +kernel, vs1 fun a0 => by kernel_rfl, by kernel_rfl⟩
theorem ok_is_finite  : FnOk (Gw w mg mb) 250 ["bits"] ["bits"] := ⟨by kernel_rfl, by kernel_rfl, by kernel_rfl, by kernel_rfl, by kernel_rfl, by kernel_rfl, by kernel_rfl, by kernel_rfl, by kernel_rfl, by kernel_rfl, by kernel_rfl, by decide +kernel, vs1 fun a0 => by kernel_rfl, by kernel_rfl⟩
theorem ok_is_zero  : FnOk (Gw w mg mb) 257 ["bits"] ["bits"] := ⟨by kernel_rfl, by kernel_rfl, by kernel_rfl, by kernel_rfl, by kernel_rfl, by kernel_rfl, by kernel_rfl, by kernel_rfl, by kernel_rfl, by kernel_rfl, by kernel_rfl, by decide +kernel, vs1 fun a0 => by kernel_rfl, by kernel_rfl⟩
theorem ok_signed  : FnOk (Gw w mg mb) 264 ["sign", "bits"] ["sign", "bits"] := ⟨by kernel_rfl, by kernel_rfl, by kernel_rfl, by kernel_rfl, by kernel_rfl, by kernel_rfl, by kernel_rfl, by kernel_rfl, by kernel_rfl, by kernel_rfl, by kernel_rfl, by decide +kernel, vs2 fun a0 a1 => by kernel_rfl, by kernel_rfl⟩
theorem ok_parts  : FnOk (Gw w mg mb) 271 ["bits"] ["bits", "sign", "exponent", "fraction"] := ⟨by kernel_rfl, by kernel_rfl, by kernel_rfl, by kernel_rfl, by kernel_rfl, by kernel_rfl, by kernel_rfl, by kernel_rfl, by kernel_rfl, by kernel_rfl, by kernel_rfl, by decide +kernel, vs1 fun a0 => by kernel_rfl, by kernel_rfl⟩
theorem ok_exact  : FnOk (Gw w mg mb) 278 ["bits"] ["bits", "sign", "mantissa", "power", "top"] := ⟨by kernel_rfl, by kernel_rfl, by kernel_rfl, by kernel_rfl, by kernel_rfl, by kernel_rfl, by kernel_rfl, by kernel_rfl, by kernel_rfl, by kernel_rfl, by kernel_rfl, by decide +kernel, vs1 fun a0 => by kernel_rfl, by kernel_rfl⟩
theorem ok_quotient  : FnOk (Gw w mg mb) 285 ["top", "bottom", "power"] ["top", "bottom", "power"] := ⟨by kernel_rfl, by kernel_rfl, by kernel_rfl, by kernel_rfl, by kernel_rfl, by kernel_rfl, by kernel_rfl, by kernel_rfl, by kernel_rfl, by kernel_rfl, by kernel_rfl, by decide +kernel, vs3 fun a0 a1 a2 => by kernel_rfl, by kernel_rfl⟩
theorem ok_round_ratio  : FnOk (Gw w mg mb) 292 ["sign", "top", "bottom"] ["sign", "top", "bottom", "power", "whole", "rest", "unit"] := ⟨by kernel_rfl, by kernel_rfl, by kernel_rfl, by kernel_rfl, by kernel_rfl, by kernel_rfl, by kernel_rfl, by kernel_rfl, by kernel_rfl, by kernel_rfl, by kernel_rfl, by decide +kernel, vs3 fun a0 a1 a2 => by kernel_rfl, by kernel_rfl⟩
theorem ok_assembled  : FnOk (Gw w mg mb) 299 ["sign", "whole", "power"] ["sign", "whole", "power", "exponent"] := ⟨by kernel_rfl, by kernel_rfl, by kernel_rfl, by kernel_rfl, by kernel_rfl, by kernel_rfl, by kernel_rfl, by kernel_rfl, by kernel_rfl, by kernel_rfl, by kernel_rfl, by decide +kernel, vs3 fun a0 a1 a2 => by kernel_rfl, by kernel_rfl⟩
theorem ok_round_scaled  : FnOk (Gw w mg mb) 306 ["sign", "mantissa", "power"] ["sign", "mantissa", "power", "size"] := ⟨by kernel_rfl, by kernel_rfl, by kernel_rfl, by kernel_rfl, by kernel_rfl, by kernel_rfl, by kernel_rfl, by kernel_rfl, by kernel_rfl, by kernel_rfl, by kernel_rfl, by decide +kernel, vs3 fun a0 a1 a2 => by kernel_rfl, by kernel_rfl⟩
theorem ok_from_int  : FnOk (Gw w mg mb) 313 ["n"] ["n"] := ⟨by kernel_rfl, by kernel_rfl, by kernel_rfl, by kernel_rfl, by kernel_rfl, by kernel_rfl, by kernel_rfl, by kernel_rfl, by kernel_rfl, by kernel_rfl, by kernel_rfl, by decide +kernel, vs1 fun a0 => by kernel_rfl, by kernel_rfl⟩
theorem ok_to_int  : FnOk (Gw w mg mb) 320 ["bits"] ["bits", "sign", "mantissa", "power", "size"] := ⟨by kernel_rfl, by kernel_rfl, by kernel_rfl, by kernel_rfl, by kernel_rfl, by kernel_rfl, by kernel_rfl, by kernel_rfl, by kernel_rfl, by kernel_rfl, by kernel_rfl, by decide +kernel, vs1 fun a0 => by kernel_rfl, by kernel_rfl⟩
theorem ok_is_whole  : FnOk (Gw w mg mb) 327 ["bits"] ["bits", "sign", "mantissa", "power"] := ⟨by kernel_rfl, by kernel_rfl, by kernel_rfl, by kernel_rfl, by kernel_rfl, by kernel_rfl, by kernel_rfl, by kernel_rfl, by kernel_rfl, by kernel_rfl, by kernel_rfl, by decide +kernel, vs1 fun a0 => by kernel_rfl, by kernel_rfl⟩
theorem ok_absolute  : FnOk (Gw w mg mb) 334 ["a"] ["a"] := ⟨by kernel_rfl, by kernel_rfl, by kernel_rfl, by kernel_rfl, by kernel_rfl, by kernel_rfl, by kernel_rfl, by kernel_rfl, by kernel_rfl, by kernel_rfl, by kernel_rfl, by decide +kernel, vs1 fun a0 => by kernel_rfl, by kernel_rfl⟩
theorem ok_order_key  : FnOk (Gw w mg mb) 341 ["a"] ["a"] := ⟨by kernel_rfl, by kernel_rfl, by kernel_rfl, by kernel_rfl, by kernel_rfl, by kernel_rfl, by kernel_rfl, by kernel_rfl, by kernel_rfl, by kernel_rfl, by kernel_rfl, by decide +kernel, vs1 fun a0 => by kernel_rfl, by kernel_rfl⟩
theorem ok_compare  : FnOk (Gw w mg mb) 348 ["a", "b"] ["a", "b", "one", "other"] := ⟨by kernel_rfl, by kernel_rfl, by kernel_rfl, by kernel_rfl, by kernel_rfl, by kernel_rfl, by kernel_rfl, by kernel_rfl, by kernel_rfl, by kernel_rfl, by kernel_rfl, by decide +kernel, vs2 fun a0 a1 => by kernel_rfl, by kernel_rfl⟩
theorem ok_is_odd  : FnOk (Gw w mg mb) 355 ["a"] ["a"] := ⟨by kernel_rfl, by kernel_rfl, by kernel_rfl, by kernel_rfl, by kernel_rfl, by kernel_rfl, by kernel_rfl, by kernel_rfl, by kernel_rfl, by kernel_rfl, by kernel_rfl, by decide +kernel, vs1 fun a0 => by kernel_rfl, by kernel_rfl⟩
theorem ok_power_of_edge  : FnOk (Gw w mg mb) 362 ["a", "b"] ["a", "b", "order", "sign"] := ⟨by kernel_rfl, by kernel_rfl, by kernel_rfl, by kernel_rfl, by kernel_rfl, by kernel_rfl, by kernel_rfl, by kernel_rfl, by kernel_rfl, by kernel_rfl, by kernel_rfl, by decide +kernel, vs2 fun a0 a1 => by kernel_rfl, by kernel_rfl⟩
theorem ok_power  : FnOk (Gw w mg mb) 369 ["a", "b"] ["a", "b", "sign", "mantissa", "scale"] := ⟨by kernel_rfl, by kernel_rfl, by kernel_rfl, by kernel_rfl, by kernel_rfl, by kernel_rfl, by kernel_rfl, by kernel_rfl, by kernel_rfl, by kernel_rfl, by kernel_rfl, by decide +kernel, vs2 fun a0 a1 => by kernel_rfl, by kernel_rfl⟩
theorem ok_whole_power  : FnOk (Gw w mg mb) 376 ["sign", "mantissa", "scale", "many"] ["sign", "mantissa", "scale", "many", "top", "power_of_two", "size"] := ⟨by kernel_rfl, by kernel_rfl, by kernel_rfl, by kernel_rfl, by kernel_rfl, by kernel_rfl, by kernel_rfl, by kernel_rfl, by kernel_rfl, by kernel_rfl, by kernel_rfl, by decide +kernel, vs4 fun a0 a1 a2 a3 => by kernel_rfl, by kernel_rfl⟩
theorem ok_raised  : FnOk (Gw w mg mb) 383 ["mantissa", "scale", "many"] ["mantissa", "scale", "many", "found", "shift", "limit"] := ⟨by kernel_rfl, by kernel_rfl, by kernel_rfl, by kernel_rfl, by kernel_rfl, by kernel_rfl, by kernel_rfl, by kernel_rfl, by kernel_rfl, by kernel_rfl, by kernel_rfl, by decide +kernel, vs3 fun a0 a1 a2 => by kernel_rfl, by kernel_rfl⟩
theorem ok_trimmed_darith  : FnOk (Gw w mg mb) 390 ["mantissa", "scale", "limit"] ["mantissa", "scale", "limit", "drop"] := ⟨by kernel_rfl, by kernel_rfl, by kernel_rfl, by kernel_rfl, by kernel_rfl, by kernel_rfl, by kernel_rfl, by kernel_rfl, by kernel_rfl, by kernel_rfl, by kernel_rfl, by decide +kernel, vs3 fun a0 a1 a2 => by kernel_rfl, by kernel_rfl⟩
theorem ok_split  : FnOk (Gw w mg mb) 397 ["bits"] ["bits", "sign", "mantissa", "power"] := ⟨by kernel_rfl, by kernel_rfl, by kernel_rfl, by kernel_rfl, by kernel_rfl, by kernel_rfl, by kernel_rfl, by kernel_rfl, by kernel_rfl, by kernel_rfl, by kernel_rfl, by decide +kernel, vs1 fun a0 => by kernel_rfl, by kernel_rfl⟩
theorem ok_made_whole  : FnOk (Gw w mg mb) 404 ["bits", "size"] ["bits", "size"] := ⟨by kernel_rfl, by kernel_rfl, by kernel_rfl, by kernel_rfl, by kernel_rfl, by kernel_rfl, by kernel_rfl, by kernel_rfl, by kernel_rfl, by kernel_rfl, by kernel_rfl, by decide +kernel, vs2 fun a0 a1 => by kernel_rfl, by kernel_rfl⟩
theorem ok_is_settled  : FnOk (Gw w mg mb) 411 ["bits"] ["bits"] := ⟨by kernel_rfl, by kernel_rfl, by kernel_rfl, by kernel_rfl, by kernel_rfl, by kernel_rfl, by kernel_rfl, by kernel_rfl, by kernel_rfl, by kernel_rfl, by kernel_rfl, by decide +kernel, vs1 fun a0 => by kernel_rfl, by kernel_rfl⟩
theorem ok_to_integer  : FnOk (Gw w mg mb) 418 ["bits"] ["bits"] := ⟨by kernel_rfl, by kernel_rfl, by kernel_rfl, by kernel_rfl, by kernel_rfl, by kernel_rfl, by kernel_rfl, by kernel_rfl, by kernel_rfl, by kernel_rfl, by kernel_rfl, by decide +kernel, vs1 fun a0 => by kernel_rfl, by kernel_rfl⟩
theorem ok_floor  : FnOk (Gw w mg mb) 425 ["bits"] ["bits", "whole"] := ⟨by kernel_rfl, by kernel_rfl, by kernel_rfl, by kernel_rfl, by kernel_rfl, by kernel_rfl, by kernel_rfl, by kernel_rfl, by kernel_rfl, by kernel_rfl, by kernel_rfl, by decide +kernel, vs1 fun a0 => by kernel_rfl, by kernel_rfl⟩
theorem ok_ceil  : FnOk (Gw w mg mb) 432 ["bits"] ["bits", "whole"] := ⟨by kernel_rfl, by kernel_rfl, by kernel_rfl, by kernel_rfl, by kernel_rfl, by kernel_rfl, by kernel_rfl, by kernel_rfl, by kernel_rfl, by kernel_rfl, by kernel_rfl, by decide +kernel, vs1 fun a0 => by kernel_rfl, by kernel_rfl⟩
theorem ok_round_half_up  : FnOk (Gw w mg mb) 439 ["bits"] ["bits", "whole", "rest", "unit", "is_up"] := ⟨by kernel_rfl, by kernel_rfl, by kernel_rfl, by kernel_rfl, by kernel_rfl, by kernel_rfl, by kernel_rfl, by kernel_rfl, by kernel_rfl, by kernel_rfl, by kernel_rfl, by decide +kernel, vs1 fun a0 => by kernel_rfl, by kernel_rfl⟩
theorem ok_whole_root  : FnOk (Gw w mg mb) 446 ["n"] ["n", "root", "better"] := ⟨by kernel_rfl, by kernel_rfl, by kernel_rfl, by kernel_rfl, by kernel_rfl, by kernel_rfl, by kernel_rfl, by kernel_rfl, by kernel_rfl, by kernel_rfl, by kernel_rfl, by decide +kernel, vs1 fun a0 => by kernel_rfl, by kernel_rfl⟩
theorem ok_sqrt  : FnOk (Gw w mg mb) 453 ["bits"] ["bits", "sign", "mantissa", "power", "scaled", "root", "is_inexact"] := ⟨by kernel_rfl, by kernel_rfl, by kernel_rfl, by kernel_rfl, by kernel_rfl, by kernel_rfl, by kernel_rfl, by kernel_rfl, by kernel_rfl, by kernel_rfl, by kernel_rfl, by decide +kernel, vs1 fun a0 => by kernel_rfl, by kernel_rfl⟩
theorem ok_min_of  : FnOk (Gw w mg mb) 460 ["a", "b"] ["a", "b"] := ⟨by kernel_rfl, by kernel_rfl, by kernel_rfl, by kernel_rfl, by kernel_rfl, by kernel_rfl, by kernel_rfl, by kernel_rfl, by kernel_rfl, by kernel_rfl, by kernel_rfl, by decide +kernel, vs2 fun a0 a1 => by kernel_rfl, by kernel_rfl⟩
theorem ok_max_of  : FnOk (Gw w mg mb) 467 ["a", "b"] ["a", "b"] := ⟨by kernel_rfl, by kernel_rfl, by kernel_rfl, by kernel_rfl, by kernel_rfl, by kernel_rfl, by kernel_rfl, by kernel_rfl, by kernel_rfl, by kernel_rfl, by kernel_rfl, by decide +kernel, vs2 fun a0 a1 => by kernel_rfl, by kernel_rfl⟩
theorem ok_number_of  : FnOk (Gw w mg mb) 558 ["value"] ["value"] := ⟨by kernel_rfl, by kernel_rfl, by kernel_rfl, by kernel_rfl, by kernel_rfl, by kernel_rfl, by kernel_rfl, by kernel_rfl, by kernel_rfl, by kernel_rfl, by kernel_rfl, by decide +kernel, vs1 fun a0 => by kernel_rfl, by kernel_rfl⟩
theorem ok_to_primitive  : FnOk (Gw w mg mb) 565 ["vm", "value", "hint"] ["vm", "value", "hint", "is_text_wanted"] := ⟨by kernel_rfl, by kernel_rfl, by kernel_rfl, by kernel_rfl, by kernel_rfl, by kernel_rfl, by kernel_rfl, by kernel_rfl, by kernel_rfl, by kernel_rfl, by kernel_rfl, by decide +kernel, vs3 fun a0 a1 a2 => by kernel_rfl, by kernel_rfl⟩
theorem ok_to_number  : FnOk (Gw w mg mb) 572 ["vm", "value"] ["vm", "value"] := ⟨by kernel_rfl, by kernel_rfl, by kernel_rfl, by kernel_rfl, by kernel_rfl, by kernel_rfl, by kernel_rfl, by kernel_rfl, by kernel_rfl, by kernel_rfl, by kernel_rfl, by decide +kernel, vs2 fun a0 a1 => by kernel_rfl, by kernel_rfl⟩
theorem ok_to_whole  : FnOk (Gw w mg mb) 579 ["vm", "value", "least", "most"] ["vm", "value", "least", "most", "bits", "found"] := ⟨by kernel_rfl, by kernel_rfl, by kernel_rfl, by kernel_rfl, by kernel_rfl, by kernel_rfl, by kernel_rfl, by kernel_rfl, by kernel_rfl, by kernel_rfl, by kernel_rfl, by decide +kernel, vs4 fun a0 a1 a2 a3 => by kernel_rfl, by kernel_rfl⟩
theorem ok_greatest_of  : FnOk (Gw w mg mb) 586 ["numbers"] ["numbers", "found", "bits"] := ⟨by kernel_rfl, by kernel_rfl, by kernel_rfl, by kernel_rfl, by kernel_rfl, by kernel_rfl, by kernel_rfl, by kernel_rfl, by kernel_rfl, by kernel_rfl, by kernel_rfl, by decide +kernel, vs1 fun a0 => by kernel_rfl, by kernel_rfl⟩
theorem ok_least_of  : FnOk (Gw w mg mb) 593 ["numbers"] ["numbers", "found", "bits"] := ⟨by kernel_rfl, by kernel_rfl, by kernel_rfl, by kernel_rfl, by kernel_rfl, by kernel_rfl, by kernel_rfl, by kernel_rfl, by kernel_rfl, by kernel_rfl, by kernel_rfl, by decide +kernel, vs1 fun a0 => by kernel_rfl, by kernel_rfl⟩
theorem ok_first_number  : FnOk (Gw w mg mb) 600 ["vm", "args"] ["vm", "args"] := ⟨by kernel_rfl, by kernel_rfl, by kernel_rfl, by kernel_rfl, by kernel_rfl, by kernel_rfl, by kernel_rfl, by kernel_rfl, by kernel_rfl, by kernel_rfl, by kernel_rfl, by decide +kernel, vs2 fun a0 a1 => by kernel_rfl, by kernel_rfl⟩
theorem ok_math_abs  : FnOk (Gw w mg mb) 607 ["vm", "this", "args"] ["vm", "this", "args"] := ⟨by kernel_rfl, by kernel_rfl, by kernel_rfl, by kernel_rfl, by kernel_rfl, by kernel_rfl, by kernel_rfl, by kernel_rfl, by kernel_rfl, by kernel_rfl, by kernel_rfl, by decide +kernel, vs3 fun a0 a1 a2 => by kernel_rfl, by kernel_rfl⟩
theorem ok_math_ceil  : FnOk (Gw w mg mb) 614 ["vm", "this", "args"] ["vm", "this", "args"] := ⟨by kernel_rfl, by kernel_rfl, by kernel_rfl, by kernel_rfl, by kernel_rfl, by kernel_rfl, by kernel_rfl, by kernel_rfl, by kernel_rfl, by kernel_rfl, by kernel_rfl, by decide +kernel, vs3 fun a0 a1 a2 => by kernel_rfl, by kernel_rfl⟩
theorem ok_math_floor  : FnOk (Gw w mg mb) 621 ["vm", "this", "args"] ["vm", "this", "args"] := ⟨by kernel_rfl, by kernel_rfl, by kernel_rfl, by kernel_rfl, by kernel_rfl, by kernel_rfl, by kernel_rfl, by kernel_rfl, by kernel_rfl, by kernel_rfl, by kernel_rfl, by decide +kernel, vs3 fun a0 a1 a2 => by kernel_rfl, by kernel_rfl⟩
theorem ok_math_round  : FnOk (Gw w mg mb) 628 ["vm", "this", "args"] ["vm", "this", "args"] := ⟨by kernel_rfl, by kernel_rfl, by kernel_rfl, by kernel_rfl, by kernel_rfl, by kernel_rfl, by kernel_rfl, by kernel_rfl, by kernel_rfl, by kernel_rfl, by kernel_rfl, by decide +kernel, vs3 fun a0 a1 a2 => by kernel_rfl, by kernel_rfl⟩
theorem ok_math_sqrt  : FnOk (Gw w mg mb) 635 ["vm", "this", "args"] ["vm", "this", "args"] := ⟨by kernel_rfl, by kernel_rfl, by kernel_rfl, by kernel_rfl, by kernel_rfl, by kernel_rfl, by kernel_rfl, by kernel_rfl, by kernel_rfl, by kernel_rfl, by kernel_rfl, by decide +kernel, vs3 fun a0 a1 a2 => by kernel_rfl, by kernel_rfl⟩
theorem ok_math_pow  : FnOk (Gw w mg mb) 642 ["vm", "this", "args"] ["vm", "this", "args", "base"] := ⟨by kernel_rfl, by kernel_rfl, by kernel_rfl, by kernel_rfl, by kernel_rfl, by kernel_rfl, by kernel_rfl, by kernel_rfl, by kernel_rfl, by kernel_rfl, by kernel_rfl, by decide +kernel, vs3 fun a0 a1 a2 => by kernel_rfl, by kernel_rfl⟩
theorem ok_whole_figures  : FnOk (Gw w mg mb) 659 ["number", "radix"] ["number", "radix", "found"] := ⟨by kernel_rfl, by kernel_rfl, by kernel_rfl, by kernel_rfl, by kernel_rfl, by kernel_rfl, by kernel_rfl, by kernel_rfl, by kernel_rfl, by kernel_rfl, by kernel_rfl, by decide +kernel, vs2 fun a0 a1 => by kernel_rfl, by kernel_rfl⟩
theorem ok_rest_figures  : FnOk (Gw w mg mb) 666 ["rest", "unit", "radix"] ["rest", "unit", "radix", "gap", "found", "figure", "is_up"] := ⟨by kernel_rfl, by kernel_rfl, by kernel_rfl, by kernel_rfl, by kernel_rfl, by kernel_rfl, by kernel_rfl, by kernel_rfl, by kernel_rfl, by kernel_rfl, by kernel_rfl, by decide +kernel, vs3 fun a0 a1 a2 => by kernel_rfl, by kernel_rfl⟩
theorem ok_carried  : FnOk (Gw w mg mb) 673 ["figures", "radix"] ["figures", "radix", "found"] := ⟨by kernel_rfl, by kernel_rfl, by kernel_rfl, by kernel_rfl, by kernel_rfl, by kernel_rfl, by kernel_rfl, by kernel_rfl, by kernel_rfl, by kernel_rfl, by kernel_rfl, by decide +kernel, vs2 fun a0 a1 => by kernel_rfl, by kernel_rfl⟩
theorem ok_to_radix  : FnOk (Gw w mg mb) 678 ["bits", "radix"] ["bits", "radix", "sign", "told_sign", "mantissa", "power", "unit", "rest", "carry", "found"] := ⟨by kernel_rfl, by kernel_rfl, by kernel_rfl, by kernel_rfl, by kernel_rfl, by kernel_rfl, by kernel_rfl, by kernel_rfl, by kernel_rfl, by kernel_rfl, by kernel_rfl, by decide +kernel, vs2 fun a0 a1 => by kernel_rfl, by kernel_rfl⟩
theorem ok_scaled  : FnOk (Gw w mg mb) 685 ["mantissa", "power"] ["mantissa", "power", "is_edge", "factor", "above"] := ⟨by kernel_rfl, by kernel_rfl, by kernel_rfl, by kernel_rfl, by kernel_rfl, by kernel_rfl, by kernel_rfl, by kernel_rfl, by kernel_rfl, by kernel_rfl, by kernel_rfl, by decide +kernel, vs2 fun a0 a1 => by kernel_rfl, by kernel_rfl⟩
theorem ok_decimal_place  : FnOk (Gw w mg mb) 692 ["top", "bottom"] ["top", "bottom", "found"] := ⟨by kernel_rfl, by kernel_rfl, by kernel_rfl, by kernel_rfl, by kernel_rfl, by kernel_rfl, by kernel_rfl, by kernel_rfl, by kernel_rfl, by kernel_rfl, by kernel_rfl, by decide +kernel, vs2 fun a0 a1 => by kernel_rfl, by kernel_rfl⟩
theorem ok_first_place  : FnOk (Gw w mg mb) 699 ["number", "above", "unit", "is_even"] ["number", "above", "unit", "is_even", "found", "edge", "limit"] := ⟨by kernel_rfl, by kernel_rfl, by kernel_rfl, by kernel_rfl, by kernel_rfl, by kernel_rfl, by kernel_rfl, by kernel_rfl, by kernel_rfl, by kernel_rfl, by kernel_rfl, by decide +kernel, vs4 fun a0 a1 a2 a3 => by kernel_rfl, by kernel_rfl⟩
theorem ok_shortest  : FnOk (Gw w mg mb) 706 ["bits"] ["bits", "sign", "mantissa", "power", "is_even", "number", "above", "below", "unit", "place", "factor", "found", "figure", "is_low", "is_high"] := ⟨by kernel_rfl, by kernel_rfl, by kernel_rfl, by kernel_rfl, by kernel_rfl, by kernel_rfl, by kernel_rfl, by kernel_rfl, by kernel_rfl, by kernel_rfl, by kernel_rfl, by decide +kernel, vs1 fun a0 => by kernel_rfl, by kernel_rfl⟩
theorem ok_last_figure  : FnOk (Gw w mg mb) 713 ["figure", "rest", "unit", "is_low", "is_high"] ["figure", "rest", "unit", "is_low", "is_high"] := ⟨by kernel_rfl, by kernel_rfl, by kernel_rfl, by kernel_rfl, by kernel_rfl, by kernel_rfl, by kernel_rfl, by kernel_rfl, by kernel_rfl, by kernel_rfl, by kernel_rfl, by decide +kernel, vs5 fun a0 a1 a2 a3 a4 => by kernel_rfl, by kernel_rfl⟩
theorem ok_signed_exponent  : FnOk (Gw w mg mb) 720 ["exponent"] ["exponent"] := ⟨by kernel_rfl, by kernel_rfl, by kernel_rfl, by kernel_rfl, by kernel_rfl, by kernel_rfl, by kernel_rfl, by kernel_rfl, by kernel_rfl, by kernel_rfl, by kernel_rfl, by decide +kernel, vs1 fun a0 => by kernel_rfl, by kernel_rfl⟩
theorem ok_with_exponent  : FnOk (Gw w mg mb) 727 ["figures", "exponent"] ["figures", "exponent", "rest"] := ⟨by kernel_rfl, by kernel_rfl, by kernel_rfl, by kernel_rfl, by kernel_rfl, by kernel_rfl, by kernel_rfl, by kernel_rfl, by kernel_rfl, by kernel_rfl, by kernel_rfl, by decide +kernel, vs2 fun a0 a1 => by kernel_rfl, by kernel_rfl⟩
theorem ok_laid_out  : FnOk (Gw w mg mb) 734 ["figures", "place"] ["figures", "place", "size"] := ⟨by kernel_rfl, by kernel_rfl, by kernel_rfl, by kernel_rfl, by kernel_rfl, by kernel_rfl, by kernel_rfl, by kernel_rfl, by kernel_rfl, by kernel_rfl, by kernel_rfl, by decide +kernel, vs2 fun a0 a1 => by kernel_rfl, by kernel_rfl⟩
theorem ok_without_figures  : FnOk (Gw w mg mb) 741 ["bits"] ["bits"] := ⟨by kernel_rfl, by kernel_rfl, by kernel_rfl, by kernel_rfl, by kernel_rfl, by kernel_rfl, by kernel_rfl, by kernel_rfl, by kernel_rfl, by kernel_rfl, by kernel_rfl, by decide +kernel, vs1 fun a0 => by kernel_rfl, by kernel_rfl⟩
theorem ok_show  : FnOk (Gw w mg mb) 748 ["bits"] ["bits", "told", "figures", "place"] := ⟨by kernel_rfl, by kernel_rfl, by kernel_rfl, by kernel_rfl, by kernel_rfl, by kernel_rfl, by kernel_rfl, by kernel_rfl, by kernel_rfl, by kernel_rfl, by kernel_rfl, by decide +kernel, vs1 fun a0 => by kernel_rfl, by kernel_rfl⟩
theorem ok_sign_and_ratio  : FnOk (Gw w mg mb) 755 ["bits"] ["bits", "top", "bottom"] := ⟨by kernel_rfl, by kernel_rfl, by kernel_rfl, by kernel_rfl, by kernel_rfl, by kernel_rfl, by kernel_rfl, by kernel_rfl, by kernel_rfl, by kernel_rfl, by kernel_rfl, by decide +kernel, vs1 fun a0 => by kernel_rfl, by kernel_rfl⟩
theorem ok_half_up  : FnOk (Gw w mg mb) 762 ["top", "bottom"] ["top", "bottom"] := ⟨by kernel_rfl, by kernel_rfl, by kernel_rfl, by kernel_rfl, by kernel_rfl, by kernel_rfl, by kernel_rfl, by kernel_rfl, by kernel_rfl, by kernel_rfl, by kernel_rfl, by decide +kernel, vs2 fun a0 a1 => by kernel_rfl, by kernel_rfl⟩
theorem ok_to_fixed  : FnOk (Gw w mg mb) 769 ["bits", "many"] ["bits", "many", "told", "sign", "top", "bottom", "figures"] := ⟨by kernel_rfl, by kernel_rfl, by kernel_rfl, by kernel_rfl, by kernel_rfl, by kernel_rfl, by kernel_rfl, by kernel_rfl, by kernel_rfl, by kernel_rfl, by kernel_rfl, by decide +kernel, vs2 fun a0 a1 => by kernel_rfl, by kernel_rfl⟩
theorem ok_rounded  : FnOk (Gw w mg mb) 776 ["top", "bottom", "many"] ["top", "bottom", "many", "exponent", "shift", "found"] := ⟨by kernel_rfl, by kernel_rfl, by kernel_rfl, by kernel_rfl, by kernel_rfl, by kernel_rfl, by kernel_rfl, by kernel_rfl, by kernel_rfl, by kernel_rfl, by kernel_rfl, by decide +kernel, vs3 fun a0 a1 a2 => by kernel_rfl, by kernel_rfl⟩
theorem ok_to_exponential  : FnOk (Gw w mg mb) 783 ["bits", "many"] ["bits", "many", "told", "sign", "top", "bottom", "figures", "place", "exponent"] := ⟨by kernel_rfl, by kernel_rfl, by kernel_rfl, by kernel_rfl, by kernel_rfl, by kernel_rfl, by kernel_rfl, by kernel_rfl, by kernel_rfl, by kernel_rfl, by kernel_rfl, by decide +kernel, vs2 fun a0 a1 => by kernel_rfl, by kernel_rfl⟩
theorem ok_to_precision  : FnOk (Gw w mg mb) 790 ["bits", "many"] ["bits", "many", "told", "sign", "top", "bottom", "figures", "exponent"] := ⟨by kernel_rfl, by kernel_rfl, by kernel_rfl, by kernel_rfl, by kernel_rfl, by kernel_rfl, by kernel_rfl, by kernel_rfl, by kernel_rfl, by kernel_rfl, by kernel_rfl, by decide +kernel, vs2 fun a0 a1 => by kernel_rfl, by kernel_rfl⟩
theorem ok_this_number  : FnOk (Gw w mg mb) 816 ["this"] ["this"] := ⟨by kernel_rfl, by kernel_rfl, by kernel_rfl, by kernel_rfl, by kernel_rfl, by kernel_rfl, by kernel_rfl, by kernel_rfl, by kernel_rfl, by kernel_rfl, by kernel_rfl, by decide +kernel, vs1 fun a0 => by kernel_rfl, by kernel_rfl⟩
theorem ok_check_within  : FnOk (Gw w mg mb) 823 ["many", "least", "most", "what"] ["many", "least", "most", "what"] := ⟨by kernel_rfl, by kernel_rfl, by kernel_rfl, by kernel_rfl, by kernel_rfl, by kernel_rfl, by kernel_rfl, by kernel_rfl, by kernel_rfl, by kernel_rfl, by kernel_rfl, by decide +kernel, vs4 fun a0 a1 a2 a3 => by kernel_rfl, by kernel_rfl⟩
theorem ok_in_radix  : FnOk (Gw w mg mb) 830 ["bits", "radix"] ["bits", "radix"] := ⟨by kernel_rfl, by kernel_rfl, by kernel_rfl, by kernel_rfl, by kernel_rfl, by kernel_rfl, by kernel_rfl, by kernel_rfl, by kernel_rfl, by kernel_rfl, by kernel_rfl, by decide +kernel, vs2 fun a0 a1 => by kernel_rfl, by kernel_rfl⟩
theorem ok_with_exponent_of  : FnOk (Gw w mg mb) 837 ["bits", "many"] ["bits", "many", "told"] := ⟨by kernel_rfl, by kernel_rfl, by kernel_rfl, by kernel_rfl, by kernel_rfl, by kernel_rfl, by kernel_rfl, by kernel_rfl, by kernel_rfl, by kernel_rfl, by kernel_rfl, by decide +kernel, vs2 fun a0 a1 => by kernel_rfl, by kernel_rfl⟩
theorem ok_with_precision  : FnOk (Gw w mg mb) 844 ["bits", "many"] ["bits", "many", "told"] := ⟨by kernel_rfl, by kernel_rfl, by kernel_rfl, by kernel_rfl, by kernel_rfl, by kernel_rfl, by kernel_rfl, by kernel_rfl, by kernel_rfl, by kernel_rfl, by kernel_rfl, by decide +kernel, vs2 fun a0 a1 => by kernel_rfl, by kernel_rfl⟩
theorem ok_count_of  : FnOk (Gw w mg mb) 851 ["vm", "args"] ["vm", "args", "told"] := ⟨by kernel_rfl, by kernel_rfl, by kernel_rfl, by kernel_rfl, by kernel_rfl, by kernel_rfl, by kernel_rfl, by kernel_rfl, by kernel_rfl, by kernel_rfl, by kernel_rfl, by decide +kernel, vs2 fun a0 a1 => by kernel_rfl, by kernel_rfl⟩
theorem ok_number_text  : FnOk (Gw w mg mb) 858 ["vm", "this", "args"] ["vm", "this", "args", "bits", "radix"] := ⟨by kernel_rfl, by kernel_rfl, by kernel_rfl, by kernel_rfl, by kernel_rfl, by kernel_rfl, by kernel_rfl, by kernel_rfl, by kernel_rfl, by kernel_rfl, by kernel_rfl, by decide +kernel, vs3 fun a0 a1 a2 => by kernel_rfl, by kernel_rfl⟩
theorem ok_number_fixed  : FnOk (Gw w mg mb) 865 ["vm", "this", "args"] ["vm", "this", "args", "told", "many"] := ⟨by kernel_rfl, by kernel_rfl, by kernel_rfl, by kernel_rfl, by kernel_rfl, by kernel_rfl, by kernel_rfl, by kernel_rfl, by kernel_rfl, by kernel_rfl, by kernel_rfl, by decide +kernel, vs3 fun a0 a1 a2 => by kernel_rfl, by kernel_rfl⟩
theorem ok_number_exponential  : FnOk (Gw w mg mb) 872 ["vm", "this", "args"] ["vm", "this", "args", "bits"] := ⟨by kernel_rfl, by kernel_rfl, by kernel_rfl, by kernel_rfl, by kernel_rfl, by kernel_rfl, by kernel_rfl, by kernel_rfl, by kernel_rfl, by kernel_rfl, by kernel_rfl, by decide +kernel, vs3 fun a0 a1 a2 => by kernel_rfl, by kernel_rfl⟩
theorem ok_number_precision  : FnOk (Gw w mg mb) 879 ["vm", "this", "args"] ["vm", "this", "args", "bits", "many"] := ⟨by kernel_rfl, by kernel_rfl, by kernel_rfl, by kernel_rfl, by kernel_rfl, by kernel_rfl, by kernel_rfl, by kernel_rfl, by kernel_rfl, by kernel_rfl, by kernel_rfl, by decide +kernel, vs3 fun a0 a1 a2 => by kernel_rfl, by kernel_rfl⟩
theorem ok_law_cell  : FnOk (Gw w mg mb) 886 ["script", "at"] ["script", "at"] := ⟨by kernel_rfl, by kernel_rfl, by kernel_rfl, by kernel_rfl, by kernel_rfl, by kernel_rfl, by kernel_rfl, by kernel_rfl, by kernel_rfl, by kernel_rfl, by kernel_rfl, by decide +kernel, vs2 fun a0 a1 => by kernel_rfl, by kernel_rfl⟩
theorem ok_law_bits  : FnOk (Gw w mg mb) 893 ["top", "s"] ["top", "s", "size", "rest", "sign"] := ⟨by kernel_rfl, by kernel_rfl, by kernel_rfl, by kernel_rfl, by kernel_rfl, by kernel_rfl, by kernel_rfl, by kernel_rfl, by kernel_rfl, by kernel_rfl, by kernel_rfl, by decide +kernel, vs2 fun a0 a1 => by kernel_rfl, by kernel_rfl⟩
theorem ok_law_tried  : FnOk (Gw w mg mb) 900 ["work", "this", "args"] ["work", "this", "args", "e"] := ⟨by kernel_rfl, by kernel_rfl, by kernel_rfl, by kernel_rfl, by kernel_rfl, by kernel_rfl, by kernel_rfl, by kernel_rfl, by kernel_rfl, by kernel_rfl, by kernel_rfl, by decide +kernel, vs3 fun a0 a1 a2 => by kernel_rfl, by kernel_rfl⟩
theorem ok_law_count  : FnOk (Gw w mg mb) 907 ["n"] ["n", "form", "many"] := ⟨by kernel_rfl, by kernel_rfl, by kernel_rfl, by kernel_rfl, by kernel_rfl, by kernel_rfl, by kernel_rfl, by kernel_rfl, by kernel_rfl, by kernel_rfl, by kernel_rfl, by decide +kernel, vs1 fun a0 => by kernel_rfl, by kernel_rfl⟩
theorem ok_law_signed  : FnOk (Gw w mg mb) 919 ["n", "is_below"] ["n", "is_below"] := ⟨by kernel_rfl, by kernel_rfl, by kernel_rfl, by kernel_rfl, by kernel_rfl, by kernel_rfl, by kernel_rfl, by kernel_rfl, by kernel_rfl, by kernel_rfl, by kernel_rfl, by decide +kernel, vs2 fun a0 a1 => by kernel_rfl, by kernel_rfl⟩
theorem ok_law_wholes_right  : FnOk (Gw w mg mb) 926 ["top", "s"] ["top", "s", "args", "unit", "is_below"] := ⟨by kernel_rfl, by kernel_rfl, by kernel_rfl, by kernel_rfl, by kernel_rfl, by kernel_rfl, by kernel_rfl, by kernel_rfl, by kernel_rfl, by kernel_rfl, by kernel_rfl, by decide +kernel, vs2 fun a0 a1 => by kernel_rfl, by kernel_rfl⟩
theorem ok_law  : FnOk (Gw w mg mb) 938 ["script"] ["script", "turn", "a", "b", "n", "top", "s", "bits", "base", "many", "edges"] := ⟨by kernel_rfl, by kernel_rfl, by kernel_rfl, by kernel_rfl, by kernel_rfl, by kernel_rfl, by kernel_rfl, by kernel_rfl, by kernel_rfl, by kernel_rfl, by kernel_rfl, by decide +kernel, vs1 fun a0 => by kernel_rfl, by kernel_rfl⟩
end
section
open Builtin (bitAnd bitOr bitXor)

/-! ## bits -/
theorem and_pos {a b : Int} (ha : 0 ≤ a) (hb : 0 ≤ b) : bitAnd a b = ((a.toNat &&& b.toNat : Nat) : Int) := by
  unfold Builtin.bitAnd
  rw [decide_eq_true ha, decide_eq_true hb]
theorem or_pos {a b : Int} (ha : 0 ≤ a) (hb : 0 ≤ b) : bitOr a b = ((a.toNat ||| b.toNat : Nat) : Int) := by
  unfold Builtin.bitOr Builtin.bitAnd
  rw [decide_eq_false (show ¬ 0 ≤ Builtin.bitNot a by unfold Builtin.bitNot; walk_at "om"), decide_eq_false (show ¬ 0 ≤ Builtin.bitNot b by unfold Builtin.bitNot; walk_at "om")]
  have e : ∀ x : Int, Builtin.bitNot (Builtin.bitNot x) = x := fun x => by unfold Builtin.bitNot; walk_at "om"
  simp only [e]
theorem and_mask {a : Int} (k : Nat) (ha : 0 ≤ a) {m : Int} (hm : m = 2 ^ k - 1) : bitAnd a m = a % 2 ^ k := by
  have h1 : (0 : Int) < 2 ^ k := Int.pow_pos (by decide)
  have h2 : m.toNat = 2 ^ k - 1 := by
    have : ((2 ^ k : Nat) : Int) = 2 ^ k := by simp
    walk_at "om"
  rw [and_pos ha (by walk_at "om"), h2, Nat.and_two_pow_sub_one_eq_mod]
  have : ((2 ^ k : Nat) : Int) = 2 ^ k := by simp
  rw [Int.natCast_emod, Int.toNat_of_nonneg ha, this]
theorem or_low {a b : Int} (k : Nat) {c : Int} (ha : a = c * 2 ^ k) (hc : 0 ≤ c) (hb : 0 ≤ b) (hl : b < 2 ^ k) : bitOr a b = a + b := by
  have hp : ((2 ^ k : Nat) : Int) = 2 ^ k := by simp
  have h1 : (0 : Int) < 2 ^ k := Int.pow_pos (by decide)
  have ha0 : 0 ≤ a := by rw [ha]; exact Int.mul_nonneg hc (Int.le_of_lt h1)
  rw [or_pos ha0 hb]
  have e1 : a.toNat = 2 ^ k * c.toNat := by
    have : (a.toNat : Int) = ((2 ^ k * c.toNat : Nat) : Int) := by
      rw [Int.toNat_of_nonneg ha0, Int.natCast_mul, Int.toNat_of_nonneg hc, hp, ha, Int.mul_comm]
    exact_mod_cast this
  rw [e1, ← Nat.two_pow_add_eq_or_of_lt (by walk_at "om"), ← e1]
  walk_at "om"

theorem or_comm' (a b : Int) : bitOr a b = bitOr b a := by
  unfold Builtin.bitOr
  rw [bitAnd_comm]

theorem shl_sz {a b : Int} (k : Nat) (ha : a.natAbs < 2 ^ k) (hb : (k : Int) + b ≤ 2 ^ 27) : (Builtin.Int.intBits a : Int) + b ≤ 2 ^ 27 := by
  have := intBits_le ha
  walk_at "om"
theorem log2_lt_of {n k : Nat} (h : n < 2 ^ k) (hk : 0 < k) : n.log2 < k := by
  rcases Nat.eq_zero_or_pos n with h0 | hp
  · subst h0; exact hk
  · exact (Nat.log2_lt (Nat.ne_of_gt hp)).mpr h
theorem div_sz {b : Int} (k : Nat) (h : b.natAbs < 2 ^ k) (hk : 0 < k ∧ k ≤ 9000) : b.natAbs.log2 < 9000 := Nat.lt_of_lt_of_le (log2_lt_of h hk.1) hk.2
end
local macro_rules | `(tactic| walk_at "z") => `(tactic| first | decide | walk_at "om")
local macro_rules | `(tactic| walk_at "sh") => `(tactic| first | exact shl_sz 64 (by walk_at "om") (by walk_at "om") | exact shl_sz 256 (by walk_at "om") (by walk_at "om"))
local macro_rules | `(tactic| walk_at "dv") => `(tactic| first | exact div_sz 64 (by walk_at "om") (by decide) | exact div_sz 256 (by walk_at "om") (by decide))
local macro_rules | `(tactic| walk_at "ml") => `(tactic| first | exact IntMulOk.of_left (by decide) | exact IntMulOk.of_right (by decide) | exact IntMulOk.of_left (intBits_le_64 (by walk_at "om") (by walk_at "om")) | exact IntMulOk.of_right (intBits_le_64 (by walk_at "om") (by walk_at "om")))
section
variable {w : World} {mg mb : Str → Option Value}

theorem s_is_negative {b : Int} (hb : 0 ≤ b) : Fd (Gw w mg mb) 1 229 [.int b] (.bool (decide (b / 2 ^ 63 = 1))) := by
  refine fd_ret ok_is_negative rfl fun A L h₀ => ?_
  conv => arg 4; whnf
  exact es_ret' (ev_cmp (ev_bin (lv 0) ev_int (bin_shr (by walk_at "z"))) ev_int cmp_eq rfl) rfl

theorem m63 {b : Int} (hb : 0 ≤ b) : Builtin.bitAnd b (9223372036854775808 - 1) = b % 2 ^ 63 := and_mask 63 hb (by decide)

theorem s_is_nan {b : Int} (hb : 0 ≤ b) : Fd (Gw w mg mb) 1 236 [.int b] (.bool (decide (2047 * 2 ^ 52 < b % 2 ^ 63))) := by
  refine fd_ret ok_is_nan rfl fun A L h₀ => ?_
  conv => arg 4; whnf
  exact es_ret' (ev_cmp (ev_bin (lv 0) (ev_bin (gv g_SIGN_BIT) ev_int bin_sub) bin_and) (gv g_INF) cmp_gt rfl) (by rw [m63 hb]; rfl)

theorem s_is_inf {b : Int} (hb : 0 ≤ b) : Fd (Gw w mg mb) 1 243 [.int b] (.bool (decide (b % 2 ^ 63 = 2047 * 2 ^ 52))) := by
  refine fd_ret ok_is_inf rfl fun A L h₀ => ?_
  conv => arg 4; whnf
  exact es_ret' (ev_cmp (ev_bin (lv 0) (ev_bin (gv g_SIGN_BIT) ev_int bin_sub) bin_and) (gv g_INF) cmp_eq rfl) (by rw [m63 hb]; rfl)

theorem s_is_finite {b : Int} (hb : 0 ≤ b) : Fd (Gw w mg mb) 1 250 [.int b] (.bool (decide (b % 2 ^ 63 < 2047 * 2 ^ 52))) := by
  refine fd_ret ok_is_finite rfl fun A L h₀ => ?_
  conv => arg 4; whnf
  exact es_ret' (ev_cmp (ev_bin (lv 0) (ev_bin (gv g_SIGN_BIT) ev_int bin_sub) bin_and) (gv g_INF) cmp_lt rfl) (by rw [m63 hb]; rfl)

theorem s_is_zero {b : Int} (hb : 0 ≤ b) : Fd (Gw w mg mb) 1 257 [.int b] (.bool (decide (b % 2 ^ 63 = 0))) := by
  refine fd_ret ok_is_zero rfl fun A L h₀ => ?_
  conv => arg 4; whnf
  exact es_ret' (ev_cmp (ev_bin (lv 0) (ev_bin (gv g_SIGN_BIT) ev_int bin_sub) bin_and) ev_int cmp_eq rfl) (by rw [m63 hb])

theorem s_signed {g b : Int} (hg : 0 ≤ g) (hg1 : g ≤ 1) (hb : 0 ≤ b) : Fd (Gw w mg mb) 1 264 [.int g, .int b] (.int (b % 2 ^ 63 + g * 2 ^ 63)) := by
  refine fd_ret ok_signed rfl fun A L h₀ => ?_
  conv => arg 4; whnf
  refine es_ret' (ev_bin (ev_bin (lv 1) (ev_bin (gv g_SIGN_BIT) ev_int bin_sub) bin_and) (ev_bin (lv 0) ev_int (bin_shl (by walk_at "z") (by walk_at "sh"))) bin_or) ?_
  rw [m63 hb]
  have e : (63 : Int).toNat = 63 := rfl
  rw [e, or_comm', or_low 63 rfl hg (by walk_at "om") (by walk_at "om"), Int.add_comm]
end
section
/-! ## how many bits -/
noncomputable def bl (n : Nat) : Nat := if n = 0 then 0 else n.log2 + 1
theorem bl_lt (n : Nat) : n < 2 ^ bl n := by
  unfold bl
  split
  · walk_at "om"
  · exact Nat.lt_log2_self
theorem bl_le {n : Nat} (h : n ≠ 0) : 2 ^ (bl n - 1) ≤ n := by
  unfold bl
  rw [if_neg h]
  exact Nat.log2_self_le h
theorem bl_pos {n : Nat} (h : n ≠ 0) : 0 < bl n := by unfold bl; rw [if_neg h]; walk_at "om"
theorem bl_of {n k : Nat} (h1 : n < 2 ^ (k + 1)) (h2 : 2 ^ k ≤ n) : bl n = k + 1 := by
  have h0 : n ≠ 0 := by have := Nat.two_pow_pos k; walk_at "om"
  unfold bl
  rw [if_neg h0]
  have a := (Nat.log2_lt h0).mpr h1
  have b := (Nat.le_log2 h0).mpr h2
  walk_at "om"
theorem bl_le_of {n k : Nat} (h : n < 2 ^ k) : bl n ≤ k := by
  unfold bl
  split
  · walk_at "om"
  · rename_i h0
    have := (Nat.log2_lt h0).mpr h
    walk_at "om"
theorem bl_shift {m : Nat} (h : m ≠ 0) (i : Nat) : bl (m * 2 ^ i) = bl m + i := by
  have hp := bl_pos h
  have h1 := bl_lt m
  have h2 := bl_le h
  obtain ⟨k, hk⟩ : ∃ k, bl m = k + 1 := ⟨bl m - 1, by walk_at "om"⟩
  rw [hk] at h1 h2 ⊢
  have e : k + 1 + i = (k + i) + 1 := by walk_at "om"
  rw [e]
  refine bl_of ?_ ?_
  · rw [show k + i + 1 = (k + 1) + i by walk_at "om", Nat.pow_add]
    exact Nat.mul_lt_mul_of_pos_right h1 (Nat.two_pow_pos i)
  · rw [Nat.pow_add]
    exact Nat.mul_le_mul_right _ h2
theorem bl_div {n t : Nat} (h : 2 ^ t ≤ n) : bl n = bl (n / 2 ^ t) + t := by
  have hp := Nat.two_pow_pos t
  have h0 : n / 2 ^ t ≠ 0 := by
    have := (Nat.le_div_iff_mul_le hp).mpr (by walk_at "om" : 1 * 2 ^ t ≤ n)
    walk_at "om"
  have h1 := bl_lt (n / 2 ^ t)
  have h2 := bl_le h0
  have h3 := bl_pos h0
  obtain ⟨k, hk⟩ : ∃ k, bl (n / 2 ^ t) = k + 1 := ⟨bl (n / 2 ^ t) - 1, by walk_at "om"⟩
  rw [hk] at h1 h2 ⊢
  have e : k + 1 + t = (k + t) + 1 := by walk_at "om"
  rw [e]
  refine bl_of ?_ ?_
  · rw [show k + t + 1 = (k + 1) + t by walk_at "om", Nat.pow_add]
    exact (Nat.div_lt_iff_lt_mul hp).mp h1
  · rw [Nat.pow_add]
    exact (Nat.le_div_iff_mul_le hp).mp (by simpa using h2)
theorem bl_small {n : Nat} (h : n < 2) : bl n = n := by
  match n, h with
  | 0, _ => rfl
  | 1, _ => rfl

theorem natAbs_shl {a : Int} {k : Nat} (n : Nat) (h : a.natAbs < 2 ^ k) : (a * 2 ^ n).natAbs < 2 ^ (k + n) := by
  rw [Int.natAbs_mul, Nat.pow_add]
  have : ((2 : Int) ^ n).natAbs = 2 ^ n := by rw [Int.natAbs_pow]; rfl
  rw [this]
  exact Nat.mul_lt_mul_of_pos_right h (Nat.two_pow_pos n)

/-- the word of sign g, fraction m, power e: m * 2 ^ e -/
noncomputable def R (g : Int) (m : Nat) (e : Int) : Int := g * 2 ^ 63 + (1022 + bl m + e) * 2 ^ 52 + m * 2 ^ (53 - bl m) - 2 ^ 52
end
section
variable {w : World} {mg mb : Str → Option Value}

/-! ## width -/
theorem bl_shr {n : Int} (t : Nat) (h : (2 : Int) ^ t ≤ n) : (bl n.toNat : Int) = bl (n / 2 ^ t).toNat + t := by
  have hp : ((2 ^ t : Nat) : Int) = 2 ^ t := by simp
  have h0 : (0 : Int) < 2 ^ t := Int.pow_pos (by decide)
  have e : (n / 2 ^ t).toNat = n.toNat / 2 ^ t := by
    have : ((n / 2 ^ t).toNat : Int) = ((n.toNat / 2 ^ t : Nat) : Int) := by
      rw [Int.toNat_of_nonneg (Int.ediv_nonneg (by walk_at "om") (by walk_at "om")), Int.natCast_ediv, Int.toNat_of_nonneg (by walk_at "om"), hp]
    exact_mod_cast this
  rw [e, bl_div (t := t) (n := n.toNat) (by walk_at "om")]
  simp

theorem width_while {X : Cx} {t : Expr} {b rest : List Stmt} {o : Out} (n m : Int) (h0 : 0 ≤ n) (hn : n < 2 ^ 1280)
    (ht : ∀ n m : Int, 0 ≤ n → EB X [some (.int n), some (.int m), none] [] t (decide ((2 : Int) ^ 64 ≤ n)))
    (hb : ∀ n m : Int, 0 ≤ n → ES X [some (.int n), some (.int m), none] [] b (.next [some (.int (n / 2 ^ 64)), some (.int (m + 64)), none] []))
    (k : ∀ n' m' : Int, 0 ≤ n' → n' < 2 ^ 64 → m' + bl n'.toNat = m + bl n.toNat → ES X [some (.int n'), some (.int m'), none] [] rest o) :
    ∃ σ', EW X [some (.int n), some (.int m), none] [] t b (.next σ' []) ∧ ES X σ' [] rest o := by
  have key : ∀ (f : Nat) (n m : Int), 0 ≤ n → n < 2 ^ (64 * (f + 1)) → ∃ n' m' : Int, 0 ≤ n' ∧ n' < 2 ^ 64 ∧ m' + bl n'.toNat = m + bl n.toNat ∧ EW X [some (.int n), some (.int m), none] [] t b (.next [some (.int n'), some (.int m'), none] []) := by
    intro f
    induction f with
    | zero =>
      intro n m h0 hn
      have hn' : n < 2 ^ 64 := hn
      refine ⟨n, m, h0, hn', rfl, ew_false ?_⟩
      have := ht n m h0
      rwa [decide_eq_false (by walk_at "om")] at this
    | succ f ih =>
      intro n m h0 hn
      by_cases hc : (2 : Int) ^ 64 ≤ n
      · have hlt : n / 2 ^ 64 < 2 ^ (64 * (f + 1)) := by
          refine Int.ediv_lt_of_lt_mul (by decide) ?_
          rw [← Int.pow_add]
          exact hn
        obtain ⟨n', m', a1, a2, a3, a4⟩ := ih (n / 2 ^ 64) (m + 64) (Int.ediv_nonneg h0 (by decide)) hlt
        refine ⟨n', m', a1, a2, ?_, ew_next ?_ (hb n m h0) a4⟩
        · have := bl_shr 64 hc
          walk_at "om"
        · have := ht n m h0
          rwa [decide_eq_true hc] at this
      · refine ⟨n, m, h0, by walk_at "om", rfl, ew_false ?_⟩
        have := ht n m h0
        rwa [decide_eq_false hc] at this
  obtain ⟨n', m', a1, a2, a3, a4⟩ := key 19 n m h0 hn
  exact ⟨_, a4, k n' m' a1 a2 a3⟩

theorem width_for {X : Cx} {b rest : List Stmt} {o : Out} (n m : Int) (z : Option D) (h0 : 0 ≤ n) (hn : n < 2 ^ 64)
    (hb : ∀ (t : Nat) (n m : Int), 1 ≤ t → t ≤ 32 → 0 ≤ n → ES X [some (.int n), some (.int m), some (.int t)] [] b
      (.next [some (.int (if (2 : Int) ^ t ≤ n then n / 2 ^ t else n)), some (.int (if (2 : Int) ^ t ≤ n then m + t else m)), some (.int t)] []))
    (k : ∀ n' m' : Int, 0 ≤ n' → n' < 2 → m' + bl n'.toNat = m + bl n.toNat → ES X [some (.int n'), some (.int m'), some (.int 1)] [] rest o) :
    ∃ σ', FC X 2 b [.int 32, .int 16, .int 8, .int 4, .int 2, .int 1] [some (.int n), some (.int m), z] (.next σ' []) ∧ ES X σ' [] rest o := by
  have turn : ∀ (t : Nat) (n m : Int) (z : Option D) (ds : List D), 1 ≤ t → t ≤ 32 → 0 ≤ n → n < 2 ^ (2 * t) → ∀ P : Lo → Prop,
      (∀ n' m' : Int, 0 ≤ n' → n' < 2 ^ t → m' + bl n'.toNat = m + bl n.toNat → ∃ σ', FC X 2 b ds [some (.int n'), some (.int m'), some (.int t)] (.next σ' []) ∧ P σ') →
      ∃ σ', FC X 2 b (.int t :: ds) [some (.int n), some (.int m), z] (.next σ' []) ∧ P σ' := by
    intro t n m z ds t1 t2 h0 hn P hk
    obtain ⟨σ', h1, h2⟩ := hk (if (2 : Int) ^ t ≤ n then n / 2 ^ t else n) (if (2 : Int) ^ t ≤ n then m + t else m) (by split; exact Int.ediv_nonneg h0 (Int.pow_nonneg (by decide)); exact h0)
      (by
        split
        · refine Int.ediv_lt_of_lt_mul (Int.pow_pos (by decide)) ?_
          rw [← Int.pow_add, ← Nat.two_mul]; exact hn
        · walk_at "om")
      (by
        split
        · rename_i h; have := bl_shr t h; walk_at "om"
        · rfl)
    exact ⟨σ', FC.step (hb t n m t1 t2 h0) h1, h2⟩
  refine turn 32 n m z _ (by decide) (by decide) h0 hn _ fun n1 m1 a1 b1 c1 => ?_
  refine turn 16 n1 m1 _ _ (by decide) (by decide) a1 b1 _ fun n2 m2 a2 b2 c2 => ?_
  refine turn 8 n2 m2 _ _ (by decide) (by decide) a2 b2 _ fun n3 m3 a3 b3 c3 => ?_
  refine turn 4 n3 m3 _ _ (by decide) (by decide) a3 b3 _ fun n4 m4 a4 b4 c4 => ?_
  refine turn 2 n4 m4 _ _ (by decide) (by decide) a4 b4 _ fun n5 m5 a5 b5 c5 => ?_
  refine turn 1 n5 m5 _ _ (by decide) (by decide) a5 b5 _ fun n6 m6 a6 b6 c6 => ?_
  exact ⟨_, FC.nil _, k n6 m6 a6 b6 (by walk_at "om")⟩

theorem s_width {n : Int} (h0 : 0 ≤ n) (hn : n < 2 ^ 1280) : Fd (Gw w mg mb) 1 215 [.int n] (.int (bl n.toNat)) := by
  refine fd_ret ok_width rfl fun A L h₀ => ?_
  conv => arg 4; whnf
  refine es_cons (es_set 1 rfl ev_int (fun _ => rfl)) ?_
  refine es_while_ex (width_while n 0 h0 hn (fun n m h0 => ?_) (fun n m h0 => ?_) fun n' m' a1 a2 a3 => ?_)
  · exact (eb_cmp (lv 0) (ev_bin ev_int ev_int (bin_shl (by walk_at "z") (by walk_at "sh"))) cmp_ge rfl).eb
  · refine es_cons (es_set 0 rfl (ev_bin (lv 0) ev_int (bin_shr (by walk_at "z"))) (fun _ => rfl)) ?_
    refine es_cons (es_set 1 rfl (ev_bin (lv 1) ev_int bin_add) (fun _ => rfl)) ?_
    exact es_nil
  · refine es_for_tup_ex 2 rfl (ev_tup (ea_cons ev_int (ea_cons ev_int (ea_cons ev_int (ea_cons ev_int (ea_cons ev_int (ea_cons ev_int ea_nil)))))) (by walk_at "z")) (width_for n' m' _ a1 a2 (fun t n m t1 t2 h0 => ?_) fun n2 m2 b1 b2 b3 => ?_) (fun _ _ => rfl)
    · refine es_ifp ((2 : Int) ^ t ≤ n) (eb_cmp (lv 0) (ev_bin ev_int (lv 2) (bin_shl (by walk_at "z") (shl_sz 64 (by decide) (by walk_at "om")))) cmp_ge rfl).eb (by rw [Int.one_mul, Int.toNat_natCast]) (fun h1 => ?_) (fun h1 => ?_)
      · refine es_cons (es_set 0 rfl (ev_bin (lv 0) (lv 2) (bin_shr (by walk_at "z"))) (fun _ => rfl)) ?_
        refine es_cons (es_set 1 rfl (ev_bin (lv 1) (lv 2) bin_add) (fun _ => rfl)) ?_
        rw [if_pos h1, if_pos h1]
        exact es_nil
      · rw [if_neg h1, if_neg h1]
        exact es_nil
    · refine es_ret' (ev_bin (lv 1) (lv 0) bin_add) ?_
      have := bl_small (n := n2.toNat) (by walk_at "om")
      congr 1
      walk_at "om"

/-! ## the words' parts -/
theorem s_pack {g e f : Int} (g0 : 0 ≤ g) (g1 : g ≤ 1) (e0 : 0 ≤ e) (e1 : e < 2048) (f0 : 0 ≤ f) (f1 : f < 2 ^ 52) : Fd (Gw w mg mb) 1 222 [.int g, .int e, .int f] (.int (g * 2 ^ 63 + e * 2 ^ 52 + f)) := by
  refine fd_ret ok_pack rfl fun A L h₀ => ?_
  conv => arg 4; whnf
  refine es_ret' (ev_bin (ev_bin (ev_bin (lv 0) ev_int (bin_shl (by walk_at "z") (by walk_at "sh"))) (ev_bin (lv 1) (gv g_FRACTION_BITS) (bin_shl (by walk_at "z") (by walk_at "sh"))) bin_or) (lv 2) bin_or) ?_
  have t1 : (63 : Int).toNat = 63 := rfl
  have t2 : (52 : Int).toNat = 52 := rfl
  rw [t1, t2, or_low (a := g * 2 ^ 63) (b := e * 2 ^ 52) 63 (c := g) rfl g0 (by walk_at "om") (by walk_at "om"), or_low 52 (c := g * 2 ^ 11 + e) (by walk_at "om") (by walk_at "om") f0 f1]

theorem m52 {b : Int} (hb : 0 ≤ b) : Builtin.bitAnd b 4503599627370495 = b % 2 ^ 52 := and_mask 52 hb (by decide)
theorem m11 {b : Int} (hb : 0 ≤ b) : Builtin.bitAnd b 2047 = b % 2 ^ 11 := and_mask 11 hb (by decide)

theorem s_parts {b : Int} (hb : 0 ≤ b) : Fd (Gw w mg mb) 1 271 [.int b]
    (.tup [.int (b / 2 ^ 63), .int (if b / 2 ^ 52 % 2 ^ 11 = 0 then b % 2 ^ 52 else b % 2 ^ 52 + 2 ^ 52), .int (if b / 2 ^ 52 % 2 ^ 11 = 0 then -1074 else b / 2 ^ 52 % 2 ^ 11 - 1075)]) := by
  refine fd_ret ok_parts rfl fun A L h₀ => ?_
  conv => arg 4; whnf
  refine es_cons (es_unpackS [1, 2, 3] rfl rfl rfl (ev_tup (ea_cons (ev_bin (lv 0) ev_int (bin_shr (by walk_at "z"))) (ea_cons (ev_bin (ev_bin (lv 0) (gv g_FRACTION_BITS) (bin_shr (by walk_at "z"))) (gv g_EXPONENT_MASK) bin_and) (ea_cons (ev_bin (lv 0) (gv g_FRACTION_MASK) bin_and) ea_nil)))) (fun _ => rfl) (by kernel_rfl)) ?_
  have e1 : b / 2 ^ (52 : Int).toNat = b / 2 ^ 52 := rfl
  rw [m52 hb, m11 (by rw [e1]; walk_at "om"), e1]
  refine es_ifd (eb_cmp (lv 2) ev_int cmp_eq rfl).eb (fun h1 => ?_) (fun h1 => ?_)
  · rw [if_pos h1, if_pos h1]
    exact es_ret' (ev_tup (ea_cons (lv 1) (ea_cons (lv 3) (ea_cons (gv g_LEAST_POWER_dbits) ea_nil)))) rfl
  · rw [if_neg h1, if_neg h1]
    refine es_ret' (ev_tup (ea_cons (lv 1) (ea_cons (ev_bin (lv 3) (gv g_HIDDEN_BIT_dbits) bin_or) (ea_cons (ev_bin (lv 2) (gv g_EXPONENT_SHIFT) bin_sub) ea_nil)))) ?_
    rw [or_comm', or_low (a := 4503599627370496) 52 (c := 1) (by decide) (by decide) (by walk_at "om") (by walk_at "om"), Int.add_comm]
    rfl

theorem s_quotient {t u p : Int} (t0 : 0 ≤ t) (t1 : t.natAbs < 2 ^ 1280) (u0 : 0 < u) (u1 : u.natAbs < 2 ^ 1280) (p0 : -2000 ≤ p) (p1 : p ≤ 2000) : Fd (Gw w mg mb) 1 285 [.int t, .int u, .int p]
    (.tup (if 0 ≤ p then [.int (t / (u * 2 ^ p.toNat)), .int (t % (u * 2 ^ p.toNat)), .int (u * 2 ^ p.toNat)] else [.int (t * 2 ^ (-p).toNat / u), .int (t * 2 ^ (-p).toNat % u), .int u])) := by
  refine fd_ret ok_quotient rfl fun A L h₀ => ?_
  conv => arg 4; whnf
  refine es_ifd (eb_cmp (lv 2) ev_int cmp_ge rfl).eb (fun h1 => ?_) (fun h1 => ?_)
  · rw [if_pos h1]
    have hpos : 0 < u * 2 ^ p.toNat := Int.mul_pos u0 (Int.pow_pos (by decide))
    refine es_cons (es_set 1 rfl (ev_bin (lv 1) (lv 2) (bin_shl (by walk_at "z") (shl_sz 1280 u1 (by walk_at "om")))) (fun _ => rfl)) ?_
    exact es_ret' (ev_tup (ea_cons (ev_bin (lv 0) (lv 1) (bin_div hpos (div_sz (1280 + p.toNat) (natAbs_shl _ u1) (by walk_at "om")))) (ea_cons (ev_bin (lv 0) (lv 1) (bin_mod hpos)) (ea_cons (lv 1) ea_nil)))) rfl
  · rw [if_neg h1]
    refine es_cons (es_set 0 rfl (ev_bin (lv 0) (ev_neg (lv 2)) (bin_shl (by walk_at "z") (shl_sz 1280 t1 (by walk_at "om")))) (fun _ => rfl)) ?_
    exact es_ret' (ev_tup (ea_cons (ev_bin (lv 0) (lv 1) (bin_div u0 (div_sz 1280 u1 (by decide)))) (ea_cons (ev_bin (lv 0) (lv 1) (bin_mod u0)) (ea_cons (lv 1) ea_nil)))) rfl

/-- the words of normal numbers alone -/
theorem s_assembled {g k p : Int} (g0 : 0 ≤ g) (g1 : g ≤ 1) (k0 : 2 ^ 52 ≤ k) (k1 : k < 2 ^ 53) (p0 : -1074 ≤ p) (p1 : p < 900) : Fd (Gw w mg mb) 2 299 [.int g, .int k, .int p] (.int (g * 2 ^ 63 + (p + 1075) * 2 ^ 52 + (k - 2 ^ 52))) := by
  refine fd_ret ok_assembled rfl fun A L h₀ => ?_
  conv => arg 4; whnf
  refine es_ifd (eb_cmp (lv 1) (ev_bin (gv g_HIDDEN_BIT_dbits) ev_int (bin_shl (by walk_at "z") (by walk_at "sh"))) cmp_eq rfl).eb (fun h1 => ?_) (fun h1 => ?_)
  · exfalso
    have : (4503599627370496 : Int) * 2 ^ (1 : Int).toNat = 2 ^ 53 := rfl
    walk_at "om"
  · refine es_ifd (eb_cmp (lv 1) (gv g_HIDDEN_BIT_dbits) cmp_lt rfl).eb (fun h4 => ?_) (fun h4 => ?_)
    · walk_at "om"
    · refine es_cons (es_set 3 rfl (ev_bin (lv 2) (gv g_EXPONENT_SHIFT) bin_add) (fun _ => rfl)) ?_
      refine es_ifd (eb_cmp (lv 3) (gv g_EXPONENT_MASK) cmp_ge rfl).eb (fun h5 => ?_) (fun h5 => ?_)
      · walk_at "om"
      · exact es_ret' (cl (gv g_pack) (ea_cons (lv 0) (ea_cons (lv 3) (ea_cons (ev_bin (lv 1) (gv g_HIDDEN_BIT_dbits) bin_sub) ea_nil))) (s_pack g0 g1 (by walk_at "om") (by walk_at "om") (by walk_at "om") (by walk_at "om"))) rfl
end
section
variable {w : World} {mg mb : Str → Option Value}

theorem pow_cast (k : Nat) : ((2 ^ k : Nat) : Int) = 2 ^ k := by simp
theorem pow_pos2 (k : Nat) : (0 : Int) < 2 ^ k := Int.pow_pos (by decide)

/-- an exact quotient of powers of two -/
theorem quot_exact (m : Int) (i j q : Nat) (p : Int) (h : (i : Int) - j - p = q) :
    ∃ u : Int, 0 < u ∧ (if 0 ≤ p then [D.int (m * 2 ^ i / (2 ^ j * 2 ^ p.toNat)), .int (m * 2 ^ i % (2 ^ j * 2 ^ p.toNat)), .int (2 ^ j * 2 ^ p.toNat)]
      else [.int (m * 2 ^ i * 2 ^ (-p).toNat / 2 ^ j), .int (m * 2 ^ i * 2 ^ (-p).toNat % 2 ^ j), .int (2 ^ j)]) = [.int (m * 2 ^ q), .int 0, .int u] := by
  by_cases hp : 0 ≤ p
  · refine ⟨2 ^ j * 2 ^ p.toNat, Int.mul_pos (pow_pos2 _) (pow_pos2 _), ?_⟩
    rw [if_pos hp]
    have e : m * 2 ^ i = m * 2 ^ q * (2 ^ j * 2 ^ p.toNat) := by
      rw [show i = q + (j + p.toNat) by walk_at "om", Int.pow_add, Int.pow_add, Int.mul_assoc]
    have hne : (2 : Int) ^ j * 2 ^ p.toNat ≠ 0 := by have := Int.mul_pos (pow_pos2 j) (pow_pos2 p.toNat); walk_at "om"
    rw [e, Int.mul_ediv_cancel _ hne, Int.mul_emod_left]
  · refine ⟨2 ^ j, pow_pos2 _, ?_⟩
    rw [if_neg hp]
    have e : m * 2 ^ i * 2 ^ (-p).toNat = m * 2 ^ q * 2 ^ j := by
      rw [Int.mul_assoc, Int.mul_assoc, ← Int.pow_add, ← Int.pow_add]
      congr 2
      walk_at "om"
    have hne : (2 : Int) ^ j ≠ 0 := by have := pow_pos2 j; walk_at "om"
    rw [e, Int.mul_ediv_cancel _ hne, Int.mul_emod_left]

theorem bl_pow2 (j : Nat) : bl (2 ^ j) = j + 1 := bl_of (Nat.pow_lt_pow_right (by decide) (by walk_at "om")) (Nat.le_refl _)
theorem toNat_mulpow (m : Nat) (i : Nat) : ((m : Int) * 2 ^ i).toNat = m * 2 ^ i := by
  have : ((m : Int) * 2 ^ i) = ((m * 2 ^ i : Nat) : Int) := by simp
  rw [this, Int.toNat_natCast]
theorem toNat_pow (i : Nat) : ((2 : Int) ^ i).toNat = 2 ^ i := by rw [← pow_cast, Int.toNat_natCast]
theorem lead_lo {m k : Nat} (h0 : m ≠ 0) (h : bl m ≤ k + 1) : (2 : Int) ^ k ≤ (m : Int) * 2 ^ (k + 1 - bl m) := by
  have h1 := bl_le h0
  have h2 := bl_pos h0
  have : 2 ^ k ≤ m * 2 ^ (k + 1 - bl m) := by
    calc 2 ^ k = 2 ^ (bl m - 1) * 2 ^ (k + 1 - bl m) := by rw [← Nat.pow_add]; congr 1; walk_at "om"
      _ ≤ m * 2 ^ (k + 1 - bl m) := Nat.mul_le_mul_right _ h1
  have h3 : ((2 ^ k : Nat) : Int) ≤ ((m * 2 ^ (k + 1 - bl m) : Nat) : Int) := by exact_mod_cast this
  simpa using h3
theorem lead_hi {m k : Nat} (h : bl m ≤ k + 1) : (m : Int) * 2 ^ (k + 1 - bl m) < 2 ^ (k + 1) := by
  have h1 := bl_lt m
  have : m * 2 ^ (k + 1 - bl m) < 2 ^ (k + 1) := by
    calc m * 2 ^ (k + 1 - bl m) < 2 ^ bl m * 2 ^ (k + 1 - bl m) := Nat.mul_lt_mul_of_pos_right h1 (Nat.two_pow_pos _)
      _ = 2 ^ (k + 1) := by rw [← Nat.pow_add]; congr 1; walk_at "om"
  have h3 : ((m * 2 ^ (k + 1 - bl m) : Nat) : Int) < ((2 ^ (k + 1) : Nat) : Int) := by exact_mod_cast this
  simpa using h3
theorem natAbs_mulpow {m i k : Nat} (h : m < 2 ^ k) : ((m : Int) * 2 ^ i).natAbs < 2 ^ (k + i) := natAbs_shl i (by simpa using h)

theorem s_quotient_exact {m i j : Nat} {p : Int} (q : Nat) (m0 : m ≠ 0) (m1 : m < 2 ^ 53) (hi : i ≤ 300) (hj : j ≤ 300) (p0 : -2000 ≤ p) (p1 : p ≤ 2000) (h : (i : Int) - j - p = q) :
    ∃ u : Int, 0 < u ∧ Fd (Gw w mg mb) 1 285 [.int ((m : Int) * 2 ^ i), .int (2 ^ j), .int p] (.tup [.int ((m : Int) * 2 ^ q), .int 0, .int u]) := by
  have mt : (0 : Int) < (m : Int) * 2 ^ i := Int.mul_pos (by walk_at "om") (pow_pos2 i)
  have tsz : ((m : Int) * 2 ^ i).natAbs < 2 ^ 1280 := Nat.lt_of_lt_of_le (natAbs_mulpow m1) (Nat.pow_le_pow_right (by decide) (by walk_at "om"))
  have usz : ((2 : Int) ^ j).natAbs < 2 ^ 1280 := by
    rw [Int.natAbs_pow]
    exact Nat.pow_lt_pow_right (by decide) (by walk_at "om")
  obtain ⟨u, hu, e⟩ := quot_exact m i j q p h
  refine ⟨u, hu, ?_⟩
  have := s_quotient (w := w) (mg := mg) (mb := mb) (t := (m : Int) * 2 ^ i) (u := 2 ^ j) (p := p) (by walk_at "om") tsz (pow_pos2 j) usz p0 p1
  rwa [e] at this

theorem s_round_ratio_exact {g : Int} {m i j : Nat} (g0 : 0 ≤ g) (g1 : g ≤ 1) (m0 : m ≠ 0) (m1 : m < 2 ^ 53) (hi : i ≤ 300) (hj : j ≤ 300) :
    Fd (Gw w mg mb) 3 292 [.int g, .int ((m : Int) * 2 ^ i), .int (2 ^ j)] (.int (R g m ((i : Int) - j))) := by
  have hn := bl_le_of m1
  have hn0 := bl_pos m0
  have mt : (0 : Int) < (m : Int) * 2 ^ i := Int.mul_pos (by walk_at "om") (pow_pos2 i)
  have tsz : ((m : Int) * 2 ^ i).natAbs < 2 ^ 1280 := Nat.lt_of_lt_of_le (natAbs_mulpow m1) (Nat.pow_le_pow_right (by decide) (by walk_at "om"))
  have usz : ((2 : Int) ^ j).natAbs < 2 ^ 1280 := by
    rw [Int.natAbs_pow]
    exact Nat.pow_lt_pow_right (by decide) (by walk_at "om")
  have tlt : (m : Int) * 2 ^ i < 2 ^ 1280 := by have := pow_cast 1280; walk_at "om"
  have ult : (2 : Int) ^ j < 2 ^ 1280 := by have := pow_cast 1280; have := pow_pos2 j; walk_at "om"
  have wt : (bl ((m : Int) * 2 ^ i).toNat : Int) = bl m + i := by rw [toNat_mulpow, bl_shift m0]; simp
  have wu : (bl ((2 : Int) ^ j).toNat : Int) = j + 1 := by rw [toNat_pow, bl_pow2]; simp
  have ep : max ((bl ((m : Int) * 2 ^ i).toNat : Int) - (bl ((2 : Int) ^ j).toNat : Int) - 53) (-1074) = bl m + i - j - 54 := by rw [wt, wu]; walk_at "om"
  refine fd_ret ok_round_ratio rfl fun A L h₀ => ?_
  conv => arg 4; whnf
  refine es_ifd (eb_cmp (lv 1) ev_int cmp_eq rfl).eb (fun h1 => ?_) (fun h1 => ?_)
  · walk_at "om"
  · refine es_cons (es_set 3 rfl (clB (bv b_max) (ea_cons (ev_bin (ev_bin (cl (gv g_width) (ea_cons (lv 1) ea_nil) (s_width (by walk_at "om") tlt)) (cl (gv g_width) (ea_cons (lv 2) ea_nil) (s_width (Int.le_of_lt (pow_pos2 j)) ult)) bin_sub) ev_int bin_sub) (ea_cons (gv g_LEAST_POWER_dbits) ea_nil)) bi_max) (fun _ => rfl)) ?_
    rw [ep]
    obtain ⟨u1, hu1, sq1⟩ := s_quotient_exact (w := w) (mg := mg) (mb := mb) (m := m) (i := i) (j := j) (p := bl m + i - j - 54) (54 - bl m) m0 m1 hi hj (by walk_at "om") (by walk_at "om") (by walk_at "om")
    obtain ⟨u2, hu2, sq2⟩ := s_quotient_exact (w := w) (mg := mg) (mb := mb) (m := m) (i := i) (j := j) (p := bl m + i - j - 54 + 1) (53 - bl m) m0 m1 hi hj (by walk_at "om") (by walk_at "om") (by walk_at "om")
    have l54 := lead_lo (m := m) (k := 53) m0 (by walk_at "om")
    have l53 := lead_lo (m := m) (k := 52) m0 (by walk_at "om")
    have h53 := lead_hi (m := m) (k := 52) (by walk_at "om")
    refine es_cons (es_unpack [4, 5, 6] rfl rfl rfl (cl (gv g_quotient) (ea_cons (lv 1) (ea_cons (lv 2) (ea_cons (lv 3) ea_nil))) sq1) (fun _ => rfl) (fun _ => rfl)) ?_
    refine es_ifd (eb_cmp (lv 4) (ev_bin (gv g_HIDDEN_BIT_dbits) ev_int (bin_shl (by walk_at "z") (by walk_at "sh"))) cmp_ge rfl).eb (fun h2 => ?_) (fun h2 => ?_)
    · refine es_cons (es_set 3 rfl (ev_bin (lv 3) ev_int bin_add) (fun _ => rfl)) ?_
      refine es_cons (es_unpack [4, 5, 6] rfl rfl rfl (cl (gv g_quotient) (ea_cons (lv 1) (ea_cons (lv 2) (ea_cons (lv 3) ea_nil))) sq2) (fun _ => rfl) (fun _ => rfl)) ?_
      refine es_if (eb_or (eb_cmp (ev_bin ev_int (lv 5) (bin_mul (by walk_at "ml"))) (lv 6) cmp_gt rfl).eb (fun _ => (eb_or (eb_and (eb_cmp (ev_bin ev_int (lv 5) (bin_mul (by walk_at "ml"))) (lv 6) cmp_eq rfl).eb (fun _ => (eb_and (eb_cmp (ev_bin (lv 4) ev_int (bin_mod (by walk_at "z"))) ev_int cmp_eq rfl).eb (fun _ => eb_and_nil)))).eb (fun _ => eb_or_nil)))).eb (fun h3 => ?_) (fun h3 => ?_)
      · exfalso
        rw [decide_eq_false (show ¬ (u2 < 2 * 0) by walk_at "om"), decide_eq_false (show ¬ (2 * 0 = u2) by walk_at "om")] at h3
        simp at h3
      · refine es_ret' (cl (gv g_assembled) (ea_cons (lv 0) (ea_cons (lv 4) (ea_cons (lv 3) ea_nil))) (s_assembled g0 g1 l53 h53 (by walk_at "om") (by walk_at "om"))) ?_
        unfold R
        congr 1
        have e : 52 + 1 - bl m = 53 - bl m := by walk_at "om"
        rw [e]
        walk_at "om"
    · exfalso
      have : (4503599627370496 : Int) * 2 ^ (1 : Int).toNat = 2 ^ 53 := rfl
      have e : 53 + 1 - bl m = 54 - bl m := by walk_at "om"
      rw [e] at l54
      walk_at "om"
end
section
/-! ## items and slices -/
noncomputable def notSlice : Expr → Bool
  | .Slice .. => false
  | _ => true
theorem sub_plain {i : Expr} (h : notSlice i = true) (o v : Value) : subscripted i false o v = operate [o, v] (getItem o v) := by
  cases i <;> first | rfl | cases h

section
variable {X : Cx} {σ : Lo} {μ : Mu}

theorem ev_itemT {e i : Expr} {p : Pos} {ds : List D} {k : Int} {d : D} (h : EE X σ μ e (.tup ds)) (hi : EE X σ μ i (.int k)) (hk : ∃ j : Nat, k = j ∧ j < 2 ^ 62 ∧ ds[j]? = some d) (hn : notSlice i = true := by rfl) : EE X σ μ (.Subscript e i p) d := by
  refine ⟨fun s Q E S kk => ?_⟩
  refine Subscript_ (h.run s _ E S fun v h₁ tk₁ S₁ k₁ r₁ => hi.run _ _ E S₁ fun u h₂ tk₂ S₂ k₂ r₂ => ?_)
  obtain ⟨a, vs, rfl, ht, rs⟩ := (r₁.kq (S₁.kq k₂)).tup_inv
  obtain ⟨t, rfl⟩ := r₂.int_inv
  obtain ⟨j, rfl, hj, hd⟩ := hk
  have hlt : j < vs.length := by rw [rs.len]; exact (List.getElem?_eq_some_iff.mp hd).1
  refine item_tupleT (j := j) (x := vs[j]) ht (by walk_at "om") (by walk_at "om") ?_ (List.getElem?_eq_getElem hlt) ?_ (sub_plain hn _ _)
  · unfold seqIndex?
    simp only [Int.natCast_nonneg, if_true, ite_true]
    first | (simp; walk_at "om") | (split <;> simp_all <;> walk_at "om")
  · exact kk _ _ _ S₂ (k₁.trans k₂) (rs.2 j _ d (List.getElem?_eq_getElem hlt) hd)
theorem ev_itemL {e i : Expr} {p : Pos} {ds : List D} {k : Int} {d : D} (h : EE X σ μ e (.lst ds)) (hi : EE X σ μ i (.int k)) (hk : ∃ j : Nat, k = j ∧ j < 2 ^ 62 ∧ ds[j]? = some d) (hn : notSlice i = true := by rfl) : EE X σ μ (.Subscript e i p) d := by
  refine ⟨fun s Q E S kk => ?_⟩
  refine Subscript_ (h.run s _ E S fun v h₁ tk₁ S₁ k₁ r₁ => hi.run _ _ E S₁ fun u h₂ tk₂ S₂ k₂ r₂ => ?_)
  obtain ⟨a, vs, rfl, ht, rs⟩ := (r₁.kq (S₁.kq k₂)).lst_inv
  obtain ⟨t, rfl⟩ := r₂.int_inv
  obtain ⟨j, rfl, hj, hd⟩ := hk
  have hlt : j < vs.length := by rw [rs.len]; exact (List.getElem?_eq_some_iff.mp hd).1
  refine tail_any ht.typeIs slot_list_getitem.lookup (wpAny_getItem_list (x := vs[j]) ht (by walk_at "om") (by walk_at "om") (by simp [hlt]) ?_) (sub_plain hn _ _)
  exact kk _ _ _ S₂ (k₁.trans k₂) (rs.2 j _ d (List.getElem?_eq_getElem hlt) hd)
theorem ev_itemS {e i : Expr} {p : Pos} {x : Str} {k : Int} (h : EE X σ μ e (.str x)) (hi : EE X σ μ i (.int k)) (h0 : 0 ≤ k) (h1 : k < x.length) (h2 : x.length < 2 ^ 62) (hn : notSlice i = true := by rfl) : EE X σ μ (.Subscript e i p) (.str ⟨#[x.cps.getD k.toNat 0]⟩) := by
  refine ⟨fun s Q E S kk => ?_⟩
  refine Subscript_ (h.run s _ E S fun v h₁ tk₁ S₁ k₁ r₁ => hi.run _ _ E S₁ fun u h₂ tk₂ S₂ k₂ r₂ => ?_)
  obtain ⟨t, rfl⟩ := r₁.str_inv
  obtain ⟨t', rfl⟩ := r₂.int_inv
  have hlt : k.toNat < x.cps.size := by show k.toNat < x.length; walk_at "om"
  refine tail_any (typeIs_str _ x t) PySem.F.slot_str_getitem.lookup (PySem.P.getItem_str (c := x.cps.getD k.toNat 0) (by simp only [Bool.or_eq_false_iff, decide_eq_false_iff_not]; walk_at "om") ?_ ?_) (sub_plain hn _ _)
  · have : seqIndex? k x.length = some k.toNat := by
      unfold seqIndex?
      split <;> simp_all <;> walk_at "om"
    rw [this]
    simp [Array.getD, hlt]
  · exact kk _ _ _ S₂ (k₁.trans k₂) (.str ..)

theorem slice_tail {e : Expr} {x : Str} {t : Tok} {lo hi : Option Expr} {q : Pos} {Q : Value → Shared → Prop} {E : Value → Shared → Prop} {A : Around} {prog : Program} {w : World} {a : Addr} {s : Shared}
    (h : ItemOn (model prog w) A E (.str x t) (.ref a) Q s) : wpAny (model prog w) A (subscriptTail e (.Slice lo hi none q) (.str x t) (.ref a)) Q E s := by
  obtain ⟨T, id, hl, hT, hg⟩ := h
  exact tail_any hT hl hg (ops := [.ref a, .str x t]) rfl

/-- a text of at most n signs -/
noncomputable def TX (X : Cx) (σ : Lo) (μ : Mu) (e : Expr) (n : Nat) : Prop := ∃ y : Str, y.length ≤ n ∧ EE X σ μ e (.str y)

theorem kept_sub {h : Heap} : KeptH (Sub h) := fun h' ob k b o e => Heap.get?_push_of_some ob (k b o e)

theorem ev_slice_to {e hi : Expr} {p q : Pos} {x : Str} {k : Int} (h : EE X σ μ e (.str x)) (hh : EE X σ μ hi (.int k)) (hz : x.length ≤ sizeLine) : EE X σ μ (.Subscript e (.Slice none (some hi) none q) p) (.str (Txt.slice x none (some k))) := by
  refine ⟨fun s Q E S kk => ?_⟩
  refine Subscript_ (h.run s _ E S fun v h₁ tk₁ S₁ k₁ r₁ => wpAny_Slice ?_)
  rw [evalPart_none]
  refine wpAny_pure ?_
  rw [evalPart_some]
  refine hh.run _ _ E S₁ fun u h₂ tk₂ S₂ k₂ r₂ => ?_
  refine wpAny_pure ?_
  obtain ⟨t, rfl⟩ := r₁.str_inv
  obtain ⟨t', rfl⟩ := r₂.int_inv
  refine slice_tail (SBH.sliceItem_ns (P := Sub h₂) kept_sub (Sub.refl _) (fun h' t'' k' sb => ?_) hz)
  exact kk _ _ _ (S₂.sub sb) ((k₁.trans k₂).trans (Ke.of_sub sb)) (.str ..)
theorem ev_slice_from {e lo : Expr} {p q : Pos} {x : Str} {k : Int} (h : EE X σ μ e (.str x)) (hh : EE X σ μ lo (.int k)) (hz : x.length ≤ sizeLine) : EE X σ μ (.Subscript e (.Slice (some lo) none none q) p) (.str (Txt.slice x (some k) none)) := by
  refine ⟨fun s Q E S kk => ?_⟩
  refine Subscript_ (h.run s _ E S fun v h₁ tk₁ S₁ k₁ r₁ => wpAny_Slice ?_)
  rw [evalPart_some]
  refine hh.run _ _ E S₁ fun u h₂ tk₂ S₂ k₂ r₂ => ?_
  rw [evalPart_none]
  refine wpAny_pure ?_
  refine wpAny_pure ?_
  obtain ⟨t, rfl⟩ := r₁.str_inv
  obtain ⟨t', rfl⟩ := r₂.int_inv
  refine slice_tail (SBH.sliceItem_sn (P := Sub h₂) kept_sub (Sub.refl _) (fun h' t'' k' sb => ?_) hz)
  exact kk _ _ _ (S₂.sub sb) ((k₁.trans k₂).trans (Ke.of_sub sb)) (.str ..)
end

/-! ## products of texts -/
theorem bin_mulS {G : Gx} {x : Str} {n : Int} (hx : x.length ≤ 1000) (hn : n ≤ 1000) (h0 : -1000 ≤ n) : Bin G .Mult (.str x) (.int n) (.str (Txt.mul x n)) := by
  constructor
  intro A s Q E v w _ _ _ _ r1 r2 k
  obtain ⟨t, rfl⟩ := r1.str_inv
  obtain ⟨u, rfl⟩ := r2.int_inv
  refine SB.mul ⟨by simp only [Bool.or_eq_false_iff, decide_eq_false_iff_not]; walk_at "om", fun h1 _ => ?_, fun h1 _ => ?_⟩ fun t' k' => k _ _ _ (Sub.refl _) (.str ..)
  · have hdiv : (9007199254740992 : Int) ≤ (2 ^ 63 - 1) / n := by
      refine Int.le_ediv_of_mul_le (by walk_at "om") ?_
      have : (9007199254740992 : Int) * n ≤ 9007199254740992 * 1000 := Int.mul_le_mul_of_nonneg_left hn (by decide)
      walk_at "om"
    walk_at "om"
  · have hm : x.length * n.toNat ≤ 1000 * 1000 := Nat.mul_le_mul hx (by walk_at "om")
    unfold Builtin.Str.tooLong
    simp only [decide_eq_false_iff_not, sizeLine_eq]
    walk_at "om"
theorem len_mul {x : Str} (n : Int) (h : x.length ≤ 1) : (Txt.mul x n).length ≤ n.toNat + 1 := by
  unfold Txt.mul
  split
  · exact Nat.zero_le _
  · split
    · walk_at "om"
    · have key : ∀ (l : List (Array Nat)) (acc : Array Nat), (∀ y ∈ l, y.size ≤ 1) → (l.foldl (· ++ ·) acc).size ≤ acc.size + l.length := by
        intro l
        induction l with
        | nil => intro acc _; simp
        | cons y l ih =>
          intro acc hl
          have h1 := ih (acc ++ y) fun z hz => hl z (List.mem_cons_of_mem _ hz)
          have h2 := hl y List.mem_cons_self
          simp only [List.foldl_cons, List.length_cons, Array.size_append] at h1 ⊢
          walk_at "om"
      have := key (List.replicate n.toNat x.cps) #[] fun y hy => by rw [List.eq_of_mem_replicate hy]; exact h
      simp only [List.length_replicate, List.size_toArray, List.length_nil] at this
      show ((List.replicate n.toNat x.cps).foldl (· ++ ·) #[]).size ≤ _
      walk_at "om"

/-! ## isinstance, own classes -/
section
variable {G : Gx} {C : Addr}
theorem isi_own {a : D} {x : Value → Prop} {T : String} (hx : ∀ h v, Rv h v a → x v) (hk : ∀ v, x v → KitX G.K v (.type T) (fun _ => True) ∧ v ≠ .builtin "__main__.__loader__#opaque") (e : kitOne G.K (.type T) (.ref C) = some false) :
    Bi G (.builtin "isinstance") [a, .ref C] (.bool false) := by
  constructor
  intro A s Q E vs _ _ _ H r k
  obtain ⟨v, w, rfl, r1, r2⟩ := r.inv2
  cases r2
  obtain ⟨k1, k2⟩ := hk v (hx _ _ r1)
  exact kia_one k1 H.k trivial e k2 fun tk => k _ _ _ (Sub.refl _) (.bool _)
theorem isi_own_int {a : Int} (e : kitOne G.K (.type "int") (.ref C) = some false) : Bi G (.builtin "isinstance") [.int a, .ref C] (.bool false) :=
  isi_own (x := fun v => ∃ t, v = .int a t) (fun h v r => r.int_inv) (fun v hv => by obtain ⟨t, rfl⟩ := hv; exact ⟨kitx_int, by intro q; cases q⟩) e
theorem isi_own_str {a : Str} (e : kitOne G.K (.type "str") (.ref C) = some false) : Bi G (.builtin "isinstance") [.str a, .ref C] (.bool false) :=
  isi_own (x := fun v => ∃ t, v = .str a t) (fun h v r => r.str_inv) (fun v hv => by obtain ⟨t, rfl⟩ := hv; exact ⟨kitx_str, by intro q; cases q⟩) e
theorem isi_own_bool {a : Bool} (e : kitOne G.K (.type "bool") (.ref C) = some false) : Bi G (.builtin "isinstance") [.bool a, .ref C] (.bool false) :=
  isi_own (x := fun v => v = .bool a) (fun h v r => r.bool_inv) (fun v hv => by subst hv; exact ⟨kitx_bool, by intro q; cases q⟩) e
theorem isi_own_none (e : kitOne G.K (.type "NoneType") (.ref C) = some false) : Bi G (.builtin "isinstance") [.none, .ref C] (.bool false) :=
  isi_own (x := fun v => v = .none) (fun h v r => r.none_inv) (fun v hv => by subst hv; exact ⟨kitx_none, by intro q; cases q⟩) e
end

/-! ## lists joined -/
theorem bin_catL {G : Gx} {l m : List D} (hz : l.length + m.length ≤ 1000) : Bin G .Add (.lst l) (.lst m) (.lst (l ++ m)) := by
  constructor
  intro A s Q E v w _ _ _ _ r1 r2 k
  obtain ⟨a, vs, rfl, hl, q1⟩ := r1.lst_inv
  obtain ⟨b, ws, rfl, hb, q2⟩ := r2.lst_inv
  obtain ⟨⟨cls, dd, data, sl⟩, ho, hc, n, hd⟩ := id hl
  obtain ⟨⟨cls2, dd2, data2, sl2⟩, ho2, hc2, n2, hd2⟩ := id hb
  simp only at hc hd hc2 hd2
  subst hc hd hc2 hd2
  have e : vs.toArray ++ ws.toArray = (vs ++ ws).toArray := by simp
  refine concat_meets ⟨_, ho, rfl⟩ ⟨_, ho2, rfl⟩ noFill_list_add seq_list_add PySem.F.slot_list_add PySem.F.entry_list_add (PySem.F.args_list_add_2 _ _) (list_addW a b vs.toArray ws.toArray n n2 dd dd2 sl sl2 (by simp only [List.size_toArray, q1.len, q2.len, sizeLine_eq]; walk_at "om")) ⟨ho, ho2, ?_⟩
  rw [e]
  refine k _ _ _ (Sub.push _) (Rvs.lst ?_)
  refine ⟨by simp [q1.len, q2.len], fun i v d e1 e2 => ?_⟩
  by_cases hi : i < vs.length
  · rw [List.getElem?_append_left hi] at e1
    rw [List.getElem?_append_left (by rw [← q1.len]; exact hi)] at e2
    exact q1.2 i v d e1 e2
  · rw [List.getElem?_append_right (by walk_at "om")] at e1
    rw [List.getElem?_append_right (by rw [← q1.len]; walk_at "om"), ← q1.len] at e2
    exact q2.2 _ v d e1 e2
end
section
variable {w : World} {mg mb : Str → Option Value}

/-- a word of a number that is small and not nought -/
structure Wd (b g : Int) (m : Nat) (e : Int) : Prop where
  g0 : 0 ≤ g
  g1 : g ≤ 1
  m0 : m ≠ 0
  m1 : m < 2 ^ 40
  e0 : -40 ≤ e
  e1 : e ≤ 0
  eq : b = R g m e

theorem Wd.facts {b g : Int} {m : Nat} {e : Int} (h : Wd b g m e) : ∃ M : Int, (m : Int) * 2 ^ (53 - bl m) = M ∧ 2 ^ 52 ≤ M ∧ M < 2 ^ 53 ∧ 1 ≤ bl m ∧ bl m ≤ 40 ∧ b = g * 2 ^ 63 + (1022 + bl m + e) * 2 ^ 52 + M - 2 ^ 52 := by
  have h1 := bl_pos h.m0
  have h2 := bl_le_of h.m1
  have h3 := lead_lo (m := m) (k := 52) h.m0 (by walk_at "om")
  have h4 := lead_hi (m := m) (k := 52) (by walk_at "om")
  refine ⟨_, rfl, h3, h4, h1, h2, h.eq⟩

theorem Wd.nn {b g : Int} {m : Nat} {e : Int} (h : Wd b g m e) : 0 ≤ b ∧ b < 2 ^ 64 ∧ b / 2 ^ 63 = g ∧ b % 2 ^ 63 < 2047 * 2 ^ 52 ∧ b % 2 ^ 63 ≠ 0 := by
  obtain ⟨M, hM, a1, a2, a3, a4, a5⟩ := h.facts
  have := h.g0; have := h.g1; have := h.e0; have := h.e1
  refine ⟨by walk_at "om", by walk_at "om", by walk_at "om", by walk_at "om", by walk_at "om"⟩

theorem s_parts_W {b g : Int} {m : Nat} {e : Int} (h : Wd b g m e) : Fd (Gw w mg mb) 1 271 [.int b] (.tup [.int g, .int ((m : Int) * 2 ^ (53 - bl m)), .int (bl m + e - 53)]) := by
  obtain ⟨M, hM, a1, a2, a3, a4, a5⟩ := h.facts
  have := h.g0; have := h.g1; have := h.e0; have := h.e1
  have h1 : b / 2 ^ 63 = g := by walk_at "om"
  have h2 : b / 2 ^ 52 % 2 ^ 11 = 1022 + bl m + e := by walk_at "om"
  have h3 : b % 2 ^ 52 + 2 ^ 52 = M := by walk_at "om"
  have := s_parts (w := w) (mg := mg) (mb := mb) (b := b) (by walk_at "om")
  rw [h1, h2, h3, if_neg (by walk_at "om"), if_neg (by walk_at "om")] at this
  rw [hM]
  rw [show (bl m : Int) + e - 53 = 1022 + bl m + e - 1075 by walk_at "om"]
  exact this

theorem ev_orT {X : Cx} {σ : Lo} {μ : Mu} {e e₂ : Expr} {rest : List Expr} {p : Pos} {a : Bool} (h : EE X σ μ e (.bool a)) (ha : a = true) : EE X σ μ (.BoolOp .Or (e :: e₂ :: rest) p) (.bool true) := by
  have := ev_or (e₂ := e₂) (rest := rest) (p := p) (b := true) h (fun q => by rw [ha] at q; cases q)
  simpa using this

/-! ## split -/
theorem shr_lead {m : Nat} {e : Int} (h1 : bl m ≤ 53) (h2 : e ≤ 0) : ((m : Int) * 2 ^ (53 - bl m)) / 2 ^ (-(bl m + e - 53)).toNat = ((m / 2 ^ (-e).toNat : Nat) : Int) := by
  have e1 : (-((bl m : Int) + e - 53)).toNat = (-e).toNat + (53 - bl m) := by walk_at "om"
  rw [e1, Int.pow_add, Int.mul_ediv_mul_of_pos_left _ _ (pow_pos2 _)]
  simp
theorem and_lead {m : Nat} {e : Int} (h1 : bl m ≤ 53) (h2 : e ≤ 0) : ((m : Int) * 2 ^ (53 - bl m)) % 2 ^ (-(bl m + e - 53)).toNat = ((m % 2 ^ (-e).toNat : Nat) : Int) * 2 ^ (53 - bl m) := by
  have e1 : (-((bl m : Int) + e - 53)).toNat = (-e).toNat + (53 - bl m) := by walk_at "om"
  rw [e1, Int.pow_add, Int.mul_comm (m : Int), Int.mul_comm (2 ^ (-e).toNat), Int.mul_emod_mul_of_pos _ _ (pow_pos2 _), Int.mul_comm]
  simp

theorem s_split_W {b g : Int} {m : Nat} {e : Int} (h : Wd b g m e) : Fd (Gw w mg mb) 2 397 [.int b]
    (.tup [.int ((m / 2 ^ (-e).toNat : Nat) : Int), .int (((m % 2 ^ (-e).toNat : Nat) : Int) * 2 ^ (53 - bl m)), .int (2 ^ (-(bl m + e - 53)).toNat)]) := by
  obtain ⟨M, hM, a1, a2, a3, a4, a5⟩ := h.facts
  have := h.g0; have := h.g1; have := h.e0; have := h.e1
  refine fd_ret ok_split rfl fun A L h₀ => ?_
  conv => arg 4; whnf
  refine es_cons (es_unpack [1, 2, 3] rfl rfl rfl (cl (gv g_parts) (ea_cons (lv 0) ea_nil) (s_parts_W h)) (fun _ => rfl) (fun _ => rfl)) ?_
  refine es_ifd (eb_cmp (lv 3) ev_int cmp_ge rfl).eb (fun h1 => ?_) (fun h1 => ?_)
  · walk_at "om"
  · refine es_ret' (ev_tup (ea_cons (ev_bin (lv 2) (ev_neg (lv 3)) (bin_shr (by walk_at "z"))) (ea_cons (ev_bin (lv 2) (ev_bin (ev_bin ev_int (ev_neg (lv 3)) (bin_shl (by walk_at "z") (by walk_at "sh"))) ev_int bin_sub) bin_and) (ea_cons (ev_bin ev_int (ev_neg (lv 3)) (bin_shl (by walk_at "z") (by walk_at "sh"))) ea_nil)))) ?_
    rw [Int.one_mul, and_mask (-((bl m : Int) + e - 53)).toNat (by walk_at "om") rfl, shr_lead (by walk_at "om") this, and_lead (by walk_at "om") this]

/-! ## whole words -/
noncomputable def MW (g : Int) (k : Nat) : Int := if k = 0 then g * 2 ^ 63 else R g k 0

theorem s_round_ratio_nought {g u : Int} (g0 : 0 ≤ g) (g1 : g ≤ 1) : Fd (Gw w mg mb) 3 292 [.int g, .int 0, .int u] (.int (g * 2 ^ 63)) := by
  refine fd_ret ok_round_ratio rfl fun A L h₀ => ?_
  conv => arg 4; whnf
  refine es_ifd (eb_cmp (lv 1) ev_int cmp_eq rfl).eb (fun h1 => ?_) (fun h1 => ?_)
  · exact es_ret' (ev_bin (lv 0) ev_int (bin_shl (by walk_at "z") (by walk_at "sh"))) rfl
  · exact absurd rfl h1
theorem s_round_ratio_one {g : Int} {k : Nat} (g0 : 0 ≤ g) (g1 : g ≤ 1) (hk : k < 2 ^ 53) : Fd (Gw w mg mb) 3 292 [.int g, .int (k : Int), .int 1] (.int (MW g k)) := by
  unfold MW
  by_cases h : k = 0
  · rw [if_pos h]; subst h; exact s_round_ratio_nought g0 g1
  · rw [if_neg h]
    have := s_round_ratio_exact (w := w) (mg := mg) (mb := mb) (m := k) (i := 0) (j := 0) g0 g1 h hk (by decide) (by decide)
    simpa using this

theorem s_made_whole {b g : Int} {k : Nat} (h : 0 ≤ b) (hg : b / 2 ^ 63 = g) (hb : b < 2 ^ 64) (hk : k < 2 ^ 53) : Fd (Gw w mg mb) 4 404 [.int b, .int (k : Int)] (.int (MW g k)) := by
  refine fd_ret ok_made_whole rfl fun A L h₀ => ?_
  conv => arg 4; whnf
  refine es_ret' (cl (gv g_round_ratio) (ea_cons (ev_bin (lv 0) ev_int (bin_shr (by walk_at "z"))) (ea_cons (lv 1) (ea_cons ev_int ea_nil))) (s_round_ratio_one (g := b / 2 ^ (63 : Int).toNat) ?_ ?_ hk)) ?_
  · show 0 ≤ b / 2 ^ 63; walk_at "om"
  · show b / 2 ^ 63 ≤ 1; walk_at "om"
  · rw [← hg]; rfl

theorem s_is_settled_W {b g : Int} {m : Nat} {e : Int} (h : Wd b g m e) : Fd (Gw w mg mb) 3 411 [.int b] (.bool (decide (m % 2 ^ (-e).toNat = 0))) := by
  obtain ⟨n1, n2, n3, n4, n5⟩ := h.nn
  refine fd_ret ok_is_settled rfl fun A L h₀ => ?_
  conv => arg 4; whnf
  refine es_ret' (ev_or (ev_not (cl (gv g_is_finite) (ea_cons (lv 0) ea_nil) (s_is_finite n1))) (fun _ => (ev_or (cl (gv g_is_zero) (ea_cons (lv 0) ea_nil) (s_is_zero n1)) (fun _ => (ev_bone (ev_cmp (ev_itemT (cl (gv g_split) (ea_cons (lv 0) ea_nil) (s_split_W h)) ev_int ⟨1, rfl, by decide, rfl⟩) ev_int cmp_eq rfl)))))) ?_
  rw [decide_eq_true n4, decide_eq_false n5]
  simp only [Bool.not_true, Bool.false_or]
  congr 1
  have hp := pow_pos2 (53 - bl m)
  refine decide_eq_decide.mpr ⟨fun q => ?_, fun q => ?_⟩
  · rcases Int.mul_eq_zero.mp q with q | q
    · exact_mod_cast q
    · walk_at "om"
  · rw [q]; simp

/-- words that are settled without a look at their parts -/
theorem s_is_settled_i {b : Int} (h : 0 ≤ b) (hz : ¬ b % 2 ^ 63 < 2047 * 2 ^ 52) : Fd (Gw w mg mb) 3 411 [.int b] (.bool true) := by
  refine fd_ret ok_is_settled rfl fun A L h₀ => ?_
  conv => arg 4; whnf
  refine es_ret' (ev_or (b := true) (ev_not (cl (gv g_is_finite) (ea_cons (lv 0) ea_nil) (s_is_finite h))) (fun q => ?_)) ?_
  · rw [decide_eq_false hz] at q; cases q
  · simp
theorem s_is_settled_z {b : Int} (h : 0 ≤ b) (hz : b % 2 ^ 63 = 0) : Fd (Gw w mg mb) 3 411 [.int b] (.bool true) := by
  refine fd_ret ok_is_settled rfl fun A L h₀ => ?_
  conv => arg 4; whnf
  refine es_ret' (ev_or (b := true) (ev_not (cl (gv g_is_finite) (ea_cons (lv 0) ea_nil) (s_is_finite h))) (fun _ => ?_)) ?_
  · refine ev_orT (cl (gv g_is_zero) (ea_cons (lv 0) ea_nil) (s_is_zero h)) ?_
    exact decide_eq_true hz
  · simp

/-! ## floor, ceil, round -/
theorem s_floor_W {b g : Int} {m : Nat} {e : Int} (h : Wd b g m e) : Fd (Gw w mg mb) 5 425 [.int b]
    (.int (if m % 2 ^ (-e).toNat = 0 then b else MW g (if g = 1 then m / 2 ^ (-e).toNat + 1 else m / 2 ^ (-e).toNat))) := by
  obtain ⟨n1, n2, n3, n4, n5⟩ := h.nn
  have hq : m / 2 ^ (-e).toNat ≤ m := Nat.div_le_self _ _
  have := h.m1; have := h.g0; have := h.g1
  refine fd_ret ok_floor rfl fun A L h₀ => ?_
  conv => arg 4; whnf
  refine es_ifd (eb_call (cl (gv g_is_settled) (ea_cons (lv 0) ea_nil) (s_is_settled_W h))) (fun h1 => ?_) (fun h1 => ?_)
  · rw [if_pos h1]; exact es_ret (lv 0)
  · rw [if_neg h1]
    refine es_cons (es_set 1 rfl (ev_itemT (cl (gv g_split) (ea_cons (lv 0) ea_nil) (s_split_W h)) ev_int ⟨0, rfl, by decide, rfl⟩) (fun _ => rfl)) ?_
    refine es_ret' (cl (gv g_made_whole) (ea_cons (lv 0) (ea_cons (d := .int ((if g = 1 then m / 2 ^ (-e).toNat + 1 else m / 2 ^ (-e).toNat : Nat) : Int)) (ev_if (eb_call (cl (gv g_is_negative) (ea_cons (lv 0) ea_nil) (s_is_negative n1))) (fun q => ?_) (fun q => ?_)) ea_nil)) (s_made_whole n1 n3 n2 (by split <;> walk_at "om"))) rfl
    · have q := of_decide_eq_true q
      rw [if_pos (by walk_at "om")]
      exact (ev_bin (lv 1) ev_int bin_add)
    · have q := of_decide_eq_false q
      rw [if_neg (by walk_at "om")]
      exact (lv 1)
theorem s_ceil_W {b g : Int} {m : Nat} {e : Int} (h : Wd b g m e) : Fd (Gw w mg mb) 5 432 [.int b]
    (.int (if m % 2 ^ (-e).toNat = 0 then b else MW g (if g = 1 then m / 2 ^ (-e).toNat else m / 2 ^ (-e).toNat + 1))) := by
  obtain ⟨n1, n2, n3, n4, n5⟩ := h.nn
  have hq : m / 2 ^ (-e).toNat ≤ m := Nat.div_le_self _ _
  have := h.m1; have := h.g0; have := h.g1
  refine fd_ret ok_ceil rfl fun A L h₀ => ?_
  conv => arg 4; whnf
  refine es_ifd (eb_call (cl (gv g_is_settled) (ea_cons (lv 0) ea_nil) (s_is_settled_W h))) (fun h1 => ?_) (fun h1 => ?_)
  · rw [if_pos h1]; exact es_ret (lv 0)
  · rw [if_neg h1]
    refine es_cons (es_set 1 rfl (ev_itemT (cl (gv g_split) (ea_cons (lv 0) ea_nil) (s_split_W h)) ev_int ⟨0, rfl, by decide, rfl⟩) (fun _ => rfl)) ?_
    refine es_ret' (cl (gv g_made_whole) (ea_cons (lv 0) (ea_cons (d := .int ((if g = 1 then m / 2 ^ (-e).toNat else m / 2 ^ (-e).toNat + 1 : Nat) : Int)) (ev_if (eb_call (cl (gv g_is_negative) (ea_cons (lv 0) ea_nil) (s_is_negative n1))) (fun q => ?_) (fun q => ?_)) ea_nil)) (s_made_whole n1 n3 n2 (by split <;> walk_at "om"))) rfl
    · have q := of_decide_eq_true q
      rw [if_pos (by walk_at "om")]
      exact (lv 1)
    · have q := of_decide_eq_false q
      rw [if_neg (by walk_at "om")]
      exact (ev_bin (lv 1) ev_int bin_add)
theorem s_round_W {b g : Int} {m : Nat} {e : Int} (h : Wd b g m e) : Fd (Gw w mg mb) 5 439 [.int b]
    (.int (if m % 2 ^ (-e).toNat = 0 then b else MW g (if 2 ^ (-e).toNat < 2 * (m % 2 ^ (-e).toNat) ∨ (2 * (m % 2 ^ (-e).toNat) = 2 ^ (-e).toNat ∧ g = 0) then m / 2 ^ (-e).toNat + 1 else m / 2 ^ (-e).toNat))) := by
  obtain ⟨n1, n2, n3, n4, n5⟩ := h.nn
  obtain ⟨M, hM, a1, a2, a3, a4, a5⟩ := h.facts
  have hq : m / 2 ^ (-e).toNat ≤ m := Nat.div_le_self _ _
  have := h.m1; have := h.g0; have := h.g1; have he := h.e1
  refine fd_ret ok_round_half_up rfl fun A L h₀ => ?_
  conv => arg 4; whnf
  refine es_ifd (eb_call (cl (gv g_is_settled) (ea_cons (lv 0) ea_nil) (s_is_settled_W h))) (fun h1 => ?_) (fun h1 => ?_)
  · rw [if_pos h1]; exact es_ret (lv 0)
  · rw [if_neg h1]
    refine es_cons (es_unpack [1, 2, 3] rfl rfl rfl (cl (gv g_split) (ea_cons (lv 0) ea_nil) (s_split_W h)) (fun _ => rfl) (fun _ => rfl)) ?_
    refine es_cons (es_set 4 rfl (ev_or (ev_cmp (ev_bin ev_int (lv 2) (bin_mul (by walk_at "ml"))) (lv 3) cmp_gt rfl) (fun _ => (ev_bone (ev_and (ev_cmp (ev_bin ev_int (lv 2) (bin_mul (by walk_at "ml"))) (lv 3) cmp_eq rfl) (fun _ => (ev_bone (ev_not (cl (gv g_is_negative) (ea_cons (lv 0) ea_nil) (s_is_negative n1))))))))) (fun _ => rfl)) ?_
    have e1 : (2 : Int) ^ (-((bl m : Int) + e - 53)).toNat = ((2 ^ (-e).toNat : Nat) : Int) * 2 ^ (53 - bl m) := by
      rw [pow_cast, ← Int.pow_add]; congr 1; walk_at "om"
    have hp := pow_pos2 (53 - bl m)
    have c1 : (2 : Int) ^ (-((bl m : Int) + e - 53)).toNat < 2 * (((m % 2 ^ (-e).toNat : Nat) : Int) * 2 ^ (53 - bl m)) ↔ 2 ^ (-e).toNat < 2 * (m % 2 ^ (-e).toNat) := by
      rw [e1, ← Int.mul_assoc]
      rw [show (2 : Int) * ((m % 2 ^ (-e).toNat : Nat) : Int) = ((2 * (m % 2 ^ (-e).toNat) : Nat) : Int) by simp]
      rw [Int.mul_lt_mul_right hp]
      exact_mod_cast Iff.rfl
    have c2 : 2 * (((m % 2 ^ (-e).toNat : Nat) : Int) * 2 ^ (53 - bl m)) = (2 : Int) ^ (-((bl m : Int) + e - 53)).toNat ↔ 2 * (m % 2 ^ (-e).toNat) = 2 ^ (-e).toNat := by
      rw [e1, ← Int.mul_assoc]
      rw [show (2 : Int) * ((m % 2 ^ (-e).toNat : Nat) : Int) = ((2 * (m % 2 ^ (-e).toNat) : Nat) : Int) by simp]
      rw [Int.mul_eq_mul_right_iff (by walk_at "om")]
      exact_mod_cast Iff.rfl
    have c3 : b / 2 ^ 63 = 1 ↔ ¬ g = 0 := by walk_at "om"
    have key : (decide ((2 : Int) ^ (-((bl m : Int) + e - 53)).toNat < 2 * (((m % 2 ^ (-e).toNat : Nat) : Int) * 2 ^ (53 - bl m))) || (decide (2 * (((m % 2 ^ (-e).toNat : Nat) : Int) * 2 ^ (53 - bl m)) = (2 : Int) ^ (-((bl m : Int) + e - 53)).toNat) && !decide (b / 2 ^ 63 = 1)))
        = decide (2 ^ (-e).toNat < 2 * (m % 2 ^ (-e).toNat) ∨ (2 * (m % 2 ^ (-e).toNat) = 2 ^ (-e).toNat ∧ g = 0)) := by
      rw [decide_eq_decide.mpr c1, decide_eq_decide.mpr c2, decide_eq_decide.mpr c3, Bool.decide_or, Bool.decide_and, decide_not, Bool.not_not]
    rw [key]
    refine es_ret' (cl (gv g_made_whole) (ea_cons (lv 0) (ea_cons (d := .int ((if 2 ^ (-e).toNat < 2 * (m % 2 ^ (-e).toNat) ∨ (2 * (m % 2 ^ (-e).toNat) = 2 ^ (-e).toNat ∧ g = 0) then m / 2 ^ (-e).toNat + 1 else m / 2 ^ (-e).toNat : Nat) : Int)) (ev_if (eb_name (lv 4)) (fun q => ?_) (fun q => ?_)) ea_nil)) (s_made_whole n1 n3 n2 (by split <;> walk_at "om"))) rfl
    · have q := of_decide_eq_true q
      rw [if_pos q]
      exact (ev_bin (lv 1) ev_int bin_add)
    · have q := of_decide_eq_false q
      rw [if_neg q]
      exact (lv 1)
end
section
variable {w : World} {mg mb : Str → Option Value}

/-! ## order -/
theorem s_absolute {b : Int} (h : 0 ≤ b) (hb : b % 2 ^ 63 ≤ 2047 * 2 ^ 52) : Fd (Gw w mg mb) 2 334 [.int b] (.int (b % 2 ^ 63)) := by
  refine fd_ret ok_absolute rfl fun A L h₀ => ?_
  conv => arg 4; whnf
  refine es_ret' (ev_if (d := .int (b % 2 ^ 63)) (eb_call (cl (gv g_is_nan) (ea_cons (lv 0) ea_nil) (s_is_nan h))) (fun q => ?_) (fun _ => ?_)) rfl
  · have := of_decide_eq_true q; walk_at "om"
  · have e : b % 2 ^ 63 = b % 2 ^ 63 + 0 * 2 ^ 63 := by walk_at "om"
    rw [e]
    exact (cl (gv g_signed) (ea_cons ev_int (ea_cons (lv 0) ea_nil)) (s_signed (by decide) (by decide) h))

noncomputable def Ky (b : Int) : Int := if b / 2 ^ 63 = 1 then -(b % 2 ^ 63) else b
theorem low_and {c : Nat} (k : Nat) (h : c < 2 ^ k) : c &&& 2 ^ k = 0 := by
  refine Nat.eq_of_testBit_eq fun i => ?_
  rw [Nat.testBit_and, Nat.zero_testBit, Nat.testBit_two_pow]
  by_cases hi : k = i
  · subst hi
    rw [Nat.testBit_lt_two_pow h, Bool.false_and]
  · rw [decide_eq_false hi, Bool.and_false]
theorem xor63 {b : Int} (h : 0 ≤ b) (hb : b < 2 ^ 64) (hn : b / 2 ^ 63 = 1) : Builtin.bitXor b 9223372036854775808 = b % 2 ^ 63 := by
  have e1 : Builtin.bitOr b 9223372036854775808 = b := by
    have : b = 9223372036854775808 + b % 2 ^ 63 := by walk_at "om"
    have h2 : Builtin.bitOr 9223372036854775808 (b % 2 ^ 63) = b := by
      rw [or_low (a := 9223372036854775808) 63 (c := 1) (by decide) (by decide) (by walk_at "om") (by walk_at "om")]; walk_at "om"
    have h3 : Builtin.bitOr b 9223372036854775808 = Builtin.bitOr 9223372036854775808 b := or_comm' _ _
    rw [h3, or_pos (by decide) h]
    rw [or_pos (by decide) (by walk_at "om")] at h2
    have t1 : (9223372036854775808 : Int).toNat = 2 ^ 63 := rfl
    have t2 : b.toNat = 2 ^ 63 * 1 + (b % 2 ^ 63).toNat := by walk_at "om"
    rw [t1] at h2 ⊢
    rw [t2, Nat.two_pow_add_eq_or_of_lt (by walk_at "om"), ← Nat.or_assoc]
    rw [Nat.mul_one, Nat.or_self]
    exact h2
  have e2 : Builtin.bitAnd b 9223372036854775808 = 9223372036854775808 := by
    have hx : Builtin.bitOr b 9223372036854775808 = b := e1
    rw [and_pos h (by decide)]
    have t1 : (9223372036854775808 : Int).toNat = 2 ^ 63 := rfl
    have t2 : b.toNat = 2 ^ 63 * 1 + (b % 2 ^ 63).toNat := by walk_at "om"
    rw [t1, t2, Nat.two_pow_add_eq_or_of_lt (by walk_at "om"), Nat.and_or_distrib_right, Nat.mul_one, Nat.and_self]
    have : (b % 2 ^ 63).toNat &&& 2 ^ 63 = 0 := low_and 63 (by walk_at "om")
    rw [this, Nat.or_zero]
    rfl
  unfold Builtin.bitXor
  rw [e1, e2]
  walk_at "om"

theorem s_order_key {b : Int} (h : 0 ≤ b) (hb : b < 2 ^ 64) : Fd (Gw w mg mb) 2 341 [.int b] (.int (Ky b)) := by
  refine fd_ret ok_order_key rfl fun A L h₀ => ?_
  conv => arg 4; whnf
  refine es_ret' (ev_if (d := .int (Ky b)) (eb_call (cl (gv g_is_negative) (ea_cons (lv 0) ea_nil) (s_is_negative h))) (fun q => ?_) (fun q => ?_)) rfl
  · have q := of_decide_eq_true q
    unfold Ky
    rw [if_pos q, ← xor63 h hb q]
    exact (ev_neg (ev_bin (lv 0) (gv g_SIGN_BIT) bin_xor))
  · have q := of_decide_eq_false q
    unfold Ky
    rw [if_neg q]
    exact (lv 0)

theorem s_compare {a b : Int} (a0 : 0 ≤ a) (a1 : a < 2 ^ 64) (a2 : a % 2 ^ 63 ≤ 2047 * 2 ^ 52) (b0 : 0 ≤ b) (b1 : b < 2 ^ 64) (b2 : b % 2 ^ 63 ≤ 2047 * 2 ^ 52) :
    Fd (Gw w mg mb) 3 348 [.int a, .int b] (.int (if Ky a = Ky b then 0 else if Ky a < Ky b then -1 else 1)) := by
  refine fd_ret ok_compare rfl fun A L h₀ => ?_
  conv => arg 4; whnf
  refine es_if (eb_or (eb_call (cl (gv g_is_nan) (ea_cons (lv 0) ea_nil) (s_is_nan a0))) (fun _ => (eb_or (eb_call (cl (gv g_is_nan) (ea_cons (lv 1) ea_nil) (s_is_nan b0))) (fun _ => eb_or_nil)))).eb (fun h1 => ?_) (fun h1 => ?_)
  · rw [decide_eq_false (by walk_at "om"), decide_eq_false (by walk_at "om")] at h1; cases h1
  · refine es_cons (es_unpackS [2, 3] rfl rfl rfl (ev_tup (ea_cons (cl (gv g_order_key) (ea_cons (lv 0) ea_nil) (s_order_key a0 a1)) (ea_cons (cl (gv g_order_key) (ea_cons (lv 1) ea_nil) (s_order_key b0 b1)) ea_nil))) (fun _ => rfl) (by kernel_rfl)) ?_
    refine es_ifd (eb_cmp (lv 2) (lv 3) cmp_eq rfl).eb (fun h2 => ?_) (fun h2 => ?_)
    · rw [if_pos h2]; exact es_ret ev_int
    · rw [if_neg h2]
      refine es_ret' (ev_ifI (eb_cmp (lv 2) (lv 3) cmp_lt rfl).eb (fun _ => (ev_neg ev_int)) (fun _ => ev_int)) ?_
      simp only [decide_eq_true_eq]

/-- not a nan -/
structure Nn (b : Int) : Prop where
  b0 : 0 ≤ b
  b1 : b < 2 ^ 64
  b2 : b % 2 ^ 63 ≤ 2047 * 2 ^ 52

theorem s_min_of {a b : Int} (ha : Nn a) (hb : Nn b) (hz : ¬ (a % 2 ^ 63 = 0 ∧ b % 2 ^ 63 = 0)) : Fd (Gw w mg mb) 4 460 [.int a, .int b] (.int (if Ky a ≤ Ky b then a else b)) := by
  obtain ⟨a0, a1, a2⟩ := ha
  obtain ⟨b0, b1, b2⟩ := hb
  refine fd_ret ok_min_of rfl fun A L h₀ => ?_
  conv => arg 4; whnf
  refine es_if (eb_or (eb_call (cl (gv g_is_nan) (ea_cons (lv 0) ea_nil) (s_is_nan a0))) (fun _ => (eb_or (eb_call (cl (gv g_is_nan) (ea_cons (lv 1) ea_nil) (s_is_nan b0))) (fun _ => eb_or_nil)))).eb (fun h1 => ?_) (fun h1 => ?_)
  · rw [decide_eq_false (by walk_at "om"), decide_eq_false (by walk_at "om")] at h1; cases h1
  · refine es_if (eb_and (eb_call (cl (gv g_is_zero) (ea_cons (lv 0) ea_nil) (s_is_zero a0))) (fun _ => (eb_and (eb_call (cl (gv g_is_zero) (ea_cons (lv 1) ea_nil) (s_is_zero b0))) (fun _ => eb_and_nil)))).eb (fun h2 => ?_) (fun h2 => ?_)
    · simp only [Bool.and_true, Bool.and_eq_true, decide_eq_true_eq] at h2; exact absurd h2 hz
    · refine es_ret' (ev_ifI (eb_cmp (cl (gv g_compare) (ea_cons (lv 0) (ea_cons (lv 1) ea_nil)) (s_compare a0 a1 a2 b0 b1 b2)) ev_int cmp_le rfl).eb (fun _ => (lv 0)) (fun _ => (lv 1))) ?_
      congr 1
      simp only [decide_eq_true_eq]
      by_cases h : Ky a ≤ Ky b
      · rw [if_pos h, if_pos (by split <;> (try split) <;> walk_at "om")]
      · rw [if_neg h, if_neg (by split <;> (try split) <;> walk_at "om")]
theorem s_max_of {a b : Int} (ha : Nn a) (hb : Nn b) (hz : ¬ (a % 2 ^ 63 = 0 ∧ b % 2 ^ 63 = 0)) : Fd (Gw w mg mb) 4 467 [.int a, .int b] (.int (if Ky b ≤ Ky a then a else b)) := by
  obtain ⟨a0, a1, a2⟩ := ha
  obtain ⟨b0, b1, b2⟩ := hb
  refine fd_ret ok_max_of rfl fun A L h₀ => ?_
  conv => arg 4; whnf
  refine es_if (eb_or (eb_call (cl (gv g_is_nan) (ea_cons (lv 0) ea_nil) (s_is_nan a0))) (fun _ => (eb_or (eb_call (cl (gv g_is_nan) (ea_cons (lv 1) ea_nil) (s_is_nan b0))) (fun _ => eb_or_nil)))).eb (fun h1 => ?_) (fun h1 => ?_)
  · rw [decide_eq_false (by walk_at "om"), decide_eq_false (by walk_at "om")] at h1; cases h1
  · refine es_if (eb_and (eb_call (cl (gv g_is_zero) (ea_cons (lv 0) ea_nil) (s_is_zero a0))) (fun _ => (eb_and (eb_call (cl (gv g_is_zero) (ea_cons (lv 1) ea_nil) (s_is_zero b0))) (fun _ => eb_and_nil)))).eb (fun h2 => ?_) (fun h2 => ?_)
    · simp only [Bool.and_true, Bool.and_eq_true, decide_eq_true_eq] at h2; exact absurd h2 hz
    · refine es_ret' (ev_ifI (eb_cmp (cl (gv g_compare) (ea_cons (lv 0) (ea_cons (lv 1) ea_nil)) (s_compare a0 a1 a2 b0 b1 b2)) ev_int cmp_ge rfl).eb (fun _ => (lv 0)) (fun _ => (lv 1))) ?_
      congr 1
      simp only [decide_eq_true_eq]
      by_cases h : Ky b ≤ Ky a
      · rw [if_pos h, if_pos (by split <;> (try split) <;> walk_at "om")]
      · rw [if_neg h, if_neg (by split <;> (try split) <;> walk_at "om")]
/-- two noughts -/
theorem s_min_of_z {a b : Int} (a0 : 0 ≤ a) (b0 : 0 ≤ b) (ha : a % 2 ^ 63 = 0) (hb : b % 2 ^ 63 = 0) : Fd (Gw w mg mb) 4 460 [.int a, .int b] (.int (Builtin.bitOr a b)) := by
  refine fd_ret ok_min_of rfl fun A L h₀ => ?_
  conv => arg 4; whnf
  refine es_if (eb_or (eb_call (cl (gv g_is_nan) (ea_cons (lv 0) ea_nil) (s_is_nan a0))) (fun _ => (eb_or (eb_call (cl (gv g_is_nan) (ea_cons (lv 1) ea_nil) (s_is_nan b0))) (fun _ => eb_or_nil)))).eb (fun h1 => ?_) (fun h1 => ?_)
  · rw [decide_eq_false (by walk_at "om"), decide_eq_false (by walk_at "om")] at h1; cases h1
  · refine es_if (eb_and (eb_call (cl (gv g_is_zero) (ea_cons (lv 0) ea_nil) (s_is_zero a0))) (fun _ => (eb_and (eb_call (cl (gv g_is_zero) (ea_cons (lv 1) ea_nil) (s_is_zero b0))) (fun _ => eb_and_nil)))).eb (fun h2 => ?_) (fun h2 => ?_)
    · exact es_ret (ev_bin (lv 0) (lv 1) bin_or)
    · rw [decide_eq_true ha, decide_eq_true hb] at h2; cases h2
theorem s_max_of_z {a b : Int} (a0 : 0 ≤ a) (b0 : 0 ≤ b) (ha : a % 2 ^ 63 = 0) (hb : b % 2 ^ 63 = 0) : Fd (Gw w mg mb) 4 467 [.int a, .int b] (.int (Builtin.bitAnd a b)) := by
  refine fd_ret ok_max_of rfl fun A L h₀ => ?_
  conv => arg 4; whnf
  refine es_if (eb_or (eb_call (cl (gv g_is_nan) (ea_cons (lv 0) ea_nil) (s_is_nan a0))) (fun _ => (eb_or (eb_call (cl (gv g_is_nan) (ea_cons (lv 1) ea_nil) (s_is_nan b0))) (fun _ => eb_or_nil)))).eb (fun h1 => ?_) (fun h1 => ?_)
  · rw [decide_eq_false (by walk_at "om"), decide_eq_false (by walk_at "om")] at h1; cases h1
  · refine es_if (eb_and (eb_call (cl (gv g_is_zero) (ea_cons (lv 0) ea_nil) (s_is_zero a0))) (fun _ => (eb_and (eb_call (cl (gv g_is_zero) (ea_cons (lv 1) ea_nil) (s_is_zero b0))) (fun _ => eb_and_nil)))).eb (fun h2 => ?_) (fun h2 => ?_)
    · exact es_ret (ev_bin (lv 0) (lv 1) bin_and)
    · rw [decide_eq_true ha, decide_eq_true hb] at h2; cases h2
/-- a nan on either side -/
theorem s_min_of_n {a b : Int} (a0 : 0 ≤ a) (b0 : 0 ≤ b) (h : 2047 * 2 ^ 52 < a % 2 ^ 63 ∨ 2047 * 2 ^ 52 < b % 2 ^ 63) : Fd (Gw w mg mb) 4 460 [.int a, .int b] (.int 9221120237041090560) := by
  refine fd_ret ok_min_of rfl fun A L h₀ => ?_
  conv => arg 4; whnf
  refine es_if (eb_or (eb_call (cl (gv g_is_nan) (ea_cons (lv 0) ea_nil) (s_is_nan a0))) (fun _ => (eb_or (eb_call (cl (gv g_is_nan) (ea_cons (lv 1) ea_nil) (s_is_nan b0))) (fun _ => eb_or_nil)))).eb (fun h1 => ?_) (fun h1 => ?_)
  · exact es_ret (gv g_NAN)
  · simp only [Bool.or_false, Bool.or_eq_false_iff, decide_eq_false_iff_not] at h1; walk_at "om"
theorem s_max_of_n {a b : Int} (a0 : 0 ≤ a) (b0 : 0 ≤ b) (h : 2047 * 2 ^ 52 < a % 2 ^ 63 ∨ 2047 * 2 ^ 52 < b % 2 ^ 63) : Fd (Gw w mg mb) 4 467 [.int a, .int b] (.int 9221120237041090560) := by
  refine fd_ret ok_max_of rfl fun A L h₀ => ?_
  conv => arg 4; whnf
  refine es_if (eb_or (eb_call (cl (gv g_is_nan) (ea_cons (lv 0) ea_nil) (s_is_nan a0))) (fun _ => (eb_or (eb_call (cl (gv g_is_nan) (ea_cons (lv 1) ea_nil) (s_is_nan b0))) (fun _ => eb_or_nil)))).eb (fun h1 => ?_) (fun h1 => ?_)
  · exact es_ret (gv g_NAN)
  · simp only [Bool.or_false, Bool.or_eq_false_iff, decide_eq_false_iff_not] at h1; walk_at "om"
end
section
variable {w : World} {mg mb : Str → Option Value}

/-! ## words of whole numbers -/
theorem R_shift {g : Int} {m : Nat} (m0 : m ≠ 0) (i : Nat) (e : Int) (h : bl m + i ≤ 53) : R g (m * 2 ^ i) e = R g m (e + i) := by
  unfold R
  rw [bl_shift m0]
  have e1 : ((m * 2 ^ i : Nat) : Int) * 2 ^ (53 - (bl m + i)) = (m : Int) * 2 ^ (53 - bl m) := by
    rw [Int.natCast_mul, pow_cast, Int.mul_assoc, ← Int.pow_add]
    congr 2
    walk_at "om"
  rw [e1]
  simp
  walk_at "om"
theorem MW_word {g : Int} {k : Nat} (g0 : 0 ≤ g) (g1 : g ≤ 1) (h : k ≠ 0) (hk : k < 2 ^ 40) : Wd (MW g k) g k 0 := ⟨g0, g1, h, hk, by decide, by decide, by unfold MW; rw [if_neg h]⟩
/-- a settled word is its whole part's -/
theorem Wd.whole {b g : Int} {m : Nat} {e : Int} (h : Wd b g m e) (hs : m % 2 ^ (-e).toNat = 0) : b = MW g (m / 2 ^ (-e).toNat) := by
  have hm : m = m / 2 ^ (-e).toNat * 2 ^ (-e).toNat := by
    have := Nat.div_add_mod m (2 ^ (-e).toNat)
    rw [hs, Nat.add_zero, Nat.mul_comm] at this
    exact this.symm
  have h0 : m / 2 ^ (-e).toNat ≠ 0 := by
    intro q
    rw [q, Nat.zero_mul] at hm
    exact h.m0 hm
  unfold MW
  rw [if_neg h0, h.eq]
  generalize hq : m / 2 ^ (-e).toNat = q at *
  generalize hi : (-e).toNat = i at *
  have he : e = -(i : Int) := by have := h.e1; walk_at "om"
  have hb : bl q + i ≤ 53 := by
    have := bl_shift h0 i
    rw [← hm] at this
    have := bl_le_of h.m1
    walk_at "om"
  rw [hm, R_shift h0 i e hb, he]
  congr 1
  walk_at "om"

theorem s_to_integer_W {b g : Int} {m : Nat} {e : Int} (h : Wd b g m e) : Fd (Gw w mg mb) 5 418 [.int b] (.int (MW g (m / 2 ^ (-e).toNat))) := by
  obtain ⟨n1, n2, n3, n4, n5⟩ := h.nn
  have hq : m / 2 ^ (-e).toNat ≤ m := Nat.div_le_self _ _
  have := h.m1
  refine fd_ret ok_to_integer rfl fun A L h₀ => ?_
  conv => arg 4; whnf
  refine es_ifd (eb_call (cl (gv g_is_nan) (ea_cons (lv 0) ea_nil) (s_is_nan n1))) (fun h1 => ?_) (fun h1 => ?_)
  · walk_at "om"
  · refine es_ret (ev_if (eb_call (cl (gv g_is_settled) (ea_cons (lv 0) ea_nil) (s_is_settled_W h))) (fun q => ?_) (fun _ => (cl (gv g_made_whole) (ea_cons (lv 0) (ea_cons (ev_itemT (cl (gv g_split) (ea_cons (lv 0) ea_nil) (s_split_W h)) ev_int ⟨0, rfl, by decide, rfl⟩) ea_nil)) (s_made_whole n1 n3 n2 (by walk_at "om")))))
    rw [← h.whole (of_decide_eq_true q)]
    exact (lv 0)
theorem s_to_integer_n {b : Int} (h : 0 ≤ b) (hn : 2047 * 2 ^ 52 < b % 2 ^ 63) : Fd (Gw w mg mb) 5 418 [.int b] (.int 0) := by
  refine fd_ret ok_to_integer rfl fun A L h₀ => ?_
  conv => arg 4; whnf
  refine es_ifd (eb_call (cl (gv g_is_nan) (ea_cons (lv 0) ea_nil) (s_is_nan h))) (fun h1 => ?_) (fun h1 => ?_)
  · exact es_ret (gv g_ZERO)
  · exact absurd hn h1
/-- infinities and noughts -/
theorem s_to_integer_s {b : Int} (h : 0 ≤ b) (hz : b % 2 ^ 63 = 2047 * 2 ^ 52 ∨ b % 2 ^ 63 = 0) : Fd (Gw w mg mb) 5 418 [.int b] (.int b) := by
  have hs : Fd (Gw w mg mb) 3 411 [.int b] (.bool true) := by
    rcases hz with hz | hz
    · exact s_is_settled_i h (by walk_at "om")
    · exact s_is_settled_z h hz
  refine fd_ret ok_to_integer rfl fun A L h₀ => ?_
  conv => arg 4; whnf
  refine es_ifd (eb_call (cl (gv g_is_nan) (ea_cons (lv 0) ea_nil) (s_is_nan h))) (fun h1 => ?_) (fun h1 => ?_)
  · walk_at "om"
  · exact es_ret (ev_if (eb_call (cl (gv g_is_settled) (ea_cons (lv 0) ea_nil) hs)) (fun _ => (lv 0)) (fun q => by cases q))

theorem s_parts_z {g : Int} (g0 : 0 ≤ g) (g1 : g ≤ 1) : Fd (Gw w mg mb) 1 271 [.int (g * 2 ^ 63)] (.tup [.int g, .int 0, .int (-1074)]) := by
  have := s_parts (w := w) (mg := mg) (mb := mb) (b := g * 2 ^ 63) (by walk_at "om")
  rw [if_pos (by walk_at "om"), if_pos (by walk_at "om")] at this
  have h1 : g * 2 ^ 63 / 2 ^ 63 = g := by walk_at "om"
  have h2 : g * 2 ^ 63 % 2 ^ 52 = 0 := by walk_at "om"
  rw [h1, h2] at this
  exact this
theorem R_parts {g : Int} {k : Nat} (g0 : 0 ≤ g) (g1 : g ≤ 1) (hk : k < 2 ^ 40) : ∃ M p : Int, Fd (Gw w mg mb) 1 271 [.int (MW g k)] (.tup [.int g, .int M, .int p]) ∧ p < 0 ∧ -1074 ≤ p ∧ 0 ≤ M ∧ M / 2 ^ (-p).toNat = k ∧ 0 ≤ MW g k ∧ MW g k < 2 ^ 64 ∧ MW g k % 2 ^ 63 < 2047 * 2 ^ 52 ∧ M / 2 ^ (-p).toNat * 2 ^ (-p).toNat = M ∧ M < 2 ^ 53 ∧ (-p).toNat ≤ 1074 := by
  by_cases h : k = 0
  · subst h
    refine ⟨0, -1074, s_parts_z g0 g1, by decide, by decide, by decide, by simp, ?_, ?_, ?_, by simp, by decide, by decide⟩ <;> (unfold MW; simp only [if_true]; walk_at "om")
  · have W := MW_word g0 g1 h hk
    obtain ⟨M, hM, a1, a2, a3, a4, a5⟩ := W.facts
    obtain ⟨n1, n2, n3, n4, n5⟩ := W.nn
    have hs := shr_lead (m := k) (e := 0) (by walk_at "om") (by decide)
    have ha := and_lead (m := k) (e := 0) (by walk_at "om") (by decide)
    simp at ha hs
    refine ⟨_, _, s_parts_W W, by walk_at "om", by walk_at "om", by walk_at "om", ?_, n1, n2, n4, ?_, by walk_at "om", by walk_at "om"⟩
    · simpa using hs
    · have ha' : ((k : Int) * 2 ^ (53 - bl k)) % 2 ^ (-(bl k + 0 - 53 : Int)).toNat = 0 := by
        have := and_lead (m := k) (e := 0) (by walk_at "om") (by decide)
        rw [this]
        simp [Nat.mod_one]
      exact Int.ediv_mul_cancel_of_emod_eq_zero ha'

theorem s_to_int_MW {g : Int} {k : Nat} (g0 : 0 ≤ g) (g1 : g ≤ 1) (hk : k < 2 ^ 40) : Fd (Gw w mg mb) 2 320 [.int (MW g k)] (.int (if g = 1 then -(k : Int) else k)) := by
  obtain ⟨M, p, hp, p1, p2, m0, mk, b0, b1, b2, _, _, _⟩ := R_parts (w := w) (mg := mg) (mb := mb) g0 g1 hk
  refine fd_ret ok_to_int rfl fun A L h₀ => ?_
  conv => arg 4; whnf
  refine es_if (eb_not (eb_call (cl (gv g_is_finite) (ea_cons (lv 0) ea_nil) (s_is_finite b0)))).eb (fun h1 => ?_) (fun h1 => ?_)
  · rw [decide_eq_true b2] at h1; cases h1
  · refine es_cons (es_unpack [1, 2, 3] rfl rfl rfl (cl (gv g_parts) (ea_cons (lv 0) ea_nil) hp) (fun _ => rfl) (fun _ => rfl)) ?_
    refine es_cons (es_set 4 rfl (ev_if (d := .int k) (eb_cmp (lv 3) ev_int cmp_ge rfl).eb (fun q => ?_) (fun _ => ?_)) (fun _ => rfl)) ?_
    · have := of_decide_eq_true q; walk_at "om"
    · rw [← mk]
      exact (ev_bin (lv 2) (ev_neg (lv 3)) (bin_shr (by walk_at "z")))
    · refine es_ret' (ev_ifI (eb_cmp (lv 1) ev_int cmp_eq rfl).eb (fun _ => (ev_neg (lv 4))) (fun _ => (lv 4))) ?_
      simp only [decide_eq_true_eq]
theorem s_is_whole_MW {g : Int} {k : Nat} (g0 : 0 ≤ g) (g1 : g ≤ 1) (hk : k < 2 ^ 40) : Fd (Gw w mg mb) 2 327 [.int (MW g k)] (.bool true) := by
  obtain ⟨M, p, hp, p1, p2, m0, mk, b0, b1, b2, b3, b4, b5⟩ := R_parts (w := w) (mg := mg) (mb := mb) g0 g1 hk
  have hz : (M / 2 ^ (-p).toNat).natAbs < 2 ^ 64 := by rw [mk]; simp; walk_at "om"
  refine fd_ret ok_is_whole rfl fun A L h₀ => ?_
  conv => arg 4; whnf
  refine es_if (eb_not (eb_call (cl (gv g_is_finite) (ea_cons (lv 0) ea_nil) (s_is_finite b0)))).eb (fun h1 => ?_) (fun h1 => ?_)
  · rw [decide_eq_true b2] at h1; cases h1
  · refine es_cons (es_unpack [1, 2, 3] rfl rfl rfl (cl (gv g_parts) (ea_cons (lv 0) ea_nil) hp) (fun _ => rfl) (fun _ => rfl)) ?_
    refine es_ret' (ev_or (ev_cmp (lv 3) ev_int cmp_ge rfl) (fun _ => (ev_bone (ev_cmp (ev_bin (ev_bin (lv 2) (ev_neg (lv 3)) (bin_shr (by walk_at "z"))) (ev_neg (lv 3)) (bin_shl (by walk_at "z") (shl_sz 64 hz (by walk_at "om")))) (lv 2) cmp_eq rfl)))) ?_
    rw [b3]
    simp
theorem s_is_odd_MW {g : Int} {k : Nat} (g0 : 0 ≤ g) (g1 : g ≤ 1) (hk : k < 2 ^ 40) : Fd (Gw w mg mb) 3 355 [.int (MW g k)] (.bool (decide (k % 2 = 1))) := by
  obtain ⟨M, p, hp, p1, p2, m0, mk, b0, b1, b2, b3, b4, b5⟩ := R_parts (w := w) (mg := mg) (mb := mb) g0 g1 hk
  refine fd_ret ok_is_odd rfl fun A L h₀ => ?_
  conv => arg 4; whnf
  refine es_ret' (ev_and (cl (gv g_is_whole) (ea_cons (lv 0) ea_nil) (s_is_whole_MW g0 g1 hk)) (fun _ => (ev_bone (ev_cmp (ev_bin (cl (gv g_to_int) (ea_cons (lv 0) ea_nil) (s_to_int_MW g0 g1 hk)) ev_int (bin_mod (by walk_at "z"))) ev_int cmp_eq rfl)))) ?_
  rw [Bool.true_and]
  congr 1
  refine decide_eq_decide.mpr ?_
  split <;> walk_at "om"

theorem s_from_int {n : Int} (h : n.natAbs < 2 ^ 53) : Fd (Gw w mg mb) 4 313 [.int n] (.int (MW (if n < 0 then 1 else 0) n.natAbs)) := by
  refine fd_ret ok_from_int rfl fun A L h₀ => ?_
  conv => arg 4; whnf
  refine es_ret' (cl (gv g_round_ratio) (ea_cons (ev_ifI (eb_cmp (lv 0) ev_int cmp_lt rfl).eb (fun _ => ev_int) (fun _ => ev_int)) (ea_cons (clB (bv b_abs) (ea_cons (lv 0) ea_nil) bi_abs) (ea_cons ev_int ea_nil))) (s_round_ratio_one (by split <;> decide) (by split <;> decide) h)) ?_
  simp only [decide_eq_true_eq]

/-! ## arguments made numbers -/
theorem s_arg_0 {d : D} {ds : List D} (h : ds.length < 1000) : Fd (Gw w mg mb) 1 83 [.lst (d :: ds), .int 0] d := by
  refine fd_ret ok_arg rfl fun A L h₀ => ?_
  conv => arg 4; whnf
  refine es_ret (ev_if (eb_cmp (lv 1) (clB (bv b_len) (ea_cons (lv 0) ea_nil) (bi_lenL (by simp only [List.length_cons]; walk_at "om"))) cmp_lt rfl).eb (fun _ => (ev_itemL (lv 0) (lv 1) ⟨0, rfl, by decide, rfl⟩)) (fun q => ?_))
  have := of_decide_eq_false q
  simp only [List.length_cons] at this
  walk_at "om"
theorem s_arg_1 {d e : D} {ds : List D} (h : ds.length < 1000) : Fd (Gw w mg mb) 1 83 [.lst (d :: e :: ds), .int 1] e := by
  refine fd_ret ok_arg rfl fun A L h₀ => ?_
  conv => arg 4; whnf
  refine es_ret (ev_if (eb_cmp (lv 1) (clB (bv b_len) (ea_cons (lv 0) ea_nil) (bi_lenL (by simp only [List.length_cons]; walk_at "om"))) cmp_lt rfl).eb (fun _ => (ev_itemL (lv 0) (lv 1) ⟨1, rfl, by decide, rfl⟩)) (fun q => ?_))
  have := of_decide_eq_false q
  simp only [List.length_cons] at this
  walk_at "om"
theorem s_arg_none : Fd (Gw w mg mb) 1 83 [.lst [], .int 0] .none := by
  refine fd_ret ok_arg rfl fun A L h₀ => ?_
  conv => arg 4; whnf
  refine es_ret (ev_if (eb_cmp (lv 1) (clB (bv b_len) (ea_cons (lv 0) ea_nil) (bi_lenL (by decide))) cmp_lt rfl).eb (fun q => ?_) (fun _ => ev_none))
  have := of_decide_eq_true q
  simp at this

theorem s_is_null_int {n : Int} : Fd (Gw w mg mb) 1 90 [.int n] (.bool false) := by
  refine fd_ret ok_is_null rfl fun A L h₀ => ?_
  conv => arg 4; whnf
  exact es_ret (clB (bv b_isinstance) (ea_cons (lv 0) (ea_cons (gv g_Null) ea_nil)) (isi_own_int (by kernel_rfl)))
theorem s_is_object_int {n : Int} : Fd (Gw w mg mb) 1 104 [.int n] (.bool false) := by
  refine fd_ret ok_is_object rfl fun A L h₀ => ?_
  conv => arg 4; whnf
  exact es_ret (clB (bv b_isinstance) (ea_cons (lv 0) (ea_cons (gv g_JSValue) ea_nil)) (isi_own_int (by kernel_rfl)))
theorem s_is_number_int {n : Int} : Fd (Gw w mg mb) 1 97 [.int n] (.bool true) := by
  refine fd_ret ok_is_number rfl fun A L h₀ => ?_
  conv => arg 4; whnf
  exact es_ret' (ev_and (clB (bv b_isinstance) (ea_cons (lv 0) (ea_cons (bv b_int) ea_nil)) isi_int_int) (fun _ => (ev_bone (ev_not (clB (bv b_isinstance) (ea_cons (lv 0) (ea_cons (bv b_bool) ea_nil)) isi_int_bool))))) rfl
theorem s_is_number_str {x : Str} : Fd (Gw w mg mb) 1 97 [.str x] (.bool false) := by
  refine fd_ret ok_is_number rfl fun A L h₀ => ?_
  conv => arg 4; whnf
  exact es_ret' (ev_and (b := true) (clB (bv b_isinstance) (ea_cons (lv 0) (ea_cons (bv b_int) ea_nil)) isi_str_int) (fun q => by cases q)) rfl
theorem s_is_number_none : Fd (Gw w mg mb) 1 97 [.none] (.bool false) := by
  refine fd_ret ok_is_number rfl fun A L h₀ => ?_
  conv => arg 4; whnf
  exact es_ret' (ev_and (b := true) (clB (bv b_isinstance) (ea_cons (lv 0) (ea_cons (bv b_int) ea_nil)) isi_none_int) (fun q => by cases q)) rfl
theorem s_is_number_bool {x : Bool} : Fd (Gw w mg mb) 1 97 [.bool x] (.bool false) := by
  refine fd_ret ok_is_number rfl fun A L h₀ => ?_
  conv => arg 4; whnf
  exact es_ret' (ev_and (clB (bv b_isinstance) (ea_cons (lv 0) (ea_cons (bv b_int) ea_nil)) isi_bool_int) (fun _ => (ev_bone (ev_not (clB (bv b_isinstance) (ea_cons (lv 0) (ea_cons (bv b_bool) ea_nil)) isi_bool_bool))))) rfl

theorem s_number_of {n : Int} : Fd (Gw w mg mb) 2 558 [.int n] (.int n) := by
  refine fd_ret ok_number_of rfl fun A L h₀ => ?_
  conv => arg 4; whnf
  refine es_if (eb_cmp (lv 0) ev_none cmp_is rfl).eb (fun h1 => by cases h1) (fun h1 => ?_)
  refine es_if (eb_call (cl (gv g_is_null) (ea_cons (lv 0) ea_nil) s_is_null_int)) (fun h2 => by cases h2) (fun h2 => ?_)
  refine es_if (eb_call (clB (bv b_isinstance) (ea_cons (lv 0) (ea_cons (bv b_bool) ea_nil)) isi_int_bool)) (fun h3 => by cases h3) (fun h3 => ?_)
  exact es_ret (ev_if (eb_call (cl (gv g_is_number) (ea_cons (lv 0) ea_nil) s_is_number_int)) (fun _ => (lv 0)) (fun q => by cases q))
theorem s_to_primitive {v : D} {n : Int} {x : Str} : Fd (Gw w mg mb) 2 565 [v, .int n, .str x] (.int n) := by
  refine fd_ret ok_to_primitive rfl fun A L h₀ => ?_
  conv => arg 4; whnf
  refine es_if (eb_call (cl (gv g_is_object) (ea_cons (lv 1) ea_nil) s_is_object_int)) (fun h1 => by cases h1) (fun h1 => ?_)
  exact es_ret (lv 1)
theorem s_to_number {v : D} {n : Int} : Fd (Gw w mg mb) 3 572 [v, .int n] (.int n) := by
  refine fd_ret ok_to_number rfl fun A L h₀ => ?_
  conv => arg 4; whnf
  exact es_ret (cl (gv g_number_of) (ea_cons (cl (gv g_to_primitive) (ea_cons (lv 0) (ea_cons (lv 1) (ea_cons ev_str ea_nil))) s_to_primitive) ea_nil) s_number_of)

/-- the whole numbers: of words whose whole part is MW g k -/
theorem s_to_whole_f {v : D} {b g : Int} {k : Nat} {lo hi : Int} (g0 : 0 ≤ g) (g1 : g ≤ 1) (hk : k < 2 ^ 40) (h : Fd (Gw w mg mb) 5 418 [.int b] (.int (MW g k))) :
    Fd (Gw w mg mb) 6 579 [v, .int b, .int lo, .int hi] (.int (min (max (if g = 1 then -(k : Int) else k) lo) hi)) := by
  obtain ⟨M, p, hp, p1, p2, m0, mk, b0, b1, b2, b3, b4, b5⟩ := R_parts (w := w) (mg := mg) (mb := mb) g0 g1 hk
  refine fd_ret ok_to_whole rfl fun A L h₀ => ?_
  conv => arg 4; whnf
  refine es_cons (es_set 4 rfl (cl (gv g_to_integer) (ea_cons (cl (gv g_to_number) (ea_cons (lv 0) (ea_cons (lv 1) ea_nil)) s_to_number) ea_nil) h) (fun _ => rfl)) ?_
  refine es_ifd (eb_cmp (lv 4) (gv g_INF) cmp_eq rfl).eb (fun h1 => ?_) (fun h1 => ?_)
  · walk_at "om"
  · refine es_ifd (eb_cmp (lv 4) (gv g_NEG_INF) cmp_eq rfl).eb (fun h2 => ?_) (fun h2 => ?_)
    · walk_at "om"
    · refine es_cons (es_set 5 rfl (cl (gv g_to_int) (ea_cons (lv 4) ea_nil) (s_to_int_MW g0 g1 hk)) (fun _ => rfl)) ?_
      exact es_ret (clB (bv b_min) (ea_cons (clB (bv b_max) (ea_cons (lv 5) (ea_cons (lv 2) ea_nil)) bi_max) (ea_cons (lv 3) ea_nil)) bi_min)
theorem s_to_whole_inf {v : D} {lo hi : Int} : Fd (Gw w mg mb) 6 579 [v, .int 9218868437227405312, .int lo, .int hi] (.int hi) := by
  refine fd_ret ok_to_whole rfl fun A L h₀ => ?_
  conv => arg 4; whnf
  refine es_cons (es_set 4 rfl (cl (gv g_to_integer) (ea_cons (cl (gv g_to_number) (ea_cons (lv 0) (ea_cons (lv 1) ea_nil)) s_to_number) ea_nil) (s_to_integer_s (by decide) (Or.inl (by decide)))) (fun _ => rfl)) ?_
  refine es_ifd (eb_cmp (lv 4) (gv g_INF) cmp_eq rfl).eb (fun h1 => ?_) (fun h1 => ?_)
  · exact es_ret (lv 3)
  · exact absurd rfl h1
theorem s_count_none {v : D} {ds : List D} (h : Fd (Gw w mg mb) 1 83 [.lst ds, .int 0] .none) : Fd (Gw w mg mb) 7 851 [v, .lst ds] .none := by
  refine fd_ret ok_count_of rfl fun A L h₀ => ?_
  conv => arg 4; whnf
  refine es_cons (es_set 2 rfl (cl (gv g_arg) (ea_cons (lv 1) (ea_cons ev_int ea_nil)) h) (fun _ => rfl)) ?_
  exact es_ret (ev_if (eb_cmp (lv 2) ev_none cmp_is rfl).eb (fun _ => ev_none) (fun q => by cases q))
theorem s_count_int {v : D} {b c : Int} (h : Fd (Gw w mg mb) 6 579 [v, .int b, .int (-1), .int (36 + 1)] (.int c)) : Fd (Gw w mg mb) 7 851 [v, .lst [.int b]] (.int c) := by
  refine fd_ret ok_count_of rfl fun A L h₀ => ?_
  conv => arg 4; whnf
  refine es_cons (es_set 2 rfl (cl (gv g_arg) (ea_cons (lv 1) (ea_cons ev_int ea_nil)) (s_arg_0 (by decide))) (fun _ => rfl)) ?_
  exact es_ret (ev_if (eb_cmp (lv 2) ev_none cmp_is rfl).eb (fun q => by cases q) (fun _ => (cl (gv g_to_whole) (ea_cons (lv 0) (ea_cons (lv 2) (ea_cons (ev_neg ev_int) (ea_cons (ev_bin (gv g_MOST_RADIX) ev_int bin_add) ea_nil)))) h)))
end
section
section
variable {X : Cx} {σ : Lo} {μ : Mu}
/-- a tuple taken apart, of constants alone (the machine's order is known at the frame) -/
theorem es_unpackC {elts : List Expr} {k : Nat} {tp pos : Pos} {e : Expr} {ds : List D} {xs : List Str} (is : List Nat) (hx : namesOf' elts = some xs)
    (hn : is.map (fun i => X.names[i]?) = xs.map some) (hd : is.length = ds.length) (h : EE X σ μ e (.tup ds))
    (hs : ∀ env, swapsWithSole [.Tuple elts k tp] e pos.line env = pure false) (hw : swappedStores [.Tuple elts k tp] e X.env = pure none) :
    E1 X σ μ (.Assign [.Tuple elts k tp] e pos) (.next (setAll σ is ds) μ) := by
  refine ⟨fun s Q E S kk => ?_⟩
  refine PyProof.Rows.Assign_Tuple (h.run s _ E S fun v h₁ tk₁ S₁ k₁ r₁ => ?_) (hs _) hw
  obtain ⟨a, vs, rfl, ht, rs⟩ := r₁.tup_inv
  obtain ⟨n1, n2, n3, n4⟩ := names_each (env := X.env) hx
  have hl : xs.length = is.length := by have := congrArg List.length hn; simpa using this.symm
  refine assign_Tuple_tuple S₁.ok.ah ht (by rw [n1, List.size_toArray, rs.len, ← hd, hl]) n2 fun h₂ he => ?_
  have sub : Sub h₁ h₂ := fun b o e => he b o (Nat.ne_of_lt (Heap.lt_size e)) e
  refine storeAll_ (μ := μ) xs is vs ds σ _ _ E (fun j x i e1 e2 => ?_) hl hd (S₁.sub sub) (rs.kq sub.kq) (fun h₃ tk₃ S₃ k₃ => ?_) _ (by rw [List.length_map]; exact n1) (fun j t x e1 e2 v s' Q' E' h' => ?_)
  · have := congrArg (·[j]?) hn
    simp only [List.getElem?_map, e1, e2, Option.map_some] at this
    exact Option.some.inj this
  · exact kk _ _ S₃ ((k₁.trans (Ke.of_sub sub)).trans k₃).ks
  · obtain ⟨p, rfl⟩ := n4 j t x e1 e2
    exact PyProof.Rows.assign_Name h'
end

/-! ## lists of the frame's own -/
theorem Rv.flat {h h' : Heap} {v : Value} {d : D} (r : Rv h v d) (f : d.flat = true) : Rv h' v d := by
  cases r with
  | none => exact .none
  | bool b => exact .bool b
  | int i t => exact .int i t
  | str s t => exact .str s t
  | ref a => exact .ref a
  | bi a => exact .bi a
  | ty a => exact .ty a
  | tup => cases f
  | lst => cases f
theorem Rvs.flat {h h' : Heap} {vs : List Value} {ds : List D} (r : Rvs h vs ds) (f : ∀ d ∈ ds, d.flat = true) : Rvs h' vs ds :=
  ⟨r.1, fun i v d e1 e2 => (r.2 i v d e1 e2).flat (f d (List.mem_of_getElem? e2))⟩

noncomputable def flatLo (σ : Lo) : Bool := σ.all fun | none => true | some d => d.flat

section
variable {X : Cx} {σ : Lo}

/-- one list changed in place -/
theorem St.mut {a : Addr} {l l' : List D} {h h' : Heap} {vs' : List Value} {n' : Nat} (S : St X σ [(a, l)] h) (hσ : flatLo σ = true) (hc : X.cells = []) (hs : Heap.SameBut a h h')
    (ho : h'.get? a = some (LO vs' n')) (r : Rvs h vs' l') (fl : ∀ d ∈ l', d.flat = true) : St X σ [(a, l')] h' ∧ Ks X [(a, l)] h h' := by
  obtain ⟨n1, n2, n3, vs, n, q1, q2⟩ := S.ow (a, l) (List.Mem.head _)
  obtain ⟨m, F, V⟩ := S.fr
  refine ⟨⟨S.ok, ⟨m, F.change hs n1 (S.ok.dom _ n2), fun i x d e1 e2 => ?_⟩, fun p hp => ?_, fun p hp => ?_, fun b o e => ?_⟩, fun b o hb hq e => ?_⟩
  · obtain ⟨v, hv, rv⟩ := V i x d e1 e2
    exact ⟨v, hv, rv.flat (by have := List.all_eq_true.mp hσ _ (List.mem_of_getElem? e2); exact this)⟩
  · rw [List.mem_singleton] at hp
    subst hp
    exact ⟨n1, n2, fl, vs', n', ho, r.flat fl⟩
  · rw [hc] at hp; cases hp
  · obtain ⟨sl, e1⟩ := S.us b o e
    exact ⟨sl, (hs.2 b (fun q => by rw [q, n2] at e; cases e)).trans e1⟩
  · exact ⟨o.slots, (hs.2 b (fun q => hq (a, l) (List.Mem.head _) q.symm)).trans e⟩

theorem St.own {a : Addr} {l : List D} {h : Heap} (S : St X σ [(a, l)] h) : a ≠ X.L ∧ X.hs.get? a = none ∧ (∀ d ∈ l, d.flat = true) ∧ ∃ vs n, h.get? a = some (LO vs n) ∧ Rvs h vs l := S.ow (a, l) (List.Mem.head _)
theorem LO_isList {h : Heap} {a : Addr} {vs n} (e : h.get? a = some (LO vs n)) : h.IsList a vs.toArray := ⟨_, e, rfl, n, rfl⟩
theorem LO_noDict {h : Heap} {a : Addr} {vs n} (e : h.get? a = some (LO vs n)) : h.NoDictAt (.ref a) := ⟨_, e, rfl⟩
theorem LO_map (f : Array Value → Array Value) (vs : List Value) (n : Nat) : ∃ n', Obj.mapSeq f (LO vs n) = LO (f vs.toArray).toList n' := ⟨_, rfl⟩

/-- the list as a datum -/
theorem ev_own {x : Str} {p : Pos} {a : Addr} {l : List D} (i : Nat) (hn : X.names[i]? = some x := by rfl) (hd : σ[i]? = some (some (.ref a)) := by rfl) (hdb : (x == ("__debug__" : Str)) = false := by kernel_rfl) : EE X σ [(a, l)] (.Name x p) (.lst l) := by
  refine ⟨fun s Q E S k => (ev_loc i hn hd hdb).run s Q E S fun v h' tk S' k' r => ?_⟩
  cases r
  obtain ⟨n1, n2, n3, vs, n, q1, q2⟩ := S'.own
  exact k _ _ _ S' k' (.lst a vs l (LO_isList q1) q2.1 q2.2)

theorem St.take {a : Addr} {l : List D} {h : Heap} {vs : List Value} {n : Nat} (S : St X σ [] h) (h1 : a ≠ X.L) (h2 : X.hs.get? a = none) (h3 : h.get? a = some (LO vs n)) (r : Rvs h vs l) (fl : ∀ d ∈ l, d.flat = true) : St X σ [(a, l)] h :=
  ⟨S.ok, S.fr, fun p hp => by rw [List.mem_singleton] at hp; subst hp; exact ⟨h1, h2, fl, vs, n, h3, r⟩, S.ce, S.us⟩

/-- a new list, bound to a name -/
theorem es_new {x : Str} {px pl pos : Pos} {rest : List Stmt} {o : Out} (i : Nat) (hn : X.names[i]? = some x) (hr : ∀ a, ES X (σ.set i (some (.ref a))) [(a, [])] rest o)
    (hs : ∀ env, swapsWith (.List [] pl) (some (.Name x px)) pos.line env = pure false) : ES X σ [] (.Assign [.Name x px] (.List [] pl) pos :: rest) o := by
  refine ⟨fun s Q E S p => ?_⟩
  refine wpAny_execs_cons (wpAny_Assign_Name (List_ (args_nil (wpAny_newObj_type ?_ (show (0 : Nat) ≤ sizeLine from Nat.zero_le _)))) (hs _))
  have S₁ : St X σ [(s.heap.objs.size, [])] (s.heap.push (LO [] 0)) := (S.push (LO [] 0)).take (Nat.ne_of_gt S.L_lt) S.fresh0 (Heap.get?_push_size _ rfl) (Rvs.nil _) (fun d hd => by cases hd)
  refine store_ (s := { s with heap := s.heap.push (LO [] 0) }) i hn S₁ (.ref _) fun h₂ tk₂ S₂ k₂ => ?_
  refine (hr _).run _ Q E S₂ (Post.mono_ks (s := s) rfl ((Ke.push (X := X) _).trans k₂).ks p fun q hq => .inr ?_)
  rw [List.mem_singleton] at hq
  subst hq
  cases hc : s.heap.get? s.heap.objs.size with
  | none => rfl
  | some oo => exact absurd (Heap.lt_size hc) (Nat.lt_irrefl _)

/-- two names: a datum and a new list -/
theorem es_new2 {x y : Str} {px py pl pos tp tq : Pos} {k₁ k₂ : Nat} {e : Expr} {d : D} {rest : List Stmt} {o : Out} (i j : Nat) (hn : X.names[i]? = some x) (hm : X.names[j]? = some y) (h : EE X σ [] e d) (he : notStar e = true)
    (hr : ∀ a, ES X ((σ.set j (some (.ref a))).set i (some d)) [(a, [])] rest o)
    (hs : ∀ env, swapsWithSole [.Tuple [.Name x px, .Name y py] k₁ tp] (.Tuple [e, .List [] pl] k₂ tq) pos.line env = pure false)
    (hw : swappedStores [.Tuple [.Name x px, .Name y py] k₁ tp] (.Tuple [e, .List [] pl] k₂ tq) X.env = pure (some [x, y])) :
    ES X σ [] (.Assign [.Tuple [.Name x px, .Name y py] k₁ tp] (.Tuple [e, .List [] pl] k₂ tq) pos :: rest) o := by
  refine ⟨fun s Q E S p => ?_⟩
  refine wpAny_execs_cons (PyProof.Rows.Assign_Tuple_swapped (names := [x, y]) (Tuple_ (args_cons (h.run s _ E S fun v h₁ tk₁ S₁ k₁ r₁ => ?_) (star_plain he))) (hs _) hw)
  refine args_cons (List_ (args_nil (wpAny_newObj_type (args_nil (wpAny_newObj_type ?_ (show (2 : Nat) ≤ sizeLine from Nat.le_of_ble_eq_true rfl))) (show (0 : Nat) ≤ sizeLine from Nat.zero_le _)))) rfl
  have S₂ : St X σ [(h₁.objs.size, [])] (h₁.push (LO [] 0)) := (S₁.push (LO [] 0)).take (Nat.ne_of_gt S₁.L_lt) S₁.fresh0 (Heap.get?_push_size _ rfl) (Rvs.nil _) (fun d hd => by cases hd)
  have S₃ := S₂.push { cls := .type "tuple", data := .seq [v, .ref h₁.objs.size].toArray }
  refine unpackItems_tuple (items := [v, .ref h₁.objs.size].toArray) S₁.ok.ah (IsTup.new (h₁.push (LO [] 0)) _) fun h₄ he4 => ?_
  have sub : Sub ((h₁.push (LO [] 0)).push { cls := .type "tuple", data := .seq [v, .ref h₁.objs.size].toArray }) h₄ := fun b o e => he4 b o (Nat.ne_of_lt (Heap.lt_size e)) e
  have S₄ := S₃.sub sub
  have rv : Rv h₄ v d := ((r₁.sub (Sub.push _)).sub (Sub.push _)).sub sub
  have k₄ : Ke X h₁ h₄ := ((Ke.push (X := X) _).trans (Ke.push (X := X) _)).trans (Ke.of_sub sub)
  refine assignInOrder_cons (wpAny_bindName (store_ j hm S₄ (.ref _) fun h₅ tk₅ S₅ k₅ => ?_))
  refine assignInOrder_cons (wpAny_bindName (store_ i hn S₅ (rv.kq (S₄.kq k₅)) fun h₆ tk₆ S₆ k₆ => ?_))
  refine assignInOrder_nil ?_
  refine (hr _).run _ Q E S₆ (Post.mono_ks (s := s) rfl (((k₁.trans k₄).trans k₅).trans k₆).ks p fun q hq => .inr ?_)
  rw [List.mem_singleton] at hq
  subst hq
  cases hc : s.heap.get? h₁.objs.size with
  | none => rfl
  | some oo =>
    have hlt := Heap.lt_size hc
    obtain ⟨sl, this⟩ := k₁ _ _ (Nat.ne_of_gt S₁.L_lt) hc
    exact absurd (Heap.lt_size this) (Nat.lt_irrefl _)

/-- a list copied -/
theorem es_copy {x f : Str} {px pf pos cp : Pos} {e : Expr} {l : List D} {rest : List Stmt} {o : Out} (i : Nat) (hn : X.names[i]? = some x) (hf : EE X σ [] (.Name f pf) (.ty "list")) (h : EE X σ [] e (.lst l)) (he : notStar e = true)
    (fl : ∀ d ∈ l, d.flat = true) (hz : l.length ≤ sizeLine)
    (hr : ∀ a, ES X (σ.set i (some (.ref a))) [(a, l)] rest o) (hs : ∀ env, swapsWith (.Call (.Name f pf) [e] [] cp) (some (.Name x px)) pos.line env = pure false) :
    ES X σ [] (.Assign [.Name x px] (.Call (.Name f pf) [e] [] cp) pos :: rest) o := by
  refine ⟨fun s Q E S p => ?_⟩
  refine wpAny_execs_cons (wpAny_Assign_Name (Call_ (hf.run s _ E S fun v h₁ tk₁ S₁ k₁ r₁ => ?_) rfl) (hs _))
  cases r₁
  refine PyProof.Rows.callWith_type1 (args_cons (h.run _ _ E S₁ fun u h₂ tk₂ S₂ k₂ r₂ => args_nil ?_) (star_plain he)) (star_plain he) rfl
  obtain ⟨b, vs, rfl, hb, rs⟩ := r₂.lst_inv
  obtain ⟨ob, hob, hcb, nb, hdb⟩ := id hb
  refine call_list_seq b (Or.inl rfl) hob hcb hdb (fun h₃ c₃ sub hnew => ?_) (by rw [List.size_toArray, rs.len]; exact hz)
  have S₃ : St X σ [(h₂.objs.size, l)] h₃ := (S₂.sub sub).take (Nat.ne_of_gt S₂.L_lt) S₂.fresh0 (vs := vs) (n := c₃) hnew (rs.kq (Sub.kq sub)) fl
  refine store_ (s := { s with heap := h₃, toks := tk₂ }) i hn S₃ (.ref _) fun h₄ tk₄ S₄ k₄ => ?_
  refine (hr _).run _ Q E S₄ (Post.mono_ks (s := s) rfl (((k₁.trans k₂).trans (Ke.of_sub sub)).trans k₄).ks p fun q hq => .inr ?_)
  rw [List.mem_singleton] at hq
  subst hq
  cases hc : s.heap.get? h₂.objs.size with
  | none => rfl
  | some oo =>
    obtain ⟨sl, e1⟩ := k₁ _ _ (Nat.ne_of_gt S₂.L_lt) hc
    obtain ⟨sl', this⟩ := k₂ _ _ (Nat.ne_of_gt S₂.L_lt) e1
    exact absurd (Heap.lt_size this) (Nat.lt_irrefl _)

/-- a name forgotten -/
theorem es_forget {ss : List Stmt} {o : Out} {μ : Mu} (i : Nat) (h : ES X (σ.set i none) μ ss o) : ES X σ μ ss o := by
  refine ⟨fun s Q E S p => h.run s Q E ⟨S.ok, ?_, S.ow, S.ce, S.us⟩ p⟩
  obtain ⟨m, F, V⟩ := S.fr
  refine ⟨m, F, fun j x d e1 e2 => V j x d e1 ?_⟩
  by_cases hij : i = j
  · subst hij
    rw [List.getElem?_set_self'] at e2
    cases hc : σ[i]? with
    | none => rw [hc] at e2; cases e2
    | some _ => rw [hc] at e2; cases e2
  · rwa [getElem?_set_ne hij] at e2

/-- one statement that changes the list, and the rest -/
theorem es_cons1 {st : Stmt} {rest : List Stmt} {a : Addr} {l l' : List D} {σ' : Lo} {o : Out} (h : E1 X σ [(a, l)] st (.next σ' [(a, l')])) (hr : ES X σ' [(a, l')] rest o) : ES X σ [(a, l)] (st :: rest) o := by
  refine ⟨fun s Q E S p => ?_⟩
  refine wpAny_execs_cons (h.run s _ E S ?_)
  intro h₁ tk₁ S₁ k₁
  refine hr.run _ Q E S₁ (Post.mono_ks (s := s) rfl k₁ p fun q hq => .inl ?_)
  rw [List.mem_singleton] at hq
  subst hq
  exact List.mem_singleton.mpr rfl
theorem ew_next1 {t : Expr} {b : List Stmt} {a : Addr} {l l' : List D} {σ' : Lo} {o : Out} (h : EB X σ [(a, l)] t true) (hb : ES X σ [(a, l)] b (.next σ' [(a, l')])) (hw : EW X σ' [(a, l')] t b o) : EW X σ [(a, l)] t b o := by
  refine ⟨fun s R S p => ?_⟩
  refine ew_step (h.run s _ _ S fun h₁ tk₁ S₁ k₁ => ?_)
  simp only [if_true]
  refine hb.run _ _ _ S₁ fun h₂ tk₂ S₂ k₂ => ?_
  refine hw.run _ R S₂ (Post.mono_ks (s := { s with heap := h₁, toks := tk₁ }) rfl k₂ (p.same k₁.ks) fun q hq => .inl ?_)
  rw [List.mem_singleton] at hq
  subst hq
  exact List.mem_singleton.mpr rfl
theorem es_while1 {t : Expr} {b rest : List Stmt} {pos : Pos} {a : Addr} {l l' : List D} {σ' : Lo} {o : Out} (hw : EW X σ [(a, l)] t b (.next σ' [(a, l')])) (hr : ES X σ' [(a, l')] rest o) : ES X σ [(a, l)] (.While t b [] pos :: rest) o := by
  refine ⟨fun s Q E S p => ?_⟩
  refine wpAny_execs_cons (wpAny_While (hw.run s _ S ?_))
  intro h₁ tk₁ S₁ k₁
  refine hr.run _ Q E S₁ (Post.mono_ks (s := s) rfl k₁ p fun q hq => .inl ?_)
  rw [List.mem_singleton] at hq
  subst hq
  exact List.mem_singleton.mpr rfl

theorem Rvs.app {h : Heap} {vs ds v d} (r : Rvs h vs ds) (q : Rv h v d) : Rvs h (vs ++ [v]) (ds ++ [d]) := by
  refine ⟨by simp [r.1], fun i u c e1 e2 => ?_⟩
  by_cases hi : i < vs.length
  · rw [List.getElem?_append_left hi] at e1
    rw [List.getElem?_append_left (by rw [← r.1]; exact hi)] at e2
    exact r.2 i u c e1 e2
  · rw [List.getElem?_append_right (by walk_at "om")] at e1
    rw [List.getElem?_append_right (by rw [← r.1]; walk_at "om"), ← r.1] at e2
    have hl := (List.getElem?_eq_some_iff.mp e1).1
    simp only [List.length_singleton] at hl
    have h0 : i - vs.length = 0 := by walk_at "om"
    rw [h0] at e1 e2
    simp at e1 e2
    subst e1 e2
    exact q

/-- what a method's look-up asks of its receiver's expression -/
noncomputable def plO (o : Expr) (env : Env) : Sem Bool := do return (← importBound o env).getD true

theorem es_append {x : Str} {px apos cpos pos : Pos} {e : Expr} {a : Addr} {l : List D} {d : D} (i : Nat) (h : EE X σ [(a, l)] e d) (hf : d.flat = true := by rfl) (hz : l.length ≤ 1000) (hn : X.names[i]? = some x := by rfl) (hd : σ[i]? = some (some (.ref a)) := by rfl)
    (hσ : flatLo σ = true := by rfl) (hc : X.cells = [] := by rfl) (he : notStar e = true := by rfl) (hdb : (x == ("__debug__" : Str)) = false := by kernel_rfl) (hi : interactive X.env = false := by rfl)
    (hs : ∀ env, swapsWith (.Call (.Attribute (.Name x px) "append" apos) [e] [] cpos) none pos.line env = pure false := by intro _; rfl)
    (hm : ∀ env, eval (.Call (.Attribute (.Name x px) "append" apos) [e] [] cpos) env = (do
      let ov ← eval (.Name x px) env
      standAt apos.atName
      let (f, first) ← holding [ov] (getMethod ov "append" (plO (.Name x px) env))
      callWith cpos f first (backTo cpos (starEach [e] env)) []) := by intro _; rfl) :
    E1 X σ [(a, l)] (.Expr (.Call (.Attribute (.Name x px) "append" apos) [e] [] cpos) pos) (.next σ [(a, l ++ [d])]) := by
  refine ⟨fun s Q E S k => ?_⟩
  refine wpAny_Expr_any (MethodCall_ (pl := plO (.Name x px) X.env) ((ev_loc i hn hd hdb).run s _ E S fun v h₁ tk₁ S₁ k₁ r₁ => ?_) (hm _)) hi (hs _)
  cases r₁
  obtain ⟨n1, n2, n3, vs, n, q1, q2⟩ := S₁.own
  refine getMethod_list_of PySem.F.slot_list_append PySem.F.type_list_append (LO_isList q1) (LO_noDict q1) ?_
  refine callWith_method1 (args_cons (h.run _ _ E S₁ fun u h₂ tk₂ S₂ k₂ r₂ => args_nil ?_) (star_plain he)) (star_plain he) rfl
  obtain ⟨_, _, _, ws, m, o1, o2⟩ := S₂.own
  refine call_meets PySem.F.slot_list_append ⟨_, o1, rfl⟩ PySem.F.entry_list_append (PySem.F.args_list_append_2 _ _) (AutoListH.list_append_list_val_0 a ws.toArray m u (by simp only [List.size_toArray, o2.len, sizeLine_eq]; walk_at "om")) ⟨o1, ?_⟩
  obtain ⟨n', e'⟩ := LO_map (fun y => y.push u) ws m
  have ho : (h₂.update a (Obj.mapSeq fun y => y.push u)).get? a = some (LO (ws ++ [u]) n') := by
    rw [Heap.get?_update_self _ o1 (by rw [e']; rfl), e']
    simp
  obtain ⟨S₃, k₃⟩ := S₂.mut hσ hc (Heap.SameBut.update ..) ho (o2.app r₂) (fun c hcc => by
    rcases List.mem_append.mp hcc with q | q
    · exact n3 c q
    · rw [List.mem_singleton] at q; subst q; exact hf)
  exact k _ _ S₃ ((k₁.trans k₂).ks.trans k₃)
end
end
section
variable {w : World} {mg mb : Str → Option Value}

theorem mul64 {a b : Int} (a1 : a < 2 ^ 64) (b0 : 0 ≤ b) (b1 : b < 2 ^ 64) : a * b < 2 ^ 1280 := by
  have h1 : a * b ≤ 2 ^ 64 * b := Int.mul_le_mul_of_nonneg_right (by walk_at "om") b0
  have h2 : (2 : Int) ^ 64 * b ≤ 2 ^ 64 * 2 ^ 64 := Int.mul_le_mul_of_nonneg_left (by walk_at "om") (by decide)
  have h3 : (2 : Int) ^ 64 * 2 ^ 64 < 2 ^ 1280 := by decide
  walk_at "om"

theorem bi_absN {G : Gx} {N : Nat} : Bi G (.builtin "abs") [.int N] (.int N) := by
  have := bi_abs (G := G) (a := N)
  simpa using this

/-! ## powers -/
theorem s_round_scaled {g : Int} {m i : Nat} {e : Int} (g0 : 0 ≤ g) (g1 : g ≤ 1) (m0 : m ≠ 0) (m1 : m < 2 ^ 53) (hi : i ≤ 150) (e0 : -150 ≤ e) (e1 : e ≤ 150) :
    Fd (Gw w mg mb) 4 306 [.int g, .int ((m : Int) * 2 ^ i), .int e] (.int (R g m (i + e))) := by
  have hn := bl_le_of m1
  have mt : (0 : Int) < (m : Int) * 2 ^ i := Int.mul_pos (by walk_at "om") (pow_pos2 i)
  have tsz : ((m : Int) * 2 ^ i).natAbs < 2 ^ 256 := Nat.lt_of_lt_of_le (natAbs_mulpow m1) (Nat.pow_le_pow_right (by decide) (by walk_at "om"))
  have tlt : (m : Int) * 2 ^ i < 2 ^ 1280 := by have := pow_cast 1280; walk_at "om"
  have wt : (bl ((m : Int) * 2 ^ i).toNat : Int) = bl m + i := by rw [toNat_mulpow, bl_shift m0]; simp
  refine fd_ret ok_round_scaled rfl fun A L h₀ => ?_
  conv => arg 4; whnf
  refine es_cons (es_set 3 rfl (ev_bin (cl (gv g_width) (ea_cons (lv 1) ea_nil) (s_width (by walk_at "om") tlt)) (lv 2) bin_add) (fun _ => rfl)) ?_
  rw [wt]
  refine es_if (eb_or (eb_cmp (lv 1) ev_int cmp_eq rfl).eb (fun _ => (eb_or (eb_cmp (lv 3) (ev_bin (gv g_LEAST_POWER_dbits) ev_int bin_sub) cmp_le rfl).eb (fun _ => eb_or_nil)))).eb (fun h1 => ?_) (fun h1 => ?_)
  · simp only [Bool.or_false, Bool.or_eq_true, decide_eq_true_eq] at h1; walk_at "om"
  · refine es_ifd (eb_cmp (lv 3) ev_int cmp_gt rfl).eb (fun h2 => ?_) (fun h2 => ?_)
    · walk_at "om"
    · refine es_ifd (eb_cmp (lv 2) ev_int cmp_ge rfl).eb (fun h3 => ?_) (fun h3 => ?_)
      · have key := s_round_ratio_exact (w := w) (mg := mg) (mb := mb) (m := m) (i := i + e.toNat) (j := 0) g0 g1 m0 m1 (by walk_at "om") (by decide)
        have t1 : (m : Int) * 2 ^ (i + e.toNat) = (m : Int) * 2 ^ i * 2 ^ e.toNat := by rw [Int.pow_add, Int.mul_assoc]
        have t2 : ((i + e.toNat : Nat) : Int) - ((0 : Nat) : Int) = i + e := by walk_at "om"
        rw [t1, t2] at key
        exact es_ret (cl (gv g_round_ratio) (ea_cons (lv 0) (ea_cons (ev_bin (lv 1) (lv 2) (bin_shl (by walk_at "z") (shl_sz 256 tsz (by walk_at "om")))) (ea_cons ev_int ea_nil))) key)
      · have key := s_round_ratio_exact (w := w) (mg := mg) (mb := mb) (m := m) (i := i) (j := (-e).toNat) g0 g1 m0 m1 (by walk_at "om") (by walk_at "om")
        have t2 : (i : Int) - ((-e).toNat : Int) = i + e := by walk_at "om"
        rw [t2] at key
        refine es_ret (cl (gv g_round_ratio) (ea_cons (lv 0) (ea_cons (lv 1) (ea_cons (d := .int (2 ^ (-e).toNat)) ?_ ea_nil))) key)
        have hb := bin_shl (G := Gw w mg mb) (a := 1) (b := -e) (by walk_at "z") (by walk_at "sh")
        rw [Int.one_mul] at hb
        exact (ev_bin ev_int (ev_neg (lv 2)) hb)

theorem s_trimmed {m sc l : Int} (h0 : 0 ≤ m) (h1 : m < 2 ^ 1280) : Fd (Gw w mg mb) 2 390 [.int m, .int sc, .int l] (.tup [.int m, .int sc]) := by
  refine fd_ret ok_trimmed_darith rfl fun A L h₀ => ?_
  conv => arg 4; whnf
  refine es_cons (es_set 3 rfl (ev_bin (cl (gv g_width) (ea_cons (lv 0) ea_nil) (s_width h0 h1)) (gv g_KEPT_BITS) bin_sub) (fun _ => rfl)) ?_
  refine es_if (eb_or (eb_cmp (lv 2) ev_none cmp_isnot rfl).eb (fun _ => (eb_or (eb_cmp (lv 3) ev_int cmp_le rfl).eb (fun _ => eb_or_nil)))).eb (fun h1 => ?_) (fun h1 => ?_)
  · exact es_ret (ev_tup (ea_cons (lv 0) (ea_cons (lv 1) ea_nil)))
  · cases h1

abbrev σr (m sc k f sh l : Int) : Lo := [some (.int m), some (.int sc), some (.int k), some (.int f), some (.int sh), some (.int l)]
theorem raised_while {X : Cx} {t : Expr} {b rest : List Stmt} {o : Out} (l : Int) (N : Nat) (P S : Int) (hP : P < 2 ^ 64)
    (ht : ∀ m sc k f sh : Int, EB X (σr m sc k f sh l) [] t (decide (0 < k)))
    (hb : ∀ (m sc : Int) (k : Nat) (f sh : Int), 1 ≤ m → m < 2 ^ 64 → 1 ≤ f → f < 2 ^ 64 → 0 < k → ES X (σr m sc k f sh l) [] b
      (.next (σr (if 0 < k / 2 then m * m else m) (if 0 < k / 2 then 2 * sc else sc) ((k / 2 : Nat) : Int) (if k % 2 = 1 then f * m else f) (if k % 2 = 1 then sh + sc else sh) l) []))
    (m sc : Int) (f sh : Int) (hm : 1 ≤ m) (hf : 1 ≤ f) (e1 : f * m ^ N = P) (e2 : sh + sc * N = S)
    (k : ∀ m' sc' : Int, ES X (σr m' sc' 0 P S l) [] rest o) :
    ∃ σ', EW X (σr m sc N f sh l) [] t b (.next σ' []) ∧ ES X σ' [] rest o := by
  have key : ∀ (n k : Nat) (m sc f sh : Int), k ≤ n → 1 ≤ m → 1 ≤ f → f * m ^ k = P → sh + sc * k = S → ∃ m' sc' : Int, EW X (σr m sc k f sh l) [] t b (.next (σr m' sc' 0 P S l) []) := by
    intro n
    induction n with
    | zero =>
      intro k m sc f sh hk hm hf e1 e2
      have : k = 0 := by walk_at "om"
      subst this
      simp at e1 e2
      subst e1 e2
      exact ⟨m, sc, ew_false (ht m sc 0 f sh)⟩
    | succ n ih =>
      intro k m sc f sh hk hm hf e1 e2
      by_cases h0 : k = 0
      · subst h0
        simp at e1 e2
        subst e1 e2
        exact ⟨m, sc, ew_false (ht m sc 0 f sh)⟩
      · have hpw : ∀ j : Nat, 1 ≤ m ^ j := fun j => by
          have : 0 < m ^ j := Int.pow_pos (by walk_at "om")
          walk_at "om"
        have hmk : m ^ k = m * m ^ (k - 1) := by
          have : k = (k - 1) + 1 := by walk_at "om"
          rw [this, Int.pow_succ, Int.mul_comm]; rfl
        have mlt : m < 2 ^ 64 := by
          have a1 : m * 1 ≤ m * m ^ (k - 1) := Int.mul_le_mul_of_nonneg_left (hpw _) (by walk_at "om")
          have a2 : 1 * m ^ k ≤ f * m ^ k := Int.mul_le_mul_of_nonneg_right hf (by have := hpw k; walk_at "om")
          walk_at "om"
        have flt : f < 2 ^ 64 := by
          have a2 : f * 1 ≤ f * m ^ k := Int.mul_le_mul_of_nonneg_left (hpw k) (by walk_at "om")
          walk_at "om"
        have hT := ht m sc k f sh
        rw [decide_eq_true (by walk_at "om")] at hT
        have hB := hb m sc k f sh hm mlt hf flt (by walk_at "om")
        have hk2 : k = 2 * (k / 2) + k % 2 := by walk_at "om"
        obtain ⟨m', sc', h'⟩ := ih (k / 2) (if 0 < k / 2 then m * m else m) (if 0 < k / 2 then 2 * sc else sc) (if k % 2 = 1 then f * m else f) (if k % 2 = 1 then sh + sc else sh) (by walk_at "om")
          (by split; exact Int.mul_le_mul hm hm (by decide) (by walk_at "om"); exact hm) (by split; exact Int.mul_le_mul hf hm (by decide) (by walk_at "om"); exact hf)
          (by
            rw [← e1]
            have hsq : (m * m) ^ (k / 2) = m ^ (2 * (k / 2)) := by rw [Int.pow_mul, Int.pow_succ, Int.pow_succ, Int.pow_zero, Int.one_mul]
            by_cases q : 0 < k / 2
            · rw [if_pos q, hsq]
              split
              · rename_i r
                rw [show m ^ k = m ^ (2 * (k / 2) + 1) by congr 1; walk_at "om", Int.pow_succ, Int.mul_assoc]
                congr 1
                exact Int.mul_comm _ _
              · rw [show m ^ k = m ^ (2 * (k / 2)) by congr 1; walk_at "om"]
            · have q0 : k / 2 = 0 := by walk_at "om"
              have q1 : k = 1 := by walk_at "om"
              subst q1
              simp [Int.pow_succ])
          (by
            rw [← e2]
            by_cases q : 0 < k / 2
            · rw [if_pos q]
              have : sc * (k : Int) = sc * (2 * ((k / 2 : Nat) : Int) + ((k % 2 : Nat) : Int)) := by congr 1; walk_at "om"
              rw [this, Int.mul_add, ← Int.mul_assoc, Int.mul_comm sc 2]
              split
              · rename_i r; rw [r]; simp; walk_at "om"
              · rw [show k % 2 = 0 by walk_at "om"]; simp
            · have q1 : k = 1 := by walk_at "om"
              subst q1
              simp)
        exact ⟨m', sc', ew_next hT hB h'⟩
  obtain ⟨m', sc', h'⟩ := key N N m sc f sh (Nat.le_refl _) hm hf e1 e2
  exact ⟨_, h', k m' sc'⟩

theorem s_raised {m sc : Int} {N : Nat} (hm : 1 ≤ m) (hN : N ≤ 64) (hP : m ^ N < 2 ^ 64) : Fd (Gw w mg mb) 3 383 [.int m, .int sc, .int N] (.tup [.int (m ^ N), .int (sc * N)]) := by
  refine fd_ret ok_raised rfl fun A L h₀ => ?_
  conv => arg 4; whnf
  refine es_cons (es_unpackC [3, 4] rfl rfl rfl (ev_tup (ea_cons ev_int (ea_cons ev_int ea_nil))) (fun _ => rfl) (by kernel_rfl)) ?_
  refine es_cons (es_set 5 rfl (ev_if (d := .int m) (eb_cmp (lv 2) (gv g_MOST_EXACT) cmp_le rfl).eb (fun _ => (lv 0)) (fun q => by have := of_decide_eq_false q; walk_at "om")) (fun _ => rfl)) ?_
  refine es_while_ex (raised_while m N (m ^ N) (sc * N) hP (fun m' sc k f sh => ?_) (fun m' sc k f sh a1 a2 a3 a4 a5 => ?_) m sc 1 0 hm (by decide) (by rw [Int.one_mul]) (by rw [Int.zero_add]) fun m' sc' => ?_)
  · exact (eb_cmp (lv 2) ev_int cmp_gt rfl).eb
  · have hmm : m' * m' < 2 ^ 1280 := mul64 a2 (by walk_at "om") a2
    have hfm : f * m' < 2 ^ 1280 := mul64 a4 (by walk_at "om") a2
    have z1 : 0 ≤ m' * m' := Int.mul_nonneg (by walk_at "om") (by walk_at "om")
    have z2 : 0 ≤ f * m' := Int.mul_nonneg (by walk_at "om") (by walk_at "om")
    have hd : (k : Int) / 2 = ((k / 2 : Nat) : Int) := by simp
    refine es_ifp (k % 2 = 1) (eb_cmp (ev_bin (lv 2) ev_int (bin_mod (by walk_at "z"))) ev_int cmp_eq rfl).eb (by walk_at "om") (fun h1 => ?_) (fun h1 => ?_)
    · rw [if_pos h1, if_pos h1]
      refine es_cons (es_unpack [3, 4] rfl rfl rfl (cl (gv g_trimmed_darith) (ea_cons (ev_bin (lv 3) (lv 0) (bin_mul (by walk_at "ml"))) (ea_cons (ev_bin (lv 4) (lv 1) bin_add) (ea_cons (lv 5) ea_nil))) (s_trimmed z2 hfm)) (fun _ => rfl) (fun _ => rfl)) ?_
      refine es_cons (es_set 2 rfl (ev_bin (lv 2) ev_int (bin_div (by walk_at "z") (by walk_at "dv"))) (fun _ => rfl)) ?_
      rw [hd]
      refine es_ifp (0 < k / 2) (eb_cmp (lv 2) ev_int cmp_gt rfl).eb (by walk_at "om") (fun h2 => ?_) (fun h2 => ?_)
      · rw [if_pos h2, if_pos h2]
        refine es_cons (es_unpack [0, 1] rfl rfl rfl (cl (gv g_trimmed_darith) (ea_cons (ev_bin (lv 0) (lv 0) (bin_mul (by walk_at "ml"))) (ea_cons (ev_bin ev_int (lv 1) (bin_mul (by walk_at "ml"))) (ea_cons (lv 5) ea_nil))) (s_trimmed z1 hmm)) (fun _ => rfl) (fun _ => rfl)) ?_
        exact es_nil
      · rw [if_neg h2, if_neg h2]
        exact es_nil
    · rw [if_neg h1, if_neg h1]
      refine es_cons (es_set 2 rfl (ev_bin (lv 2) ev_int (bin_div (by walk_at "z") (by walk_at "dv"))) (fun _ => rfl)) ?_
      rw [hd]
      refine es_ifp (0 < k / 2) (eb_cmp (lv 2) ev_int cmp_gt rfl).eb (by walk_at "om") (fun h2 => ?_) (fun h2 => ?_)
      · rw [if_pos h2, if_pos h2]
        refine es_cons (es_unpack [0, 1] rfl rfl rfl (cl (gv g_trimmed_darith) (ea_cons (ev_bin (lv 0) (lv 0) (bin_mul (by walk_at "ml"))) (ea_cons (ev_bin ev_int (lv 1) (bin_mul (by walk_at "ml"))) (ea_cons (lv 5) ea_nil))) (s_trimmed z1 hmm)) (fun _ => rfl) (fun _ => rfl)) ?_
        exact es_nil
      · rw [if_neg h2, if_neg h2]
        exact es_nil
  · exact es_ret (ev_tup (ea_cons (lv 3) (ea_cons (lv 4) ea_nil)))
/-! ## a whole number to a whole power -/
abbrev σw (g m sc k : Int) : Lo := [some (.int g), some (.int m), some (.int sc), some (.int k), none, none, none]
theorem wp_while {X : Cx} {t : Expr} {b rest : List Stmt} {o : Out} (g k : Int) (q : Int) (e : Int)
    (hq : q % 2 = 1)
    (ht : ∀ m sc : Int, EB X (σw g m sc k) [] t (decide (m % 2 = 0)))
    (hb : ∀ m sc : Int, ES X (σw g m sc k) [] b (.next (σw g (m / 2) (sc + 1) k) []))
    (n : Nat) (m sc : Int) (hm : m = q * 2 ^ n) (hs : sc + n = e)
    (kk : ES X (σw g q e k) [] rest o) :
    ∃ σ', EW X (σw g m sc k) [] t b (.next σ' []) ∧ ES X σ' [] rest o := by
  have key : ∀ (n : Nat) (m sc : Int), m = q * 2 ^ n → sc + n = e → EW X (σw g m sc k) [] t b (.next (σw g q e k) []) := by
    intro n
    induction n with
    | zero =>
      intro m sc hm hs
      have h1 : m = q := by rw [hm]; simp
      have h2 : sc = e := by simpa using hs
      subst h1 h2
      refine ew_false ?_
      have := ht m sc
      rwa [decide_eq_false (by walk_at "om")] at this
    | succ n ih =>
      intro m sc hm hs
      have h2 : m = 2 * (q * 2 ^ n) := by rw [hm, Int.pow_succ, ← Int.mul_assoc, Int.mul_comm]
      have hT := ht m sc
      rw [decide_eq_true (by walk_at "om")] at hT
      exact ew_next hT (hb m sc) (ih (m / 2) (sc + 1) (by walk_at "om") (by walk_at "om"))
  exact ⟨_, key n m sc hm hs, kk⟩

/-- the odd part -/
theorem odd_part : ∀ (k : Nat), k ≠ 0 → ∃ q t : Nat, k = q * 2 ^ t ∧ q % 2 = 1 := by
  intro k
  induction k using Nat.strongRecOn with
  | ind k ih =>
    intro h
    by_cases h2 : k % 2 = 1
    · exact ⟨k, 0, by simp, h2⟩
    · obtain ⟨q, t, e, hq⟩ := ih (k / 2) (by walk_at "om") (by walk_at "om")
      refine ⟨q, t + 1, ?_, hq⟩
      rw [Nat.pow_succ, ← Nat.mul_assoc, ← e]
      walk_at "om"

theorem s_whole_power {g : Int} {k N : Nat} (g0 : 0 ≤ g) (g1 : g ≤ 1) (hk : k ≠ 0) (hN : N ≠ 0) (hN1 : N ≤ 64) (hP : k ^ N < 2 ^ 40) :
    Fd (Gw w mg mb) 5 376 [.int g, .int ((k : Int) * 2 ^ (53 - bl k)), .int (bl k + 0 - 53), .int N] (.int (R g (k ^ N) 0)) := by
  obtain ⟨q, t, e, hq⟩ := odd_part k hk
  have kN : k ≤ k ^ N := Nat.le_self_pow hN k
  have hb : bl k ≤ 40 := bl_le_of (by walk_at "om")
  have q0 : q ≠ 0 := by walk_at "om"
  have hqk : k ^ N = q ^ N * 2 ^ (t * N) := by rw [e, Nat.mul_pow, ← Nat.pow_mul]
  have hqN : q ^ N ≤ k ^ N := by
    rw [hqk]
    exact Nat.le_mul_of_pos_right _ (Nat.two_pow_pos _)
  have qN0 : q ^ N ≠ 0 := by have := Nat.pow_pos (n := N) (show 0 < q by walk_at "om"); walk_at "om"
  have hbb : bl (q ^ N) + t * N ≤ 40 := by
    have := bl_shift qN0 (t * N)
    rw [← hqk] at this
    have := bl_le_of hP
    walk_at "om"
  refine fd_ret ok_whole_power rfl fun A L h₀ => ?_
  conv => arg 4; whnf
  refine es_while_ex (wp_while g N q t (by walk_at "om") (fun m sc => ?_) (fun m sc => ?_) (t + (53 - bl k)) ((k : Int) * 2 ^ (53 - bl k)) (bl k + 0 - 53) ?_ (by walk_at "om") ?_)
  · exact (eb_cmp (ev_bin (lv 1) ev_int (bin_mod (by walk_at "z"))) ev_int cmp_eq rfl).eb
  · refine es_cons (es_unpackS [1, 2] rfl rfl rfl (ev_tup (ea_cons (ev_bin (lv 1) ev_int (bin_shr (by walk_at "z"))) (ea_cons (ev_bin (lv 2) ev_int bin_add) ea_nil))) (fun _ => rfl) (by kernel_rfl)) ?_
    exact es_nil
  · rw [e, Int.natCast_mul, pow_cast, Int.mul_assoc, ← Int.pow_add, ← e]
  · have hpw : ((q : Int)) ^ N < 2 ^ 64 := by
      have : ((q ^ N : Nat) : Int) = (q : Int) ^ N := by simp
      walk_at "om"
    have hr := s_raised (w := w) (mg := mg) (mb := mb) (m := (q : Int)) (sc := (t : Int)) (N := N) (by walk_at "om") hN1 hpw
    refine es_cons (es_unpack [4, 5] rfl rfl rfl (cl (gv g_raised) (ea_cons (lv 1) (ea_cons (lv 2) (ea_cons (d := .int N) (clB (bv b_abs) (ea_cons (lv 3) ea_nil) bi_absN) ea_nil))) hr) (fun _ => rfl) (fun _ => rfl)) ?_
    refine es_ifd (eb_cmp (lv 3) ev_int cmp_gt rfl).eb (fun h1 => ?_) (fun h1 => ?_)
    · have key := s_round_scaled (w := w) (mg := mg) (mb := mb) (g := g) (m := q ^ N) (i := 0) (e := (t : Int) * N) g0 g1 qN0 (by walk_at "om") (by decide) (by walk_at "om") (by walk_at "om")
      have t1 : ((q ^ N : Nat) : Int) * 2 ^ 0 = (q : Int) ^ N := by simp
      rw [t1] at key
      refine es_ret' (cl (gv g_round_scaled) (ea_cons (lv 0) (ea_cons (lv 4) (ea_cons (lv 5) ea_nil))) key) (congrArg D.int ?_)
      rw [hqk, R_shift qN0 (t * N) 0 (by walk_at "om")]
      have t2 : ((0 : Nat) : Int) + (t : Int) * N = 0 + ((t * N : Nat) : Int) := by simp
      rw [t2]
    · walk_at "om"
end
section
variable {w : World} {mg mb : Str → Option Value}

/-- the domain of the powers: whole words, small -/
theorem MW_facts {g : Int} {k : Nat} (g0 : 0 ≤ g) (g1 : g ≤ 1) (hk : k < 2 ^ 40) : 0 ≤ MW g k ∧ MW g k < 2 ^ 64 ∧ MW g k % 2 ^ 63 < 2047 * 2 ^ 52 ∧ MW g k / 2 ^ 63 = g ∧ (MW g k % 2 ^ 63 = 0 ↔ k = 0) := by
  by_cases h : k = 0
  · subst h
    have e : MW g 0 = g * 2 ^ 63 := by unfold MW; rw [if_pos rfl]
    rw [e]
    refine ⟨by walk_at "om", by walk_at "om", by walk_at "om", by walk_at "om", by walk_at "om"⟩
  · obtain ⟨n1, n2, n3, n4, n5⟩ := (MW_word g0 g1 h hk).nn
    exact ⟨n1, n2, n4, n3, ⟨fun q => absurd q n5, fun q => absurd q h⟩⟩

theorem s_power_of_edge {N : Nat} (hN : N < 2 ^ 40) : Fd (Gw w mg mb) 4 362 [.int 0, .int (MW 0 N)] (.int 0) := by
  obtain ⟨b0, b1, b2, b3, b4⟩ := MW_facts (g := 0) (k := N) (by decide) (by decide) hN
  refine fd_ret ok_power_of_edge rfl fun A L h₀ => ?_
  conv => arg 4; whnf
  refine es_ifd (eb_call (cl (gv g_is_inf) (ea_cons (lv 1) ea_nil) (s_is_inf b0))) (fun h1 => ?_) (fun h1 => ?_)
  · walk_at "om"
  · refine es_cons (es_set 3 rfl (ev_if (d := .int 0) (eb_and (b := true) (eb_call (cl (gv g_is_negative) (ea_cons (lv 0) ea_nil) (s_is_negative (by decide)))) (fun q => absurd (of_decide_eq_true q) (by decide))).eb (fun q => by simp at q) (fun _ => ev_int)) (fun _ => rfl)) ?_
    refine es_ret' (cl (gv g_signed) (ea_cons (lv 3) (ea_cons (d := .int 0) (ev_if (eb_cmp (cl (gv g_is_inf) (ea_cons (lv 0) ea_nil) (s_is_inf (by decide))) (cl (gv g_is_negative) (ea_cons (lv 1) ea_nil) (s_is_negative b0)) cmp_neB rfl).eb (fun q => ?_) (fun _ => (gv g_ZERO))) ea_nil)) (s_signed (by decide) (by decide) (by decide))) rfl
    rw [decide_eq_false (by walk_at "om"), decide_eq_false (by walk_at "om")] at q
    cases q

theorem s_power {g : Int} {k N : Nat} (g0 : 0 ≤ g) (g1 : g ≤ 1) (hz : k = 0 → g = 0) (hk : k < 2 ^ 40) (hN1 : N ≤ 64) (hP : k ^ N < 2 ^ 40) :
    Fd (Gw w mg mb) 6 369 [.int (MW g k), .int (MW 0 N)] (.int (MW (if g = 1 ∧ N % 2 = 1 then 1 else 0) (k ^ N))) := by
  have hN : N < 2 ^ 40 := by walk_at "om"
  obtain ⟨b0, b1, b2, b3, b4⟩ := MW_facts (g := 0) (k := N) (by decide) (by decide) hN
  obtain ⟨a0, a1, a2, a3, a4⟩ := MW_facts (g := g) (k := k) g0 g1 hk
  refine fd_ret ok_power rfl fun A L h₀ => ?_
  conv => arg 4; whnf
  refine es_ifd (eb_call (cl (gv g_is_nan) (ea_cons (lv 1) ea_nil) (s_is_nan b0))) (fun h1 => by walk_at "om") (fun h1 => ?_)
  refine es_ifd (eb_call (cl (gv g_is_zero) (ea_cons (lv 1) ea_nil) (s_is_zero b0))) (fun h2 => ?_) (fun h2 => ?_)
  · have hN0 := b4.mp h2
    subst hN0
    refine es_ret' (gv g_ONE) (congrArg D.int ?_)
    simp
    decide
  · have hN0 : N ≠ 0 := fun q => h2 (b4.mpr q)
    refine es_ifd (eb_call (cl (gv g_is_nan) (ea_cons (lv 0) ea_nil) (s_is_nan a0))) (fun h3 => by walk_at "om") (fun h3 => ?_)
    refine es_if (eb_or (eb_call (cl (gv g_is_inf) (ea_cons (lv 0) ea_nil) (s_is_inf a0))) (fun _ => (eb_or (eb_call (cl (gv g_is_inf) (ea_cons (lv 1) ea_nil) (s_is_inf b0))) (fun _ => (eb_or (eb_call (cl (gv g_is_zero) (ea_cons (lv 0) ea_nil) (s_is_zero a0))) (fun _ => eb_or_nil)))))).eb (fun h4 => ?_) (fun h4 => ?_)
    · rw [decide_eq_false (show ¬ MW g k % 2 ^ 63 = 2047 * 2 ^ 52 by walk_at "om"), decide_eq_false (show ¬ MW 0 N % 2 ^ 63 = 2047 * 2 ^ 52 by walk_at "om")] at h4
      simp only [Bool.false_or, Bool.or_false, decide_eq_true_eq] at h4
      have hk0 := a4.mp h4
      subst hk0
      have hg := hz rfl
      subst hg
      refine es_ret' (cl (gv g_power_of_edge) (ea_cons (lv 0) (ea_cons (lv 1) ea_nil)) (s_power_of_edge hN)) (congrArg D.int ?_)
      rw [Nat.zero_pow (by walk_at "om")]
      simp
      decide
    · have hk0 : k ≠ 0 := by
        intro q
        rw [decide_eq_true (a4.mpr q)] at h4
        simp at h4
      refine es_if (eb_not (eb_call (cl (gv g_is_whole) (ea_cons (lv 1) ea_nil) (s_is_whole_MW (by decide) (by decide) hN)))).eb (fun h5 => by cases h5) (fun h5 => ?_)
      refine es_cons (es_unpack [2, 3, 4] rfl rfl rfl (cl (gv g_parts) (ea_cons (lv 0) ea_nil) (s_parts_W (MW_word g0 g1 hk0 hk))) (fun _ => rfl) (fun _ => rfl)) ?_
      have ho := s_is_odd_MW (w := w) (mg := mg) (mb := mb) (g := 0) (k := N) (by decide) (by decide) hN
      have hi := s_to_int_MW (w := w) (mg := mg) (mb := mb) (g := 0) (k := N) (by decide) (by decide) hN
      rw [if_neg (by decide)] at hi
      have hkN : k ^ N ≠ 0 := by have := Nat.pow_pos (n := N) (show 0 < k by walk_at "om"); walk_at "om"
      refine es_ret' (cl (gv g_whole_power) (ea_cons (d := .int (if g = 1 ∧ N % 2 = 1 then 1 else 0)) (ev_if (eb_and (eb_cmp (lv 2) ev_int cmp_eq rfl).eb (fun _ => (eb_and (eb_call (cl (gv g_is_odd) (ea_cons (lv 1) ea_nil) ho)) (fun _ => eb_and_nil)))).eb (fun q => ?_) (fun q => ?_)) (ea_cons (lv 3) (ea_cons (lv 4) (ea_cons (cl (gv g_to_int) (ea_cons (lv 1) ea_nil) hi) ea_nil)))) (s_whole_power (by split <;> decide) (by split <;> decide) hk0 hN0 hN1 hP)) (congrArg D.int ?_)
      · simp only [Bool.and_true, Bool.and_eq_true, decide_eq_true_eq] at q
        rw [if_pos q]; exact ev_int
      · simp only [Bool.and_true, Bool.and_eq_false_iff, decide_eq_false_iff_not] at q
        rw [if_neg (by walk_at "om")]; exact ev_int
      · unfold MW
        rw [if_neg hkN]

/-! ## roots -/
abbrev σq (n r : Int) (b : Option D) : Lo := [some (.int n), some (.int r), b]
theorem wr_loop {X : Cx} {t : Expr} {b : List Stmt} (r : Int) (hr : 1 ≤ r)
    (ht : ∀ (x : Int) z, EB X (σq (r * r) x z) [] t true)
    (hb : ∀ (x : Int) z, 1 ≤ x → r ≤ x → x < 2 ^ 200 → (x + r * r / x) / 2 < x → ES X (σq (r * r) x z) [] b (.next (σq (r * r) ((x + r * r / x) / 2) (some (.int ((x + r * r / x) / 2)))) []))
    (hc : ∀ z, ES X (σq (r * r) r z) [] b (.ret (.int r))) :
    ∀ (f : Nat) (x : Int) z, r ≤ x → x < 2 ^ 200 → x ≤ r + f → EW X (σq (r * r) x z) [] t b (.ret (.int r)) := by
  intro f
  induction f with
  | zero =>
    intro x z h1 h2 h3
    have : x = r := by walk_at "om"
    subst this
    exact ew_ret (ht x z) (hc z)
  | succ f ih =>
    intro x z h1 h2 h3
    by_cases hx : x = r
    · subst hx
      exact ew_ret (ht x z) (hc z)
    · obtain ⟨d, hd⟩ : ∃ d, x = r + d := ⟨x - r, by walk_at "om"⟩
      have hq : r * r / x ≤ x - 1 := by
        have : r * r / x < x := by
          refine Int.ediv_lt_of_lt_mul (by walk_at "om") ?_
          have a1 : r * r ≤ r * x := Int.mul_le_mul_of_nonneg_left h1 (by walk_at "om")
          have a2 : r * x < x * x := Int.mul_lt_mul_of_pos_right (by walk_at "om") (by walk_at "om")
          walk_at "om"
        walk_at "om"
      have hl : 2 * r - x ≤ r * r / x := by
        refine Int.le_ediv_of_mul_le (by walk_at "om") ?_
        subst hd
        have e1 : (2 * r - (r + d)) * (r + d) = r * r - d * d := by
          have : 2 * r - (r + d) = r - d := by walk_at "om"
          rw [this, Int.sub_mul, Int.mul_add, Int.mul_add, Int.mul_comm d r]
          walk_at "om"
        have e2 : 0 ≤ d * d := Int.mul_nonneg (by walk_at "om") (by walk_at "om")
        walk_at "om"
      have lt : (x + r * r / x) / 2 < x := by walk_at "om"
      exact ew_next (ht x z) (hb x z (by walk_at "om") h1 h2 lt) (ih _ _ (by walk_at "om") (by walk_at "om") (by walk_at "om"))

theorem s_whole_root {r : Nat} (h0 : r ≠ 0) (h1 : r < 2 ^ 150) : Fd (Gw w mg mb) 2 446 [.int ((r : Int) * r)] (.int r) := by
  have rr0 : 0 < (r : Int) * r := Int.mul_pos (by walk_at "om") (by walk_at "om")
  have e1 : (((r : Int) * r)).toNat = r * r := by
    have : ((r : Int) * r) = ((r * r : Nat) : Int) := by simp
    rw [this, Int.toNat_natCast]
  have rlt : r * r < 2 ^ 300 := by
    calc r * r < 2 ^ 150 * 2 ^ 150 := Nat.mul_lt_mul_of_lt_of_lt h1 h1
      _ = 2 ^ 300 := by rw [← Nat.pow_add]
  have rltI : (r : Int) * r < 2 ^ 1280 := by
    have : ((r * r : Nat) : Int) = (r : Int) * r := by simp
    walk_at "om"
  have hbl : bl (r * r) ≤ 300 := bl_le_of rlt
  have hroot : (r : Int) ≤ 2 ^ ((bl (r * r) + 1) / 2) := by
    have a1 := bl_lt (r * r)
    have : r < 2 ^ ((bl (r * r) + 1) / 2) := by
      rcases Nat.lt_or_ge r (2 ^ ((bl (r * r) + 1) / 2)) with q | q
      · exact q
      · exfalso
        have a2 : 2 ^ ((bl (r * r) + 1) / 2) * 2 ^ ((bl (r * r) + 1) / 2) ≤ r * r := Nat.mul_le_mul q q
        rw [← Nat.pow_add] at a2
        have a3 : 2 ^ bl (r * r) ≤ 2 ^ ((bl (r * r) + 1) / 2 + (bl (r * r) + 1) / 2) := Nat.pow_le_pow_right (by decide) (by walk_at "om")
        walk_at "om"
    have := pow_cast ((bl (r * r) + 1) / 2)
    walk_at "om"
  have hsm : (2 : Int) ^ ((bl (r * r) + 1) / 2) < 2 ^ 200 := by
    have a := Nat.pow_lt_pow_right (a := 2) (by decide) (show (bl (r * r) + 1) / 2 < 200 by walk_at "om")
    have := pow_cast ((bl (r * r) + 1) / 2)
    walk_at "om"
  have hw := s_width (w := w) (mg := mg) (mb := mb) (n := (r : Int) * r) (by walk_at "om") rltI
  rw [e1] at hw
  have hex : (((bl (r * r) : Int) + 1) / 2).toNat = (bl (r * r) + 1) / 2 := by walk_at "om"
  refine fd_ret ok_whole_root rfl fun A L h₀ => ?_
  conv => arg 4; whnf
  refine es_ifd (eb_cmp (lv 0) ev_int cmp_eq rfl).eb (fun h1 => by walk_at "om") (fun h1 => ?_)
  refine es_cons (es_set 1 rfl (ev_bin ev_int (ev_bin (ev_bin (cl (gv g_width) (ea_cons (lv 0) ea_nil) hw) ev_int bin_add) ev_int (bin_div (by walk_at "z") (by walk_at "dv"))) (bin_shl (by walk_at "z") (by walk_at "sh"))) (fun _ => rfl)) ?_
  rw [Int.one_mul, hex]
  refine es_while_ret (wr_loop (r : Int) (by walk_at "om") (fun x z => ?_) (fun x z x1 x2 x3 x4 => ?_) (fun z => ?_) (2 ^ 200) _ none hroot hsm (by have := pow_cast 200; walk_at "om"))
  · exact eb_const ev_bool
  · refine es_cons (es_set 2 rfl (ev_bin (ev_bin (lv 1) (ev_bin (lv 0) (lv 1) (bin_div (by walk_at "om") (div_sz 256 (by walk_at "om") (by decide)))) bin_add) ev_int (bin_div (by walk_at "z") (by walk_at "dv"))) (fun _ => rfl)) ?_
    refine es_ifd (eb_cmp (lv 2) (lv 1) cmp_ge rfl).eb (fun h2 => by walk_at "om") (fun h2 => ?_)
    refine es_cons (es_set 1 rfl (lv 2) (fun _ => rfl)) ?_
    exact es_nil
  · have hrr : (r : Int) * r / r = r := Int.mul_ediv_cancel _ (by walk_at "om")
    refine es_cons (es_set 2 rfl (ev_bin (ev_bin (lv 1) (ev_bin (lv 0) (lv 1) (bin_div (by walk_at "om") (div_sz 256 (by walk_at "om") (by decide)))) bin_add) ev_int (bin_div (by walk_at "z") (by walk_at "dv"))) (fun _ => rfl)) ?_
    rw [hrr]
    refine es_ifd (eb_cmp (lv 2) (lv 1) cmp_ge rfl).eb (fun h2 => ?_) (fun h2 => by walk_at "om")
    exact es_ret (lv 1)
end
section
variable {w : World} {mg mb : Str → Option Value}

theorem ev_eq {X : Cx} {σ : Lo} {μ : Mu} {e : Expr} {d d' : D} (h : EE X σ μ e d) (hd : d = d') : EE X σ μ e d' := hd ▸ h

theorem sq_shift (t u k : Nat) (h : k = 2 * u + 112) : ((t * t : Nat) : Int) * 2 ^ k = ((t * 2 ^ (u + 56) : Nat) : Int) * ((t * 2 ^ (u + 56) : Nat) : Int) := by
  rw [← pow_cast, ← Int.natCast_mul, ← Int.natCast_mul, Nat.mul_mul_mul_comm, ← Nat.pow_add]
  congr 3
  walk_at "om"
theorem mul_bits {a b : Int} (j k : Nat) (ha : a.natAbs < 2 ^ j) (hb : b.natAbs < 2 ^ k) (hj : j ≤ 2 ^ 20) (hk : k ≤ 2 ^ 20) : IntMulOk a b :=
  IntMulOk.of_bits (Nat.le_trans (intBits_le ha) hj) (Nat.le_trans (intBits_le hb) hk)

theorem s_sqrt_W {t s : Nat} (h0 : t ≠ 0) (h1 : t < 2 ^ 12) (hs : s ≤ 20) : Fd (Gw w mg mb) 5 453 [.int (R 0 (t * t) (-(2 * (s : Int))))] (.int (R 0 t (-(s : Int)))) := by
  have tt : t * t < 2 ^ 24 := by
    calc t * t < 2 ^ 12 * 2 ^ 12 := Nat.mul_lt_mul_of_lt_of_lt h1 h1
      _ = 2 ^ 24 := by rw [← Nat.pow_add]
  have W : Wd (R 0 (t * t) (-(2 * (s : Int)))) 0 (t * t) (-(2 * (s : Int))) := ⟨by decide, by decide, Nat.mul_ne_zero h0 h0, by walk_at "om", by walk_at "om", by walk_at "om", rfl⟩
  obtain ⟨b0, b1, b2, b3, b4⟩ := W.nn
  obtain ⟨M, hM, a1, a2, a3, a4, a5⟩ := W.facts
  have hp := s_parts_W (w := w) (mg := mg) (mb := mb) W
  generalize hb : R 0 (t * t) (-(2 * (s : Int))) = b at *
  have fin : ∀ u : Nat, u ≤ 27 → (r : Nat) → r = t * 2 ^ (u + 56) → Fd (Gw w mg mb) 2 446 [.int ((r : Int) * r)] (.int r) ∧ r < 2 ^ 150 ∧ Fd (Gw w mg mb) 4 306 [.int 0, .int (2 * (r : Int) + 0), .int (-(s : Int) - u - 56 - 1)] (.int (R 0 t (-(s : Int)))) := by
    intro u hu r hr
    have r0 : r ≠ 0 := by rw [hr]; exact Nat.mul_ne_zero h0 (Nat.ne_of_gt (Nat.two_pow_pos _))
    have r1 : r < 2 ^ 150 := by
      rw [hr]
      calc t * 2 ^ (u + 56) < 2 ^ 12 * 2 ^ (u + 56) := Nat.mul_lt_mul_of_pos_right h1 (Nat.two_pow_pos _)
        _ = 2 ^ (12 + (u + 56)) := by rw [← Nat.pow_add]
        _ ≤ 2 ^ 150 := Nat.pow_le_pow_right (by decide) (by walk_at "om")
    refine ⟨s_whole_root r0 r1, r1, ?_⟩
    have key := s_round_scaled (w := w) (mg := mg) (mb := mb) (g := 0) (m := t) (i := u + 57) (e := -(s : Int) - u - 56 - 1) (by decide) (by decide) h0 (by walk_at "om") (by walk_at "om") (by walk_at "om") (by walk_at "om")
    have e1 : (t : Int) * 2 ^ (u + 57) = 2 * (r : Int) + 0 := by
      rw [hr, Int.natCast_mul, pow_cast, show u + 57 = (u + 56) + 1 by walk_at "om", Int.pow_succ, ← Int.mul_assoc, Int.mul_comm _ 2, Int.add_zero]
    have e2 : ((u + 57 : Nat) : Int) + (-(s : Int) - u - 56 - 1) = -(s : Int) := by walk_at "om"
    rw [e1, e2] at key
    exact key
  refine fd_ret ok_sqrt rfl fun A L h₀ => ?_
  conv => arg 4; whnf
  refine es_if (eb_or (eb_call (cl (gv g_is_nan) (ea_cons (lv 0) ea_nil) (s_is_nan b0))) (fun _ => (eb_or (eb_call (cl (gv g_is_zero) (ea_cons (lv 0) ea_nil) (s_is_zero b0))) (fun _ => eb_or_nil)))).eb (fun h1 => ?_) (fun h1 => ?_)
  · rw [decide_eq_false (by walk_at "om"), decide_eq_false b4] at h1; cases h1
  refine es_ifd (eb_call (cl (gv g_is_negative) (ea_cons (lv 0) ea_nil) (s_is_negative b0))) (fun h2 => by walk_at "om") (fun h2 => ?_)
  refine es_ifd (eb_call (cl (gv g_is_inf) (ea_cons (lv 0) ea_nil) (s_is_inf b0))) (fun h3 => by walk_at "om") (fun h3 => ?_)
  refine es_cons (es_unpack [1, 2, 3] rfl rfl rfl (cl (gv g_parts) (ea_cons (lv 0) ea_nil) hp) (fun _ => rfl) (fun _ => rfl)) ?_
  refine es_ifd (eb_cmp (ev_bin (lv 3) ev_int (bin_mod (by walk_at "z"))) ev_int cmp_ne rfl).eb (fun h4 => ?_) (fun h4 => ?_)
  · obtain ⟨u, hu⟩ : ∃ u : Nat, 54 - bl (t * t) = 2 * u := ⟨(54 - bl (t * t)) / 2, by walk_at "om"⟩
    obtain ⟨f1, f3, f2⟩ := fin u (by walk_at "om") _ rfl
    have hsz : ((t * t : Nat) : Int) * 2 ^ (53 - bl (t * t)) * 2 ^ (1 : Int).toNat < 2 ^ 64 := by rw [hM]; show M * 2 ^ 1 < 2 ^ 64; walk_at "om"
    have hs0 : 0 ≤ ((t * t : Nat) : Int) * 2 ^ (53 - bl (t * t)) * 2 ^ (1 : Int).toNat := by rw [hM]; show 0 ≤ M * 2 ^ 1; walk_at "om"
    refine es_cons (es_unpackS [2, 3] rfl rfl rfl (ev_tup (ea_cons (ev_bin (lv 2) ev_int (bin_shl (by walk_at "z") (by rw [hM]; walk_at "sh"))) (ea_cons (ev_bin (lv 3) ev_int bin_sub) ea_nil))) (fun _ => rfl) (by kernel_rfl)) ?_
    refine es_cons (es_set 4 rfl (ev_eq (d' := .int (((t * 2 ^ (u + 56) : Nat) : Int) * ((t * 2 ^ (u + 56) : Nat) : Int))) (ev_bin (lv 2) (ev_bin ev_int (gv g_ROOT_BITS) (bin_mul (by walk_at "ml"))) (bin_shl (by walk_at "z") (by walk_at "sh"))) (congrArg D.int ?_)) (fun _ => rfl)) ?_
    · have t1 : (2 * 56 : Int).toNat = 112 := rfl
      have t2 : (1 : Int).toNat = 1 := rfl
      rw [t1, t2, Int.mul_assoc, Int.mul_assoc, ← Int.pow_add, ← Int.pow_add]
      exact sq_shift t u _ (by walk_at "om")
    refine es_cons (es_set 5 rfl (cl (gv g_whole_root) (ea_cons (lv 4) ea_nil) f1) (fun _ => rfl)) ?_
    refine es_cons (es_set 6 rfl (ev_if (d := .int 0) (eb_cmp (ev_bin (lv 5) (lv 5) (bin_mul ?_)) (lv 4) cmp_lt rfl).eb (fun q => absurd (of_decide_eq_true q) (Int.lt_irrefl _)) (fun _ => ev_int)) (fun _ => rfl)) ?_
    · exact mul_bits 150 150 (by rw [Int.natAbs_natCast]; exact f3) (by rw [Int.natAbs_natCast]; exact f3) (by decide) (by decide)
    refine es_ret (cl (gv g_round_scaled) (ea_cons ev_int (ea_cons (ev_bin (ev_bin ev_int (lv 5) (bin_mul (by walk_at "ml"))) (lv 6) bin_add) (ea_cons (ev_eq (ev_bin (ev_bin (ev_bin (lv 3) ev_int (bin_div (by walk_at "z") (by walk_at "dv"))) (gv g_ROOT_BITS) bin_sub) ev_int bin_sub) (congrArg D.int ?_)) ea_nil))) f2)
    walk_at "om"
  · obtain ⟨u, hu⟩ : ∃ u : Nat, 53 - bl (t * t) = 2 * u := ⟨(53 - bl (t * t)) / 2, by walk_at "om"⟩
    obtain ⟨f1, f3, f2⟩ := fin u (by walk_at "om") _ rfl
    refine es_cons (es_set 4 rfl (ev_eq (d' := .int (((t * 2 ^ (u + 56) : Nat) : Int) * ((t * 2 ^ (u + 56) : Nat) : Int))) (ev_bin (lv 2) (ev_bin ev_int (gv g_ROOT_BITS) (bin_mul (by walk_at "ml"))) (bin_shl (by walk_at "z") (by rw [hM]; walk_at "sh"))) (congrArg D.int ?_)) (fun _ => rfl)) ?_
    · have t1 : (2 * 56 : Int).toNat = 112 := rfl
      rw [t1, Int.mul_assoc, ← Int.pow_add]
      exact sq_shift t u _ (by walk_at "om")
    refine es_cons (es_set 5 rfl (cl (gv g_whole_root) (ea_cons (lv 4) ea_nil) f1) (fun _ => rfl)) ?_
    refine es_cons (es_set 6 rfl (ev_if (d := .int 0) (eb_cmp (ev_bin (lv 5) (lv 5) (bin_mul ?_)) (lv 4) cmp_lt rfl).eb (fun q => absurd (of_decide_eq_true q) (Int.lt_irrefl _)) (fun _ => ev_int)) (fun _ => rfl)) ?_
    · exact mul_bits 150 150 (by rw [Int.natAbs_natCast]; exact f3) (by rw [Int.natAbs_natCast]; exact f3) (by decide) (by decide)
    refine es_ret (cl (gv g_round_scaled) (ea_cons ev_int (ea_cons (ev_bin (ev_bin ev_int (lv 5) (bin_mul (by walk_at "ml"))) (lv 6) bin_add) (ea_cons (ev_eq (ev_bin (ev_bin (ev_bin (lv 3) ev_int (bin_div (by walk_at "z") (by walk_at "dv"))) (gv g_ROOT_BITS) bin_sub) ev_int bin_sub) (congrArg D.int ?_)) ea_nil))) f2)
    walk_at "om"
/-! ## the calls of the maths -/
theorem s_first_number {v : D} {b : Int} {ds : List D} (h : ds.length < 1000) : Fd (Gw w mg mb) 4 600 [v, .lst (.int b :: ds)] (.int b) := by
  refine fd_ret ok_first_number rfl fun A L h₀ => ?_
  conv => arg 4; whnf
  exact es_ret (cl (gv g_to_number) (ea_cons (lv 0) (ea_cons (cl (gv g_arg) (ea_cons (lv 1) (ea_cons ev_int ea_nil)) (s_arg_0 h)) ea_nil)) s_to_number)
theorem s_math_abs {v u : D} {b c : Int} (h : Fd (Gw w mg mb) 2 334 [.int b] (.int c)) : Fd (Gw w mg mb) 6 607 [v, u, .lst [.int b]] (.int c) := by
  refine fd_ret ok_math_abs rfl fun A L h₀ => ?_
  conv => arg 4; whnf
  exact es_ret (cl (gv g_absolute) (ea_cons (cl (gv g_first_number) (ea_cons (lv 0) (ea_cons (lv 2) ea_nil)) (s_first_number (by decide))) ea_nil) h)
theorem s_math_ceil {v u : D} {b c : Int} (h : Fd (Gw w mg mb) 5 432 [.int b] (.int c)) : Fd (Gw w mg mb) 6 614 [v, u, .lst [.int b]] (.int c) := by
  refine fd_ret ok_math_ceil rfl fun A L h₀ => ?_
  conv => arg 4; whnf
  exact es_ret (cl (gv g_ceil) (ea_cons (cl (gv g_first_number) (ea_cons (lv 0) (ea_cons (lv 2) ea_nil)) (s_first_number (by decide))) ea_nil) h)
theorem s_math_floor {v u : D} {b c : Int} (h : Fd (Gw w mg mb) 5 425 [.int b] (.int c)) : Fd (Gw w mg mb) 6 621 [v, u, .lst [.int b]] (.int c) := by
  refine fd_ret ok_math_floor rfl fun A L h₀ => ?_
  conv => arg 4; whnf
  exact es_ret (cl (gv g_floor) (ea_cons (cl (gv g_first_number) (ea_cons (lv 0) (ea_cons (lv 2) ea_nil)) (s_first_number (by decide))) ea_nil) h)
theorem s_math_round {v u : D} {b c : Int} (h : Fd (Gw w mg mb) 5 439 [.int b] (.int c)) : Fd (Gw w mg mb) 6 628 [v, u, .lst [.int b]] (.int c) := by
  refine fd_ret ok_math_round rfl fun A L h₀ => ?_
  conv => arg 4; whnf
  exact es_ret (cl (gv g_round_half_up) (ea_cons (cl (gv g_first_number) (ea_cons (lv 0) (ea_cons (lv 2) ea_nil)) (s_first_number (by decide))) ea_nil) h)
theorem s_math_sqrt {v u : D} {b c : Int} (h : Fd (Gw w mg mb) 5 453 [.int b] (.int c)) : Fd (Gw w mg mb) 6 635 [v, u, .lst [.int b]] (.int c) := by
  refine fd_ret ok_math_sqrt rfl fun A L h₀ => ?_
  conv => arg 4; whnf
  exact es_ret (cl (gv g_sqrt) (ea_cons (cl (gv g_first_number) (ea_cons (lv 0) (ea_cons (lv 2) ea_nil)) (s_first_number (by decide))) ea_nil) h)
theorem s_math_pow {v u : D} {a b c : Int} (h : Fd (Gw w mg mb) 6 369 [.int a, .int b] (.int c)) : Fd (Gw w mg mb) 7 642 [v, u, .lst [.int a, .int b]] (.int c) := by
  refine fd_ret ok_math_pow rfl fun A L h₀ => ?_
  conv => arg 4; whnf
  refine es_cons (es_set 3 rfl (cl (gv g_first_number) (ea_cons (lv 0) (ea_cons (lv 2) ea_nil)) (s_first_number (by simp))) (fun _ => rfl)) ?_
  exact es_ret (cl (gv g_power) (ea_cons (lv 3) (ea_cons (cl (gv g_to_number) (ea_cons (lv 0) (ea_cons (cl (gv g_arg) (ea_cons (lv 2) (ea_cons ev_int ea_nil)) (s_arg_1 (by simp))) ea_nil)) s_to_number) ea_nil)) h)

/-- the root of nought -/
theorem s_sqrt_0 : Fd (Gw w mg mb) 5 453 [.int 0] (.int 0) := by
  refine fd_ret ok_sqrt rfl fun A L h₀ => ?_
  conv => arg 4; whnf
  refine es_if (eb_or (eb_call (cl (gv g_is_nan) (ea_cons (lv 0) ea_nil) (s_is_nan (by decide)))) (fun _ => (eb_or (eb_call (cl (gv g_is_zero) (ea_cons (lv 0) ea_nil) (s_is_zero (by decide)))) (fun _ => eb_or_nil)))).eb (fun h1 => ?_) (fun h1 => by simp at h1)
  exact es_ret (lv 0)
end
section
/-! ## comprehensions -/
inductive NoL : D → Prop
  | flat (d : D) (f : d.flat = true) : NoL d
  | tup (l : List D) (h : ∀ d ∈ l, NoL d) : NoL (.tup l)

theorem Rv.acc {h h' : Heap} {v : Value} {d : D} {a : Addr} (r : Rv h v d) (n : NoL d) (hs : Heap.SameBut a h h') (ha : ∃ o, h.get? a = some o ∧ o.cls = .type "list") : Rv h' v d := by
  induction r with
  | none => exact .none
  | bool b => exact .bool b
  | int i t => exact .int i t
  | str s t => exact .str s t
  | ref a => exact .ref a
  | bi a => exact .bi a
  | ty a => exact .ty a
  | tup t vs l ho hl _ ih =>
    cases n with
    | flat _ f => cases f
    | tup _ hn =>
      obtain ⟨o, h1, h2, m, h3⟩ := ho
      obtain ⟨oa, a1, a2⟩ := ha
      have ne : t ≠ a := by
        rintro rfl
        rw [h1] at a1; cases a1; rw [h2] at a2
        injection a2 with e
        exact absurd e (by decide)
      exact .tup t vs l ⟨o, (hs.2 t ne).trans h1, h2, m, h3⟩ hl fun i v d e1 e2 => ih i v d e1 e2 (hn d (List.mem_of_getElem? e2))
  | lst t vs l ho hl _ ih =>
    cases n with
    | flat _ f => cases f
theorem Rvs.acc {h h' : Heap} {vs : List Value} {ds : List D} {a : Addr} (r : Rvs h vs ds) (n : ∀ d ∈ ds, NoL d) (hs : Heap.SameBut a h h') (ha : ∃ o, h.get? a = some o ∧ o.cls = .type "list") : Rvs h' vs ds :=
  ⟨r.1, fun i v d e1 e2 => (r.2 i v d e1 e2).acc (n d (List.mem_of_getElem? e2)) hs ha⟩

abbrev compCx (X : Cx) (scope : Scope) (cl : List (Str × Addr)) (cells : List (Str × Option D)) (x : Str) (C : Addr) (hs : Heap) : Cx :=
  ⟨X.g, X.A, compEnvC scope cl C X.env, [x], cells, X.n, C, X.h₀, hs⟩

/-- what a comprehension's frame must bring -/
structure CompOk (X : Cx) (scope : Scope) (cl : List (Str × Addr)) (cells : List (Str × Option D)) (x : Str) : Prop where
  clos : closureFor scope X.env = pure cl
  kind : scope.kind = .function
  cell : ∀ y ∈ scope.names, y.2 ≠ .cell
  names : ∀ y ∈ scope.names, y.2 = .local → scope.names.lookup y.1 = some .local
  hx : scope.names.lookup x = some .local
  cells : ∀ p ∈ cells, p ∈ X.cells ∧ cl.lookup p.1 = X.env.cells.lookup p.1 ∧ (∃ d, p.2 = some d ∧ d.flat = true) ∧
    ((relabel scope X.env).names.lookup p.1 = some .cell ∨ ((relabel scope X.env).names.lookup p.1 = some .free ∧ (p.1 == ("__classdict__" : Str)) = false))

section
variable {X : Cx} {σ : Lo}

/-- a frame's state, where a list that it does not speak of has grown -/
theorem St.grow {z : Option D} {X' : Cx} {h h' : Heap} {a : Addr} (S : St X' [z] [] h) (hs : Heap.SameBut a h h') (ha : ∃ o, h.get? a = some o ∧ o.cls = .type "list") (haL : a ≠ X'.L) (ha0 : X'.hs.get? a = none) (hd : ∃ o items n, h.get? a = some o ∧ o.data = .seq items n)
    (fc : ∀ p ∈ X'.cells, ∃ d, p.2 = some d ∧ d.flat = true) : St X' [none] [] h' := by
  obtain ⟨m, F, V⟩ := S.fr
  refine ⟨S.ok, ⟨m, F.change hs haL (S.ok.dom _ ha0), fun i x d e1 e2 => ?_⟩, fun p hp => (by cases hp), fun p hp => ?_, fun b o e => ?_⟩
  · match i with
    | 0 => cases e2
    | i + 1 => cases e2
  · obtain ⟨c, o, h1, h2, h3⟩ := S.ce p hp
    obtain ⟨d, hd1, hd2⟩ := fc p hp
    rw [hd1] at h3
    obtain ⟨v, h4, h5⟩ := h3
    obtain ⟨oa, items, n, g1, g2⟩ := hd
    have ne : c ≠ a := by
      rintro rfl
      rw [h2] at g1; cases g1; rw [h4] at g2; cases g2
    refine ⟨c, o, h1, (hs.2 c ne).trans h2, ?_⟩
    rw [hd1]
    exact ⟨v, h4, h5.flat hd2⟩
  · obtain ⟨sl, e1⟩ := S.us b o e
    exact ⟨sl, (hs.2 b (fun q => by rw [q, ha0] at e; cases e)).trans e1⟩

theorem comp_core {x : Str} {px pos : Pos} {elt iter : Expr} {scope : Scope} {cl : List (Str × Addr)} {cells : List (Str × Option D)} {ds es : List D} {s₁ : Shared} {a : Addr} {vs : List Value} {E : Value → Shared → Prop} {R : Value → Addr → Result → Shared → Prop} (K : CompOk X scope cl cells x)
    (S₁ : St X σ [] s₁.heap) (ha : s₁.heap.IsList a vs.toArray) (rs : Rvs s₁.heap vs ds)
    (hlen : ds.length = es.length) (hz : ds.length ≤ 1000) (fd : ∀ d ∈ ds, d.flat = true) (fe : ∀ e ∈ es, NoL e)
    (helt : ∀ (C : Addr) (hs : Heap) (j : Nat) (d e : D), SubU X.hs hs → (∃ es' ep o, hs.get? X.L = some o ∧ o.data = .dict es' ep) → hs.get? C = none → ds[j]? = some d → es[j]? = some e → EE (compCx X scope cl cells x C hs) [some d] [] elt e)
    (fin : ∀ (D C : Addr) (h5 : Heap) (tk : Nat) (m5 : Str → Option Value), D ≠ C → s₁.heap.get? C = none → h5.Ns C m5 → SubU s₁.heap h5 → Sub X.h₀ h5 → Rv h5 (.ref D) (.lst es) → R (.ref D) C (.ok .next) { s₁ with heap := h5, toks := tk }) :
    wpAny X.g.M X.A (pyIter (.ref a)) (fun it s₂ => wpAny X.g.M X.A (newList []) (fun acc s₃ =>
      wpAny X.g.M X.A (newFunctionEnv scope X.env.globals cl [] X.env.qual none .none (some X.env)) (fun cenv s₄ =>
        codeAny X.g.M X.A (.compStart (.ListComp elt [⟨.Name x px, iter, [], 0⟩] scope pos) 0 it acc { cenv with scope := relabel scope X.env }) (R acc cenv.locals) s₄) E s₃) E s₂) E s₁ := by
  refine wpAny_pyIter_list ha ?_
  refine wpAny_newObj_type ?_ (show (0 : Nat) ≤ sizeLine from Nat.zero_le _)
  refine wpAny_newFunctionEnv K.cell (by intro y hy; simp at hy) (fun h₄ hns hsb => ?_) K.kind
  dsimp only at hns hsb ⊢
  generalize hH2 : s₁.heap.push { cls := .type "list_iterator", data := .fields #[.ref a, .int 0 0] } = H2 at hns hsb ⊢
  generalize hH3 : H2.push { cls := .type "list", data := .seq ([] : List Value).toArray } = H3 at hns hsb ⊢
  have z2 : H2.objs.size = s₁.heap.objs.size + 1 := by rw [← hH2, Heap.size_push]
  have z3 : H3.objs.size = s₁.heap.objs.size + 2 := by rw [← hH3, Heap.size_push, z2]
  have fresh : ∀ b, s₁.heap.objs.size ≤ b → s₁.heap.get? b = none := fun b hb => Heap.get?_none_of_le hb
  have n1 : s₁.heap.objs.size ≠ H3.objs.size := by walk_at "om"
  have n2 : H2.objs.size ≠ H3.objs.size := by walk_at "om"
  have n3 : s₁.heap.objs.size ≠ H2.objs.size := by walk_at "om"
  have lt3 : ∀ b : Nat, b < s₁.heap.objs.size → b ≠ H3.objs.size := fun b hb => by walk_at "om"
  have lt2 : ∀ b : Nat, b < s₁.heap.objs.size → b ≠ H2.objs.size := fun b hb => by walk_at "om"
  have le3 : s₁.heap.objs.size ≤ H3.objs.size := by walk_at "om"
  have le2 : s₁.heap.objs.size ≤ H2.objs.size := by walk_at "om"
  have aL : a < s₁.heap.objs.size := by obtain ⟨o, ho, _⟩ := ha; exact Heap.lt_size ho
  have s12 : Sub s₁.heap H2 := hH2 ▸ Sub.push _
  have s23 : Sub H2 H3 := hH3 ▸ Sub.push _
  have s34 : ∀ b o, b ≠ H3.objs.size → H3.get? b = some o → h₄.get? b = some o := fun b o hb e => hsb.extBut b o hb (Heap.get?_push_of_some _ e)
  have s14 : Sub s₁.heap h₄ := fun b o e => s34 b o (lt3 b (Heap.lt_size e)) (s23 b o (s12 b o e))
  have hit : h₄.IsListIter s₁.heap.objs.size a 0 := ⟨_, s34 _ _ n1 (s23 _ _ (hH2 ▸ Heap.get?_push_size _ rfl)), rfl, rfl⟩
  have hacc : h₄.IsList H2.objs.size ([] : List Value).toArray := ⟨_, s34 _ _ n2 (hH3 ▸ Heap.get?_push_size _ rfl), rfl, _, rfl⟩
  obtain ⟨m₁, F₁, V₁⟩ := S₁.fr
  have LL := F₁.ns.lt
  have hd1 : ∃ es' ep o, s₁.heap.get? X.L = some o ∧ o.data = .dict es' ep := by
    obtain ⟨o, es', ep, e1, e2, _⟩ := F₁.ns
    exact ⟨es', ep, o, e1, e2⟩
  have ok' : (compCx X scope cl cells x H3.objs.size s₁.heap).Ok := by
    refine ⟨S₁.ok.hp, S₁.ok.ah, S₁.ok.dep, S₁.ok.un, rfl, S₁.ok.eg, S₁.ok.eb, K.kind, fun y hy => ?_, List.nodup_cons.mpr ⟨List.not_mem_nil, List.nodup_nil⟩, fun p hp => (K.cells p hp).2.2.2, fresh _ le3, dom_of_sub F₁.keep⟩
    rw [List.mem_singleton] at hy
    subst hy
    exact lookup_relabel_local K.hx
  have S4 : St (compCx X scope cl cells x H3.objs.size s₁.heap) [none] [] h₄ := by
    refine ⟨ok', ⟨_, ⟨hns, fun b o e => s14 b o (F₁.keep b o e), Nat.le_trans F₁.above (Nat.le_trans (Nat.le_of_lt LL) le3)⟩, fun i y d e1 e2 => ?_⟩, fun p hp => (by cases hp), fun p hp => ?_, s14.u⟩
    · match i with
      | 0 => cases e2
      | i + 1 => cases e2
    · obtain ⟨c1, c2, ⟨d, c3, c4⟩, _⟩ := K.cells p hp
      obtain ⟨c, o, q1, q2, q3⟩ := S₁.ce p c1
      rw [c3] at q3
      obtain ⟨u, q4, q5⟩ := q3
      refine ⟨c, o, c2.trans q1, s14 _ _ q2, ?_⟩
      rw [c3]
      exact ⟨u, q4, q5.flat c4⟩
  have H := hands_lst (X := compCx X scope cl cells x H3.objs.size s₁.heap) (it := s₁.heap.objs.size) (t := a) (vs := vs) n1 (lt3 a aL) (Nat.ne_of_lt aL)
  have loop : ∀ s₄ : Shared, s₄ = { s₁ with heap := h₄, toks := s₁.toks + ([] : List (Str × Value)).length } →
      codeAny (model X.g.prog X.g.w) X.A (.compLoop (.ListComp elt [⟨.Name x px, iter, [], 0⟩] scope pos) 0 (.ref s₁.heap.objs.size) (.ref H2.objs.size) (compEnvC scope cl H3.objs.size X.env))
        (R (.ref H2.objs.size) H3.objs.size) s₄ := by
    rintro s₄ rfl
    refine codeAny_compLoop_list (fun n s' => ∃ j h' tk ys z, s' = { s₁ with heap := h', toks := tk } ∧ j + n = ds.length ∧ h'.IsListIter s₁.heap.objs.size a j ∧ h'.IsList a vs.toArray ∧ h'.IsList H2.objs.size ys.toArray ∧
      Rvs h' ys (es.take j) ∧ St (compCx X scope cl cells x H3.objs.size s₁.heap) [z] [] h') ?_ ds.length ⟨0, h₄, _, [], none, rfl, Nat.zero_add _, hit, ⟨_, s14 _ _ ha.choose_spec.1, ha.choose_spec.2⟩, hacc, by rw [List.take_zero]; exact Rvs.nil _, S4⟩ (fun v => rfl)
    rintro n s' ⟨j, h', tk, ys, z, rfl, hj, hit', hl', hacc', hys, S'⟩
    by_cases hjl : j < ds.length
    · have hjv : j < vs.length := by rw [rs.len]; exact hjl
      have hje : j < es.length := by rw [← hlen]; exact hjl
      refine H.more X.A j _ _ _ vs[j] S₁.ok.ah ⟨hit', hl'⟩ (List.getElem?_eq_getElem hjv) fun h5 tk5 ⟨hit5, hl5⟩ ext5 => ?_
      have hfit : ∃ o, h'.get? s₁.heap.objs.size = some o ∧ ∃ fv, o.data = .fields fv := by obtain ⟨o, ho, _, q⟩ := hit'; exact ⟨o, ho, _, q⟩
      have S5 := S'.but n1 (fresh _ (Nat.le_refl _)) hfit ext5
      have kq5 : Kq h' h5 := fun b o hsq e => ⟨o.slots, ext5 b o (fun q => by
        obtain ⟨oi, hoi, fv, hfv⟩ := hfit
        obtain ⟨its, en, hse⟩ := hsq
        rw [q, hoi] at e; cases e; rw [hfv] at hse; cases hse) e⟩
      have hflat : (ds[j]).flat = true := fd _ (List.getElem_mem hjl)
      have rv : Rv h5 vs[j] ds[j] := (rs.2 j _ _ (List.getElem?_eq_getElem hjv) (List.getElem?_eq_getElem hjl)).flat hflat
      refine PyProof.Rows.assign_Name (store_ (X := compCx X scope cl cells x H3.objs.size s₁.heap) (s := { s₁ with heap := h5, toks := tk5 }) 0 rfl S5 rv fun h6 tk6 S6 k6 => ?_)
      refine (helt _ _ j _ _ S₁.us hd1 (fresh _ le3) (List.getElem?_eq_getElem hjl) (List.getElem?_eq_getElem hje)).run _ _ _ S6 fun u h7 tk7 S7 k7 r7 => ?_
      have k67 := k6.trans k7
      obtain ⟨hit7, hl7⟩ := H.keep _ _ _ k67 ⟨hit5, hl5⟩
      have acc5 : ∃ o, h5.get? H2.objs.size = some o ∧ o.cls = .type "list" ∧ ∃ n, o.data = .seq ys.toArray n := by
        obtain ⟨o, ho, r⟩ := hacc'
        exact ⟨o, ext5 _ o (Ne.symm n3) ho, r⟩
      have hacc7 : h7.IsList H2.objs.size ys.toArray := by
        obtain ⟨o, ho, r⟩ := acc5
        obtain ⟨sl, e⟩ := k67 _ o n2 ho
        exact ⟨_, e, r⟩
      have hys7 : Rvs h7 ys (es.take j) := (hys.kq kq5).kq (S5.kq k67)
      refine wpAny_list_append hacc7 (fun h8 hl8 hs8 => ?_) (by rw [List.size_toArray, hys7.len, List.length_take]; simp only [sizeLine_eq]; walk_at "om")
      have acls : ∃ o, h7.get? H2.objs.size = some o ∧ o.cls = .type "list" := by obtain ⟨o, ho, hc, _⟩ := hacc7; exact ⟨o, ho, hc⟩
      have aseq : ∃ o items n, h7.get? H2.objs.size = some o ∧ o.data = .seq items n := by obtain ⟨o, ho, _, n', hd'⟩ := hacc7; exact ⟨o, _, n', ho, hd'⟩
      have S8 := S7.grow hs8 acls n2 (fresh _ le2) aseq (fun p hp => by obtain ⟨_, _, c3, _⟩ := K.cells p hp; exact c3)
      refine ⟨n - 1, by walk_at "om", j + 1, h8, tk7, ys ++ [u], none, rfl, by walk_at "om", ?_, ?_, ?_, ?_, S8⟩
      · obtain ⟨o, ho, r⟩ := hit7; exact ⟨o, (hs8.2 _ n3).trans ho, r⟩
      · obtain ⟨o, ho, r⟩ := hl7; exact ⟨o, (hs8.2 _ (lt2 a aL)).trans ho, r⟩
      · have e : (ys ++ [u]).toArray = ys.toArray.push u := by simp
        rw [e]; exact hl8
      · have e : es.take (j + 1) = es.take j ++ [es[j]] := by rw [List.take_succ, List.getElem?_eq_getElem hje]; rfl
        rw [e]
        exact (hys7.acc (fun d hd => fe d (List.mem_of_mem_take hd)) hs8 acls).app (r7.acc (fe _ (List.getElem_mem hje)) hs8 acls)
    · have hj' : j = ds.length := by walk_at "om"
      refine H.done X.A j _ _ _ S₁.ok.ah ⟨hit', hl'⟩ (List.getElem?_eq_none_iff.mpr (by have := rs.len; walk_at "om")) fun h5 tk5 ext5 => ?_
      have hfit : ∃ o, h'.get? s₁.heap.objs.size = some o ∧ ∃ fv, o.data = .fields fv := by obtain ⟨o, ho, _, q⟩ := hit'; exact ⟨o, ho, _, q⟩
      have S5 := S'.but n1 (fresh _ (Nat.le_refl _)) hfit ext5
      have kq5 : Kq h' h5 := fun b o hsq e => ⟨o.slots, ext5 b o (fun q => by
        obtain ⟨oi, hoi, fv, hfv⟩ := hfit
        obtain ⟨its, en, hse⟩ := hsq
        rw [q, hoi] at e; cases e; rw [hfv] at hse; cases hse) e⟩
      obtain ⟨m5, F5, _⟩ := S5.fr
      have hys5 : Rvs h5 ys es := by
        have := hys.kq kq5
        rwa [hj', hlen, List.take_length] at this
      have hacc5 : h5.IsList H2.objs.size ys.toArray := by
        obtain ⟨o, ho, r⟩ := hacc'
        exact ⟨o, ext5 _ o (Ne.symm n3) ho, r⟩
      exact fin _ _ h5 tk5 m5 n2 (fresh _ le3) F5.ns S5.us F5.keep (.lst _ ys es hacc5 hys5.1 hys5.2)
  exact codeAny_compStart_list (loop _ rfl) (wpAny_pyIter_listiter hit (loop _ rfl))

theorem Ns.notSeq {h : Heap} {C : Addr} {m : Str → Option Value} (x : h.Ns C m) {b : Addr} {o : Obj} (hs : ∃ items n, o.data = .seq items n) (e : h.get? b = some o) : b ≠ C := by
  rintro rfl
  obtain ⟨o', es, ep, h1, h2, _⟩ := x
  rw [h1] at e; cases e
  obtain ⟨items, n, h3⟩ := hs
  rw [h2] at h3; cases h3

theorem ev_comp {x : Str} {px pos : Pos} {elt iter : Expr} {scope : Scope} {cl : List (Str × Addr)} {cells : List (Str × Option D)} {ds es : List D} (K : CompOk X scope cl cells x) (h : EE X σ [] iter (.lst ds))
    (hlen : ds.length = es.length) (hz : ds.length ≤ 1000) (fd : ∀ d ∈ ds, d.flat = true) (fe : ∀ e ∈ es, NoL e)
    (helt : ∀ (C : Addr) (hs : Heap) (j : Nat) (d e : D), SubU X.hs hs → (∃ es' ep o, hs.get? X.L = some o ∧ o.data = .dict es' ep) → hs.get? C = none → ds[j]? = some d → es[j]? = some e → EE (compCx X scope cl cells x C hs) [some d] [] elt e)
    (hs : ∀ v, foldedSetIterable iter X.env v = pure v := by intro _; rfl) :
    EE X σ [] (.ListComp elt [⟨.Name x px, iter, [], 0⟩] scope pos) (.lst es) := by
  refine ⟨fun s Q E S k => ?_⟩
  rw [eval_ListComp]
  refine wpAny_comprehension_free (use := none) rfl hs K.clos K.kind K.names (h.run s _ E S fun v h₁ tk₁ S₁ k₁ r₁ => ?_)
  obtain ⟨a, vs, rfl, ha, rs⟩ := r₁.lst_inv
  refine comp_core (s₁ := { s with heap := h₁, toks := tk₁ }) (R := fun acc C => compPost (model X.g.prog X.g.w) X.A E none Q acc C) K S₁ ha rs hlen hz fd fe helt fun D C h5 tk m5 hDC hC hns hu hk rv => ?_
  dsimp only at hC hu
  refine ⟨m5, hns, fun h6 sb6 => ?_⟩
  have u6 : SubU h₁ h6 := fun b o e => by
    obtain ⟨sl, e5⟩ := hu b o e
    exact ⟨sl, (sb6.2 b (fun q => by rw [q, hC] at e; cases e)).trans e5⟩
  have k06 : Sub X.h₀ h6 := fun b o e => (sb6.2 b (fun q => by
    obtain ⟨m₁, F₁, _⟩ := S₁.fr
    have := F₁.keep b o e
    rw [q, hC] at this; cases this)).trans (hk b o e)
  exact k (.ref D) h6 tk (S₁.subU u6 k06) (k₁.trans (Ke.of_u u6)) (rv.kq fun b o hsq e => ⟨o.slots, (sb6.2 b (Ns.notSeq hns hsq e)).trans e⟩)

/-- the frame's state does not hang on another names' table -/
theorem St.butD {h h' : Heap} {it : Addr} (S : St X σ [] h) (hL : it ≠ X.L) (h0 : X.hs.get? it = none) (hit : ∃ o, h.get? it = some o ∧ ∃ es ep, o.data = .dict es ep) (k : Heap.ExtBut it h h') : St X σ [] h' := by
  obtain ⟨m, F, V⟩ := S.fr
  obtain ⟨oi, hoi, fvs, fep, hfs⟩ := hit
  have hns : ¬ ∃ items n, oi.data = .seq items n := by rintro ⟨_, _, q⟩; rw [hfs] at q; cases q
  have kq : Kq h h' := fun b o hs e => ⟨o.slots, k b o (fun q => by rw [q, hoi] at e; cases e; exact hns hs) e⟩
  have h00 := S.ok.dom _ h0
  refine ⟨S.ok, ⟨m, ⟨F.ns.extBut k hL.symm, fun b o e => k b o (fun q => by rw [q, h00] at e; cases e) (F.keep b o e), F.above⟩, fun i x d e1 e2 => ?_⟩, fun p hp => (by cases hp), fun p hp => ?_, fun b o e => ?_⟩
  · obtain ⟨v, hv, r⟩ := V i x d e1 e2
    exact ⟨v, hv, r.kq kq⟩
  · obtain ⟨c, o, h1, h2, h3⟩ := S.ce p hp
    obtain ⟨v, q3⟩ := h3.notDict
    exact ⟨c, o, h1, k c o (fun q => by rw [q, hoi] at h2; cases h2; rw [hfs] at q3; cases q3) h2, h3.up (sl := o.slots) kq⟩
  · obtain ⟨sl, e1⟩ := S.us b o e
    exact ⟨sl, k b _ (fun q => by rw [q, h0] at e; cases e) e1⟩

/-- a comprehension bound to a name -/
theorem es_comp {x y : Str} {px py pos spos : Pos} {elt iter : Expr} {scope : Scope} {cl : List (Str × Addr)} {cells : List (Str × Option D)} {ds es : List D} (i : Nat) (hn : X.names[i]? = some y) (K : CompOk X scope cl cells x) (h : EE X σ [] iter (.lst ds))
    (hlen : ds.length = es.length) (hz : ds.length ≤ 1000) (fd : ∀ d ∈ ds, d.flat = true) (fe : ∀ e ∈ es, NoL e)
    (helt : ∀ (C : Addr) (hs : Heap) (j : Nat) (d e : D), SubU X.hs hs → (∃ es' ep o, hs.get? X.L = some o ∧ o.data = .dict es' ep) → hs.get? C = none → ds[j]? = some d → es[j]? = some e → EE (compCx X scope cl cells x C hs) [some d] [] elt e)
    (hsw : swapsWith (.ListComp elt [⟨.Name x px, iter, [], 0⟩] scope pos) (some (.Name y py)) spos.line X.env = pure true)
    (hs : ∀ v, foldedSetIterable iter X.env v = pure v := by intro _; rfl) :
    E1 X σ [] (.Assign [.Name y py] (.ListComp elt [⟨.Name x px, iter, [], 0⟩] scope pos) spos) (.next (σ.set i (some (.lst es))) []) := by
  refine ⟨fun s Q E S k => ?_⟩
  rw [exec_Assign_Name_used _ _ _ _ hsw]
  refine wpAny_bind (wpAny_standAt (wpAny_bind ?_))
  show wpAny _ X.A (do let _ ← comprehension (.ListComp elt [⟨.Name x px, iter, [], 0⟩] scope pos) scope X.env _ (newList []) false (eval iter X.env) (some (assign (.Name y py) X.env))) _ _ s
  refine wpAny_bind (wpAny_mono (wpAny_comprehension_free (use := some (assign (.Name y py) X.env)) (Q := fun _ s' => Q .next s') rfl hs K.clos K.kind K.names (h.run s _ E S fun v h₁ tk₁ S₁ k₁ r₁ => ?_))
    (fun _ s' hq => wpAny_pure (wpAny_pure hq)) fun _ _ e => e)
  obtain ⟨a, vs, rfl, ha, rs⟩ := r₁.lst_inv
  refine comp_core (s₁ := { s with heap := h₁, toks := tk₁ }) (R := fun acc C => compPost (model X.g.prog X.g.w) X.A E (some (assign (.Name y py) X.env)) (fun _ s' => Q .next s') acc C) K S₁ ha rs hlen hz fd fe helt fun D C h5 tk m5 hDC hC hns hu hk rv => ?_
  dsimp only at hC hu
  have S5 := S₁.subU hu hk
  have hCL : C ≠ X.L := by
    rintro rfl
    obtain ⟨m, F, _⟩ := S₁.fr
    obtain ⟨o, _, _, e, _⟩ := F.ns
    rw [hC] at e; cases e
  show wpAny _ X.A (assign (.Name y py) X.env (.ref D)) _ _ _
  refine PyProof.Rows.assign_Name (store_ (s := { s with heap := h5, toks := tk }) i hn S5 rv fun h6 tk6 S6 k6 => ?_)
  obtain ⟨oC, esC, epC, q1, q2, q3⟩ := hns
  obtain ⟨sl, q1'⟩ := k6 C oC hCL q1
  refine ⟨m5, ⟨_, esC, epC, q1', q2, q3⟩, fun h7 sb7 => ?_⟩
  have S7 := S6.butD hCL (by
    cases e : X.hs.get? C with
    | none => rfl
    | some o => obtain ⟨_, e1⟩ := S₁.us C o e; rw [hC] at e1; cases e1) ⟨_, q1', _, _, q2⟩ sb7.extBut
  refine k h7 tk6 S7 (Ke.ks fun b o hb e => ?_)
  obtain ⟨s1, e1⟩ := k₁ b o hb e
  obtain ⟨s2, e2⟩ := hu b _ e1
  obtain ⟨s3, e3⟩ := k6 b _ hb e2
  exact ⟨s3, (sb7.2 b (fun q => by rw [q, hC] at e1; cases e1)).trans e3⟩
end
end
section
/-! ## defs whose names stand in cells -/
noncomputable def pickV {α : Type} (vs : List α) (o : Option Nat) : Option α := o.bind fun j => vs[j]?

structure FnOkC (G : Gx) (a : Addr) (ps names : List Str) (ix : List (Option Nat)) (cs : List Str) (jx : List (Option Nat)) : Prop where
  isfn : isFn G.K a = true
  code : codeIn G.K (fdOf G.K a).code (fdOf G.K a).qualname = true
  glob : (fdOf G.K a).globals = mainGlobals
  bui : (fdOf G.K a).builtins = builtinsNs
  clo : (fdOf G.K a).closure = []
  body : isBody (fdOf G.K a) = true
  co : (fdOf G.K a).scope.isCoroutine = false
  gen : (fdOf G.K a).scope.isGenerator = false
  kind : (fdOf G.K a).scope.kind = .function
  loc : (names.all fun x => decide ((fdOf G.K a).scope.names.lookup x = some .local)) = true
  cel : (cs.all fun x => decide ((fdOf G.K a).scope.names.lookup x = some .cell)) = true
  par : (ps.all fun x => decide ((fdOf G.K a).scope.names.lookup x = some .local) || (decide ((fdOf G.K a).scope.names.lookup x = some .cell) && ((cellsFrom 0 (fdOf G.K a).scope.names []).lookup x).isSome)) = true
  inc : (cs.all fun x => ((cellsFrom 0 (fdOf G.K a).scope.names []).lookup x).isSome) = true
  nd : names.Nodup
  ndp : ps.Nodup
  bind : ∀ vs : List Value, vs.length = ps.length → bindArgs (fdOf G.K a) ⟨vs, []⟩ = pure (ps.zip vs)
  ixs : ((names.zip ix).all fun p => match p.2 with | some j => decide (ps[j]? = some p.1) | none => true) = true
  ixl : ix.length = names.length
  jxs : ((cs.zip jx).all fun p => match p.2 with | some j => decide (ps[j]? = some p.1) | none => !ps.contains p.1) = true
  jxl : jx.length = cs.length

theorem bindL_other {k : Str → Option NameKind} {x : Str} : ∀ (bs : List (Str × Value)) (m : Str → Option Value), x ∉ bs.map (·.1) → bindL k bs m x = m x
  | [], _, _ => rfl
  | (n, v) :: r, m, h => by
    rw [List.map_cons, List.mem_cons, not_or] at h
    unfold bindL
    rw [bindL_other r _ h.2]
    split
    · exact if_neg h.1
    · rfl
theorem bindC_other {k : Str → Option NameKind} {x : Str} : ∀ (bs : List (Str × Value)) (m : Str → Option Value), x ∉ bs.map (·.1) → bindC k bs m x = m x
  | [], _, _ => rfl
  | (n, v) :: r, m, h => by
    rw [List.map_cons, List.mem_cons, not_or] at h
    unfold bindC
    rw [bindC_other r _ h.2]
    split
    · rfl
    · exact if_neg h.1
theorem bindL_get {k : Str → Option NameKind} {x : Str} (hk : k x = some .local) : ∀ (ps : List Str) (vs : List Value) (m : Str → Option Value) (j : Nat), ps.Nodup → ps.length = vs.length → ps[j]? = some x → bindL k (ps.zip vs) m x = vs[j]?
  | [], _, _, _, _, _, h => by cases h
  | _ :: _, [], _, _, _, hl, _ => by simp at hl
  | p :: ps, v :: vs, m, j, nd, hl, h => by
    rw [List.nodup_cons] at nd
    rw [List.zip_cons_cons]
    unfold bindL
    cases j with
    | zero =>
      cases h
      rw [bindL_other _ _ (fun q => nd.1 (by rw [List.map_fst_zip (by simpa using Nat.le_of_eq hl)] at q; exact q)), if_pos hk]
      exact if_pos rfl
    | succ j => exact bindL_get hk ps vs _ j nd.2 (by simpa using hl) h
theorem bindC_get {k : Str → Option NameKind} {x : Str} (hk : k x ≠ some .local) : ∀ (ps : List Str) (vs : List Value) (m : Str → Option Value) (j : Nat), ps.Nodup → ps.length = vs.length → ps[j]? = some x → bindC k (ps.zip vs) m x = vs[j]?
  | [], _, _, _, _, _, h => by cases h
  | _ :: _, [], _, _, _, hl, _ => by simp at hl
  | p :: ps, v :: vs, m, j, nd, hl, h => by
    rw [List.nodup_cons] at nd
    rw [List.zip_cons_cons]
    unfold bindC
    cases j with
    | zero =>
      cases h
      rw [bindC_other _ _ (fun q => nd.1 (by rw [List.map_fst_zip (by simpa using Nat.le_of_eq hl)] at q; exact q)), if_neg hk]
      exact if_pos rfl
    | succ j => exact bindC_get hk ps vs _ j nd.2 (by simpa using hl) h

theorem cellsFrom_some (n n' : Nat) (names : List (Str × NameKind)) (x : Str) : ((cellsFrom n names []).lookup x).isSome = ((cellsFrom n' names []).lookup x).isSome := by
  have h := cellsFrom_names names n n' [] [] rfl
  have key : ∀ (l l' : List (Str × Addr)), l.map (·.1) = l'.map (·.1) → (l.lookup x).isSome = (l'.lookup x).isSome := by
    intro l
    induction l with
    | nil => intro l' e; cases l' with
      | nil => rfl
      | cons _ _ => simp at e
    | cons p l ih => intro l' e; cases l' with
      | nil => simp at e
      | cons q l' =>
        simp only [List.map_cons, List.cons.injEq] at e
        obtain ⟨p1, p2⟩ := p
        obtain ⟨q1, q2⟩ := q
        simp only at e
        rw [List.lookup_cons, List.lookup_cons, e.1]
        cases x == q1 with
        | true => rfl
        | false => exact ih l' e.2
  exact key _ _ h

theorem enterC {G : Gx} {n : Nat} {a : Addr} {ds : List D} {ps names : List Str} {ix : List (Option Nat)} {cs : List Str} {jx : List (Option Nat)} (K : FnOkC G a ps names ix cs jx) (hl : ps.length = ds.length) {hb : Heap} {A : Around} {s : Shared} {vs : List Value} {Q E : Value → Shared → Prop}
    (hh : A.handled = none) (hd : A.depth + (n + 1) < recursionLimit) (hu : A.units + 8 * (n + 1) + 20 < cLine) (H : Hp G hb) (sub : Sub hb s.heap) (hbsz : hb.objs.size ≤ s.heap.objs.size) (r : Rvs s.heap vs ds)
    (h : ∀ X : Cx, X = ⟨G, A.deeper (envOfC (fdOf G.K a).qualname (fdOf G.K a).scope s.heap.objs.size a (fdOf G.K a).code), envOfC (fdOf G.K a).qualname (fdOf G.K a).scope s.heap.objs.size a (fdOf G.K a).code, names, cs.zip (jx.map (pickV ds)), n, s.heap.objs.size, hb, s.heap⟩ →
      ∀ h₁ tk, St X (ix.map (pickV ds)) [] h₁ → wpAny G.M X.A (execs (bodyOf (fdOf G.K a)) X.env) (fun f s' => Q (match f with | .ret v => v | _ => .none) s')
        (fun e s' => wpAny G.M X.A (leaving X.env e) (fun _ s'' => E e s'') (fun e' s'' => E e' s'') s') { s with heap := h₁, toks := tk }) : wpAny G.M A (call (.ref a) vs) Q E s := by
  have Hs := H.sub sub
  obtain ⟨ob, hob, hdat⟩ := fd_at Hs.k K.isfn
  have hlen : vs.length = ps.length := r.1.trans hl.symm
  have hlocs : ∀ x ∈ names, (fdOf G.K a).scope.names.lookup x = some .local := fun x hx => of_decide_eq_true (List.all_eq_true.mp K.loc x hx)
  have hcels : ∀ x ∈ cs, (fdOf G.K a).scope.names.lookup x = some .cell := fun x hx => of_decide_eq_true (List.all_eq_true.mp K.cel x hx)
  refine wpAny_call (codeAny_call_function (by walk_at "om") hob hdat K.co K.gen (body_is K.body) (codeRec_of Hs.k K.code) ?_)
  rw [K.bind vs hlen, K.clo, K.glob, K.bui]
  refine wpAny_pure (wpAny_newFunctionEnv_cells K.kind (fun x hx => ?_) fun env he s' Y => ?_)
  · have hm : x.1 ∈ ps := by
      obtain ⟨y, v⟩ := x
      exact (List.of_mem_zip hx).1
    have := List.all_eq_true.mp K.par x.1 hm
    rw [Bool.or_eq_true, Bool.and_eq_true, decide_eq_true_eq, decide_eq_true_eq] at this
    rcases this with q | ⟨q1, q2⟩
    · exact .inl q
    · exact .inr ⟨q1, by rw [cellsFrom_some _ 0]; exact q2⟩
  · have he' : env = envOfC (fdOf G.K a).qualname (fdOf G.K a).scope s.heap.objs.size a (fdOf G.K a).code := he
    rw [he'] at Y ⊢
    obtain ⟨h₁, tk, e₁⟩ := Y.toInCall.same
    subst e₁
    have keep : Sub s.heap h₁ := Y.toInCall.keep
    refine ⟨Hs.nolimit.keeps keep, codeAny_func ?_⟩
    have ok : Cx.Ok ⟨G, A.deeper (envOfC (fdOf G.K a).qualname (fdOf G.K a).scope s.heap.objs.size a (fdOf G.K a).code), envOfC (fdOf G.K a).qualname (fdOf G.K a).scope s.heap.objs.size a (fdOf G.K a).code, names, cs.zip (jx.map (pickV ds)), n, s.heap.objs.size, hb, s.heap⟩ :=
      ⟨H, hh, by show A.depth + 1 + n < _; walk_at "om", by show A.units + 3 + 8 * n + 20 < _; walk_at "om", rfl, rfl, rfl, K.kind, hlocs, K.nd, (fun p hp => .inl (hcels _ (by obtain ⟨y, v⟩ := p; exact (List.of_mem_zip hp).1))), Heap.get?_none_of_le (Nat.le_refl _), dom_of_sub sub⟩
    refine h _ rfl h₁ _ ⟨ok, ⟨_, ⟨Y.toInCall.ns, fun b o e => keep b o (sub b o e), hbsz⟩, fun i x d e1 e2 => ?_⟩, fun p hp => (by cases hp), fun p hp => ?_, Sub.u keep⟩
    · rw [List.getElem?_map] at e2
      cases hi : ix[i]? with
      | none => rw [hi] at e2; cases e2
      | some oj =>
        rw [hi] at e2
        cases oj with
        | none => cases e2
        | some j =>
          have e3 : ds[j]? = some d := Option.some.inj e2
          have hz : (names.zip ix)[i]? = some (x, some j) := by rw [List.getElem?_zip_eq_some]; exact ⟨e1, hi⟩
          have hp : ps[j]? = some x := of_decide_eq_true (List.all_eq_true.mp K.ixs _ (List.mem_of_getElem? hz))
          have hjl : j < vs.length := by have := (List.getElem?_eq_some_iff.mp hp).1; walk_at "om"
          have hv : vs[j]? = some vs[j] := List.getElem?_eq_getElem hjl
          refine ⟨vs[j], ?_, (r.2 j _ d hv e3).kq (Sub.kq keep)⟩
          rw [bindL_get (hlocs x (List.mem_of_getElem? e1)) ps vs _ j K.ndp hlen.symm hp, hv]
    · obtain ⟨x, od⟩ := p
      obtain ⟨i, hi⟩ := List.mem_iff_getElem?.mp hp
      rw [List.getElem?_zip_eq_some] at hi
      obtain ⟨i1, i2⟩ := hi
      have hxc : x ∈ cs := List.mem_of_getElem? i1
      obtain ⟨c, hc⟩ := Option.isSome_iff_exists.mp (by have := List.all_eq_true.mp K.inc x hxc; rw [cellsFrom_some 0 (s.heap.objs.size + 1)] at this; exact this)
      have hce := Y.cell x c hc
      obtain ⟨o, ho, hod⟩ := hce
      refine ⟨c, o, hc, ho, ?_⟩
      have hnl : (envOfC (fdOf G.K a).qualname (fdOf G.K a).scope s.heap.objs.size a (fdOf G.K a).code).kindOf x ≠ some .local := by
        show (fdOf G.K a).scope.names.lookup x ≠ some .local
        rw [hcels x hxc]; decide
      rw [List.getElem?_map] at i2
      cases hj : jx[i]? with
      | none => rw [hj] at i2; cases i2
      | some oj =>
        rw [hj] at i2
        have hz : (cs.zip jx)[i]? = some (x, oj) := by rw [List.getElem?_zip_eq_some]; exact ⟨i1, hj⟩
        have hchk := List.all_eq_true.mp K.jxs _ (List.mem_of_getElem? hz)
        cases oj with
        | none =>
          have : od = none := (Option.some.inj i2).symm
          subst this
          refine ⟨?_, ?_⟩
          · rw [hod, bindC_other _ _ (fun q => ?_)]
            rw [List.map_fst_zip (Nat.le_of_eq hlen.symm)] at q
            simp only at hchk
            rw [Bool.not_eq_true', List.contains_eq_mem, decide_eq_false_iff_not] at hchk
            exact hchk q
          · exact Heap.get?_none_of_le (Nat.le_of_lt (Y.above x c (mem_of_lookup hc)))
        | some j =>
          have hpj : ps[j]? = some x := of_decide_eq_true hchk
          have hjl : j < vs.length := by have := (List.getElem?_eq_some_iff.mp hpj).1; walk_at "om"
          have hjd : j < ds.length := by have := r.1; walk_at "om"
          have hv : vs[j]? = some vs[j] := List.getElem?_eq_getElem hjl
          have hdj : ds[j]? = some ds[j] := List.getElem?_eq_getElem hjd
          have : od = some ds[j] := (Option.some.inj i2).symm.trans hdj
          subst this
          refine ⟨vs[j], ?_, (r.2 j _ _ hv hdj).kq (Sub.kq keep)⟩
          rw [hod, bindC_get hnl ps vs _ j K.ndp hlen.symm hpj, hv]

theorem fnC_intro {G : Gx} {n : Nat} {a : Addr} {ds : List D} {d : D} {ps names : List Str} {ix : List (Option Nat)} {cs : List Str} {jx : List (Option Nat)} (K : FnOkC G a ps names ix cs jx) (hl : ps.length = ds.length)
    (h : ∀ (A : Around) (L : Addr) (h₀ : Heap), ES ⟨G, A, envOfC (fdOf G.K a).qualname (fdOf G.K a).scope L a (fdOf G.K a).code, names, cs.zip (jx.map (pickV ds)), n, L, h₀, h₀⟩ (ix.map (pickV ds)) [] (bodyOf (fdOf G.K a)) (.ret d)) : Fd G (n + 1) a ds d := by
  refine ⟨⟨fun A s Q E vs hh hd hu H r k => enterC K hl hh hd hu H (Sub.refl _) (Nat.le_refl _) r fun X hX h₁ tk S => ?_⟩, K.isfn⟩
  subst hX
  refine (h _ _ _).run _ _ _ S ?_
  intro v h' tk' k' _ rv
  exact k v h' tk' k' rv
end
section
variable {w : World} {mg mb : Str → Option Value}
theorem ok_math_max : FnOkC (Gw w mg mb) 647 ["vm", "this", "args"] ["this", "args"] [some 1, some 2] ["vm"] [some 0] :=
  ⟨by kernel_rfl, by kernel_rfl, by kernel_rfl, by kernel_rfl, by kernel_rfl, by kernel_rfl, by kernel_rfl, by kernel_rfl, by kernel_rfl, by kernel_rfl, by kernel_rfl, by kernel_rfl, by kernel_rfl, by decide +kernel, by decide +kernel, vs3 fun a0 a1 a2 => by kernel_rfl, by kernel_rfl, rfl, by kernel_rfl, rfl⟩
theorem ok_math_min : FnOkC (Gw w mg mb) 652 ["vm", "this", "args"] ["this", "args"] [some 1, some 2] ["vm"] [some 0] :=
  ⟨by kernel_rfl, by kernel_rfl, by kernel_rfl, by kernel_rfl, by kernel_rfl, by kernel_rfl, by kernel_rfl, by kernel_rfl, by kernel_rfl, by kernel_rfl, by kernel_rfl, by kernel_rfl, by kernel_rfl, by decide +kernel, by decide +kernel, vs3 fun a0 a1 a2 => by kernel_rfl, by kernel_rfl, rfl, by kernel_rfl, rfl⟩
theorem ok_law_texts_right : FnOkC (Gw w mg mb) 912 ["bits", "n"] ["bits", "n", "args", "many", "edge", "wide", "due", "behind", "is_let", "works"] [some 0, some 1, none, none, none, none, none, none, none, none] ["other"] [none] :=
  ⟨by kernel_rfl, by kernel_rfl, by kernel_rfl, by kernel_rfl, by kernel_rfl, by kernel_rfl, by kernel_rfl, by kernel_rfl, by kernel_rfl, by kernel_rfl, by kernel_rfl, by kernel_rfl, by kernel_rfl, by decide +kernel, by decide +kernel, vs2 fun a0 a1 => by kernel_rfl, by kernel_rfl, rfl, by kernel_rfl, rfl⟩
theorem ok_law_bounds_right : FnOkC (Gw w mg mb) 931 ["tops", "s"] ["tops", "args"] [some 0, none] ["s"] [some 1] :=
  ⟨by kernel_rfl, by kernel_rfl, by kernel_rfl, by kernel_rfl, by kernel_rfl, by kernel_rfl, by kernel_rfl, by kernel_rfl, by kernel_rfl, by kernel_rfl, by kernel_rfl, by kernel_rfl, by kernel_rfl, by decide +kernel, by decide +kernel, vs2 fun a0 a1 => by kernel_rfl, by kernel_rfl, rfl, by kernel_rfl, rfl⟩
end
section
variable {w : World} {mg mb : Str → Option Value}

theorem compOk {X : Cx} {scope : Scope} {cl : List (Str × Addr)} {cells : List (Str × Option D)} {x : Str} (clos : closureFor scope X.env = pure cl) (kind : scope.kind = .function)
    (c1 : (scope.names.all fun y => decide (y.2 ≠ .cell)) = true) (c2 : (scope.names.all fun y => !decide (y.2 = .local) || decide (scope.names.lookup y.1 = some .local)) = true) (hx : scope.names.lookup x = some .local)
    (hc : ∀ p ∈ cells, p ∈ X.cells ∧ cl.lookup p.1 = X.env.cells.lookup p.1 ∧ (∃ d, p.2 = some d ∧ d.flat = true) ∧
      ((relabel scope X.env).names.lookup p.1 = some .cell ∨ ((relabel scope X.env).names.lookup p.1 = some .free ∧ (p.1 == ("__classdict__" : Str)) = false))) : CompOk X scope cl cells x :=
  ⟨clos, kind, fun y hy => of_decide_eq_true (List.all_eq_true.mp c1 y hy), fun y hy h => by
    have := List.all_eq_true.mp c2 y hy
    rw [Bool.or_eq_true, Bool.not_eq_true', decide_eq_true_eq, decide_eq_false_iff_not] at this
    rcases this with q | q
    · exact absurd h q
    · exact q, hx, hc⟩

/-! ## greatest and least of many -/
inductive Chain (f : Int → Int → Int → Prop) : Int → List Int → Int → Prop
  | nil (r : Int) : Chain f r [] r
  | cons {r n r' q : Int} {ns : List Int} (h : f r n r') (t : Chain f r' ns q) : Chain f r (n :: ns) q

theorem chain_loop {X : Cx} {b : List Stmt} {f : Int → Int → Int → Prop} {L : D} (hb : ∀ r n r', f r n r' → ES X [some L, some (.int r), some (.int n)] [] b (.next [some L, some (.int r'), some (.int n)] [])) :
    ∀ (ns : List Int) (r q : Int) (z : Option D), Chain f r ns q → ∃ z', FC X 2 b (ns.map .int) [some L, some (.int r), z] (.next [some L, some (.int q), z'] []) := by
  intro ns
  induction ns with
  | nil => intro r q z h; cases h; exact ⟨z, FC.nil _⟩
  | cons n ns ih =>
    intro r q z h
    cases h with
    | cons h t =>
      obtain ⟨z', h'⟩ := ih _ _ (some (.int n)) t
      exact ⟨z', FC.step (hb _ _ _ h) h'⟩

theorem chain_ex {X : Cx} {b rest : List Stmt} {o : Out} {f : Int → Int → Int → Prop} {L : D} {ns : List Int} {r q : Int} {z : Option D} (hb : ∀ r n r', f r n r' → ES X [some L, some (.int r), some (.int n)] [] b (.next [some L, some (.int r'), some (.int n)] [])) (h : Chain f r ns q)
    (k : ∀ z', ES X [some L, some (.int q), z'] [] rest o) : ∃ σ', FC X 2 b (ns.map .int) [some L, some (.int r), z] (.next σ' []) ∧ ES X σ' [] rest o := by
  obtain ⟨z', hz⟩ := chain_loop hb ns r q z h
  exact ⟨_, hz, k z'⟩

theorem s_greatest_of {ns : List Int} {q : Int} (h : Chain (fun r n r' => Fd (Gw w mg mb) 4 467 [.int r, .int n] (.int r')) 18442240474082181120 ns q) : Fd (Gw w mg mb) 5 586 [.lst (ns.map .int)] (.int q) := by
  refine fd_ret ok_greatest_of rfl fun A L h₀ => ?_
  conv => arg 4; whnf
  refine es_cons (es_set 1 rfl (gv g_NEG_INF) (fun _ => rfl)) ?_
  refine es_for_lst_ex 2 rfl (lv 0) (chain_ex (fun r n r' hr => ?_) h fun z' => ?_) (fun _ _ => rfl)
  · refine es_cons (es_set 1 rfl (cl (gv g_max_of) (ea_cons (lv 1) (ea_cons (lv 2) ea_nil)) hr) (fun _ => rfl)) ?_
    exact es_nil
  · exact es_ret (lv 1)
theorem s_least_of {ns : List Int} {q : Int} (h : Chain (fun r n r' => Fd (Gw w mg mb) 4 460 [.int r, .int n] (.int r')) 9218868437227405312 ns q) : Fd (Gw w mg mb) 5 593 [.lst (ns.map .int)] (.int q) := by
  refine fd_ret ok_least_of rfl fun A L h₀ => ?_
  conv => arg 4; whnf
  refine es_cons (es_set 1 rfl (gv g_INF) (fun _ => rfl)) ?_
  refine es_for_lst_ex 2 rfl (lv 0) (chain_ex (fun r n r' hr => ?_) h fun z' => ?_) (fun _ _ => rfl)
  · refine es_cons (es_set 1 rfl (cl (gv g_min_of) (ea_cons (lv 1) (ea_cons (lv 2) ea_nil)) hr) (fun _ => rfl)) ?_
    exact es_nil
  · exact es_ret (lv 1)

theorem getElem?_same {α β : Type} {f : α → β} {l : List α} {j : Nat} {d e : β} (h1 : (l.map f)[j]? = some d) (h2 : (l.map f)[j]? = some e) : d = e := Option.some.inj (h1.symm.trans h2)
theorem map_int {ns : List Int} {j : Nat} {d : D} (h : (ns.map D.int)[j]? = some d) : ∃ n, d = .int n := by
  rw [List.getElem?_map] at h
  cases hn : ns[j]? with
  | none => rw [hn] at h; cases h
  | some n => rw [hn] at h; exact ⟨n, (Option.some.inj h).symm⟩

theorem s_math_max {u : D} {ns : List Int} {q : Int} (hl : ns.length ≤ 100) (h : Chain (fun r n r' => Fd (Gw w mg mb) 4 467 [.int r, .int n] (.int r')) 18442240474082181120 ns q) : Fd (Gw w mg mb) 6 647 [.none, u, .lst (ns.map .int)] (.int q) := by
  refine fnC_intro ok_math_max rfl fun A L h₀ => ?_
  conv => arg 4; whnf
  refine es_ret (cl (gv g_greatest_of) (ea_cons (ev_comp (ds := ns.map .int) (cells := [("vm", some .none)]) (cl := [("vm", L + 1)]) (compOk (by kernel_rfl) (by kernel_rfl) (by kernel_rfl) (by kernel_rfl) (by kernel_rfl) ?_) (lv 1) rfl ?_ ?_ ?_ ?_) ea_nil) (s_greatest_of h))
  · intro p hp
    rw [List.mem_singleton] at hp
    subst hp
    exact ⟨List.Mem.head _, rfl, ⟨_, rfl, rfl⟩, by first | exact .inl (by kernel_rfl) | exact .inr ⟨by kernel_rfl, by kernel_rfl⟩⟩
  · simp only [List.length_map]; walk_at "om"
  · intro d hd
    obtain ⟨n, _, rfl⟩ := List.mem_map.mp hd
    rfl
  · intro d hd
    obtain ⟨n, _, rfl⟩ := List.mem_map.mp hd
    exact .flat _ rfl
  · intro C hs j d e _ _ _ h1 h2
    have := getElem?_same h1 h2
    subst this
    obtain ⟨n, rfl⟩ := map_int h1
    exact (cl (gv g_to_number) (ea_cons (ev_cell 0 rfl (by kernel_rfl)) (ea_cons (lv 0) ea_nil)) s_to_number)
theorem s_math_min {u : D} {ns : List Int} {q : Int} (hl : ns.length ≤ 100) (h : Chain (fun r n r' => Fd (Gw w mg mb) 4 460 [.int r, .int n] (.int r')) 9218868437227405312 ns q) : Fd (Gw w mg mb) 6 652 [.none, u, .lst (ns.map .int)] (.int q) := by
  refine fnC_intro ok_math_min rfl fun A L h₀ => ?_
  conv => arg 4; whnf
  refine es_ret (cl (gv g_least_of) (ea_cons (ev_comp (ds := ns.map .int) (cells := [("vm", some .none)]) (cl := [("vm", L + 1)]) (compOk (by kernel_rfl) (by kernel_rfl) (by kernel_rfl) (by kernel_rfl) (by kernel_rfl) ?_) (lv 1) rfl ?_ ?_ ?_ ?_) ea_nil) (s_least_of h))
  · intro p hp
    rw [List.mem_singleton] at hp
    subst hp
    exact ⟨List.Mem.head _, rfl, ⟨_, rfl, rfl⟩, by first | exact .inl (by kernel_rfl) | exact .inr ⟨by kernel_rfl, by kernel_rfl⟩⟩
  · simp only [List.length_map]; walk_at "om"
  · intro d hd
    obtain ⟨n, _, rfl⟩ := List.mem_map.mp hd
    rfl
  · intro d hd
    obtain ⟨n, _, rfl⟩ := List.mem_map.mp hd
    exact .flat _ rfl
  · intro C hs j d e _ _ _ h1 h2
    have := getElem?_same h1 h2
    subst this
    obtain ⟨n, rfl⟩ := map_int h1
    exact (cl (gv g_to_number) (ea_cons (ev_cell 0 rfl (by kernel_rfl)) (ea_cons (lv 0) ea_nil)) s_to_number)
end
section
/-! ## the last item goes; the list turned round -/
theorem popW (l : Addr) (items : Array Value) (n : Nat) (dd : Option Addr) (sl : Array (Option Value)) (k : Nat) (x : Value) (hk : items.size = k + 1) (hx : items[k]? = some x) (hsz : items.size ≤ sizeLine) :
    Meets (Builtin.«list.pop» ⟨[.ref l], []⟩) (fun _ R s => s.heap.get? l = some { cls := .type "list", dict := dd, data := .seq items n, slots := sl } ∧ R (.ok (.ret x)) { s with heap := s.heap.update l (Obj.mapSeq fun xs => xs.eraseIdxIfInBounds k), toks := s.toks }) :=
  .of_wp fun prog w A R s h => by
    obtain ⟨hp, g, d, tk, os⟩ := s; obtain ⟨hl, h⟩ := h
    have hc1 : ¬ items.isEmpty = true := by rw [Array.isEmpty_iff_size_eq_zero]; walk_at "om"
    have hz' : (items.eraseIdxIfInBounds k).size ≤ sizeLine + 1 := by
      rw [← Array.length_toList, Array.toList_eraseIdxIfInBounds, List.length_eraseIdx, Array.length_toList]; split <;> walk_at "om"
    have hi : ((seqIndex? (-1) items.size).bind fun k => items[k]?.map (k, ·)) = some (k, x) := by
      rw [seqIndex_neg (by decide) (by walk_at "om"), Option.bind_some]
      have e : ((-1 : Int) + items.size).toNat = k := by walk_at "om"
      rw [e, hx]; rfl
    wp_walk using wpAny_loadPart' hl, (wpAny_updateSeq hl rfl (hz := hsz) (_hz' := hz'))
    rw [hi]
    wp_walk using wpAny_loadPart' hl, (wpAny_updateSeq hl rfl (hz := hsz) (_hz' := hz'))
    exact ⟨_, rfl, h⟩

theorem reverseW (l : Addr) (items : Array Value) (n : Nat) (dd : Option Addr) (sl : Array (Option Value)) (hsz : items.size ≤ sizeLine) :
    Meets (Builtin.«list.reverse» ⟨[.ref l], []⟩) (fun _ R s => s.heap.get? l = some { cls := .type "list", dict := dd, data := .seq items n, slots := sl } ∧ R (.ok (.ret Value.none)) { s with heap := s.heap.update l (Obj.mapSeq fun x => x.reverse), toks := s.toks }) :=
  .of_wp fun prog w A R s h => by
    obtain ⟨hp, g, d, tk, os⟩ := s; obtain ⟨hl, h⟩ := h
    have hz' : items.reverse.size ≤ sizeLine + 1 := by rw [Array.size_reverse]; walk_at "om"
    wp_walk using (wpAny_updateSeq hl rfl (hz := hsz) (_hz' := hz')); exact ⟨_, rfl, h⟩

theorem Rvs.rev {h : Heap} {vs ds} (r : Rvs h vs ds) : Rvs h vs.reverse ds.reverse := by
  refine ⟨by simp [r.1], fun i v d e1 e2 => ?_⟩
  have hi : i < vs.length := by have := (List.getElem?_eq_some_iff.mp e1).1; simpa using this
  have hi2 : i < ds.length := by rw [← r.1]; exact hi
  rw [List.getElem?_reverse hi] at e1
  rw [List.getElem?_reverse hi2, ← r.1] at e2
  exact r.2 _ v d e1 e2

theorem Rvs.snoc {h : Heap} {vs ds d} (r : Rvs h vs (ds ++ [d])) : ∃ us v, vs = us ++ [v] ∧ Rvs h us ds ∧ Rv h v d := by
  have hl : vs.length = ds.length + 1 := by have := r.1; simpa using this
  rcases List.eq_nil_or_concat vs with e | ⟨us, v, e⟩
  · rw [e] at hl; simp at hl
  · rw [List.concat_eq_append] at e
    subst e
    have hul : us.length = ds.length := by simpa using hl
    refine ⟨us, v, rfl, ⟨hul, fun i u c e1 e2 => ?_⟩, ?_⟩
    · have hi := (List.getElem?_eq_some_iff.mp e1).1
      refine r.2 i u c ?_ ?_
      · rw [List.getElem?_append_left hi]; exact e1
      · rw [List.getElem?_append_left (by walk_at "om")]; exact e2
    · refine r.2 us.length v d ?_ ?_
      · simp
      · rw [hul]; simp

section
variable {X : Cx} {σ : Lo}

theorem es_pop {x : Str} {px apos cpos pos : Pos} {a : Addr} {l : List D} {d : D} (i : Nat) (hz : l.length ≤ 1000) (hn : X.names[i]? = some x := by rfl) (hd : σ[i]? = some (some (.ref a)) := by rfl)
    (hσ : flatLo σ = true := by rfl) (hc : X.cells = [] := by rfl) (hdb : (x == ("__debug__" : Str)) = false := by kernel_rfl) (hi : interactive X.env = false := by rfl)
    (hs : ∀ env, swapsWith (.Call (.Attribute (.Name x px) "pop" apos) [] [] cpos) none pos.line env = pure false := by intro _; rfl)
    (hm : ∀ env, eval (.Call (.Attribute (.Name x px) "pop" apos) [] [] cpos) env = (do
      let ov ← eval (.Name x px) env
      standAt apos.atName
      let (f, first) ← holding [ov] (getMethod ov "pop" (plO (.Name x px) env))
      callWith cpos f first (backTo cpos (starEach [] env)) []) := by intro _; rfl) :
    E1 X σ [(a, l ++ [d])] (.Expr (.Call (.Attribute (.Name x px) "pop" apos) [] [] cpos) pos) (.next σ [(a, l)]) := by
  refine ⟨fun s Q E S k => ?_⟩
  refine wpAny_Expr_any (MethodCall_ (pl := plO (.Name x px) X.env) ((ev_loc i hn hd hdb).run s _ E S fun v h₁ tk₁ S₁ k₁ r₁ => ?_) (hm _)) hi (hs _)
  cases r₁
  obtain ⟨n1, n2, n3, vs, n, q1, q2⟩ := S₁.own
  refine getMethod_list_of PySem.F.slot_list_pop PySem.F.type_list_pop (LO_isList q1) (LO_noDict q1) ?_
  refine callWith_method0 ?_
  obtain ⟨us, v, rfl, u1, u2⟩ := q2.snoc
  have hul := u1.len
  refine call_meets PySem.F.slot_list_pop ⟨_, q1, rfl⟩ PySem.F.entry_list_pop (PySem.F.args_list_pop_1 _) (popW a _ n _ _ us.length v (by simp) (by simp) (by simp only [List.size_toArray, List.length_append, List.length_singleton, sizeLine_eq]; walk_at "om")) ⟨q1, ?_⟩
  obtain ⟨n', e'⟩ := LO_map (fun y => y.eraseIdxIfInBounds us.length) (us ++ [v]) n
  have ho : (h₁.update a (Obj.mapSeq fun y => y.eraseIdxIfInBounds us.length)).get? a = some (LO us n') := by
    rw [Heap.get?_update_self _ q1 (by rw [e']; rfl), e']
    congr 2
    rw [Array.toList_eraseIdxIfInBounds]
    rw [List.eraseIdx_append_of_length_le (Nat.le_refl _)]
    simp
  obtain ⟨S₃, k₃⟩ := S₁.mut hσ hc (Heap.SameBut.update ..) ho u1 (fun c hcc => n3 c (List.mem_append_left _ hcc))
  exact k _ _ S₃ (k₁.ks.trans k₃)

theorem es_reverse {x : Str} {px apos cpos pos : Pos} {a : Addr} {l : List D} (i : Nat) (hz : l.length ≤ 1000) (hn : X.names[i]? = some x := by rfl) (hd : σ[i]? = some (some (.ref a)) := by rfl)
    (hσ : flatLo σ = true := by rfl) (hc : X.cells = [] := by rfl) (hdb : (x == ("__debug__" : Str)) = false := by kernel_rfl) (hi : interactive X.env = false := by rfl)
    (hs : ∀ env, swapsWith (.Call (.Attribute (.Name x px) "reverse" apos) [] [] cpos) none pos.line env = pure false := by intro _; rfl)
    (hm : ∀ env, eval (.Call (.Attribute (.Name x px) "reverse" apos) [] [] cpos) env = (do
      let ov ← eval (.Name x px) env
      standAt apos.atName
      let (f, first) ← holding [ov] (getMethod ov "reverse" (plO (.Name x px) env))
      callWith cpos f first (backTo cpos (starEach [] env)) []) := by intro _; rfl) :
    E1 X σ [(a, l)] (.Expr (.Call (.Attribute (.Name x px) "reverse" apos) [] [] cpos) pos) (.next σ [(a, l.reverse)]) := by
  refine ⟨fun s Q E S k => ?_⟩
  refine wpAny_Expr_any (MethodCall_ (pl := plO (.Name x px) X.env) ((ev_loc i hn hd hdb).run s _ E S fun v h₁ tk₁ S₁ k₁ r₁ => ?_) (hm _)) hi (hs _)
  cases r₁
  obtain ⟨n1, n2, n3, vs, n, q1, q2⟩ := S₁.own
  refine getMethod_list_of PySem.F.slot_list_reverse PySem.F.type_list_reverse (LO_isList q1) (LO_noDict q1) ?_
  refine callWith_method0 ?_
  refine call_meets PySem.F.slot_list_reverse ⟨_, q1, rfl⟩ PySem.F.entry_list_reverse (PySem.F.args_list_reverse_1 _) (reverseW a _ n _ _ (by simp only [List.size_toArray, q2.len, sizeLine_eq]; walk_at "om")) ⟨q1, ?_⟩
  obtain ⟨n', e'⟩ := LO_map (fun y => y.reverse) vs n
  have ho : (h₁.update a (Obj.mapSeq fun y => y.reverse)).get? a = some (LO vs.reverse n') := by
    rw [Heap.get?_update_self _ q1 (by rw [e']; rfl), e']
    simp
  obtain ⟨S₃, k₃⟩ := S₁.mut hσ hc (Heap.SameBut.update ..) ho q2.rev (fun c hcc => n3 c (List.mem_reverse.mp hcc))
  exact k _ _ S₃ (k₁.ks.trans k₃)

theorem setItem_neg {prog : Program} {w : World} {A : Around} {E : Value → Shared → Prop} {s : Shared} {l : Addr} {o : Obj} {items : Array Value} {ne : Nat} {k : Int} {t : Tok} {v : Value} {Q : Unit → Shared → Prop}
    (ho : s.heap.get? l = some o) (hc : o.cls = .type "list") (hd : o.data = .seq items ne) (h0 : k < 0) (h1 : -(items.size : Int) ≤ k) (hfit : -(2 ^ 63) ≤ k)
    (hQ : Q () { s with heap := s.heap.update l (Obj.mapSeq (·.setIfInBounds (k + items.size).toNat v)) }) :
    wpAny (model prog w) A (setItem (.ref l) (.int k t) v) Q E s := by
  have hl : s.heap.IsList l items := ⟨o, ho, hc, ne, hd⟩
  unfold setItem
  try with_reducible refine wpAny_holding ?_
  first | refine wpAny_bind (wpAny_pure ?_) | skip
  refine wpAny_bind (wpAny_sequenceKey hl.typeIs (by decide) ?_)
  refine wpAny_bind (wpAny_callSpecial?_slot (name := Str.ofString "__setitem__") hl.typeIs slot_list_setitem
    (wpAny_call_entry slot_list_setitem hl.typeIs entry_list_setitem ?_ (args_list_setitem _ _ _)))
  show wpAny _ _ (Builtin.List.listSubscript? (.int k t) >>= _) _ _ s
  refine wpAny_bind (wpAny_listSubscript_int (fitsIndex_neg h0 hfit) ?_)
  clear hfit
  have hidx := seqIndex_neg h0 h1
  obtain ⟨y, hx⟩ : ∃ y, items[(k + items.size).toNat]? = some y := ⟨_, Array.getElem?_eq_getElem (by walk_at "om")⟩
  generalize (k + items.size).toNat = j at hidx hx hQ
  obtain ⟨m, rfl⟩ : ∃ j : Nat, k = Int.negSucc j := by
    cases k with
    | ofNat n => exact absurd h0 (Int.not_lt.mpr (Int.ofNat_nonneg n))
    | negSucc n => exact ⟨n, rfl⟩
  show wpAny _ _ ((Builtin.List.listItems (.ref l) >>= fun xs => pure ((seqIndex? (Int.negSucc m) xs.size).bind fun i => xs[i]?.map (i, ·))) >>= _) _ _ s
  refine wpAny_bind (wpAny_bind ?_)
  show wpAny _ _ (seqItems? (.ref l) >>= _) _ _ s
  refine wpAny_bind (wpAny_seqItems ho hd (wpAny_pure (wpAny_pure ?_)))
  rw [hidx]
  simp only [Option.bind_some, hx, Option.map_some]
  show wpAny _ _ (setSeqItemAt l j v >>= _) _ _ s
  refine wpAny_bind (wpAny_setSeqItemAt ho hd ?_)
  first
    | exact wpAny_bind (wpAny_pure (wpAny_pure ⟨.none, rfl, wpAny_pure hQ⟩))
    | exact wpAny_pure ⟨.none, rfl, wpAny_pure hQ⟩

theorem lastIx {us : List Value} {z : Value} : ((-1 : Int) + ((us ++ [z]).toArray.size : Int)).toNat = us.length := by
  rw [List.size_toArray, List.length_append, List.length_singleton]; walk_at "om"
theorem lastLe {us : List Value} {z : Value} : -((us ++ [z]).toArray.size : Int) ≤ -1 := by
  rw [List.size_toArray, List.length_append, List.length_singleton]; walk_at "om"

/-- the last item, more by a number -/
theorem es_augLast {x : Str} {px pos pos' : Pos} {i e : Expr} {a : Addr} {l : List D} {v c : Int} (j : Nat) (hi : ∀ μ, EE X σ μ i (.int (-1))) (he : ∀ μ, EE X σ μ e (.int c)) (hz : l.length ≤ 1000) (hn : X.names[j]? = some x := by rfl) (hd : σ[j]? = some (some (.ref a)) := by rfl)
    (hσ : flatLo σ = true := by rfl) (hc : X.cells = [] := by rfl) (hdb : (x == ("__debug__" : Str)) = false := by kernel_rfl)
    (ha : ∀ ov iv new, augStore i ov iv new = (do holding [new, ov, iv] (setItem ov iv new); release [new, ov, iv] []; pure .next) := by intro _ _ _; rfl) :
    E1 X σ [(a, l ++ [.int v])] (.AugAssign (.Subscript (.Name x px) i pos') .Add e pos) (.next σ [(a, l ++ [.int (v + c)])]) := by
  refine ⟨fun s Q E S k => ?_⟩
  refine wpAny_AugAssign_Subscript_any ((ev_loc j hn hd hdb).run s _ E S fun u h₁ tk₁ S₁ k₁ r₁ => (hi _).run _ _ E S₁ fun iv h₂ tk₂ S₂ k₂ r₂ => ?_) ha
  cases r₁
  obtain ⟨t, rfl⟩ := r₂.int_inv
  obtain ⟨n1, n2, n3, vs, n, q1, q2⟩ := S₂.own
  obtain ⟨us, z, rfl, u1, u2⟩ := q2.snoc
  obtain ⟨tz, rfl⟩ := u2.int_inv
  have hul := u1.len
  refine wpAny_getItem_list_neg (x := .int v tz) (LO_isList q1) (by decide) lastLe (by decide) (by rw [lastIx]; simp) ?_
  refine (he _).run _ _ E S₂ fun cv h₃ tk₃ S₃ k₃ r₃ => ?_
  obtain ⟨tc, rfl⟩ := r₃.int_inv
  refine iadd_int ?_
  obtain ⟨m1, m2, m3, ws, n', p1, p2⟩ := S₃.own
  obtain ⟨us', z', rfl, u1', u2'⟩ := p2.snoc
  have hul' := u1'.len
  refine setItem_neg (s := { s with heap := h₃, toks := tk₃ + 1 }) p1 rfl rfl (by decide) lastLe (by decide) ?_
  rw [lastIx]
  obtain ⟨n2', e'⟩ := LO_map (fun y => y.setIfInBounds us'.length (.int (v + c) tk₃)) (us' ++ [z']) n'
  have ho : (h₃.update a (Obj.mapSeq fun y => y.setIfInBounds us'.length (.int (v + c) tk₃))).get? a = some (LO (us' ++ [.int (v + c) tk₃]) n2') := by
    rw [Heap.get?_update_self _ p1 (by rw [e']; rfl), e']
    simp
  obtain ⟨S₄, k₄⟩ := S₃.mut hσ hc (Heap.SameBut.update ..) ho (u1'.app (.int (v + c) tk₃)) (fun c' hcc => by
    rcases List.mem_append.mp hcc with q | q
    · exact m3 c' (List.mem_append_left _ q)
    · rw [List.mem_singleton] at q; subst q; rfl)
  exact k _ _ S₄ (((k₁.trans k₂).trans k₃).ks.trans k₄)

variable {μ : Mu}
theorem ev_itemLast {e i : Expr} {p : Pos} {l : List D} {d : D} (h : EE X σ μ e (.lst (l ++ [d]))) (hi : EE X σ μ i (.int (-1))) (hn : notSlice i = true := by rfl) : EE X σ μ (.Subscript e i p) d := by
  refine ⟨fun s Q E S kk => ?_⟩
  refine Subscript_ (h.run s _ E S fun v h₁ tk₁ S₁ k₁ r₁ => hi.run _ _ E S₁ fun u h₂ tk₂ S₂ k₂ r₂ => ?_)
  obtain ⟨a, vs, rfl, ht, rs⟩ := (r₁.kq (S₁.kq k₂)).lst_inv
  obtain ⟨t, rfl⟩ := r₂.int_inv
  obtain ⟨us, z, rfl, u1, u2⟩ := rs.snoc
  refine tail_any ht.typeIs slot_list_getitem.lookup (wpAny_getItem_list_neg (x := z) ht (by decide) lastLe (by decide) (by rw [lastIx]; simp) ?_) (sub_plain hn _ _)
  exact kk _ _ _ S₂ (k₁.trans k₂) u2

/-! ## texts joined -/
theorem Rvs.strs {h : Heap} : ∀ {vs : List Value} {ys : List Str}, Rvs h vs (ys.map .str) → StrsAre vs ys
  | [], [], _ => .nil
  | [], _ :: _, r => by have := r.1; simp at this
  | _ :: _, [], r => by have := r.1; simp at this
  | v :: vs, y :: ys, r => by
    obtain ⟨t, rfl⟩ := r.head.str_inv
    exact .cons y t (Rvs.strs r.tail)

theorem ev_join {o e : Expr} {apos cpos : Pos} {sep : Str} {ys : List Str} (ho : EE X σ μ o (.str sep)) (h : EE X σ μ e (.lst (ys.map .str))) (hz : (ys.map (·.length)).sum + ys.length * sep.length ≤ 16777216)
    (hm : ∀ env, eval (.Call (.Attribute o "join" apos) [e] [] cpos) env = (do
      let ov ← eval o env
      standAt apos.atName
      let (f, first) ← holding [ov] (getMethod ov "join" (plO o env))
      callWith cpos f first (backTo cpos (starEach [e] env)) []) := by intro _; rfl) (he : notStar e = true := by rfl) :
    EE X σ μ (.Call (.Attribute o "join" apos) [e] [] cpos) (.str (Txt.join sep ys)) := by
  refine ⟨fun s Q E S k => ?_⟩
  refine MethodCall_ (pl := plO o X.env) (ho.run s _ E S fun v h₁ tk₁ S₁ k₁ r₁ => ?_) (hm _)
  obtain ⟨t, rfl⟩ := r₁.str_inv
  refine GM.join ?_
  refine callWith_method1 (args_cons (h.run _ _ E S₁ fun u h₂ tk₂ S₂ k₂ r₂ => args_nil ?_) (star_plain he)) (star_plain he) rfl
  obtain ⟨a, vs, rfl, hl, rs⟩ := r₂.lst_inv
  refine join_list hl (by simpa using rs.strs) hz fun t' tk' => ?_
  exact k _ _ _ S₂ (k₁.trans k₂) (.str ..)
end
end
section
open PySem.SeqAt

/-! ## the same data are equal -/
/-- data that may be compared, n deep -/
inductive Eqd : Nat → D → Prop
  | int (n : Nat) (i : Int) : Eqd n (.int i)
  | str (n : Nat) (x : Str) : Eqd n (.str x)
  | tup (n : Nat) (l : List D) (h : ∀ d ∈ l, Eqd n d) : Eqd (n + 1) (.tup l)
  | lst (n : Nat) (l : List D) (h : ∀ d ∈ l, Eqd n d) : Eqd (n + 1) (.lst l)

theorem all_true {n : Nat} : (List.range n).all (fun _ => true) = true := List.all_eq_true.mpr fun _ _ => rfl

theorem eqAt_same {n : Nat} {d : D} (hd : Eqd n d) : ∀ {A : Around} {s : Shared} {v w : Value}, A.units + n < cLine → Rv s.heap v d → Rv s.heap w d → EqAt A s v w true := by
  induction hd with
  | int n i =>
    intro A s v w _ r1 r2
    obtain ⟨t, rfl⟩ := r1.int_inv; obtain ⟨u, rfl⟩ := r2.int_inv
    have := EqAt.int_int (A := A) (s := s) i t i u
    rwa [beq_self_eq_true] at this
  | str n x =>
    intro A s v w _ r1 r2
    obtain ⟨t, rfl⟩ := r1.str_inv; obtain ⟨u, rfl⟩ := r2.str_inv
    have := EqAt.str_str (A := A) (s := s) x t x u
    rwa [beq_self_eq_true] at this
  | tup n l h ih =>
    intro A s v w hu r1 r2
    obtain ⟨a, vs, rfl, h1, q1⟩ := r1.tup_inv
    obtain ⟨b, ws, rfl, h2, q2⟩ := r2.tup_inv
    by_cases hab : a = b
    · subst hab; exact EqAt.same _
    refine EqAt.of_refs hab ?_
    have e := RcAt.tuples (A := A) (e := fun _ => true) h1 h2 (by walk_at "om") fun j j1 j2 => ?_
    · rw [all_true] at e
      have e2 : (vs.toArray.size == ws.toArray.size) = true := by rw [List.size_toArray, List.size_toArray, q1.len, q2.len]; exact beq_self_eq_true _
      rw [e2] at e
      exact e
    · have j1' : j < vs.length := by simpa using j1
      have j2' : j < ws.length := by simpa using j2
      have jl : j < l.length := by rw [← q1.len]; exact j1'
      have m1 := q1.2 j vs[j] l[j] (List.getElem?_eq_getElem j1') (List.getElem?_eq_getElem jl)
      have m2 := q2.2 j ws[j] l[j] (List.getElem?_eq_getElem j2') (List.getElem?_eq_getElem jl)
      have := ih l[j] (List.getElem_mem jl) (A := A.in1) (s := s) (by show A.units + 1 + n < _; walk_at "om") m1 m2
      simpa using this
  | lst n l h ih =>
    intro A s v w hu r1 r2
    obtain ⟨a, vs, rfl, h1, q1⟩ := r1.lst_inv
    obtain ⟨b, ws, rfl, h2, q2⟩ := r2.lst_inv
    by_cases hab : a = b
    · subst hab; exact EqAt.same _
    refine EqAt.of_refs hab ?_
    have e := RcAt.lists (A := A) (e := fun _ => true) h1 h2 (by rw [List.size_toArray, List.size_toArray, q1.len, q2.len]) (by walk_at "om") fun j j1 j2 => ?_
    · rw [all_true] at e
      exact e
    · have j1' : j < vs.length := by simpa using j1
      have j2' : j < ws.length := by simpa using j2
      have jl : j < l.length := by rw [← q1.len]; exact j1'
      have m1 := q1.2 j vs[j] l[j] (List.getElem?_eq_getElem j1') (List.getElem?_eq_getElem jl)
      have m2 := q2.2 j ws[j] l[j] (List.getElem?_eq_getElem j2') (List.getElem?_eq_getElem jl)
      have := ih l[j] (List.getElem_mem jl) (A := A.in1) (s := s) (by show A.units + 1 + n < _; walk_at "om") m1 m2
      simpa using this

section
variable {G : Gx}
theorem cmp_eqS {x y : Str} : Cmp G .Eq (.str x) (.str y) (x == y) := by
  constructor; intro A s Q E v w _ _ hu r1 r2 k
  obtain ⟨t, rfl⟩ := r1.str_inv; obtain ⟨u, rfl⟩ := r2.str_inv
  refine PyProof.Rows.eq_str ?_
  exact k
theorem cmp_neS {x : Str} : Cmp G .NotEq (.str x) (.str x) false := by
  constructor; intro A s Q E v w _ _ hu r1 r2 k
  obtain ⟨t, rfl⟩ := r1.str_inv; obtain ⟨u, rfl⟩ := r2.str_inv
  refine PyProof.Rows.ne_str ?_
  simpa using k
theorem cmp_eqL {l : List D} (h : ∀ d ∈ l, Eqd 4 d) : Cmp G .Eq (.lst l) (.lst l) true := by
  constructor; intro A s Q E v w _ _ hu r1 r2 k
  obtain ⟨a, vs, rfl, h1, q1⟩ := r1.lst_inv
  obtain ⟨b, ws, rfl, h2, q2⟩ := r2.lst_inv
  refine eq_listAt (e := fun _ => true) h1 h2 (by rw [List.size_toArray, List.size_toArray, q1.len, q2.len]) (by walk_at "om") (fun j j1 j2 => ?_) (by rw [all_true]; exact k)
  have j1' : j < vs.length := by simpa using j1
  have j2' : j < ws.length := by simpa using j2
  have jl : j < l.length := by rw [← q1.len]; exact j1'
  have m1 := q1.2 j vs[j] l[j] (List.getElem?_eq_getElem j1') (List.getElem?_eq_getElem jl)
  have m2 := q2.2 j ws[j] l[j] (List.getElem?_eq_getElem j2') (List.getElem?_eq_getElem jl)
  have := eqAt_same (h l[j] (List.getElem_mem jl)) (A := A.in1) (s := s) (by show A.units + 1 + 4 < _; walk_at "om") m1 m2
  simpa using this
/-- is a list empty? -/
theorem cmp_eqL0 {l : List D} : Cmp G .Eq (.lst l) (.lst []) l.isEmpty := by
  cases l with
  | nil => exact cmp_eqL (fun d hd => by cases hd)
  | cons d l =>
    constructor; intro A s Q E v w _ _ hu r1 r2 k
    obtain ⟨a, vs, rfl, h1, q1⟩ := r1.lst_inv
    obtain ⟨b, ws, rfl, h2, q2⟩ := r2.lst_inv
    have l1 := q1.len
    have l2 := q2.len
    refine eq_list_lengthsAt h1 h2 ?_ (by walk_at "om") k
    simp only [List.size_toArray, l1, l2, List.length_cons, List.length_nil]
    rfl

theorem tupNe (l b : Addr) (items items2 : Array Value) (n n2 : Nat) (dd dd2 : Option Addr) (sl sl2 : Array (Option Value)) (hsz : items.size = items2.size) :
    Meets (Builtin.«tuple.__ne__» ⟨[.ref l, .ref b], []⟩)
      (fun A R s => s.heap.get? l = some { cls := .type "tuple", dict := dd, data := .seq items n, slots := sl } ∧ s.heap.get? b = some { cls := .type "tuple", dict := dd2, data := .seq items2 n2, slots := sl2 } ∧
        (∀ j (h1 : j < items.size) (h2 : j < items2.size), EqAt A.in1 s items[j] items2[j] true) ∧
        R (.ok (.ret (.bool false))) s) :=
  .of_wp fun prog w A R s h => by
    obtain ⟨hp, g, d, tk, os⟩ := s; obtain ⟨hl, hb, he, h⟩ := h
    have f2 := AutoSeq1.sub_tuple_tuple
    have hZ : (items.toList.zip items2.toList).length = min items.size items2.size := by simp
    wp_walk using wpAny_loadPart' hl, wpAny_loadPart' hb, wpAny_forIn_list _ (fun rest b s' => b.1 = none ∧ s' = ⟨hp, g, d, tk, os⟩ ∧ ∃ i, rest = (items.toList.zip items2.toList).drop i) _
    case turn =>
      rintro ⟨y, x⟩ rest b s' ⟨hb', rfl, i, hz⟩
      have hlt : i < (items.toList.zip items2.toList).length := by
        rcases Nat.lt_or_ge i (items.toList.zip items2.toList).length with h' | h'
        · exact h'
        · rw [List.drop_of_length_le h'] at hz; cases hz
      have hm : i < min items.size items2.size := hZ ▸ hlt
      have h1 : i < items.size := Nat.lt_of_lt_of_le hm (Nat.min_le_left _ _)
      have h2 : i < items2.size := Nat.lt_of_lt_of_le hm (Nat.min_le_right _ _)
      rw [List.drop_eq_getElem_cons hlt] at hz
      injection hz with hyx hrest
      have hy : y = items[i] := by have := congrArg Prod.fst hyx; simpa using this
      have hx : x = items2[i] := by have := congrArg Prod.snd hyx; simpa using this
      subst hy hx
      refine wpAny_bind (he i h1 h2 prog w _ _ ?_)
      wp_walk
      exact ⟨rfl, rfl, i + 1, hrest⟩
    case fin =>
      rintro ⟨b1, b2⟩ s' ⟨hb', rfl, i, hz⟩
      simp only at hb'
      subst hb'
      wp_walk
      exact ⟨_, rfl, by simpa [Builtin.Tuple.tupleCompareSizes, hsz] using h⟩
    case h =>
      exact ⟨rfl, rfl, 0, rfl⟩

theorem cmp_neT {l : List D} (h : ∀ d ∈ l, Eqd 4 d) : Cmp G .NotEq (.tup l) (.tup l) false := by
  constructor; intro A s Q E v w _ _ hu r1 r2 k
  obtain ⟨a, vs, rfl, h1, q1⟩ := r1.tup_inv
  obtain ⟨b, ws, rfl, h2, q2⟩ := r2.tup_inv
  obtain ⟨⟨cls, dd, data, sl⟩, ho, hc, n, hd⟩ := id h1
  obtain ⟨⟨cls2, dd2, data2, sl2⟩, ho2, hc2, n2, hd2⟩ := id h2
  simp only at hc hd hc2 hd2
  subst hc hd hc2 hd2
  refine richCompare_meets_room (op := .NotEq) ⟨_, ho, rfl⟩ ⟨_, ho2, rfl⟩ PySem.F.slot_tuple_ne PySem.F.entry_tuple_ne (PySem.F.args_tuple_ne_2 _ _) (tupNe a b vs.toArray ws.toArray n n2 dd dd2 sl sl2 (by rw [List.size_toArray, List.size_toArray, q1.len, q2.len]))
    ⟨ho, ho2, fun j j1 j2 => ?_, show Value.bool false ≠ Value.notImplemented ∧ Q (.bool false) s from ⟨(fun x => nomatch x), k⟩⟩ (by walk_at "om")
  have j1' : j < vs.length := by simpa using j1
  have j2' : j < ws.length := by simpa using j2
  have jl : j < l.length := by rw [← q1.len]; exact j1'
  have m1 := q1.2 j vs[j] l[j] (List.getElem?_eq_getElem j1') (List.getElem?_eq_getElem jl)
  have m2 := q2.2 j ws[j] l[j] (List.getElem?_eq_getElem j2') (List.getElem?_eq_getElem jl)
  have := eqAt_same (h l[j] (List.getElem_mem jl)) (A := A.in1) (s := s) (by show A.units + 1 + 4 < _; walk_at "om") m1 m2
  simpa using this

/-- an int among ints -/
theorem cmp_in {b : Int} {ns : List Int} : Cmp G .In (.int b) (.tup (ns.map .int)) (ns.any (· == b)) := by
  constructor; intro A s Q E v w _ _ hu r1 r2 k
  obtain ⟨t, rfl⟩ := r1.int_inv
  obtain ⟨a, vs, rfl, h1, q1⟩ := r2.tup_inv
  refine in_tupleAt (fun y => match y with | .int i _ => i == b | _ => false) h1 (fun y hy => ?_) ?_
  · have hy' : y ∈ vs := by simpa using hy
    obtain ⟨j, hj⟩ := List.mem_iff_getElem?.mp hy'
    have hl : j < ns.length := by have := (List.getElem?_eq_some_iff.mp hj).1; have := q1.len; rw [List.length_map] at this; walk_at "om"
    have m := q1.2 j y (.int ns[j]) hj (by rw [List.getElem?_map, List.getElem?_eq_getElem hl]; rfl)
    obtain ⟨u, rfl⟩ := m.int_inv
    exact EqAt.int_int _ _ _ _
  · have e : (vs.toArray.any fun y => match y with | .int i _ => i == b | _ => false) = ns.any (· == b) := by
      rw [List.any_toArray]
      clear k h1 r2
      induction vs generalizing ns with
      | nil =>
        cases ns with
        | nil => rfl
        | cons _ _ => have := q1.len; simp at this
      | cons v vs ih =>
        cases ns with
        | nil => have := q1.len; simp at this
        | cons n ns =>
          obtain ⟨u, rfl⟩ := q1.head.int_inv
          rw [List.any_cons, List.any_cons, ih q1.tail]
    rw [e]; exact k
end
end
section
/-! ## a list of one, many times -/
theorem mulW (l : Addr) (items : Array Value) (n : Nat) (dd : Option Addr) (sl : Array (Option Value)) (x : Int) (u : Tok) (hc0 : ¬(!Builtin.List.listFitsIndex x) = true) (hc1 : ¬items.size * x.toNat > (2 ^ 63 - 1) / 8) (hc2 : ¬Builtin.List.listTooLong (items.size * x.toNat) = true) :
    Meets (Builtin.«list.__mul__» ⟨[.ref l, .int x u], []⟩) (fun _ R s => s.heap.get? l = some { cls := .type "list", dict := dd, data := .seq items n, slots := sl } ∧ R (.ok (.ret (Value.ref s.heap.objs.size))) { s with heap := s.heap.push { cls := Value.type "list", data := Data.seq (List.foldl (fun x1 x2 => x1 ++ x2) #[] (List.replicate (if items.isEmpty = true then 0 else x.toNat) items)) }, toks := s.toks }) :=
  .of_wp fun prog w A R s h => by
    obtain ⟨hp, g, d, tk, os⟩ := s; obtain ⟨hl, h⟩ := h
    have hsz := AutoListH.joined_fits hc2
    wp_walk using wpAny_loadPart' hl; refine wpAny_ite_false (decide_eq_false (Nat.not_lt.mpr hsz)) ?_; wp_walk; exact ⟨_, rfl, h⟩
theorem rmulW (a : Int) (t : Tok) (l : Addr) (items : Array Value) (n : Nat) (dd : Option Addr) (sl : Array (Option Value)) :
    Meets (Builtin.«int.__rmul__» ⟨[.int a t, .ref l], []⟩) (fun _ R s => s.heap.get? l = some { cls := .type "list", dict := dd, data := .seq items n, slots := sl } ∧ R (.ok (.ret Value.notImplemented)) s) :=
  .of_wp fun prog w A R s h => by obtain ⟨hp, g, d, tk, os⟩ := s; obtain ⟨hl, h⟩ := h; wp_walk using wpAny_loadPart' hl; exact ⟨_, rfl, h⟩

theorem foldl_one {v : Value} : ∀ (k : Nat) (acc : Array Value), (List.foldl (fun x1 x2 => x1 ++ x2) acc (List.replicate k #[v])).toList = acc.toList ++ List.replicate k v
  | 0, acc => by simp
  | k + 1, acc => by rw [List.replicate_succ, List.foldl_cons, foldl_one k]; simp [List.replicate_succ]

theorem Rvs.rep {h : Heap} {v : Value} {d : D} (r : Rv h v d) (k : Nat) : Rvs h (List.replicate k v) (List.replicate k d) := by
  refine ⟨by simp, fun i u c e1 e2 => ?_⟩
  have h1 := List.eq_of_mem_replicate (List.mem_of_getElem? e1)
  have h2 := List.eq_of_mem_replicate (List.mem_of_getElem? e2)
  subst h1 h2
  exact r

theorem mul4W (l : Addr) (v : Value) (n : Nat) (dd : Option Addr) (sl : Array (Option Value)) (u : Tok) :
    Meets (Builtin.«list.__mul__» ⟨[.ref l, .int 4 u], []⟩) (fun _ R s => s.heap.get? l = some { cls := .type "list", dict := dd, data := .seq #[v] n, slots := sl } ∧ R (.ok (.ret (Value.ref s.heap.objs.size))) { s with heap := s.heap.push { cls := Value.type "list", data := Data.seq #[v, v, v, v] }, toks := s.toks }) := by
  have h := mulW l #[v] n dd sl 4 u (by decide) (show ¬ 1 * Int.toNat 4 > (2 ^ 63 - 1) / 8 by decide) (show ¬ Builtin.List.listTooLong (1 * Int.toNat 4) = true by decide)
  exact h

theorem bin_mulL {G : Gx} {d : D} : Bin G .Mult (.lst [d]) (.int 4) (.lst [d, d, d, d]) := by
  constructor
  intro A s Q E v w _ _ _ _ r1 r2 q
  obtain ⟨a, vs, rfl, hl, q1⟩ := r1.lst_inv
  obtain ⟨u, rfl⟩ := r2.int_inv
  obtain ⟨v, rfl, rv⟩ := q1.inv1
  obtain ⟨⟨cls, dd, data, sl⟩, ho, hc, n, hd⟩ := id hl
  simp only at hc hd
  subst hc hd
  refine wpAny_binaryOp_repeat_ref (T := "list") (U := "int") (by decide) ⟨_, ho, rfl⟩ (fun s' => typeIs_int s' 4 u) noFill_list_mul F.fills_int_mul F.slot_int_rmul repeat_list F.slot_int_index.lookup
    (call_meets F.slot_int_rmul (typeIs_int s 4 u) F.entry_int_rmul (F.args_int_rmul_2 _ _) (rmulW 4 u a _ n dd sl)
      ⟨ho, rfl, ⟨_, ho, rfl⟩, call_meets F.slot_list_mul ⟨_, ho, rfl⟩ F.entry_list_mul (F.args_list_mul_2 _ _) (mul4W a v n dd sl u) ⟨ho, ?_⟩⟩)
  exact q _ _ _ (Sub.push _) ((Rvs.rep rv 4).lst)

/-! ## the greatest, the least of a list -/
theorem Rvs.ints {h : Heap} : ∀ {vs : List Value} {ns : List Int}, Rvs h vs (ns.map .int) → IntsAre vs ns
  | [], [], _ => .nil
  | [], _ :: _, r => by have := r.1; simp at this
  | _ :: _, [], r => by have := r.1; simp at this
  | v :: vs, y :: ys, r => by
    obtain ⟨t, rfl⟩ := r.head.int_inv
    exact .cons y t (Rvs.ints r.tail)

theorem bi_maxL {G : Gx} {ns : List Int} {M : Int} (hne : 0 < ns.length) (hM : ∀ m ∈ ns, (∀ a ∈ ns, a ≤ m) → m = M) : Bi G (.builtin "max") [.lst (ns.map .int)] (.int M) := by
  refine ⟨fun A s Q E vs hh _ _ _ r k => ?_⟩
  obtain ⟨v, rfl, r1⟩ := r.inv1
  obtain ⟨a, us, rfl, hl, rs⟩ := r1.lst_inv
  have hi := rs.ints
  obtain ⟨xs, e⟩ := hi.allInts.items
  have hns : ns = xs.toList.map (·.1) := by
    rw [← hi.numsOf, ← nums_intItems, ← e]
  have hsz : 0 < xs.size := by
    have h3 := hne; rw [hns, List.length_map, Array.length_toList] at h3; exact h3
  rw [e] at hl
  refine max_intList hh hl hsz fun v h' tk hv hk => ?_
  obtain ⟨t, rfl⟩ := intItems_at hv
  obtain ⟨h1, h2⟩ := argBest_lt (numAt xs) (xs.size - 1)
  obtain ⟨g1, g2⟩ := argBest_gt (numAt xs) (xs.size - 1)
  have key := hM (numAt xs (argBest (fun i j => decide (numAt xs i > numAt xs j)) (xs.size - 1))) (by
    rw [hns, numAt_eq]; exact getD_mem (by rw [List.length_map, Array.length_toList]; walk_at "om")) (fun a ha => by
    rw [hns] at ha
    obtain ⟨j, hj, rfl⟩ := mem_getD ha
    rw [List.length_map, Array.length_toList] at hj
    rw [← numAt_eq]; exact g2 j (by walk_at "om"))
  rw [← key] at k
  exact k _ _ _ hk (.int ..)
theorem bi_minL {G : Gx} {ns : List Int} {M : Int} (hne : 0 < ns.length) (hM : ∀ m ∈ ns, (∀ a ∈ ns, m ≤ a) → m = M) : Bi G (.builtin "min") [.lst (ns.map .int)] (.int M) := by
  refine ⟨fun A s Q E vs hh _ _ _ r k => ?_⟩
  obtain ⟨v, rfl, r1⟩ := r.inv1
  obtain ⟨a, us, rfl, hl, rs⟩ := r1.lst_inv
  have hi := rs.ints
  obtain ⟨xs, e⟩ := hi.allInts.items
  have hns : ns = xs.toList.map (·.1) := by
    rw [← hi.numsOf, ← nums_intItems, ← e]
  have hsz : 0 < xs.size := by
    have h3 := hne; rw [hns, List.length_map, Array.length_toList] at h3; exact h3
  rw [e] at hl
  refine min_intList hh hl hsz fun v h' tk hv hk => ?_
  obtain ⟨t, rfl⟩ := intItems_at hv
  obtain ⟨g1, g2⟩ := argBest_lt (numAt xs) (xs.size - 1)
  have key := hM (numAt xs (argBest (fun i j => decide (numAt xs i < numAt xs j)) (xs.size - 1))) (by
    rw [hns, numAt_eq]; exact getD_mem (by rw [List.length_map, Array.length_toList]; walk_at "om")) (fun a ha => by
    rw [hns] at ha
    obtain ⟨j, hj, rfl⟩ := mem_getD ha
    rw [List.length_map, Array.length_toList] at hj
    rw [← numAt_eq]; exact g2 j (by walk_at "om"))
  rw [← key] at k
  exact k _ _ _ hk (.int ..)

/-! ## for, over a range -/
noncomputable def RIt (sl : Array (Option Value)) (x left : Int) : Obj := { cls := .type "range_iterator", dict := none, data := .fields #[rawInt x, rawInt left, rawInt 1], slots := sl }
theorem rangeNextW (it : Addr) (x left : Int) (sl : Array (Option Value)) (hc0 : ¬left ≤ 0) :
    Meets (Builtin.«range_iterator.__next__» ⟨[.ref it], []⟩) (fun _ R s => s.heap.get? it = some { cls := .type "range_iterator", dict := none, data := .fields #[rawInt x, rawInt left, rawInt 1], slots := sl } ∧ R (.ok (.ret (Value.int x s.toks))) { s with heap := (s.heap.update it (Obj.mapFields fun x_1 => x_1.setIfInBounds 0 (rawInt (x + 1)))).update it (Obj.mapFields fun x => x.setIfInBounds 1 (rawInt (left - 1))), toks := s.toks + 1 }) :=
  .of_wp fun prog w A R s h => by obtain ⟨hp, g, d, tk, os⟩ := s; obtain ⟨hl, h⟩ := h; wp_walk; exact ⟨_, rfl, h⟩
section
variable {prog : Program} {w : World} {A : Around} {E : Value → Shared → Prop} {s : Shared}
theorem range_item {it : Addr} {sl : Array (Option Value)} {x left : Int} {Q : Option Value → Shared → Prop} (hit : s.heap.get? it = some (RIt sl x left)) (hleft : 0 < left)
    (hQ : ∀ h', h'.get? it = some (RIt sl (x + 1) (left - 1)) → Heap.SameBut it s.heap h' → Q (some (.int x s.toks)) { s with heap := h', toks := s.toks + 1 }) :
    wpAny (model prog w) A (pyNext (.ref it)) Q E s := by
  have hT : s.TypeIs (.ref it) "range_iterator" := ⟨_, hit, rfl⟩
  unfold pyNext
  refine wpAny_bind (wpAny_attempt (wpAny_callSpecial?_slot (name := Str.ofString "__next__") hT F.slot_range_iterator_next
    (call_meets F.slot_range_iterator_next hT F.entry_range_iterator_next (F.args_range_iterator_next_1 _) (rangeNextW it x left sl (by walk_at "om")) ⟨hit, ?_⟩)))
  exact wpAny_pure (hQ _ (Heap.get?_update_self _ (Heap.get?_update_self _ hit rfl) rfl) ((Heap.SameBut.update ..).trans (Heap.SameBut.update ..)))
theorem range_end {it : Addr} {sl : Array (Option Value)} {x left : Int} {Q : Option Value → Shared → Prop} (hh : A.handled = none) (hit : s.heap.get? it = some (RIt sl x left)) (hleft : left ≤ 0)
    (hQ : ∀ h', Heap.ExtBut it s.heap h' → Q none { s with heap := h' }) : wpAny (model prog w) A (pyNext (.ref it)) Q E s := by
  have hT : s.TypeIs (.ref it) "range_iterator" := ⟨_, hit, rfl⟩
  unfold pyNext
  refine wpAny_bind (wpAny_attempt (wpAny_callSpecial?_slot (name := Str.ofString "__next__") hT F.slot_range_iterator_next
    (wpAny_call_entry F.slot_range_iterator_next hT F.entry_range_iterator_next ?_ (F.args_range_iterator_next_1 _))))
  show wpAny _ _ (field (.ref it) 0 >>= _) _ _ s
  refine wpAny_bind (wpAny_field hit rfl (x := rawInt x) rfl ?_)
  show wpAny _ _ (field (.ref it) 1 >>= _) _ _ s
  refine wpAny_bind (wpAny_field hit rfl (x := rawInt left) rfl ?_)
  show wpAny _ _ (field (.ref it) 2 >>= _) _ _ s
  refine wpAny_bind (wpAny_field hit rfl (x := rawInt 1) rfl ?_)
  show wpAny _ _ (if left ≤ 0 then _ else _) _ _ s
  rw [if_pos hleft]
  refine wpAny_bind (wpAny_rule ?_)
  refine wpAny_bind ?_
  show wpAny _ _ (newExc (.type "StopIteration") [] >>= _) _ _ _
  refine wpAny_bind ?_
  simp only [newExc, newTuple]
  refine wpAny_bind (wpAny_newObj_type ?_ (by size_fits))
  refine wpAny_bind (m := firstArgMember _ _) (wpAny_of_eq (a := Value.none) (by first | rfl | (simp only [firstArgMember]; rfl)) ?_)
  refine wpAny_newObj_type ?_ (by size_fits)
  simp only [raiseNew]
  refine wpAny_bind (wpAny_handled ?_)
  first | rw [show A.in1.handled = none from hh] | rw [hh]
  refine wpAny_bind (wpAny_pure (wpAny_throw ?_))
  refine wpAny_bind (wpAny_isInstance (T := "StopIteration") (b := true) ⟨_, Heap.get?_push_size _ rfl, rfl⟩ isSubtype_stop ?_)
  exact wpAny_pure (hQ _ (((Heap.ExtBut.refl it s.heap).push _).push _))
end

section
variable {X : Cx} {σ : Lo}
theorem ef_range {x : Str} {px : Pos} {it : Addr} {b : List Stmt} (i n : Nat) (hn : X.names[i]? = some x) (hL : it ≠ X.L) (h0 : X.hs.get? it = none) :
    ∀ (f j : Nat) (σ : Lo) (o : Out) (s : Shared) (R : Result → Shared → Prop), j + f = n → FC X i b ((List.range' j f).map fun k => .int (k : Nat)) σ o → St X σ [] s.heap → (∃ sl, s.heap.get? it = some (RIt sl j ((n : Int) - j))) →
      PostI X it s (fun f s' => R (.ok f) s') o → codeAny X.g.M X.A (.forLoop (.Name x px) (.ref it) b [] X.env) R s := by
  intro f
  induction f with
  | zero =>
    intro j σ o s R hj hc S hi p
    obtain ⟨sl, hi⟩ := hi
    cases hc
    refine ef_step (range_end S.ok.ah hi (by walk_at "om") fun h₁ k₁ => ?_)
    exact p _ _ (S.but hL h0 ⟨_, hi, _, rfl⟩ k₁) fun b o hb hi e => ⟨o.slots, k₁ b o hi e⟩
  | succ f ih =>
    intro j σ o s R hj hc S hi p
    obtain ⟨sl, hi⟩ := hi
    rw [List.range'_succ, List.map_cons] at hc
    refine ef_step (range_item hi (by walk_at "om") fun h₁ i₁ k₁ => ?_)
    replace k₁ := k₁.extBut
    have S₁ := S.but hL h0 ⟨_, hi, _, rfl⟩ k₁
    refine store_ (s := { s with heap := h₁, toks := s.toks + 1 }) i hn S₁ (.int ..) fun h₂ tk₂ S₂ k₂ => ?_
    have keepI : ∀ {h'}, Ke X h₂ h' → ∀ b o, b ≠ X.L → b ≠ it → s.heap.get? b = some o → ∃ sl, h'.get? b = some { o with slots := sl } := fun k' b o hb hi e => by
      obtain ⟨sl, e2⟩ := k₂ b o hb (k₁ b o hi e)
      obtain ⟨sl', e3⟩ := k' b _ hb e2
      exact ⟨sl', e3⟩
    have two : ∀ {h₃ h' : Heap}, Ke X h₂ h₃ → (∀ b o, b ≠ X.L → b ≠ it → h₃.get? b = some o → ∃ sl, h'.get? b = some { o with slots := sl }) → ∀ b o, b ≠ X.L → b ≠ it → s.heap.get? b = some o → ∃ sl, h'.get? b = some { o with slots := sl } := fun k' k'' b o hb hi e => by
      obtain ⟨sl, e2⟩ := keepI k' b o hb hi e
      obtain ⟨sl', e3⟩ := k'' b _ hb hi e2
      exact ⟨sl', e3⟩
    cases hc with
    | step hb hr =>
      refine hb.run _ _ _ S₂ fun h₃ tk₃ S₃ k₃ => ?_
      have k₃' : Ke X h₂ h₃ := fun b o hb e => k₃ b o hb (fun _ hq => by cases hq) e
      refine ih (j + 1) _ _ _ R (by walk_at "om") hr S₃ ?_ ?_
      · obtain ⟨s2, e2⟩ := k₂ it _ hL i₁
        obtain ⟨s3, e3⟩ := k₃' it _ hL e2
        refine ⟨s3, ?_⟩
        have e1 : ((j + 1 : Nat) : Int) = (j : Int) + 1 := by walk_at "om"
        rw [e1, show (n : Int) - ((j : Int) + 1) = (n : Int) - j - 1 by walk_at "om"]
        exact e3
      · cases o with
        | next σ' μ' => exact fun h' tk S' k' => p h' tk S' (two k₃' k')
        | cont σ' μ' => exact fun h' tk S' k' => p h' tk S' (two k₃' k')
        | brk σ' μ' => exact fun h' tk S' k' => p h' tk S' (two k₃' k')
        | ret d => exact p
    | ret hb => exact hb.run _ _ _ S₂ fun v h₃ tk₃ k₃ u₃ r₃ => p v h₃ tk₃ k₃ u₃ r₃

theorem es_for_range {x f : Str} {px pf cp pos : Pos} {e : Expr} {b rest : List Stmt} {o : Out} {n : Nat} (i : Nat) (hn : X.names[i]? = some x) (hf : EE X σ [] (.Name f pf) (.ty "range")) (h : EE X σ [] e (.int n)) (hz : n < 1000)
    (hc : ∃ σ', FC X i b ((List.range' 0 n).map fun k => .int (k : Nat)) σ (.next σ' []) ∧ ES X σ' [] rest o)
    (hs : ∀ env x, foldedSetIterable (.Call (.Name f pf) [e] [] cp) env x = pure x) (he : notStar e = true := by rfl) : ES X σ [] (.For (.Name x px) (.Call (.Name f pf) [e] [] cp) b [] pos :: rest) o := by
  obtain ⟨σ', hc, hr⟩ := hc
  refine ⟨fun s Q E S p => ?_⟩
  refine wpAny_execs_cons (wpAny_For (Call_ (hf.run s _ E S fun v h₁ tk₁ S₁ k₁ r₁ => ?_) rfl) (hs _))
  cases r₁
  refine PyProof.Rows.callWith_type1 (args_cons (h.run _ _ E S₁ fun u h₂ tk₂ S₂ k₂ r₂ => args_nil ?_) (star_plain he)) (star_plain he) rfl
  obtain ⟨t, rfl⟩ := r₂.int_inv
  refine call_range_1 ?_
  have sub1 := Sub.push (h := h₂) { cls := .type "range", data := .fields #[.int 0 tk₂, .int n t, .int 1 (tk₂ + 1)] }
  refine wpAny_pyIter_range (IsRange.new h₂ 0 n 1 tk₂ t (tk₂ + 1)) (small_one (by decide) (by decide) (by walk_at "om") (by walk_at "om")) ?_
  dsimp only
  generalize hH : h₂.push { cls := .type "range", data := .fields #[.int 0 tk₂, .int n t, .int 1 (tk₂ + 1)] } = H at sub1 ⊢
  have S₃ := S₂.sub sub1
  have sub2 := Sub.push (h := H) { cls := .type "range_iterator", data := .fields #[rawInt 0, rawInt (Builtin.Range.rangeSize 0 n 1), rawInt 1] }
  have hsz : Builtin.Range.rangeSize 0 n 1 = (n : Int) - (0 : Nat) := by
    rw [rangeSize_one]; split <;> walk_at "om"
  refine ef_range i n hn (Nat.ne_of_gt S₃.L_lt) S₃.fresh0 n 0 σ _ _ _ (by walk_at "om") hc (S₃.sub sub2) ⟨#[], ?_⟩ ?_
  · rw [← hsz]; exact Heap.get?_push_size _ rfl
  · intro h₃ tk₃ S₄ k₄
    refine hr.run _ Q E S₄ ?_
    refine Post.same (X := X) (μ := []) (s := s) (h₁ := h₃) (tk₁ := tk₃) ?_ p
    intro b' o' hb _ e'
    obtain ⟨sl, e1⟩ := k₁ b' o' hb e'
    obtain ⟨sl2, e2⟩ := k₂ b' _ hb e1
    have e3 := sub1 _ _ e2
    obtain ⟨sl', e4⟩ := k₄ b' _ hb (Nat.ne_of_lt (Heap.lt_size e3)) (sub2 _ _ e3)
    exact ⟨sl', e4⟩
end
end
section
/-! ## what comes back is one datum, whatever the frame -/
section
variable {ι : Type}
structure Ex (C : ι → Cx) (σ : ι → Lo) (μ : ι → Mu) (ss : List Stmt) (P : D → Prop) : Prop where
  run : ∃ d, P d ∧ ∀ i, ES (C i) (σ i) (μ i) ss (.ret d)

variable {C : ι → Cx} {σ : ι → Lo} {μ : ι → Mu} {P : D → Prop}
theorem ex_cons {st : Stmt} {rest : List Stmt} {σ' : ι → Lo} (h : ∀ i, E1 (C i) (σ i) (μ i) st (.next (σ' i) (μ i))) (hr : Ex C σ' μ rest P) : Ex C σ μ (st :: rest) P := by
  obtain ⟨d, hd, h2⟩ := hr.run
  exact ⟨d, hd, fun i => es_cons (h i) (h2 i)⟩
theorem ex_cons1 {st : Stmt} {rest : List Stmt} {σ' : ι → Lo} {a : ι → Addr} {l l' : List D} (h : ∀ i, E1 (C i) (σ i) [(a i, l)] st (.next (σ' i) [(a i, l')])) (hr : Ex C σ' (fun i => [(a i, l')]) rest P) : Ex C σ (fun i => [(a i, l)]) (st :: rest) P := by
  obtain ⟨d, hd, h2⟩ := hr.run
  exact ⟨d, hd, fun i => es_cons1 (h i) (h2 i)⟩
theorem ex_ret {e : Expr} {pos : Pos} {rest : List Stmt} {d : D} (h : ∀ i, EE (C i) (σ i) (μ i) e d) (hP : P d) : Ex C σ μ (.Return (some e) pos :: rest) P := ⟨d, hP, fun i => es_ret (h i)⟩
theorem ex_if {t : Expr} {a b rest : List Stmt} {pos : Pos} {c : Bool} (ht : ∀ i, EB (C i) (σ i) (μ i) t c) (h1 : c = true → Ex C σ μ (a ++ rest) P) (h2 : c = false → Ex C σ μ (b ++ rest) P) : Ex C σ μ (.If t a b pos :: rest) P := by
  cases c with
  | true =>
    obtain ⟨d, hd, h⟩ := (h1 rfl).run
    exact ⟨d, hd, fun i => es_if (ht i) (fun _ => h i) (fun q => by cases q)⟩
  | false =>
    obtain ⟨d, hd, h⟩ := (h2 rfl).run
    exact ⟨d, hd, fun i => es_if (ht i) (fun q => by cases q) (fun _ => h i)⟩
theorem ex_ifd {t : Expr} {a b rest : List Stmt} {pos : Pos} {c : Prop} [Decidable c] (ht : ∀ i, EB (C i) (σ i) (μ i) t (decide c)) (h1 : c → Ex C σ μ (a ++ rest) P) (h2 : ¬ c → Ex C σ μ (b ++ rest) P) : Ex C σ μ (.If t a b pos :: rest) P :=
  ex_if ht (fun h => h1 (of_decide_eq_true h)) (fun h => h2 (of_decide_eq_false h))
/-- a statement whose value is one of two, by a test -/
theorem ex_new {x : Str} {px pl pos : Pos} {rest : List Stmt} (k : Nat) (hn : ∀ i, (C i).names[k]? = some x) (hr : Ex (fun p : ι × Addr => C p.1) (fun p => (σ p.1).set k (some (.ref p.2))) (fun p => [(p.2, [])]) rest P)
    (hs : ∀ env, swapsWith (.List [] pl) (some (.Name x px)) pos.line env = pure false) : Ex C σ (fun _ => []) (.Assign [.Name x px] (.List [] pl) pos :: rest) P := by
  obtain ⟨d, hd, h⟩ := hr.run
  exact ⟨d, hd, fun i => es_new k (hn i) (fun a => h (i, a)) hs⟩
theorem ex_new2 {x y : Str} {px py pl pos tp tq : Pos} {k₁ k₂ : Nat} {e : Expr} {d : D} {rest : List Stmt} (k j : Nat) (hn : ∀ i, (C i).names[k]? = some x) (hm : ∀ i, (C i).names[j]? = some y) (h : ∀ i, EE (C i) (σ i) [] e d) (he : notStar e = true)
    (hr : Ex (fun p : ι × Addr => C p.1) (fun p => ((σ p.1).set j (some (.ref p.2))).set k (some d)) (fun p => [(p.2, [])]) rest P)
    (hs : ∀ env, swapsWithSole [.Tuple [.Name x px, .Name y py] k₁ tp] (.Tuple [e, .List [] pl] k₂ tq) pos.line env = pure false)
    (hw : ∀ i, swappedStores [.Tuple [.Name x px, .Name y py] k₁ tp] (.Tuple [e, .List [] pl] k₂ tq) (C i).env = pure (some [x, y])) :
    Ex C σ (fun _ => []) (.Assign [.Tuple [.Name x px, .Name y py] k₁ tp] (.Tuple [e, .List [] pl] k₂ tq) pos :: rest) P := by
  obtain ⟨r, hd, h'⟩ := hr.run
  exact ⟨r, hd, fun i => es_new2 k j (hn i) (hm i) (h i) he (fun a => h' (i, a)) hs (hw i)⟩
theorem ex_copy {x f : Str} {px pf pos cp : Pos} {e : Expr} {l : List D} {rest : List Stmt} (k : Nat) (hn : ∀ i, (C i).names[k]? = some x) (hf : ∀ i, EE (C i) (σ i) [] (.Name f pf) (.ty "list")) (h : ∀ i, EE (C i) (σ i) [] e (.lst l)) (he : notStar e = true)
    (fl : ∀ d ∈ l, d.flat = true) (hz : l.length ≤ sizeLine)
    (hr : Ex (fun p : ι × Addr => C p.1) (fun p => (σ p.1).set k (some (.ref p.2))) (fun p => [(p.2, l)]) rest P) (hs : ∀ env, swapsWith (.Call (.Name f pf) [e] [] cp) (some (.Name x px)) pos.line env = pure false) :
    Ex C σ (fun _ => []) (.Assign [.Name x px] (.Call (.Name f pf) [e] [] cp) pos :: rest) P := by
  obtain ⟨d, hd, h'⟩ := hr.run
  exact ⟨d, hd, fun i => es_copy k (hn i) (hf i) (h i) he fl hz (fun a => h' (i, a)) hs⟩
theorem ex_while1 {t : Expr} {b rest : List Stmt} {pos : Pos} {a : ι → Addr} {l l' : List D} {σ' : ι → Lo} (hw : ∀ i, EW (C i) (σ i) [(a i, l)] t b (.next (σ' i) [(a i, l')])) (hr : Ex C σ' (fun i => [(a i, l')]) rest P) : Ex C σ (fun i => [(a i, l)]) (.While t b [] pos :: rest) P := by
  obtain ⟨d, hd, h⟩ := hr.run
  exact ⟨d, hd, fun i => es_while1 (hw i) (h i)⟩
theorem ex_forget {ss : List Stmt} (k : Nat) (h : Ex C (fun i => (σ i).set k none) μ ss P) : Ex C σ μ ss P := by
  obtain ⟨d, hd, h'⟩ := h.run
  exact ⟨d, hd, fun i => es_forget k (h' i)⟩
theorem ex_while_ret {t : Expr} {b rest : List Stmt} {pos : Pos} {d : D} (hw : ∀ i, EW (C i) (σ i) (μ i) t b (.ret d)) (hP : P d) : Ex C σ μ (.While t b [] pos :: rest) P := ⟨d, hP, fun i => es_while_ret (hw i)⟩
end

theorem fd_ex {G : Gx} {n : Nat} {a : Addr} {ds : List D} {P : D → Prop} {ps names : List Str} (K : FnOk G a ps names) (hl : ps.length = ds.length)
    (h : Ex (fun i : Around × Addr × Heap => ⟨G, i.1, envOf (fdOf G.K a).qualname (fdOf G.K a).scope i.2.1 a (fdOf G.K a).code, names, [], n, i.2.1, i.2.2, i.2.2⟩) (fun _ => start names.length ds) (fun _ => []) (bodyOf (fdOf G.K a)) P) : ∃ d, P d ∧ Fd G (n + 1) a ds d := by
  obtain ⟨d, hd, h'⟩ := h.run
  exact ⟨d, hd, fd_ret K hl fun A L h₀ => h' (A, L, h₀)⟩

section
variable {X : Cx} {σ : Lo} {μ : Mu}
theorem es_app {a rest : List Stmt} {σ' : Lo} {o : Out} (h : ES X σ μ a (.next σ' μ)) (hr : ES X σ' μ rest o) : ES X σ μ (a ++ rest) o := by
  refine ⟨fun s Q E S p => ?_⟩
  rw [execs_app]
  refine wpAny_bind (h.run s _ E S ?_)
  intro h₁ tk₁ S₁ k₁
  exact hr.run _ Q E S₁ (p.same k₁)
theorem ex_ifJ {ι V : Type} {C : ι → Cx} {σ : ι → Lo} {μ : ι → Mu} {P : D → Prop} {t : Expr} {a b rest : List Stmt} {pos : Pos} {c : Prop} [Decidable c] (σ' : V → ι → Lo) (R : V → Prop) (ht : ∀ i, EB (C i) (σ i) (μ i) t (decide c))
    (h1 : c → ∃ v, R v ∧ ∀ i, ES (C i) (σ i) (μ i) a (.next (σ' v i) (μ i))) (h2 : ¬ c → ∃ v, R v ∧ ∀ i, ES (C i) (σ i) (μ i) b (.next (σ' v i) (μ i)))
    (k : ∀ v, R v → Ex C (σ' v) μ rest P) : Ex C σ μ (.If t a b pos :: rest) P := by
  refine ex_ifd ht (fun hc => ?_) (fun hc => ?_)
  · obtain ⟨v, hv, h⟩ := h1 hc
    obtain ⟨d, hd, h'⟩ := (k v hv).run
    exact ⟨d, hd, fun i => es_app (h i) (h' i)⟩
  · obtain ⟨v, hv, h⟩ := h2 hc
    obtain ⟨d, hd, h'⟩ := (k v hv).run
    exact ⟨d, hd, fun i => es_app (h i) (h' i)⟩
theorem ex_sig {ι : Type} {C : ι → Cx} {σ σ' : ι → Lo} {μ : ι → Mu} {ss : List Stmt} {P : D → Prop} (e : ∀ i, σ i = σ' i) (h : Ex C σ' μ ss P) : Ex C σ μ ss P := by
  obtain ⟨d, hd, h⟩ := h.run
  exact ⟨d, hd, fun i => (e i) ▸ h i⟩
theorem es_sig {σ' : Lo} {ss : List Stmt} {o : Out} (e : σ = σ') (h : ES X σ' μ ss o) : ES X σ μ ss o := e ▸ h
theorem es_nil' {σ' : Lo} (e : σ = σ') : ES X σ μ [] (.next σ' μ) := e ▸ es_nil
theorem eb_andF {e : Expr} {rest : List Expr} {p : Pos} {a : Bool} (h : EB X σ μ e a) (ha : a = false) : EBa X σ μ (.BoolOp .And (e :: rest) p) false := by
  have := eb_and (rest := rest) (p := p) (b := true) h (fun q => by rw [ha] at q; cases q)
  rwa [ha, Bool.false_and] at this
theorem eb_andT {e : Expr} {rest : List Expr} {p : Pos} {a b : Bool} (h : EB X σ μ e a) (ha : a = true) (h2 : EBa X σ μ (.BoolOp .And rest p) b) : EBa X σ μ (.BoolOp .And (e :: rest) p) b := by
  have := eb_and (p := p) h (fun _ => h2)
  rwa [ha, Bool.true_and] at this
theorem eb_orT {e : Expr} {rest : List Expr} {p : Pos} {a : Bool} (h : EB X σ μ e a) (ha : a = true) : EBa X σ μ (.BoolOp .Or (e :: rest) p) true := by
  have := eb_or (rest := rest) (p := p) (b := true) h (fun q => by rw [ha] at q; cases q)
  rwa [ha, Bool.true_or] at this
theorem eb_orF {e : Expr} {rest : List Expr} {p : Pos} {a b : Bool} (h : EB X σ μ e a) (ha : a = false) (h2 : EBa X σ μ (.BoolOp .Or rest p) b) : EBa X σ μ (.BoolOp .Or (e :: rest) p) b := by
  have := eb_or (p := p) h (fun _ => h2)
  rwa [ha, Bool.false_or] at this
theorem EBa.to {e : Expr} {b c : Bool} (h : EBa X σ μ e b) (hc : b = c) : EB X σ μ e c := hc ▸ h.eb
theorem eb_to {e : Expr} {b c : Bool} (h : EB X σ μ e b) (hc : b = c) : EB X σ μ e c := hc ▸ h
end

/-! ## sizes of texts -/
theorem len_str {a : Int} {k : Nat} (h : a.natAbs < 2 ^ k) (hk : 0 < k) : (Str.ofString (toString a)).length ≤ k + 1 := by
  rw [ofString_len]
  exact int_text_length_le hk (by
    rcases Nat.eq_zero_or_pos a.natAbs with h0 | h0
    · rw [h0]; exact hk
    · exact (Nat.log2_lt (Nat.ne_of_gt h0)).mpr h)
end
section
variable {w : World} {mg mb : Str → Option Value}

/-! ## figures in a radix -/
noncomputable def One (ys : List Str) : Prop := ∀ y ∈ ys, y.length ≤ 1
theorem One.app {ys : List Str} (h : One ys) (c : Nat) : One (ys ++ [⟨#[c]⟩]) := fun y hy => by
  rcases List.mem_append.mp hy with q | q
  · exact h y q
  · rw [List.mem_singleton] at q; subst q; exact Nat.le_refl 1
theorem One.sum {ys : List Str} (h : One ys) : (ys.map (·.length)).sum ≤ ys.length := by
  induction ys with
  | nil => exact Nat.le_refl _
  | cons y ys ih =>
    have h1 := h y (List.Mem.head _)
    have h2 := ih fun z hz => h z (List.Mem.tail _ hz)
    simp only [List.map_cons, List.sum_cons, List.length_cons]
    walk_at "om"

theorem join_len (ys : List Str) : (Txt.join "" ys).length = (ys.map (·.length)).sum := by
  have key : ∀ (r : List Str) (acc : Array Nat), (r.foldl (fun acc p => acc ++ ("" : Str).cps ++ p.cps) acc).size = acc.size + (r.map (·.length)).sum := by
    intro r
    induction r with
    | nil => intro acc; simp
    | cons p r ih =>
      intro acc
      rw [List.foldl_cons, ih, Array.size_append, Array.size_append, List.map_cons, List.sum_cons]
      have : ("" : Str).cps.size = 0 := by decide +kernel
      have e2 : p.length = p.cps.size := rfl
      walk_at "om"
  cases ys with
  | nil => rfl
  | cons y r =>
    show ((r.foldl (fun acc p => acc ++ ("" : Str).cps ++ p.cps) y.cps)).size = _
    rw [key]; rfl

theorem wf_loop {ι : Type} {C : ι → Cx} {a : ι → Addr} {t : Expr} {b : List Stmt} {radix : Int} (hr : 2 ≤ radix)
    (ht : ∀ i (n : Int) (l : List D), EB (C i) [some (.int n), some (.int radix), some (.ref (a i))] [(a i, l)] t (decide (0 < n) || l.isEmpty))
    (hb : ∀ (n : Int) (ys : List Str), 0 ≤ n → ys.length ≤ 900 → ∃ c : Nat, ∀ i, ES (C i) [some (.int n), some (.int radix), some (.ref (a i))] [(a i, ys.map .str)] b (.next [some (.int (n / radix)), some (.int radix), some (.ref (a i))] [(a i, (ys ++ [(⟨#[c]⟩ : Str)]).map .str)])) :
    ∀ (k : Nat) (n : Int) (ys : List Str), 0 ≤ n → n < 2 ^ k → ys.length + k ≤ 800 → One ys → ∃ (n' : Int) (zs : List Str), One zs ∧ zs.length ≤ ys.length + k + 1 ∧
      ∀ i, EW (C i) [some (.int n), some (.int radix), some (.ref (a i))] [(a i, ys.map .str)] t b (.next [some (.int n'), some (.int radix), some (.ref (a i))] [(a i, zs.map .str)]) := by
  intro k
  induction k with
  | zero =>
    intro n ys h0 h1 hl ho
    have hn : n = 0 := by walk_at "om"
    subst hn
    cases ys with
    | nil =>
      obtain ⟨c, hc⟩ := hb 0 [] (by decide) (by simp)
      refine ⟨0 / radix, [⟨#[c]⟩], One.app (ys := []) (fun y hy => by cases hy) c, by simp, fun i => ew_next1 (ht i 0 _) (hc i) (ew_false ?_)⟩
      have := ht i (0 / radix) ([(⟨#[c]⟩ : Str)].map .str)
      simpa using this
    | cons y ys =>
      refine ⟨0, y :: ys, ho, by walk_at "om", fun i => ew_false ?_⟩
      have := ht i 0 ((y :: ys).map .str)
      simpa using this
  | succ k ih =>
    intro n ys h0 h1 hl ho
    by_cases hn : 0 < n ∨ ys = []
    · obtain ⟨c, hc⟩ := hb n ys h0 (by walk_at "om")
      have hd : n / radix < 2 ^ k := by
        refine Int.ediv_lt_of_lt_mul (by walk_at "om") ?_
        have e : (2 : Int) ^ (k + 1) = 2 ^ k * 2 := Int.pow_succ ..
        have : (2 : Int) ^ k * 2 ≤ 2 ^ k * radix := Int.mul_le_mul_of_nonneg_left hr (Int.pow_nonneg (by decide))
        walk_at "om"
      have hl' : (ys ++ [(⟨#[c]⟩ : Str)]).length = ys.length + 1 := by simp
      obtain ⟨n', zs, z1, z2, z3⟩ := ih (n / radix) (ys ++ [⟨#[c]⟩]) (Int.ediv_nonneg h0 (by walk_at "om")) hd (by walk_at "om") (ho.app c)
      refine ⟨n', zs, z1, by walk_at "om", fun i => ew_next1 ?_ (hc i) (z3 i)⟩
      have := ht i n (ys.map .str)
      rcases hn with hn | hn
      · simpa [hn] using this
      · subst hn; simpa using this
    · have hn0 : n = 0 := by walk_at "om"
      have hy : ys ≠ [] := fun q => hn (.inr q)
      subst hn0
      refine ⟨0, ys, ho, by walk_at "om", fun i => ew_false ?_⟩
      have := ht i 0 (ys.map .str)
      cases ys with
      | nil => exact absurd rfl hy
      | cons y ys => simpa using this

theorem wf_while {ι : Type} {C : ι → Cx} {P : D → Prop} {a : ι → Addr} {t : Expr} {b rest : List Stmt} {pos : Pos} {radix n : Int} (hr : 2 ≤ radix) (h0 : 0 ≤ n) (h1 : n < 2 ^ 300)
    (ht : ∀ i (n : Int) (l : List D), EB (C i) [some (.int n), some (.int radix), some (.ref (a i))] [(a i, l)] t (decide (0 < n) || l.isEmpty))
    (hb : ∀ (n : Int) (ys : List Str), 0 ≤ n → ys.length ≤ 900 → ∃ c : Nat, ∀ i, ES (C i) [some (.int n), some (.int radix), some (.ref (a i))] [(a i, ys.map .str)] b (.next [some (.int (n / radix)), some (.int radix), some (.ref (a i))] [(a i, (ys ++ [(⟨#[c]⟩ : Str)]).map .str)]))
    (k : ∀ (n' : Int) (zs : List Str), One zs → zs.length ≤ 301 → Ex C (fun i => [some (.int n'), some (.int radix), some (.ref (a i))]) (fun i => [(a i, zs.map .str)]) rest P) :
    Ex C (fun i => [some (.int n), some (.int radix), some (.ref (a i))]) (fun i => [(a i, [])]) (.While t b [] pos :: rest) P := by
  obtain ⟨n', zs, z1, z2, z3⟩ := wf_loop hr ht hb 300 n [] h0 h1 (by decide) (fun y hy => by cases hy)
  exact ex_while1 z3 (k n' zs z1 (by simpa using z2))

theorem s_whole_figures {n radix : Int} (h0 : 0 ≤ n) (h1 : n < 2 ^ 300) (hr : 2 ≤ radix) (hr2 : radix ≤ 36) : ∃ d, (∃ x : Str, d = .str x ∧ x.length ≤ 1000) ∧ Fd (Gw w mg mb) 1 659 [.int n, .int radix] d := by
  refine fd_ex ok_whole_figures rfl ?_
  conv => arg 5; whnf
  refine ex_new 2 (fun _ => rfl) ?_ (fun _ => rfl)
  refine wf_while hr h0 h1 (fun i n l => ?_) (fun n ys q1 q2 => ⟨(Str.ofString "0123456789abcdefghijklmnopqrstuvwxyz").cps.getD (n % radix).toNat 0, fun i => ?_⟩) (fun n' zs z1 z2 => ?_)
  · rw [← Bool.or_false l.isEmpty]
    exact (eb_or (eb_cmp (lv 0) ev_int cmp_gt rfl).eb (fun _ => (eb_or (eb_cmp (ev_own 2) (ev_lst ea_nil) cmp_eqL0 rfl).eb (fun _ => eb_or_nil)))).eb
  · have e1 : (Str.ofString "0123456789abcdefghijklmnopqrstuvwxyz").length = 36 := by decide +kernel
    have m0 := Int.emod_nonneg n (show radix ≠ 0 by walk_at "om")
    have m1 := Int.emod_lt_of_pos n (show 0 < radix by walk_at "om")
    refine es_cons1 (es_append 2 (ev_itemS (gv g_FIGURES) (ev_bin (lv 0) (lv 1) (bin_mod (by walk_at "z"))) m0 (by rw [e1]; walk_at "om") (by rw [e1]; decide)) rfl (by rw [List.length_map]; walk_at "om")) ?_
    refine es_cons (es_set 0 rfl (ev_bin (lv 0) (lv 1) (bin_div (by walk_at "z") (by walk_at "dv"))) (fun _ => rfl)) ?_
    rw [show ys.map D.str ++ [D.str (⟨#[(Str.ofString "0123456789abcdefghijklmnopqrstuvwxyz").cps.getD (n % radix).toNat 0]⟩ : Str)] = (ys ++ [(⟨#[(Str.ofString "0123456789abcdefghijklmnopqrstuvwxyz").cps.getD (n % radix).toNat 0]⟩ : Str)]).map D.str by rw [List.map_append]; rfl]
    exact es_nil
  · refine ex_cons1 (fun i => es_reverse 2 (by rw [List.length_map]; walk_at "om")) ?_
    rw [← List.map_reverse]
    have hs : (zs.reverse.map (·.length)).sum ≤ zs.length := by rw [List.map_reverse, List.sum_reverse]; exact z1.sum
    refine ex_ret (fun i => ev_join ev_str (ev_own 2) ?_) ⟨_, rfl, ?_⟩
    · have : ("" : Str).length = 0 := by decide +kernel
      rw [this, Nat.mul_zero]; walk_at "om"
    · rw [join_len]; walk_at "om"
end
section
variable {w : World} {mg mb : Str → Option Value}

/-! ## figures behind the point -/
noncomputable def Figs (radix : Int) (ns : List Int) : Prop := ∀ n ∈ ns, 0 ≤ n ∧ n < radix
noncomputable def FigRes (radix : Int) (d : D) : Prop := ∃ (ns : List Int) (c : Int), d = .tup [.lst (ns.map .int), .int c] ∧ Figs radix ns ∧ ns.length ≤ 400 ∧ 0 ≤ c ∧ c ≤ 1

theorem ca_loop {ι : Type} {C : ι → Cx} {σ : ι → Lo} {a : ι → Addr} {t : Expr} {b : List Stmt} {radix : Int}
    (h0 : ∀ i, EB (C i) (σ i) [(a i, [])] t false)
    (h1 : ∀ i (ms : List Int) (m : Int), ms.length ≤ 500 → EB (C i) (σ i) [(a i, ms.map .int ++ [.int m])] t (decide (m = radix - 1)))
    (hb : ∀ i (ms : List Int) (m : Int), ms.length ≤ 500 → ES (C i) (σ i) [(a i, ms.map .int ++ [.int m])] b (.next (σ i) [(a i, ms.map .int)])) :
    ∀ (k : Nat) (ns : List Int), ns.length = k → k ≤ 500 → Figs radix ns → ∃ ms : List Int, Figs radix ms ∧ ms.length ≤ k ∧ (ms = [] ∨ ∃ init last, ms = init ++ [last] ∧ last ≠ radix - 1) ∧
      ∀ i, EW (C i) (σ i) [(a i, ns.map .int)] t b (.next (σ i) [(a i, ms.map .int)]) := by
  intro k
  induction k with
  | zero =>
    intro ns hl hk hf
    have : ns = [] := List.length_eq_zero_iff.mp hl
    subst this
    exact ⟨[], hf, Nat.le_refl _, .inl rfl, fun i => ew_false (h0 i)⟩
  | succ k ih =>
    intro ns hl hk hf
    rcases List.eq_nil_or_concat ns with e | ⟨ms, m, e⟩
    · subst e; simp at hl
    · rw [List.concat_eq_append] at e
      subst e
      have hml : ms.length = k := by simpa using hl
      have em : (ms ++ [m]).map D.int = ms.map .int ++ [.int m] := by simp
      rw [em]
      by_cases hm : m = radix - 1
      · obtain ⟨zs, z1, z2, z3, z4⟩ := ih ms hml (by walk_at "om") (fun n hn => hf n (List.mem_append_left _ hn))
        refine ⟨zs, z1, by walk_at "om", z3, fun i => ew_next1 ?_ (hb i ms m (by walk_at "om")) (z4 i)⟩
        have := h1 i ms m (by walk_at "om")
        rwa [decide_eq_true hm] at this
      · refine ⟨ms ++ [m], hf, by simp [hml], .inr ⟨ms, m, rfl, hm⟩, fun i => ?_⟩
        rw [em]
        refine ew_false ?_
        have := h1 i ms m (by walk_at "om")
        rwa [decide_eq_false hm] at this

theorem ca_while {ι : Type} {C : ι → Cx} {P : D → Prop} {σ : ι → Lo} {a : ι → Addr} {t : Expr} {b rest : List Stmt} {pos : Pos} {radix : Int} {ns : List Int} (hl : ns.length ≤ 400) (hf : Figs radix ns)
    (h0 : ∀ i, EB (C i) (σ i) [(a i, [])] t false)
    (h1 : ∀ i (ms : List Int) (m : Int), ms.length ≤ 500 → EB (C i) (σ i) [(a i, ms.map .int ++ [.int m])] t (decide (m = radix - 1)))
    (hb : ∀ i (ms : List Int) (m : Int), ms.length ≤ 500 → ES (C i) (σ i) [(a i, ms.map .int ++ [.int m])] b (.next (σ i) [(a i, ms.map .int)]))
    (k0 : Ex C σ (fun i => [(a i, [])]) rest P)
    (k1 : ∀ (init : List Int) (last : Int), Figs radix (init ++ [last]) → last ≠ radix - 1 → init.length ≤ 399 → Ex C σ (fun i => [(a i, init.map .int ++ [.int last])]) rest P) :
    Ex C σ (fun i => [(a i, ns.map .int)]) (.While t b [] pos :: rest) P := by
  obtain ⟨zs, z1, z2, z3, z4⟩ := ca_loop h0 h1 hb ns.length ns rfl (by walk_at "om") hf
  refine ex_while1 z4 ?_
  rcases z3 with rfl | ⟨init, last, rfl, hne⟩
  · exact k0
  · rw [show (init ++ [last]).map D.int = init.map .int ++ [.int last] by simp]
    exact k1 init last z1 hne (by simp at z2; walk_at "om")

theorem s_carried {radix : Int} {ns : List Int} (hr : 2 ≤ radix) (hl : ns.length ≤ 400) (hf : Figs radix ns) : ∃ d, FigRes radix d ∧ Fd (Gw w mg mb) 1 673 [.lst (ns.map .int), .int radix] d := by
  refine fd_ex ok_carried rfl ?_
  conv => arg 5; whnf
  have flat : ∀ d ∈ ns.map D.int, d.flat = true := fun d hd => by obtain ⟨n, _, rfl⟩ := List.mem_map.mp hd; rfl
  refine ex_copy 2 (fun _ => rfl) (fun _ => (bv b_list)) (fun _ => (lv 0)) rfl flat (by rw [List.length_map, sizeLine_eq]; walk_at "om") ?_ (fun _ => rfl)
  refine ex_forget 0 ?_
  refine ca_while (radix := radix) hl hf (fun i => ?_) (fun i ms m hm => ?_) (fun i ms m hm => ?_) ?_ (fun init last q1 q2 q3 => ?_)
  · exact (eb_andF (eb_cmp (clB (bv b_len) (ea_cons (ev_own 2) ea_nil) (bi_lenL (by decide))) ev_int cmp_gt rfl).eb rfl).eb
  · have e : (ms.map D.int ++ [D.int m]).length = ms.length + 1 := by simp
    exact (eb_andT (eb_cmp (clB (bv b_len) (ea_cons (ev_own 2) ea_nil) (bi_lenL (by rw [e]; walk_at "om"))) ev_int cmp_gt rfl).eb (by rw [e]; exact decide_eq_true (by walk_at "om")) (eb_and (eb_cmp (ev_itemLast (ev_own 2) (ev_neg ev_int)) (ev_bin (lv 1) ev_int bin_sub) cmp_eq rfl).eb (fun _ => eb_and_nil))).to (Bool.and_true _)
  · refine es_cons1 (es_pop 2 (by rw [List.length_map]; walk_at "om")) ?_
    exact es_nil
  · refine ex_ifd (fun i => (eb_cmp (clB (bv b_len) (ea_cons (ev_own 2) ea_nil) (bi_lenL (by decide))) ev_int cmp_eq rfl).eb) (fun h1 => ?_) (fun h1 => ?_)
    · exact ex_ret (fun i => ev_tup (ea_cons (ev_lst ea_nil) (ea_cons ev_int ea_nil))) ⟨[], 1, rfl, (fun n hn => by cases hn), by decide, by decide, by decide⟩
    · exact absurd rfl h1
  · have e : (init.map D.int ++ [D.int last]).length = init.length + 1 := by simp
    refine ex_ifd (fun i => (eb_cmp (clB (bv b_len) (ea_cons (ev_own 2) ea_nil) (bi_lenL (by rw [e]; walk_at "om"))) ev_int cmp_eq rfl).eb) (fun h1 => ?_) (fun h1 => ?_)
    · rw [e] at h1; walk_at "om"
    · have hlast := q1 last (List.mem_append_right _ (List.mem_singleton.mpr rfl))
      refine ex_cons1 (fun i => es_augLast 2 (fun _ => (ev_neg ev_int)) (fun _ => ev_int) (by rw [List.length_map]; walk_at "om")) ?_
      refine ex_ret (fun i => ev_tup (ea_cons (ev_own 2) (ea_cons ev_int ea_nil))) ⟨init ++ [last + 1], 0, by simp, (fun n hn => ?_), by simp; walk_at "om", by decide, by decide⟩
      rcases List.mem_append.mp hn with q | q
      · exact q1 n (List.mem_append_left _ q)
      · rw [List.mem_singleton] at q; walk_at "om"

/-! ### the rest -/
abbrev σf (rest unit radix gap : Int) (a : Addr) (z1 z2 : Option D) : Lo := [some (.int rest), some (.int unit), some (.int radix), some (.int gap), some (.ref a), z1, z2]

theorem rf_loop {ι : Type} {C : ι → Cx} {a : ι → Addr} {t : Expr} {b : List Stmt} {unit radix : Int} (hr : 2 ≤ radix) (hu : 0 < unit)
    (ht : ∀ i rest gap l z1 z2, EB (C i) (σf rest unit radix gap (a i) z1 z2) [(a i, l)] t (decide (gap ≤ rest)))
    (hb : ∀ (rest gap : Int) (ns : List Int) (z1 z2 : Option D), 0 ≤ rest → rest < unit → 0 ≤ gap → gap ≤ rest → ns.length ≤ 390 → Figs radix ns →
      (∃ d, FigRes radix d ∧ ∀ i z1 z2, ES (C i) (σf rest unit radix gap (a i) z1 z2) [(a i, ns.map .int)] b (.ret d)) ∨
      (∃ f y1 y2, 0 ≤ f ∧ f < radix ∧ ∀ i z1 z2, ES (C i) (σf rest unit radix gap (a i) z1 z2) [(a i, ns.map .int)] b (.next (σf (rest * radix % unit) unit radix (gap * radix) (a i) y1 y2) [(a i, (ns ++ [f]).map .int)]))) :
    ∀ (k : Nat) (rest gap : Int) (ns : List Int) (z1 z2 : Option D), 0 ≤ rest → rest < unit → 0 < gap → unit ≤ gap * 2 ^ k → ns.length + k ≤ 380 → Figs radix ns →
      (∃ d, FigRes radix d ∧ ∀ i, EW (C i) (σf rest unit radix gap (a i) z1 z2) [(a i, ns.map .int)] t b (.ret d)) ∨
      (∃ rest' gap' ms y1 y2, Figs radix ms ∧ ms.length ≤ 380 ∧ ∀ i, EW (C i) (σf rest unit radix gap (a i) z1 z2) [(a i, ns.map .int)] t b (.next (σf rest' unit radix gap' (a i) y1 y2) [(a i, ms.map .int)])) := by
  intro k
  induction k with
  | zero =>
    intro rest gap ns z1 z2 r0 r1 g0 hg hl hf
    refine .inr ⟨rest, gap, ns, z1, z2, hf, by walk_at "om", fun i => ew_false ?_⟩
    have := ht i rest gap (ns.map .int) z1 z2
    rwa [decide_eq_false (by simp at hg; walk_at "om")] at this
  | succ k ih =>
    intro rest gap ns z1 z2 r0 r1 g0 hg hl hf
    by_cases hc : gap ≤ rest
    · have hT := fun i => ht i rest gap (ns.map .int) z1 z2
      rw [decide_eq_true hc] at hT
      rcases hb rest gap ns z1 z2 r0 r1 (by walk_at "om") hc (by walk_at "om") hf with ⟨d, hd, h⟩ | ⟨f, y1, y2, f0, f1, h⟩
      · exact .inl ⟨d, hd, fun i => ew_ret (hT i) (h i z1 z2)⟩
      · have hg2 : unit ≤ gap * radix * 2 ^ k := by
          have e : gap * 2 ^ (k + 1) = gap * 2 * 2 ^ k := by rw [Int.pow_succ, Int.mul_assoc, Int.mul_comm (2 ^ k) 2]
          have h1 : gap * 2 ≤ gap * radix := Int.mul_le_mul_of_nonneg_left hr (by walk_at "om")
          have h2 : gap * 2 * 2 ^ k ≤ gap * radix * 2 ^ k := Int.mul_le_mul_of_nonneg_right h1 (Int.pow_nonneg (by decide))
          walk_at "om"
        have hf' : Figs radix (ns ++ [f]) := fun n hn => by
          rcases List.mem_append.mp hn with q | q
          · exact hf n q
          · rw [List.mem_singleton] at q; walk_at "om"
        have hgp : 0 < gap * radix := Int.mul_pos g0 (by walk_at "om")
        have hl' : (ns ++ [f]).length = ns.length + 1 := by simp
        rcases ih (rest * radix % unit) (gap * radix) (ns ++ [f]) y1 y2 (Int.emod_nonneg _ (by walk_at "om")) (Int.emod_lt_of_pos _ hu) hgp hg2 (by walk_at "om") hf' with ⟨d, hd, h'⟩ | ⟨rest', gap', ms, x1, x2, m1, m2, h'⟩
        · exact .inl ⟨d, hd, fun i => ew_next1 (hT i) (h i z1 z2) (h' i)⟩
        · exact .inr ⟨rest', gap', ms, x1, x2, m1, m2, fun i => ew_next1 (hT i) (h i z1 z2) (h' i)⟩
    · refine .inr ⟨rest, gap, ns, z1, z2, hf, by walk_at "om", fun i => ew_false ?_⟩
      have := ht i rest gap (ns.map .int) z1 z2
      rwa [decide_eq_false hc] at this

theorem rf_while {ι : Type} {C : ι → Cx} {a : ι → Addr} {t : Expr} {b rest : List Stmt} {pos : Pos} {r unit radix : Int} (hr : 2 ≤ radix) (hu : 0 < unit) (r0 : 0 ≤ r) (r1 : r < unit) (hu2 : unit ≤ 2 ^ 300)
    (ht : ∀ i rest gap l z1 z2, EB (C i) (σf rest unit radix gap (a i) z1 z2) [(a i, l)] t (decide (gap ≤ rest)))
    (hb : ∀ (rest gap : Int) (ns : List Int) (z1 z2 : Option D), 0 ≤ rest → rest < unit → 0 ≤ gap → gap ≤ rest → ns.length ≤ 390 → Figs radix ns →
      (∃ d, FigRes radix d ∧ ∀ i z1 z2, ES (C i) (σf rest unit radix gap (a i) z1 z2) [(a i, ns.map .int)] b (.ret d)) ∨
      (∃ f y1 y2, 0 ≤ f ∧ f < radix ∧ ∀ i z1 z2, ES (C i) (σf rest unit radix gap (a i) z1 z2) [(a i, ns.map .int)] b (.next (σf (rest * radix % unit) unit radix (gap * radix) (a i) y1 y2) [(a i, (ns ++ [f]).map .int)])))
    (k : ∀ (rest' gap' : Int) (ms : List Int) (y1 y2 : Option D), Figs radix ms → ms.length ≤ 380 → Ex C (fun i => σf rest' unit radix gap' (a i) y1 y2) (fun i => [(a i, ms.map .int)]) rest (FigRes radix)) :
    Ex C (fun i => σf r unit radix 1 (a i) none none) (fun i => [(a i, [])]) (.While t b [] pos :: rest) (FigRes radix) := by
  rcases rf_loop hr hu ht hb 300 r 1 [] none none r0 r1 (by decide) (by walk_at "om") (by decide) (fun n hn => by cases hn) with ⟨d, hd, h⟩ | ⟨rest', gap', ms, y1, y2, m1, m2, h⟩
  · exact ex_while_ret (fun i => h i) hd
  · exact ex_while1 h (k rest' gap' ms y1 y2 m1 m2)

theorem s_rest_figures {r unit radix : Int} (hr : 2 ≤ radix) (hr2 : radix ≤ 36) (hu : 0 < unit) (r0 : 0 ≤ r) (r1 : r < unit) (hu2 : unit ≤ 2 ^ 300) : ∃ d, FigRes radix d ∧ Fd (Gw w mg mb) 2 666 [.int r, .int unit, .int radix] d := by
  refine fd_ex ok_rest_figures rfl ?_
  conv => arg 5; whnf
  refine ex_new2 3 4 (fun _ => rfl) (fun _ => rfl) (fun _ => ev_int) rfl ?_ (fun _ => rfl) (fun _ => by kernel_rfl)
  refine rf_while hr hu r0 r1 hu2 (fun i rest gap l z1 z2 => ?_) (fun rest gap ns z1 z2 q0 q1 q2 q3 q4 q5 => ?_) (fun rest' gap' ms y1 y2 m1 m2 => ?_)
  · exact (eb_cmp (lv 0) (lv 3) cmp_ge rfl).eb
  · have hmulr : IntMulOk rest radix := IntMulOk.of_right (intBits_le_64 (by walk_at "om") (by walk_at "om"))
    have hmulg : IntMulOk gap radix := IntMulOk.of_right (intBits_le_64 (by walk_at "om") (by walk_at "om"))
    have hmul2 : ∀ x, IntMulOk 2 x := fun x => IntMulOk.of_left (by decide)
    have hunit : unit.natAbs.log2 < 9000 := div_sz 301 (by have := pow_cast 300; have := pow_cast 301; walk_at "om") (by decide)
    have f0 : 0 ≤ rest * radix / unit := Int.ediv_nonneg (Int.mul_nonneg q0 (by walk_at "om")) (by walk_at "om")
    have f1 : rest * radix / unit < radix := by
      refine Int.ediv_lt_of_lt_mul hu ?_
      rw [Int.mul_comm]
      exact Int.mul_lt_mul_of_pos_left q1 (by walk_at "om")
    have hf' : Figs radix (ns ++ [rest * radix / unit]) := fun n hn => by
      rcases List.mem_append.mp hn with q | q
      · exact q5 n q
      · rw [List.mem_singleton] at q; walk_at "om"
    have em : ns.map D.int ++ [D.int (rest * radix / unit)] = (ns ++ [rest * radix / unit]).map .int := by simp
    obtain ⟨d, hd, hcar⟩ := s_carried (w := w) (mg := mg) (mb := mb) hr (by simp; walk_at "om") hf'
    cases hc : ((decide (unit < 2 * (rest * radix % unit)) || (decide (2 * (rest * radix % unit) = unit) && decide (rest * radix / unit % 2 = 1))) && decide (unit < rest * radix % unit + gap * radix)) with
    | true =>
      refine .inl ⟨d, hd, fun i z1 z2 => ?_⟩
      refine es_forget 6 ?_
      refine es_cons (es_unpackS [0, 3] rfl rfl rfl (ev_tup (ea_cons (ev_bin (lv 0) (lv 2) (bin_mul hmulr)) (ea_cons (ev_bin (lv 3) (lv 2) (bin_mul hmulg)) ea_nil))) (fun _ => rfl) (by kernel_rfl)) ?_
      refine es_cons (es_set 5 rfl (ev_bin (lv 0) (lv 1) (bin_div hu hunit)) (fun _ => rfl)) ?_
      refine es_cons (es_set 0 rfl (ev_bin (lv 0) (lv 1) (bin_mod hu)) (fun _ => rfl)) ?_
      refine es_cons1 (es_append 4 (lv 5) rfl (by rw [List.length_map]; walk_at "om")) ?_
      rw [em]
      refine es_cons (es_set 6 rfl (ev_or (ev_cmp (ev_bin ev_int (lv 0) (bin_mul (hmul2 _))) (lv 1) cmp_gt rfl) (fun _ => (ev_bone (ev_and (ev_cmp (ev_bin ev_int (lv 0) (bin_mul (hmul2 _))) (lv 1) cmp_eq rfl) (fun _ => (ev_bone (ev_cmp (ev_bin (lv 5) ev_int (bin_mod (by walk_at "z"))) ev_int cmp_eq rfl))))))) (fun _ => rfl)) ?_
      refine es_if (eb_and (eb_name (lv 6)) (fun _ => (eb_and (eb_cmp (ev_bin (lv 0) (lv 3) bin_add) (lv 1) cmp_gt rfl).eb (fun _ => eb_and_nil)))).eb (fun h1 => ?_) (fun h1 => ?_)
      · exact es_ret (cl (gv g_carried) (ea_cons (ev_own 4) (ea_cons (lv 2) ea_nil)) hcar)
      · rw [Bool.and_true, hc] at h1; cases h1
    | false =>
      refine .inr ⟨rest * radix / unit, some (.int (rest * radix / unit)), some (.bool (decide (unit < 2 * (rest * radix % unit)) || (decide (2 * (rest * radix % unit) = unit) && decide (rest * radix / unit % 2 = 1)))), f0, f1, fun i z1 z2 => ?_⟩
      refine es_forget 6 ?_
      refine es_cons (es_unpackS [0, 3] rfl rfl rfl (ev_tup (ea_cons (ev_bin (lv 0) (lv 2) (bin_mul hmulr)) (ea_cons (ev_bin (lv 3) (lv 2) (bin_mul hmulg)) ea_nil))) (fun _ => rfl) (by kernel_rfl)) ?_
      refine es_cons (es_set 5 rfl (ev_bin (lv 0) (lv 1) (bin_div hu hunit)) (fun _ => rfl)) ?_
      refine es_cons (es_set 0 rfl (ev_bin (lv 0) (lv 1) (bin_mod hu)) (fun _ => rfl)) ?_
      refine es_cons1 (es_append 4 (lv 5) rfl (by rw [List.length_map]; walk_at "om")) ?_
      rw [em]
      refine es_cons (es_set 6 rfl (ev_or (ev_cmp (ev_bin ev_int (lv 0) (bin_mul (hmul2 _))) (lv 1) cmp_gt rfl) (fun _ => (ev_bone (ev_and (ev_cmp (ev_bin ev_int (lv 0) (bin_mul (hmul2 _))) (lv 1) cmp_eq rfl) (fun _ => (ev_bone (ev_cmp (ev_bin (lv 5) ev_int (bin_mod (by walk_at "z"))) ev_int cmp_eq rfl))))))) (fun _ => rfl)) ?_
      refine es_if (eb_and (eb_name (lv 6)) (fun _ => (eb_and (eb_cmp (ev_bin (lv 0) (lv 3) bin_add) (lv 1) cmp_gt rfl).eb (fun _ => eb_and_nil)))).eb (fun h1 => ?_) (fun h1 => ?_)
      · rw [Bool.and_true, hc] at h1; cases h1
      · exact es_nil
  · exact ex_ret (fun i => ev_tup (ea_cons (ev_own 4) (ea_cons ev_int ea_nil))) ⟨ms, 0, rfl, m1, by walk_at "om", by decide, by decide⟩
end
section
variable {w : World} {mg mb : Str → Option Value}

/-- a text of at most n signs -/
noncomputable def IsS (n : Nat) (d : D) : Prop := ∃ x : Str, d = .str x ∧ x.length ≤ n
theorem IsS.mono {n m : Nat} {d : D} (h : IsS n d) (hm : n ≤ m) : IsS m d := let ⟨x, h1, h2⟩ := h; ⟨x, h1, Nat.le_trans h2 hm⟩
theorem cat_len (x y : Str) : (x ++ y).length = x.length + y.length := by
  show (x.cps ++ y.cps).size = _
  rw [Array.size_append]; rfl

noncomputable def figs (ns : List Int) : List Str := ns.map fun n => ⟨#[(Str.ofString "0123456789abcdefghijklmnopqrstuvwxyz").cps.getD n.toNat 0]⟩
theorem figs_one (ns : List Int) : One (figs ns) := fun y hy => by
  obtain ⟨n, _, rfl⟩ := List.mem_map.mp hy
  exact Nat.le_refl 1
theorem join_one {ys : List Str} (h : One ys) : (Txt.join "" ys).length ≤ ys.length := by rw [join_len]; exact h.sum
theorem join_ok {ys : List Str} (h : One ys) (hl : ys.length ≤ 1000) : (ys.map (·.length)).sum + ys.length * ("" : Str).length ≤ 16777216 := by
  have : ("" : Str).length = 0 := by decide +kernel
  have := h.sum
  rw [‹("" : Str).length = 0›, Nat.mul_zero]; walk_at "om"

/-! ## to_radix -/
theorem s_to_radix_nan {b r : Int} (h : 0 ≤ b) (hn : 2047 * 2 ^ 52 < b % 2 ^ 63) : ∃ d, IsS 3000 d ∧ Fd (Gw w mg mb) 3 678 [.int b, .int r] d := by
  refine fd_ex ok_to_radix rfl ?_
  conv => arg 5; whnf
  refine ex_ifd (fun i => (eb_call (cl (gv g_is_nan) (ea_cons (lv 0) ea_nil) (s_is_nan h)))) (fun h1 => ?_) (fun h1 => absurd hn h1)
  exact ex_ret (fun i => ev_str) ⟨_, rfl, by decide +kernel⟩
theorem s_to_radix_zero {b r : Int} (h : 0 ≤ b) (hz : b % 2 ^ 63 = 0) : ∃ d, IsS 3000 d ∧ Fd (Gw w mg mb) 3 678 [.int b, .int r] d := by
  refine fd_ex ok_to_radix rfl ?_
  conv => arg 5; whnf
  refine ex_ifd (fun i => (eb_call (cl (gv g_is_nan) (ea_cons (lv 0) ea_nil) (s_is_nan h)))) (fun h1 => ?_) (fun h1 => ?_)
  · walk_at "om"
  refine ex_ifd (fun i => (eb_call (cl (gv g_is_zero) (ea_cons (lv 0) ea_nil) (s_is_zero h)))) (fun h2 => ?_) (fun h2 => absurd hz h2)
  exact ex_ret (fun i => ev_str) ⟨_, rfl, by decide +kernel⟩
theorem s_to_radix_inf {b r : Int} (h : 0 ≤ b) (hz : b % 2 ^ 63 = 2047 * 2 ^ 52) : ∃ d, IsS 3000 d ∧ Fd (Gw w mg mb) 3 678 [.int b, .int r] d := by
  refine fd_ex ok_to_radix rfl ?_
  conv => arg 5; whnf
  refine ex_ifd (fun i => (eb_call (cl (gv g_is_nan) (ea_cons (lv 0) ea_nil) (s_is_nan h)))) (fun h1 => ?_) (fun h1 => ?_)
  · walk_at "om"
  refine ex_ifd (fun i => (eb_call (cl (gv g_is_zero) (ea_cons (lv 0) ea_nil) (s_is_zero h)))) (fun h2 => ?_) (fun h2 => ?_)
  · walk_at "om"
  refine ex_cons (fun i => es_set 2 rfl (ev_ifS (eb_call (cl (gv g_is_negative) (ea_cons (lv 0) ea_nil) (s_is_negative h))) (fun _ => ev_str) (fun _ => ev_str)) (fun _ => rfl)) ?_
  have hs : ∀ c : Bool, (if c = true then (Str.ofString "-") else (Str.ofString "")).length ≤ 1 := by decide +kernel
  have hs := hs (decide (b / 2 ^ 63 = 1))
  have hi : (Str.ofString "Infinity").length = 8 := by decide +kernel
  refine ex_ifd (fun i => (eb_call (cl (gv g_is_inf) (ea_cons (lv 0) ea_nil) (s_is_inf h)))) (fun h3 => ?_) (fun h3 => absurd hz h3)
  exact ex_ret (fun i => ev_bin (lv 2) ev_str (bin_cat (by rw [hi, sizeLine_eq]; walk_at "om"))) ⟨_, rfl, by rw [cat_len, hi]; walk_at "om"⟩
theorem s_to_radix_W {b g r : Int} {m : Nat} {e : Int} (h : Wd b g m e) (hr : 2 ≤ r) (hr2 : r ≤ 36) : ∃ d, IsS 3000 d ∧ Fd (Gw w mg mb) 3 678 [.int b, .int r] d := by
  obtain ⟨M, hM, a1, a2, a3, a4, a5⟩ := h.facts
  obtain ⟨n1, n2, n3, n4, n5⟩ := h.nn
  have := h.g0; have := h.g1; have := h.e0; have := h.e1
  have hp := s_parts_W (w := w) (mg := mg) (mb := mb) h
  rw [hM] at hp
  generalize hq : (bl m : Int) + e - 53 = q at hp
  have up : (0 : Int) < 1 * 2 ^ (0 - q).toNat := by rw [Int.one_mul]; exact pow_pos2 _
  have ulog : (1 * 2 ^ (0 - q).toNat : Int) ≤ 2 ^ 100 := by
    rw [Int.one_mul]
    exact_mod_cast Nat.pow_le_pow_right (n := 2) (by decide) (show (0 - q).toNat ≤ 100 by walk_at "om")
  generalize hu : (1 * 2 ^ (0 - q).toNat : Int) = u at up ulog
  have m0 := Int.emod_nonneg M (show u ≠ 0 by walk_at "om")
  have m1 := Int.emod_lt_of_pos M up
  obtain ⟨d1, ⟨ns, c, rfl, f1, f2, f3, f4⟩, hrest⟩ := s_rest_figures (w := w) (mg := mg) (mb := mb) (r := 2 * (M % u)) (unit := 2 * u) hr hr2 (by walk_at "om") (by walk_at "om") (by walk_at "om") (by walk_at "om")
  have q0 : 0 ≤ M / u := Int.ediv_nonneg (by walk_at "om") (by walk_at "om")
  have q1 : M / u ≤ M := Int.ediv_le_self _ (by walk_at "om")
  obtain ⟨d2, ⟨x2, rfl, l2⟩, hwh⟩ := s_whole_figures (w := w) (mg := mg) (mb := mb) (n := M / u + c) (by walk_at "om") (by walk_at "om") hr hr2
  have hs : ∀ c : Bool, (if c = true then (Str.ofString "-") else (Str.ofString "")).length ≤ 1 := by decide +kernel
  have hs := hs (decide (b / 2 ^ 63 = 1))
  have hd : (Str.ofString ".").length = 1 := by decide +kernel
  have e1 : (Str.ofString "0123456789abcdefghijklmnopqrstuvwxyz").length = 36 := by decide +kernel
  have hfl : (figs ns).length = ns.length := List.length_map _
  have hj := join_one (figs_one ns)
  refine fd_ex ok_to_radix rfl ?_
  conv => arg 5; whnf
  refine ex_ifd (fun i => (eb_call (cl (gv g_is_nan) (ea_cons (lv 0) ea_nil) (s_is_nan n1)))) (fun h1 => ?_) (fun h1 => ?_)
  · walk_at "om"
  refine ex_ifd (fun i => (eb_call (cl (gv g_is_zero) (ea_cons (lv 0) ea_nil) (s_is_zero n1)))) (fun h2 => ?_) (fun h2 => ?_)
  · walk_at "om"
  refine ex_cons (fun i => es_set 2 rfl (ev_ifS (eb_call (cl (gv g_is_negative) (ea_cons (lv 0) ea_nil) (s_is_negative n1))) (fun _ => ev_str) (fun _ => ev_str)) (fun _ => rfl)) ?_
  refine ex_ifd (fun i => (eb_call (cl (gv g_is_inf) (ea_cons (lv 0) ea_nil) (s_is_inf n1)))) (fun h3 => ?_) (fun h3 => ?_)
  · walk_at "om"
  refine ex_cons (fun i => es_unpack [3, 4, 5] rfl rfl rfl (cl (gv g_parts) (ea_cons (lv 0) ea_nil) hp) (fun _ => rfl) (fun _ => rfl)) ?_
  refine ex_ifd (fun i => (eb_cmp (lv 5) ev_int cmp_ge rfl).eb) (fun h4 => ?_) (fun h4 => ?_)
  · walk_at "om"
  refine ex_cons (fun i => es_set 6 rfl (ev_bin ev_int (ev_bin ev_int (lv 5) bin_sub) (bin_shl (by walk_at "om") (by walk_at "sh"))) (fun _ => rfl)) ?_
  rw [hu]
  refine ex_cons (fun i => es_unpack [7, 8] rfl rfl rfl (cl (gv g_rest_figures) (ea_cons (ev_bin ev_int (ev_bin (lv 4) (lv 6) (bin_mod up)) (bin_mul (by walk_at "ml"))) (ea_cons (ev_bin ev_int (lv 6) (bin_mul (by walk_at "ml"))) (ea_cons (lv 1) ea_nil))) hrest) (fun _ => rfl) (fun _ => rfl)) ?_
  refine ex_cons (fun i => es_set 9 rfl (ev_bin (lv 2) (cl (gv g_whole_figures) (ea_cons (ev_bin (ev_bin (lv 4) (lv 6) (bin_div up (div_sz 256 (by walk_at "om") (by decide)))) (lv 8) bin_add) (ea_cons (lv 1) ea_nil)) hwh) (bin_cat (by rw [sizeLine_eq]; walk_at "om"))) (fun _ => rfl)) ?_
  refine ex_ret (fun i => ev_ifS (eb_cmp (clB (bv b_len) (ea_cons (lv 7) ea_nil) (bi_lenL (by rw [List.length_map]; walk_at "om"))) ev_int cmp_eq rfl).eb (fun _ => (lv 9)) (fun _ => (ev_bin (ev_bin (lv 9) ev_str (bin_cat (by rw [cat_len, hd, sizeLine_eq]; walk_at "om")))
    (ev_join ev_str (ev_comp (ds := ns.map .int) (es := (figs ns).map .str) (cells := []) (cl := []) (compOk (by kernel_rfl) (by kernel_rfl) (by kernel_rfl) (by kernel_rfl) (by kernel_rfl) (fun p hp => by cases hp)) (lv 7) (by simp [figs]) (by rw [List.length_map]; walk_at "om") ?_ ?_ ?_) (join_ok (figs_one ns) (by walk_at "om"))) (bin_cat (by rw [cat_len, cat_len, hd, sizeLine_eq]; walk_at "om"))))) ⟨_, rfl, ?_⟩
  · intro d hd
    obtain ⟨n, _, rfl⟩ := List.mem_map.mp hd
    rfl
  · intro d hd
    obtain ⟨n, _, rfl⟩ := List.mem_map.mp hd
    exact .flat _ rfl
  · intro C hs j d e _ _ _ h1 h2
    obtain ⟨n, hn, rfl⟩ : ∃ n, ns[j]? = some n ∧ d = .int n := by
      rw [List.getElem?_map] at h1
      cases hn : ns[j]? with
      | none => rw [hn] at h1; cases h1
      | some n => rw [hn] at h1; exact ⟨n, rfl, (Option.some.inj h1).symm⟩
    have he : e = .str ⟨#[(Str.ofString "0123456789abcdefghijklmnopqrstuvwxyz").cps.getD n.toNat 0]⟩ := by
      unfold figs at h2
      rw [List.getElem?_map, List.getElem?_map, hn] at h2
      exact (Option.some.inj h2).symm
    subst he
    have hnf := f1 n (List.mem_of_getElem? hn)
    exact ev_itemS (gv g_FIGURES) (lv 0) hnf.1 (by rw [e1]; walk_at "om") (by rw [e1]; decide)
  · split
    · rw [cat_len]; walk_at "om"
    · rw [cat_len, cat_len, cat_len, hd]; walk_at "om"
end
section
variable {w : World} {mg mb : Str → Option Value}

/-! ## sizes -/
structure Bz (k : Nat) (x : Int) : Prop where
  nn : 0 ≤ x
  lt : x < 2 ^ k
theorem Bz.na {k : Nat} {x : Int} (h : Bz k x) : x.natAbs < 2 ^ k := by have := h.nn; have := h.lt; have := pow_cast k; walk_at "om"
theorem Bz.mono {j k : Nat} {x : Int} (h : Bz j x) (hk : j ≤ k) : Bz k x := ⟨h.nn, Int.lt_of_lt_of_le h.lt (by exact_mod_cast Nat.pow_le_pow_right (n := 2) (by decide) hk)⟩
theorem Bz.mul {j k : Nat} {x y : Int} (h : Bz j x) (g : Bz k y) : Bz (j + k) (x * y) := ⟨Int.mul_nonneg h.nn g.nn, by
  have h1 := h.na
  have h2 := g.na
  have h3 : (x * y).natAbs < 2 ^ (j + k) := by rw [Int.natAbs_mul, Nat.pow_add]; exact Nat.mul_lt_mul_of_lt_of_lt h1 h2
  have := Int.mul_nonneg h.nn g.nn
  have := pow_cast (j + k)
  walk_at "om"⟩
theorem Bz.add {k : Nat} {x y : Int} (h : Bz k x) (g : Bz k y) : Bz (k + 1) (x + y) := ⟨by have := h.nn; have := g.nn; walk_at "om", by have := h.lt; have := g.lt; rw [Int.pow_succ]; walk_at "om"⟩
theorem Bz.le {k : Nat} {x y : Int} (h : Bz k x) (h0 : 0 ≤ y) (hy : y ≤ x) : Bz k y := ⟨h0, Int.lt_of_le_of_lt hy h.lt⟩
theorem Bz.ok {j k : Nat} {x y : Int} (h : Bz j x) (g : Bz k y) (hj : j ≤ 2 ^ 20) (hk : k ≤ 2 ^ 20) : IntMulOk x y := mul_bits j k h.na g.na hj hk
theorem Bz.log {k : Nat} {x : Int} (h : Bz k x) (hk : 0 < k) : x.natAbs.log2 < k := log2_lt_of h.na hk
theorem bz10 (n : Nat) : Bz (4 * n + 1) (10 ^ n) := ⟨Int.pow_nonneg (by decide), by
  have h : (10 : Int) ^ n ≤ 16 ^ n := by exact_mod_cast Nat.pow_le_pow_left (by decide : 10 ≤ 16) n
  have e : (16 : Int) ^ n = 2 ^ (4 * n) := by rw [Int.pow_mul]; rfl
  have := pow_pos2 (4 * n)
  rw [Int.pow_succ]; walk_at "om"⟩
theorem bz10t {f : Int} {k : Nat} (h : f ≤ k) : Bz (4 * k + 1) (10 ^ f.toNat) := (bz10 f.toNat).mono (by walk_at "om")
theorem pw10 {f : Int} (h0 : 0 ≤ f) (h : f ≤ 1000) : (Builtin.Int.intBits 10 : Int) * f ≤ 2 ^ 27 := by
  have : (Builtin.Int.intBits 10 : Int) = 4 := by decide +kernel
  rw [this]; walk_at "om"

/-! ## the shortest text -/
theorem s_scaled {m p : Int} (h0 : Bz 60 m) (p0 : -200 ≤ p) (p1 : p < 0) : ∃ d, (∃ n a u : Int, d = .tup [.int n, .int a, .int 1, .int u] ∧ Bz 70 n ∧ Bz 70 a ∧ 1 ≤ a ∧ Bz 300 u ∧ 0 < u) ∧ Fd (Gw w mg mb) 1 685 [.int m, .int p] d := by
  refine fd_ex ok_scaled rfl ?_
  conv => arg 5; whnf
  refine ex_cons (fun i => es_set 2 rfl (ev_and (ev_cmp (lv 0) (gv g_HIDDEN_BIT_numshow) cmp_eq rfl) (fun _ => (ev_bone (ev_cmp (lv 1) (gv g_LEAST_POWER_numshow) cmp_gt rfl)))) (fun _ => rfl)) ?_
  refine ex_cons (fun i => es_set 3 rfl (ev_ifI (eb_name (lv 2)) (fun _ => ev_int) (fun _ => ev_int)) (fun _ => rfl)) ?_
  refine ex_cons (fun i => es_set 4 rfl (ev_ifI (eb_name (lv 2)) (fun _ => ev_int) (fun _ => ev_int)) (fun _ => rfl)) ?_
  generalize (decide (m = 4503599627370496) && decide (-1074 < p)) = c
  have hf : Bz 3 (if c = true then (4 : Int) else 2) := by cases c <;> exact ⟨by decide, by decide⟩
  have hf0 : (0 : Int) < (if c = true then (4 : Int) else 2) := by cases c <;> decide
  have ha : Bz 3 (if c = true then (2 : Int) else 1) := by cases c <;> exact ⟨by decide, by decide⟩
  have ha0 : (1 : Int) ≤ (if c = true then (2 : Int) else 1) := by cases c <;> decide
  generalize (if c = true then (4 : Int) else 2) = f at *
  generalize (if c = true then (2 : Int) else 1) = a at *
  refine ex_ifd (fun i => (eb_cmp (lv 1) ev_int cmp_ge rfl).eb) (fun h1 => by walk_at "om") (fun h1 => ?_)
  have hp : Bz 201 ((2 : Int) ^ (0 - p).toNat) := ⟨Int.le_of_lt (pow_pos2 _), by exact_mod_cast Nat.pow_lt_pow_right (a := 2) (by decide) (show (0 - p).toNat < 201 by walk_at "om")⟩
  exact ex_ret (fun i => ev_tup (ea_cons (ev_bin (lv 0) (lv 3) (bin_mul (h0.ok hf (by decide) (by decide)))) (ea_cons (lv 4) (ea_cons ev_int (ea_cons (ev_bin (lv 3) (ev_bin ev_int (lv 1) bin_sub) (bin_shl (by walk_at "om") (shl_sz 3 hf.na (by walk_at "om")))) ea_nil)))))
    ⟨_, _, _, rfl, (h0.mul hf).mono (by decide), ha.mono (by decide), ha0, (hf.mul hp).mono (by decide), Int.mul_pos hf0 (pow_pos2 _)⟩

theorem s_decimal_place {t u : Int} (ht : Bz 400 t) (hu : Bz 400 u) : ∃ d, (∃ p : Int, d = .int p ∧ -401 ≤ p ∧ p ≤ 402) ∧ Fd (Gw w mg mb) 1 692 [.int t, .int u] d := by
  have lt := len_str ht.na (by decide)
  have lu := len_str hu.na (by decide)
  have st : t.natAbs.log2 < 1920 := Nat.lt_trans (ht.log (by decide)) (by decide)
  have su : u.natAbs.log2 < 1920 := Nat.lt_trans (hu.log (by decide)) (by decide)
  refine fd_ex ok_decimal_place rfl ?_
  conv => arg 5; whnf
  refine ex_cons (fun i => es_set 2 rfl (ev_bin (clB (bv b_len) (ea_cons (clT (bv b_str) (ea_cons (lv 0) ea_nil) (bi_str st)) ea_nil) (bi_lenS (by walk_at "om"))) (clB (bv b_len) (ea_cons (clT (bv b_str) (ea_cons (lv 1) ea_nil) (bi_str su)) ea_nil) (bi_lenS (by walk_at "om"))) bin_sub) (fun _ => rfl)) ?_
  have f0 : -401 ≤ ((Str.ofString (toString t)).length : Int) - (Str.ofString (toString u)).length := by walk_at "om"
  have f1 : ((Str.ofString (toString t)).length : Int) - (Str.ofString (toString u)).length ≤ 401 := by walk_at "om"
  generalize ((Str.ofString (toString t)).length : Int) - (Str.ofString (toString u)).length = f at *
  refine ex_if (fun i => (eb_and (eb_cmp (lv 2) ev_int cmp_ge rfl).eb (fun q => (eb_and (eb_cmp (lv 0) (ev_bin (lv 1) (ev_bin ev_int (lv 2) (bin_pow (of_decide_eq_true q) (pw10 (of_decide_eq_true q) (by walk_at "om")))) (bin_mul (hu.ok (bz10t (k := 401) (by walk_at "om")) (by decide) (by decide)))) cmp_ge rfl).eb (fun _ => eb_and_nil)))).eb) (fun h1 => ?_) (fun h1 => ?_)
  · exact ex_ret (fun i => ev_bin (lv 2) ev_int bin_add) ⟨_, rfl, by walk_at "om", by walk_at "om"⟩
  · refine ex_ret (fun i => ev_ifI (eb_and (eb_cmp (lv 2) ev_int cmp_lt rfl).eb (fun q => (eb_and (eb_cmp (ev_bin (lv 0) (ev_bin ev_int (ev_bin ev_int (lv 2) bin_sub) (bin_pow (by have := of_decide_eq_true q; walk_at "om") (pw10 (by have := of_decide_eq_true q; walk_at "om") (by walk_at "om")))) (bin_mul (ht.ok (bz10t (k := 401) (by walk_at "om")) (by decide) (by decide)))) (lv 1) cmp_ge rfl).eb (fun _ => eb_and_nil)))).eb (fun _ => (ev_bin (lv 2) ev_int bin_add)) (fun _ => (lv 2))) ⟨_, rfl, ?_⟩
    split <;> walk_at "om"
end
section
variable {w : World} {mg mb : Str → Option Value}

theorem s_first_place {n a u : Int} {ev : Bool} (hn : Bz 399 n) (ha : Bz 399 a) (hu : Bz 400 u) : ∃ d, (∃ p : Int, d = .int p ∧ -401 ≤ p ∧ p ≤ 403) ∧ Fd (Gw w mg mb) 2 699 [.int n, .int a, .int u, .bool ev] d := by
  obtain ⟨d, ⟨f, rfl, f0, f1⟩, hd⟩ := s_decimal_place (w := w) (mg := mg) (mb := mb) (hn.mono (k := 400) (by decide)) hu
  have he := hn.add ha
  refine fd_ex ok_first_place rfl ?_
  conv => arg 5; whnf
  refine ex_cons (fun i => es_set 4 rfl (cl (gv g_decimal_place) (ea_cons (lv 0) (ea_cons (lv 2) ea_nil)) hd) (fun _ => rfl)) ?_
  refine ex_cons (fun i => es_set 5 rfl (ev_bin (lv 0) (lv 1) bin_add) (fun _ => rfl)) ?_
  refine ex_ifd (fun i => (eb_cmp (lv 4) ev_int cmp_ge rfl).eb) (fun h1 => ?_) (fun h1 => ?_)
  · refine ex_cons (fun i => es_set 6 rfl (ev_bin (lv 2) (ev_bin ev_int (lv 4) (bin_pow h1 (pw10 h1 (by walk_at "om")))) (bin_mul (hu.ok (bz10t (k := 402) (by walk_at "om")) (by decide) (by decide)))) (fun _ => rfl)) ?_
    refine ex_ret (fun i => ev_ifI (eb_or (eb_cmp (lv 5) (lv 6) cmp_gt rfl).eb (fun _ => (eb_or (eb_and (eb_name (lv 3)) (fun _ => (eb_and (eb_cmp (lv 5) (lv 6) cmp_eq rfl).eb (fun _ => eb_and_nil)))).eb (fun _ => eb_or_nil)))).eb (fun _ => (ev_bin (lv 4) ev_int bin_add)) (fun _ => (lv 4))) ⟨_, rfl, ?_⟩
    split <;> walk_at "om"
  · refine ex_cons (fun i => es_unpackS [5, 6] rfl rfl rfl (ev_tup (ea_cons (ev_bin (lv 5) (ev_bin ev_int (ev_bin ev_int (lv 4) bin_sub) (bin_pow (by walk_at "om") (pw10 (by walk_at "om") (by walk_at "om")))) (bin_mul (he.ok (bz10t (k := 401) (by walk_at "om")) (by decide) (by decide)))) (ea_cons (lv 2) ea_nil))) (fun _ => rfl) (by kernel_rfl)) ?_
    refine ex_ret (fun i => ev_ifI (eb_or (eb_cmp (lv 5) (lv 6) cmp_gt rfl).eb (fun _ => (eb_or (eb_and (eb_name (lv 3)) (fun _ => (eb_and (eb_cmp (lv 5) (lv 6) cmp_eq rfl).eb (fun _ => eb_and_nil)))).eb (fun _ => eb_or_nil)))).eb (fun _ => (ev_bin (lv 4) ev_int bin_add)) (fun _ => (lv 4))) ⟨_, rfl, ?_⟩
    split <;> walk_at "om"

theorem s_last_figure {f r u : Int} {lo hi : Bool} : ∃ d, (∃ p : Int, d = .int p ∧ f ≤ p ∧ p ≤ f + 1) ∧ Fd (Gw w mg mb) 1 713 [.int f, .int r, .int u, .bool lo, .bool hi] d := by
  refine fd_ex ok_last_figure rfl ?_
  conv => arg 5; whnf
  refine ex_if (fun i => (eb_and (eb_name (lv 3)) (fun _ => (eb_and (eb_name (lv 4)) (fun _ => eb_and_nil)))).eb) (fun h1 => ?_) (fun h1 => ?_)
  · refine ex_ifd (fun i => (eb_cmp (ev_bin ev_int (lv 1) (bin_mul (by walk_at "ml"))) (lv 2) cmp_eq rfl).eb) (fun h2 => ?_) (fun h2 => ?_)
    · exact ex_ret (fun i => ev_bin (lv 0) (ev_bin (lv 0) ev_int (bin_mod (by walk_at "z"))) bin_add) ⟨_, rfl, by walk_at "om", by walk_at "om"⟩
    · refine ex_ret (fun i => ev_bin (lv 0) (clT (bv b_int) (ea_cons (ev_cmp (ev_bin ev_int (lv 1) (bin_mul (by walk_at "ml"))) (lv 2) cmp_gt rfl) ea_nil) bi_int) bin_add) ⟨_, rfl, ?_⟩
      split <;> walk_at "om"
  · refine ex_ret (fun i => ev_bin (lv 0) (clT (bv b_int) (ea_cons (lv 4) ea_nil) bi_int) bin_add) ⟨_, rfl, ?_⟩
    split <;> walk_at "om"

abbrev σh (p0 p1 p2 p3 : Int) (ev : Bool) (n a b u p : Int) (l : Addr) (z1 z2 z3 : Option D) : Lo := [some (.int p0), some (.int p1), some (.int p2), some (.int p3), some (.bool ev), some (.int n), some (.int a), some (.int b), some (.int u), some (.int p), none, some (.ref l), z1, z2, z3]
noncomputable def Sh (n : Nat) (ys : List Str) : Prop := ∀ y ∈ ys, y.length ≤ n
theorem Sh.sum {n : Nat} {ys : List Str} (h : Sh n ys) : (ys.map (·.length)).sum ≤ ys.length * n := by
  induction ys with
  | nil => exact Nat.zero_le _
  | cons y ys ih =>
    have h1 := h y (List.Mem.head _)
    have h2 := ih fun z hz => h z (List.Mem.tail _ hz)
    simp only [List.map_cons, List.sum_cons, List.length_cons, Nat.succ_mul]
    walk_at "om"
theorem Sh.app {n : Nat} {ys : List Str} (h : Sh n ys) {x : Str} (hx : x.length ≤ n) : Sh n (ys ++ [x]) := fun y hy => by
  rcases List.mem_append.mp hy with q | q
  · exact h y q
  · rw [List.mem_singleton] at q; subst q; exact hx
noncomputable def ShRes (d : D) : Prop := ∃ (x : Str) (p : Int), d = .tup [.str x, .int p] ∧ x.length ≤ 2000000 ∧ -401 ≤ p ∧ p ≤ 403

theorem sh_loop {ι : Type} {C : ι → Cx} {a : ι → Addr} {t : Expr} {b : List Stmt} {p0 p1 p2 p3 u p : Int} {ev : Bool} (hu : 0 < u) (hub : Bz 1913 u)
    (ht : ∀ i n x y l z1 z2 z3, EB (C i) (σh p0 p1 p2 p3 ev n x y u p (a i) z1 z2 z3) [(a i, l)] t true)
    (hb : ∀ (n x y : Int) (ys : List Str), Bz 1913 n → 1 ≤ x → 1 ≤ y → ys.length ≤ 800 → Sh 2200 ys →
      (∃ d, ShRes d ∧ ∀ i z1 z2 z3, ES (C i) (σh p0 p1 p2 p3 ev n x y u p (a i) z1 z2 z3) [(a i, ys.map .str)] b (.ret d)) ∨
      (x * 10 ≤ u ∧ ∃ s y1 y2 y3, s.length ≤ 2200 ∧ ∀ i z1 z2 z3, ES (C i) (σh p0 p1 p2 p3 ev n x y u p (a i) z1 z2 z3) [(a i, ys.map .str)] b (.next (σh p0 p1 p2 p3 ev (n * 10 % u) (x * 10) (y * 10) u p (a i) y1 y2 y3) [(a i, (ys ++ [s]).map .str)]))) :
    ∀ (k : Nat) (n x y : Int) (ys : List Str) (z1 z2 z3 : Option D), Bz 1913 n → 1 ≤ x → 1 ≤ y → u < x * 8 ^ k → ys.length + k ≤ 750 → Sh 2200 ys →
      ∃ d, ShRes d ∧ ∀ i, EW (C i) (σh p0 p1 p2 p3 ev n x y u p (a i) z1 z2 z3) [(a i, ys.map .str)] t b (.ret d) := by
  intro k
  induction k with
  | zero =>
    intro n x y ys z1 z2 z3 hn hx hy hk hl hs
    rcases hb n x y ys hn hx hy (by walk_at "om") hs with ⟨d, hd, h⟩ | ⟨hc, _⟩
    · exact ⟨d, hd, fun i => ew_ret (ht i n x y _ z1 z2 z3) (h i z1 z2 z3)⟩
    · exfalso; simp at hk; walk_at "om"
  | succ k ih =>
    intro n x y ys z1 z2 z3 hn hx hy hk hl hs
    rcases hb n x y ys hn hx hy (by walk_at "om") hs with ⟨d, hd, h⟩ | ⟨hc, s, y1, y2, y3, s1, h⟩
    · exact ⟨d, hd, fun i => ew_ret (ht i n x y _ z1 z2 z3) (h i z1 z2 z3)⟩
    · have hk2 : u < x * 10 * 8 ^ k := by
        have e : x * 8 ^ (k + 1) = x * 8 * 8 ^ k := by rw [Int.pow_succ, Int.mul_assoc, Int.mul_comm (8 ^ k) 8]
        have h2 : x * 8 * 8 ^ k ≤ x * 10 * 8 ^ k := Int.mul_le_mul_of_nonneg_right (by walk_at "om") (Int.pow_nonneg (by decide))
        walk_at "om"
      have hl' : (ys ++ [s]).length = ys.length + 1 := by simp
      obtain ⟨d, hd, h'⟩ := ih (n * 10 % u) (x * 10) (y * 10) (ys ++ [s]) y1 y2 y3 (hub.le (Int.emod_nonneg _ (by walk_at "om")) (Int.le_of_lt (Int.emod_lt_of_pos _ hu))) (by walk_at "om") (by walk_at "om") hk2 (by walk_at "om") (hs.app s1)
      exact ⟨d, hd, fun i => ew_next1 (ht i n x y _ z1 z2 z3) (h i z1 z2 z3) (h' i)⟩

theorem sh_while {ι : Type} {C : ι → Cx} {a : ι → Addr} {t : Expr} {b rest : List Stmt} {pos : Pos} {p0 p1 p2 p3 n x y u p : Int} {ev : Bool} (hu : 0 < u) (hub : Bz 1913 u) (hn : Bz 1913 n) (hx : 1 ≤ x) (hy : 1 ≤ y)
    (ht : ∀ i n x y l z1 z2 z3, EB (C i) (σh p0 p1 p2 p3 ev n x y u p (a i) z1 z2 z3) [(a i, l)] t true)
    (hb : ∀ (n x y : Int) (ys : List Str), Bz 1913 n → 1 ≤ x → 1 ≤ y → ys.length ≤ 800 → Sh 2200 ys →
      (∃ d, ShRes d ∧ ∀ i z1 z2 z3, ES (C i) (σh p0 p1 p2 p3 ev n x y u p (a i) z1 z2 z3) [(a i, ys.map .str)] b (.ret d)) ∨
      (x * 10 ≤ u ∧ ∃ s y1 y2 y3, s.length ≤ 2200 ∧ ∀ i z1 z2 z3, ES (C i) (σh p0 p1 p2 p3 ev n x y u p (a i) z1 z2 z3) [(a i, ys.map .str)] b (.next (σh p0 p1 p2 p3 ev (n * 10 % u) (x * 10) (y * 10) u p (a i) y1 y2 y3) [(a i, (ys ++ [s]).map .str)]))) :
    Ex C (fun i => σh p0 p1 p2 p3 ev n x y u p (a i) none none none) (fun i => [(a i, [])]) (.While t b [] pos :: rest) ShRes := by
  obtain ⟨d, hd, h⟩ := sh_loop hu hub ht hb 638 n x y [] none none none hn hx hy (by
    have := (hub.mono (k := 1914) (by decide)).lt
    have e : (2 : Int) ^ 1914 = 8 ^ 638 := by rw [show (8 : Int) = 2 ^ 3 from rfl, ← Int.pow_mul]
    have h2 : (1 : Int) * 8 ^ 638 ≤ x * 8 ^ 638 := Int.mul_le_mul_of_nonneg_right hx (Int.pow_nonneg (by decide))
    rw [Int.one_mul] at h2
    rw [e] at this
    exact Int.lt_of_lt_of_le this h2) (by decide) (fun y hy => by cases hy)
  exact ex_while_ret (fun i => h i) hd

set_option maxHeartbeats 8000000 in
theorem s_shortest_W {b g : Int} {m : Nat} {e : Int} (h : Wd b g m e) : ∃ d, ShRes d ∧ Fd (Gw w mg mb) 3 706 [.int b] d := by
  obtain ⟨M, hM, a1, a2, a3, a4, a5⟩ := h.facts
  have := h.g0; have := h.g1; have := h.e0; have := h.e1
  have hp := s_parts_W (w := w) (mg := mg) (mb := mb) h
  rw [hM] at hp
  generalize hq : (bl m : Int) + e - 53 = q at hp
  obtain ⟨d1, ⟨n, a, u, rfl, b1, b2, b3, b4, b5⟩, hsc⟩ := s_scaled (w := w) (mg := mg) (mb := mb) (m := M) (p := q) ⟨by walk_at "om", by walk_at "om"⟩ (by walk_at "om") (by walk_at "om")
  obtain ⟨d2, ⟨p, rfl, c1, c2⟩, hfp⟩ := s_first_place (w := w) (mg := mg) (mb := mb) (ev := decide (M % 2 = 0)) (b1.mono (k := 399) (by decide)) (b2.mono (k := 399) (by decide)) (b4.mono (k := 400) (by decide))
  generalize hev : decide (M % 2 = 0) = ev at hfp
  refine fd_ex ok_shortest rfl ?_
  conv => arg 5; whnf
  refine ex_cons (fun i => es_unpack [1, 2, 3] rfl rfl rfl (cl (gv g_parts) (ea_cons (lv 0) ea_nil) hp) (fun _ => rfl) (fun _ => rfl)) ?_
  refine ex_cons (fun i => es_set 4 rfl (ev_cmp (ev_bin (lv 2) ev_int (bin_mod (by walk_at "z"))) ev_int cmp_eq rfl) (fun _ => rfl)) ?_
  rw [hev]
  refine ex_cons (fun i => es_unpack [5, 6, 7, 8] rfl rfl rfl (cl (gv g_scaled) (ea_cons (lv 2) (ea_cons (lv 3) ea_nil)) hsc) (fun _ => rfl) (fun _ => rfl)) ?_
  refine ex_cons (fun i => es_set 9 rfl (cl (gv g_first_place) (ea_cons (lv 5) (ea_cons (lv 6) (ea_cons (lv 8) (ea_cons (lv 4) ea_nil)))) hfp) (fun _ => rfl)) ?_
  refine ex_ifJ (V := Int × Int × Int × Int) (fun v i => [some (.int b), some (.int g), some (.int M), some (.int q), some (.bool ev), some (.int v.1), some (.int v.2.1), some (.int v.2.2.1), some (.int v.2.2.2), some (.int p), none, none, none, none, none])
    (fun v => Bz 1913 v.1 ∧ 1 ≤ v.2.1 ∧ 1 ≤ v.2.2.1 ∧ 0 < v.2.2.2 ∧ Bz 1913 v.2.2.2) (fun i => (eb_cmp (lv 9) ev_int cmp_ge rfl).eb) (fun h1 => ?_) (fun h1 => ?_) (fun v hv => ?_)
  · have hu2 := b4.mul (bz10t (f := p) (k := 403) (by walk_at "om"))
    have hu3 : 0 < u * 10 ^ p.toNat := Int.mul_pos b5 (Int.pow_pos (by decide))
    refine ⟨(n, a, 1, u * 10 ^ p.toNat), ⟨b1.mono (by decide), b3, Int.le_refl 1, hu3, hu2.mono (by decide)⟩, fun i => ?_⟩
    refine es_cons (es_set 8 rfl (ev_bin (lv 8) (ev_bin ev_int (lv 9) (bin_pow h1 (pw10 h1 (by walk_at "om")))) (bin_mul (b4.ok (bz10t (k := 403) (by walk_at "om")) (by decide) (by decide)))) (fun _ => rfl)) ?_
    exact es_nil' (by kernel_rfl)
  · have hf0 : 1 ≤ (10 : Int) ^ (0 - p).toNat := by have : (0 : Int) < 10 ^ (0 - p).toNat := Int.pow_pos (by decide); walk_at "om"
    have hf1 := bz10t (f := 0 - p) (k := 401) (by walk_at "om")
    have hpw := bin_pow (G := Gw w mg mb) (a := 10) (b := 0 - p) (by walk_at "om") (pw10 (by walk_at "om") (by walk_at "om"))
    generalize (10 : Int) ^ (0 - p).toNat = F at *
    have hx : 1 ≤ a * F := by
      have := Int.mul_le_mul b3 hf0 (by decide) (show (0 : Int) ≤ a by walk_at "om")
      rwa [Int.one_mul] at this
    have hy : 1 ≤ 1 * F := by walk_at "om"
    refine ⟨(n * F, a * F, 1 * F, u), ⟨(b1.mul hf1).mono (by decide), hx, hy, b5, b4.mono (by decide)⟩, fun i => ?_⟩
    refine es_cons (es_set 10 rfl (ev_bin ev_int (ev_bin ev_int (lv 9) bin_sub) hpw) (fun _ => rfl)) ?_
    refine es_cons (es_unpackS [5, 6, 7] rfl rfl rfl (ev_tup (ea_cons (ev_bin (lv 5) (lv 10) (bin_mul (b1.ok hf1 (by decide) (by decide)))) (ea_cons (ev_bin (lv 6) (lv 10) (bin_mul (b2.ok hf1 (by decide) (by decide)))) (ea_cons (ev_bin (lv 7) (lv 10) (bin_mul (IntMulOk.of_left (by decide)))) ea_nil)))) (fun _ => rfl) (by kernel_rfl)) ?_
    refine es_forget 10 ?_
    exact es_nil' (by kernel_rfl)
  · obtain ⟨n, x, y, u⟩ := v
    obtain ⟨v1, v2, v3, v4, v5⟩ := hv
    dsimp only at v1 v2 v3 v4 v5
    refine ex_new 11 (fun _ => rfl) ?_ (fun _ => rfl)
    refine ex_sig (σ' := fun i => σh b g M q ev n x y u p i.2 none none none) (fun i => by kernel_rfl) ?_
    refine sh_while v4 v5 v1 v2 v3 (fun i n x y l z1 z2 z3 => ?_) (fun n x y ys r1 r2 r3 r4 r5 => ?_)
    · exact eb_const ev_bool
    · have hu : u.natAbs.log2 < 9000 := Nat.lt_trans (v5.log (by decide)) (by decide)
      have r0 : 0 ≤ n * 10 % u := Int.emod_nonneg _ (by walk_at "om")
      have f1 : Bz 1917 (n * 10) := r1.mul (k := 4) (y := 10) ⟨by decide, by decide⟩
      have f2 : Bz 1917 (n * 10 / u) := f1.le (Int.ediv_nonneg f1.nn (by walk_at "om")) (Int.ediv_le_self _ f1.nn)
      have f3 := len_str f2.na (by decide)
      obtain ⟨d3, ⟨f, rfl, g1, g2⟩, hlf⟩ := s_last_figure (w := w) (mg := mg) (mb := mb) (f := n * 10 / u) (r := n * 10 % u) (u := u) (lo := (decide (n * 10 % u < y * 10) || (ev && decide (n * 10 % u = y * 10)))) (hi := (decide (u < n * 10 % u + x * 10) || (ev && decide (n * 10 % u + x * 10 = u))))
      have f4 : Bz 1918 f := ⟨by have := f2.nn; walk_at "om", by have := f2.lt; rw [Int.pow_succ]; have := pow_pos2 1917; walk_at "om"⟩
      have f5 := len_str f4.na (by decide)
      have em : ∀ s : Str, ys.map D.str ++ [D.str s] = (ys ++ [s]).map .str := fun s => by simp
      generalize hlo : (decide (n * 10 % u < y * 10) || (ev && decide (n * 10 % u = y * 10))) = lo at hlf
      generalize hhi : (decide (u < n * 10 % u + x * 10) || (ev && decide (n * 10 % u + x * 10 = u))) = hi at hlf
      cases hc : (lo || hi) with
      | true =>
        have r5' : Sh 2200 (ys ++ [Str.ofString (toString f)]) := r5.app (by walk_at "om")
        have hsum := r5'.sum
        have hl : (ys ++ [Str.ofString (toString f)]).length ≤ 801 := by simp; walk_at "om"
        have hm : (ys ++ [Str.ofString (toString f)]).length * 2200 ≤ 801 * 2200 := Nat.mul_le_mul_right _ hl
        have h0 : ("" : Str).length = 0 := by decide +kernel
        refine .inl ⟨.tup [.str (Txt.join "" (ys ++ [Str.ofString (toString f)])), .int p], ⟨_, _, rfl, by rw [join_len]; walk_at "om", c1, c2⟩, fun i z1 z2 z3 => ?_⟩
        refine es_forget 12 ?_
        refine es_forget 13 ?_
        refine es_forget 14 ?_
        refine es_cons (es_unpackS [5, 6, 7] rfl rfl rfl (ev_tup (ea_cons (ev_bin (lv 5) ev_int (bin_mul (by walk_at "ml"))) (ea_cons (ev_bin (lv 6) ev_int (bin_mul (by walk_at "ml"))) (ea_cons (ev_bin (lv 7) ev_int (bin_mul (by walk_at "ml"))) ea_nil)))) (fun _ => rfl) (by kernel_rfl)) ?_
        refine es_cons (es_set 12 rfl (ev_bin (lv 5) (lv 8) (bin_div v4 hu)) (fun _ => rfl)) ?_
        refine es_cons (es_set 5 rfl (ev_bin (lv 5) (lv 8) (bin_mod v4)) (fun _ => rfl)) ?_
        refine es_cons (es_set 13 rfl (ev_or (ev_cmp (lv 5) (lv 7) cmp_lt rfl) (fun _ => (ev_bone (ev_and (lv 4) (fun _ => (ev_bone (ev_cmp (lv 5) (lv 7) cmp_eq rfl))))))) (fun _ => rfl)) ?_
        refine es_cons (es_set 14 rfl (ev_or (ev_cmp (ev_bin (lv 5) (lv 6) bin_add) (lv 8) cmp_gt rfl) (fun _ => (ev_bone (ev_and (lv 4) (fun _ => (ev_bone (ev_cmp (ev_bin (lv 5) (lv 6) bin_add) (lv 8) cmp_eq rfl))))))) (fun _ => rfl)) ?_
        refine es_if (eb_or (eb_name (lv 13)) (fun _ => (eb_or (eb_name (lv 14)) (fun _ => eb_or_nil)))).eb (fun h1 => ?_) (fun h1 => ?_)
        · rw [hlo, hhi]
          refine es_sig (σ' := [some (.int b), some (.int g), some (.int M), some (.int q), some (.bool ev), some (.int (n * 10 % u)), some (.int (x * 10)), some (.int (y * 10)), some (.int u), some (.int p), none, some (.ref i.2), some (.int (n * 10 / u)), some (.bool lo), some (.bool hi)]) (by kernel_rfl) ?_
          refine es_cons1 (es_append 11 (clT (bv b_str) (ea_cons (cl (gv g_last_figure) (ea_cons (lv 12) (ea_cons (lv 5) (ea_cons (lv 8) (ea_cons (lv 13) (ea_cons (lv 14) ea_nil))))) hlf) ea_nil) (bi_str (Nat.lt_trans (f4.log (by decide)) (by decide)))) rfl (by rw [List.length_map]; walk_at "om")) ?_
          rw [em]
          exact es_ret (ev_tup (ea_cons (ev_join ev_str (ev_own 11) (by rw [h0]; walk_at "om")) (ea_cons (lv 9) ea_nil)))
        · rw [hlo, hhi, Bool.or_false, hc] at h1; cases h1
      | false =>
        have hx10 : x * 10 ≤ u := by
          rw [Bool.or_eq_false_iff] at hc
          have hh := hc.2
          rw [← hhi, Bool.or_eq_false_iff] at hh
          have := of_decide_eq_false hh.1
          walk_at "om"
        refine .inr ⟨hx10, Str.ofString (toString (n * 10 / u)), some (.int (n * 10 / u)), some (.bool lo), some (.bool hi), by walk_at "om", fun i z1 z2 z3 => ?_⟩
        refine es_forget 12 ?_
        refine es_forget 13 ?_
        refine es_forget 14 ?_
        refine es_cons (es_unpackS [5, 6, 7] rfl rfl rfl (ev_tup (ea_cons (ev_bin (lv 5) ev_int (bin_mul (by walk_at "ml"))) (ea_cons (ev_bin (lv 6) ev_int (bin_mul (by walk_at "ml"))) (ea_cons (ev_bin (lv 7) ev_int (bin_mul (by walk_at "ml"))) ea_nil)))) (fun _ => rfl) (by kernel_rfl)) ?_
        refine es_cons (es_set 12 rfl (ev_bin (lv 5) (lv 8) (bin_div v4 hu)) (fun _ => rfl)) ?_
        refine es_cons (es_set 5 rfl (ev_bin (lv 5) (lv 8) (bin_mod v4)) (fun _ => rfl)) ?_
        refine es_cons (es_set 13 rfl (ev_or (ev_cmp (lv 5) (lv 7) cmp_lt rfl) (fun _ => (ev_bone (ev_and (lv 4) (fun _ => (ev_bone (ev_cmp (lv 5) (lv 7) cmp_eq rfl))))))) (fun _ => rfl)) ?_
        refine es_cons (es_set 14 rfl (ev_or (ev_cmp (ev_bin (lv 5) (lv 6) bin_add) (lv 8) cmp_gt rfl) (fun _ => (ev_bone (ev_and (lv 4) (fun _ => (ev_bone (ev_cmp (ev_bin (lv 5) (lv 6) bin_add) (lv 8) cmp_eq rfl))))))) (fun _ => rfl)) ?_
        refine es_if (eb_or (eb_name (lv 13)) (fun _ => (eb_or (eb_name (lv 14)) (fun _ => eb_or_nil)))).eb (fun h1 => ?_) (fun h1 => ?_)
        · rw [hlo, hhi, Bool.or_false, hc] at h1; cases h1
        · rw [hlo, hhi]
          refine es_sig (σ' := [some (.int b), some (.int g), some (.int M), some (.int q), some (.bool ev), some (.int (n * 10 % u)), some (.int (x * 10)), some (.int (y * 10)), some (.int u), some (.int p), none, some (.ref i.2), some (.int (n * 10 / u)), some (.bool lo), some (.bool hi)]) (by kernel_rfl) ?_
          refine es_cons1 (es_append 11 (clT (bv b_str) (ea_cons (lv 12) ea_nil) (bi_str (Nat.lt_trans (f2.log (by decide)) (by decide)))) rfl (by rw [List.length_map]; walk_at "om")) ?_
          rw [em]
          exact es_nil
end
section
variable {w : World} {mg mb : Str → Option Value}

/-! ## the text laid out -/
theorem sgn_len (c : Bool) : (if c = true then (Str.ofString "-") else (Str.ofString "")).length ≤ 1 := by revert c; decide +kernel

theorem s_signed_exponent {e : Int} (h0 : -2000 ≤ e) (h1 : e ≤ 2000) : ∃ d, IsS 30 d ∧ Fd (Gw w mg mb) 1 720 [.int e] d := by
  have hb : Bz 11 (e.natAbs : Int) := ⟨by walk_at "om", by walk_at "om"⟩
  have hl := len_str hb.na (by decide)
  have c1 : (Str.ofString "e").length = 1 := by decide +kernel
  have c2 : ∀ c : Bool, (if c = true then (Str.ofString "-") else (Str.ofString "+")).length ≤ 1 := by decide +kernel
  have c2 := c2 (decide (e < 0))
  refine fd_ex ok_signed_exponent rfl ?_
  conv => arg 5; whnf
  exact ex_ret (fun i => ev_bin (ev_bin ev_str (ev_ifS (eb_cmp (lv 0) ev_int cmp_lt rfl).eb (fun _ => ev_str) (fun _ => ev_str)) (bin_cat (by rw [c1, sizeLine_eq]; walk_at "om"))) (clT (bv b_str) (ea_cons (clB (bv b_abs) (ea_cons (lv 0) ea_nil) bi_abs) ea_nil) (bi_str (Nat.lt_trans (hb.log (by decide)) (by decide)))) (bin_cat (by rw [cat_len, c1, sizeLine_eq]; walk_at "om")))
    ⟨_, rfl, by rw [cat_len, cat_len, c1]; walk_at "om"⟩

theorem s_with_exponent {x : Str} {e : Int} (hx : x.length ≤ 3000000) (h0 : -2000 ≤ e) (h1 : e ≤ 2000) : ∃ d, IsS 6000100 d ∧ Fd (Gw w mg mb) 2 727 [.str x, .int e] d := by
  obtain ⟨d1, ⟨y, rfl, hy⟩, hse⟩ := s_signed_exponent (w := w) (mg := mg) (mb := mb) h0 h1
  have c1 : (Str.ofString ".").length = 1 := by decide +kernel
  have c0 : (Str.ofString "").length = 0 := by decide +kernel
  have l1 := Txt.slice_le x (some 1) none
  have l2 := Txt.slice_le x none (some 1)
  have hr : (if decide ((1 : Int) < (x.length : Int)) = true then Str.ofString "." ++ Txt.slice x (some 1) none else Str.ofString "").length ≤ 3000001 := by
    split
    · rw [cat_len, c1]; walk_at "om"
    · rw [c0]; walk_at "om"
  refine fd_ex ok_with_exponent rfl ?_
  conv => arg 5; whnf
  refine ex_cons (fun i => es_set 2 rfl (ev_ifS (eb_cmp (clB (bv b_len) (ea_cons (lv 0) ea_nil) (bi_lenS (by walk_at "om"))) ev_int cmp_gt rfl).eb (fun _ => (ev_bin ev_str (ev_slice_from (lv 0) ev_int (by rw [sizeLine_eq]; walk_at "om")) (bin_cat (by rw [c1, sizeLine_eq]; walk_at "om")))) (fun _ => ev_str)) (fun _ => rfl)) ?_
  exact ex_ret (fun i => ev_bin (ev_bin (ev_slice_to (lv 0) ev_int (by rw [sizeLine_eq]; walk_at "om")) (lv 2) (bin_cat (by rw [sizeLine_eq]; walk_at "om"))) (cl (gv g_signed_exponent) (ea_cons (lv 1) ea_nil) hse) (bin_cat (by rw [cat_len, sizeLine_eq]; walk_at "om")))
    ⟨_, rfl, by rw [cat_len, cat_len]; walk_at "om"⟩

theorem s_laid_out {x : Str} {p : Int} (hx : x.length ≤ 3000000) (h0 : -1000 ≤ p) (h1 : p ≤ 1000) : ∃ d, IsS 7000000 d ∧ Fd (Gw w mg mb) 3 734 [.str x, .int p] d := by
  obtain ⟨d1, ⟨y, rfl, hy⟩, hwe⟩ := s_with_exponent (w := w) (mg := mg) (mb := mb) (e := p - 1) hx (by walk_at "om") (by walk_at "om")
  have c1 : (Str.ofString ".").length = 1 := by decide +kernel
  have c2 : (Str.ofString "0.").length = 2 := by decide +kernel
  have c3 : (Str.ofString "0").length = 1 := by decide +kernel
  have l1 := Txt.slice_le x (some p) none
  have l2 := Txt.slice_le x none (some p)
  have m1 := len_mul (x := Str.ofString "0") (p - x.length) (by rw [c3]; decide)
  have m2 := len_mul (x := Str.ofString "0") (0 - p) (by rw [c3]; decide)
  refine fd_ex ok_laid_out rfl ?_
  conv => arg 5; whnf
  refine ex_cons (fun i => es_set 2 rfl (clB (bv b_len) (ea_cons (lv 0) ea_nil) (bi_lenS (by walk_at "om"))) (fun _ => rfl)) ?_
  refine ex_if (fun i => (eb_chain (lv 2) (lv 1) ev_int cmp_le cmp_le rfl).eb) (fun h1 => ?_) (fun h1 => ?_)
  · rw [Bool.and_eq_true, decide_eq_true_eq, decide_eq_true_eq] at h1
    exact ex_ret (fun i => ev_bin (lv 0) (ev_bin ev_str (ev_bin (lv 1) (lv 2) bin_sub) (bin_mulS (by rw [c3]; decide) (by walk_at "om") (by walk_at "om"))) (bin_cat (by rw [sizeLine_eq]; walk_at "om"))) ⟨_, rfl, by rw [cat_len]; walk_at "om"⟩
  · refine ex_if (fun i => (eb_chain ev_int (lv 1) ev_int cmp_lt cmp_le rfl).eb) (fun h2 => ?_) (fun h2 => ?_)
    · exact ex_ret (fun i => ev_bin (ev_bin (ev_slice_to (lv 0) (lv 1) (by rw [sizeLine_eq]; walk_at "om")) ev_str (bin_cat (by rw [c1, sizeLine_eq]; walk_at "om"))) (ev_slice_from (lv 0) (lv 1) (by rw [sizeLine_eq]; walk_at "om")) (bin_cat (by rw [cat_len, c1, sizeLine_eq]; walk_at "om"))) ⟨_, rfl, by rw [cat_len, cat_len, c1]; walk_at "om"⟩
    · refine ex_if (fun i => (eb_chain (ev_neg ev_int) (lv 1) ev_int cmp_lt cmp_le rfl).eb) (fun h3 => ?_) (fun h3 => ?_)
      · exact ex_ret (fun i => ev_bin (ev_bin ev_str (ev_bin ev_str (ev_bin ev_int (lv 1) bin_sub) (bin_mulS (by rw [c3]; decide) (by walk_at "om") (by walk_at "om"))) (bin_cat (by rw [c2, sizeLine_eq]; walk_at "om"))) (lv 0) (bin_cat (by rw [cat_len, c2, sizeLine_eq]; walk_at "om"))) ⟨_, rfl, by rw [cat_len, cat_len, c2]; walk_at "om"⟩
      · exact ex_ret (fun i => cl (gv g_with_exponent) (ea_cons (lv 0) (ea_cons (ev_bin (lv 1) ev_int bin_sub) ea_nil)) hwe) ⟨_, rfl, by walk_at "om"⟩

theorem s_without_none {b : Int} (h : 0 ≤ b) (hf : b % 2 ^ 63 < 2047 * 2 ^ 52) : Fd (Gw w mg mb) 2 741 [.int b] .none := by
  refine fd_ret ok_without_figures rfl fun A L h₀ => ?_
  conv => arg 4; whnf
  refine es_ifd (eb_call (cl (gv g_is_nan) (ea_cons (lv 0) ea_nil) (s_is_nan h))) (fun h1 => by walk_at "om") (fun h1 => ?_)
  refine es_ifd (eb_call (cl (gv g_is_inf) (ea_cons (lv 0) ea_nil) (s_is_inf h))) (fun h2 => by walk_at "om") (fun h2 => ?_)
  exact es_ret ev_none
theorem s_without_some {b : Int} (h : 0 ≤ b) (hf : 2047 * 2 ^ 52 ≤ b % 2 ^ 63) : ∃ d, IsS 20 d ∧ Fd (Gw w mg mb) 2 741 [.int b] d := by
  refine fd_ex ok_without_figures rfl ?_
  conv => arg 5; whnf
  refine ex_ifd (fun i => (eb_call (cl (gv g_is_nan) (ea_cons (lv 0) ea_nil) (s_is_nan h)))) (fun h1 => ?_) (fun h1 => ?_)
  · exact ex_ret (fun i => ev_str) ⟨_, rfl, by decide +kernel⟩
  · refine ex_ifd (fun i => (eb_call (cl (gv g_is_inf) (ea_cons (lv 0) ea_nil) (s_is_inf h)))) (fun h2 => ?_) (fun h2 => by walk_at "om")
    have c2 : ∀ c : Bool, (if c = true then (Str.ofString "-Infinity") else (Str.ofString "Infinity")).length ≤ 20 := by decide +kernel
    exact ex_ret (fun i => ev_ifS (eb_call (cl (gv g_is_negative) (ea_cons (lv 0) ea_nil) (s_is_negative h))) (fun _ => ev_str) (fun _ => ev_str)) ⟨_, rfl, c2 _⟩

theorem s_show_edge {b : Int} (h : 0 ≤ b) (hf : 2047 * 2 ^ 52 ≤ b % 2 ^ 63) : ∃ d, IsS 7000010 d ∧ Fd (Gw w mg mb) 4 748 [.int b] d := by
  obtain ⟨d1, ⟨y, rfl, hy⟩, hw⟩ := s_without_some (w := w) (mg := mg) (mb := mb) h hf
  refine fd_ex ok_show rfl ?_
  conv => arg 5; whnf
  refine ex_cons (fun i => es_set 1 rfl (cl (gv g_without_figures) (ea_cons (lv 0) ea_nil) hw) (fun _ => rfl)) ?_
  refine ex_if (fun i => (eb_cmp (lv 1) ev_none cmp_isnot rfl).eb) (fun h1 => ?_) (fun h1 => by cases h1)
  exact ex_ret (fun i => (lv 1)) ⟨_, rfl, by walk_at "om"⟩
theorem s_show_zero : ∃ d, IsS 7000010 d ∧ Fd (Gw w mg mb) 4 748 [.int 0] d := by
  refine fd_ex ok_show rfl ?_
  conv => arg 5; whnf
  refine ex_cons (fun i => es_set 1 rfl (cl (gv g_without_figures) (ea_cons (lv 0) ea_nil) (s_without_none (by decide) (by decide))) (fun _ => rfl)) ?_
  refine ex_if (fun i => (eb_cmp (lv 1) ev_none cmp_isnot rfl).eb) (fun h1 => by cases h1) (fun h1 => ?_)
  refine ex_ifd (fun i => (eb_call (cl (gv g_is_zero) (ea_cons (lv 0) ea_nil) (s_is_zero (by decide))))) (fun h2 => ?_) (fun h2 => absurd (by decide) h2)
  exact ex_ret (fun i => ev_str) ⟨_, rfl, by decide +kernel⟩
theorem s_show_W {b g : Int} {m : Nat} {e : Int} (h : Wd b g m e) : ∃ d, IsS 7000010 d ∧ Fd (Gw w mg mb) 4 748 [.int b] d := by
  obtain ⟨n1, n2, n3, n4, n5⟩ := h.nn
  obtain ⟨d1, ⟨x, p, rfl, hx, p0, p1⟩, hsh⟩ := s_shortest_W (w := w) (mg := mg) (mb := mb) h
  obtain ⟨d2, ⟨y, rfl, hy⟩, hlo⟩ := s_laid_out (w := w) (mg := mg) (mb := mb) (x := x) (p := p) (by walk_at "om") (by walk_at "om") (by walk_at "om")
  have hs := sgn_len (decide (b / 2 ^ 63 = 1))
  refine fd_ex ok_show rfl ?_
  conv => arg 5; whnf
  refine ex_cons (fun i => es_set 1 rfl (cl (gv g_without_figures) (ea_cons (lv 0) ea_nil) (s_without_none n1 n4)) (fun _ => rfl)) ?_
  refine ex_if (fun i => (eb_cmp (lv 1) ev_none cmp_isnot rfl).eb) (fun h1 => by cases h1) (fun h1 => ?_)
  refine ex_ifd (fun i => (eb_call (cl (gv g_is_zero) (ea_cons (lv 0) ea_nil) (s_is_zero n1)))) (fun h2 => absurd h2 n5) (fun h2 => ?_)
  refine ex_cons (fun i => es_unpack [2, 3] rfl rfl rfl (cl (gv g_shortest) (ea_cons (lv 0) ea_nil) hsh) (fun _ => rfl) (fun _ => rfl)) ?_
  exact ex_ret (fun i => ev_bin (ev_ifS (eb_call (cl (gv g_is_negative) (ea_cons (lv 0) ea_nil) (s_is_negative n1))) (fun _ => ev_str) (fun _ => ev_str)) (cl (gv g_laid_out) (ea_cons (lv 2) (ea_cons (lv 3) ea_nil)) hlo) (bin_cat (by rw [sizeLine_eq]; walk_at "om"))) ⟨_, rfl, by rw [cat_len]; walk_at "om"⟩
end
section
variable {w : World} {mg mb : Str → Option Value}

/-! ## a count of figures -/
theorem s_exact_W {b g : Int} {m : Nat} {e : Int} (h : Wd b g m e) : ∃ M u : Int, Bz 54 M ∧ 0 < M ∧ Bz 300 u ∧ 0 < u ∧ Fd (Gw w mg mb) 2 278 [.int b] (.tup [.int (if g = 1 then -M else M), .int u]) := by
  obtain ⟨M, hM, a1, a2, a3, a4, a5⟩ := h.facts
  have := h.g0; have := h.g1; have := h.e0; have := h.e1
  have hp := s_parts_W (w := w) (mg := mg) (mb := mb) h
  rw [hM] at hp
  generalize hq : (bl m : Int) + e - 53 = q at hp
  refine ⟨M, 1 * 2 ^ (-q).toNat, ⟨by walk_at "om", by walk_at "om"⟩, by walk_at "om", ?_, by rw [Int.one_mul]; exact pow_pos2 _, ?_⟩
  · rw [Int.one_mul]
    exact ⟨Int.le_of_lt (pow_pos2 _), by exact_mod_cast Nat.pow_lt_pow_right (a := 2) (by decide) (show (-q).toNat < 300 by walk_at "om")⟩
  refine fd_ret ok_exact rfl fun A L h₀ => ?_
  conv => arg 4; whnf
  refine es_cons (es_unpack [1, 2, 3] rfl rfl rfl (cl (gv g_parts) (ea_cons (lv 0) ea_nil) hp) (fun _ => rfl) (fun _ => rfl)) ?_
  refine es_cons (es_set 4 rfl (ev_ifI (eb_cmp (lv 1) ev_int cmp_eq rfl).eb (fun _ => (ev_neg (lv 2))) (fun _ => (lv 2))) (fun _ => rfl)) ?_
  simp only [decide_eq_true_eq]
  exact es_ret (ev_if (eb_cmp (lv 3) ev_int cmp_ge rfl).eb (fun q => by have := of_decide_eq_true q; walk_at "om") (fun _ => (ev_tup (ea_cons (lv 4) (ea_cons (ev_bin ev_int (ev_neg (lv 3)) (bin_shl (by walk_at "om") (by walk_at "sh"))) ea_nil)))))
theorem s_exact_z : Fd (Gw w mg mb) 2 278 [.int 0] (.tup [.int 0, .int (2 ^ 1074)]) := by
  have hp := s_parts_z (w := w) (mg := mg) (mb := mb) (g := 0) (by decide) (by decide)
  refine fd_ret ok_exact rfl fun A L h₀ => ?_
  conv => arg 4; whnf
  refine es_cons (es_unpack [1, 2, 3] rfl rfl rfl (cl (gv g_parts) (ea_cons (lv 0) ea_nil) hp) (fun _ => rfl) (fun _ => rfl)) ?_
  refine es_cons (es_set 4 rfl (ev_if (d := .int 0) (eb_cmp (lv 1) ev_int cmp_eq rfl).eb (fun q => by cases q) (fun _ => (lv 2))) (fun _ => rfl)) ?_
  have hb := bin_shl (G := Gw w mg mb) (a := 1) (b := -(-1074)) (by decide) (by decide +kernel)
  rw [show (1 : Int) * 2 ^ (-(-1074) : Int).toNat = 2 ^ 1074 by decide +kernel] at hb
  exact es_ret (ev_if (eb_cmp (lv 3) ev_int cmp_ge rfl).eb (fun q => by cases q) (fun _ => (ev_tup (ea_cons (lv 4) (ea_cons (ev_bin ev_int (ev_neg (lv 3)) hb) ea_nil)))))

/-- a number that is finite: its sign, its ratio -/
structure SR (G : Gx) (b : Int) (x : Str) (t u : Int) : Prop where
  fd : Fd G 3 755 [.int b] (.tup [.str x, .int t, .int u])
  xl : x.length ≤ 1
  t0 : Bz 54 t
  u0 : 0 < u
  u1 : Bz 1075 u
theorem s_ratio_W {b g : Int} {m : Nat} {e : Int} (h : Wd b g m e) : ∃ x t u, SR (Gw w mg mb) b x t u ∧ 0 < t ∧ Bz 300 u := by
  obtain ⟨M, u, m0, m1, u0, u1, hx⟩ := s_exact_W (w := w) (mg := mg) (mb := mb) h
  refine ⟨_, M, u, ⟨?_, sgn_len (decide ((if g = 1 then -M else M) < 0)), m0, u1, u0.mono (by decide)⟩, m1, u0⟩
  have hb := bi_abs (G := Gw w mg mb) (a := if g = 1 then -M else M)
  rw [show (((if g = 1 then -M else M).natAbs : Nat) : Int) = M by split <;> walk_at "om"] at hb
  refine fd_ret ok_sign_and_ratio rfl fun A L h₀ => ?_
  conv => arg 4; whnf
  refine es_cons (es_unpack [1, 2] rfl rfl rfl (cl (gv g_exact) (ea_cons (lv 0) ea_nil) hx) (fun _ => rfl) (fun _ => rfl)) ?_
  exact es_ret (ev_tup (ea_cons (ev_ifS (eb_cmp (lv 1) ev_int cmp_lt rfl).eb (fun _ => ev_str) (fun _ => ev_str)) (ea_cons (clB (bv b_abs) (ea_cons (lv 1) ea_nil) hb) (ea_cons (lv 2) ea_nil))))
theorem bz1075 : Bz 1075 (2 ^ 1074) := ⟨Int.le_of_lt (pow_pos2 _), by exact_mod_cast Nat.pow_lt_pow_right (a := 2) (by decide) (show 1074 < 1075 by decide)⟩
theorem s_ratio_z : ∃ x, SR (Gw w mg mb) 0 x 0 (2 ^ 1074) := by
  refine ⟨Str.ofString "", ⟨?_, by decide +kernel, ⟨by decide, by decide⟩, pow_pos2 _, bz1075⟩⟩
  have hx := s_exact_z (w := w) (mg := mg) (mb := mb)
  generalize (2 : Int) ^ 1074 = u at *
  have hb := bi_abs (G := Gw w mg mb) (a := 0)
  rw [show (((0 : Int).natAbs : Nat) : Int) = 0 from rfl] at hb
  refine fd_ret ok_sign_and_ratio rfl fun A L h₀ => ?_
  conv => arg 4; whnf
  refine es_cons (es_unpack [1, 2] rfl rfl rfl (cl (gv g_exact) (ea_cons (lv 0) ea_nil) hx) (fun _ => rfl) (fun _ => rfl)) ?_
  exact es_ret (ev_tup (ea_cons (ev_if (d := .str (Str.ofString "")) (eb_cmp (lv 1) ev_int cmp_lt rfl).eb (fun q => by cases q) (fun _ => ev_str)) (ea_cons (clB (bv b_abs) (ea_cons (lv 1) ea_nil) hb) (ea_cons (lv 2) ea_nil))))

theorem s_half_up {t u : Int} {j k : Nat} (ht : Bz j t) (hu : Bz k u) (hu0 : 0 < u) (hk : k ≤ 8000) : ∃ f, Bz (j + 2) f ∧ Fd (Gw w mg mb) 1 762 [.int t, .int u] (.int f) := by
  have h2 : Bz (k + 2) (2 * u) := (Bz.mul (j := 2) (x := 2) ⟨by decide, by decide⟩ hu).mono (by walk_at "om")
  refine ⟨(2 * t + u) / (2 * u), ⟨Int.ediv_nonneg (by have := ht.nn; walk_at "om") (by walk_at "om"), ?_⟩, ?_⟩
  · have h1 : (2 * t + u) / (2 * u) < t + 2 := by
      refine Int.ediv_lt_of_lt_mul (by walk_at "om") ?_
      have h3 : t * 1 ≤ t * u := Int.mul_le_mul_of_nonneg_left (by walk_at "om") ht.nn
      have e : (t + 2) * (2 * u) = 2 * (t * u) + 4 * u := by rw [Int.add_mul, Int.mul_left_comm, ← Int.mul_assoc 2 2 u]; rfl
      walk_at "om"
    have := ht.lt
    have := pow_pos2 j
    rw [Int.pow_succ, Int.pow_succ]
    walk_at "om"
  · refine fd_ret ok_half_up rfl fun A L h₀ => ?_
    conv => arg 4; whnf
    exact es_ret (ev_bin (ev_bin (ev_bin ev_int (lv 0) (bin_mul (by walk_at "ml"))) (lv 1) bin_add) (ev_bin ev_int (lv 1) (bin_mul (by walk_at "ml"))) (bin_div (by walk_at "om") (Nat.lt_of_lt_of_le (h2.log (by walk_at "om")) (by walk_at "om"))))

theorem s_rounded {t u n : Int} (ht : Bz 54 t) (hu : Bz 300 u) (hu0 : 0 < u) (n0 : 1 ≤ n) (n1 : n ≤ 30) : ∃ d, (∃ (x : Str) (e : Int), d = .tup [.str x, .int e] ∧ x.length ≤ 2000 ∧ -500 ≤ e ∧ e ≤ 500) ∧ Fd (Gw w mg mb) 2 776 [.int t, .int u, .int n] d := by
  obtain ⟨d1, ⟨p, rfl, p0, p1⟩, hdp⟩ := s_decimal_place (w := w) (mg := mg) (mb := mb) (ht.mono (k := 400) (by decide)) (hu.mono (k := 400) (by decide))
  have mid : ∃ f, Bz 1800 f ∧ ((0 ≤ n - 1 - (p - 1) ∧ Fd (Gw w mg mb) 1 762 [.int (t * 10 ^ (n - 1 - (p - 1)).toNat), .int u] (.int f)) ∨ (¬ 0 ≤ n - 1 - (p - 1) ∧ Fd (Gw w mg mb) 1 762 [.int t, .int (u * 10 ^ (0 - (n - 1 - (p - 1))).toNat)] (.int f))) := by
    by_cases hc : 0 ≤ n - 1 - (p - 1)
    · obtain ⟨f, f0, hf⟩ := s_half_up (w := w) (mg := mg) (mb := mb) (ht.mul (bz10t (f := n - 1 - (p - 1)) (k := 431) (by walk_at "om"))) hu hu0 (by decide)
      exact ⟨f, f0.mono (by decide), .inl ⟨hc, hf⟩⟩
    · obtain ⟨f, f0, hf⟩ := s_half_up (w := w) (mg := mg) (mb := mb) ht (hu.mul (bz10t (f := 0 - (n - 1 - (p - 1))) (k := 431) (by walk_at "om"))) (Int.mul_pos hu0 (Int.pow_pos (by decide))) (by decide)
      exact ⟨f, f0.mono (by decide), .inr ⟨hc, hf⟩⟩
  obtain ⟨f, f0, hf⟩ := mid
  have fl := len_str f0.na (by decide)
  have f1 : Bz 1800 (f / 10) := f0.le (Int.ediv_nonneg f0.nn (by decide)) (Int.ediv_le_self _ f0.nn)
  have fl1 := len_str f1.na (by decide)
  refine fd_ex ok_rounded rfl ?_
  conv => arg 5; whnf
  refine ex_cons (fun i => es_set 3 rfl (ev_bin (cl (gv g_decimal_place) (ea_cons (lv 0) (ea_cons (lv 1) ea_nil)) hdp) ev_int bin_sub) (fun _ => rfl)) ?_
  refine ex_cons (fun i => es_set 4 rfl (ev_bin (ev_bin (lv 2) ev_int bin_sub) (lv 3) bin_sub) (fun _ => rfl)) ?_
  refine ex_cons (fun i => es_set 5 rfl (ev_if (d := .int f) (eb_cmp (lv 4) ev_int cmp_ge rfl).eb
    (fun q => (cl (gv g_half_up) (ea_cons (ev_bin (lv 0) (ev_bin ev_int (lv 4) (bin_pow (of_decide_eq_true q) (pw10 (of_decide_eq_true q) (by walk_at "om")))) (bin_mul (ht.ok (bz10t (k := 431) (by walk_at "om")) (by decide) (by decide)))) (ea_cons (lv 1) ea_nil)) (hf.elim (fun z => z.2) (fun z => absurd (of_decide_eq_true q) z.1))))
    (fun q => (cl (gv g_half_up) (ea_cons (lv 0) (ea_cons (ev_bin (lv 1) (ev_bin ev_int (ev_bin ev_int (lv 4) bin_sub) (bin_pow (by have := of_decide_eq_false q; walk_at "om") (pw10 (by have := of_decide_eq_false q; walk_at "om") (by walk_at "om")))) (bin_mul (hu.ok (bz10t (k := 431) (by walk_at "om")) (by decide) (by decide)))) ea_nil)) (hf.elim (fun z => absurd z.1 (of_decide_eq_false q)) (fun z => z.2))))) (fun _ => rfl)) ?_
  refine ex_ifd (fun i => (eb_cmp (lv 5) (ev_bin ev_int (lv 2) (bin_pow (by walk_at "om") (pw10 (by walk_at "om") (by walk_at "om")))) cmp_ge rfl).eb) (fun h1 => ?_) (fun h1 => ?_)
  · exact ex_ret (fun i => ev_tup (ea_cons (clT (bv b_str) (ea_cons (ev_bin (lv 5) ev_int (bin_div (by decide) (by walk_at "dv"))) ea_nil) (bi_str (Nat.lt_trans (f1.log (by decide)) (by decide)))) (ea_cons (ev_bin (lv 3) ev_int bin_add) ea_nil))) ⟨_, _, rfl, by walk_at "om", by walk_at "om", by walk_at "om"⟩
  · exact ex_ret (fun i => ev_tup (ea_cons (clT (bv b_str) (ea_cons (lv 5) ea_nil) (bi_str (Nat.lt_trans (f0.log (by decide)) (by decide)))) (ea_cons (lv 3) ea_nil))) ⟨_, _, rfl, by walk_at "om", by walk_at "om", by walk_at "om"⟩
end
section
variable {w : World} {mg mb : Str → Option Value}

/-! ## to_fixed, to_exponential, to_precision -/
theorem s_to_fixed_edge {b n : Int} (h : 0 ≤ b) (hf : 2047 * 2 ^ 52 ≤ b % 2 ^ 63) : ∃ d, IsS 20 d ∧ Fd (Gw w mg mb) 5 769 [.int b, .int n] d := by
  obtain ⟨d1, ⟨y, rfl, hy⟩, hw⟩ := s_without_some (w := w) (mg := mg) (mb := mb) h hf
  refine fd_ex ok_to_fixed rfl ?_
  conv => arg 5; whnf
  refine ex_cons (fun i => es_set 2 rfl (cl (gv g_without_figures) (ea_cons (lv 0) ea_nil) hw) (fun _ => rfl)) ?_
  refine ex_if (fun i => (eb_cmp (lv 2) ev_none cmp_isnot rfl).eb) (fun h1 => ?_) (fun h1 => by cases h1)
  exact ex_ret (fun i => (lv 2)) ⟨_, rfl, by walk_at "om"⟩
theorem s_to_exponential_edge {b : Int} {n : D} (h : 0 ≤ b) (hf : 2047 * 2 ^ 52 ≤ b % 2 ^ 63) : ∃ d, IsS 20 d ∧ Fd (Gw w mg mb) 5 783 [.int b, n] d := by
  obtain ⟨d1, ⟨y, rfl, hy⟩, hw⟩ := s_without_some (w := w) (mg := mg) (mb := mb) h hf
  refine fd_ex ok_to_exponential rfl ?_
  conv => arg 5; whnf
  refine ex_cons (fun i => es_set 2 rfl (cl (gv g_without_figures) (ea_cons (lv 0) ea_nil) hw) (fun _ => rfl)) ?_
  refine ex_if (fun i => (eb_cmp (lv 2) ev_none cmp_isnot rfl).eb) (fun h1 => ?_) (fun h1 => by cases h1)
  exact ex_ret (fun i => (lv 2)) ⟨_, rfl, by walk_at "om"⟩

theorem s_to_fixed_n {b t u n : Int} {x : Str} (h : 0 ≤ b) (hf : b % 2 ^ 63 < 2047 * 2 ^ 52) (R : SR (Gw w mg mb) b x t u) (hsh : ∃ d, IsS 7000010 d ∧ Fd (Gw w mg mb) 4 748 [.int b] d) (n0 : 0 ≤ n) (n1 : n ≤ 20) :
    ∃ d, IsS 8000000 d ∧ Fd (Gw w mg mb) 5 769 [.int b, .int n] d := by
  obtain ⟨d1, ⟨y, rfl, hy⟩, hshow⟩ := hsh
  obtain ⟨f, f0, hhu⟩ := s_half_up (w := w) (mg := mg) (mb := mb) (R.t0.mul (bz10t (f := n) (k := 20) n1)) R.u1 R.u0 (by decide)
  have hl := R.xl
  have fl := len_str f0.na (by decide)
  have c1 : (Str.ofString ".").length = 1 := by decide +kernel
  have c3 : (Str.ofString "0").length = 1 := by decide +kernel
  refine fd_ex ok_to_fixed rfl ?_
  conv => arg 5; whnf
  refine ex_cons (fun i => es_set 2 rfl (cl (gv g_without_figures) (ea_cons (lv 0) ea_nil) (s_without_none h hf)) (fun _ => rfl)) ?_
  refine ex_if (fun i => (eb_cmp (lv 2) ev_none cmp_isnot rfl).eb) (fun h1 => by cases h1) (fun h1 => ?_)
  refine ex_cons (fun i => es_unpack [3, 4, 5] rfl rfl rfl (cl (gv g_sign_and_ratio) (ea_cons (lv 0) ea_nil) R.fd) (fun _ => rfl) (fun _ => rfl)) ?_
  refine ex_ifd (fun i => (eb_cmp (lv 4) (ev_bin (lv 5) (ev_bin ev_int ev_int (bin_pow (by decide) (by decide +kernel))) (bin_mul (R.u1.ok (bz10t (k := 21) (by decide)) (by decide) (by decide)))) cmp_ge rfl).eb) (fun h2 => ?_) (fun h2 => ?_)
  · exact ex_ret (fun i => cl (gv g_show) (ea_cons (lv 0) ea_nil) hshow) ⟨_, rfl, by walk_at "om"⟩
  · refine ex_cons (fun i => es_set 6 rfl (clT (bv b_str) (ea_cons (cl (gv g_half_up) (ea_cons (ev_bin (lv 4) (ev_bin ev_int (lv 1) (bin_pow n0 (pw10 n0 (by walk_at "om")))) (bin_mul (R.t0.ok (bz10t (k := 20) n1) (by decide) (by decide)))) (ea_cons (lv 5) ea_nil)) hhu) ea_nil) (bi_str (Nat.lt_trans (f0.log (by decide)) (by decide)))) (fun _ => rfl)) ?_
    generalize Str.ofString (toString f) = z at *
    have m1 := len_mul (x := Str.ofString "0") (n + 1 - z.length) (by rw [c3]; decide)
    refine ex_ifd (fun i => (eb_cmp (lv 1) ev_int cmp_eq rfl).eb) (fun h3 => ?_) (fun h3 => ?_)
    · exact ex_ret (fun i => ev_bin (lv 3) (lv 6) (bin_cat (by rw [sizeLine_eq]; walk_at "om"))) ⟨_, rfl, by rw [cat_len]; walk_at "om"⟩
    · refine ex_cons (fun i => es_set 6 rfl (ev_bin (ev_bin ev_str (ev_bin (ev_bin (lv 1) ev_int bin_add) (clB (bv b_len) (ea_cons (lv 6) ea_nil) (bi_lenS (by walk_at "om"))) bin_sub) (bin_mulS (by rw [c3]; decide) (by walk_at "om") (by walk_at "om"))) (lv 6) (bin_cat (by rw [sizeLine_eq]; walk_at "om"))) (fun _ => rfl)) ?_
      have zl : (Txt.mul (Str.ofString "0") (n + 1 - z.length) ++ z).length ≤ 300 := by rw [cat_len]; walk_at "om"
      generalize Txt.mul (Str.ofString "0") (n + 1 - z.length) ++ z = y2 at *
      have l1 := Txt.slice_le y2 none (some (y2.length - n))
      have l2 := Txt.slice_le y2 (some (y2.length - n)) none
      exact ex_ret (fun i => ev_bin (ev_bin (ev_bin (lv 3) (ev_slice_to (lv 6) (ev_bin (clB (bv b_len) (ea_cons (lv 6) ea_nil) (bi_lenS (by walk_at "om"))) (lv 1) bin_sub) (by rw [sizeLine_eq]; walk_at "om")) (bin_cat (by rw [sizeLine_eq]; walk_at "om"))) ev_str (bin_cat (by rw [cat_len, c1, sizeLine_eq]; walk_at "om")))
        (ev_slice_from (lv 6) (ev_bin (clB (bv b_len) (ea_cons (lv 6) ea_nil) (bi_lenS (by walk_at "om"))) (lv 1) bin_sub) (by rw [sizeLine_eq]; walk_at "om")) (bin_cat (by rw [cat_len, cat_len, c1, sizeLine_eq]; walk_at "om"))) ⟨_, rfl, by rw [cat_len, cat_len, cat_len, c1]; walk_at "om"⟩

theorem s_to_exponential_z {n : D} (hn : n = .none ∨ ∃ k : Int, n = .int k ∧ 0 ≤ k ∧ k ≤ 20) : ∃ d, IsS 8000000 d ∧ Fd (Gw w mg mb) 5 783 [.int 0, n] d := by
  obtain ⟨x, R⟩ := s_ratio_z (w := w) (mg := mg) (mb := mb)
  have c3 : (Str.ofString "0").length = 1 := by decide +kernel
  have hu := R.fd
  generalize (2 : Int) ^ 1074 = u at hu
  have hm : ∃ k : Int, 0 ≤ k ∧ k ≤ 20 ∧ ((n = .none ∧ k = 0) ∨ n = .int k) := by
    rcases hn with rfl | ⟨k, rfl, k0, k1⟩
    · exact ⟨0, by decide, by decide, .inl ⟨rfl, rfl⟩⟩
    · exact ⟨k, k0, k1, .inr rfl⟩
  obtain ⟨k, k0, k1, hk⟩ := hm
  have m1 := len_mul (x := Str.ofString "0") (1 + k) (by rw [c3]; decide)
  obtain ⟨d1, ⟨y, rfl, hy⟩, hwe⟩ := s_with_exponent (w := w) (mg := mg) (mb := mb) (x := Txt.mul (Str.ofString "0") (1 + k)) (e := 0) (by walk_at "om") (by decide) (by decide)
  refine fd_ex ok_to_exponential rfl ?_
  conv => arg 5; whnf
  refine ex_cons (fun i => es_set 2 rfl (cl (gv g_without_figures) (ea_cons (lv 0) ea_nil) (s_without_none (by decide) (by decide))) (fun _ => rfl)) ?_
  refine ex_if (fun i => (eb_cmp (lv 2) ev_none cmp_isnot rfl).eb) (fun h1 => by cases h1) (fun h1 => ?_)
  refine ex_cons (fun i => es_unpack [3, 4, 5] rfl rfl rfl (cl (gv g_sign_and_ratio) (ea_cons (lv 0) ea_nil) hu) (fun _ => rfl) (fun _ => rfl)) ?_
  refine ex_ifd (fun i => (eb_cmp (lv 4) ev_int cmp_eq rfl).eb) (fun h2 => ?_) (fun h2 => absurd rfl h2)
  refine ex_ret (fun i => cl (gv g_with_exponent) (ea_cons (ev_bin ev_str (ev_bin ev_int (ev_if (d := .int k) (eb_cmp (lv 1) ev_none cmp_is rfl).eb (fun q => ?_) (fun q => ?_)) bin_add) (bin_mulS (by rw [c3]; decide) (by walk_at "om") (by walk_at "om"))) (ea_cons ev_int ea_nil)) hwe) ⟨_, rfl, by walk_at "om"⟩
  · rcases hk with ⟨rfl, rfl⟩ | rfl
    · exact ev_int
    · cases q
  · rcases hk with ⟨rfl, rfl⟩ | rfl
    · cases q
    · exact (lv 1)
theorem s_to_exponential_W {b g : Int} {m : Nat} {e : Int} {n : D} (h : Wd b g m e) (hn : n = .none ∨ ∃ k : Int, n = .int k ∧ 0 ≤ k ∧ k ≤ 20) : ∃ d, IsS 8000000 d ∧ Fd (Gw w mg mb) 5 783 [.int b, n] d := by
  obtain ⟨x, t, u, R, t0, u0⟩ := s_ratio_W (w := w) (mg := mg) (mb := mb) h
  obtain ⟨n1, n2, n3, n4, n5⟩ := h.nn
  have hl := R.xl
  obtain ⟨d1, ⟨y, p, rfl, hy, p0, p1⟩, hsh⟩ := s_shortest_W (w := w) (mg := mg) (mb := mb) h
  obtain ⟨d2, ⟨y2, rfl, hy2⟩, hwe⟩ := s_with_exponent (w := w) (mg := mg) (mb := mb) (x := y) (e := p - 1) (by walk_at "om") (by walk_at "om") (by walk_at "om")
  refine fd_ex ok_to_exponential rfl ?_
  conv => arg 5; whnf
  refine ex_cons (fun i => es_set 2 rfl (cl (gv g_without_figures) (ea_cons (lv 0) ea_nil) (s_without_none n1 n4)) (fun _ => rfl)) ?_
  refine ex_if (fun i => (eb_cmp (lv 2) ev_none cmp_isnot rfl).eb) (fun h1 => by cases h1) (fun h1 => ?_)
  refine ex_cons (fun i => es_unpack [3, 4, 5] rfl rfl rfl (cl (gv g_sign_and_ratio) (ea_cons (lv 0) ea_nil) R.fd) (fun _ => rfl) (fun _ => rfl)) ?_
  refine ex_ifd (fun i => (eb_cmp (lv 4) ev_int cmp_eq rfl).eb) (fun h2 => by walk_at "om") (fun h2 => ?_)
  rcases hn with rfl | ⟨k, rfl, k0, k1⟩
  · refine ex_if (fun i => (eb_cmp (lv 1) ev_none cmp_is rfl).eb) (fun h3 => ?_) (fun h3 => by cases h3)
    refine ex_cons (fun i => es_unpack [6, 7] rfl rfl rfl (cl (gv g_shortest) (ea_cons (lv 0) ea_nil) hsh) (fun _ => rfl) (fun _ => rfl)) ?_
    exact ex_ret (fun i => ev_bin (lv 3) (cl (gv g_with_exponent) (ea_cons (lv 6) (ea_cons (ev_bin (lv 7) ev_int bin_sub) ea_nil)) hwe) (bin_cat (by rw [sizeLine_eq]; walk_at "om"))) ⟨_, rfl, by rw [cat_len]; walk_at "om"⟩
  · obtain ⟨d3, ⟨y3, e3, rfl, hy3, q0, q1⟩, hro⟩ := s_rounded (w := w) (mg := mg) (mb := mb) (n := k + 1) R.t0 u0 R.u0 (by walk_at "om") (by walk_at "om")
    obtain ⟨d4, ⟨y4, rfl, hy4⟩, hwe4⟩ := s_with_exponent (w := w) (mg := mg) (mb := mb) (x := y3) (e := e3) (by walk_at "om") (by walk_at "om") (by walk_at "om")
    refine ex_if (fun i => (eb_cmp (lv 1) ev_none cmp_is rfl).eb) (fun h3 => by cases h3) (fun h3 => ?_)
    refine ex_cons (fun i => es_unpack [6, 8] rfl rfl rfl (cl (gv g_rounded) (ea_cons (lv 4) (ea_cons (lv 5) (ea_cons (ev_bin (lv 1) ev_int bin_add) ea_nil))) hro) (fun _ => rfl) (fun _ => rfl)) ?_
    exact ex_ret (fun i => ev_bin (lv 3) (cl (gv g_with_exponent) (ea_cons (lv 6) (ea_cons (lv 8) ea_nil)) hwe4) (bin_cat (by rw [sizeLine_eq]; walk_at "om"))) ⟨_, rfl, by rw [cat_len]; walk_at "om"⟩

theorem s_to_precision_n {b t u n : Int} {x : Str} (h : 0 ≤ b) (hf : b % 2 ^ 63 < 2047 * 2 ^ 52) (R : SR (Gw w mg mb) b x t u) (ht : t = 0 ∨ (0 < t ∧ Bz 300 u)) (n0 : 1 ≤ n) (n1 : n ≤ 21) : ∃ d, IsS 8000000 d ∧ Fd (Gw w mg mb) 5 790 [.int b, .int n] d := by
  have hl := R.xl
  have c1 : (Str.ofString ".").length = 1 := by decide +kernel
  have c2 : (Str.ofString "0.").length = 2 := by decide +kernel
  have c3 : (Str.ofString "0").length = 1 := by decide +kernel
  have m1 := len_mul (x := Str.ofString "0") n (by rw [c3]; decide)
  have mid : ∃ (y : Str) (e : Int), y.length ≤ 2000 ∧ -500 ≤ e ∧ e ≤ 500 ∧ ((0 < t ∧ Fd (Gw w mg mb) 2 776 [.int t, .int u, .int n] (.tup [.str y, .int e])) ∨ (¬ 0 < t ∧ y = Txt.mul (Str.ofString "0") n ∧ e = 0)) := by
    rcases ht with rfl | ⟨t0, hu⟩
    · exact ⟨_, 0, by walk_at "om", by decide, by decide, .inr ⟨by decide, rfl, rfl⟩⟩
    · obtain ⟨d3, ⟨y3, e3, rfl, hy3, q0, q1⟩, hro⟩ := s_rounded (w := w) (mg := mg) (mb := mb) (n := n) R.t0 hu R.u0 (by walk_at "om") (by walk_at "om")
      exact ⟨y3, e3, hy3, q0, q1, .inl ⟨t0, hro⟩⟩
  obtain ⟨y, e, hy, e0, e1, hmid⟩ := mid
  obtain ⟨d4, ⟨y4, rfl, hy4⟩, hwe⟩ := s_with_exponent (w := w) (mg := mg) (mb := mb) (x := y) (e := e) (by walk_at "om") (by walk_at "om") (by walk_at "om")
  have l1 := Txt.slice_le y none (some (e + 1))
  have l2 := Txt.slice_le y (some (e + 1)) none
  have m2 := len_mul (x := Str.ofString "0") (0 - e - 1) (by rw [c3]; decide)
  refine fd_ex ok_to_precision rfl ?_
  conv => arg 5; whnf
  refine ex_cons (fun i => es_set 2 rfl (cl (gv g_without_figures) (ea_cons (lv 0) ea_nil) (s_without_none h hf)) (fun _ => rfl)) ?_
  refine ex_if (fun i => (eb_cmp (lv 2) ev_none cmp_isnot rfl).eb) (fun h1 => by cases h1) (fun h1 => ?_)
  refine ex_cons (fun i => es_unpack [3, 4, 5] rfl rfl rfl (cl (gv g_sign_and_ratio) (ea_cons (lv 0) ea_nil) R.fd) (fun _ => rfl) (fun _ => rfl)) ?_
  refine ex_cons (fun i => es_unpack (ds := [.str y, .int e]) [6, 7] rfl rfl rfl (ev_if (eb_cmp (lv 4) ev_int cmp_gt rfl).eb
    (fun q => (cl (gv g_rounded) (ea_cons (lv 4) (ea_cons (lv 5) (ea_cons (lv 1) ea_nil))) (hmid.elim (fun z => z.2) (fun z => absurd (of_decide_eq_true q) z.1))))
    (fun q => ?_)) (fun _ => rfl) (fun _ => rfl)) ?_
  · rcases hmid with ⟨z, _⟩ | ⟨_, rfl, rfl⟩
    · exact absurd z (of_decide_eq_false q)
    · exact (ev_tup (ea_cons (ev_bin ev_str (lv 1) (bin_mulS (by rw [c3]; decide) (by walk_at "om") (by walk_at "om"))) (ea_cons ev_int ea_nil)))
  refine ex_if (fun i => (eb_or (eb_cmp (lv 7) (ev_neg ev_int) cmp_lt rfl).eb (fun _ => (eb_or (eb_cmp (lv 7) (lv 1) cmp_ge rfl).eb (fun _ => eb_or_nil)))).eb) (fun h2 => ?_) (fun h2 => ?_)
  · exact ex_ret (fun i => ev_bin (lv 3) (cl (gv g_with_exponent) (ea_cons (lv 6) (ea_cons (lv 7) ea_nil)) hwe) (bin_cat (by rw [sizeLine_eq]; walk_at "om"))) ⟨_, rfl, by rw [cat_len]; walk_at "om"⟩
  · refine ex_ifd (fun i => (eb_cmp (lv 7) (ev_bin (lv 1) ev_int bin_sub) cmp_eq rfl).eb) (fun h3 => ?_) (fun h3 => ?_)
    · exact ex_ret (fun i => ev_bin (lv 3) (lv 6) (bin_cat (by rw [sizeLine_eq]; walk_at "om"))) ⟨_, rfl, by rw [cat_len]; walk_at "om"⟩
    · refine ex_ifd (fun i => (eb_cmp (lv 7) ev_int cmp_ge rfl).eb) (fun h4 => ?_) (fun h4 => ?_)
      · exact ex_ret (fun i => ev_bin (ev_bin (ev_bin (lv 3) (ev_slice_to (lv 6) (ev_bin (lv 7) ev_int bin_add) (by rw [sizeLine_eq]; walk_at "om")) (bin_cat (by rw [sizeLine_eq]; walk_at "om"))) ev_str (bin_cat (by rw [cat_len, c1, sizeLine_eq]; walk_at "om"))) (ev_slice_from (lv 6) (ev_bin (lv 7) ev_int bin_add) (by rw [sizeLine_eq]; walk_at "om")) (bin_cat (by rw [cat_len, cat_len, c1, sizeLine_eq]; walk_at "om"))) ⟨_, rfl, by rw [cat_len, cat_len, cat_len, c1]; walk_at "om"⟩
      · exact ex_ret (fun i => ev_bin (ev_bin (ev_bin (lv 3) ev_str (bin_cat (by rw [c2, sizeLine_eq]; walk_at "om"))) (ev_bin ev_str (ev_bin (ev_bin ev_int (lv 7) bin_sub) ev_int bin_sub) (bin_mulS (by rw [c3]; decide) (by walk_at "om") (by walk_at "om"))) (bin_cat (by rw [cat_len, c2, sizeLine_eq]; walk_at "om"))) (lv 6) (bin_cat (by rw [cat_len, cat_len, c2, sizeLine_eq]; walk_at "om"))) ⟨_, rfl, by rw [cat_len, cat_len, cat_len, c2]; walk_at "om"⟩
end
section
section
variable {prog : Program} {w : World} {A : Around} {E : Value → Shared → Prop} {h : Heap} {g : Array GenState} {d : Drawn} {t : Nat} {os : OsState}
variable {nm q : Str} {C N x : Addr} {bs bm : List Value} {sn : List Str} {sub : List Value} {ab : Bool} {col : Option Bool} {dd : Option Addr} {k0 k1 k2 k3 k5 : Option Value} {newId B sa owner : String} {mN : Str → Option Value} {name : Str} {v : Value} {o : Obj}

abbrev excM : List Value := [.type "Exception", .type "BaseException", .type "object"]

/-- an exception's first attribute of its own -/
theorem store_first {Q : Unit → Shared → Prop} (SF : StoreFacts B bm sa owner) (hC : h.get? C = some (excClassObj nm q C N bs bm true sn sub ab col dd k0 k1 k2 k3 k5 newId)) (hn : h.Ns N mN) (hns : mN "__setattr__" = none) (hna : mN name = none)
    (hB : typeLookup (.type B) name = pure none) (hx : h.get? x = some o) (hc : o.cls = .ref C) (hnc : ∃ vs, o.data = .fields vs) (hdn : o.dict = none)
    (hq : ∀ h' tk', h'.get? x = some { o with dict := some h.objs.size } → h'.Ns1 h.objs.size (fun y => if y = name then some v else none) → (∀ b ob, b ≠ x → h.get? b = some ob → h'.get? b = some ob) → Q () ⟨h', g, d, tk', os⟩) :
    wpAny (model prog w) A (setAttr (.ref x) name v) Q E ⟨h, g, d, t, os⟩ := by
  have f3 := SF.slot.bind (.ref x)
  have hpass := SF.passes (.ref x)
  unfold setAttr callSpecial? specialOf
  repeat (any_goals (first | assumption | (with_reducible refine wpAny_loadPart_at hx ?_; rw [hc]) | (with_reducible refine wpAny_typeLookup_exc hC hn SF.mro SF.slot.lookup ?_; rw [hns]) | wp_step))
  refine codeAny_call_builtin SF.slot.plain SF.entry (wpAny_check_sa SF hC hx hc ?_)
  unfold Builtin.«object.__setattr__»
  repeat (first | rw [refuse_eq] | (rw [refuseLoop_ref, hpass]) | (with_reducible refine wpAny_loadPart_at hx ?_; rw [hc]) | with_reducible refine wpAny_mroOf_exc hC ?_ | (with_reducible refine wpAny_typeLookup_exc hC hn SF.mro hB ?_; rw [hna]) | wp_step)
  rw [hdn, if_neg (by simp [typeHasDict])]
  obtain ⟨oc, od, odt, osl⟩ := o
  obtain ⟨vs, hvs⟩ := hnc
  dsimp only at hvs hdn hc hq ⊢
  subst hvs hdn
  have hxs : x ≠ h.objs.size := Nat.ne_of_lt (Heap.lt_size hx)
  have hx₁ := Heap.get?_push_of_some { cls := .type "dict", data := .dict #[] } hx
  refine wpAny_bind (wpAny_alloc' (wpAny_bind (wpAny_update' hx₁ (wpAny_pure ?_))))
  have hgd : ((h.push { cls := .type "dict", data := .dict #[] }).update x fun o => { cls := o.cls, dict := some h.objs.size, data := o.data, slots := o.slots }).get? h.objs.size = some { cls := .type "dict", data := .dict #[] } :=
    (Heap.get?_update_ne _ _ _ _ hxs.symm).trans (Heap.get?_push_at rfl rfl)
  have hxH : ((h.push { cls := .type "dict", data := .dict #[] }).update x fun o => { cls := o.cls, dict := some h.objs.size, data := o.data, slots := o.slots }).get? x = some { cls := oc, dict := some h.objs.size, data := .fields vs, slots := osl } :=
    Heap.get?_update_self _ hx₁ rfl
  have old : ∀ b ob, b ≠ x → h.get? b = some ob → ((h.push { cls := .type "dict", data := .dict #[] }).update x fun o => { cls := o.cls, dict := some h.objs.size, data := o.data, slots := o.slots }).get? b = some ob :=
    fun b ob hb e => (Heap.get?_update_ne _ _ _ _ hb).trans (Heap.get?_push_of_some _ e)
  generalize ((h.push { cls := .type "dict", data := .dict #[] }).update x fun o => { cls := o.cls, dict := some h.objs.size, data := o.data, slots := o.slots }) = H at hgd hxH old ⊢
  have empty : H.Ns h.objs.size (fun _ => none) := ⟨_, #[], _, hgd, rfl, fun e he => absurd he (by simp), fun _ => rfl⟩
  show wpAny _ _ (Builtin.ObjectAttr.storeInDict h.objs.size (.str name t) name v) _ _ _
  unfold Builtin.ObjectAttr.storeInDict Builtin.ObjectAttr.newKeyGuard
  refine wpAny_bind (wpAny_pure (wpAny_bind (wpAny_nsSet1 (Heap.Ns1.of_empty empty) fun h' hn' hs => ?_)))
  obtain ⟨oD, esD, epD, hoD, hdD, hcD⟩ := hn'.count (Within.cons name v Within.nil)
  refine wpAny_bind (wpAny_lookBehind hoD (by rw [hdD]; exact pastItsLine_dict (Nat.le_trans hcD (by rw [List.length_cons, List.length_nil, sizeLine_eq]; walk_at "om"))) ?_)
  have fin := hq h' (t + 1 + 1) ((hs.2 x hxs).trans hxH) hn' fun b ob hb e => (hs.2 b (Nat.ne_of_lt (Heap.lt_size e))).trans (old b ob hb e)
  repeat (any_goals (first | assumption | wp_step))
end
end
section
variable {w : World} {mg mb : Str → Option Value}

/-! ## the program's own exception -/
theorem nsIn_some {K : Frag} {h : Heap} {N : Addr} {m : Str → Option Value} {n : Str} {v : Value} (X : K.In h) (G : h.Ns N m) (e : nsIn K N n = some (some v)) : m n = some v := by
  obtain ⟨o, es, ep, ho, hd, _, hf⟩ := G
  unfold nsIn at e
  split at e
  · rename_i c d es' n' sl q
    have e1 := X _ _ q
    rw [ho] at e1
    cases e1
    cases hd
    rw [← hf]
    unfold nsFind findBy
    rw [← Array.find?_toList]
    split at e
    · rename_i en he
      cases e
      rw [he]; rfl
    · split at e <;> cases e
  · cases e

abbrev failObj : Obj := excClassObj "JSFail" "JSFail" 73 72 [.type "Exception"] excM true [] [] false none none (some (.ref 57)) none (some (.str "JSFail" 247)) (some (.str "JSFail" 255)) (some (.bool true)) "Exception.__new__"
theorem j_look : (Gw w mg mb).K.lookup 73 = some failObj := by kernel_rfl
theorem j_ok : nsOkIn (Gw w mg mb).K 72 = true := by kernel_rfl
theorem j_tab : (List.map Str.ofString ["__init__", "__setattr__", "__getattribute__", "__getattr__", "kind", "text"]).map (nsIn (Gw w mg mb).K 72) = [some (some (.ref 70)), some none, some none, some none, some none, some none] := by kernel_rfl
theorem ok_init : FnOk (Gw w mg mb) 70 ["self", "kind", "text"] ["self", "kind", "text"] := ⟨by kernel_rfl, by kernel_rfl, by kernel_rfl, by kernel_rfl, by kernel_rfl, by kernel_rfl, by kernel_rfl, by kernel_rfl, by kernel_rfl, by kernel_rfl, by kernel_rfl, by decide +kernel, vs3 fun a0 a1 a2 => by kernel_rfl, by kernel_rfl⟩

section
variable {h : Heap}
theorem j_cls (k : (Gw w mg mb).K.In h) : h.get? 73 = some failObj := k _ _ j_look
theorem j_ns (k : (Gw w mg mb).K.In h) : h.Ns 72 (h.nsMap 72) := .of_isNs (isNs_of_in k j_ok)
theorem j_init (k : (Gw w mg mb).K.In h) : h.nsMap 72 "__init__" = some (.ref 70) := nsIn_some k (j_ns k) (Option.some.inj (congrArg (fun l => l[0]?) (j_tab (w := w) (mg := mg) (mb := mb))))
theorem j_none (k : (Gw w mg mb).K.In h) (n : Str) (hn : n ∈ List.map Str.ofString ["__setattr__", "__getattribute__", "__getattr__", "kind", "text"]) : h.nsMap 72 n = none := by
  refine nsMap_none_of_in k j_ok ?_
  have t := j_tab (w := w) (mg := mg) (mb := mb)
  simp only [List.map_cons, List.map_nil, List.mem_cons, List.not_mem_nil, or_false] at hn
  rcases hn with rfl | rfl | rfl | rfl | rfl
  · exact Option.some.inj (congrArg (fun l => l[1]?) t)
  · exact Option.some.inj (congrArg (fun l => l[2]?) t)
  · exact Option.some.inj (congrArg (fun l => l[3]?) t)
  · exact Option.some.inj (congrArg (fun l => l[4]?) t)
  · exact Option.some.inj (congrArg (fun l => l[5]?) t)
end
theorem lk_kind : typeLookup (.type "Exception") "kind" = pure none := by rw [typeLookup_type, builtinLookup_eq_fast]; kernel_rfl
theorem lk_text : typeLookup (.type "Exception") "text" = pure none := by rw [typeLookup_type, builtinLookup_eq_fast]; kernel_rfl

/-- an exception made: its kind, no traceback yet -/
structure Made (h h' : Heap) (e : Addr) (k : Str) : Prop where
  sub : Sub h h'
  new : h.get? e = none
  obj : ∃ o a0 dx mA t, h'.get? e = some o ∧ o.cls = .ref 73 ∧ o.data = .fields #[a0, .none, .none, .none, .bool false, .none] ∧ o.dict = some dx ∧ dx ≠ e ∧ h'.Ns1 dx mA ∧ mA "kind" = some (.str k t) ∧ h.get? dx = none

theorem init_cls : ((Gw w mg mb).K.lookup 70).map (·.cls) = some (.type "function") := by kernel_rfl

theorem make_fail {A : Around} {s : Shared} {Q E : Value → Shared → Prop} {k m : Str} {t u : Tok} (hh : A.handled = none) (hd : A.depth + 8 < recursionLimit) (hu : A.units + 60 < cLine) (H : Hp (Gw w mg mb) s.heap)
    (hq : ∀ h' tk e, Made s.heap h' e k → Q (.ref e) { s with heap := h', toks := tk }) : wpAny (Gw w mg mb).M A (call (.ref 73) [.str k t, .str m u]) Q E s := by
  obtain ⟨hp, g, d, tk, os⟩ := s
  obtain ⟨oi, fdi, hKi, hdi⟩ := isFn_obj (ok_init (w := w) (mg := mg) (mb := mb)).isfn
  have hoi := H.k _ _ hKi
  have hci : oi.cls = .type "function" := by
    have := init_cls (w := w) (mg := mg) (mb := mb)
    rw [hKi] at this
    exact Option.some.inj this
  refine wpAny_call_exc_init (F := PySem.F.excBase_Exception) (fI := 70) (j_cls H.k) (j_ns H.k) (j_init H.k) hoi hci (fun h' e hm => ?_) (show (2 : Nat) ≤ sizeLine from Nat.le_of_ble_eq_true rfl)
  have H' : Hp (Gw w mg mb) h' := H.sub hm.keeps
  obtain ⟨a0, he, _, _⟩ := hm.there
  have hw0 : (Code.builtin "type.__call__" { pos := [Value.ref 73, Value.str k t, Value.str m u] }).weight ≤ 5 := by
    show Nat.le _ _
    exact Nat.le_of_ble_eq_true (by kernel_rfl)
  have hu0 : (Code.builtin "type.__call__" { pos := [Value.ref 73, Value.str k t, Value.str m u] }).cUnits ≤ 20 := by
    show Nat.le _ _
    exact Nat.le_of_ble_eq_true (by kernel_rfl)
  refine enter (G := Gw w mg mb) (n := 0) ok_init rfl (ds := [.ref e, .str k, .str m]) (hb := h') ?_ ?_ ?_ H' (Sub.refl _) (Nat.le_refl _) ⟨rfl, fun i v d e1 e2 => ?_⟩ fun X hX h₁ tk₁ S => ?_
  · exact hh
  · show A.depth + _ + (0 + 1) < _
    walk_at "om"
  · show A.units + _ + 8 * (0 + 1) + 20 < _
    walk_at "om"
  · match i with
    | 0 => cases e1; cases e2; exact .ref _
    | 1 => cases e1; cases e2; exact .str _ _
    | 2 => cases e1; cases e2; exact .str _ _
    | i + 3 => cases e1
  subst hX
  conv => arg 3; arg 1; whnf
  refine wpAny_execs_cons (plainObj_wpAny_Assign_Attribute ?_ rfl)
  refine (lv 1).run _ _ _ S fun v h₂ tk₂ S₂ k₂ r₂ => (lv 0).run _ _ _ S₂ fun ov h₃ tk₃ S₃ k₃ r₃ => ?_
  obtain ⟨t₂, rfl⟩ := r₂.str_inv
  cases r₃
  obtain ⟨m₃, F₃, V₃⟩ := S₃.fr
  have he₃ := F₃.keep _ _ he
  have H₃ : Hp (Gw w mg mb) h₃ := H'.sub F₃.keep
  have Lne : h'.objs.size ≠ e := Nat.ne_of_gt (Heap.lt_size he)
  refine store_first PySem.F.store_Exception (j_cls H₃.k) (j_ns H₃.k) (j_none H₃.k _ (by simp)) (j_none H₃.k _ (by simp)) lk_kind he₃ rfl ⟨_, rfl⟩ rfl fun h₄ tk₄ e₄ n₄ k₄ => ?_
  have L₄ : h₄.Ns h'.objs.size m₃ := by
    obtain ⟨oL, es, ep, q1, q2⟩ := F₃.ns
    exact ⟨oL, es, ep, k₄ _ _ Lne q1, q2⟩
  have s₄ : ∀ b o, b ≠ e → h'.get? b = some o → h₄.get? b = some o := fun b o hb q => k₄ b o hb (F₃.keep b o q)
  have k73 : (73 : Addr) ≠ e := by
    rintro rfl
    have := j_cls H.k
    rw [hm.new] at this; cases this
  have k72 : (72 : Addr) ≠ e := by
    rintro rfl
    obtain ⟨o, _, _, q, _⟩ := j_ns H.k
    rw [hm.new] at q; cases q
  have c₄ : h₄.get? 73 = some failObj := s₄ _ _ k73 (j_cls H'.k)
  have ns₄ : h₄.Ns 72 (h'.nsMap 72) := by
    obtain ⟨o, es, ep, q1, q2⟩ := j_ns H'.k
    exact ⟨o, es, ep, s₄ _ _ k72 q1, q2⟩
  obtain ⟨v1, w1, r1⟩ := V₃ 2 "text" (.str m) rfl rfl
  obtain ⟨v0, w0, r0⟩ := V₃ 0 "self" (.ref e) rfl rfl
  cases r0
  obtain ⟨t5, rfl⟩ := r1.str_inv
  refine wpAny_execs_cons (plainObj_wpAny_Assign_Attribute ?_ rfl)
  refine wpAny_Name (wpAny_loadName_local rfl (by kernel_rfl) L₄ w1 ?_) (by kernel_rfl)
  refine wpAny_Name (wpAny_loadName_local rfl (by kernel_rfl) L₄ w0 ?_) (by kernel_rfl)
  have dne : h₃.objs.size ≠ e := Nat.ne_of_gt (Heap.lt_size he₃)
  have I₄ : h₄.Inst e 73 (fun y => if y = "kind" then some (.str k t₂) else none) := ⟨_, e₄, rfl, fun c q => by (cases q), .inr ⟨_, rfl, dne, n₄⟩⟩
  refine store_attr PySem.F.store_Exception c₄ ns₄ (j_none H'.k _ (by simp)) (j_none H'.k _ (by simp)) lk_text k73.symm I₄ (fun h₅ tk₅ I₅ k₅ o₅ => ?_)
  refine wpAny_execs_nil ⟨rfl, hq h₅ tk₅ e ⟨fun b o q => ?_, hm.new, ?_⟩⟩
  · have q' := hm.keeps b o q
    have be : b ≠ e := by
      rintro rfl
      rw [hm.new] at q; cases q
    refine k₅ b o be (fun o₀ dx q0 q1 => ?_) (s₄ b o be q')
    rw [e₄] at q0
    cases q0
    cases q1
    exact Nat.ne_of_lt (Heap.lt_size (F₃.keep b o q'))
  · obtain ⟨o₁, q1, q2, q3, q4, q5⟩ := o₅ _ e₄
    obtain ⟨o₂, p1, p2, p3, p4⟩ := I₅
    rw [q1] at p1
    cases p1
    have q6 := q5 _ rfl
    rcases p4 with ⟨p4, _⟩ | ⟨dx, p4, p5, p6⟩
    · rw [q6] at p4; cases p4
    · refine ⟨o₁, _, dx, _, t₂, q1, q2, q3, p4, p5, p6, rfl, ?_⟩
      rw [q6] at p4
      cases p4
      cases z : hp.get? h₃.objs.size with
      | none => rfl
      | some oo => exact absurd (Heap.lt_size (F₃.keep _ _ (hm.keeps _ _ z))) (Nat.lt_irrefl _)
end
section
variable {w : World} {mg mb : Str → Option Value}

/-! ## an exception that flies -/
/-- the frames on the stack: their names stand -/
noncomputable def FF (h : Heap) (l : List Env) : Prop := ∀ env ∈ l, env.scope.kind ≠ .module ∧ ∃ L o es ep, env.frame = some L ∧ h.get? L = some o ∧ o.data = .dict es ep
theorem FF.fun {h : Heap} : ∀ {l : List Env}, FF h l → h.FunFrames {} l
  | [], _ => trivial
  | env :: l, x => by
    obtain ⟨h1, L, o, es, ep, h2, h3, h4⟩ := x env (List.Mem.head _)
    exact ⟨h1, ⟨L, o, h2, Heap.get?_none_of_le (Nat.zero_le _), h3, fun vs q => by rw [h4] at q; cases q⟩, FF.fun fun e he => x e (List.Mem.tail _ he)⟩
theorem FF.u {h h' : Heap} {l : List Env} (x : FF h l) (k : SubU h h') : FF h' l := fun env he => by
  obtain ⟨h1, L, o, es, ep, h2, h3, h4⟩ := x env he
  obtain ⟨sl, h5⟩ := k L o h3
  exact ⟨h1, L, _, es, ep, h2, h5, h4⟩
theorem FF.notFields {h : Heap} {l : List Env} (x : FF h l) {e : Addr} {o : Obj} {vs : Array Value} (he : h.get? e = some o) (hd : o.data = .fields vs) : e ∉ l.filterMap (·.frame) := fun hm => by
  obtain ⟨env, h1, h2⟩ := List.mem_filterMap.mp hm
  obtain ⟨_, L, o', es, ep, q1, q2, q3⟩ := x env h1
  rw [q1] at h2
  cases h2
  rw [he] at q2
  cases q2
  rw [hd] at q3
  cases q3

/-- what stays of a heap's objects, where the frames' slots may change -/
noncomputable def KeepE (hs : Heap) (l : List Env) (h h' : Heap) : Prop := ∀ b o, hs.get? b ≠ none → h.get? b = some o → (∃ sl, h'.get? b = some { o with slots := sl }) ∧ (b ∉ l.filterMap (·.frame) → h'.get? b = some o)
theorem KeepE.trans {hs : Heap} {l : List Env} {a b c : Heap} (x : KeepE hs l a b) (y : KeepE hs l b c) : KeepE hs l a c := fun p o n e => by
  obtain ⟨⟨sl, e1⟩, e2⟩ := x p o n e
  obtain ⟨⟨sl', e3⟩, _⟩ := y p _ n e1
  exact ⟨⟨sl', e3⟩, fun q => (y p o n (e2 q)).2 q⟩

/-- an exception: its kind stands in its own dict; the traceback, if any, is new -/
structure ExcAt (hs h : Heap) (e : Addr) (k : Str) (fl : Option Value) (vs : Array Value) : Prop where
  new : hs.get? e = none
  dom : ∀ b, h.get? b = none → hs.get? b = none
  obj : ∃ o dx mA t, h.get? e = some o ∧ o.cls = .ref 73 ∧ o.data = .fields vs ∧ 1 < vs.size ∧ o.dict = some dx ∧ h.Ns1 dx mA ∧ mA "kind" = some (.str k t) ∧ hs.get? dx = none
  tr : match fl with
    | none => vs[1]? = some .none
    | some f => ∃ T oT ts, vs[1]? = some (.ref T) ∧ hs.get? T = none ∧ T ≠ e ∧ h.get? T = some oT ∧ oT.data = .fields ts ∧ ts[3]? = some f ∧ 3 < ts.size

noncomputable def Fly (hs h : Heap) (e : Addr) (k : Str) : Prop := ∃ vs, ExcAt hs h e k none vs ∨ ExcAt hs h e k (some .none) vs

theorem Made.fly {h h' : Heap} {e : Addr} {k : Str} (x : Made h h' e k) : Fly h h' e k := by
  obtain ⟨o, a0, dx, mA, t, h1, h2, h3, h4, h5, h6, h7, h9⟩ := x.obj
  exact ⟨_, .inl ⟨x.new, dom_of_sub x.sub, ⟨o, dx, mA, t, h1, h2, h3, (show (1 : Nat) < 6 by decide), h4, h6, h7, h9⟩, rfl⟩⟩

theorem Ns1.up {h h' : Heap} {a : Addr} {m : Str → Option Value} (x : h.Ns1 a m) (k : ∀ o, h.get? a = some o → ∃ sl, h'.get? a = some { o with slots := sl }) : h'.Ns1 a m := by
  obtain ⟨o, es, ep, h1, r⟩ := x
  obtain ⟨sl, h2⟩ := k o h1
  exact ⟨_, es, ep, h2, r⟩
theorem Ns1.ne {h : Heap} {a b : Addr} {m : Str → Option Value} (x : h.Ns1 a m) {o : Obj} {vs : Array Value} (h1 : h.get? b = some o) (h2 : o.data = .fields vs) : a ≠ b := by
  rintro rfl
  obtain ⟨o', es, ep, q1, q2, _⟩ := x
  rw [h1] at q1; cases q1; rw [h2] at q2; cases q2

section
variable {M : Model} {A : Around} {E : Value → Shared → Prop} {s : Shared} {env : Env} {outer : List Env} {L e : Addr}

/-- a new entry of the traceback -/
theorem entry_step {oe : Obj} {vs : Array Value} {head : Value} {hadNext : Bool} {Q : Unit → Shared → Prop} (hfr : A.frames = some (env :: outer)) (ff : FF s.heap (env :: outer)) (hf : env.frame = some L)
    (he : s.heap.get? e = some oe) (hd : oe.data = .fields vs) (hsz : 1 < vs.size)
    (h : ∀ h' T, h'.get? e = some { oe with data := .fields (vs.setIfInBounds 1 (.ref T)) } → s.heap.get? T = none → T ≠ e → (∃ oT ts, h'.get? T = some oT ∧ oT.data = .fields ts ∧ 3 < ts.size) →
      (∀ b o, b ≠ e → s.heap.get? b = some o → (∃ sl, h'.get? b = some { o with slots := sl }) ∧ (b ∉ (env :: outer).filterMap (·.frame) → h'.get? b = some o)) → Q () { s with heap := h' }) :
    wpAny M A (do let a ← frameOf env; let pl ← entryPlaceOf L hadNext; let b ← EntryCells.newEntry head a .none (rawInt L) .none pl; setField (.ref e) 1 b) Q E s := by
  have hene := ff.notFields he hd
  refine wpAny_bind (wpAny_frameOf_fun hfr ff.fun hf fun h₁ hs₁ => ?_)
  refine wpAny_bind (wpAny_entryPlaceOf fun pl hpl => ?_)
  unfold EntryCells.newEntry newFields
  refine wpAny_bind (wpAny_newObj_type ?_ (hpl.sizeOk5 _ _ _ _ _))
  have he₁ : h₁.get? e = some oe := (hs₁.2.1 e hene).trans he
  obtain ⟨oc, od, odt, osl⟩ := oe
  dsimp only at hd
  subst hd
  refine wpAny_setField (Heap.get?_push_of_some _ he₁) rfl hsz ?_
  have hTe : h₁.objs.size ≠ e := Nat.ne_of_gt (Heap.lt_size he₁)
  refine h _ h₁.objs.size (Heap.get?_update_self _ (Heap.get?_push_of_some _ he₁) rfl) ?_ hTe ⟨_, _, (Heap.get?_update_other _ _ (Ne.symm hTe)).trans (Heap.get?_push_size h₁ rfl), rfl, ?_⟩ fun b o hb q => ?_
  · exact Heap.get?_none_of_le (Nat.le_of_eq hs₁.1.symm)
  · simp only [List.size_toArray, List.length_append, List.length_cons, List.length_nil]
    walk_at "om"
  · have other : ∀ o', h₁.get? b = some o' → ((h₁.push { cls := .type "traceback", dict := none, data := .fields ([head, .ref L, .none, rawInt L, .none] ++ (if pl.isEmpty then List.replicate 6 Value.none else pl)).toArray }).update e (Obj.mapFields (·.setIfInBounds 1 (Value.ref h₁.objs.size)))).get? b = some o' :=
      fun o' q' => (Heap.get?_update_other _ _ (Ne.symm hb)).trans (Heap.get?_push_of_some _ q')
    obtain ⟨sl, q1⟩ := hs₁.2.2 b o q
    exact ⟨⟨sl, other _ q1⟩, fun hn => other _ ((hs₁.2.1 b hn).trans q)⟩

theorem note {hs : Heap} {k : Str} {Q : Unit → Shared → Prop} (hfr : A.frames = some (env :: outer)) (ff : FF s.heap (env :: outer)) (hf : env.frame = some L) (F : Fly hs s.heap e k)
    (hQ : ∀ h' vs f, ExcAt hs h' e k (some f) vs → KeepE hs (env :: outer) s.heap h' → Q () { s with heap := h' }) : wpAny M A (noteFrame (.ref e) env) Q E s := by
  obtain ⟨vs, F | F⟩ := F
  · obtain ⟨fn, fdm, ⟨o, dx, mA, t, h1, h2, h3, h4, h5, h6, h7, h9⟩, h8⟩ := F
    unfold noteFrame
    simp only [hf]
    refine wpAny_bind (wpAny_field h1 h3 h8 ?_)
    rw [if_neg (by decide)]
    refine entry_step hfr ff hf h1 h3 h4 fun h' T q1 q2 q3 q4 q5 => ?_
    obtain ⟨oT, ts, p1, p2, p3⟩ := q4
    have dne := Ns1.ne h6 h1 h3
    refine hQ h' _ (ts[3]'p3) ⟨fn, fun b hb => ?_, ⟨_, dx, mA, t, q1, h2, rfl, by simpa using h4, h5, Ns1.up h6 fun o' q => (q5 dx o' dne q).1, h7, h9⟩, ⟨T, oT, ts, by simp [h4], fdm T q2, q3, p1, p2, Array.getElem?_eq_getElem p3, p3⟩⟩ fun b o' hb q => q5 b o' ?_ q
    · refine fdm b ?_
      cases q : s.heap.get? b with
      | none => rfl
      | some o' =>
        exfalso
        by_cases hbe : b = e
        · subst hbe; rw [q1] at hb; cases hb
        · obtain ⟨sl, q6⟩ := (q5 b o' hbe q).1
          rw [q6] at hb; cases hb
    · rintro rfl; exact hb fn
  · obtain ⟨fn, fdm, ⟨o, dx, mA, t, h1, h2, h3, h4, h5, h6, h7, h9⟩, ⟨T, oT, ts, t1, t2, t3, t4, t5, t6, t7⟩⟩ := F
    unfold noteFrame
    simp only [hf]
    refine wpAny_bind (wpAny_field h1 h3 t1 ?_)
    rw [if_pos (show (Value.ref T != Value.none) = true from by simp)]
    refine wpAny_bind (wpAny_field t4 t5 t6 ?_)
    rw [if_neg (show ¬ ((Value.none == rawInt L) = true) from by simp [rawInt])]
    refine wpAny_bind (wpAny_setField t4 t5 t7 ?_)
    have other : ∀ b, b ≠ T → (s.heap.update T (Obj.mapFields (·.setIfInBounds 3 Value.none))).get? b = s.heap.get? b := fun b hb => Heap.get?_update_other _ _ (Ne.symm hb)
    have fT := ff.notFields t4 t5
    have ff' : FF (s.heap.update T (Obj.mapFields (·.setIfInBounds 3 Value.none))) (env :: outer) := fun env' he' => by
      obtain ⟨g1, L', o', es, ep, g2, g3, g4⟩ := ff env' he'
      exact ⟨g1, L', o', es, ep, g2, (other L' (fun q => fT (q ▸ List.mem_filterMap.mpr ⟨env', he', g2⟩))).trans g3, g4⟩
    have dne := Ns1.ne h6 h1 h3
    have dnT := Ns1.ne h6 t4 t5
    refine entry_step (s := { s with heap := s.heap.update T (Obj.mapFields (·.setIfInBounds 3 Value.none)) }) hfr ff' hf ((other e t3.symm).trans h1) h3 h4 fun h' T' q1 q2 q3 q4 q5 => ?_
    obtain ⟨oT', ts', p1, p2, p3⟩ := q4
    have T'0 : s.heap.get? T' = none := by
      cases q : s.heap.get? T' with
      | none => rfl
      | some o' =>
        exfalso
        by_cases hb : T' = T
        · subst hb
          rw [Heap.get?_update_self _ t4 (by obtain ⟨c1, c2, c3, c4⟩ := oT; dsimp only at t5; subst t5; rfl)] at q2
          cases q2
        · rw [other T' hb, q] at q2; cases q2
    refine hQ h' _ (ts'[3]'p3) ⟨fn, fun b hb => ?_, ⟨_, dx, mA, t, q1, h2, rfl, by simpa using h4, h5, Ns1.up h6 fun o' q => (q5 dx o' dne ((other dx dnT).trans q)).1, h7, h9⟩, ⟨T', oT', ts', by simp [h4], fdm T' T'0, q3, p1, p2, Array.getElem?_eq_getElem p3, p3⟩⟩ fun b o' hb q => q5 b o' ?_ ((other b ?_).trans q)
    · refine fdm b ?_
      cases q : s.heap.get? b with
      | none => rfl
      | some o' =>
        exfalso
        by_cases hbe : b = e
        · subst hbe; rw [q1] at hb; cases hb
        · by_cases hbT : b = T
          · subst hbT
            obtain ⟨sl, q6⟩ := (q5 b _ hbe (Heap.get?_update_self _ t4 (by obtain ⟨c1, c2, c3, c4⟩ := oT; dsimp only at t5; subst t5; rfl))).1
            rw [q6] at hb; cases hb
          · obtain ⟨sl, q6⟩ := (q5 b o' hbe ((other b hbT).trans q)).1
            rw [q6] at hb; cases hb
    · rintro rfl; exact hb fn
    · rintro rfl; exact hb t2

theorem unflight {hs : Heap} {l : List Env} {k : Str} {f : Value} {vs : Array Value} {Q : Unit → Shared → Prop} (F : ExcAt hs s.heap e k (some f) vs)
    (hQ : ∀ h', ExcAt hs h' e k (some .none) vs → KeepE hs l s.heap h' → Q () { s with heap := h' }) : wpAny M A (setFlight (.ref e) none) Q E s := by
  obtain ⟨fn, fdm, ⟨o, dx, mA, t, h1, h2, h3, h4, h5, h6, h7, h9⟩, ⟨T, oT, ts, t1, t2, t3, t4, t5, t6, t7⟩⟩ := F
  unfold setFlight
  refine wpAny_bind (wpAny_field h1 h3 t1 ?_)
  rw [if_pos (show (Value.ref T != Value.none) = true from by simp)]
  have other : ∀ b, b ≠ T → (s.heap.update T (Obj.mapFields (·.setIfInBounds 3 (Value.none)))).get? b = s.heap.get? b := fun b hb => Heap.get?_update_other _ _ (Ne.symm hb)
  have dnT := Ns1.ne h6 t4 t5
  obtain ⟨c1, c2, c3, c4⟩ := oT
  dsimp only at t5
  subst t5
  have new := Heap.get?_update_self (Obj.mapFields (·.setIfInBounds 3 (Value.none))) t4 rfl
  refine wpAny_setField t4 rfl t7 (hQ _ ⟨fn, fun b hb => ?_, ⟨o, dx, mA, t, (other e t3.symm).trans h1, h2, h3, h4, h5, Ns1.up h6 fun o' q => ⟨o'.slots, (other dx dnT).trans q⟩, h7, h9⟩, ⟨T, _, _, t1, t2, t3, new, rfl, by simp [t7], by simpa using t7⟩⟩ fun b o' hb q => ?_)
  · refine fdm b ?_
    by_cases hbT : b = T
    · subst hbT
      have hb' : (s.heap.update b (Obj.mapFields (·.setIfInBounds 3 (Value.none)))).get? b = none := hb
      rw [new] at hb'; cases hb'
    · rw [← other b hbT]; exact hb
  · have hbT : b ≠ T := by rintro rfl; exact hb t2
    have q' := (other b hbT).trans q
    exact ⟨⟨o'.slots, q'⟩, fun _ => q'⟩

theorem leave {hs : Heap} {k : Str} {Q : Unit → Shared → Prop} (hfr : A.frames = some (env :: outer)) (ff : FF s.heap (env :: outer)) (hf : env.frame = some L) (F : Fly hs s.heap e k)
    (hQ : ∀ h', Fly hs h' e k → KeepE hs (env :: outer) s.heap h' → Q () { s with heap := h' }) : wpAny M A (leaving env (.ref e)) Q E s := by
  unfold leaving
  refine wpAny_bind (note hfr ff hf F fun h₁ vs f F₁ k₁ => ?_)
  refine unflight (l := env :: outer) F₁ fun h₂ F₂ k₂ => ?_
  exact hQ h₂ ⟨vs, .inr F₂⟩ (k₁.trans k₂)
end
end
section
variable {w : World} {mg mb : Str → Option Value}

/-! ## calls and statements that raise -/
structure Lw (X : Cx) (fs : List Env) : Prop where
  fr : X.A.frames = some fs
  ff : ∀ {σ μ h}, St X σ μ h → FF h fs
  no : ∀ env ∈ fs, ∀ L, env.frame = some L → X.h₀.get? L = none

theorem ExcAt.weak {hs hs' h : Heap} {e : Addr} {k : Str} {fl : Option Value} {vs : Array Value} (x : ExcAt hs h e k fl vs) (hd : ∀ b, hs.get? b = none → hs'.get? b = none) : ExcAt hs' h e k fl vs := by
  refine ⟨hd _ x.new, fun b q => hd _ (x.dom b q), ?_, ?_⟩
  · obtain ⟨o, dx, mA, t, h1, h2, h3, h4, h5, h6, h7, h9⟩ := x.obj
    exact ⟨o, dx, mA, t, h1, h2, h3, h4, h5, h6, h7, hd _ h9⟩
  cases fl with
  | none => exact x.tr
  | some f =>
    obtain ⟨T, oT, ts, t1, t2, r⟩ := x.tr
    exact ⟨T, oT, ts, t1, hd _ t2, r⟩
theorem Fly.weak {hs hs' h : Heap} {e : Addr} {k : Str} (x : Fly hs h e k) (hd : ∀ b, hs.get? b = none → hs'.get? b = none) : Fly hs' h e k := by
  obtain ⟨vs, x | x⟩ := x
  · exact ⟨vs, .inl (x.weak hd)⟩
  · exact ⟨vs, .inr (x.weak hd)⟩
theorem SubU.none {h h' : Heap} (x : SubU h h') (b : Addr) (q : h'.get? b = none) : h.get? b = none := by
  cases e : h.get? b with
  | none => rfl
  | some o => obtain ⟨sl, e1⟩ := x b o e; rw [q] at e1; cases e1

structure Flown (X : Cx) (h' : Heap) (x : Addr) (k : Str) : Prop where
  far : ∃ hh, Fly hh h' x k ∧ (∀ b, hh.get? b = none → X.hs.get? b = none) ∧ hh.get? X.L ≠ none
  us : SubU X.hs h'
  sub : Sub X.h₀ h'
  ns : ∃ m, h'.Ns X.L m
theorem Flown.fly {X : Cx} {h' : Heap} {x : Addr} {k : Str} (f : Flown X h' x k) : Fly X.hs h' x k := by
  obtain ⟨hh, h1, h2, _⟩ := f.far
  exact h1.weak h2

theorem St.flown {X : Cx} {σ : Lo} {μ : Mu} {h h' : Heap} {x : Addr} {k : Str} (S : St X σ μ h) (f : Fly h h' x k) (u : SubU h h') (s : Sub X.h₀ h') : Flown X h' x k := by
  obtain ⟨m, F, _⟩ := S.fr
  obtain ⟨o, es, ep, q1, q2⟩ := F.ns
  refine ⟨⟨h, f, S.us.none, fun z => by rw [q1] at z; cases z⟩, S.us.trans u, s, m, ?_⟩
  obtain ⟨sl, q3⟩ := u _ _ q1
  exact ⟨_, es, ep, q3, q2⟩

structure Fx (G : Gx) (n : Nat) (f : Value) (ds : List D) (k : Str) : Prop where
  run : ∀ (hb : Heap) (A : Around) (s : Shared) (Q : Value → Shared → Prop) (E : Value → Shared → Prop) (vs : List Value) (outer : List Env),
    A.handled = none → A.depth + n < recursionLimit → A.units + 8 * n + 20 < cLine → A.frames = some outer → FF s.heap outer → (∀ env ∈ outer, ∀ L, env.frame = some L → hb.get? L = none) →
    Hp G hb → Sub hb s.heap → hb.objs.size ≤ s.heap.objs.size → Rvs s.heap vs ds →
    (∀ e h' tk, Fly s.heap h' e k → SubU s.heap h' → Sub hb h' → E (.ref e) { s with heap := h', toks := tk }) → wpAny G.M A (call f vs) Q E s
structure Fdx (G : Gx) (n : Nat) (a : Addr) (ds : List D) (k : Str) : Prop where
  fn : Fx G n (.ref a) ds k
  isf : isFn G.K a = true

structure EEX (X : Cx) (σ : Lo) (e : Expr) (k : Str) : Prop where
  run : ∀ (s : Shared) (Q : Value → Shared → Prop) (E : Value → Shared → Prop), St X σ [] s.heap →
    (∀ x h' tk, Flown X h' x k → E (.ref x) { s with heap := h', toks := tk }) → wpAny X.g.M X.A (eval e X.env) Q E s
structure ESX (X : Cx) (σ : Lo) (ss : List Stmt) (k : Str) : Prop where
  run : ∀ (s : Shared) (Q : Flow → Shared → Prop) (E : Value → Shared → Prop), St X σ [] s.heap →
    (∀ x h' tk, Flown X h' x k → E (.ref x) { s with heap := h', toks := tk }) → wpAny X.g.M X.A (execs ss X.env) Q E s

section
variable {X : Cx} {σ : Lo} {fs : List Env} {k : Str}

theorem St.h0 {μ : Mu} {h : Heap} (S : St X σ μ h) : Sub X.h₀ h ∧ X.h₀.objs.size ≤ h.objs.size := by
  obtain ⟨m, F, _⟩ := S.fr
  exact ⟨F.keep, Nat.le_trans F.above (Nat.le_of_lt F.ns.lt)⟩

theorem exx_call {x : Str} {p' : Pos} {e : Expr} {es : List Expr} {p : Pos} {a : Addr} {ds : List D} {n : Nat} (W : Lw X fs) (hf : EE X σ [] (.Name x p') (.ref a)) (ha : EA X σ [] (e :: es) ds) (hfx : Fdx X.g n a ds k)
    (hn : Nat.ble n X.n = true := by rfl) (he : notStar e = true := by rfl) : EEX X σ (.Call (.Name x p') (e :: es) [] p) k := by
  refine ⟨fun s Q E S kk => ?_⟩
  refine Call_ (hf.run s _ E S fun v h₁ tk₁ S₁ k₁ r₁ => ?_) rfl
  cases r₁
  obtain ⟨o, fd, hK, hd⟩ := isFn_obj hfx.isf
  refine callWith_def hd (ha.run p _ _ E S₁ fun vs h₂ tk₂ S₂ k₂ r₂ => ?_) (star_plain he)
  refine ⟨S₂.hp.k _ _ hK, ?_⟩
  have hn' := Nat.le_of_ble_eq_true hn
  refine hfx.fn.run X.h₀ X.A _ Q E vs fs S.ok.ah (by have := S.ok.dep; walk_at "om") (by have := S.ok.un; walk_at "om") W.fr (W.ff S₂) W.no S.ok.hp S₂.h0.1 S₂.h0.2 r₂ fun e h' tk f u s' => ?_
  exact kk _ _ _ (S₂.flown f u s')

/-- the first argument raises -/
theorem exx_arg1 {x : Str} {p' : Pos} {e : Expr} {es : List Expr} {p : Pos} {a : Addr} (hf : EE X σ [] (.Name x p') (.ref a)) (hk : isFn X.g.K a = true) (hx : EEX X σ e k) (he : notStar e = true := by rfl) : EEX X σ (.Call (.Name x p') (e :: es) [] p) k := by
  refine ⟨fun s Q E S kk => ?_⟩
  refine Call_ (hf.run s _ E S fun v h₁ tk₁ S₁ k₁ r₁ => ?_) rfl
  cases r₁
  obtain ⟨o, fd, hK, hd⟩ := isFn_obj hk
  exact callWith_def (o := o) hd (args_cons (hx.run { s with heap := h₁, toks := tk₁ } _ E S₁ fun x h' tk f => kk _ _ _ f) (star_plain he)) (star_plain he)
theorem exx_tup {e : Expr} {es : List Expr} {n : Nat} {p : Pos} (hx : EEX X σ e k) (he : notStar e = true := by rfl) : EEX X σ (.Tuple (e :: es) n p) k := by
  refine ⟨fun s Q E S kk => ?_⟩
  exact Tuple_ (args_cons (hx.run _ _ E S fun x h' tk f => kk _ _ _ f) (star_plain he))

theorem esx_cons {st : Stmt} {rest : List Stmt} {σ' : Lo} (h : E1 X σ [] st (.next σ' [])) (hr : ESX X σ' rest k) : ESX X σ (st :: rest) k := by
  refine ⟨fun s Q E S kk => ?_⟩
  refine wpAny_execs_cons (h.run s _ E S ?_)
  intro h₁ tk₁ S₁ k₁
  exact hr.run _ Q E S₁ fun x h' tk f => kk _ _ _ f
theorem esx_if {t : Expr} {a b rest : List Stmt} {pos : Pos} {c : Bool} (ht : EB X σ [] t c) (h1 : c = true → ESX X σ (a ++ rest) k) (h2 : c = false → ESX X σ (b ++ rest) k) : ESX X σ (.If t a b pos :: rest) k := by
  refine ⟨fun s Q E S kk => ?_⟩
  rw [execs_if]
  refine wpAny_bind (wpAny_standAt (wpAny_bind (ht.run s _ E S fun h₁ tk₁ S₁ k₁ => ?_)))
  cases c with
  | true => exact (h1 rfl).run _ Q E S₁ fun x h' tk f => kk _ _ _ f
  | false => exact (h2 rfl).run _ Q E S₁ fun x h' tk f => kk _ _ _ f
theorem esx_expr {e : Expr} {pos : Pos} {rest : List Stmt} (hx : EEX X σ e k) (hs : ∀ env, swapsWith e none pos.line env = pure false) (hi : interactive X.env = false) : ESX X σ (.Expr e pos :: rest) k := by
  refine ⟨fun s Q E S kk => ?_⟩
  exact wpAny_execs_cons (wpAny_Expr (hx.run s _ E S fun x h' tk f => kk _ _ _ f) hi (hs _))
theorem esx_set {x : Str} {e : Expr} {p pos : Pos} {rest : List Stmt} (hx : EEX X σ e k) (hs : ∀ env, swapsWith e (some (.Name x p)) pos.line env = pure false) : ESX X σ (.Assign [.Name x p] e pos :: rest) k := by
  refine ⟨fun s Q E S kk => ?_⟩
  exact wpAny_execs_cons (wpAny_Assign_Name (hx.run s _ E S fun x h' tk f => kk _ _ _ f) (hs _))
theorem esx_unpackS {elts : List Expr} {n : Nat} {tp pos : Pos} {e : Expr} {xs : List Str} {rest : List Stmt} (hx : EEX X σ e k)
    (hs : ∀ env, swapsWithSole [.Tuple elts n tp] e pos.line env = pure false) (hw : swappedStores [.Tuple elts n tp] e X.env = pure (some xs)) : ESX X σ (.Assign [.Tuple elts n tp] e pos :: rest) k := by
  refine ⟨fun s Q E S kk => ?_⟩
  exact wpAny_execs_cons (PyProof.Rows.Assign_Tuple_swapped (names := xs) (hx.run s _ E S fun x h' tk f => kk _ _ _ f) (hs _) hw)
theorem esx_ret {e : Expr} {pos : Pos} {rest : List Stmt} (hx : EEX X σ e k) : ESX X σ (.Return (some e) pos :: rest) k := by
  refine ⟨fun s Q E S kk => ?_⟩
  exact wpAny_execs_cons (wpAny_Return_some (hx.run s _ E S fun x h' tk f => kk _ _ _ f))

/-- an exception is raised: a text and a message -/
theorem esx_raise {np cpos pos : Pos} {a b : Expr} {rest : List Stmt} {m : Str} {mg mb : Str → Option Value} {w : World} (hG : X.g = Gw w mg mb) (hf : EE X σ [] (.Name "JSFail" np) (.ref 73)) (ha : EA X σ [] [a, b] [.str k, .str m])
    (hn : Nat.ble 8 X.n = true := by rfl) (hea : notStar a = true := by rfl) (heb : notStar b = true := by rfl) : ESX X σ (.Raise (some (.Call (.Name "JSFail" np) [a, b] [] cpos)) none pos :: rest) k := by
  refine ⟨fun s Q E S kk => ?_⟩
  refine wpAny_execs_cons ?_
  rw [arm_exec_Raise]
  refine wpAny_bind (wpAny_standAt ?_)
  show wpAny _ _ (raiseStmt X.env (some (do let v ← eval (.Call (.Name "JSFail" np) [a, b] [] cpos) X.env; standAt pos; pure v)) none) _ _ _
  unfold raiseStmt
  have hplain : (backTo cpos (starEach [a, b] X.env)).any (·.1) = false := plain_args (by simp [List.all_cons, hea, heb])
  refine wpAny_bind (wpAny_bind (Call_ (hf.run s _ E S fun v h₁ tk₁ S₁ k₁ r₁ => ?_) rfl))
  cases r₁
  unfold callWith
  have e1 : starEach [a, b] X.env = (false, eval a X.env) :: starEach [b] X.env := star_plain hea
  refine wpAny_bind (wpAny_holding ?_)
  have ev : ∀ (Q' : Args → Shared → Prop), wpAny X.g.M X.A (spliced (backTo cpos (starEach [a, b] X.env))) (fun vs s' => Q' ⟨vs, []⟩ s') E { s with heap := h₁, toks := tk₁ } → wpAny X.g.M X.A (evalArgs (.ref 73) true (backTo cpos (starEach [a, b] X.env)) []) Q' E { s with heap := h₁, toks := tk₁ } := by
    intro Q' h
    rw [e1] at h ⊢
    exact evalArgs_plain h
  refine ev _ (ha.run cpos { s with heap := h₁, toks := tk₁ } _ E S₁ fun vs h₂ tk₂ S₂ k₂ r₂ => wpAny_bind (wpAny_standAt ?_))
  have H₂ := S₂.hp
  rw [hG] at H₂
  obtain ⟨v, u, rfl, q1, q2⟩ := r₂.inv2
  obtain ⟨t1, rfl⟩ := q1.str_inv
  obtain ⟨t2, rfl⟩ := q2.str_inv
  simp only [hplain]
  refine wpAny_bind (wpAny_keeperOf_exc (j_cls H₂.k) ?_)
  have hn' := Nat.le_of_ble_eq_true hn
  have mk : ∀ (Q' : Value → Shared → Prop), (∀ h' tk e, Made h₂ h' e k → Q' (.ref e) { s with heap := h', toks := tk }) → wpAny X.g.M X.A (call (.ref 73) [.str k t1, .str m t2]) Q' E { s with heap := h₂, toks := tk₂ } := fun Q' h => by
    rw [hG]
    exact make_fail (s := { s with heap := h₂, toks := tk₂ }) S.ok.ah (by have := S.ok.dep; walk_at "om") (by have := S.ok.un; walk_at "om") H₂ h
  refine wpAny_bind (mk _ fun h₃ tk₃ e M => wpAny_bind (wpAny_holding (wpAny_point (wpAny_pure ?_))))
  refine wpAny_bind (wpAny_standAt (wpAny_pure ?_))
  obtain ⟨o, a0, dx, mA, t, h1, h2, h3, h4, h5, h6, h7, h9⟩ := M.obj
  have hC : h₃.get? 73 = some failObj := M.sub _ _ (j_cls H₂.k)
  have hcB : (Value.ref 73 :: excM).contains (.type "BaseException") = true := by decide +kernel
  have fin := kk e h₃ tk₃ (S₂.flown M.fly M.sub.u fun b o q => M.sub b o (S₂.h0.1 b o q))
  obtain ⟨oc, od, odt, osl⟩ := o
  dsimp only at h2 h3 h4
  subst h2 h3
  obtain ⟨hp, g, d, tk, os⟩ := s
  repeat (first | with_reducible refine wpAny_loadPart_at h1 ?_ | with_reducible refine wpAny_loadPart_at hC ?_ | (with_reducible refine wpAny_isSubtype_exc hC ?_; rw [hcB]) | wp_step)
  exact wpAny_raiseNew_none S.ok.ah fin
end
end
section
section
variable {prog : Program} {w : World} {A : Around} {E : Value → Shared → Prop} {h : Heap} {g : Array GenState} {d : Drawn} {t : Nat} {os : OsState}
variable {nm q : Str} {C N x : Addr} {bs bm : List Value} {sn : List Str} {sub : List Value} {ab : Bool} {col : Option Bool} {dd : Option Addr} {k0 k1 k2 k3 k5 : Option Value} {newId B : String} {mN mA : Str → Option Value} {name : Str} {v : Value} {o : Obj} {vs : Array Value} {dx : Addr}

theorem load_entryE {tk : Tok} {Q : Fin → Shared → Prop} (FB : ExcAttrBase B bm) (hC : h.get? C = some (excClassObj nm q C N bs bm true sn sub ab col dd k0 k1 k2 k3 k5 newId)) (hn : h.Ns N mN) (hna : mN name = none)
    (hB : typeLookup (.type B) name = pure none) (hx : h.get? x = some o) (hc : o.cls = .ref C) (hd : o.data = .fields vs) (hdx : o.dict = some dx) (hns : h.Ns1 dx mA) (hv : mA name = some v) (hh : handedOut v = pure v) (hq : Q (.done (.ret v)) ⟨h, g, d, t, os⟩) :
    wpAny (model prog w) A (Builtin.«object.__getattribute__» ⟨[.ref x, .str name tk], []⟩) Q E ⟨h, g, d, t, os⟩ := by
  repeat (any_goals (first | assumption | (with_reducible refine wpAny_loadPart_at hx ?_; rw [hc]) | (with_reducible refine wpAny_typeLookup_exc hC hn FB.mro hB ?_; rw [hna]) | wp_step))
  obtain ⟨oc, od, odt, osl⟩ := o
  dsimp only at hc hd hdx
  subst hc hd hdx
  unfold instanceDict
  repeat (any_goals (first | assumption | (with_reducible refine wpAny_nsGet hns.ns ?_; rw [hv]) | with_reducible refine wpAny_loadPart_at hx ?_ | with_reducible refine wpAny_loadPart_at hC ?_ | wp_step))

theorem load_kind {expr : Bool} {Q : Value → Shared → Prop} (FB : ExcAttrBase B bm) (hC : h.get? C = some (excClassObj nm q C N bs bm true sn sub ab col dd k0 k1 k2 k3 k5 newId)) (hn : h.Ns N mN) (hng : mN "__getattribute__" = none) (hnga : mN "__getattr__" = none) (hna : mN name = none)
    (hB : typeLookup (.type B) name = pure none) (hx : h.get? x = some o) (hc : o.cls = .ref C) (hd : o.data = .fields vs) (hdx : o.dict = some dx) (hns : h.Ns1 dx mA) (hv : mA name = some v) (hh : handedOut v = pure v) (hq : ∀ tk, Q v ⟨h, g, d, tk, os⟩) :
    wpAny (model prog w) A (getAttr (.ref x) name expr) Q E ⟨h, g, d, t, os⟩ := by
  have f3 := FB.ga.bind (.ref x)
  have hx0 : (expr && onTheHeap (Value.builtin "BaseException.__getattribute__")) = false := by cases expr <;> rfl
  have hx2 : (Value.builtin "BaseException.__getattribute__" == Value.builtin "object.__getattribute__") = false := by decide +kernel
  have hx1 : (onTheHeap (Value.ref C) && Value.builtin "BaseException.__getattribute__" == Value.builtin "object.__getattribute__") = false := by rw [hx2]; rfl
  unfold getAttr getAttrBy
  repeat (any_goals (first | assumption | (with_reducible refine wpAny_loadPart_at hx ?_; rw [hc]) | (with_reducible refine wpAny_typeLookup_exc hC hn FB.mro FB.ga.lookup ?_; rw [hng]) | (with_reducible refine wpAny_typeLookup_exc hC hn FB.mro FB.noGetattr ?_; rw [hnga]) | wp_step))
  refine codeAny_call_builtin FB.ga.plain PySem.F.entry_bexc_ga (wpAny_check_ga_own FB hC .base hx hc (load_entryE FB hC hn hna hB hx hc hd hdx hns hv hh ?_))
  show wpAny _ _ (handedOut v) _ _ _
  rw [hh]
  exact wpAny_pure (hq _)
end

variable {w : World} {mg mb : Str → Option Value}
/-! ## what may raise and is caught -/
structure FnU (G : Gx) (n : Nat) (f : Value) (ds : List D) (d : D) : Prop where
  run : ∀ (hb : Heap) (A : Around) (s : Shared) (Q : Value → Shared → Prop) (E : Value → Shared → Prop) (vs : List Value) (outer : List Env),
    A.handled = none → A.depth + n < recursionLimit → A.units + 8 * n + 20 < cLine → A.frames = some outer → FF s.heap outer → (∀ env ∈ outer, ∀ L, env.frame = some L → hb.get? L = none) →
    Hp G hb → Sub hb s.heap → hb.objs.size ≤ s.heap.objs.size → Rvs s.heap vs ds →
    (∀ v h' tk, SubU s.heap h' → Sub hb h' → Rv h' v d → Q v { s with heap := h', toks := tk }) → wpAny G.M A (call f vs) Q E s
structure Fdu (G : Gx) (n : Nat) (a : Addr) (ds : List D) (d : D) : Prop where
  fn : FnU G n (.ref a) ds d
  isf : isFn G.K a = true

theorem Fd.u {G : Gx} {n : Nat} {a : Addr} {ds : List D} {d : D} (h : Fd G n a ds d) : Fdu G n a ds d :=
  ⟨⟨fun hb A s Q E vs outer h1 h2 h3 _ _ _ H sub sz r k => h.fn.run A s Q E vs h1 h2 h3 (H.sub sub) r fun v h' tk s' rv => k v h' tk s'.u (sub.trans s') rv⟩, h.isf⟩

section
variable {X : Cx} {σ : Lo} {fs : List Env}
theorem clU {x : Str} {p' : Pos} {e : Expr} {es : List Expr} {p : Pos} {a : Addr} {ds : List D} {d : D} {n : Nat} (W : Lw X fs) (hf : EE X σ [] (.Name x p') (.ref a)) (ha : EA X σ [] (e :: es) ds) (hfn : Fdu X.g n a ds d)
    (hn : Nat.ble n X.n = true := by rfl) (he : notStar e = true := by rfl) : EE X σ [] (.Call (.Name x p') (e :: es) [] p) d := by
  refine ⟨fun s Q E S kk => ?_⟩
  refine Call_ (hf.run s _ E S fun v h₁ tk₁ S₁ k₁ r₁ => ?_) rfl
  cases r₁
  obtain ⟨o, fd, hK, hd⟩ := isFn_obj hfn.isf
  refine callWith_def hd (ha.run p _ _ E S₁ fun vs h₂ tk₂ S₂ k₂ r₂ => ?_) (star_plain he)
  refine ⟨S₂.hp.k _ _ hK, ?_⟩
  have hn' := Nat.le_of_ble_eq_true hn
  refine hfn.fn.run X.h₀ X.A _ Q E vs fs S.ok.ah (by have := S.ok.dep; walk_at "om") (by have := S.ok.un; walk_at "om") W.fr (W.ff S₂) W.no S.ok.hp S₂.h0.1 S₂.h0.2 r₂ fun v h' tk u s' rv => ?_
  exact kk _ _ _ (S₂.subU u s') ((k₁.trans k₂).trans (Ke.of_u u)) rv
end

theorem FF.push {X : Cx} {env : Env} {outer : List Env} (hf : env.frame = some X.L) (hk : env.scope.kind = .function) (ff : FF X.hs outer) {σ : Lo} {μ : Mu} {h : Heap} (S : St X σ μ h) : FF h (env :: outer) := fun e he => by
  rcases List.mem_cons.mp he with rfl | he
  · obtain ⟨m, F, _⟩ := S.fr
    obtain ⟨o, es, ep, q1, q2, _⟩ := F.ns
    exact ⟨by rw [hk]; decide, X.L, o, es, ep, hf, q1, q2⟩
  · exact (ff.u S.us) e he

section
variable {G : Gx} {n : Nat} {a : Addr} {ds : List D} {ps names : List Str}
theorem enter_lw (K : FnOk G a ps names) {hb : Heap} {A : Around} {hs : Heap} {outer : List Env} {sz : Nat} (hfr : A.frames = some outer) (ff : FF hs outer) (hno : ∀ env ∈ outer, ∀ L, env.frame = some L → hb.get? L = none) (hL : hb.get? sz = none) :
    Lw ⟨G, A.deeper (envOf (fdOf G.K a).qualname (fdOf G.K a).scope sz a (fdOf G.K a).code), envOf (fdOf G.K a).qualname (fdOf G.K a).scope sz a (fdOf G.K a).code, names, [], n, sz, hb, hs⟩ (envOf (fdOf G.K a).qualname (fdOf G.K a).scope sz a (fdOf G.K a).code :: outer) :=
  ⟨Around.frames_deeper hfr, fun S => FF.push rfl K.kind ff S, fun env he L hL' => by
    rcases List.mem_cons.mp he with rfl | he
    · cases hL'; exact hL
    · exact hno env he L hL'⟩

theorem fdu_intro {d : D} (K : FnOk G a ps names) (hl : ps.length = ds.length)
    (h : ∀ (A : Around) (L : Addr) (hb hs : Heap) (outer : List Env), Lw ⟨G, A, envOf (fdOf G.K a).qualname (fdOf G.K a).scope L a (fdOf G.K a).code, names, [], n, L, hb, hs⟩ (envOf (fdOf G.K a).qualname (fdOf G.K a).scope L a (fdOf G.K a).code :: outer) →
      ES ⟨G, A, envOf (fdOf G.K a).qualname (fdOf G.K a).scope L a (fdOf G.K a).code, names, [], n, L, hb, hs⟩ (start names.length ds) [] (bodyOf (fdOf G.K a)) (.ret d)) : Fdu G (n + 1) a ds d := by
  refine ⟨⟨fun hb A s Q E vs outer hh hd hu hfr ff hno H sub sz r k => enter K hl hh hd hu H sub sz r fun X hX h₁ tk S => ?_⟩, K.isfn⟩
  subst hX
  have W := enter_lw (n := n) K hfr ff hno (Heap.get?_none_of_le sz)
  refine (h _ _ _ _ _ W).run _ _ _ S ?_
  intro v h' tk' k' u' rv
  exact k v h' tk' u' k' rv

theorem fdx_intro {k : Str} (K : FnOk G a ps names) (hl : ps.length = ds.length)
    (h : ∀ (A : Around) (L : Addr) (hb hs : Heap) (outer : List Env), Lw ⟨G, A, envOf (fdOf G.K a).qualname (fdOf G.K a).scope L a (fdOf G.K a).code, names, [], n, L, hb, hs⟩ (envOf (fdOf G.K a).qualname (fdOf G.K a).scope L a (fdOf G.K a).code :: outer) →
      ESX ⟨G, A, envOf (fdOf G.K a).qualname (fdOf G.K a).scope L a (fdOf G.K a).code, names, [], n, L, hb, hs⟩ (start names.length ds) (bodyOf (fdOf G.K a)) k) : Fdx G (n + 1) a ds k := by
  refine ⟨⟨fun hb A s Q E vs outer hh hd hu hfr ff hno H sub sz r kk => enter K hl hh hd hu H sub sz r fun X hX h₁ tk S => ?_⟩, K.isfn⟩
  subst hX
  have hL0 := Heap.get?_none_of_le (h := hb) sz
  have W := enter_lw (n := n) K hfr ff hno hL0
  refine (h _ _ _ _ _ W).run _ _ _ S fun x h' tk' f => ?_
  obtain ⟨_, o, es, ep, q1, q2, _⟩ := f.ns
  have ff' : FF h' (envOf (fdOf G.K a).qualname (fdOf G.K a).scope s.heap.objs.size a (fdOf G.K a).code :: outer) := fun e he => by
    rcases List.mem_cons.mp he with rfl | he
    · exact ⟨by rw [show (envOf (fdOf G.K a).qualname (fdOf G.K a).scope s.heap.objs.size a (fdOf G.K a).code).scope.kind = _ from K.kind]; decide, _, o, es, ep, rfl, q1, q2⟩
    · exact (ff.u f.us) e he
  refine leave (s := { s with heap := h', toks := tk' }) (Around.frames_deeper hfr) ff' rfl f.fly fun h₂ f₂ k₂ => ?_
  refine kk x h₂ tk' f₂ (fun b ob q => ?_) fun b ob q => ?_
  · obtain ⟨sl, e1⟩ := f.us b ob q
    obtain ⟨⟨sl', e2⟩, _⟩ := k₂ b _ (by show s.heap.get? b ≠ none; rw [q]; intro z; cases z) e1
    exact ⟨sl', e2⟩
  · refine (k₂ b ob (by show s.heap.get? b ≠ none; rw [sub b ob q]; intro z; cases z) (f.sub b ob q)).2 fun hm => ?_
    obtain ⟨env, he, hfe⟩ := List.mem_filterMap.mp hm
    have := W.no env he b hfe
    have q' : hb.get? b = some ob := q
    rw [show hb.get? b = none from this] at q'
    cases q'
end
end
section
variable {w : World} {mg mb : Str → Option Value}

/-- a def's frame on the stack -/
structure Lf (X : Cx) (outer : List Env) : Prop where
  fr : X.A.frames = some (X.env :: outer)
  ff : FF X.hs outer
  hf : X.env.frame = some X.L
  hk : X.env.scope.kind = .function
  no : ∀ env ∈ (X.env :: outer), ∀ L, env.frame = some L → X.h₀.get? L = none

section
variable {X : Cx} {σ : Lo} {outer : List Env}
theorem es_try_ret {body rest : List Stmt} {hs : List ExceptHandler} {pos : Pos} {d : D} (h : ES X σ [] body (.ret d)) : ES X σ [] (.Try body hs [] [] pos :: rest) (.ret d) := by
  refine ⟨fun s Q E S p => ?_⟩
  refine wpAny_execs_cons ?_
  rw [arm_exec_Try]
  refine wpAny_bind (wpAny_standAt ?_)
  unfold tryStmt
  simp only [List.isEmpty_nil, if_true]
  refine wpAny_bind (wpAny_attempt (h.run s _ _ S ?_))
  intro v h' tk k1 k2 r
  exact wpAny_pure (p v h' tk k1 k2 r)

theorem es_try_fails {body rest : List Stmt} {pos np xp ap cp tp rp hp : Pos} {x t k : Str} {ck tk' : Nat} (hG : X.g = Gw w mg mb) (W : Lf X outer) (hx : ESX X σ body k) (hl : X.env.kindOf x = some .local) (hxd : (x == ("__debug__" : Str)) = false)
    (hj : nsIn X.g.K mainGlobals "JSFail" = some (some (.ref 73))) (hjk : X.env.kindOf "JSFail" = some .globalImplicit)
    (hp' : (X.env.scope.kind == .class || (X.env.scope.kind == .module && X.env.locals != X.env.globals)) = false)
    (hab : attributeBase (.Name x xp) "kind" X.env (eval (.Name x xp) X.env) = eval (.Name x xp) X.env) (hlt : ∀ o r, letTemporaryGo (.Name x xp) o r = pure ()) :
    ES X σ [] (.Try body [.ExceptHandler (some (.Name "JSFail" np)) (some x) [.Return (some (.Tuple [.Constant (.str t) ck cp, .Attribute (.Name x xp) "kind" ap] tk' tp)) rp] hp] [] [] pos :: rest) (.ret (.tup [.str t, .str k])) := by
  refine ⟨fun s Q E S p => ?_⟩
  refine wpAny_execs_cons ?_
  rw [arm_exec_Try]
  refine wpAny_bind (wpAny_standAt ?_)
  unfold tryStmt
  simp only [List.isEmpty_nil, if_true]
  refine wpAny_bind (wpAny_attempt (hx.run s _ _ S fun e h₁ tk₁ F => ?_))
  obtain ⟨m₁, oL, esL, epL, l1, l2, l3⟩ := F.ns
  obtain ⟨hh, fly, dmh, hhL⟩ := F.far
  have ff₁ : FF h₁ (X.env :: outer) := fun env he => by
    rcases List.mem_cons.mp he with rfl | he
    · exact ⟨by rw [W.hk]; decide, _, oL, esL, epL, W.hf, l1, l2⟩
    · exact (W.ff.u F.us) env he
  have nofr : ∀ b o, X.h₀.get? b = some o → b ∉ (X.env :: outer).filterMap (·.frame) := fun b o q hm => by
    obtain ⟨env, he, hfe⟩ := List.mem_filterMap.mp hm
    rw [W.no env he b hfe] at q; cases q
  refine wpAny_bind (note (s := { s with heap := h₁, toks := tk₁ }) W.fr ff₁ W.hf fly fun h₂ vs f N₂ k₂ => ?_)
  simp only [List.isEmpty_cons, Bool.false_eq_true, if_false, Bool.false_and]
  refine wpAny_bind (unflight (l := X.env :: outer) (s := { s with heap := h₂, toks := tk₁ }) N₂ fun h₃ N₃ k₃ => ?_)
  have u₃ : SubU X.hs h₃ := fun b o q => by
    obtain ⟨sl, e1⟩ := F.us b o q
    obtain ⟨⟨sl2, e2⟩, _⟩ := k₂ b _ (fun z => by rw [dmh b z] at q; cases q) e1
    obtain ⟨⟨sl3, e3⟩, _⟩ := k₃ b _ (fun z => by rw [dmh b z] at q; cases q) e2
    exact ⟨sl3, e3⟩
  have dm : ∀ b o, X.h₀.get? b = some o → hh.get? b ≠ none := fun b o q z => by
    rw [S.ok.dom b (dmh b z)] at q; cases q
  have b₃ : Sub X.h₀ h₃ := fun b o q => (k₃ b o (dm b o q) ((k₂ b o (dm b o q) (F.sub b o q)).2 (nofr b o q))).2 (nofr b o q)
  have H₃ : Hp X.g h₃ := S.ok.hp.sub b₃
  have L₃ : h₃.Ns X.L m₁ := by
    obtain ⟨⟨sl2, e2⟩, _⟩ := k₂ X.L oL hhL l1
    obtain ⟨⟨sl3, e3⟩, _⟩ := k₃ X.L _ hhL e2
    exact ⟨_, esL, epL, e3, l2, l3⟩
  refine wpAny_handleBy_cons (codeAny_handlers_test ?_) (by intro q; cases q)
  refine Name_function_global S.ok.fn hjk (loadGlobal_global (env := X.env) (by rw [S.ok.eg]; exact H₃.g) (mg_of H₃.k H₃.g hj) ?_) (by kernel_rfl)
  have HG : Hp (Gw w mg mb) h₃ := hG ▸ H₃
  obtain ⟨fn, fdm, ⟨oe, dx, mA, te, o1, o2, o3, o4, o5, o6, o7, o9⟩, _⟩ := id N₃
  refine wpAny_excMatches_sub_self (j_cls HG.k) o1 o2 (by decide +kernel) (codeAny_handlers_suite_as ?_)
  refine unflight (l := X.env :: outer) (s := { s with heap := h₃, toks := tk₁ }) N₃ fun h₄ N₄ k₄ => ?_
  have L₄ : h₄.Ns X.L m₁ := by
    obtain ⟨o, es, ep, q1, q2⟩ := L₃
    obtain ⟨⟨sl, e4⟩, _⟩ := k₄ X.L o hhL q1
    exact ⟨_, es, ep, e4, q2⟩
  have u₄ : SubU X.hs h₄ := fun b o q => by
    obtain ⟨sl, e1⟩ := u₃ b o q
    obtain ⟨⟨sl2, e2⟩, _⟩ := k₄ b _ (fun z => by rw [dmh b z] at q; cases q) e1
    exact ⟨sl2, e2⟩
  have b₄ : Sub X.h₀ h₄ := fun b o q => (k₄ b o (dm b o q) (b₃ b o q)).2 (nofr b o q)
  have H₄ : Hp (Gw w mg mb) h₄ := hG ▸ S.ok.hp.sub b₄
  obtain ⟨fn4, fdm4, ⟨oe4, dx4, mA4, te4, p1, p2, p3, p4, p5, p6, p7, p9⟩, _⟩ := N₄
  have eL : e ≠ X.L := by
    rintro rfl
    obtain ⟨o, es, ep, q1, q2, _⟩ := L₄
    rw [q1] at p1; cases p1; rw [q2] at p3; cases p3
  have L0 : X.h₀.get? X.L = none := S.ok.dom _ S.ok.hsL
  refine wpAny_storeName_local hl (by rw [S.ok.el]; exact L₄) (fun h₅ n₅ s₅ => ?_) hp'
  rw [S.ok.el] at n₅ s₅
  have p1' : h₅.get? e = some oe4 := (s₅.2 e eL).trans p1
  have dL : dx4 ≠ X.L := by
    rintro rfl
    exact hhL p9
  have p6' : h₅.Ns1 dx4 mA4 := Ns1.up p6 fun o q => ⟨o.slots, (s₅.2 dx4 dL).trans q⟩
  have b₅ : Sub X.h₀ h₅ := fun b o q => (s₅.2 b (fun z => by rw [z, L0] at q; cases q)).trans (b₄ b o q)
  have u₅ : SubU X.hs h₅ := fun b o q => by
    obtain ⟨sl, e1⟩ := u₄ b o q
    exact ⟨sl, (s₅.2 b (fun z => by rw [z, S.ok.hsL] at q; cases q)).trans e1⟩
  have H₅ : Hp (Gw w mg mb) h₅ := hG ▸ S.ok.hp.sub b₅
  refine wpAny_execs_cons (wpAny_Return_some (Tuple_ (args_cons (Constant_str ?_) rfl)))
  refine args_cons ?_ rfl
  rw [arm_eval_Attribute, hab]
  refine wpAny_bind (wpAny_Name (wpAny_loadName_local S.ok.fn hl (by rw [S.ok.el]; exact n₅) (if_pos rfl) ?_) hxd)
  refine wpAny_bind (wpAny_standAt (wpAny_bind (wpAny_holding ?_)))
  obtain ⟨h0, g, d, tk, os⟩ := s
  refine load_kind PySem.F.attrBase_Exception (j_cls H₅.k) (j_ns H₅.k) (j_none H₅.k _ (by simp)) (j_none H₅.k _ (by simp)) (j_none H₅.k _ (by simp)) lk_kind p1' p2 p3 p5 p6' p7 rfl fun tk5 => ?_
  rw [hlt]
  refine wpAny_bind (wpAny_pure (wpAny_pure (args_nil (wpAny_newObj_type ?_ (show (2 : Nat) ≤ sizeLine from Nat.le_of_ble_eq_true rfl)))))
  show wpAny X.g.M X.A (do bindName X.env x .none; unbindBehindTheSuite X.env x hp) _ E _
  have nsT : ∀ ob, (h₅.push ob).Ns X.L (fun y => if y = x then some (.ref e) else m₁ y) := fun ob => by
    obtain ⟨o, es, ep, q1, q2⟩ := n₅
    exact ⟨o, es, ep, Heap.get?_push_of_some _ q1, q2⟩
  refine wpAny_nameGoes (m := fun y => if y = x then some (.ref e) else m₁ y) hl (by rw [S.ok.el]; exact nsT _) hp' fun h₆ m₆ n₆ s₆ => ?_
  rw [S.ok.el] at s₆
  have Lh : X.L < h₅.objs.size := n₅.lt
  have rv := fun tt => Rvs.tup (h := h₅) (Rvs.cons (Rv.str t tt) (Rvs.cons (Rv.str k te4) (Rvs.nil _)))
  have nsq : ∀ (ob : Obj) (b : Addr) (o : Obj), (∃ items n, o.data = .seq items n) → (h₅.push ob).get? b = some o → b ≠ X.L := by
    rintro ob b o ⟨its, n', hq⟩ q rfl
    obtain ⟨o', es, ep, q1, q2, _⟩ := nsT ob
    rw [q] at q1
    cases q1
    rw [q2] at hq
    cases hq
  refine p (.ref h₅.objs.size) h₆ _ (fun b o q => ?_) (fun b o q => ?_) ((rv _).kq fun b o hq q => ⟨o.slots, (s₆.2 b (nsq _ b o hq q)).trans q⟩)
  · exact (s₆.2 b (fun z => by rw [z, L0] at q; cases q)).trans (Heap.get?_push_of_some _ (b₅ b o q))
  · obtain ⟨sl, e1⟩ := u₅ b o q
    exact ⟨sl, (s₆.2 b (fun z => by rw [z, S.ok.hsL] at q; cases q)).trans (Heap.get?_push_of_some _ e1)⟩
end
end
section
variable {w : World} {mg mb : Str → Option Value}

/-! ## the receiver, the bounds -/
theorem Fd.le {G : Gx} {n k : Nat} {a : Addr} {ds : List D} {d : D} (h : Fd G n a ds d) (hk : n ≤ k) : Fd G k a ds d := ⟨h.fn.le hk, h.isf⟩

theorem s_this_int {n : Int} : Fd (Gw w mg mb) 2 816 [.int n] (.int n) := by
  refine fd_ret ok_this_number rfl fun A L h₀ => ?_
  conv => arg 4; whnf
  exact es_if (eb_call (cl (gv g_is_number) (ea_cons (lv 0) ea_nil) s_is_number_int)) (fun h1 => es_ret (lv 0)) (fun h1 => by cases h1)
theorem x_this {d : D} (h1 : Fd (Gw w mg mb) 1 97 [d] (.bool false)) (h2 : Bi (Gw w mg mb) (.builtin "isinstance") [d, .ref 807] (.bool false)) : Fdx (Gw w mg mb) 9 816 [d] "TypeError" := by
  refine fdx_intro ok_this_number rfl fun A L hb hs outer W => ?_
  conv => arg 3; whnf
  refine esx_if (eb_call (cl (gv g_is_number) (ea_cons (lv 0) ea_nil) h1)) (fun q => by cases q) (fun q => ?_)
  refine esx_if (eb_andF (eb_call (clB (bv b_isinstance) (ea_cons (lv 0) (ea_cons (gv g_PrimitiveObject) ea_nil)) h2)) rfl).eb (fun q => by cases q) (fun q => ?_)
  exact esx_raise rfl (gv g_JSFail) (ea_cons ev_str (ea_cons ev_str ea_nil))
theorem x_this_none : Fdx (Gw w mg mb) 9 816 [.none] "TypeError" := x_this s_is_number_none (isi_own_none (by kernel_rfl))
theorem x_this_str {x : Str} : Fdx (Gw w mg mb) 9 816 [.str x] "TypeError" := x_this s_is_number_str (isi_own_str (by kernel_rfl))
theorem x_this_bool {x : Bool} : Fdx (Gw w mg mb) 9 816 [.bool x] "TypeError" := x_this s_is_number_bool (isi_own_bool (by kernel_rfl))

theorem s_within {n lo hi : Int} {d : D} (h0 : lo ≤ n) (h1 : n ≤ hi) : Fd (Gw w mg mb) 1 823 [.int n, .int lo, .int hi, d] .none := by
  refine fd_intro ok_check_within rfl (.next (start 4 [.int n, .int lo, .int hi, d]) []) rfl fun A L h₀ => ?_
  conv => arg 4; whnf
  exact es_if (eb_not (eb_chain (lv 1) (lv 0) (lv 2) cmp_le cmp_le rfl).eb).eb (fun q => by rw [decide_eq_true h0, decide_eq_true h1] at q; cases q) (fun _ => es_nil)
theorem x_within {n lo hi : Int} {x : Str} (hx : x.length ≤ 100) (l0 : -100 ≤ lo) (l1 : lo ≤ 100) (g0 : -100 ≤ hi) (g1 : hi ≤ 100) (h : ¬ (lo ≤ n ∧ n ≤ hi)) : Fdx (Gw w mg mb) 9 823 [.int n, .int lo, .int hi, .str x] "RangeError" := by
  have b1 : lo.natAbs < 2 ^ 10 := by walk_at "om"
  have b2 : hi.natAbs < 2 ^ 10 := by walk_at "om"
  have s1 := len_str b1 (by decide)
  have s2 := len_str b2 (by decide)
  have c1 : (Str.ofString " must be between ").length = 17 := by decide +kernel
  have c2 : (Str.ofString " and ").length = 5 := by decide +kernel
  refine fdx_intro ok_check_within rfl fun A L hb hs outer W => ?_
  conv => arg 3; whnf
  refine esx_if (eb_not (eb_chain (lv 1) (lv 0) (lv 2) cmp_le cmp_le rfl).eb).eb (fun q => ?_) (fun q => ?_)
  · exact esx_raise rfl (gv g_JSFail) (ea_cons ev_str (ea_cons (ev_bin (ev_bin (ev_bin (ev_bin (lv 3) ev_str (bin_cat (by rw [c1, sizeLine_eq]; walk_at "om"))) (clT (bv b_str) (ea_cons (lv 1) ea_nil) (bi_str (Nat.lt_trans (log2_lt_of b1 (by decide)) (by decide)))) (bin_cat (by rw [cat_len, c1, sizeLine_eq]; walk_at "om"))) ev_str (bin_cat (by rw [cat_len, cat_len, c1, c2, sizeLine_eq]; walk_at "om"))) (clT (bv b_str) (ea_cons (lv 2) ea_nil) (bi_str (Nat.lt_trans (log2_lt_of b2 (by decide)) (by decide)))) (bin_cat (by rw [cat_len, cat_len, cat_len, c1, c2, sizeLine_eq]; walk_at "om"))) ea_nil))
  · exfalso
    refine h ?_
    rw [Bool.not_eq_false', Bool.and_eq_true, decide_eq_true_eq, decide_eq_true_eq] at q
    exact q

theorem s_show_told {b : Int} {y : Str} (hw : Fd (Gw w mg mb) 2 741 [.int b] (.str y)) : Fd (Gw w mg mb) 4 748 [.int b] (.str y) := by
  refine fd_ret ok_show rfl fun A L h₀ => ?_
  conv => arg 4; whnf
  refine es_cons (es_set 1 rfl (cl (gv g_without_figures) (ea_cons (lv 0) ea_nil) hw) (fun _ => rfl)) ?_
  exact es_if (eb_cmp (lv 1) ev_none cmp_isnot rfl).eb (fun h1 => es_ret (lv 1)) (fun h1 => by cases h1)

/-! ## toString -/
theorem s_in_radix {b r : Int} {d : D} (h0 : 2 ≤ r) (h1 : r ≤ 36) (hs : r = 10 → Fd (Gw w mg mb) 4 748 [.int b] d) (hr : r ≠ 10 → Fd (Gw w mg mb) 3 678 [.int b, .int r] d) : Fd (Gw w mg mb) 5 830 [.int b, .int r] d := by
  refine fd_ret ok_in_radix rfl fun A L h₀ => ?_
  conv => arg 4; whnf
  refine es_cons (es_expr (cl (gv g_check_within) (ea_cons (lv 1) (ea_cons (gv g_LEAST_RADIX) (ea_cons (gv g_MOST_RADIX) (ea_cons ev_str ea_nil)))) (s_within h0 h1)) (fun _ => rfl) rfl) ?_
  exact es_ret (ev_if (eb_cmp (lv 1) ev_int cmp_eq rfl).eb (fun q => (cl (gv g_show) (ea_cons (lv 0) ea_nil) (hs (of_decide_eq_true q)))) (fun q => (cl (gv g_to_radix) (ea_cons (lv 0) (ea_cons (lv 1) ea_nil)) (hr (of_decide_eq_false q)))))
theorem x_in_radix {b r : Int} (h : ¬ (2 ≤ r ∧ r ≤ 36)) : Fdx (Gw w mg mb) 10 830 [.int b, .int r] "RangeError" := by
  refine fdx_intro ok_in_radix rfl fun A L hb hs outer W => ?_
  conv => arg 3; whnf
  exact esx_expr (exx_call W (gv g_check_within) (ea_cons (lv 1) (ea_cons (gv g_LEAST_RADIX) (ea_cons (gv g_MOST_RADIX) (ea_cons ev_str ea_nil)))) (x_within (by decide +kernel) (by decide) (by decide) (by decide) (by decide) h)) (fun _ => rfl) rfl

/-- what a count's arguments give -/
inductive Cnt (G : Gx) (as : List D) : D → Prop
  | none (h : Fd G 7 851 [.none, .lst as] .none) : Cnt G as .none
  | int (n : Int) (h : Fd G 7 851 [.none, .lst as] (.int n)) : Cnt G as (.int n)
theorem Cnt.fd {G : Gx} {as : List D} {c : D} (h : Cnt G as c) : Fd G 7 851 [.none, .lst as] c := by cases h <;> assumption
/-- a count, or what stands for none -/
noncomputable def orN (k : Int) : D → Int
  | .int n => n
  | _ => k
section
variable {as : List D} {c : D} {b : Int} {d : D}
theorem ev_orN {X : Cx} {σ : Lo} {μ : Mu} {t a e : Expr} {p : Pos} {k : Int} {G : Gx} (hc : Cnt G as c) (ht : EB X σ μ t c.isNone) (ha : EE X σ μ a (.int k)) (he : EE X σ μ e c) : EE X σ μ (.IfExp t a e p) (.int (orN k c)) := by
  cases hc with
  | none h => exact ev_if ht (fun _ => ha) (fun q => by cases q)
  | int n h => exact ev_if ht (fun q => by cases q) (fun _ => he)

theorem s_number_text (hc : Cnt (Gw w mg mb) as c) (h : Fd (Gw w mg mb) 5 830 [.int b, .int (orN 10 c)] d) : Fd (Gw w mg mb) 8 858 [.none, .int b, .lst as] d := by
  refine fd_ret ok_number_text rfl fun A L h₀ => ?_
  conv => arg 4; whnf
  refine es_cons (es_unpackS [3, 4] rfl rfl rfl (ev_tup (ea_cons (cl (gv g_this_number) (ea_cons (lv 1) ea_nil) s_this_int) (ea_cons (cl (gv g_count_of) (ea_cons (lv 0) (ea_cons (lv 2) ea_nil)) hc.fd) ea_nil))) (fun _ => rfl) (by kernel_rfl)) ?_
  exact es_ret (cl (gv g_in_radix) (ea_cons (lv 3) (ea_cons (ev_orN hc (eb_cmp (lv 4) ev_none cmp_is rfl).eb ev_int (lv 4)) ea_nil)) h)
theorem x_number_text (hc : Cnt (Gw w mg mb) as c) (h : Fdx (Gw w mg mb) 10 830 [.int b, .int (orN 10 c)] "RangeError") : Fdx (Gw w mg mb) 11 858 [.none, .int b, .lst as] "RangeError" := by
  refine fdx_intro ok_number_text rfl fun A L hb hs outer W => ?_
  conv => arg 3; whnf
  refine esx_cons (es_unpackS [3, 4] rfl rfl rfl (ev_tup (ea_cons (cl (gv g_this_number) (ea_cons (lv 1) ea_nil) s_this_int) (ea_cons (cl (gv g_count_of) (ea_cons (lv 0) (ea_cons (lv 2) ea_nil)) hc.fd) ea_nil))) (fun _ => rfl) (by kernel_rfl)) ?_
  exact esx_ret (exx_call W (gv g_in_radix) (ea_cons (lv 3) (ea_cons (ev_orN hc (eb_cmp (lv 4) ev_none cmp_is rfl).eb ev_int (lv 4)) ea_nil)) h)
theorem t_number_text {t : D} (h : Fdx (Gw w mg mb) 9 816 [t] "TypeError") : Fdx (Gw w mg mb) 11 858 [.none, t, .lst []] "TypeError" := by
  refine fdx_intro ok_number_text rfl fun A L hb hs outer W => ?_
  conv => arg 3; whnf
  exact esx_unpackS (xs := ["bits", "radix"]) (exx_tup (exx_call W (gv g_this_number) (ea_cons (lv 1) ea_nil) h)) (fun _ => rfl) (by kernel_rfl)

/-! ## toFixed -/
theorem s_number_fixed (hc : Cnt (Gw w mg mb) as c) (h0 : 0 ≤ orN 0 c) (h1 : orN 0 c ≤ 20) (h : Fd (Gw w mg mb) 5 769 [.int b, .int (orN 0 c)] d) : Fd (Gw w mg mb) 8 865 [.none, .int b, .lst as] d := by
  refine fd_ret ok_number_fixed rfl fun A L h₀ => ?_
  conv => arg 4; whnf
  refine es_cons (es_set 3 rfl (cl (gv g_count_of) (ea_cons (lv 0) (ea_cons (lv 2) ea_nil)) hc.fd) (fun _ => rfl)) ?_
  refine es_cons (es_set 4 rfl (ev_orN hc (eb_cmp (lv 3) ev_none cmp_is rfl).eb ev_int (lv 3)) (fun _ => rfl)) ?_
  refine es_cons (es_expr (cl (gv g_check_within) (ea_cons (lv 4) (ea_cons ev_int (ea_cons (gv g_MOST_BEHIND) (ea_cons ev_str ea_nil)))) (s_within h0 h1)) (fun _ => rfl) rfl) ?_
  exact es_ret (cl (gv g_to_fixed) (ea_cons (cl (gv g_this_number) (ea_cons (lv 1) ea_nil) s_this_int) (ea_cons (lv 4) ea_nil)) h)
theorem x_number_fixed {t : D} (hc : Cnt (Gw w mg mb) as c) (h : ¬ (0 ≤ orN 0 c ∧ orN 0 c ≤ 20)) : Fdx (Gw w mg mb) 11 865 [.none, t, .lst as] "RangeError" := by
  refine fdx_intro ok_number_fixed rfl fun A L hb hs outer W => ?_
  conv => arg 3; whnf
  refine esx_cons (es_set 3 rfl (cl (gv g_count_of) (ea_cons (lv 0) (ea_cons (lv 2) ea_nil)) hc.fd) (fun _ => rfl)) ?_
  refine esx_cons (es_set 4 rfl (ev_orN hc (eb_cmp (lv 3) ev_none cmp_is rfl).eb ev_int (lv 3)) (fun _ => rfl)) ?_
  exact esx_expr (exx_call W (gv g_check_within) (ea_cons (lv 4) (ea_cons ev_int (ea_cons (gv g_MOST_BEHIND) (ea_cons ev_str ea_nil)))) (x_within (by decide +kernel) (by decide) (by decide) (by decide) (by decide) h)) (fun _ => rfl) rfl
theorem t_number_fixed {t : D} (h : Fdx (Gw w mg mb) 9 816 [t] "TypeError") : Fdx (Gw w mg mb) 11 865 [.none, t, .lst []] "TypeError" := by
  refine fdx_intro ok_number_fixed rfl fun A L hb hs outer W => ?_
  conv => arg 3; whnf
  refine esx_cons (es_set 3 rfl (cl (gv g_count_of) (ea_cons (lv 0) (ea_cons (lv 2) ea_nil)) (s_count_none s_arg_none)) (fun _ => rfl)) ?_
  refine esx_cons (es_set 4 rfl (ev_if (d := .int 0) (eb_cmp (lv 3) ev_none cmp_is rfl).eb (fun _ => ev_int) (fun q => by cases q)) (fun _ => rfl)) ?_
  refine esx_cons (es_expr (cl (gv g_check_within) (ea_cons (lv 4) (ea_cons ev_int (ea_cons (gv g_MOST_BEHIND) (ea_cons ev_str ea_nil)))) (s_within (by decide) (by decide))) (fun _ => rfl) rfl) ?_
  exact esx_ret (exx_arg1 (gv g_to_fixed) ok_to_fixed.isfn (exx_call W (gv g_this_number) (ea_cons (lv 1) ea_nil) h))
end
end
section
variable {w : World} {mg mb : Str → Option Value}

/-! ## toExponential -/
section
variable {as : List D} {c : D} {b : Int} {d : D}
theorem s_weo_edge {y : Str} (hw : Fd (Gw w mg mb) 2 741 [.int b] (.str y)) : Fd (Gw w mg mb) 3 837 [.int b, c] (.str y) := by
  refine fd_ret ok_with_exponent_of rfl fun A L h₀ => ?_
  conv => arg 4; whnf
  refine es_cons (es_set 2 rfl (cl (gv g_without_figures) (ea_cons (lv 0) ea_nil) hw) (fun _ => rfl)) ?_
  exact es_if (eb_cmp (lv 2) ev_none cmp_isnot rfl).eb (fun h1 => es_ret (lv 2)) (fun h1 => by cases h1)
theorem s_weo (hw : Fd (Gw w mg mb) 2 741 [.int b] .none) (hc : c = .none ∨ ∃ k : Int, c = .int k ∧ 0 ≤ k ∧ k ≤ 20) (h : Fd (Gw w mg mb) 5 783 [.int b, c] d) : Fd (Gw w mg mb) 6 837 [.int b, c] d := by
  refine fd_ret ok_with_exponent_of rfl fun A L h₀ => ?_
  conv => arg 4; whnf
  refine es_cons (es_set 2 rfl (cl (gv g_without_figures) (ea_cons (lv 0) ea_nil) hw) (fun _ => rfl)) ?_
  refine es_if (eb_cmp (lv 2) ev_none cmp_isnot rfl).eb (fun h1 => by cases h1) (fun h1 => ?_)
  refine es_if (eb_cmp (lv 1) ev_none cmp_isnot rfl).eb (fun h2 => ?_) (fun h2 => ?_)
  · rcases hc with rfl | ⟨k, rfl, k0, k1⟩
    · cases h2
    · refine es_cons (es_expr (cl (gv g_check_within) (ea_cons (lv 1) (ea_cons ev_int (ea_cons (gv g_MOST_BEHIND) (ea_cons ev_str ea_nil)))) (s_within k0 k1)) (fun _ => rfl) rfl) ?_
      exact es_ret (cl (gv g_to_exponential) (ea_cons (lv 0) (ea_cons (lv 1) ea_nil)) h)
  · exact es_ret (cl (gv g_to_exponential) (ea_cons (lv 0) (ea_cons (lv 1) ea_nil)) h)
theorem x_weo {k : Int} (hw : Fd (Gw w mg mb) 2 741 [.int b] .none) (h : ¬ (0 ≤ k ∧ k ≤ 20)) : Fdx (Gw w mg mb) 10 837 [.int b, .int k] "RangeError" := by
  refine fdx_intro ok_with_exponent_of rfl fun A L hb hs outer W => ?_
  conv => arg 3; whnf
  refine esx_cons (es_set 2 rfl (cl (gv g_without_figures) (ea_cons (lv 0) ea_nil) hw) (fun _ => rfl)) ?_
  refine esx_if (eb_cmp (lv 2) ev_none cmp_isnot rfl).eb (fun h1 => by cases h1) (fun h1 => ?_)
  refine esx_if (eb_cmp (lv 1) ev_none cmp_isnot rfl).eb (fun h2 => ?_) (fun h2 => by cases h2)
  exact esx_expr (exx_call W (gv g_check_within) (ea_cons (lv 1) (ea_cons ev_int (ea_cons (gv g_MOST_BEHIND) (ea_cons ev_str ea_nil)))) (x_within (by decide +kernel) (by decide) (by decide) (by decide) (by decide) h)) (fun _ => rfl) rfl

theorem s_number_exponential {n : Nat} (hn : Nat.ble n 7 = true) (hc : Cnt (Gw w mg mb) as c) (h : Fd (Gw w mg mb) n 837 [.int b, c] d) : Fd (Gw w mg mb) 8 872 [.none, .int b, .lst as] d := by
  refine fd_ret ok_number_exponential rfl fun A L h₀ => ?_
  conv => arg 4; whnf
  refine es_cons (es_set 3 rfl (cl (gv g_this_number) (ea_cons (lv 1) ea_nil) s_this_int) (fun _ => rfl)) ?_
  exact es_ret (cl (gv g_with_exponent_of) (ea_cons (lv 3) (ea_cons (cl (gv g_count_of) (ea_cons (lv 0) (ea_cons (lv 2) ea_nil)) hc.fd) ea_nil)) h hn)
theorem x_number_exponential {k : Int} (hc : Fd (Gw w mg mb) 7 851 [.none, .lst as] (.int k)) (hw : Fd (Gw w mg mb) 2 741 [.int b] .none) (h : ¬ (0 ≤ k ∧ k ≤ 20)) : Fdx (Gw w mg mb) 11 872 [.none, .int b, .lst as] "RangeError" := by
  refine fdx_intro ok_number_exponential rfl fun A L hb hs outer W => ?_
  conv => arg 3; whnf
  refine esx_cons (es_set 3 rfl (cl (gv g_this_number) (ea_cons (lv 1) ea_nil) s_this_int) (fun _ => rfl)) ?_
  exact esx_ret (exx_call W (gv g_with_exponent_of) (ea_cons (lv 3) (ea_cons (cl (gv g_count_of) (ea_cons (lv 0) (ea_cons (lv 2) ea_nil)) hc) ea_nil)) (x_weo hw h))
theorem t_number_exponential {t : D} (h : Fdx (Gw w mg mb) 9 816 [t] "TypeError") : Fdx (Gw w mg mb) 11 872 [.none, t, .lst []] "TypeError" := by
  refine fdx_intro ok_number_exponential rfl fun A L hb hs outer W => ?_
  conv => arg 3; whnf
  exact esx_set (exx_call W (gv g_this_number) (ea_cons (lv 1) ea_nil) h) (fun _ => rfl)

/-! ## toPrecision -/
theorem s_wp_edge {y : Str} (hw : Fd (Gw w mg mb) 2 741 [.int b] (.str y)) : Fd (Gw w mg mb) 3 844 [.int b, c] (.str y) := by
  refine fd_ret ok_with_precision rfl fun A L h₀ => ?_
  conv => arg 4; whnf
  refine es_cons (es_set 2 rfl (cl (gv g_without_figures) (ea_cons (lv 0) ea_nil) hw) (fun _ => rfl)) ?_
  exact es_if (eb_cmp (lv 2) ev_none cmp_isnot rfl).eb (fun h1 => es_ret (lv 2)) (fun h1 => by cases h1)
theorem s_wp {k : Int} (hw : Fd (Gw w mg mb) 2 741 [.int b] .none) (k0 : 1 ≤ k) (k1 : k ≤ 21) (h : Fd (Gw w mg mb) 5 790 [.int b, .int k] d) : Fd (Gw w mg mb) 6 844 [.int b, .int k] d := by
  refine fd_ret ok_with_precision rfl fun A L h₀ => ?_
  conv => arg 4; whnf
  refine es_cons (es_set 2 rfl (cl (gv g_without_figures) (ea_cons (lv 0) ea_nil) hw) (fun _ => rfl)) ?_
  refine es_if (eb_cmp (lv 2) ev_none cmp_isnot rfl).eb (fun h1 => by cases h1) (fun h1 => ?_)
  refine es_cons (es_expr (cl (gv g_check_within) (ea_cons (lv 1) (ea_cons ev_int (ea_cons (gv g_MOST_FIGURES) (ea_cons ev_str ea_nil)))) (s_within k0 k1)) (fun _ => rfl) rfl) ?_
  exact es_ret (cl (gv g_to_precision) (ea_cons (lv 0) (ea_cons (lv 1) ea_nil)) h)
theorem x_wp {k : Int} (hw : Fd (Gw w mg mb) 2 741 [.int b] .none) (h : ¬ (1 ≤ k ∧ k ≤ 21)) : Fdx (Gw w mg mb) 10 844 [.int b, .int k] "RangeError" := by
  refine fdx_intro ok_with_precision rfl fun A L hb hs outer W => ?_
  conv => arg 3; whnf
  refine esx_cons (es_set 2 rfl (cl (gv g_without_figures) (ea_cons (lv 0) ea_nil) hw) (fun _ => rfl)) ?_
  refine esx_if (eb_cmp (lv 2) ev_none cmp_isnot rfl).eb (fun h1 => by cases h1) (fun h1 => ?_)
  exact esx_expr (exx_call W (gv g_check_within) (ea_cons (lv 1) (ea_cons ev_int (ea_cons (gv g_MOST_FIGURES) (ea_cons ev_str ea_nil)))) (x_within (by decide +kernel) (by decide) (by decide) (by decide) (by decide) h)) (fun _ => rfl) rfl

theorem s_number_precision_none (hc : Fd (Gw w mg mb) 7 851 [.none, .lst as] .none) (h : Fd (Gw w mg mb) 4 748 [.int b] d) : Fd (Gw w mg mb) 8 879 [.none, .int b, .lst as] d := by
  refine fd_ret ok_number_precision rfl fun A L h₀ => ?_
  conv => arg 4; whnf
  refine es_cons (es_unpackS [3, 4] rfl rfl rfl (ev_tup (ea_cons (cl (gv g_this_number) (ea_cons (lv 1) ea_nil) s_this_int) (ea_cons (cl (gv g_count_of) (ea_cons (lv 0) (ea_cons (lv 2) ea_nil)) hc) ea_nil))) (fun _ => rfl) (by kernel_rfl)) ?_
  exact es_ret (ev_if (eb_cmp (lv 4) ev_none cmp_is rfl).eb (fun _ => (cl (gv g_show) (ea_cons (lv 3) ea_nil) h)) (fun q => by cases q))
theorem s_number_precision {n : Nat} {k : Int} (hn : Nat.ble n 7 = true) (hc : Fd (Gw w mg mb) 7 851 [.none, .lst as] (.int k)) (h : Fd (Gw w mg mb) n 844 [.int b, .int k] d) : Fd (Gw w mg mb) 8 879 [.none, .int b, .lst as] d := by
  refine fd_ret ok_number_precision rfl fun A L h₀ => ?_
  conv => arg 4; whnf
  refine es_cons (es_unpackS [3, 4] rfl rfl rfl (ev_tup (ea_cons (cl (gv g_this_number) (ea_cons (lv 1) ea_nil) s_this_int) (ea_cons (cl (gv g_count_of) (ea_cons (lv 0) (ea_cons (lv 2) ea_nil)) hc) ea_nil))) (fun _ => rfl) (by kernel_rfl)) ?_
  exact es_ret (ev_if (eb_cmp (lv 4) ev_none cmp_is rfl).eb (fun q => by cases q) (fun _ => (cl (gv g_with_precision) (ea_cons (lv 3) (ea_cons (lv 4) ea_nil)) h hn)))
theorem exx_if {X : Cx} {σ : Lo} {t a e : Expr} {p : Pos} {c : Bool} {k : Str} (ht : EB X σ [] t c) (h1 : c = true → EEX X σ a k) (h2 : c = false → EEX X σ e k) : EEX X σ (.IfExp t a e p) k := by
  refine ⟨fun s Q E S kk => ?_⟩
  refine IfExp_ (ht.run s _ E S fun h₁ tk₁ S₁ k₁ => ?_)
  cases c with
  | true => exact (h1 rfl).run _ _ E S₁ fun x h' tk f => kk _ _ _ f
  | false => exact (h2 rfl).run _ _ E S₁ fun x h' tk f => kk _ _ _ f
theorem x_number_precision {k : Int} (hc : Fd (Gw w mg mb) 7 851 [.none, .lst as] (.int k)) (hw : Fd (Gw w mg mb) 2 741 [.int b] .none) (h : ¬ (1 ≤ k ∧ k ≤ 21)) : Fdx (Gw w mg mb) 11 879 [.none, .int b, .lst as] "RangeError" := by
  refine fdx_intro ok_number_precision rfl fun A L hb hs outer W => ?_
  conv => arg 3; whnf
  refine esx_cons (es_unpackS [3, 4] rfl rfl rfl (ev_tup (ea_cons (cl (gv g_this_number) (ea_cons (lv 1) ea_nil) s_this_int) (ea_cons (cl (gv g_count_of) (ea_cons (lv 0) (ea_cons (lv 2) ea_nil)) hc) ea_nil))) (fun _ => rfl) (by kernel_rfl)) ?_
  exact esx_ret (exx_if (eb_cmp (lv 4) ev_none cmp_is rfl).eb (fun q => by cases q) (fun _ => exx_call W (gv g_with_precision) (ea_cons (lv 3) (ea_cons (lv 4) ea_nil)) (x_wp hw h)))
theorem t_number_precision {t : D} (h : Fdx (Gw w mg mb) 9 816 [t] "TypeError") : Fdx (Gw w mg mb) 11 879 [.none, t, .lst []] "TypeError" := by
  refine fdx_intro ok_number_precision rfl fun A L hb hs outer W => ?_
  conv => arg 3; whnf
  exact esx_unpackS (xs := ["bits", "many"]) (exx_tup (exx_call W (gv g_this_number) (ea_cons (lv 1) ea_nil) h)) (fun _ => rfl) (by kernel_rfl)
end

/-! ## tried -/
section
variable {G : Gx} {n : Nat} {a : Addr} {ds : List D} {ps names : List Str}
theorem fdu_introF {d : D} (K : FnOk G a ps names) (hl : ps.length = ds.length)
    (h : ∀ (A : Around) (L : Addr) (hb hs : Heap) (outer : List Env), Lw ⟨G, A, envOf (fdOf G.K a).qualname (fdOf G.K a).scope L a (fdOf G.K a).code, names, [], n, L, hb, hs⟩ (envOf (fdOf G.K a).qualname (fdOf G.K a).scope L a (fdOf G.K a).code :: outer) →
      Lf ⟨G, A, envOf (fdOf G.K a).qualname (fdOf G.K a).scope L a (fdOf G.K a).code, names, [], n, L, hb, hs⟩ outer →
      ES ⟨G, A, envOf (fdOf G.K a).qualname (fdOf G.K a).scope L a (fdOf G.K a).code, names, [], n, L, hb, hs⟩ (start names.length ds) [] (bodyOf (fdOf G.K a)) (.ret d)) : Fdu G (n + 1) a ds d := by
  refine ⟨⟨fun hb A s Q E vs outer hh hd hu hfr ff hno H sub sz r k => enter K hl hh hd hu H sub sz r fun X hX h₁ tk S => ?_⟩, K.isfn⟩
  subst hX
  have W := enter_lw (n := n) K hfr ff hno (Heap.get?_none_of_le sz)
  refine (h _ _ _ _ _ W ⟨W.fr, ff, rfl, K.kind, W.no⟩).run _ _ _ S ?_
  intro v h' tk' k' u' rv
  exact k v h' tk' u' k' rv
end
theorem s_tried {n : Nat} {a : Addr} {t d : D} {as : List D} (hn : Nat.ble n 11 = true) (h : Fd (Gw w mg mb) n a [.none, t, .lst as] d) : Fdu (Gw w mg mb) 12 900 [.ref a, t, .lst as] d := by
  refine Fd.u ?_
  refine fd_ret ok_law_tried rfl fun A L h₀ => ?_
  conv => arg 4; whnf
  exact es_try_ret (es_ret (cl (lv 0) (ea_cons ev_none (ea_cons (lv 1) (ea_cons (lv 2) ea_nil))) h hn))
theorem x_tried {n : Nat} {a : Addr} {t : D} {as : List D} {k : Str} (hn : Nat.ble n 11 = true) (h : Fdx (Gw w mg mb) n a [.none, t, .lst as] k) : Fdu (Gw w mg mb) 12 900 [.ref a, t, .lst as] (.tup [.str "fails", .str k]) := by
  refine fdu_introF ok_law_tried rfl fun A L hb hs outer W F => ?_
  conv => arg 4; whnf
  exact es_try_fails rfl F (esx_ret (exx_call W (lv 0) (ea_cons ev_none (ea_cons (lv 1) (ea_cons (lv 2) ea_nil))) h hn)) (by kernel_rfl) (by kernel_rfl) (by kernel_rfl) (by kernel_rfl) (by kernel_rfl) (by rfl) (fun _ _ => rfl)
end
section
variable {w : World} {mg mb : Str → Option Value}

/-! ## the law's own reading of words -/
/-- the word of t / 2 ^ s -/
noncomputable def LB (t s : Int) : Int := if t = 0 then 0 else R (if t < 0 then 1 else 0) t.natAbs (-s)
noncomputable def lcell (ns : List Int) (at_ : Nat) : Int := if ns.length = 0 then 433 * (at_ : Int) * at_ + 23 * at_ + 6 else ns.getD (at_ % ns.length) 0 + (at_ / ns.length : Nat)

theorem s_cell {ns : List Int} {k : Nat} (hl : ns.length ≤ 1000) (hk : k ≤ 10) : Fd (Gw w mg mb) 1 886 [.lst (ns.map .int), .int k] (.int (lcell ns k)) := by
  have hz : (ns.map D.int).length < 2 ^ 62 := by rw [List.length_map]; walk_at "om"
  refine fd_ret ok_law_cell rfl fun A L h₀ => ?_
  conv => arg 4; whnf
  refine es_ifd (eb_cmp (clB (bv b_len) (ea_cons (lv 0) ea_nil) (bi_lenL hz)) ev_int cmp_eq rfl).eb (fun h1 => ?_) (fun h1 => ?_)
  · rw [List.length_map] at h1
    refine es_ret' (ev_bin (ev_bin (ev_bin (ev_bin ev_int (lv 1) (bin_mul (by walk_at "ml"))) (lv 1) (bin_mul (IntMulOk.of_right (intBits_le_64 (by walk_at "om") (by walk_at "om"))))) (ev_bin ev_int (lv 1) (bin_mul (by walk_at "ml"))) bin_add) ev_int bin_add) ?_
    unfold lcell
    rw [if_pos (by walk_at "om")]
  · rw [List.length_map] at h1
    have hm : k % ns.length < ns.length := Nat.mod_lt _ (by walk_at "om")
    have hi : ∃ j : Nat, (k : Int) % ((ns.map D.int).length : Int) = j ∧ j < 2 ^ 62 ∧ (ns.map D.int)[j]? = some (.int (ns.getD (k % ns.length) 0)) := by
      refine ⟨k % ns.length, by rw [List.length_map]; simp, by walk_at "om", ?_⟩
      rw [List.getElem?_map, List.getElem?_eq_getElem hm, List.getD_eq_getElem?_getD, List.getElem?_eq_getElem hm]; rfl
    refine es_ret' (ev_bin (ev_itemL (lv 0) (ev_bin (lv 1) (clB (bv b_len) (ea_cons (lv 0) ea_nil) (bi_lenL hz)) (bin_mod (by rw [List.length_map]; walk_at "om"))) hi) (ev_bin (lv 1) (clB (bv b_len) (ea_cons (lv 0) ea_nil) (bi_lenL hz)) (bin_div (by rw [List.length_map]; walk_at "om") (div_sz 64 (by rw [List.length_map]; walk_at "om") (by decide)))) bin_add) ?_
    unfold lcell
    rw [if_neg (by walk_at "om"), List.length_map]
    simp

abbrev σb (t s n r : Int) : Lo := [some (.int t), some (.int s), some (.int n), some (.int r), none]
theorem lb_while {X : Cx} {t : Expr} {b rest : List Stmt} {o : Out} (tt s : Int) (m : Nat)
    (ht : ∀ n r : Int, EB X (σb tt s n r) [] t (decide (0 < r)))
    (hb : ∀ n r : Int, ES X (σb tt s n r) [] b (.next (σb tt s (n + 1) (r / 2)) []))
    (k : ES X (σb tt s (bl m) 0) [] rest o) : ∃ σ', EW X (σb tt s 0 m) [] t b (.next σ' []) ∧ ES X σ' [] rest o := by
  have key : ∀ (r : Nat) (n : Int), EW X (σb tt s n r) [] t b (.next (σb tt s (n + bl r) 0) []) := by
    intro r
    induction r using Nat.strongRecOn with
    | ind r ih =>
      intro n
      by_cases h0 : r = 0
      · subst h0
        have h := ew_false (b := b) (show EB X (σb tt s n ((0 : Nat) : Int)) [] t false from ht n ((0 : Nat) : Int))
        have e : n + (bl 0 : Int) = n := by simp [bl]
        rw [e]; exact h
      · have hT := ht n r
        rw [decide_eq_true (by walk_at "om")] at hT
        have hB := hb n r
        have e1 : (r : Int) / 2 = ((r / 2 : Nat) : Int) := by simp
        rw [e1] at hB
        have h2 := ih (r / 2) (by walk_at "om") (n + 1)
        have e2 : n + 1 + (bl (r / 2) : Int) = n + bl r := by
          by_cases h1 : r = 1
          · subst h1
            rw [show bl 1 = 1 from bl_small (by decide), show bl (1 / 2) = 0 from bl_small (by decide)]; simp
          · have := bl_div (n := r) (t := 1) (by walk_at "om")
            rw [this]; simp; walk_at "om"
        rw [e2] at h2
        exact ew_next hT hB h2
  have h := key m 0
  rw [Int.zero_add] at h
  exact ⟨_, h, k⟩

theorem s_bits {t s : Int} (ht : t.natAbs < 2 ^ 40) (s0 : 0 ≤ s) (s1 : s ≤ 40) : Fd (Gw w mg mb) 1 893 [.int t, .int s] (.int (LB t s)) := by
  have hb : bl t.natAbs ≤ 40 := bl_le_of ht
  refine fd_ret ok_law_bits rfl fun A L h₀ => ?_
  conv => arg 4; whnf
  refine es_ifd (eb_cmp (lv 0) ev_int cmp_eq rfl).eb (fun h1 => ?_) (fun h1 => ?_)
  · refine es_ret' ev_int ?_
    unfold LB; rw [if_pos h1]
  · refine es_cons (es_unpackS [2, 3] rfl rfl rfl (ev_tup (ea_cons ev_int (ea_cons (clB (bv b_abs) (ea_cons (lv 0) ea_nil) bi_abs) ea_nil))) (fun _ => rfl) (by kernel_rfl)) ?_
    refine es_while_ex (lb_while t s t.natAbs (fun n r => ?_) (fun n r => ?_) ?_)
    · exact (eb_cmp (lv 3) ev_int cmp_gt rfl).eb
    · refine es_cons (es_unpackS [2, 3] rfl rfl rfl (ev_tup (ea_cons (ev_bin (lv 2) ev_int bin_add) (ea_cons (ev_bin (lv 3) ev_int (bin_div (by walk_at "z") (by walk_at "dv"))) ea_nil))) (fun _ => rfl) (by kernel_rfl)) ?_
      exact es_nil
    · refine es_cons (es_set 4 rfl (ev_ifI (eb_cmp (lv 0) ev_int cmp_lt rfl).eb (fun _ => (ev_bin ev_int ev_int (bin_shl (by walk_at "z") (by walk_at "sh")))) (fun _ => ev_int)) (fun _ => rfl)) ?_
      refine es_ret' (ev_bin (ev_bin (ev_bin (lv 4) (ev_bin (ev_bin (ev_bin ev_int (lv 2) bin_add) (lv 1) bin_sub) (ev_bin ev_int ev_int (bin_shl (by walk_at "z") (by walk_at "sh"))) (bin_mul (by walk_at "ml"))) bin_add) (ev_bin (clB (bv b_abs) (ea_cons (lv 0) ea_nil) bi_abs) (ev_bin ev_int (ev_bin ev_int (lv 2) bin_sub) (bin_shl (by walk_at "om") (by walk_at "sh"))) (bin_mul (IntMulOk.of_left (intBits_le_64 (by walk_at "om") (by walk_at "om"))))) bin_add) (ev_bin ev_int ev_int (bin_shl (by walk_at "z") (by walk_at "sh"))) bin_sub) ?_
      unfold LB R
      rw [if_neg h1]
      have e1 : (1 : Int) * 2 ^ (63 : Int).toNat = 2 ^ 63 := rfl
      have e2 : (1 : Int) * 2 ^ (52 : Int).toNat = 2 ^ 52 := rfl
      have e3 : (1 : Int) * 2 ^ ((53 : Int) - (bl t.natAbs : Int)).toNat = 2 ^ (53 - bl t.natAbs) := by
        rw [Int.one_mul]; congr 1; walk_at "om"
      rw [e1, e2, e3]
      congr 1
      generalize (2 : Int) ^ (53 - bl t.natAbs) = P
      simp only [decide_eq_true_eq]
      by_cases hneg : t < 0
      · rw [if_pos hneg, if_pos hneg]; walk_at "om"
      · rw [if_neg hneg, if_neg hneg]; walk_at "om"
end
section
variable {w : World} {mg mb : Str → Option Value}

/-! ## whole ones -/
noncomputable def LS (n : Int) (below : Bool) : Int := if n = 0 ∧ below = true then 2 ^ 63 else LB n 0
theorem s_lsigned {n : Int} {below : Bool} (hn : n.natAbs < 2 ^ 40) : Fd (Gw w mg mb) 2 919 [.int n, .bool below] (.int (LS n below)) := by
  refine fd_ret ok_law_signed rfl fun A L h₀ => ?_
  conv => arg 4; whnf
  refine es_ret' (ev_ifI (eb_and (eb_cmp (lv 0) ev_int cmp_eq rfl).eb (fun _ => (eb_and (eb_name (lv 1)) (fun _ => eb_and_nil)))).eb (fun _ => (gv g_NEG_ZERO)) (fun _ => (cl (gv g_law_bits) (ea_cons (lv 0) (ea_cons ev_int ea_nil)) (s_bits hn (by decide) (by decide))))) ?_
  unfold LS
  simp only [Bool.and_true, Bool.and_eq_true, decide_eq_true_eq]
  rfl
theorem LS_eq {n : Int} {below : Bool} (h1 : below = true → n ≤ 0) (h2 : below = false → 0 ≤ n) : LS n below = MW (if below = true then 1 else 0) n.natAbs := by
  unfold LS MW LB
  cases below with
  | true =>
    have := h1 rfl
    by_cases h : n = 0
    · subst h; rfl
    · have a1 : (if n < 0 then (1 : Int) else 0) = 1 := if_pos (by walk_at "om")
      have a2 : n.natAbs ≠ 0 := by walk_at "om"
      rw [if_neg (by simp [h]), if_neg h, a1, if_neg a2]; rfl
  | false =>
    have := h2 rfl
    by_cases h : n = 0
    · subst h; rfl
    · have a1 : (if n < 0 then (1 : Int) else 0) = 0 := if_neg (by walk_at "om")
      have a2 : n.natAbs ≠ 0 := by walk_at "om"
      rw [if_neg (by simp), if_neg h, a1, if_neg a2]; rfl

theorem LB_word {t : Int} {k : Nat} (h : t ≠ 0) (ht : t.natAbs < 2 ^ 40) (hk : k ≤ 40) : Wd (LB t k) (if t < 0 then 1 else 0) t.natAbs (-(k : Int)) :=
  ⟨by split <;> decide, by split <;> decide, by walk_at "om", ht, by walk_at "om", by walk_at "om", by unfold LB; rw [if_neg h]⟩

theorem divq {a P q r : Int} (hP : 0 < P) (h : a = P * q + r) (h0 : 0 ≤ r) (h1 : r < P) : a / P = q :=
  ((Int.ediv_emod_unique (r := r) (q := q) hP).mpr ⟨by walk_at "om", h0, h1⟩).1

/-- the law's whole numbers, of a part above and one below -/
theorem floor_law {m P : Nat} (hP : 0 < P) : ((m : Int) / P).natAbs = m / P ∧ 0 ≤ (m : Int) / P ∧ ((-(m : Int)) / P).natAbs = (if m % P = 0 then m / P else m / P + 1) ∧ (-(m : Int)) / P ≤ 0 := by
  have e1 : (m : Int) / P = ((m / P : Nat) : Int) := by simp
  have hm : (m : Int) = (P : Int) * ((m / P : Nat) : Int) + ((m % P : Nat) : Int) := by exact_mod_cast (Nat.div_add_mod m P).symm
  have hr : m % P < P := Nat.mod_lt _ hP
  generalize m / P = q at *
  generalize m % P = r at *
  have e2 : (-(m : Int)) / P = (if r = 0 then -(q : Int) else -((q : Int) + 1)) := by
    by_cases h : r = 0
    · rw [if_pos h]
      refine divq (r := 0) (by walk_at "om") ?_ (by decide) (by walk_at "om")
      rw [Int.mul_neg]; walk_at "om"
    · rw [if_neg h]
      refine divq (r := (P : Int) - r) (by walk_at "om") ?_ (by walk_at "om") (by walk_at "om")
      rw [Int.mul_neg, Int.mul_add, Int.mul_one]; walk_at "om"
  rw [e1, e2]
  refine ⟨by walk_at "om", by walk_at "om", ?_, by split <;> walk_at "om"⟩
  split <;> walk_at "om"
theorem round_law {m P : Nat} (hP : 0 < P) : ((2 * (m : Int) + P) / (2 * P)).natAbs = (if P ≤ 2 * (m % P) then m / P + 1 else m / P) ∧ 0 ≤ (2 * (m : Int) + P) / (2 * P) ∧
    ((2 * (-(m : Int)) + P) / (2 * P)).natAbs = (if P < 2 * (m % P) then m / P + 1 else m / P) ∧ (2 * (-(m : Int)) + P) / (2 * P) ≤ 0 := by
  have hm : (m : Int) = (P : Int) * ((m / P : Nat) : Int) + ((m % P : Nat) : Int) := by exact_mod_cast (Nat.div_add_mod m P).symm
  have hr : m % P < P := Nat.mod_lt _ hP
  generalize m / P = q at *
  generalize m % P = r at *
  have k1 : ∀ z : Int, 2 * (P : Int) * z = 2 * (P * z) := fun z => Int.mul_assoc ..
  have e1 : (2 * (m : Int) + P) / (2 * P) = (if P ≤ 2 * r then (q : Int) + 1 else q) := by
    by_cases h : P ≤ 2 * r
    · rw [if_pos h]
      refine divq (r := 2 * (r : Int) - P) (by walk_at "om") ?_ (by walk_at "om") (by walk_at "om")
      rw [k1, Int.mul_add, Int.mul_one]; walk_at "om"
    · rw [if_neg h]
      refine divq (r := 2 * (r : Int) + P) (by walk_at "om") ?_ (by walk_at "om") (by walk_at "om")
      rw [k1]; walk_at "om"
  have e2 : (2 * (-(m : Int)) + P) / (2 * P) = (if P < 2 * r then -((q : Int) + 1) else -(q : Int)) := by
    by_cases h : P < 2 * r
    · rw [if_pos h]
      refine divq (r := 3 * (P : Int) - 2 * r) (by walk_at "om") ?_ (by walk_at "om") (by walk_at "om")
      rw [k1, show (P : Int) * -((q : Int) + 1) = -(P * q + P) by rw [Int.mul_neg, Int.mul_add, Int.mul_one]]; walk_at "om"
    · rw [if_neg h]
      refine divq (r := (P : Int) - 2 * r) (by walk_at "om") ?_ (by walk_at "om") (by walk_at "om")
      rw [k1, show (P : Int) * -(q : Int) = -(P * q) from Int.mul_neg ..]; walk_at "om"
  rw [e1, e2]
  refine ⟨by split <;> walk_at "om", by split <;> walk_at "om", by split <;> walk_at "om", by split <;> walk_at "om"⟩

section
variable {t : Int} {k : Nat}
theorem l_floor (ht : t.natAbs < 2 ^ 40) (hk : k ≤ 40) : Fd (Gw w mg mb) 5 425 [.int (LB t k)] (.int (LS (t / 2 ^ k) (decide (t < 0)))) := by
  by_cases h0 : t = 0
  · subst h0
    have e1 : LB 0 k = 0 := rfl
    have e2 : LS ((0 : Int) / 2 ^ k) (decide ((0 : Int) < 0)) = 0 := by rw [Int.zero_ediv]; rfl
    rw [e1, e2]
    refine fd_ret ok_floor rfl fun A L h₀ => ?_
    conv => arg 4; whnf
    exact es_if (eb_call (cl (gv g_is_settled) (ea_cons (lv 0) ea_nil) (s_is_settled_z (by decide) rfl))) (fun _ => es_ret (lv 0)) (fun q => by cases q)
  · have W := LB_word h0 ht hk
    have hf := s_floor_W (w := w) (mg := mg) (mb := mb) W
    have ek : (-(-(k : Int))).toNat = k := by walk_at "om"
    rw [ek] at hf
    have hP : 0 < 2 ^ k := Nat.two_pow_pos k
    obtain ⟨f1, f2, f3, f4⟩ := floor_law (m := t.natAbs) hP
    rw [pow_cast] at f1 f2 f3 f4
    have key : (if t.natAbs % 2 ^ k = 0 then LB t k else MW (if t < 0 then 1 else 0) (if (if t < 0 then (1 : Int) else 0) = 1 then t.natAbs / 2 ^ k + 1 else t.natAbs / 2 ^ k)) = LS (t / 2 ^ k) (decide (t < 0)) := by
      have hwh : t.natAbs % 2 ^ k = 0 → LB t k = MW (if t < 0 then 1 else 0) (t.natAbs / 2 ^ k) := fun hs => by
        have := W.whole (by rw [ek]; exact hs)
        rwa [ek] at this
      by_cases hn : t < 0
      · have et : t = -((t.natAbs : Nat) : Int) := by walk_at "om"
        rw [← et] at f3 f4
        rw [LS_eq (fun _ => f4) (fun q => by rw [decide_eq_true hn] at q; cases q), f3, decide_eq_true hn]
        simp only [if_pos hn] at hwh ⊢
        by_cases hs : t.natAbs % 2 ^ k = 0
        · rw [if_pos hs, if_pos hs, hwh hs]; rfl
        · rw [if_neg hs, if_neg hs]; rfl
      · have et : t = ((t.natAbs : Nat) : Int) := by walk_at "om"
        rw [← et] at f1 f2
        rw [LS_eq (fun q => by rw [decide_eq_false hn] at q; cases q) (fun _ => f2), f1, decide_eq_false hn]
        simp only [if_neg hn] at hwh ⊢
        by_cases hs : t.natAbs % 2 ^ k = 0
        · rw [if_pos hs, hwh hs]; rfl
        · rw [if_neg hs]; rfl
    rw [key] at hf
    exact hf
end
end
section
variable {w : World} {mg mb : Str → Option Value}

section
variable {t : Int} {k : Nat}
theorem l_ceil (ht : t.natAbs < 2 ^ 40) (hk : k ≤ 40) : Fd (Gw w mg mb) 5 432 [.int (LB t k)] (.int (LS (-(-t / 2 ^ k)) (decide (t < 0)))) := by
  by_cases h0 : t = 0
  · subst h0
    have e1 : LB 0 k = 0 := rfl
    have e2 : LS (-(-(0 : Int) / 2 ^ k)) (decide ((0 : Int) < 0)) = 0 := by rw [show -(0 : Int) = 0 from rfl, Int.zero_ediv]; rfl
    rw [e1, e2]
    refine fd_ret ok_ceil rfl fun A L h₀ => ?_
    conv => arg 4; whnf
    exact es_if (eb_call (cl (gv g_is_settled) (ea_cons (lv 0) ea_nil) (s_is_settled_z (by decide) rfl))) (fun _ => es_ret (lv 0)) (fun q => by cases q)
  · have W := LB_word h0 ht hk
    have hf := s_ceil_W (w := w) (mg := mg) (mb := mb) W
    have ek : (-(-(k : Int))).toNat = k := by walk_at "om"
    rw [ek] at hf
    have hP : 0 < 2 ^ k := Nat.two_pow_pos k
    obtain ⟨f1, f2, f3, f4⟩ := floor_law (m := t.natAbs) hP
    rw [pow_cast] at f1 f2 f3 f4
    have key : (if t.natAbs % 2 ^ k = 0 then LB t k else MW (if t < 0 then 1 else 0) (if (if t < 0 then (1 : Int) else 0) = 1 then t.natAbs / 2 ^ k else t.natAbs / 2 ^ k + 1)) = LS (-(-t / 2 ^ k)) (decide (t < 0)) := by
      have hwh : t.natAbs % 2 ^ k = 0 → LB t k = MW (if t < 0 then 1 else 0) (t.natAbs / 2 ^ k) := fun hs => by
        have := W.whole (by rw [ek]; exact hs)
        rwa [ek] at this
      by_cases hn : t < 0
      · have et : -t = ((t.natAbs : Nat) : Int) := by walk_at "om"
        rw [← et] at f1 f2
        rw [LS_eq (fun _ => by walk_at "om") (fun q => by rw [decide_eq_true hn] at q; cases q), Int.natAbs_neg, f1, decide_eq_true hn]
        simp only [if_pos hn] at hwh ⊢
        by_cases hs : t.natAbs % 2 ^ k = 0
        · rw [if_pos hs, hwh hs]; rfl
        · rw [if_neg hs]; rfl
      · have et : -t = -((t.natAbs : Nat) : Int) := by walk_at "om"
        rw [← et] at f3 f4
        rw [LS_eq (fun q => by rw [decide_eq_false hn] at q; cases q) (fun _ => by walk_at "om"), Int.natAbs_neg, f3, decide_eq_false hn]
        simp only [if_neg hn] at hwh ⊢
        by_cases hs : t.natAbs % 2 ^ k = 0
        · rw [if_pos hs, if_pos hs, hwh hs]; rfl
        · rw [if_neg hs, if_neg hs]; rfl
    rw [key] at hf
    exact hf
theorem l_round (ht : t.natAbs < 2 ^ 40) (hk : k ≤ 40) : Fd (Gw w mg mb) 5 439 [.int (LB t k)] (.int (LS ((2 * t + 2 ^ k) / (2 * 2 ^ k)) (decide (t < 0)))) := by
  by_cases h0 : t = 0
  · subst h0
    have e1 : LB 0 k = 0 := rfl
    have hp := pow_pos2 k
    have e3 : ((2 : Int) * 0 + 2 ^ k) / (2 * 2 ^ k) = 0 := by
      rw [Int.mul_zero, Int.zero_add]
      exact Int.ediv_eq_zero_of_lt (by walk_at "om") (by walk_at "om")
    have e2 : LS (((2 : Int) * 0 + 2 ^ k) / (2 * 2 ^ k)) (decide ((0 : Int) < 0)) = 0 := by rw [e3]; rfl
    rw [e1, e2]
    refine fd_ret ok_round_half_up rfl fun A L h₀ => ?_
    conv => arg 4; whnf
    exact es_if (eb_call (cl (gv g_is_settled) (ea_cons (lv 0) ea_nil) (s_is_settled_z (by decide) rfl))) (fun _ => es_ret (lv 0)) (fun q => by cases q)
  · have W := LB_word h0 ht hk
    have hf := s_round_W (w := w) (mg := mg) (mb := mb) W
    have ek : (-(-(k : Int))).toNat = k := by walk_at "om"
    rw [ek] at hf
    have hP : 0 < 2 ^ k := Nat.two_pow_pos k
    obtain ⟨f1, f2, f3, f4⟩ := round_law (m := t.natAbs) hP
    rw [pow_cast] at f1 f2 f3 f4
    have key : (if t.natAbs % 2 ^ k = 0 then LB t k else MW (if t < 0 then 1 else 0) (if 2 ^ k < 2 * (t.natAbs % 2 ^ k) ∨ (2 * (t.natAbs % 2 ^ k) = 2 ^ k ∧ (if t < 0 then (1 : Int) else 0) = 0) then t.natAbs / 2 ^ k + 1 else t.natAbs / 2 ^ k)) = LS ((2 * t + 2 ^ k) / (2 * 2 ^ k)) (decide (t < 0)) := by
      have hwh : t.natAbs % 2 ^ k = 0 → LB t k = MW (if t < 0 then 1 else 0) (t.natAbs / 2 ^ k) := fun hs => by
        have := W.whole (by rw [ek]; exact hs)
        rwa [ek] at this
      generalize hPP : 2 ^ k = P at *
      by_cases hn : t < 0
      · have et : t = -((t.natAbs : Nat) : Int) := by walk_at "om"
        rw [← et] at f3 f4
        rw [LS_eq (fun _ => f4) (fun q => by rw [decide_eq_true hn] at q; cases q), f3, decide_eq_true hn]
        simp only [if_pos hn] at hwh ⊢
        by_cases hs : t.natAbs % P = 0
        · rw [if_pos hs, hwh hs, if_neg (show ¬ P < 2 * (t.natAbs % P) by walk_at "om")]; rfl
        · rw [if_neg hs]
          show _ = MW 1 _
          by_cases hc : P < 2 * (t.natAbs % P)
          · rw [if_pos (Or.inl hc), if_pos hc]
          · rw [if_neg (fun q => q.elim hc (fun z => by cases z.2)), if_neg hc]
      · have et : t = ((t.natAbs : Nat) : Int) := by walk_at "om"
        rw [← et] at f1 f2
        rw [LS_eq (fun q => by rw [decide_eq_false hn] at q; cases q) (fun _ => f2), f1, decide_eq_false hn]
        simp only [if_neg hn] at hwh ⊢
        by_cases hs : t.natAbs % P = 0
        · rw [if_pos hs, hwh hs, if_neg (show ¬ P ≤ 2 * (t.natAbs % P) by walk_at "om")]; rfl
        · rw [if_neg hs]
          show _ = MW 0 _
          by_cases hc : P ≤ 2 * (t.natAbs % P)
          · rw [if_pos (show P < 2 * (t.natAbs % P) ∨ (2 * (t.natAbs % P) = P ∧ True) from (Nat.lt_or_eq_of_le hc).imp id (fun z => ⟨z.symm, trivial⟩)), if_pos hc]
          · rw [if_neg (show ¬ (P < 2 * (t.natAbs % P) ∨ (2 * (t.natAbs % P) = P ∧ True)) from fun q => q.elim (fun z => hc (Nat.le_of_lt z)) (fun z => hc (Nat.le_of_eq z.1.symm))), if_neg hc]
    rw [key] at hf
    exact hf
theorem LB_abs (ht : t.natAbs < 2 ^ 40) (hk : k ≤ 40) : 0 ≤ LB t k ∧ LB t k % 2 ^ 63 = LB (t.natAbs : Int) k ∧ LB t k % 2 ^ 63 < 2047 * 2 ^ 52 ∧ LB t k < 2 ^ 64 ∧ LB t k / 2 ^ 63 = (if t < 0 then 1 else 0) ∧ (t ≠ 0 → LB t k % 2 ^ 63 ≠ 0) := by
  by_cases h0 : t = 0
  · subst h0
    have e1 : LB 0 k = 0 := rfl
    rw [e1]
    exact ⟨by decide, by rw [show ((0 : Int).natAbs : Int) = 0 from rfl, e1]; rfl, by decide, by decide, by decide, fun h => absurd rfl h⟩
  · have W := LB_word h0 ht hk
    obtain ⟨M, hM, a1, a2, a3, a4, a5⟩ := W.facts
    obtain ⟨n1, n2, n3, n4, n5⟩ := W.nn
    refine ⟨n1, ?_, n4, n2, n3, fun _ => n5⟩
    have e : LB (t.natAbs : Int) k = (1022 + bl t.natAbs + -(k : Int)) * 2 ^ 52 + M - 2 ^ 52 := by
      unfold LB
      rw [if_neg (by walk_at "om"), if_neg (by walk_at "om")]
      unfold R
      rw [Int.natAbs_natCast, hM]; walk_at "om"
    rw [e]
    have hg : (if t < 0 then (1 : Int) else 0) = 0 ∨ (if t < 0 then (1 : Int) else 0) = 1 := by split <;> simp
    walk_at "om"
theorem l_abs (ht : t.natAbs < 2 ^ 40) (hk : k ≤ 40) : Fd (Gw w mg mb) 2 334 [.int (LB t k)] (.int (LB (t.natAbs : Int) k)) := by
  obtain ⟨h1, h2, h3, _⟩ := LB_abs ht hk
  have := s_absolute (w := w) (mg := mg) (mb := mb) h1 (by walk_at "om")
  rwa [h2] at this

theorem s_wholes (ht : t.natAbs < 2 ^ 20) (hk : k ≤ 20) : Fd (Gw w mg mb) 7 926 [.int t, .int k] (.bool true) := by
  have h40 : t.natAbs < 2 ^ 40 := by walk_at "om"
  have hp := pow_pos2 k
  have hpk : (2 : Int) ^ k ≤ 2 ^ 20 := by exact_mod_cast Nat.pow_le_pow_right (n := 2) (by decide) hk
  have e1 : (1 : Int) * 2 ^ ((k : Int)).toNat = 2 ^ k := by rw [Int.one_mul, Int.toNat_natCast]
  have b1 : (t / 2 ^ k).natAbs < 2 ^ 40 := Nat.lt_of_le_of_lt (Int.natAbs_ediv_le_natAbs _ _) h40
  have b2 : (-(-t / 2 ^ k)).natAbs < 2 ^ 40 := by rw [Int.natAbs_neg]; exact Nat.lt_of_le_of_lt (Int.natAbs_ediv_le_natAbs _ _) (by walk_at "om")
  have b3 : ((2 * t + 2 ^ k) / (2 * 2 ^ k)).natAbs < 2 ^ 40 := Nat.lt_of_le_of_lt (Int.natAbs_ediv_le_natAbs _ _) (by walk_at "om")
  refine fd_ret ok_law_wholes_right rfl fun A L h₀ => ?_
  conv => arg 4; whnf
  refine es_cons (es_unpackS [2, 3, 4] rfl rfl rfl (ev_tup (ea_cons (ev_lst (ea_cons (cl (gv g_law_bits) (ea_cons (lv 0) (ea_cons (lv 1) ea_nil)) (s_bits h40 (by walk_at "om") (by walk_at "om"))) ea_nil)) (ea_cons (ev_bin ev_int (lv 1) (bin_shl (by walk_at "om") (by walk_at "sh"))) (ea_cons (ev_cmp (lv 0) ev_int cmp_lt rfl) ea_nil)))) (fun _ => rfl) (by kernel_rfl)) ?_
  rw [e1]
  have f1 := s_math_floor (v := .none) (u := .none) (l_floor (w := w) (mg := mg) (mb := mb) h40 (show k ≤ 40 by walk_at "om"))
  have f2 := s_math_ceil (v := .none) (u := .none) (l_ceil (w := w) (mg := mg) (mb := mb) h40 (show k ≤ 40 by walk_at "om"))
  have f3 := s_math_round (v := .none) (u := .none) (l_round (w := w) (mg := mg) (mb := mb) h40 (show k ≤ 40 by walk_at "om"))
  have f4 := s_math_abs (v := .none) (u := .none) (l_abs (w := w) (mg := mg) (mb := mb) h40 (show k ≤ 40 by walk_at "om"))
  generalize (2 : Int) ^ k = P at *
  have l1 : P.natAbs.log2 < 9000 := div_sz 64 (by walk_at "om") (by decide)
  have l2 : (2 * P).natAbs.log2 < 9000 := div_sz 64 (by walk_at "om") (by decide)
  refine es_ifd (eb_cmp (cl (gv g_math_floor) (ea_cons ev_none (ea_cons ev_none (ea_cons (lv 2) ea_nil))) f1) (cl (gv g_law_signed) (ea_cons (ev_bin (lv 0) (lv 3) (bin_div hp l1)) (ea_cons (lv 4) ea_nil)) (s_lsigned b1)) cmp_ne rfl).eb (fun h1 => absurd rfl h1) (fun h1 => ?_)
  refine es_ifd (eb_cmp (cl (gv g_math_ceil) (ea_cons ev_none (ea_cons ev_none (ea_cons (lv 2) ea_nil))) f2) (cl (gv g_law_signed) (ea_cons (ev_neg (ev_bin (ev_neg (lv 0)) (lv 3) (bin_div hp l1))) (ea_cons (lv 4) ea_nil)) (s_lsigned b2)) cmp_ne rfl).eb (fun h2 => absurd rfl h2) (fun h2 => ?_)
  refine es_ifd (eb_cmp (cl (gv g_math_round) (ea_cons ev_none (ea_cons ev_none (ea_cons (lv 2) ea_nil))) f3) (cl (gv g_law_signed) (ea_cons (ev_bin (ev_bin (ev_bin ev_int (lv 0) (bin_mul (by walk_at "ml"))) (lv 3) bin_add) (ev_bin ev_int (lv 3) (bin_mul (by walk_at "ml"))) (bin_div (by walk_at "om") l2)) (ea_cons (lv 4) ea_nil)) (s_lsigned b3)) cmp_ne rfl).eb (fun h3 => absurd rfl h3) (fun h3 => ?_)
  refine es_ret' (ev_cmp (cl (gv g_math_abs) (ea_cons ev_none (ea_cons ev_none (ea_cons (lv 2) ea_nil))) f4) (cl (gv g_law_bits) (ea_cons (clB (bv b_abs) (ea_cons (lv 0) ea_nil) bi_abs) (ea_cons (lv 1) ea_nil)) (s_bits (by walk_at "om") (by walk_at "om") (by walk_at "om"))) cmp_eq rfl) ?_
  rw [decide_eq_true rfl]
end
end
section
variable {w : World} {mg mb : Str → Option Value}

/-! ## words in order -/
theorem bl_mono {m n : Nat} (h : m ≤ n) : bl m ≤ bl n := bl_le_of (Nat.lt_of_le_of_lt h (bl_lt n))
theorem R_lt {m n : Nat} {e : Int} (h0 : m ≠ 0) (h : m < n) (hb : bl n ≤ 53) : R 0 m e < R 0 n e := by
  have hm := bl_mono (Nat.le_of_lt h)
  have l1 := lead_lo (m := n) (k := 52) (by walk_at "om") (by walk_at "om")
  have l2 := lead_hi (m := m) (k := 52) (by walk_at "om")
  have e1 : 52 + 1 - bl n = 53 - bl n := by walk_at "om"
  have e2 : 52 + 1 - bl m = 53 - bl m := by walk_at "om"
  rw [e1] at l1
  rw [e2] at l2
  unfold R
  by_cases hq : bl m = bl n
  · rw [hq] at l2 ⊢
    have : (m : Int) * 2 ^ (53 - bl n) < n * 2 ^ (53 - bl n) := Int.mul_lt_mul_of_pos_right (by walk_at "om") (pow_pos2 _)
    walk_at "om"
  · walk_at "om"
section
variable {k : Nat}
theorem LB_nat_lt {m n : Nat} (h : m < n) (hn : n < 2 ^ 40) (hk : k ≤ 40) : LB (m : Int) k < LB (n : Int) k := by
  by_cases h0 : m = 0
  · subst h0
    have e1 : LB ((0 : Nat) : Int) k = 0 := rfl
    rw [e1]
    have hz : (n : Int) ≠ 0 := by walk_at "om"
    obtain ⟨a1, a2, a3, a4, a5, a6⟩ := LB_abs (t := (n : Int)) (k := k) (by walk_at "om") hk
    have := a6 hz
    walk_at "om"
  · unfold LB
    rw [if_neg (by walk_at "om"), if_neg (by walk_at "om"), if_neg (by walk_at "om"), if_neg (by walk_at "om")]
    have := R_lt (e := -(k : Int)) h0 h (Nat.le_trans (bl_le_of hn) (by decide))
    simpa using this
theorem LB_key {t : Int} (ht : t.natAbs < 2 ^ 40) (hk : k ≤ 40) : Ky (LB t k) = (if t < 0 then -LB (t.natAbs : Int) k else LB (t.natAbs : Int) k) := by
  obtain ⟨a1, a2, a3, a4, a5, a6⟩ := LB_abs ht hk
  unfold Ky
  rw [a5]
  by_cases h : t < 0
  · rw [if_pos h, if_pos h, if_pos rfl, a2]
  · rw [if_neg h, if_neg h, if_neg (by decide)]
    congr 1
    walk_at "om"
theorem LB_le {t u : Int} (ht : t.natAbs < 2 ^ 40) (hu : u.natAbs < 2 ^ 40) (hk : k ≤ 40) : Ky (LB t k) ≤ Ky (LB u k) ↔ t ≤ u := by
  rw [LB_key ht hk, LB_key hu hk]
  have t0 := (LB_abs (t := (t.natAbs : Int)) (k := k) (by walk_at "om") hk).1
  have u0 := (LB_abs (t := (u.natAbs : Int)) (k := k) (by walk_at "om") hk).1
  have z0 : LB ((0 : Nat) : Int) k = 0 := rfl
  have pos : ∀ m : Nat, 0 < m → m < 2 ^ 40 → 0 < LB (m : Int) k := fun m h1 h2 => by
    have := LB_nat_lt (k := k) h1 h2 hk
    walk_at "om"
  rcases Nat.lt_trichotomy t.natAbs u.natAbs with h | h | h
  · have := LB_nat_lt (k := k) h hu hk
    have := pos _ (show 0 < u.natAbs by walk_at "om") hu
    split <;> split <;> walk_at "om"
  · rw [h]
    by_cases hz : u = 0
    · subst hz; rw [show (Int.natAbs 0) = 0 from rfl, z0]; split <;> walk_at "om"
    · have := pos _ (show 0 < u.natAbs by walk_at "om") hu
      split <;> split <;> walk_at "om"
  · have := LB_nat_lt (k := k) h ht hk
    have := pos _ (show 0 < t.natAbs by walk_at "om") ht
    split <;> split <;> walk_at "om"
theorem LB_nn {t : Int} (ht : t.natAbs < 2 ^ 40) (hk : k ≤ 40) : Nn (LB t k) := by
  obtain ⟨a1, a2, a3, a4, a5, a6⟩ := LB_abs ht hk
  exact ⟨a1, a4, by walk_at "om"⟩
theorem l_max2 {t u : Int} (ht : t.natAbs < 2 ^ 40) (hu : u.natAbs < 2 ^ 40) (hk : k ≤ 40) : Fd (Gw w mg mb) 4 467 [.int (LB t k), .int (LB u k)] (.int (LB (max t u) k)) := by
  by_cases hz : LB t k % 2 ^ 63 = 0 ∧ LB u k % 2 ^ 63 = 0
  · have zt : t = 0 := Classical.byContradiction fun q => (LB_abs ht hk).2.2.2.2.2 q hz.1
    have zu : u = 0 := Classical.byContradiction fun q => (LB_abs hu hk).2.2.2.2.2 q hz.2
    subst zt zu
    exact s_max_of_z (w := w) (mg := mg) (mb := mb) (a := 0) (b := 0) (by decide) (by decide) (by decide) (by decide)
  · have := s_max_of (w := w) (mg := mg) (mb := mb) (LB_nn ht hk) (LB_nn hu hk) hz
    have e := LB_le (k := k) hu ht hk
    by_cases h : u ≤ t
    · rw [if_pos (e.mpr h)] at this
      rwa [show max t u = t by walk_at "om"]
    · rw [if_neg (fun q => h (e.mp q))] at this
      rwa [show max t u = u by walk_at "om"]
theorem l_min2 {t u : Int} (ht : t.natAbs < 2 ^ 40) (hu : u.natAbs < 2 ^ 40) (hk : k ≤ 40) : Fd (Gw w mg mb) 4 460 [.int (LB t k), .int (LB u k)] (.int (LB (min t u) k)) := by
  by_cases hz : LB t k % 2 ^ 63 = 0 ∧ LB u k % 2 ^ 63 = 0
  · have zt : t = 0 := Classical.byContradiction fun q => (LB_abs ht hk).2.2.2.2.2 q hz.1
    have zu : u = 0 := Classical.byContradiction fun q => (LB_abs hu hk).2.2.2.2.2 q hz.2
    subst zt zu
    exact s_min_of_z (w := w) (mg := mg) (mb := mb) (a := 0) (b := 0) (by decide) (by decide) (by decide) (by decide)
  · have := s_min_of (w := w) (mg := mg) (mb := mb) (LB_nn ht hk) (LB_nn hu hk) hz
    have e := LB_le (k := k) ht hu hk
    by_cases h : t ≤ u
    · rw [if_pos (e.mpr h)] at this
      rwa [show min t u = t by walk_at "om"]
    · rw [if_neg (fun q => h (e.mp q))] at this
      rwa [show min t u = u by walk_at "om"]
theorem LB_in {t : Int} (ht : t.natAbs < 2 ^ 40) (hk : k ≤ 40) : -(2047 * 2 ^ 52) < Ky (LB t k) ∧ Ky (LB t k) < 2047 * 2 ^ 52 := by
  have h := LB_abs (t := (t.natAbs : Int)) (k := k) (by walk_at "om") hk
  obtain ⟨a1, a2, a3, a4, a5, a6⟩ := LB_abs ht hk
  rw [LB_key ht hk]
  rw [a2] at a3
  split <;> walk_at "om"
theorem l_max0 {t : Int} (ht : t.natAbs < 2 ^ 40) (hk : k ≤ 40) : Fd (Gw w mg mb) 4 467 [.int 18442240474082181120, .int (LB t k)] (.int (LB t k)) := by
  have := s_max_of (w := w) (mg := mg) (mb := mb) (a := 18442240474082181120) ⟨by decide, by decide, by decide⟩ (LB_nn ht hk) (fun q => by have := q.1; revert this; decide)
  rwa [if_neg (by
    have := (LB_in ht hk).1
    have e : Ky 18442240474082181120 = -(2047 * 2 ^ 52) := by decide +kernel
    rw [e]; walk_at "om")] at this
theorem l_min0 {t : Int} (ht : t.natAbs < 2 ^ 40) (hk : k ≤ 40) : Fd (Gw w mg mb) 4 460 [.int 9218868437227405312, .int (LB t k)] (.int (LB t k)) := by
  have := s_min_of (w := w) (mg := mg) (mb := mb) (a := 9218868437227405312) ⟨by decide, by decide, by decide⟩ (LB_nn ht hk) (fun q => by have := q.1; revert this; decide)
  rwa [if_neg (by
    have := (LB_in ht hk).2
    have e : Ky 9218868437227405312 = 2047 * 2 ^ 52 := by decide +kernel
    rw [e]; walk_at "om")] at this
end
end
section
variable {w : World} {mg mb : Str → Option Value}

section
variable {k : Nat} {x y z : Int}
abbrev fmax (r n r' : Int) (w : World) (mg mb : Str → Option Value) : Prop := Fd (Gw w mg mb) 4 467 [.int r, .int n] (.int r')
theorem c_max (hx : x.natAbs < 2 ^ 40) (hy : y.natAbs < 2 ^ 40) (hz : z.natAbs < 2 ^ 40) (hk : k ≤ 40) :
    Fd (Gw w mg mb) 6 647 [.none, .none, .lst [.int (LB x k), .int (LB y k), .int (LB z k)]] (.int (LB (max (max x y) z) k)) :=
  s_math_max (u := .none) (ns := [LB x k, LB y k, LB z k]) (by simp) (.cons (l_max0 hx hk) (.cons (l_max2 hx hy hk) (.cons (l_max2 (by walk_at "om") hz hk) (.nil _))))
theorem c_min (hx : x.natAbs < 2 ^ 40) (hy : y.natAbs < 2 ^ 40) (hz : z.natAbs < 2 ^ 40) (hk : k ≤ 40) :
    Fd (Gw w mg mb) 6 652 [.none, .none, .lst [.int (LB x k), .int (LB y k), .int (LB z k)]] (.int (LB (min (min x y) z) k)) :=
  s_math_min (u := .none) (ns := [LB x k, LB y k, LB z k]) (by simp) (.cons (l_min0 hx hk) (.cons (l_min2 hx hy hk) (.cons (l_min2 (by walk_at "om") hz hk) (.nil _))))
theorem c_maxn (hx : x.natAbs < 2 ^ 40) (hy : y.natAbs < 2 ^ 40) (hz : z.natAbs < 2 ^ 40) (hk : k ≤ 40) :
    Fd (Gw w mg mb) 6 647 [.none, .none, .lst [.int (LB x k), .int (LB y k), .int (LB z k), .int 9221120237041090560]] (.int 9221120237041090560) :=
  s_math_max (u := .none) (ns := [LB x k, LB y k, LB z k, 9221120237041090560]) (by simp) (.cons (l_max0 hx hk) (.cons (l_max2 hx hy hk) (.cons (l_max2 (by walk_at "om") hz hk) (.cons (s_max_of_n (LB_nn (show (max (max x y) z).natAbs < 2 ^ 40 by walk_at "om") hk).b0 (by decide) (.inr (by decide))) (.nil _)))))
theorem c_minn (hx : x.natAbs < 2 ^ 40) (hy : y.natAbs < 2 ^ 40) (hz : z.natAbs < 2 ^ 40) (hk : k ≤ 40) :
    Fd (Gw w mg mb) 6 652 [.none, .none, .lst [.int 9221120237041090560, .int (LB x k), .int (LB y k), .int (LB z k)]] (.int 9221120237041090560) :=
  s_math_min (u := .none) (ns := [9221120237041090560, LB x k, LB y k, LB z k]) (by simp) (.cons (s_min_of_n (by decide) (by decide) (.inr (by decide))) (.cons (s_min_of_n (by decide) (LB_nn hx hk).b0 (.inl (by decide))) (.cons (s_min_of_n (by decide) (LB_nn hy hk).b0 (.inl (by decide))) (.cons (s_min_of_n (by decide) (LB_nn hz hk).b0 (.inl (by decide))) (.nil _)))))

theorem max2 {x y : Int} {B : Nat} (hx : x.natAbs < B) (hy : y.natAbs < B) : (max x y).natAbs < B := by
  rcases Int.le_total x y with h | h
  · rw [Int.max_eq_right h]; exact hy
  · rw [Int.max_eq_left h]; exact hx
theorem min2 {x y : Int} {B : Nat} (hx : x.natAbs < B) (hy : y.natAbs < B) : (min x y).natAbs < B := by
  rcases Int.le_total x y with h | h
  · rw [Int.min_eq_left h]; exact hx
  · rw [Int.min_eq_right h]; exact hy
theorem max3 {x y z m : Int} (hm : m = x ∨ m = y ∨ m = z) (h1 : x ≤ m) (h2 : y ≤ m) (h3 : z ≤ m) : m = max (max x y) z :=
  Int.le_antisymm (by
    rcases hm with rfl | rfl | rfl
    · exact Int.le_trans (Int.le_max_left _ _) (Int.le_max_left _ _)
    · exact Int.le_trans (Int.le_max_right _ _) (Int.le_max_left _ _)
    · exact Int.le_max_right _ _) (Int.max_le.mpr ⟨Int.max_le.mpr ⟨h1, h2⟩, h3⟩)
theorem min3 {x y z m : Int} (hm : m = x ∨ m = y ∨ m = z) (h1 : m ≤ x) (h2 : m ≤ y) (h3 : m ≤ z) : m = min (min x y) z :=
  Int.le_antisymm (Int.le_min.mpr ⟨Int.le_min.mpr ⟨h1, h2⟩, h3⟩) (by
    rcases hm with rfl | rfl | rfl
    · exact Int.le_trans (Int.min_le_left _ _) (Int.min_le_left _ _)
    · exact Int.le_trans (Int.min_le_left _ _) (Int.min_le_right _ _)
    · exact Int.min_le_right _ _)
theorem s_bounds (hx : x.natAbs < 2 ^ 40) (hy : y.natAbs < 2 ^ 40) (hz : z.natAbs < 2 ^ 40) (hk : k ≤ 40) : Fd (Gw w mg mb) 7 931 [.lst [.int x, .int y, .int z], .int k] (.bool true) := by
  have b1 : (max (max x y) z).natAbs < 2 ^ 40 := max2 (max2 hx hy) hz
  have b2 : (min (min x y) z).natAbs < 2 ^ 40 := min2 (min2 hx hy) hz
  have hmax := bi_maxL (G := Gw w mg mb) (ns := [x, y, z]) (M := max (max x y) z) (by simp) (fun m hm ha => by
    have h1 := ha x (by simp); have h2 := ha y (by simp); have h3 := ha z (by simp)
    simp only [List.mem_cons, List.not_mem_nil, or_false] at hm
    exact max3 hm h1 h2 h3)
  have hmin := bi_minL (G := Gw w mg mb) (ns := [x, y, z]) (M := min (min x y) z) (by simp) (fun m hm ha => by
    have h1 := ha x (by simp); have h2 := ha y (by simp); have h3 := ha z (by simp)
    simp only [List.mem_cons, List.not_mem_nil, or_false] at hm
    exact min3 hm h1 h2 h3)
  refine fnC_intro ok_law_bounds_right rfl fun A L h₀ => ?_
  conv => arg 4; whnf
  refine es_cons (es_comp 1 rfl (ds := [.int x, .int y, .int z]) (es := [.int (LB x k), .int (LB y k), .int (LB z k)]) (cells := [("s", some (.int k))]) (cl := [("s", L + 1)]) (compOk (by kernel_rfl) (by kernel_rfl) (by kernel_rfl) (by kernel_rfl) (by kernel_rfl) ?_) (lv 0) rfl (by simp) ?_ ?_ ?_ (by kernel_rfl)) ?_
  · intro p hp
    rw [List.mem_singleton] at hp
    subst hp
    exact ⟨List.Mem.head _, rfl, ⟨_, rfl, rfl⟩, by first | exact .inl (by kernel_rfl) | exact .inr ⟨by kernel_rfl, by kernel_rfl⟩⟩
  · intro d hd
    simp only [List.mem_cons, List.not_mem_nil, or_false] at hd
    rcases hd with rfl | rfl | rfl <;> rfl
  · intro d hd
    simp only [List.mem_cons, List.not_mem_nil, or_false] at hd
    rcases hd with rfl | rfl | rfl <;> exact .flat _ rfl
  · intro C hs j d e _ _ _ h1 h2
    match j, h1, h2 with
    | 0, h1, h2 => cases h1; cases h2; exact (cl (gv g_law_bits) (ea_cons (lv 0) (ea_cons (ev_cell 0 rfl (by kernel_rfl)) ea_nil)) (s_bits hx (by walk_at "om") (by walk_at "om")))
    | 1, h1, h2 => cases h1; cases h2; exact (cl (gv g_law_bits) (ea_cons (lv 0) (ea_cons (ev_cell 0 rfl (by kernel_rfl)) ea_nil)) (s_bits hy (by walk_at "om") (by walk_at "om")))
    | 2, h1, h2 => cases h1; cases h2; exact (cl (gv g_law_bits) (ea_cons (lv 0) (ea_cons (ev_cell 0 rfl (by kernel_rfl)) ea_nil)) (s_bits hz (by walk_at "om") (by walk_at "om")))
    | j + 3, h1, _ => cases h1
  refine es_if (eb_or (eb_cmp (cl (gv g_math_max) (ea_cons ev_none (ea_cons ev_none (ea_cons (lv 1) ea_nil))) (c_max hx hy hz hk)) (cl (gv g_law_bits) (ea_cons (clB (bv b_max) (ea_cons (lv 0) ea_nil) hmax) (ea_cons (ev_cell 0 rfl (by kernel_rfl)) ea_nil)) (s_bits b1 (by walk_at "om") (by walk_at "om"))) cmp_ne rfl).eb (fun _ => (eb_or (eb_cmp (cl (gv g_math_min) (ea_cons ev_none (ea_cons ev_none (ea_cons (lv 1) ea_nil))) (c_min hx hy hz hk)) (cl (gv g_law_bits) (ea_cons (clB (bv b_min) (ea_cons (lv 0) ea_nil) hmin) (ea_cons (ev_cell 0 rfl (by kernel_rfl)) ea_nil)) (s_bits b2 (by walk_at "om") (by walk_at "om"))) cmp_ne rfl).eb (fun _ => eb_or_nil)))).eb (fun h1 => ?_) (fun h1 => ?_)
  · exfalso; simp at h1
  · exact es_ret' (ev_and (ev_cmp (cl (gv g_math_max) (ea_cons ev_none (ea_cons ev_none (ea_cons (ev_bin (lv 1) (ev_lst (ea_cons (gv g_NAN) ea_nil)) (bin_catL (by simp))) ea_nil))) (c_maxn hx hy hz hk)) (gv g_NAN) cmp_eq rfl) (fun _ => (ev_bone (ev_cmp (cl (gv g_math_min) (ea_cons ev_none (ea_cons ev_none (ea_cons (ev_bin (ev_lst (ea_cons (gv g_NAN) ea_nil)) (lv 1) (bin_catL (by simp))) ea_nil))) (c_minn hx hy hz hk)) (gv g_NAN) cmp_eq rfl)))) rfl
end

/-! ## powers, roots -/
theorem l_pow {base : Int} {N : Nat} (hb : base.natAbs ≤ 7) (hN : N ≤ 11) : Fd (Gw w mg mb) 7 642 [.none, .none, .lst [.int (MW (if base < 0 then 1 else 0) base.natAbs), .int (MW 0 N)]] (.int (LB (base ^ N) 0)) ∧ (base ^ N).natAbs < 2 ^ 40 := by
  have h1 : base.natAbs ^ N ≤ 7 ^ 11 := Nat.le_trans (Nat.pow_le_pow_left hb N) (Nat.pow_le_pow_right (by decide) hN)
  have h2 : base.natAbs ^ N < 2 ^ 40 := Nat.lt_of_le_of_lt h1 (by decide)
  have e1 : (base ^ N).natAbs = base.natAbs ^ N := Int.natAbs_pow ..
  refine ⟨?_, by rw [e1]; exact h2⟩
  have := s_math_pow (v := .none) (u := .none) (s_power (w := w) (mg := mg) (mb := mb) (g := if base < 0 then 1 else 0) (k := base.natAbs) (N := N) (by split <;> decide) (by split <;> decide) (fun h => if_neg (by walk_at "om")) (by walk_at "om") (by walk_at "om") h2)
  have key : MW (if (if base < 0 then (1 : Int) else 0) = 1 ∧ N % 2 = 1 then 1 else 0) (base.natAbs ^ N) = LB (base ^ N) 0 := by
    have ez : base ^ N = 0 ↔ base.natAbs ^ N = 0 := by rw [← e1]; walk_at "om"
    unfold MW LB
    by_cases h0 : base.natAbs ^ N = 0
    · rw [if_pos h0, if_pos (ez.mpr h0)]
      have hb0 : base.natAbs = 0 := Nat.eq_zero_of_not_pos fun q => by have := Nat.pow_pos (n := N) q; walk_at "om"
      rw [if_neg (fun q => by have := q.1; rw [if_neg (by walk_at "om")] at this; cases this), Int.zero_mul]
    · rw [if_neg h0, if_neg (fun q => h0 (ez.mp q)), e1]
      have sg : (base ^ N < 0) ↔ (base < 0 ∧ N % 2 = 1) := by
        by_cases hn : base < 0
        · have eb : base = -((base.natAbs : Nat) : Int) := by walk_at "om"
          have hp : (0 : Int) < ((base.natAbs : Nat) : Int) ^ N := by
            have : ((base.natAbs ^ N : Nat) : Int) = ((base.natAbs : Nat) : Int) ^ N := by simp
            walk_at "om"
          have parity : ∀ M : Nat, (-((base.natAbs : Nat) : Int)) ^ M = (if M % 2 = 1 then -(((base.natAbs : Nat) : Int) ^ M) else ((base.natAbs : Nat) : Int) ^ M) := by
            intro M
            induction M with
            | zero => simp
            | succ M ih =>
              rw [Int.pow_succ, ih, Int.pow_succ]
              by_cases hM : M % 2 = 1
              · rw [if_pos hM, if_neg (by walk_at "om"), Int.neg_mul_neg]
              · rw [if_neg hM, if_pos (by walk_at "om"), Int.mul_neg]
          rw [eb, parity N]
          constructor
          · intro q
            refine ⟨by walk_at "om", ?_⟩
            by_cases hM : N % 2 = 1
            · exact hM
            · rw [if_neg hM] at q; walk_at "om"
          · intro q
            rw [if_pos q.2]; walk_at "om"
        · constructor
          · intro q
            have : 0 ≤ base ^ N := Int.pow_nonneg (by walk_at "om")
            walk_at "om"
          · intro q; exact absurd q.1 hn
      have e3 : (if base ^ N < 0 then (1 : Int) else 0) = (if (if base < 0 then (1 : Int) else 0) = 1 ∧ N % 2 = 1 then 1 else 0) := by
        by_cases hn : base < 0
        · rw [if_pos hn]
          by_cases hM : N % 2 = 1
          · rw [if_pos (sg.mpr ⟨hn, hM⟩), if_pos ⟨rfl, hM⟩]
          · rw [if_neg (fun q => hM (sg.mp q).2), if_neg (fun q => hM q.2)]
        · rw [if_neg hn, if_neg (fun q => hn (sg.mp q).1), if_neg (fun q => by cases q.1)]
      rw [e3]
      rfl
  rwa [key] at this

theorem l_sqrt {t : Int} {k : Nat} (ht : t.natAbs < 2 ^ 12) (hk : k ≤ 20) : Fd (Gw w mg mb) 6 635 [.none, .none, .lst [.int (LB (t * t) (2 * k))]] (.int (LB (t.natAbs : Int) k)) := by
  refine s_math_sqrt ?_
  by_cases h0 : t = 0
  · subst h0
    exact s_sqrt_0
  · have := s_sqrt_W (w := w) (mg := mg) (mb := mb) (t := t.natAbs) (s := k) (by walk_at "om") ht hk
    have e1 : LB (t * t) (2 * k) = R 0 (t.natAbs * t.natAbs) (-(2 * (k : Int))) := by
      have tt : 0 < t * t := by
        have : 0 < (t.natAbs * t.natAbs : Nat) := Nat.mul_pos (by walk_at "om") (by walk_at "om")
        have e := Int.natAbs_mul_self (a := t)
        walk_at "om"
      unfold LB
      rw [if_neg (by walk_at "om"), if_neg (by walk_at "om"), Int.natAbs_mul]
    have e2 : LB (t.natAbs : Int) k = R 0 t.natAbs (-(k : Int)) := by
      unfold LB
      rw [if_neg (by walk_at "om"), if_neg (by walk_at "om"), Int.natAbs_natCast]
    rw [e1, e2]
    exact this
end
section
variable {w : World} {mg mb : Str → Option Value}

/-! ## counts -/
/-- the law's count and the program's -/
noncomputable def Cl (m c : D) : Prop := (m = .none ∧ c = .none) ∨ ∃ a k : Int, m = .int a ∧ c = .int k ∧ k = min (max a (-1)) 37
noncomputable def CtRes (w : World) (mg mb : Str → Option Value) (d : D) : Prop := ∃ as m c, d = .tup [.lst as, m] ∧ Cnt (Gw w mg mb) as c ∧ Cl m c

theorem whole_MW {a : Int} (ha : a.natAbs < 2 ^ 40) : (if (if a < 0 then (1 : Int) else 0) = 1 then -((a.natAbs : Nat) : Int) else (a.natAbs : Nat)) = a := by
  by_cases h : a < 0
  · rw [if_pos (by rw [if_pos h])]; walk_at "om"
  · rw [if_neg (by rw [if_neg h]; decide)]; walk_at "om"
theorem cnt_of {b a : Int} (ha : a.natAbs < 2 ^ 40) (h : Fd (Gw w mg mb) 5 418 [.int b] (.int (MW (if a < 0 then 1 else 0) a.natAbs))) : Cnt (Gw w mg mb) [.int b] (.int (min (max a (-1)) 37)) := by
  have := s_to_whole_f (w := w) (mg := mg) (mb := mb) (v := .none) (lo := -1) (hi := 36 + 1) (by split <;> decide) (by split <;> decide) ha h
  rw [whole_MW ha] at this
  exact .int _ (s_count_int this)
theorem int_MW {a : Int} (ha : a.natAbs < 2 ^ 40) : Fd (Gw w mg mb) 5 418 [.int (MW (if a < 0 then 1 else 0) a.natAbs)] (.int (MW (if a < 0 then 1 else 0) a.natAbs)) := by
  by_cases h : a = 0
  · subst h
    exact s_to_integer_s (b := 0) (by decide) (.inr (by decide))
  · have := s_to_integer_W (w := w) (mg := mg) (mb := mb) (MW_word (g := if a < 0 then 1 else 0) (k := a.natAbs) (by split <;> decide) (by split <;> decide) (by walk_at "om") ha)
    have e : a.natAbs / 2 ^ (-(0 : Int)).toNat = a.natAbs := Nat.div_one _
    rwa [e] at this
theorem quarter {a x : Int} (ha : a.natAbs < 2 ^ 20) (hx : x = 4 * a + (if 0 ≤ a then 1 else -1)) : Fd (Gw w mg mb) 5 418 [.int (LB x 2)] (.int (MW (if a < 0 then 1 else 0) a.natAbs)) := by
  have h0 : x ≠ 0 := by split at hx <;> walk_at "om"
  have hs : x < 0 ↔ a < 0 := by split at hx <;> walk_at "om"
  have hxa : x.natAbs = 4 * a.natAbs + 1 := by split at hx <;> walk_at "om"
  have W := LB_word (t := x) (k := 2) h0 (by walk_at "om") (by decide)
  have := s_to_integer_W (w := w) (mg := mg) (mb := mb) W
  have e : x.natAbs / 2 ^ (-(-((2 : Nat) : Int))).toNat = a.natAbs := by
    show x.natAbs / 4 = _
    walk_at "om"
  rw [e] at this
  have e2 : (if x < 0 then (1 : Int) else 0) = (if a < 0 then 1 else 0) := by
    by_cases h : a < 0
    · rw [if_pos h, if_pos (hs.mpr h)]
    · rw [if_neg h, if_neg (fun q => h (hs.mp q))]
  rwa [e2] at this

theorem s_count_law {n : Int} : ∃ d, CtRes w mg mb d ∧ Fd (Gw w mg mb) 5 907 [.int n] d := by
  refine fd_ex ok_law_count rfl ?_
  conv => arg 5; whnf
  refine ex_cons (fun i => es_set 1 rfl (ev_bin (lv 0) ev_int (bin_mod (by walk_at "z"))) (fun _ => rfl)) ?_
  refine ex_ifd (fun i => (eb_cmp (lv 1) ev_int cmp_eq rfl).eb) (fun h1 => ?_) (fun h1 => ?_)
  · exact ex_ret (fun i => ev_tup (ea_cons (ev_lst ea_nil) (ea_cons ev_none ea_nil))) ⟨_, _, .none, rfl, .none (s_count_none s_arg_none), .inl ⟨rfl, rfl⟩⟩
  refine ex_ifd (fun i => (eb_cmp (lv 1) ev_int cmp_eq rfl).eb) (fun h2 => ?_) (fun h2 => ?_)
  · exact ex_ret (fun i => ev_tup (ea_cons (ev_lst (ea_cons ev_none ea_nil)) (ea_cons ev_none ea_nil))) ⟨_, _, .none, rfl, .none (s_count_none (s_arg_0 (by decide))), .inl ⟨rfl, rfl⟩⟩
  refine ex_ifd (fun i => (eb_cmp (lv 1) ev_int cmp_eq rfl).eb) (fun h3 => ?_) (fun h3 => ?_)
  · exact ex_ret (fun i => ev_tup (ea_cons (ev_lst (ea_cons (gv g_NAN) ea_nil)) (ea_cons ev_int ea_nil))) ⟨_, _, _, rfl, cnt_of (a := 0) (by decide) (s_to_integer_n (by decide) (by decide)), .inr ⟨0, _, rfl, rfl, rfl⟩⟩
  refine ex_ifd (fun i => (eb_cmp (lv 1) ev_int cmp_eq rfl).eb) (fun h4 => ?_) (fun h4 => ?_)
  · exact ex_ret (fun i => ev_tup (ea_cons (ev_lst (ea_cons (gv g_INF) ea_nil)) (ea_cons ev_int ea_nil))) ⟨_, _, _, rfl, .int _ (s_count_int s_to_whole_inf), .inr ⟨99, _, rfl, rfl, by decide⟩⟩
  refine ex_cons (fun i => es_set 2 rfl (ev_bin (ev_bin (ev_bin (lv 0) ev_int (bin_div (by walk_at "z") (by walk_at "dv"))) ev_int (bin_mod (by walk_at "z"))) ev_int bin_sub) (fun _ => rfl)) ?_
  have m0 : -4 ≤ n / 7 % 46 - 4 := by walk_at "om"
  have m1 : n / 7 % 46 - 4 ≤ 41 := by walk_at "om"
  generalize n / 7 % 46 - 4 = a at *
  refine ex_ifd (fun i => (eb_cmp (lv 1) ev_int cmp_eq rfl).eb) (fun h5 => ?_) (fun h5 => ?_)
  · have hx : ((4 * a + (if decide (0 ≤ a) = true then 1 else -1)).natAbs < 2 ^ 40) := by split <;> walk_at "om"
    refine ex_ret (fun i => ev_tup (ea_cons (ev_lst (ea_cons (cl (gv g_law_bits) (ea_cons (ev_bin (ev_bin ev_int (lv 2) (bin_mul (by walk_at "ml"))) (ev_ifI (eb_cmp (lv 2) ev_int cmp_ge rfl).eb (fun _ => ev_int) (fun _ => (ev_neg ev_int))) bin_add) (ea_cons ev_int ea_nil)) (s_bits hx (by decide) (by decide))) ea_nil)) (ea_cons (lv 2) ea_nil)))
      ⟨_, _, _, rfl, cnt_of (a := a) (by walk_at "om") (quarter (by walk_at "om") (by simp only [decide_eq_true_eq])), .inr ⟨a, _, rfl, rfl, rfl⟩⟩
  · exact ex_ret (fun i => ev_tup (ea_cons (ev_lst (ea_cons (cl (gv g_from_int) (ea_cons (lv 2) ea_nil) (s_from_int (by walk_at "om"))) ea_nil)) (ea_cons (lv 2) ea_nil))) ⟨_, _, _, rfl, cnt_of (a := a) (by walk_at "om") (int_MW (by walk_at "om")), .inr ⟨a, _, rfl, rfl, rfl⟩⟩
end
section
variable {w : World} {mg mb : Str → Option Value}

/-! ## a def with cells that may be left by an exception's catch; a cell bound -/
section
variable {G : Gx} {n : Nat} {a : Addr} {ds : List D} {ps names : List Str} {ix : List (Option Nat)} {cs : List Str} {jx : List (Option Nat)}
theorem fduC_intro {d : D} (K : FnOkC G a ps names ix cs jx) (hl : ps.length = ds.length)
    (h : ∀ (A : Around) (L : Addr) (hb hs : Heap) (outer : List Env), Lf ⟨G, A, envOfC (fdOf G.K a).qualname (fdOf G.K a).scope L a (fdOf G.K a).code, names, cs.zip (jx.map (pickV ds)), n, L, hb, hs⟩ outer →
      ES ⟨G, A, envOfC (fdOf G.K a).qualname (fdOf G.K a).scope L a (fdOf G.K a).code, names, cs.zip (jx.map (pickV ds)), n, L, hb, hs⟩ (ix.map (pickV ds)) [] (bodyOf (fdOf G.K a)) (.ret d)) : Fdu G (n + 1) a ds d := by
  refine ⟨⟨fun hb A s Q E vs outer hh hd hu hfr ff hno H sub sz r k => enterC K hl hh hd hu H sub sz r fun X hX h₁ tk S => ?_⟩, K.isfn⟩
  subst hX
  have hL0 := Heap.get?_none_of_le (h := hb) sz
  refine (h _ _ _ _ _ ⟨Around.frames_deeper hfr, ff, rfl, K.kind, fun env he L hL' => ?_⟩).run _ _ _ S ?_
  · rcases List.mem_cons.mp he with rfl | he
    · cases hL'; exact hL0
    · exact hno env he L hL'
  · intro v h' tk' k' u' rv
    exact k v h' tk' u' k' rv
end

section
variable {X : Cx} {σ : Lo} {outer : List Env}
theorem Lf.lw (F : Lf X outer) : Lw X (X.env :: outer) := ⟨F.fr, fun S => FF.push F.hf F.hk F.ff S, F.no⟩
theorem Lf.cells (F : Lf X outer) (c : List (Str × Option D)) : Lf { X with cells := c } outer := ⟨F.fr, F.ff, F.hf, F.hk, F.no⟩
theorem Lf.lwc (F : Lf X outer) {scope : Scope} {cl : List (Str × Addr)} {cells : List (Str × Option D)} {x : Str} {C : Addr} {hs : Heap} (u : SubU X.hs hs) (hd : ∃ es' ep o, hs.get? X.L = some o ∧ o.data = .dict es' ep) :
    Lw (compCx X scope cl cells x C hs) (X.env :: outer) := by
  refine ⟨F.fr, fun S env he => ?_, F.no⟩
  rcases List.mem_cons.mp he with rfl | he
  · obtain ⟨es', ep, o, e1, e2⟩ := hd
    obtain ⟨sl, e3⟩ := S.us _ _ e1
    exact ⟨by rw [F.hk]; decide, X.L, _, es', ep, F.hf, e3, e2⟩
  · exact ((F.ff.u u).u S.us) env he

theorem e1_if {μ : Mu} {t : Expr} {a b : List Stmt} {pos : Pos} {c : Bool} {σ' : Lo} (ht : EB X σ μ t c) (h1 : c = true → ES X σ μ a (.next σ' μ)) (h2 : c = false → ES X σ μ b (.next σ' μ)) : E1 X σ μ (.If t a b pos) (.next σ' μ) := by
  refine ⟨fun s Q E S p => ?_⟩
  rw [exec_If]
  refine wpAny_bind (wpAny_standAt (wpAny_bind (ht.run s _ E S fun h₁ tk₁ S₁ k₁ => ?_)))
  cases c with
  | true => exact (h1 rfl).run _ Q E S₁ (p.same k₁.ks)
  | false => exact (h2 rfl).run _ Q E S₁ (p.same k₁.ks)

theorem es_cell {x : Str} {e : Expr} {p pos : Pos} {rest : List Stmt} {d r : D} (hx : X.cells = [(x, none)]) (hc : X.env.kindOf x = some .cell) (h : EE X σ [] e d) (fd : d.flat = true)
    (hr : ES { X with cells := [(x, some d)] } σ [] rest (.ret r)) (hs : ∀ env, swapsWith e (some (.Name x p)) pos.line env = pure false) : ES X σ [] (.Assign [.Name x p] e pos :: rest) (.ret r) := by
  refine ⟨fun s Q E S pp => ?_⟩
  refine wpAny_execs_cons (wpAny_Assign_Name (h.run s _ E S fun v h₁ tk₁ S₁ k₁ r₁ => ?_) (hs _))
  obtain ⟨c, o, e1, e2, e3, e4⟩ := S₁.ce (x, none) (by rw [hx]; exact List.Mem.head _)
  refine wpAny_storeName_cell S.ok.fn hc e1 ⟨o, e2, e3⟩ (fun h₂ hcell hsb => ?_)
  obtain ⟨o', f1, f2⟩ := hcell
  obtain ⟨m, F, V⟩ := S₁.fr
  have hcL : c ≠ X.L := by
    rintro rfl
    obtain ⟨o'', es, ep, q1, q2, _⟩ := F.ns
    rw [e2] at q1; cases q1; rw [e3] at q2; cases q2
  have h00 := S₁.ok.dom _ e4
  have kq : Kq h₁ h₂ := fun b ob hsq eb => ⟨ob.slots, (hsb.2 b (fun q => by
    obtain ⟨its, en, hse⟩ := hsq
    rw [q, e2] at eb; cases eb; rw [e3] at hse; cases hse)).trans eb⟩
  have S₂ : St { X with cells := [(x, some d)] } σ [] h₂ := by
    refine ⟨⟨S₁.ok.hp, S₁.ok.ah, S₁.ok.dep, S₁.ok.un, S₁.ok.el, S₁.ok.eg, S₁.ok.eb, S₁.ok.fn, S₁.ok.loc, S₁.ok.nd, fun p hp => ?_, S₁.ok.hsL, S₁.ok.dom⟩,
      ⟨m, ⟨F.ns.extBut hsb.extBut hcL.symm, fun b ob eb => (hsb.2 b (fun q => by rw [q, h00] at eb; cases eb)).trans (F.keep b ob eb), F.above⟩, fun i y d' q1 q2 => ?_⟩, fun p hp => (by cases hp), fun p hp => ?_, fun b ob eb => ?_⟩
    · rw [List.mem_singleton] at hp; subst hp; exact .inl hc
    · obtain ⟨u, hu, ru⟩ := V i y d' q1 q2
      exact ⟨u, hu, ru.kq kq⟩
    · rw [List.mem_singleton] at hp; subst hp
      exact ⟨c, o', e1, f1, v, f2, r₁.flat fd⟩
    · obtain ⟨sl, q⟩ := S₁.us b ob eb
      exact ⟨sl, (hsb.2 b (fun z => by rw [z, e4] at eb; cases eb)).trans q⟩
  exact hr.run { s with heap := h₂, toks := tk₁ } Q E S₂ pp
end

/-! ## what is due -/
inductive Du : D → Prop
  | str (x : Str) : Du (.str x)
  | fail (x y : Str) : Du (.tup [.str x, .str y])
theorem cmp_neQ {G : Gx} {d : D} (h : Du d) : Cmp G .NotEq d d false := by
  cases h with
  | str x => exact cmp_neS
  | fail x y =>
    refine cmp_neT fun d hd => ?_
    simp only [List.mem_cons, List.not_mem_nil, or_false] at hd
    rcases hd with rfl | rfl
    · exact .str _ _
    · exact .str _ _
end
section
variable {w : World} {mg mb : Str → Option Value}

abbrev fails : D := .tup [.str "fails", .str "RangeError"]
abbrev failT : D := .tup [.str "fails", .str "TypeError"]
abbrev edges3 : List Int := [9221120237041090560, 9218868437227405312, 18442240474082181120]

/-- what the law compares, each side -/
structure TW (w : World) (mg mb : Str → Option Value) (b n : Int) (as : List D) (m E d1 d2 d3 d4 : D) : Prop where
  count : Fd (Gw w mg mb) 5 907 [.int n] (.tup [.lst as, m])
  hm : m = .none ∨ ∃ a : Int, m = .int a
  hE : (edges3.any (· == b) = true ∧ E.isNone = false ∧ Fd (Gw w mg mb) 4 748 [.int b] E) ∨ (edges3.any (· == b) = false ∧ E = .none)
  q1 : Du d1
  q2 : Du d2
  q3 : Du d3
  q4 : Du d4
  t1 : Fdu (Gw w mg mb) 12 900 [.ref 858, .int b, .lst as] d1
  t2 : Fdu (Gw w mg mb) 12 900 [.ref 865, .int b, .lst as] d2
  t3 : Fdu (Gw w mg mb) 12 900 [.ref 872, .int b, .lst as] d3
  t4 : Fdu (Gw w mg mb) 12 900 [.ref 879, .int b, .lst as] d4
  w1 : (2 ≤ orN 10 m ∧ orN 10 m ≤ 36 ∧ (orN 10 m = 10 → Fd (Gw w mg mb) 4 748 [.int b] d1) ∧ (orN 10 m ≠ 10 → Fd (Gw w mg mb) 3 678 [.int b, .int (orN 10 m)] d1)) ∨ (¬ (2 ≤ orN 10 m ∧ orN 10 m ≤ 36) ∧ d1 = fails)
  w2 : (0 ≤ orN 0 m ∧ orN 0 m ≤ 20 ∧ Fd (Gw w mg mb) 5 769 [.int b, .int (orN 0 m)] d2) ∨ (¬ (0 ≤ orN 0 m ∧ orN 0 m ≤ 20) ∧ d2 = fails)
  w3 : (E.isNone = false ∧ d3 = E) ∨ (E = .none ∧ ((0 ≤ orN 0 m ∧ orN 0 m ≤ 20 ∧ Fd (Gw w mg mb) 5 783 [.int b, m] d3) ∨ (¬ (0 ≤ orN 0 m ∧ orN 0 m ≤ 20) ∧ d3 = fails)))
  w4 : (m = .none ∧ Fd (Gw w mg mb) 4 748 [.int b] d4) ∨ ∃ a : Int, m = .int a ∧ ((E.isNone = false ∧ d4 = E) ∨ (E = .none ∧ ((1 ≤ a ∧ a ≤ 21 ∧ Fd (Gw w mg mb) 5 790 [.int b, .int a] d4) ∨ (¬ (1 ≤ a ∧ a ≤ 21) ∧ d4 = fails))))

theorem ev_orM {X : Cx} {σ : Lo} {μ : Mu} {t a e : Expr} {p : Pos} {k : Int} {m : D} (hm : m = .none ∨ ∃ a : Int, m = .int a) (ht : EB X σ μ t m.isNone) (ha : EE X σ μ a (.int k)) (he : EE X σ μ e m) : EE X σ μ (.IfExp t a e p) (.int (orN k m)) := by
  rcases hm with rfl | ⟨n, rfl⟩
  · exact ev_if ht (fun _ => ha) (fun q => by cases q)
  · exact ev_if ht (fun q => by cases q) (fun _ => he)

/-- receivers that are no numbers -/
theorem other_x {o : D} (h : Fdx (Gw w mg mb) 9 816 [o] "TypeError") : ∀ (j : Nat) (d e : D), ([.ref 858, .ref 872, .ref 879, .ref 865] : List D)[j]? = some d → ([failT, failT, failT, failT] : List D)[j]? = some e → ∃ a, d = .ref a ∧ e = failT ∧ Fdu (Gw w mg mb) 12 900 [.ref a, o, .lst []] failT := by
  intro j d e h1 h2
  match j, h1, h2 with
  | 0, h1, h2 => cases h1; cases h2; exact ⟨_, rfl, rfl, x_tried rfl (t_number_text h)⟩
  | 1, h1, h2 => cases h1; cases h2; exact ⟨_, rfl, rfl, x_tried rfl (t_number_exponential h)⟩
  | 2, h1, h2 => cases h1; cases h2; exact ⟨_, rfl, rfl, x_tried rfl (t_number_precision h)⟩
  | 3, h1, h2 => cases h1; cases h2; exact ⟨_, rfl, rfl, x_tried rfl (t_number_fixed h)⟩
  | j + 4, h1, _ => cases h1

theorem other_is (n : Int) : ∃ o : D, o.flat = true ∧ Fdx (Gw w mg mb) 9 816 [o] "TypeError" ∧ ∃ j : Nat, n % 3 = j ∧ j < 2 ^ 62 ∧ ([.none, .str "7", .bool true] : List D)[j]? = some o := by
  have h0 := Int.emod_nonneg n (show (3 : Int) ≠ 0 by decide)
  have h1 := Int.emod_lt_of_pos n (show (0 : Int) < 3 by decide)
  rcases (show n % 3 = 0 ∨ n % 3 = 1 ∨ n % 3 = 2 by walk_at "om") with h | h | h
  · exact ⟨_, rfl, x_this_none, 0, h, by decide, rfl⟩
  · exact ⟨_, rfl, x_this_str, 1, h, by decide, rfl⟩
  · exact ⟨_, rfl, x_this_bool, 2, h, by decide, rfl⟩

theorem s_texts {b n : Int} {as : List D} {m E d1 d2 d3 d4 : D} (T : TW w mg mb b n as m E d1 d2 d3 d4) : Fdu (Gw w mg mb) 13 912 [.int b, .int n] (.bool true) := by
  obtain ⟨o, of, ox, oi⟩ := other_is (w := w) (mg := mg) (mb := mb) n
  refine fduC_intro ok_law_texts_right rfl fun A L hb hs outer F => ?_
  have W := F.lw
  conv => arg 4; whnf
  refine es_cons (es_unpack [2, 3] rfl rfl rfl (cl (gv g_law_count) (ea_cons (lv 1) ea_nil) T.count) (fun _ => rfl) (fun _ => rfl)) ?_
  refine es_cons (es_set 4 rfl (ev_if (d := E) (eb_cmp (lv 0) (ev_tup (ea_cons (gv g_NAN) (ea_cons (gv g_INF) (ea_cons (gv g_NEG_INF) ea_nil)))) (cmp_in (ns := edges3)) rfl).eb (fun q => ?_) (fun q => ?_)) (fun _ => rfl)) ?_
  · rcases T.hE with ⟨z1, z2, z3⟩ | ⟨z1, z2⟩
    · exact (cl (gv g_show) (ea_cons (lv 0) ea_nil) z3)
    · rw [z1] at q; cases q
  · rcases T.hE with ⟨z1, z2, z3⟩ | ⟨z1, z2⟩
    · rw [z1] at q; cases q
    · rw [z2]; exact ev_none
  refine es_cons (es_set 5 rfl (ev_orM T.hm (eb_cmp (lv 3) ev_none cmp_is rfl).eb ev_int (lv 3)) (fun _ => rfl)) ?_
  refine es_cons (es_set 6 rfl (ev_tup (ea_cons ev_str (ea_cons ev_str ea_nil))) (fun _ => rfl)) ?_
  refine es_cons (σ' := [some (.int b), some (.int n), some (.lst as), some m, some E, some (.int (orN 10 m)), some d1, none, none, none]) (e1_if (eb_chain ev_int (lv 5) ev_int cmp_le cmp_le rfl).eb (fun h1 => ?_) (fun h1 => ?_)) ?_
  · rw [Bool.and_eq_true, decide_eq_true_eq, decide_eq_true_eq] at h1
    rcases T.w1 with ⟨_, _, z3, z4⟩ | ⟨z1, z2⟩
    · refine es_cons (es_set 6 rfl (ev_if (eb_cmp (lv 5) ev_int cmp_eq rfl).eb (fun q => (cl (gv g_show) (ea_cons (lv 0) ea_nil) (z3 (of_decide_eq_true q)))) (fun q => (cl (gv g_to_radix) (ea_cons (lv 0) (ea_cons (lv 5) ea_nil)) (z4 (of_decide_eq_false q))))) (fun _ => rfl)) ?_
      exact es_nil
    · exact absurd h1 z1
  · rcases T.w1 with ⟨z1, z2, _, _⟩ | ⟨z1, z2⟩
    · rw [decide_eq_true z1, decide_eq_true z2] at h1; cases h1
    · rw [z2]; exact es_nil
  refine es_if (eb_cmp (clU W (gv g_law_tried) (ea_cons (gv g_number_text) (ea_cons (lv 0) (ea_cons (lv 2) ea_nil))) T.t1) (lv 6) (cmp_neQ T.q1) rfl).eb (fun q => by cases q) (fun _ => ?_)
  refine es_cons (es_set 7 rfl (ev_orM T.hm (eb_cmp (lv 3) ev_none cmp_is rfl).eb ev_int (lv 3)) (fun _ => rfl)) ?_
  refine es_cons (es_set 6 rfl (ev_if (d := d2) (eb_chain ev_int (lv 7) ev_int cmp_le cmp_le rfl).eb (fun q => ?_) (fun q => ?_)) (fun _ => rfl)) ?_
  · rw [Bool.and_eq_true, decide_eq_true_eq, decide_eq_true_eq] at q
    rcases T.w2 with ⟨_, _, z3⟩ | ⟨z1, z2⟩
    · exact (cl (gv g_to_fixed) (ea_cons (lv 0) (ea_cons (lv 7) ea_nil)) z3)
    · exact absurd q z1
  · rcases T.w2 with ⟨z1, z2, _⟩ | ⟨z1, z2⟩
    · rw [decide_eq_true z1, decide_eq_true z2] at q; cases q
    · rw [z2]; exact (ev_tup (ea_cons ev_str (ea_cons ev_str ea_nil)))
  refine es_if (eb_cmp (clU W (gv g_law_tried) (ea_cons (gv g_number_fixed) (ea_cons (lv 0) (ea_cons (lv 2) ea_nil))) T.t2) (lv 6) (cmp_neQ T.q2) rfl).eb (fun q => by cases q) (fun _ => ?_)
  refine es_cons (es_set 6 rfl (lv 4) (fun _ => rfl)) ?_
  refine es_cons (σ' := [some (.int b), some (.int n), some (.lst as), some m, some E, some (.int (orN 10 m)), some d3, some (.int (orN 0 m)), none, none]) (e1_if (eb_cmp (lv 4) ev_none cmp_is rfl).eb (fun h1 => ?_) (fun h1 => ?_)) ?_
  · rcases T.w3 with ⟨z1, z2⟩ | ⟨z1, z2⟩
    · rw [z1] at h1; cases h1
    · have key : (m.isNone || (decide (0 ≤ orN 0 m) && decide (orN 0 m ≤ 20))) = decide (0 ≤ orN 0 m ∧ orN 0 m ≤ 20) := by
        rcases T.hm with rfl | ⟨a, rfl⟩
        · rfl
        · simp [D.isNone]
      refine es_cons (es_set 8 rfl (ev_eq (d' := .bool (decide (0 ≤ orN 0 m ∧ orN 0 m ≤ 20))) (ev_or (b := decide (0 ≤ orN 0 m) && decide (orN 0 m ≤ 20)) (ev_cmp (lv 3) ev_none cmp_is rfl) (fun q => ?_)) (by rw [key])) (fun _ => rfl)) ?_
      · rcases T.hm with rfl | ⟨a, rfl⟩
        · cases q
        · exact (ev_bone (ev_chain ev_int (lv 3) ev_int cmp_le cmp_le rfl))
      refine es_cons (es_set 6 rfl (ev_if (d := d3) (eb_name (lv 8)) (fun q => ?_) (fun q => ?_)) (fun _ => rfl)) ?_
      · have q := of_decide_eq_true q
        rcases z2 with ⟨_, _, z5⟩ | ⟨z4, _⟩
        · exact (cl (gv g_to_exponential) (ea_cons (lv 0) (ea_cons (lv 3) ea_nil)) z5)
        · exact absurd q z4
      · have q := of_decide_eq_false q
        rcases z2 with ⟨y1, y2, _⟩ | ⟨_, z5⟩
        · exact absurd ⟨y1, y2⟩ q
        · rw [z5]; exact (ev_tup (ea_cons ev_str (ea_cons ev_str ea_nil)))
      refine es_forget 8 ?_
      exact es_nil
  · rcases T.w3 with ⟨z1, z2⟩ | ⟨z1, z2⟩
    · rw [z2]; exact es_nil
    · rw [z1] at h1; cases h1
  refine es_if (eb_cmp (clU W (gv g_law_tried) (ea_cons (gv g_number_exponential) (ea_cons (lv 0) (ea_cons (lv 2) ea_nil))) T.t3) (lv 6) (cmp_neQ T.q3) rfl).eb (fun q => by cases q) (fun _ => ?_)
  refine es_cons (es_set 6 rfl (lv 4) (fun _ => rfl)) ?_
  refine es_cons (σ' := [some (.int b), some (.int n), some (.lst as), some m, some E, some (.int (orN 10 m)), some d4, some (.int (orN 0 m)), none, none]) (e1_if (eb_cmp (lv 3) ev_none cmp_is rfl).eb (fun h1 => ?_) (fun h1 => ?_)) ?_
  · rcases T.w4 with ⟨z1, z2⟩ | ⟨a, z1, z2⟩
    · refine es_cons (es_set 6 rfl (cl (gv g_show) (ea_cons (lv 0) ea_nil) z2) (fun _ => rfl)) ?_
      exact es_nil
    · rw [z1] at h1; cases h1
  · rcases T.w4 with ⟨z1, z2⟩ | ⟨a, z1, z2⟩
    · rw [z1] at h1; cases h1
    · subst z1
      refine es_if (eb_cmp (lv 4) ev_none cmp_is rfl).eb (fun h2 => ?_) (fun h2 => ?_)
      · rcases z2 with ⟨z3, _⟩ | ⟨z3, z4⟩
        · rw [z3] at h2; cases h2
        · refine es_cons (es_set 6 rfl (ev_if (d := d4) (eb_chain ev_int (lv 3) ev_int cmp_le cmp_le rfl).eb (fun q => ?_) (fun q => ?_)) (fun _ => rfl)) ?_
          · rw [Bool.and_eq_true, decide_eq_true_eq, decide_eq_true_eq] at q
            rcases z4 with ⟨_, _, z5⟩ | ⟨z5, _⟩
            · exact (cl (gv g_to_precision) (ea_cons (lv 0) (ea_cons (lv 3) ea_nil)) z5)
            · exact absurd q z5
          · rcases z4 with ⟨y1, y2, _⟩ | ⟨_, z5⟩
            · rw [decide_eq_true y1, decide_eq_true y2] at q; cases q
            · rw [z5]; exact (ev_tup (ea_cons ev_str (ea_cons ev_str ea_nil)))
          exact es_nil
      · rcases z2 with ⟨_, z4⟩ | ⟨z3, _⟩
        · rw [z4]; exact es_nil
        · rw [z3] at h2; cases h2
  refine es_if (eb_cmp (clU W (gv g_law_tried) (ea_cons (gv g_number_precision) (ea_cons (lv 0) (ea_cons (lv 2) ea_nil))) T.t4) (lv 6) (cmp_neQ T.q4) rfl).eb (fun q => by cases q) (fun _ => ?_)
  refine es_cell rfl (by kernel_rfl) (ev_itemL (ev_lst (ea_cons ev_none (ea_cons ev_str (ea_cons ev_bool ea_nil)))) (ev_bin (lv 1) ev_int (bin_mod (by walk_at "z"))) oi) of ?_ (fun _ => rfl)
  refine es_cons (es_set 9 rfl (ev_lst (ea_cons (gv g_number_text) (ea_cons (gv g_number_exponential) (ea_cons (gv g_number_precision) (ea_cons (gv g_number_fixed) ea_nil))))) (fun _ => rfl)) ?_
  refine es_ret (ev_cmp (ev_comp (ds := [.ref 858, .ref 872, .ref 879, .ref 865]) (es := [failT, failT, failT, failT]) (cells := [("other", some o)]) (cl := [("other", L + 1)]) (compOk (by kernel_rfl) (by kernel_rfl) (by kernel_rfl) (by kernel_rfl) (by kernel_rfl) ?_) (lv 9) rfl (by decide) ?_ ?_ ?_) (ev_bin (ev_lst (ea_cons (ev_tup (ea_cons ev_str (ea_cons ev_str ea_nil))) ea_nil)) ev_int bin_mulL) (cmp_eqL ?_) rfl)
  · intro p hp
    rw [List.mem_singleton] at hp
    subst hp
    exact ⟨List.Mem.head _, rfl, ⟨_, rfl, of⟩, by first | exact .inl (by kernel_rfl) | exact .inr ⟨by kernel_rfl, by kernel_rfl⟩⟩
  · intro d hd
    simp only [List.mem_cons, List.not_mem_nil, or_false] at hd
    rcases hd with rfl | rfl | rfl | rfl <;> rfl
  · intro d hd
    simp only [List.mem_cons, List.not_mem_nil, or_false, or_self] at hd
    subst hd
    refine .tup _ fun d hd => ?_
    simp only [List.mem_cons, List.not_mem_nil, or_false] at hd
    rcases hd with rfl | rfl <;> exact .flat _ rfl
  · intro C hs' j d e hu hdd _ h1 h2
    obtain ⟨a, rfl, rfl, ht⟩ := other_x ox j d e h1 h2
    exact (clU ((F.cells _).lwc hu hdd) (gv g_law_tried) (ea_cons (lv 0) (ea_cons (ev_cell 0 rfl (by kernel_rfl)) (ea_cons (ev_lst ea_nil) ea_nil))) ht)
  · intro d hd
    simp only [List.mem_cons, List.not_mem_nil, or_false, or_self] at hd
    subst hd
    refine .tup 3 _ fun d hd => ?_
    simp only [List.mem_cons, List.not_mem_nil, or_false] at hd
    rcases hd with rfl | rfl
    · exact .str _ _
    · exact .str _ _
end
section
variable {w : World} {mg mb : Str → Option Value}

/-! ## every word, every count -/
theorem Cl.hm {m c : D} (h : Cl m c) : m = .none ∨ ∃ a : Int, m = .int a := by
  rcases h with ⟨h, _⟩ | ⟨a, _, h, _⟩
  · exact .inl h
  · exact .inr ⟨a, h⟩
theorem Cl.eq {m c : D} (h : Cl m c) {k0 lo hi : Int} (hl : -1 < lo) (hh : hi < 37) (hr : lo ≤ orN k0 m ∧ orN k0 m ≤ hi) : c = m := by
  rcases h with ⟨rfl, rfl⟩ | ⟨a, k, rfl, rfl, hk⟩
  · rfl
  · have : k = a := by simp only [orN] at hr; walk_at "om"
    rw [this]
theorem Cl.not {m c : D} (h : Cl m c) {k0 lo hi : Int} (hl : -1 < lo) (hh : hi < 37) (hr : ¬ (lo ≤ orN k0 m ∧ orN k0 m ≤ hi)) : ¬ (lo ≤ orN k0 c ∧ orN k0 c ≤ hi) := by
  rcases h with ⟨rfl, rfl⟩ | ⟨a, k, rfl, rfl, hk⟩
  · exact hr
  · simp only [orN] at hr ⊢; walk_at "om"

section
variable {b : Int}
/-- the parts that every word brings -/
structure Wo (w : World) (mg mb : Str → Option Value) (b : Int) : Prop where
  show_ : ∃ y : Str, Fd (Gw w mg mb) 4 748 [.int b] (.str y)
  radix : ∀ r, 2 ≤ r → r ≤ 36 → ∃ y : Str, Fd (Gw w mg mb) 3 678 [.int b, .int r] (.str y)
  fixed : ∀ n, 0 ≤ n → n ≤ 20 → ∃ y : Str, Fd (Gw w mg mb) 5 769 [.int b, .int n] (.str y)

theorem Wo.one (W : Wo w mg mb b) {as : List D} {m c : D} (hcnt : Cnt (Gw w mg mb) as c) (hcl : Cl m c) : ∃ d1, Du d1 ∧ Fdu (Gw w mg mb) 12 900 [.ref 858, .int b, .lst as] d1 ∧
    ((2 ≤ orN 10 m ∧ orN 10 m ≤ 36 ∧ (orN 10 m = 10 → Fd (Gw w mg mb) 4 748 [.int b] d1) ∧ (orN 10 m ≠ 10 → Fd (Gw w mg mb) 3 678 [.int b, .int (orN 10 m)] d1)) ∨ (¬ (2 ≤ orN 10 m ∧ orN 10 m ≤ 36) ∧ d1 = fails)) := by
  by_cases h : 2 ≤ orN 10 m ∧ orN 10 m ≤ 36
  · have hc := hcl.eq (by decide) (by decide) h
    subst hc
    obtain ⟨y, h1, h2⟩ : ∃ y : Str, (orN 10 c = 10 → Fd (Gw w mg mb) 4 748 [.int b] (.str y)) ∧ (orN 10 c ≠ 10 → Fd (Gw w mg mb) 3 678 [.int b, .int (orN 10 c)] (.str y)) := by
      by_cases h10 : orN 10 c = 10
      · obtain ⟨y, hy⟩ := W.show_
        exact ⟨y, fun _ => hy, fun q => absurd h10 q⟩
      · obtain ⟨y, hy⟩ := W.radix _ h.1 h.2
        exact ⟨y, fun q => absurd q h10, fun _ => hy⟩
    exact ⟨_, .str y, s_tried rfl (s_number_text hcnt (s_in_radix h.1 h.2 h1 h2)), .inl ⟨h.1, h.2, h1, h2⟩⟩
  · exact ⟨_, .fail _ _, x_tried rfl (x_number_text hcnt (x_in_radix (hcl.not (by decide) (by decide) h))), .inr ⟨h, rfl⟩⟩
theorem Wo.two (W : Wo w mg mb b) {as : List D} {m c : D} (hcnt : Cnt (Gw w mg mb) as c) (hcl : Cl m c) : ∃ d2, Du d2 ∧ Fdu (Gw w mg mb) 12 900 [.ref 865, .int b, .lst as] d2 ∧
    ((0 ≤ orN 0 m ∧ orN 0 m ≤ 20 ∧ Fd (Gw w mg mb) 5 769 [.int b, .int (orN 0 m)] d2) ∨ (¬ (0 ≤ orN 0 m ∧ orN 0 m ≤ 20) ∧ d2 = fails)) := by
  by_cases h : 0 ≤ orN 0 m ∧ orN 0 m ≤ 20
  · have hc := hcl.eq (by decide) (by decide) h
    subst hc
    obtain ⟨y, hy⟩ := W.fixed _ h.1 h.2
    exact ⟨_, .str y, s_tried rfl (s_number_fixed hcnt h.1 h.2 hy), .inl ⟨h.1, h.2, hy⟩⟩
  · exact ⟨_, .fail _ _, x_tried rfl (x_number_fixed hcnt (hcl.not (by decide) (by decide) h)), .inr ⟨h, rfl⟩⟩

theorem texts_edge {n : Int} (h0 : 0 ≤ b) (hf : 2047 * 2 ^ 52 ≤ b % 2 ^ 63) (he : edges3.any (· == b) = true) (hr : ∀ r, 2 ≤ r → r ≤ 36 → ∃ y : Str, Fd (Gw w mg mb) 3 678 [.int b, .int r] (.str y)) : Fdu (Gw w mg mb) 13 912 [.int b, .int n] (.bool true) := by
  obtain ⟨d0, ⟨y, rfl, hy⟩, hw⟩ := s_without_some (w := w) (mg := mg) (mb := mb) h0 hf
  have hs := s_show_told hw
  have W : Wo w mg mb b := ⟨⟨y, hs⟩, hr, fun n _ _ => by obtain ⟨d, ⟨z, rfl, _⟩, hz⟩ := s_to_fixed_edge (w := w) (mg := mg) (mb := mb) (n := n) h0 hf; exact ⟨z, hz⟩⟩
  obtain ⟨d, ⟨as, m, c, rfl, hcnt, hcl⟩, hcount⟩ := s_count_law (w := w) (mg := mg) (mb := mb) (n := n)
  obtain ⟨d1, q1, t1, w1⟩ := W.one hcnt hcl
  obtain ⟨d2, q2, t2, w2⟩ := W.two hcnt hcl
  have hp : Fd (Gw w mg mb) 8 879 [.none, .int b, .lst as] (.str y) ∧ ((m = .none ∧ Fd (Gw w mg mb) 4 748 [.int b] (.str y)) ∨ ∃ a : Int, m = .int a) := by
    rcases hcl with ⟨rfl, rfl⟩ | ⟨a, k, rfl, rfl, _⟩
    · exact ⟨s_number_precision_none hcnt.fd hs, .inl ⟨rfl, hs⟩⟩
    · exact ⟨s_number_precision rfl hcnt.fd (s_wp_edge hw), .inr ⟨a, rfl⟩⟩
  refine s_texts (as := as) (m := m) (E := .str y) (d1 := d1) (d2 := d2) (d3 := .str y) (d4 := .str y) ⟨hcount, hcl.hm, .inl ⟨he, rfl, hs⟩, q1, q2, .str y, .str y, t1, t2, s_tried rfl (s_number_exponential rfl hcnt (s_weo_edge hw)), s_tried rfl hp.1, w1, w2, .inl ⟨rfl, rfl⟩, ?_⟩
  rcases hp.2 with h | ⟨a, ha⟩
  · exact .inl h
  · exact .inr ⟨a, ha, .inl ⟨rfl, rfl⟩⟩

theorem texts_fin {n : Int} (h0 : 0 ≤ b) (hf : b % 2 ^ 63 < 2047 * 2 ^ 52) (he : edges3.any (· == b) = false) (W : Wo w mg mb b)
    (hx : ∀ m : D, (m = .none ∨ ∃ k : Int, m = .int k ∧ 0 ≤ k ∧ k ≤ 20) → ∃ y : Str, Fd (Gw w mg mb) 5 783 [.int b, m] (.str y))
    (hp : ∀ k : Int, 1 ≤ k → k ≤ 21 → ∃ y : Str, Fd (Gw w mg mb) 5 790 [.int b, .int k] (.str y)) : Fdu (Gw w mg mb) 13 912 [.int b, .int n] (.bool true) := by
  have hw := s_without_none (w := w) (mg := mg) (mb := mb) h0 hf
  obtain ⟨d, ⟨as, m, c, rfl, hcnt, hcl⟩, hcount⟩ := s_count_law (w := w) (mg := mg) (mb := mb) (n := n)
  obtain ⟨d1, q1, t1, w1⟩ := W.one hcnt hcl
  obtain ⟨d2, q2, t2, w2⟩ := W.two hcnt hcl
  obtain ⟨d3, q3, t3, w3⟩ : ∃ d3, Du d3 ∧ Fdu (Gw w mg mb) 12 900 [.ref 872, .int b, .lst as] d3 ∧ ((0 ≤ orN 0 m ∧ orN 0 m ≤ 20 ∧ Fd (Gw w mg mb) 5 783 [.int b, m] d3) ∨ (¬ (0 ≤ orN 0 m ∧ orN 0 m ≤ 20) ∧ d3 = fails)) := by
    by_cases h : 0 ≤ orN 0 m ∧ orN 0 m ≤ 20
    · have hc := hcl.eq (by decide) (by decide) h
      subst hc
      have hm : c = .none ∨ ∃ k : Int, c = .int k ∧ 0 ≤ k ∧ k ≤ 20 := by
        rcases hcl.hm with rfl | ⟨a, rfl⟩
        · exact .inl rfl
        · exact .inr ⟨a, rfl, h.1, h.2⟩
      obtain ⟨y, hy⟩ := hx c hm
      exact ⟨_, .str y, s_tried rfl (s_number_exponential rfl hcnt (s_weo hw hm hy)), .inl ⟨h.1, h.2, hy⟩⟩
    · have hn := hcl.not (by decide) (by decide) h
      rcases hcl with ⟨rfl, rfl⟩ | ⟨a, k, rfl, rfl, _⟩
      · exact absurd ⟨(by decide : (0 : Int) ≤ 0), (by decide : (0 : Int) ≤ 20)⟩ h
      · exact ⟨_, .fail _ _, x_tried rfl (x_number_exponential hcnt.fd hw hn), .inr ⟨h, rfl⟩⟩
  obtain ⟨d4, q4, t4, w4⟩ : ∃ d4, Du d4 ∧ Fdu (Gw w mg mb) 12 900 [.ref 879, .int b, .lst as] d4 ∧ ((m = .none ∧ Fd (Gw w mg mb) 4 748 [.int b] d4) ∨ ∃ a : Int, m = .int a ∧ ((1 ≤ a ∧ a ≤ 21 ∧ Fd (Gw w mg mb) 5 790 [.int b, .int a] d4) ∨ (¬ (1 ≤ a ∧ a ≤ 21) ∧ d4 = fails))) := by
    rcases hcl with ⟨rfl, rfl⟩ | ⟨a, k, rfl, rfl, hk⟩
    · obtain ⟨y, hy⟩ := W.show_
      exact ⟨_, .str y, s_tried rfl (s_number_precision_none hcnt.fd hy), .inl ⟨rfl, hy⟩⟩
    · by_cases h : 1 ≤ a ∧ a ≤ 21
      · have hka : k = a := by omega +splitDisjunctions
        subst hka
        obtain ⟨y, hy⟩ := hp k h.1 h.2
        exact ⟨_, .str y, s_tried rfl (s_number_precision rfl hcnt.fd (s_wp hw h.1 h.2 hy)), .inr ⟨k, rfl, .inl ⟨h.1, h.2, hy⟩⟩⟩
      · exact ⟨_, .fail _ _, x_tried rfl (x_number_precision hcnt.fd hw (by omega +splitDisjunctions)), .inr ⟨a, rfl, .inr ⟨h, rfl⟩⟩⟩
  refine s_texts (as := as) (m := m) (E := .none) (d1 := d1) (d2 := d2) (d3 := d3) (d4 := d4) ⟨hcount, hcl.hm, .inr ⟨he, rfl⟩, q1, q2, q3, q4, t1, t2, t3, t4, w1, w2, .inr ⟨rfl, w3⟩, ?_⟩
  rcases w4 with h | ⟨a, ha, h⟩
  · exact .inl h
  · exact .inr ⟨a, ha, .inr ⟨rfl, h⟩⟩
end

theorem toS {N : Nat} {n : Nat} {a : Addr} {ds : List D} (h : ∃ d, IsS N d ∧ Fd (Gw w mg mb) n a ds d) : ∃ y : Str, Fd (Gw w mg mb) n a ds (.str y) := by
  obtain ⟨d, ⟨y, rfl, _⟩, hy⟩ := h; exact ⟨y, hy⟩

/-- the words that the law builds -/
theorem texts_LB {t n : Int} {k : Nat} (ht : t.natAbs < 2 ^ 40) (hk : k ≤ 40) : Fdu (Gw w mg mb) 13 912 [.int (LB t k), .int n] (.bool true) := by
  obtain ⟨a1, a2, a3, a4, a5, a6⟩ := LB_abs ht hk
  have he : edges3.any (· == LB t k) = false := by
    simp only [edges3, List.any_cons, List.any_nil, Bool.or_false, Bool.or_eq_false_iff, beq_eq_false_iff_ne]
    refine ⟨?_, ?_, ?_⟩ <;> walk_at "om"
  by_cases h0 : t = 0
  · subst h0
    have e0 : LB 0 k = 0 := rfl
    rw [e0] at he ⊢
    obtain ⟨x, R⟩ := s_ratio_z (w := w) (mg := mg) (mb := mb)
    have hs := s_show_zero (w := w) (mg := mg) (mb := mb)
    exact texts_fin (by decide) (by decide) he ⟨toS hs, fun r _ _ => toS (s_to_radix_zero (by decide) (by decide)), fun n n0 n1 => toS (s_to_fixed_n (by decide) (by decide) R hs n0 n1)⟩ (fun m hm => toS (s_to_exponential_z hm)) (fun k k0 k1 => toS (s_to_precision_n (by decide) (by decide) R (.inl rfl) k0 k1))
  · have W := LB_word h0 ht hk
    obtain ⟨x, t', u, R, t0, u0⟩ := s_ratio_W (w := w) (mg := mg) (mb := mb) W
    have hs := s_show_W (w := w) (mg := mg) (mb := mb) W
    exact texts_fin a1 a3 he ⟨toS hs, fun r r0 r1 => toS (s_to_radix_W W r0 r1), fun n n0 n1 => toS (s_to_fixed_n a1 a3 R hs n0 n1)⟩ (fun m hm => toS (s_to_exponential_W W hm)) (fun k k0 k1 => toS (s_to_precision_n a1 a3 R (.inr ⟨t0, u0⟩) k0 k1))
theorem texts_nan {n : Int} : Fdu (Gw w mg mb) 13 912 [.int 9221120237041090560, .int n] (.bool true) :=
  texts_edge (by decide) (by decide) (by decide) (fun r _ _ => toS (s_to_radix_nan (by decide) (by decide)))
theorem texts_inf {n : Int} : Fdu (Gw w mg mb) 13 912 [.int 9218868437227405312, .int n] (.bool true) :=
  texts_edge (by decide) (by decide) (by decide) (fun r _ _ => toS (s_to_radix_inf (by decide) (by decide)))
theorem texts_ninf {n : Int} : Fdu (Gw w mg mb) 13 912 [.int 18442240474082181120, .int n] (.bool true) :=
  texts_edge (by decide) (by decide) (by decide) (fun r _ _ => toS (s_to_radix_inf (by decide) (by decide)))
end
section
variable {w : World} {mg mb : Str → Option Value}

/-! ## the edges -/
theorem e_max : Fd (Gw w mg mb) 6 647 [.none, .none, .lst []] (.int 18442240474082181120) := s_math_max (u := .none) (ns := []) (by decide) (.nil _)
theorem e_min : Fd (Gw w mg mb) 6 652 [.none, .none, .lst []] (.int 9218868437227405312) := s_math_min (u := .none) (ns := []) (by decide) (.nil _)
theorem e_maxz : Fd (Gw w mg mb) 6 647 [.none, .none, .lst [.int 9223372036854775808, .int 0]] (.int 0) := by
  have h1 := s_max_of (w := w) (mg := mg) (mb := mb) (a := 18442240474082181120) (b := 9223372036854775808) ⟨by decide, by decide, by decide⟩ ⟨by decide, by decide, by decide⟩ (by decide)
  rw [if_neg (by decide +kernel)] at h1
  have h2 := s_max_of_z (w := w) (mg := mg) (mb := mb) (a := 9223372036854775808) (b := 0) (by decide) (by decide) (by decide) (by decide)
  rw [show Builtin.bitAnd 9223372036854775808 0 = 0 by decide +kernel] at h2
  exact s_math_max (u := .none) (ns := [9223372036854775808, 0]) (by decide) (.cons h1 (.cons h2 (.nil _)))
theorem e_minz : Fd (Gw w mg mb) 6 652 [.none, .none, .lst [.int 0, .int 9223372036854775808]] (.int 9223372036854775808) := by
  have h1 := s_min_of (w := w) (mg := mg) (mb := mb) (a := 9218868437227405312) (b := 0) ⟨by decide, by decide, by decide⟩ ⟨by decide, by decide, by decide⟩ (by decide)
  rw [if_neg (by decide +kernel)] at h1
  have h2 := s_min_of_z (w := w) (mg := mg) (mb := mb) (a := 0) (b := 9223372036854775808) (by decide) (by decide) (by decide) (by decide)
  rw [show Builtin.bitOr 0 9223372036854775808 = 9223372036854775808 by decide +kernel] at h2
  exact s_math_min (u := .none) (ns := [0, 9223372036854775808]) (by decide) (.cons h1 (.cons h2 (.nil _)))

theorem bits_pick {t z : Int} {k : Nat} (ht : t.natAbs < 2 ^ 40) (hk : k ≤ 40) : ∃ b : Int, (∃ j : Nat, z % 7 = j ∧ j < 2 ^ 62 ∧ ([.int (LB t k), .int 9221120237041090560, .int 9218868437227405312, .int 18442240474082181120, .int 0, .int (LB t k), .int (LB t k)] : List D)[j]? = some (.int b)) ∧ ∀ n : Int, Fdu (Gw w mg mb) 13 912 [.int b, .int n] (.bool true) := by
  have h0 := Int.emod_nonneg z (show (7 : Int) ≠ 0 by decide)
  have h1 := Int.emod_lt_of_pos z (show (0 : Int) < 7 by decide)
  rcases (show z % 7 = 0 ∨ z % 7 = 1 ∨ z % 7 = 2 ∨ z % 7 = 3 ∨ z % 7 = 4 ∨ z % 7 = 5 ∨ z % 7 = 6 by walk_at "om") with h | h | h | h | h | h | h
  · exact ⟨_, ⟨0, h, by decide, rfl⟩, fun n => texts_LB ht hk⟩
  · exact ⟨_, ⟨1, h, by decide, rfl⟩, fun n => texts_nan⟩
  · exact ⟨_, ⟨2, h, by decide, rfl⟩, fun n => texts_inf⟩
  · exact ⟨_, ⟨3, h, by decide, rfl⟩, fun n => texts_ninf⟩
  · exact ⟨_, ⟨4, h, by decide, rfl⟩, fun n => texts_LB (t := 0) (k := 0) (by decide) (by decide)⟩
  · exact ⟨_, ⟨5, h, by decide, rfl⟩, fun n => texts_LB ht hk⟩
  · exact ⟨_, ⟨6, h, by decide, rfl⟩, fun n => texts_LB ht hk⟩

theorem toMW {n : Nat} (h : n < 2 ^ 53) : Fd (Gw w mg mb) 4 313 [.int (n : Int)] (.int (MW 0 n)) := by
  have := s_from_int (w := w) (mg := mg) (mb := mb) (n := (n : Int)) (by walk_at "om")
  rwa [if_neg (by walk_at "om"), Int.natAbs_natCast] at this

abbrev σl (s : D) (z1 z2 z3 z4 z5 z6 z7 z8 z9 : Option D) : Lo := [some s, z1, z2, z3, z4, z5, z6, z7, z8, z9, none]
theorem two_turns {X : Cx} {b rest : List Stmt} {o : Out} {s : D}
    (turn : ∀ (k : Nat) (z2 z3 z4 z5 z6 z7 z8 z9 : Option D), k ≤ 1 → ∃ y2 y3 y4 y5 y6 y7 y8 y9 : Option D, ES X (σl s (some (.int k)) z2 z3 z4 z5 z6 z7 z8 z9) [] b (.next (σl s (some (.int k)) y2 y3 y4 y5 y6 y7 y8 y9) []))
    (k : ∀ z1 z2 z3 z4 z5 z6 z7 z8 z9 : Option D, ES X (σl s z1 z2 z3 z4 z5 z6 z7 z8 z9) [] rest o) :
    ∃ σ', FC X 1 b ((List.range' 0 2).map fun k => .int (k : Nat)) (σl s none none none none none none none none none) (.next σ' []) ∧ ES X σ' [] rest o := by
  obtain ⟨y2, y3, y4, y5, y6, y7, y8, y9, h1⟩ := turn 0 none none none none none none none none (by decide)
  obtain ⟨x2, x3, x4, x5, x6, x7, x8, x9, h2⟩ := turn 1 y2 y3 y4 y5 y6 y7 y8 y9 (by decide)
  exact ⟨_, FC.step h1 (FC.step h2 (FC.nil _)), k _ _ _ _ _ _ _ _ _⟩

theorem law_body {ns : List Int} (hl : ns.length ≤ 63) {A : Around} {L : Addr} {hb hs : Heap} {outer : List Env} {nm : Str} {fa : Addr} {cd : Value}
    (F : Lf ⟨Gw w mg mb, A, envOf nm (fdOf (Gw w mg mb).K 938).scope L fa cd, ["script", "turn", "a", "b", "n", "top", "s", "bits", "base", "many", "edges"], [], 13, L, hb, hs⟩ outer) :
    ES ⟨Gw w mg mb, A, envOf nm (fdOf (Gw w mg mb).K 938).scope L fa cd, ["script", "turn", "a", "b", "n", "top", "s", "bits", "base", "many", "edges"], [], 13, L, hb, hs⟩
      [some (.lst (ns.map .int)), none, none, none, none, none, none, none, none, none, none] [] (bodyOf (fdOf (Gw w mg mb).K 938)) (.ret (.bool true)) := by
  have W := F.lw
  conv => arg 4; whnf
  refine es_for_range (n := 2) 1 rfl (bv b_range) ev_int (by decide) (two_turns (fun k z2 z3 z4 z5 z6 z7 z8 z9 hk => ?_) (fun z1 z2 z3 z4 z5 z6 z7 z8 z9 => ?_)) (fun _ _ => rfl)
  · have c0 := s_cell (w := w) (mg := mg) (mb := mb) (ns := ns) (k := 3 * k) (by walk_at "om") (by walk_at "om")
    have c1 := s_cell (w := w) (mg := mg) (mb := mb) (ns := ns) (k := 3 * k + 1) (by walk_at "om") (by walk_at "om")
    have c2 := s_cell (w := w) (mg := mg) (mb := mb) (ns := ns) (k := 3 * k + 2) (by walk_at "om") (by walk_at "om")
    rw [show ((3 * k : Nat) : Int) = 3 * (k : Int) by walk_at "om"] at c0
    rw [show ((3 * k + 1 : Nat) : Int) = 3 * (k : Int) + 1 by walk_at "om"] at c1
    rw [show ((3 * k + 2 : Nat) : Int) = 3 * (k : Int) + 2 by walk_at "om"] at c2
    generalize lcell ns (3 * k) = a at c0
    generalize lcell ns (3 * k + 1) = b at c1
    generalize lcell ns (3 * k + 2) = n at c2
    obtain ⟨S, hS, hS8⟩ : ∃ S : Nat, b % 9 = S ∧ S ≤ 8 := ⟨(b % 9).toNat, by walk_at "om", by walk_at "om"⟩
    obtain ⟨N, hN, hN11⟩ : ∃ N : Nat, n % 12 = N ∧ N ≤ 11 := ⟨(n % 12).toNat, by walk_at "om", by walk_at "om"⟩
    obtain ⟨t, ht, ht1⟩ : ∃ t : Int, a % 4001 - 2000 = t ∧ t.natAbs ≤ 2000 := ⟨_, rfl, by walk_at "om"⟩
    obtain ⟨bs, hbs, hbt⟩ := bits_pick (w := w) (mg := mg) (mb := mb) (t := t) (z := b / 9) (k := S) (by walk_at "om") (by walk_at "om")
    obtain ⟨base, hbase, hb7⟩ : ∃ x : Int, a % 15 - 7 = x ∧ x.natAbs ≤ 7 := ⟨_, rfl, by walk_at "om"⟩
    obtain ⟨hpow, hpw⟩ := l_pow (w := w) (mg := mg) (mb := mb) hb7 hN11
    have hsq := l_sqrt (w := w) (mg := mg) (mb := mb) (t := t) (k := S) (by walk_at "om") (by walk_at "om")
    have htt : (t * t).natAbs < 2 ^ 40 := by
      rw [Int.natAbs_mul]
      exact Nat.lt_of_le_of_lt (Nat.mul_le_mul ht1 ht1) (by decide)
    refine ⟨some (.int a), some (.int b), some (.int n), some (.int t), some (.int S), some (.int bs), some (.int base), some (.int N), ?_⟩
    refine es_cons (es_unpackS [2, 3, 4] rfl rfl rfl (ev_tup (ea_cons (cl (gv g_law_cell) (ea_cons (lv 0) (ea_cons (ev_bin ev_int (lv 1) (bin_mul (by walk_at "ml"))) ea_nil)) c0) (ea_cons (cl (gv g_law_cell) (ea_cons (lv 0) (ea_cons (ev_bin (ev_bin ev_int (lv 1) (bin_mul (by walk_at "ml"))) ev_int bin_add) ea_nil)) c1) (ea_cons (cl (gv g_law_cell) (ea_cons (lv 0) (ea_cons (ev_bin (ev_bin ev_int (lv 1) (bin_mul (by walk_at "ml"))) ev_int bin_add) ea_nil)) c2) ea_nil)))) (fun _ => rfl) (by kernel_rfl)) ?_
    refine es_cons (es_unpackS [5, 6] rfl rfl rfl (ev_tup (ea_cons (ev_bin (ev_bin (lv 2) ev_int (bin_mod (by walk_at "z"))) ev_int bin_sub) (ea_cons (ev_bin (lv 3) ev_int (bin_mod (by walk_at "z"))) ea_nil))) (fun _ => rfl) (by kernel_rfl)) ?_
    rw [ht, hS]
    refine es_cons (es_set 7 rfl (ev_itemL (ev_lst (ea_cons (cl (gv g_law_bits) (ea_cons (lv 5) (ea_cons (lv 6) ea_nil)) (s_bits (by walk_at "om") (by walk_at "om") (by walk_at "om"))) (ea_cons (gv g_NAN) (ea_cons (gv g_INF) (ea_cons (gv g_NEG_INF) (ea_cons (gv g_ZERO) (ea_cons (cl (gv g_law_bits) (ea_cons (lv 5) (ea_cons (lv 6) ea_nil)) (s_bits (by walk_at "om") (by walk_at "om") (by walk_at "om"))) (ea_cons (cl (gv g_law_bits) (ea_cons (lv 5) (ea_cons (lv 6) ea_nil)) (s_bits (by walk_at "om") (by walk_at "om") (by walk_at "om"))) ea_nil)))))))) (ev_bin (ev_bin (lv 3) ev_int (bin_div (by walk_at "z") (by walk_at "dv"))) ev_int (bin_mod (by walk_at "z"))) hbs) (fun _ => rfl)) ?_
    refine es_if (eb_or (eb_not (eb_call (clU W (gv g_law_texts_right) (ea_cons (lv 7) (ea_cons (lv 4) ea_nil)) (hbt n)))).eb (fun _ => (eb_or (eb_not (eb_call (cl (gv g_law_wholes_right) (ea_cons (lv 5) (ea_cons (lv 6) ea_nil)) (s_wholes (by walk_at "om") (by walk_at "om"))))).eb (fun _ => eb_or_nil)))).eb (fun h1 => by cases h1) (fun h1 => ?_)
    refine es_if (eb_not (eb_call (cl (gv g_law_bounds_right) (ea_cons (ev_lst (ea_cons (lv 5) (ea_cons (ev_bin (ev_bin (lv 3) ev_int (bin_mod (by walk_at "z"))) ev_int bin_sub) (ea_cons (ev_bin (lv 4) ev_int (bin_mod (by walk_at "z"))) ea_nil)))) (ea_cons (lv 6) ea_nil)) (s_bounds (by walk_at "om") (by walk_at "om") (by walk_at "om") (by walk_at "om"))))).eb (fun h2 => by cases h2) (fun h2 => ?_)
    refine es_cons (es_unpackS [8, 9] rfl rfl rfl (ev_tup (ea_cons (ev_bin (ev_bin (lv 2) ev_int (bin_mod (by walk_at "z"))) ev_int bin_sub) (ea_cons (ev_bin (lv 4) ev_int (bin_mod (by walk_at "z"))) ea_nil))) (fun _ => rfl) (by kernel_rfl)) ?_
    rw [hbase, hN]
    have hib : (Builtin.Int.intBits base : Int) * (N : Int) ≤ 2 ^ 27 := by
      have h3 : Builtin.Int.intBits base ≤ 3 := intBits_le (by walk_at "om")
      have h4 : Builtin.Int.intBits base * N ≤ 3 * 11 := Nat.mul_le_mul h3 hN11
      have e : (Builtin.Int.intBits base : Int) * (N : Int) = ((Builtin.Int.intBits base * N : Nat) : Int) := by simp
      rw [e]; walk_at "om"
    have hbp := bin_pow (G := Gw w mg mb) (a := base) (b := (N : Int)) (by walk_at "om") hib
    rw [Int.toNat_natCast] at hbp
    refine es_ifd (eb_cmp (cl (gv g_math_pow) (ea_cons ev_none (ea_cons ev_none (ea_cons (ev_lst (ea_cons (cl (gv g_from_int) (ea_cons (lv 8) ea_nil) (s_from_int (by walk_at "om"))) (ea_cons (cl (gv g_from_int) (ea_cons (lv 9) ea_nil) (toMW (by walk_at "om"))) ea_nil))) ea_nil))) hpow) (cl (gv g_law_bits) (ea_cons (ev_bin (lv 8) (lv 9) hbp) (ea_cons ev_int ea_nil)) (s_bits hpw (by decide) (by decide))) cmp_ne rfl).eb (fun h3 => absurd rfl h3) (fun h3 => ?_)
    refine es_ifd (eb_cmp (cl (gv g_math_sqrt) (ea_cons ev_none (ea_cons ev_none (ea_cons (ev_lst (ea_cons (cl (gv g_law_bits) (ea_cons (ev_bin (lv 5) (lv 5) (bin_mul (IntMulOk.of_left (intBits_le_64 (by walk_at "om") (by walk_at "om"))))) (ea_cons (ev_bin ev_int (lv 6) (bin_mul (by walk_at "ml"))) ea_nil)) (s_bits htt (by walk_at "om") (by walk_at "om"))) ea_nil)) ea_nil))) hsq) (cl (gv g_law_bits) (ea_cons (clB (bv b_abs) (ea_cons (lv 5) ea_nil) bi_abs) (ea_cons (lv 6) ea_nil)) (s_bits (by walk_at "om") (by walk_at "om") (by walk_at "om"))) cmp_ne rfl).eb (fun h4 => absurd rfl h4) (fun h4 => ?_)
    exact es_nil
  · refine es_cons (es_set 10 rfl (ev_lst (ea_cons (cl (gv g_math_max) (ea_cons ev_none (ea_cons ev_none (ea_cons (ev_lst ea_nil) ea_nil))) e_max) (ea_cons (cl (gv g_math_min) (ea_cons ev_none (ea_cons ev_none (ea_cons (ev_lst ea_nil) ea_nil))) e_min) ea_nil))) (fun _ => rfl)) ?_
    refine es_cons (es_set 10 rfl (ev_bin (lv 10) (ev_lst (ea_cons (cl (gv g_math_max) (ea_cons ev_none (ea_cons ev_none (ea_cons (ev_lst (ea_cons (gv g_NEG_ZERO) (ea_cons (gv g_ZERO) ea_nil))) ea_nil))) e_maxz) (ea_cons (cl (gv g_math_min) (ea_cons ev_none (ea_cons ev_none (ea_cons (ev_lst (ea_cons (gv g_ZERO) (ea_cons (gv g_NEG_ZERO) ea_nil))) ea_nil))) e_minz) ea_nil))) (bin_catL (by simp))) (fun _ => rfl)) ?_
    refine es_ret (ev_cmp (lv 10) (ev_lst (ea_cons (gv g_NEG_INF) (ea_cons (gv g_INF) (ea_cons (gv g_ZERO) (ea_cons (gv g_NEG_ZERO) ea_nil))))) (cmp_eqL ?_) rfl)
    intro d hd
    simp only [List.mem_cons, List.not_mem_nil, or_false] at hd
    rcases hd with rfl | rfl | rfl | rfl <;> exact .int _ _
end
section
variable {w : World} {mg mb : Str → Option Value}

theorem law_run {s₁ : Shared} {h₁ : Heap} {ns : List Int} {a fa : Addr} {vs : List Value} {cd : Value} {nm : Str} {sc : Scope} {body : List Stmt} {m : Str → Option Value} {tk₀ : Nat} {Q : Flow → Shared → Prop} {E : Value → Shared → Prop}
    (hsc : sc = (fdOf (Gw w mg mb).K 938).scope) (hbody : body = bodyOf (fdOf (Gw w mg mb).K 938))
    (H : Hp (Gw w mg mb) s₁.heap) (hl : s₁.heap.IsList a vs.toArray) (hi : IntsAre vs ns) (hlen : ns.length ≤ 63) (F : Fr s₁.heap s₁.heap.objs.size h₁ m) (hm : m "script" = some (.ref a))
    (k : ∀ h' tk, Sub s₁.heap h' → Q (.ret (.bool true)) { s₁ with heap := h', toks := tk }) :
    wpAny (model PySem.Challenge.rw_nt0396_01.row.prog w) (callerA.deeper (envOf nm sc s₁.heap.objs.size fa cd)) (execs body (envOf nm sc s₁.heap.objs.size fa cd)) Q E { s₁ with heap := h₁, toks := tk₀ } := by
  subst hsc hbody
  have K := ok_law (w := w) (mg := mg) (mb := mb)
  have hL0 : s₁.heap.get? s₁.heap.objs.size = none := Heap.get?_none_of_le (Nat.le_refl _)
  have lf : Lf ⟨Gw w mg mb, callerA.deeper (envOf nm (fdOf (Gw w mg mb).K 938).scope s₁.heap.objs.size fa cd), envOf nm (fdOf (Gw w mg mb).K 938).scope s₁.heap.objs.size fa cd, ["script", "turn", "a", "b", "n", "top", "s", "bits", "base", "many", "edges"], [], 13, s₁.heap.objs.size, s₁.heap, s₁.heap⟩ [] :=
    ⟨Around.frames_deeper rfl, (fun e he => by cases he), rfl, K.kind, fun env he L hL' => by
      rw [List.mem_singleton] at he; subst he; cases hL'; exact hL0⟩
  refine (law_body (ns := ns) hlen lf).run { s₁ with heap := h₁, toks := tk₀ } Q E ?_ ?_
  · refine ⟨⟨H, rfl, (show callerA.depth + 1 + 13 < recursionLimit by decide +kernel), (show callerA.units + 3 + 8 * 13 + 20 < cLine by decide +kernel), rfl, rfl, rfl, K.kind, fun x hx => of_decide_eq_true (List.all_eq_true.mp K.loc x hx), K.nd, (fun p hp => by cases hp), hL0, fun b q => q⟩, ⟨m, F, fun i x d e1 e2 => ?_⟩, (fun p hp => by cases hp), (fun p hp => by cases hp), Sub.u F.keep⟩
    match i, e1, e2 with
    | 0, e1, e2 =>
      cases e1; cases e2
      refine ⟨.ref a, hm, ?_⟩
      have hn : ∀ {vs : List Value} {ns : List Int}, IntsAre vs ns → Rvs h₁ vs (ns.map .int) := by
        intro vs ns h
        induction h with
        | nil => exact Rvs.nil _
        | cons n t r ih => exact Rvs.cons (.int ..) ih
      obtain ⟨o, q1, q2⟩ := hl
      exact .lst a vs _ ⟨o, F.keep _ _ q1, q2⟩ (hn hi).1 (hn hi).2
    | 1, _, e2 => cases e2
    | 2, _, e2 => cases e2
    | 3, _, e2 => cases e2
    | 4, _, e2 => cases e2
    | 5, _, e2 => cases e2
    | 6, _, e2 => cases e2
    | 7, _, e2 => cases e2
    | 8, _, e2 => cases e2
    | 9, _, e2 => cases e2
    | 10, _, e2 => cases e2
    | i + 11, e1, _ => cases e1
  · intro v h' tk sub _ r
    rw [r.bool_inv]
    exact k h' tk sub

theorem law_good {cl : Str → Option Addr} {mean : ExcName → Option Value} {args : List WData} {s₁ : Shared} {h' : Heap} {tk : Nat} (hg : s₁.gens = #[]) (sub : Sub s₁.heap h') :
    GoodW PySem.Challenge.rw_nt0396_01.row.claim cl mean args s₁ (.ok (.ret (.bool true))) { s₁ with heap := h', toks := tk } := by
  have hp : PySem.Challenge.rw_nt0396_01.row.claim.post args (.bool true) args = true := by
    show (WShape.has [] (.bool true) .bool && (WTm.eq .res (.lit (.bool true))).holds [] _) = true
    rw [Bool.and_eq_true]
    refine ⟨by rfl, ?_⟩
    have h1 : ∀ e : WCtx, e.res = some (.bool true) → WTm.value [] (.eq .res (.lit (.bool true))) e = some (.bool (same (.bool true) (.bool true))) := by
      intro e he
      simp only [WTm.value, he]
    have h2 : same (WData.bool true) (WData.bool true) = true := by first | rfl | decide | simp [same]
    unfold WTm.holds
    rw [h1 _ rfl, h2]
  exact ⟨.inl ⟨.bool true, .bool true, [], rfl, fun _ => rfl, .bool true, hp, fun _ => ⟨List.nodup_nil, fun a ha => by cases ha⟩⟩, sub, rfl, hg⟩
end
section
theorem hp_of {w : World} {mg mb : Str → Option Value} {h : Heap} {loose : List Str} {mean : ExcName → Option Value} (K : (k0.heap_1 w.params).In h) {p : Program} (T : Top p loose mean mg mb h) (hn : importsNone p = true) : Hp (Gw w mg mb) h :=
  ⟨K, T.g, T.b, T.builtins, T.nolimit, T.nodigits, T.seer hn⟩
end
section
/-! ## the head writes no twins: the names that it would take for them are taken -/
namespace full
theorem tw5381854913813138957 : True := ⟨⟩
theorem tw1396306861701036367 : True := ⟨⟩
theorem tw8317929246273884311 : True := ⟨⟩
theorem tw912229808165834479 : True := ⟨⟩
theorem tw6238324861332237731 : True := ⟨⟩
theorem tw2494876273201302684 : True := ⟨⟩
theorem tw6353484110739849953 : True := ⟨⟩
theorem tw10116231896318920431 : True := ⟨⟩
theorem tw3074867405770681381 : True := ⟨⟩
theorem tw16343299292989808349 : True := ⟨⟩
theorem tw10737930562488058974 : True := ⟨⟩
theorem tw867479500152442623 : True := ⟨⟩
theorem tw8711922013781254711 : True := ⟨⟩
theorem tw10999917518397859550 : True := ⟨⟩
theorem tw11638976440873888969 : True := ⟨⟩
theorem tw7813606124596901338 : True := ⟨⟩
theorem tw3372920989344433049 : True := ⟨⟩
theorem tw2944728298462038992 : True := ⟨⟩
theorem tw14294403719857048185 : True := ⟨⟩
theorem tw376261716764100633 : True := ⟨⟩
theorem tw17267679152123887330 : True := ⟨⟩
theorem tw8394791888478915366 : True := ⟨⟩
theorem tw5925205790368124695 : True := ⟨⟩
theorem tw7737443622625100897 : True := ⟨⟩
theorem tw11012349392956578955 : True := ⟨⟩
theorem tw15811999520534011006 : True := ⟨⟩
theorem tw6266797788551933052 : True := ⟨⟩
theorem tw2990130216542703942 : True := ⟨⟩
theorem tw7665852083740532796 : True := ⟨⟩
theorem tw17893229296603542793 : True := ⟨⟩
theorem tw11485654199138315635 : True := ⟨⟩
theorem tw7243910567644874911 : True := ⟨⟩
theorem tw13185112928865429174 : True := ⟨⟩
theorem tw13144082430288965416 : True := ⟨⟩
theorem tw1574025134456709533 : True := ⟨⟩
theorem tw17798480564593736690 : True := ⟨⟩
theorem tw6925235004681894675 : True := ⟨⟩
theorem tw9463699770342788589 : True := ⟨⟩
theorem tw1190904048939085871 : True := ⟨⟩
theorem tw702965199726829560 : True := ⟨⟩
theorem tw9676820491878665511 : True := ⟨⟩
theorem tw15858412657240618706 : True := ⟨⟩
theorem tw14826869116431125520 : True := ⟨⟩
theorem tw11663832653172272281 : True := ⟨⟩
theorem tw18000089199079940667 : True := ⟨⟩
theorem tw716534308969972359 : True := ⟨⟩
theorem tw14885632909798601022 : True := ⟨⟩
theorem tw8087204793110855947 : True := ⟨⟩
theorem tw2852006377908092607 : True := ⟨⟩
theorem tw16065959130527363246 : True := ⟨⟩
theorem tw10169622171864806665 : True := ⟨⟩
theorem tw12209861775083836534 : True := ⟨⟩
theorem tw15537054207046128594 : True := ⟨⟩
theorem tw13724232737156196217 : True := ⟨⟩
theorem tw6920258544493655085 : True := ⟨⟩
theorem tw5544772742947588388 : True := ⟨⟩
theorem tw9367510186574277660 : True := ⟨⟩
theorem tw4892191247594080840 : True := ⟨⟩
theorem tw16205347668397115748 : True := ⟨⟩
theorem tw732867316064127185 : True := ⟨⟩
theorem tw17422715905552211546 : True := ⟨⟩
theorem tw10289159785192752064 : True := ⟨⟩
theorem tw17703782300220347972 : True := ⟨⟩
theorem tw12430000426737808289 : True := ⟨⟩
theorem tw14141463827536537206 : True := ⟨⟩
theorem tw16594439816569451990 : True := ⟨⟩
theorem tw11493576384789067057 : True := ⟨⟩
theorem tw11572309708020545144 : True := ⟨⟩
theorem tw10654203438237487823 : True := ⟨⟩
theorem tw10753861260644461492 : True := ⟨⟩
theorem tw6486019159615943264 : True := ⟨⟩
theorem tw12572964050949358182 : True := ⟨⟩
theorem tw1211063515210521810 : True := ⟨⟩
theorem tw2349605129697969679 : True := ⟨⟩
theorem tw4252678805798429035 : True := ⟨⟩
theorem tw8206991428424547384 : True := ⟨⟩
theorem tw10870253052197608064 : True := ⟨⟩
theorem tw12417339414431612926 : True := ⟨⟩
theorem tw10690100743018327797 : True := ⟨⟩
theorem tw17688629526809211790 : True := ⟨⟩
theorem tw9653290947008587659 : True := ⟨⟩
theorem tw9884993627858349568 : True := ⟨⟩
theorem tw14385243217120903012 : True := ⟨⟩
theorem tw13344701976201838940 : True := ⟨⟩
theorem tw15625747840792060359 : True := ⟨⟩
theorem tw8217698424225253309 : True := ⟨⟩
theorem tw9697011034788594424 : True := ⟨⟩
theorem tw4352307031798623991 : True := ⟨⟩
theorem tw2012920529542416607 : True := ⟨⟩
theorem tw7294856500372946289 : True := ⟨⟩
theorem tw7662445631793451198 : True := ⟨⟩
theorem tw9718386564233898127 : True := ⟨⟩
theorem tw3961885251437331981 : True := ⟨⟩
theorem tw14133995448070676212 : True := ⟨⟩
theorem tw10579768551346324838 : True := ⟨⟩
theorem tw4567572250574039462 : True := ⟨⟩
theorem tw16720181133801578465 : True := ⟨⟩
theorem tw16679832315498805117 : True := ⟨⟩
theorem tw14149004962498151908 : True := ⟨⟩
theorem tw16969604304810760469 : True := ⟨⟩
theorem tw8603230625631601248 : True := ⟨⟩
theorem tw4889209172316861123 : True := ⟨⟩
theorem tw661105218455598305 : True := ⟨⟩
theorem tw7736349363400490797 : True := ⟨⟩
theorem tw2591734982429093664 : True := ⟨⟩
theorem tw12120921201514345242 : True := ⟨⟩
theorem tw17375891826979578984 : True := ⟨⟩
theorem tw13164010386685821392 : True := ⟨⟩
theorem tw17341659322105601730 : True := ⟨⟩
theorem tw9989504048551468567 : True := ⟨⟩
theorem tw18333262868939490472 : True := ⟨⟩
theorem tw13757378850800150669 : True := ⟨⟩
theorem tw6049194144309326838 : True := ⟨⟩
theorem tw14563928473693663315 : True := ⟨⟩
theorem tw15365972864339695236 : True := ⟨⟩
theorem tw6620067775542519237 : True := ⟨⟩
theorem tw9090814584095381634 : True := ⟨⟩
theorem tw13251965095721640271 : True := ⟨⟩
theorem tw6240018614722566428 : True := ⟨⟩
theorem tw16094889608958366657 : True := ⟨⟩
theorem tw12071708899648606223 : True := ⟨⟩
theorem tw11958570473984917736 : True := ⟨⟩
theorem tw14097374405943638244 : True := ⟨⟩
theorem tw13697712236162967294 : True := ⟨⟩
theorem tw18299666583829004268 : True := ⟨⟩
theorem tw13511677375890366468 : True := ⟨⟩
theorem tw10336513127204130116 : True := ⟨⟩
theorem tw8262720897703384389 : True := ⟨⟩
theorem tw17338747002267288062 : True := ⟨⟩
theorem tw9039653459481289975 : True := ⟨⟩
theorem tw8712178595889190699 : True := ⟨⟩
theorem tw1993434756958257784 : True := ⟨⟩
theorem tw2128767186505223983 : True := ⟨⟩
theorem tw6445740039160268759 : True := ⟨⟩
theorem tw10943123321615187933 : True := ⟨⟩
theorem tw13363460695704816469 : True := ⟨⟩
theorem tw15220913161327982178 : True := ⟨⟩
theorem tw3936555120959827598 : True := ⟨⟩
theorem tw7303645486531224928 : True := ⟨⟩
theorem tw11313476013273395540 : True := ⟨⟩
theorem tw6646130889840701087 : True := ⟨⟩
theorem tw12699127712464507901 : True := ⟨⟩
theorem tw17264974906918413939 : True := ⟨⟩
theorem tw2069758657272074427 : True := ⟨⟩
theorem tw5535878885620693931 : True := ⟨⟩
theorem tw12682972203538691057 : True := ⟨⟩
theorem tw3598115861763484166 : True := ⟨⟩
theorem tw11199851383410481998 : True := ⟨⟩
theorem tw14589873256131906719 : True := ⟨⟩
theorem tw17004943446660451770 : True := ⟨⟩
theorem tw16057783639799137776 : True := ⟨⟩
theorem tw16555859157311820610 : True := ⟨⟩
theorem tw14751614692483622125 : True := ⟨⟩
theorem tw14995295552182904705 : True := ⟨⟩
theorem tw14951004823831939669 : True := ⟨⟩
theorem tw13596732716755994453 : True := ⟨⟩
theorem tw6080365437653941369 : True := ⟨⟩
theorem tw10833839000079978694 : True := ⟨⟩
theorem tw15556424768017227025 : True := ⟨⟩
theorem tw9572124403037091105 : True := ⟨⟩
theorem tw7760846758221951376 : True := ⟨⟩
theorem tw2733898907513404027 : True := ⟨⟩
theorem tw12419947654870774400 : True := ⟨⟩
theorem tw13255975068538222646 : True := ⟨⟩
theorem tw15804540889934666623 : True := ⟨⟩
theorem tw7679247781137425285 : True := ⟨⟩
theorem tw2666927098424499016 : True := ⟨⟩
theorem tw4805669822576718056 : True := ⟨⟩
theorem tw9426729187488167829 : True := ⟨⟩
theorem tw4031268215884047021 : True := ⟨⟩
theorem tw17689474972114599021 : True := ⟨⟩
theorem tw14825795306491955280 : True := ⟨⟩
theorem tw8482612540683590099 : True := ⟨⟩
theorem tw274928295979168278 : True := ⟨⟩
theorem tw398597092986529900 : True := ⟨⟩
theorem tw1880930990523916890 : True := ⟨⟩
theorem tw17055003478023090044 : True := ⟨⟩
theorem tw2980166450680593463 : True := ⟨⟩
theorem tw2389105362481172583 : True := ⟨⟩
theorem tw18355454585526092356 : True := ⟨⟩
theorem tw5149844798478595827 : True := ⟨⟩
theorem tw2990715617431631095 : True := ⟨⟩
theorem tw14403649638648440790 : True := ⟨⟩
theorem tw13413529370484778932 : True := ⟨⟩
theorem tw2770573830885221853 : True := ⟨⟩
theorem tw10522144204028987312 : True := ⟨⟩
theorem tw15061893733373917298 : True := ⟨⟩
theorem tw5759505219088364482 : True := ⟨⟩
theorem tw13818052312932839251 : True := ⟨⟩
theorem tw8855480023314820150 : True := ⟨⟩
theorem tw11706430506499652095 : True := ⟨⟩
theorem tw5966566993688906189 : True := ⟨⟩
theorem tw11327200432211763752 : True := ⟨⟩
theorem tw17723378861867900490 : True := ⟨⟩
theorem tw5422758813169936364 : True := ⟨⟩
theorem tw16758241416206632806 : True := ⟨⟩
theorem tw8664349207377230439 : True := ⟨⟩
theorem tw11080243573434589766 : True := ⟨⟩
theorem tw13635689181921532713 : True := ⟨⟩
theorem tw7951935102366509262 : True := ⟨⟩
theorem tw417895159654752748 : True := ⟨⟩
theorem tw14394617497563192582 : True := ⟨⟩
theorem tw2311659555344668074 : True := ⟨⟩
theorem tw2162528594682109041 : True := ⟨⟩
theorem tw9728912150219517941 : True := ⟨⟩
theorem tw3268744023281791443 : True := ⟨⟩
theorem tw5786081165281747406 : True := ⟨⟩
theorem tw6471808668561041927 : True := ⟨⟩
theorem tw7827417266115643176 : True := ⟨⟩
theorem tw10425936204090789723 : True := ⟨⟩
theorem tw11013502027919801188 : True := ⟨⟩
theorem tw18161255526204805683 : True := ⟨⟩
theorem tw18349740399517581384 : True := ⟨⟩
theorem tw11204276666054605201 : True := ⟨⟩
theorem tw4406416844697833216 : True := ⟨⟩
theorem tw5948280430324124986 : True := ⟨⟩
theorem tw7725613307050697535 : True := ⟨⟩
theorem tw1480872583038545627 : True := ⟨⟩
theorem tw15061924286726874303 : True := ⟨⟩
theorem tw15324466914463080191 : True := ⟨⟩
theorem tw14367917121605154638 : True := ⟨⟩
theorem tw4049127265623074924 : True := ⟨⟩
theorem tw6600477288646320866 : True := ⟨⟩
theorem tw15523430814340932405 : True := ⟨⟩
theorem tw18212191460328714895 : True := ⟨⟩
theorem tw7817904493312662296 : True := ⟨⟩
theorem tw12201420660098112460 : True := ⟨⟩
theorem tw10476952820969954081 : True := ⟨⟩
theorem tw3232044202909569652 : True := ⟨⟩
theorem tw7177737425375975225 : True := ⟨⟩
theorem tw10176065992317995337 : True := ⟨⟩
theorem tw16075942029494575958 : True := ⟨⟩
theorem tw6992569259702089164 : True := ⟨⟩
theorem tw4808179450076648264 : True := ⟨⟩
theorem tw6072008814311701462 : True := ⟨⟩
theorem tw529766649004858842 : True := ⟨⟩
theorem tw15293206088939532066 : True := ⟨⟩
theorem tw16216338415699250113 : True := ⟨⟩
theorem tw14601229177553261327 : True := ⟨⟩
theorem tw15451152587662761239 : True := ⟨⟩
theorem tw11318551758115734711 : True := ⟨⟩
theorem tw2875884781571890325 : True := ⟨⟩
theorem tw6271458312169414215 : True := ⟨⟩
theorem tw5303964818821370564 : True := ⟨⟩
theorem tw15152063728245783042 : True := ⟨⟩
theorem tw10058577574024574364 : True := ⟨⟩
theorem tw4738091453826675227 : True := ⟨⟩
theorem tw11046104375116167685 : True := ⟨⟩
theorem tw7727356423644859386 : True := ⟨⟩
theorem tw12008796502716149832 : True := ⟨⟩
theorem tw10315126547362828959 : True := ⟨⟩
theorem tw2392243291747233188 : True := ⟨⟩
theorem tw9901254358981970422 : True := ⟨⟩
theorem tw5382779993265464898 : True := ⟨⟩
theorem tw17266542466226172174 : True := ⟨⟩
theorem tw18150794118195216262 : True := ⟨⟩
theorem tw392425806844962523 : True := ⟨⟩
theorem tw7745496751089155138 : True := ⟨⟩
theorem tw4744428866162695648 : True := ⟨⟩
theorem tw12878077976065309542 : True := ⟨⟩
theorem tw10721319937860348172 : True := ⟨⟩
theorem tw444383336748282573 : True := ⟨⟩
theorem tw2151402439712508279 : True := ⟨⟩
theorem tw7744629890359268331 : True := ⟨⟩
theorem tw65289015581082023 : True := ⟨⟩
theorem tw7276575812865992436 : True := ⟨⟩
theorem tw14743107697618757539 : True := ⟨⟩
theorem tw15938899008628717000 : True := ⟨⟩
theorem tw5925920040966042947 : True := ⟨⟩
theorem tw2633967428434653502 : True := ⟨⟩
theorem tw11549231204836878072 : True := ⟨⟩
theorem tw7885361186851233067 : True := ⟨⟩
theorem tw1759280185930219272 : True := ⟨⟩
theorem tw14232039422012124685 : True := ⟨⟩
theorem tw10523334804811867281 : True := ⟨⟩
theorem tw10008416791420010333 : True := ⟨⟩
theorem tw1240544587892835771 : True := ⟨⟩
theorem tw13350094170779742733 : True := ⟨⟩
theorem tw2684714846923487648 : True := ⟨⟩
theorem tw9254438948299702855 : True := ⟨⟩
theorem tw211461517061881589 : True := ⟨⟩
theorem tw10365730805864414925 : True := ⟨⟩
theorem tw4061839812228532617 : True := ⟨⟩
theorem tw414191944975207698 : True := ⟨⟩
theorem tw5682047602113002614 : True := ⟨⟩
theorem tw7827235550486974308 : True := ⟨⟩
theorem tw16530862177621653590 : True := ⟨⟩
theorem tw15986973977355863385 : True := ⟨⟩
theorem tw15515674114414527202 : True := ⟨⟩
theorem tw8958678961931773978 : True := ⟨⟩
theorem tw16855738798476364194 : True := ⟨⟩
theorem tw5957365257104054697 : True := ⟨⟩
theorem tw3339634502620544786 : True := ⟨⟩
theorem tw18210081286698975108 : True := ⟨⟩
theorem tw16965897318940482146 : True := ⟨⟩
theorem tw221643357159484495 : True := ⟨⟩
theorem tw4347655280433269075 : True := ⟨⟩
theorem tw4044740327477318330 : True := ⟨⟩
theorem tw13206371902811503275 : True := ⟨⟩
theorem tw16430728454803687029 : True := ⟨⟩
theorem tw17920807653497875221 : True := ⟨⟩
theorem tw15288694770036602499 : True := ⟨⟩
theorem tw12852718221353495838 : True := ⟨⟩
theorem tw9166603564260734233 : True := ⟨⟩
theorem tw3151294536367638112 : True := ⟨⟩
theorem tw16898384207263720307 : True := ⟨⟩
theorem tw895687212428129010 : True := ⟨⟩
theorem tw6736623609300863169 : True := ⟨⟩
theorem tw3963479813436187099 : True := ⟨⟩
theorem tw14646410296433661640 : True := ⟨⟩
theorem tw13109922678641308700 : True := ⟨⟩
theorem tw18398020362020760440 : True := ⟨⟩
theorem tw11122422496487938370 : True := ⟨⟩
theorem tw6163273239907124716 : True := ⟨⟩
theorem tw3668233331926385649 : True := ⟨⟩
theorem tw582376832261475058 : True := ⟨⟩
theorem tw12461475684507043913 : True := ⟨⟩
theorem tw7582897303308423066 : True := ⟨⟩
theorem tw10629293421532910158 : True := ⟨⟩
theorem tw8366604816176576000 : True := ⟨⟩
theorem tw11137380810381734955 : True := ⟨⟩
theorem tw1833952895126055435 : True := ⟨⟩
theorem tw3465840379565336882 : True := ⟨⟩
theorem tw8201836434073664986 : True := ⟨⟩
theorem tw9615258859266979901 : True := ⟨⟩
theorem tw9618513371791378263 : True := ⟨⟩
theorem tw8863991746502703696 : True := ⟨⟩
theorem tw8547043966414234884 : True := ⟨⟩
theorem tw6884248584316782043 : True := ⟨⟩
theorem tw6151997009787390408 : True := ⟨⟩
theorem tw9289601388430287860 : True := ⟨⟩
theorem tw4696907024446595207 : True := ⟨⟩
theorem tw6888438530136737098 : True := ⟨⟩
theorem tw1165471384468526413 : True := ⟨⟩
theorem tw12534646372283597694 : True := ⟨⟩
theorem tw6118717043147430520 : True := ⟨⟩
theorem tw3900135618371658090 : True := ⟨⟩
theorem tw7278752870399042195 : True := ⟨⟩
theorem tw10009032721879618461 : True := ⟨⟩
theorem tw16093713454595483957 : True := ⟨⟩
theorem tw13067464236722708260 : True := ⟨⟩
theorem tw1312699479271247228 : True := ⟨⟩
theorem tw12021370625484554874 : True := ⟨⟩
theorem tw7654592373065313870 : True := ⟨⟩
theorem tw17088433815945018224 : True := ⟨⟩
theorem tw11176473078578959018 : True := ⟨⟩
theorem tw15535244580015237103 : True := ⟨⟩
theorem tw10442752806710989835 : True := ⟨⟩
theorem tw6179000272346577304 : True := ⟨⟩
theorem tw13179644671268689715 : True := ⟨⟩
theorem tw7368405569717055584 : True := ⟨⟩
theorem tw17775034362751476707 : True := ⟨⟩
theorem tw4326231988619314065 : True := ⟨⟩
theorem tw2785345493094400709 : True := ⟨⟩
theorem tw17942676858139727625 : True := ⟨⟩
theorem tw10432563577847127286 : True := ⟨⟩
theorem tw13381362741900151198 : True := ⟨⟩
theorem tw6433780572305707332 : True := ⟨⟩
theorem tw6815140966758413289 : True := ⟨⟩
theorem tw579738225530823024 : True := ⟨⟩
theorem tw14519895646158269138 : True := ⟨⟩
theorem tw9814274041183264533 : True := ⟨⟩
theorem tw10239661803321945758 : True := ⟨⟩
theorem tw14525309893458441384 : True := ⟨⟩
theorem tw8272365368707067837 : True := ⟨⟩
theorem tw6380568671671786600 : True := ⟨⟩
theorem tw398036350331335981 : True := ⟨⟩
theorem tw1073202380426942060 : True := ⟨⟩
theorem tw1242124448493110910 : True := ⟨⟩
theorem tw17886813776507289139 : True := ⟨⟩
theorem tw7158520838589537875 : True := ⟨⟩
theorem tw11144335664311342185 : True := ⟨⟩
theorem tw5459252164308662576 : True := ⟨⟩
theorem tw13445986757845065949 : True := ⟨⟩
theorem tw7808993875735245847 : True := ⟨⟩
theorem tw9198556238453067962 : True := ⟨⟩
theorem tw5492863923959432978 : True := ⟨⟩
theorem tw8394686606706294495 : True := ⟨⟩
theorem tw2761588411073308090 : True := ⟨⟩
theorem tw8704337687631144644 : True := ⟨⟩
theorem tw6944576803641709933 : True := ⟨⟩
theorem tw9710976007127552416 : True := ⟨⟩
theorem tw6672839997719076403 : True := ⟨⟩
theorem tw8269250198085889388 : True := ⟨⟩
theorem tw14966042987864815570 : True := ⟨⟩
theorem tw16207660574818365353 : True := ⟨⟩
theorem tw2154481099389928933 : True := ⟨⟩
theorem tw3551964886583278306 : True := ⟨⟩
theorem tw1788995147439822109 : True := ⟨⟩
theorem tw10238797713556107170 : True := ⟨⟩
theorem tw15759552328865419553 : True := ⟨⟩
theorem tw5752929057913303188 : True := ⟨⟩
theorem tw5900227713041404788 : True := ⟨⟩
theorem tw9675730710353043100 : True := ⟨⟩
theorem tw2750089741090838799 : True := ⟨⟩
theorem tw6168332711559986063 : True := ⟨⟩
theorem tw7711977273581211785 : True := ⟨⟩
theorem tw13360761963981459161 : True := ⟨⟩
theorem tw12144131912423110148 : True := ⟨⟩
theorem tw7029170420720569624 : True := ⟨⟩
theorem tw7681322970769208196 : True := ⟨⟩
theorem tw6254497402431221741 : True := ⟨⟩
theorem tw3365627905827145847 : True := ⟨⟩
theorem tw12092660045476039534 : True := ⟨⟩
theorem tw3618003754243371598 : True := ⟨⟩
theorem tw15509883883418397243 : True := ⟨⟩
theorem tw14307324536994792506 : True := ⟨⟩
theorem tw4886751537986119557 : True := ⟨⟩
theorem tw13134561062308134524 : True := ⟨⟩
theorem tw2459448707246578344 : True := ⟨⟩
theorem tw8696020750585248322 : True := ⟨⟩
theorem tw11431368193745889198 : True := ⟨⟩
theorem tw12719473426314448481 : True := ⟨⟩
theorem tw3088901811664823644 : True := ⟨⟩
theorem tw376458900780205612 : True := ⟨⟩
theorem tw1007651770274241560 : True := ⟨⟩
theorem tw17447608215590237099 : True := ⟨⟩
theorem tw15995421534711684494 : True := ⟨⟩
theorem tw1788857431060369018 : True := ⟨⟩
theorem tw17830452192213131111 : True := ⟨⟩
theorem tw14997944707764041712 : True := ⟨⟩
theorem tw15480787216011216146 : True := ⟨⟩
theorem tw12510887631423993158 : True := ⟨⟩
theorem tw10471768711036345735 : True := ⟨⟩
theorem tw10534337724793769776 : True := ⟨⟩
theorem tw7600221245181993224 : True := ⟨⟩
theorem tw16890319008746387904 : True := ⟨⟩
theorem tw275046140816329677 : True := ⟨⟩
theorem tw2206435800629952415 : True := ⟨⟩
theorem tw3233751410490263057 : True := ⟨⟩
theorem tw11617974664078190034 : True := ⟨⟩
theorem tw6511758891363034882 : True := ⟨⟩
theorem tw14702854824975486415 : True := ⟨⟩
theorem tw11960966076801674058 : True := ⟨⟩
theorem tw10584421571784138710 : True := ⟨⟩
theorem tw12503060336109572684 : True := ⟨⟩
theorem tw13891793165730241541 : True := ⟨⟩
theorem tw12144986747767100084 : True := ⟨⟩
theorem tw16406386440754499247 : True := ⟨⟩
theorem tw7270338063198647466 : True := ⟨⟩
theorem tw11374990017405112653 : True := ⟨⟩
theorem tw3706045208245478433 : True := ⟨⟩
theorem tw3088225400990770666 : True := ⟨⟩
theorem tw15844961553772315823 : True := ⟨⟩
theorem tw2718936930896512573 : True := ⟨⟩
theorem tw15290173765476930018 : True := ⟨⟩
theorem tw8059249218633905642 : True := ⟨⟩
theorem tw10511154541286301077 : True := ⟨⟩
theorem tw8953899766716459607 : True := ⟨⟩
theorem tw16396778489674997278 : True := ⟨⟩
theorem tw12610281555739801507 : True := ⟨⟩
theorem tw5281545322972696055 : True := ⟨⟩
theorem tw9140498229640731200 : True := ⟨⟩
theorem tw12208202903734242416 : True := ⟨⟩
theorem tw11335817611954811831 : True := ⟨⟩
theorem tw15821186061472308147 : True := ⟨⟩
theorem tw7897732228495556491 : True := ⟨⟩
theorem tw14120270291181148060 : True := ⟨⟩
theorem tw15935885622226970858 : True := ⟨⟩
theorem tw17964024066438716674 : True := ⟨⟩
theorem tw12863588239636335212 : True := ⟨⟩
theorem tw2480281153365169192 : True := ⟨⟩
theorem tw8928122229748793854 : True := ⟨⟩
theorem tw9548440600761387106 : True := ⟨⟩
theorem tw18010797887433860209 : True := ⟨⟩
theorem tw9934731439663439108 : True := ⟨⟩
theorem tw10354247096710100850 : True := ⟨⟩
theorem tw15452365573506578488 : True := ⟨⟩
theorem tw6950830894669976437 : True := ⟨⟩
theorem tw9496197420079241877 : True := ⟨⟩
theorem tw438163962170491565 : True := ⟨⟩
theorem tw6168573559755328797 : True := ⟨⟩
theorem tw7468975541173867867 : True := ⟨⟩
theorem tw3932171702704263759 : True := ⟨⟩
theorem tw17083205144533159100 : True := ⟨⟩
theorem tw926665004627461363 : True := ⟨⟩
theorem tw9683306749897131284 : True := ⟨⟩
theorem tw10661490236997358434 : True := ⟨⟩
theorem tw1971805370285896831 : True := ⟨⟩
theorem tw4233175862705278781 : True := ⟨⟩
theorem tw5029900474958705137 : True := ⟨⟩
theorem tw16765867177574344714 : True := ⟨⟩
theorem tw6505780073060590394 : True := ⟨⟩
theorem tw10332953709073718292 : True := ⟨⟩
theorem tw10432167251184287423 : True := ⟨⟩
theorem tw13782818149158672332 : True := ⟨⟩
theorem tw106990320880244632 : True := ⟨⟩
theorem tw17859280768282973325 : True := ⟨⟩
theorem tw9451356423763408455 : True := ⟨⟩
theorem tw829137640712883414 : True := ⟨⟩
theorem tw132380635651168214 : True := ⟨⟩
theorem tw6737487717667376751 : True := ⟨⟩
theorem tw491686898704200280 : True := ⟨⟩
theorem tw5142399540830569293 : True := ⟨⟩
theorem tw4582506014480485374 : True := ⟨⟩
theorem tw9972859611522548149 : True := ⟨⟩
theorem tw9238923429558658967 : True := ⟨⟩
theorem tw383947951034697510 : True := ⟨⟩
theorem tw8526613023930710048 : True := ⟨⟩
theorem tw11627499248073033414 : True := ⟨⟩
theorem tw9394859666319756473 : True := ⟨⟩
theorem tw3624063684437440854 : True := ⟨⟩
theorem tw17006538643867401387 : True := ⟨⟩
theorem tw6945331506978136885 : True := ⟨⟩
theorem tw15097488989620690595 : True := ⟨⟩
theorem tw12844362273350302053 : True := ⟨⟩
theorem tw8012468715259203723 : True := ⟨⟩
theorem tw6987956622839748978 : True := ⟨⟩
theorem tw3740270137518034061 : True := ⟨⟩
theorem tw9862391008574742735 : True := ⟨⟩
theorem tw17063144959226494302 : True := ⟨⟩
theorem tw2939682811138029188 : True := ⟨⟩
theorem tw43657714068975149 : True := ⟨⟩
theorem tw17706707926086942908 : True := ⟨⟩
theorem tw3241348777673902606 : True := ⟨⟩
theorem tw7583380411048987302 : True := ⟨⟩
theorem tw5559972314051584607 : True := ⟨⟩
theorem tw7771383858438082097 : True := ⟨⟩
theorem tw1378293601737743312 : True := ⟨⟩
theorem tw5382154482356644616 : True := ⟨⟩
theorem tw2741824725413431176 : True := ⟨⟩
theorem tw5902624223107052493 : True := ⟨⟩
theorem tw10413282004799045128 : True := ⟨⟩
theorem tw9572926455109737051 : True := ⟨⟩
theorem tw8347074167169030673 : True := ⟨⟩
theorem tw13209120536719424000 : True := ⟨⟩
theorem tw13032759912781447025 : True := ⟨⟩
theorem tw5640564768301766014 : True := ⟨⟩
theorem tw3013778265884040933 : True := ⟨⟩
theorem tw12111438195265452779 : True := ⟨⟩
theorem tw3248810482836435822 : True := ⟨⟩
theorem tw5958515622908158555 : True := ⟨⟩
theorem tw8159950649561579630 : True := ⟨⟩
theorem tw15581366392081216540 : True := ⟨⟩
theorem tw15958254652414447773 : True := ⟨⟩
theorem tw4028268244066776687 : True := ⟨⟩
theorem tw12866165520946526900 : True := ⟨⟩
theorem tw15367370614727720803 : True := ⟨⟩
theorem tw728485175554944950 : True := ⟨⟩
theorem tw359977678727173521 : True := ⟨⟩
theorem tw8260802284686683746 : True := ⟨⟩
theorem tw10276142695885476764 : True := ⟨⟩
theorem tw5649970600902492944 : True := ⟨⟩
theorem tw6353903154690006979 : True := ⟨⟩
theorem tw13451251238728013453 : True := ⟨⟩
theorem tw15268298326545101880 : True := ⟨⟩
theorem tw2409564000126146587 : True := ⟨⟩
theorem tw11643523593308944321 : True := ⟨⟩
theorem tw17021151996723208655 : True := ⟨⟩
theorem tw15697239005586088511 : True := ⟨⟩
theorem tw13559029408818524120 : True := ⟨⟩
theorem tw8661147576924658011 : True := ⟨⟩
theorem tw16704275128045646336 : True := ⟨⟩
theorem tw11058644762703147481 : True := ⟨⟩
theorem tw12255892354302683733 : True := ⟨⟩
theorem tw16986633624805386444 : True := ⟨⟩
theorem tw16453173712834069573 : True := ⟨⟩
theorem tw2687651027649843026 : True := ⟨⟩
theorem tw11481955901431484061 : True := ⟨⟩
theorem tw16756305167927593868 : True := ⟨⟩
theorem tw13759279687748949066 : True := ⟨⟩
theorem tw17872846749081714523 : True := ⟨⟩
theorem tw11991322238839721155 : True := ⟨⟩
theorem tw18412965855138942833 : True := ⟨⟩
theorem tw14656726486706154681 : True := ⟨⟩
theorem tw14375060786841190895 : True := ⟨⟩
theorem tw3468525721586476004 : True := ⟨⟩
theorem tw17041405815162867742 : True := ⟨⟩
theorem tw6510373162558202808 : True := ⟨⟩
theorem tw10809507242827613421 : True := ⟨⟩
theorem tw12027412538450625175 : True := ⟨⟩
theorem tw2244848958201030007 : True := ⟨⟩
theorem tw9139089395123320841 : True := ⟨⟩
theorem tw6039001429123276205 : True := ⟨⟩
theorem tw13089538956251581670 : True := ⟨⟩
theorem tw10230937675458648545 : True := ⟨⟩
theorem tw18437530926342739975 : True := ⟨⟩
theorem tw2029513822980688639 : True := ⟨⟩
theorem tw15462106283470312022 : True := ⟨⟩
theorem tw3306681856425544878 : True := ⟨⟩
theorem tw994780665029339089 : True := ⟨⟩
theorem tw3745775745851017852 : True := ⟨⟩
theorem tw13003184217168895571 : True := ⟨⟩
theorem tw12939965385633400121 : True := ⟨⟩
theorem tw165430905163263743 : True := ⟨⟩
theorem tw11801313611751067712 : True := ⟨⟩
theorem tw827405322894065204 : True := ⟨⟩
theorem tw772483126187244960 : True := ⟨⟩
theorem tw9100448943253286761 : True := ⟨⟩
theorem tw11134226730186933879 : True := ⟨⟩
theorem tw9156313199517919017 : True := ⟨⟩
theorem tw2997722331482236985 : True := ⟨⟩
theorem tw15418336290411945338 : True := ⟨⟩
theorem tw2783831564080024313 : True := ⟨⟩
theorem tw6487806759144507661 : True := ⟨⟩
theorem tw4513298221108974894 : True := ⟨⟩
theorem tw288003602216956674 : True := ⟨⟩
theorem tw7334018952117317569 : True := ⟨⟩
theorem tw8281933496441389920 : True := ⟨⟩
theorem tw12936766298121429939 : True := ⟨⟩
theorem tw15283277819645416231 : True := ⟨⟩
theorem tw7036635259935406337 : True := ⟨⟩
theorem tw143105089358749514 : True := ⟨⟩
theorem tw9119443224105208468 : True := ⟨⟩
theorem tw18404267516912462305 : True := ⟨⟩
theorem tw13813367531950986914 : True := ⟨⟩
theorem tw15980860363201144961 : True := ⟨⟩
theorem tw10604482177478641833 : True := ⟨⟩
theorem tw10056499329105963953 : True := ⟨⟩
theorem tw16988882297715040682 : True := ⟨⟩
theorem tw16829932132894167924 : True := ⟨⟩
theorem tw14583504423029578499 : True := ⟨⟩
theorem tw9552271680023948478 : True := ⟨⟩
theorem tw3786244776424743550 : True := ⟨⟩
theorem tw11162067552446570394 : True := ⟨⟩
theorem tw13653694098501829152 : True := ⟨⟩
theorem tw17097892936307112664 : True := ⟨⟩
theorem tw18383290037199304185 : True := ⟨⟩
theorem tw7725852450853088106 : True := ⟨⟩
theorem tw15412157324549462484 : True := ⟨⟩
theorem tw16971537580064357284 : True := ⟨⟩
theorem tw4681382780143496710 : True := ⟨⟩
theorem tw9815686384807640418 : True := ⟨⟩
theorem tw5764663605320308002 : True := ⟨⟩
theorem tw10593878964481296846 : True := ⟨⟩
theorem tw8052595293647460761 : True := ⟨⟩
theorem tw145990821529289147 : True := ⟨⟩
theorem tw14509785024445358600 : True := ⟨⟩
theorem tw4642672737865272948 : True := ⟨⟩
theorem tw6383807621786587337 : True := ⟨⟩
theorem tw17264425413537265778 : True := ⟨⟩
theorem tw15753660228751780239 : True := ⟨⟩
theorem tw728808678513511387 : True := ⟨⟩
theorem tw5552417153262058099 : True := ⟨⟩
theorem tw2351476228824759484 : True := ⟨⟩
theorem tw10281146440700975944 : True := ⟨⟩
theorem tw3975070970998826763 : True := ⟨⟩
theorem tw11976126746670256663 : True := ⟨⟩
theorem tw15433320298288961268 : True := ⟨⟩
theorem tw1692393971649347099 : True := ⟨⟩
theorem tw2713431927746915375 : True := ⟨⟩
theorem tw7352280005229127560 : True := ⟨⟩
theorem tw45118266164028613 : True := ⟨⟩
theorem tw1115418570975660800 : True := ⟨⟩
theorem tw16526891771680655541 : True := ⟨⟩
theorem tw4072332831701676337 : True := ⟨⟩
theorem tw10247602507329482070 : True := ⟨⟩
theorem tw14777634218402992645 : True := ⟨⟩
theorem tw9651094416633368831 : True := ⟨⟩
theorem tw11455041488201763911 : True := ⟨⟩
theorem tw15469925966209886384 : True := ⟨⟩
theorem tw3640844756492866081 : True := ⟨⟩
theorem tw1620356131061619684 : True := ⟨⟩
theorem tw6269847253202045367 : True := ⟨⟩
theorem tw9109937200557143891 : True := ⟨⟩
theorem tw16653273635397456508 : True := ⟨⟩
theorem tw14495529360049659612 : True := ⟨⟩
theorem tw10802690018409667159 : True := ⟨⟩
theorem tw10287177969812426759 : True := ⟨⟩
theorem tw4942419512718290314 : True := ⟨⟩
theorem tw9306393345165374464 : True := ⟨⟩
theorem tw15350342159714156487 : True := ⟨⟩
theorem tw1595068985472455914 : True := ⟨⟩
theorem tw2491848742953944274 : True := ⟨⟩
theorem tw3038875416167026853 : True := ⟨⟩
theorem tw4407189491337985485 : True := ⟨⟩
theorem tw9945740821884560737 : True := ⟨⟩
theorem tw13329520026186234889 : True := ⟨⟩
theorem tw16470501016270600727 : True := ⟨⟩
theorem tw8727798975118829445 : True := ⟨⟩
theorem tw6693377692901959398 : True := ⟨⟩
theorem tw13981793761973150252 : True := ⟨⟩
theorem tw6578406880063569716 : True := ⟨⟩
theorem tw1481036875763308586 : True := ⟨⟩
theorem tw5318967942925260260 : True := ⟨⟩
theorem tw1383147378799194787 : True := ⟨⟩
theorem tw11105813045900518657 : True := ⟨⟩
theorem tw9050982679812939940 : True := ⟨⟩
theorem tw13997953807341709288 : True := ⟨⟩
theorem tw2987635881553455737 : True := ⟨⟩
theorem tw13762487812849048835 : True := ⟨⟩
theorem tw4433075810336785670 : True := ⟨⟩
theorem tw4408689848161038797 : True := ⟨⟩
theorem tw6017807742902564227 : True := ⟨⟩
theorem tw14206295332752011002 : True := ⟨⟩
theorem tw4479436669638882879 : True := ⟨⟩
theorem tw15330512569051211730 : True := ⟨⟩
theorem tw13781595823811127733 : True := ⟨⟩
theorem tw5605244221767162188 : True := ⟨⟩
theorem tw12450054326623333813 : True := ⟨⟩
theorem tw1783009368245325482 : True := ⟨⟩
theorem tw4898244486502281603 : True := ⟨⟩
theorem tw9969493883102741956 : True := ⟨⟩
theorem tw3578549451088629304 : True := ⟨⟩
theorem tw10642009488065693504 : True := ⟨⟩
theorem tw2522050437675327688 : True := ⟨⟩
theorem tw10844931925146996084 : True := ⟨⟩
theorem tw14526456966242330399 : True := ⟨⟩
theorem tw13438074189258040460 : True := ⟨⟩
theorem tw17521587149243898473 : True := ⟨⟩
theorem tw14886775069414967756 : True := ⟨⟩
theorem tw7502990799200279515 : True := ⟨⟩
theorem tw5515817006942746370 : True := ⟨⟩
theorem tw9501965302210397013 : True := ⟨⟩
theorem tw11860059093440125773 : True := ⟨⟩
theorem tw9651775664248292122 : True := ⟨⟩
theorem tw17779844344646192909 : True := ⟨⟩
theorem tw12119145899500302353 : True := ⟨⟩
theorem tw8641022046185456186 : True := ⟨⟩
theorem tw5485455085527427115 : True := ⟨⟩
theorem tw7330554488292392178 : True := ⟨⟩
theorem tw6252529416910475755 : True := ⟨⟩
theorem tw5262028675629688882 : True := ⟨⟩
theorem tw12823357453537216554 : True := ⟨⟩
theorem tw13620515975340306609 : True := ⟨⟩
theorem tw17859121394194927136 : True := ⟨⟩
theorem tw10145891783726147099 : True := ⟨⟩
theorem tw15272037019508937565 : True := ⟨⟩
theorem tw9318552162443271255 : True := ⟨⟩
theorem tw10516149900677956853 : True := ⟨⟩
theorem tw1488022030305839655 : True := ⟨⟩
theorem tw2677367797798854679 : True := ⟨⟩
theorem tw3253392982715373711 : True := ⟨⟩
theorem tw12982869117074900818 : True := ⟨⟩
theorem tw16357707061858158018 : True := ⟨⟩
theorem tw11306753542195535186 : True := ⟨⟩
theorem tw6661110807353891637 : True := ⟨⟩
theorem tw981313029319505159 : True := ⟨⟩
theorem tw1602364179606879704 : True := ⟨⟩
theorem tw1936204735763332300 : True := ⟨⟩
theorem tw12772254414048710730 : True := ⟨⟩
theorem tw14200908062506579887 : True := ⟨⟩
theorem tw15047928796516962660 : True := ⟨⟩
theorem tw16170088952730137650 : True := ⟨⟩
theorem tw14348219693399971537 : True := ⟨⟩
theorem tw18148427841705444655 : True := ⟨⟩
theorem tw7176941240620659831 : True := ⟨⟩
theorem tw4801053795040911738 : True := ⟨⟩
theorem tw4758085320839813367 : True := ⟨⟩
theorem tw9335899948596713107 : True := ⟨⟩
theorem tw14847834170938763708 : True := ⟨⟩
theorem tw11604558755856002525 : True := ⟨⟩
theorem tw1445059112648093504 : True := ⟨⟩
theorem tw15975226634714023727 : True := ⟨⟩
theorem tw13870468681613673207 : True := ⟨⟩
theorem tw18054720228846032400 : True := ⟨⟩
theorem tw15393170129886022177 : True := ⟨⟩
theorem tw13241706326028335555 : True := ⟨⟩
theorem tw11770025976585266696 : True := ⟨⟩
theorem tw8555167137951496119 : True := ⟨⟩
theorem tw9650495503780286281 : True := ⟨⟩
theorem tw16370189834099632831 : True := ⟨⟩
theorem tw2820222348111201145 : True := ⟨⟩
theorem tw12046564112149392787 : True := ⟨⟩
theorem tw844071922606263108 : True := ⟨⟩
theorem tw5306814988807082372 : True := ⟨⟩
theorem tw5299151075584923807 : True := ⟨⟩
theorem tw8538355635430187452 : True := ⟨⟩
theorem tw8920338183520888455 : True := ⟨⟩
theorem tw4922241323999248071 : True := ⟨⟩
theorem tw8583269857016994393 : True := ⟨⟩
theorem tw11119245907567722280 : True := ⟨⟩
theorem tw1751298133719603269 : True := ⟨⟩
theorem tw14600391498014865401 : True := ⟨⟩
theorem tw14863991564400259061 : True := ⟨⟩
theorem tw13569158690046351532 : True := ⟨⟩
theorem tw910089155631617761 : True := ⟨⟩
theorem tw4259631132810280122 : True := ⟨⟩
theorem tw2157644450794154301 : True := ⟨⟩
theorem tw5572600095482693652 : True := ⟨⟩
theorem tw2116901621578801948 : True := ⟨⟩
theorem tw7858371044714647849 : True := ⟨⟩
theorem tw7285887405374817586 : True := ⟨⟩
theorem tw10863288074602220060 : True := ⟨⟩
theorem tw6806217043689997315 : True := ⟨⟩
theorem tw14191289216015708827 : True := ⟨⟩
theorem tw15162923486527103845 : True := ⟨⟩
theorem tw4588756632338966021 : True := ⟨⟩
theorem tw4284510853618992262 : True := ⟨⟩
theorem tw17522156184548131365 : True := ⟨⟩
theorem tw13146362586607116320 : True := ⟨⟩
theorem tw10730226273432884771 : True := ⟨⟩
theorem tw1902322301833500669 : True := ⟨⟩
theorem tw5598331400474300074 : True := ⟨⟩
theorem tw14531439750028343046 : True := ⟨⟩
theorem tw1952962515098984542 : True := ⟨⟩
theorem tw9376489950559541642 : True := ⟨⟩
theorem tw6796767413565185873 : True := ⟨⟩
theorem tw14542831523720195525 : True := ⟨⟩
theorem tw17728426949844351830 : True := ⟨⟩
theorem tw2364221406584056942 : True := ⟨⟩
theorem tw15437787036485348730 : True := ⟨⟩
theorem tw16890717639972839645 : True := ⟨⟩
theorem tw7357939853148748729 : True := ⟨⟩
theorem tw7802133703671229157 : True := ⟨⟩
theorem tw966360647592167278 : True := ⟨⟩
theorem tw7470269644060718765 : True := ⟨⟩
theorem tw15637387789751887504 : True := ⟨⟩
theorem tw9347283973416524333 : True := ⟨⟩
theorem tw12917158831330009346 : True := ⟨⟩
theorem tw3747859120629907397 : True := ⟨⟩
theorem tw1721419396641387041 : True := ⟨⟩
theorem tw9237929757636837347 : True := ⟨⟩
theorem tw14341872556581815734 : True := ⟨⟩
theorem tw1347417217181136684 : True := ⟨⟩
theorem tw500728656885178000 : True := ⟨⟩
theorem tw13491504148271645664 : True := ⟨⟩
theorem tw7859446903797509851 : True := ⟨⟩
theorem tw10322875297233290355 : True := ⟨⟩
theorem tw9483980889744135946 : True := ⟨⟩
theorem tw7614789805051118295 : True := ⟨⟩
theorem tw18434519125666395632 : True := ⟨⟩
theorem tw4488091851776021926 : True := ⟨⟩
theorem tw7016245734926695460 : True := ⟨⟩
theorem tw6721624316833673294 : True := ⟨⟩
theorem tw2410138200917776410 : True := ⟨⟩
theorem tw8590215400870802619 : True := ⟨⟩
theorem tw5440705099438072792 : True := ⟨⟩
theorem tw16502527252725628780 : True := ⟨⟩
theorem tw2986636463211662978 : True := ⟨⟩
theorem tw11567310071292191505 : True := ⟨⟩
theorem tw11897589788634096648 : True := ⟨⟩
theorem tw13781037076589254139 : True := ⟨⟩
theorem tw6136364972851432951 : True := ⟨⟩
theorem tw561093364987057203 : True := ⟨⟩
theorem tw17572726677915808834 : True := ⟨⟩
theorem tw8929341600129259029 : True := ⟨⟩
theorem tw18060722374365073652 : True := ⟨⟩
theorem tw2917376890210652378 : True := ⟨⟩
theorem tw3815674843551471544 : True := ⟨⟩
theorem tw10374328725024101889 : True := ⟨⟩
theorem tw8861808758298424848 : True := ⟨⟩
theorem tw10185367489927245063 : True := ⟨⟩
theorem tw54126739734609061 : True := ⟨⟩
theorem tw17412100019260648167 : True := ⟨⟩
theorem tw12333513105319175015 : True := ⟨⟩
theorem tw1130713823133278865 : True := ⟨⟩
theorem tw18262607726100142148 : True := ⟨⟩
theorem tw13238434792077751742 : True := ⟨⟩
theorem tw9682153519857869694 : True := ⟨⟩
theorem tw7594981567306676448 : True := ⟨⟩
theorem tw9773635340037679864 : True := ⟨⟩
theorem tw12780564329059617178 : True := ⟨⟩
theorem tw828614517241523461 : True := ⟨⟩
theorem tw7027466171312677327 : True := ⟨⟩
theorem tw6721020816873126185 : True := ⟨⟩
theorem tw1290472829954524119 : True := ⟨⟩
theorem tw3460321230079709275 : True := ⟨⟩
theorem tw3156503837683242873 : True := ⟨⟩
theorem tw16765017190783481826 : True := ⟨⟩
theorem tw12697596403617020856 : True := ⟨⟩
theorem tw9127533695893081986 : True := ⟨⟩
theorem tw10115297144720146935 : True := ⟨⟩
theorem tw995775220138220913 : True := ⟨⟩
end full
set_option maxHeartbeats 8000000 in
set_option Elab.async true in
theorem full : PySem.Challenge.rw_nt0396_01.Holds := by
  w_on
  o_law
  o_head (kHook k0.heap_1 [2, 3, 15, 17, 18, 20, 21, 29, 30, 31, 32, 33, 43, 45, 46, 48, 49, 50, 51, 52, 53, 54, 57, 64, 66, 67, 69, 70, 71, 72, 73, 74, 77, 79, 80, 82, 83, 84, 86, 87, 89, 90, 91, 93, 94, 96, 97, 98, 100, 101, 103, 104, 105, 112, 114, 115, 117, 118, 119, 121, 122, 124, 125, 126, 128, 129, 131, 132, 133, 135, 136, 138, 139, 140, 142, 143, 145, 146, 147, 149, 150, 152, 153, 154, 156, 157, 159, 160, 161, 162, 164, 165, 167, 168, 169, 170, 171, 174, 176, 177, 179, 180, 181, 183, 184, 186, 187, 188, 190, 191, 193, 194, 195, 197, 198, 200, 201, 202, 204, 205, 207, 208, 209, 211, 212, 214, 215, 216, 218, 219, 221, 222, 223, 225, 226, 228, 229, 230, 232, 233, 235, 236, 237, 239, 240, 242, 243, 244, 246, 247, 249, 250, 251, 253, 254, 256, 257, 258, 260, 261, 263, 264, 265, 267, 268, 270, 271, 272, 274, 275, 277, 278, 279, 281, 282, 284, 285, 286, 288, 289, 291, 292, 293, 295, 296, 298, 299, 300, 302, 303, 305, 306, 307, 309, 310, 312, 313, 314, 316, 317, 319, 320, 321, 323, 324, 326, 327, 328, 330, 331, 333, 334, 335, 337, 338, 340, 341, 342, 344, 345, 347, 348, 349, 351, 352, 354, 355, 356, 358, 359, 361, 362, 363, 365, 366, 368, 369, 370, 372, 373, 375, 376, 377, 379, 380, 382, 383, 384, 386, 387, 389, 390, 391, 393, 394, 396, 397, 398, 400, 401, 403, 404, 405, 407, 408, 410, 411, 412, 414, 415, 417, 418, 419, 421, 422, 424, 425, 426, 428, 429, 431, 432, 433, 435, 436, 438, 439, 440, 442, 443, 445, 446, 447, 449, 450, 452, 453, 454, 456, 457, 459, 460, 461, 463, 464, 466, 467, 468, 470, 471, 473, 474, 475, 477, 478, 480, 481, 482, 484, 485, 487, 488, 489, 491, 492, 494, 495, 496, 498, 499, 501, 502, 503, 505, 506, 508, 509, 510, 512, 513, 515, 516, 517, 519, 520, 522, 523, 524, 526, 527, 529, 530, 531, 533, 534, 536, 537, 538, 540, 541, 543, 544, 545, 547, 548, 550, 551, 552, 554, 555, 557, 558, 559, 561, 562, 564, 565, 566, 568, 569, 571, 572, 573, 575, 576, 578, 579, 580, 582, 583, 585, 586, 587, 589, 590, 592, 593, 594, 596, 597, 599, 600, 601, 603, 604, 606, 607, 608, 610, 611, 613, 614, 615, 617, 618, 620, 621, 622, 624, 625, 627, 628, 629, 631, 632, 634, 635, 636, 638, 639, 641, 642, 643, 646, 647, 648, 651, 652, 653, 655, 656, 658, 659, 660, 662, 663, 665, 666, 667, 669, 670, 672, 673, 674, 677, 678, 679, 681, 682, 684, 685, 686, 688, 689, 691, 692, 693, 695, 696, 698, 699, 700, 702, 703, 705, 706, 707, 709, 710, 712, 713, 714, 716, 717, 719, 720, 721, 723, 724, 726, 727, 728, 730, 731, 733, 734, 735, 737, 738, 740, 741, 742, 744, 745, 747, 748, 749, 751, 752, 754, 755, 756, 758, 759, 761, 762, 763, 765, 766, 768, 769, 770, 772, 773, 775, 776, 777, 779, 780, 782, 783, 784, 786, 787, 789, 790, 791, 798, 800, 801, 803, 804, 805, 806, 807, 810, 812, 813, 815, 816, 817, 819, 820, 822, 823, 824, 826, 827, 829, 830, 831, 833, 834, 836, 837, 838, 840, 841, 843, 844, 845, 847, 848, 850, 851, 852, 854, 855, 857, 858, 859, 861, 862, 864, 865, 866, 868, 869, 871, 872, 873, 875, 876, 878, 879, 880, 882, 883, 885, 886, 887, 889, 890, 892, 893, 894, 896, 897, 899, 900, 901, 903, 904, 906, 907, 908, 911, 912, 913, 915, 916, 918, 919, 920, 922, 923, 925, 926, 927, 930, 931, 932, 934, 935, 937, 938] (fun _ => by kernel_rfl))
  case hw => w_witness2
  k_go0
  refine' law_run ?qsc ?qbody ?qH ?ql ?qi ?qlen ?qF ?qm (fun h' tk sub => law_good ?qg sub)
  case qH => exact hp_of (by assumption) (by assumption) (by kernel_rfl)
  case ql => assumption
  case qi => assumption
  case qF => assumption
  case qg => assumption
  case qm => rfl
  case qlen => omega
  case qsc => kernel_rfl
  case qbody => kernel_rfl
end
end Mine
theorem PySem.Challenge.cw_nt0396_01_holds : PySem.Challenge.rw_nt0396_01.Holds :=
  Mine.full
